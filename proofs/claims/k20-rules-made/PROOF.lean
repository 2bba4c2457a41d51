import PyProof.Rows.All
import Wide.All
import OpenK.AllK
import Wide.FinOn
import HandS.ForMost
import HandS.ForExc
import HandS.Wide
import HandS.TupAny
import HandS.TupMul
import HandS.Deep
import HandS.Style
import HandS.SortKw
import HandS.IsInst
import HandS.Strs
import HandS.Flow
import HandS.Defaults
import HandS.Exc
import HandS.ExcOwn
import HandS.Lambda
import KE.KExcSuper
import KE.KExcIs
import HandS.ExcInit
import HandS.ExcValue
import HandS.ExcSuper
import HandS.ExcIs
import HandS.ExcField
import HandS.Ends
import HandS.HeadEnd
import HandS.OwnEq
import PyProof.ReprRoads
import HandS.WideBits
import HandS.HeadHook1
import HandS.HeadHook2
import HandS.Head0
import HandS.Head1
import HandS.Head2
import HandS.Words
import PySem.Challenge.RW_tickcounts_k20_rules_made
import KE.KStateDown
set_option Elab.async false
set_option linter.all false
set_option maxRecDepth 100000
set_option maxHeartbeats 4000000
namespace HT
open PySem PySem.Spec L2

/-- values as trees: what is never changed is told whole; what may be changed stands in the store (cell) -/
inductive D where
  | non | bl (b : Bool) | int (i : Int) | str (x : Str)
  | lst (xs : List D) | tup (xs : List D) | klst (xs : List D)
  | obj (C : Str) (fs : List (Str × D))
  | exn (C : Str) (fs : List (Str × D))
  | dK (kvs : List (Key × D)) | dT (kvs : List (List Key × D))
  | cell (k : Nat) | glob (x : Str) | ty (n : String)

/-- what stands in a cell, or in an owned slot -/
inductive CO where
  | lst (xs : List D) | dK (kvs : List (Key × D)) | dT (kvs : List (List Key × D)) | ins (C : Str) (fs : List (Str × D))
abbrev Sto := List CO
/-- a slot of a frame -/
inductive Sl where
  | un | val (d : D) | own (c : CO) | slf (c : CO)
abbrev Env := List Sl

/-- ends of a computation -/
inductive R (α : Type) where
  | ok (a : α) (S : Sto) | exc (C : Str) (fs : List (Str × D)) (S : Sto) | stuck
abbrev Cm (α : Type) := Sto → R α
def R.bnd {α β : Type} (r : R α) (f : α → Cm β) : R β := match r with
  | .ok a S => f a S
  | .exc C fs S => .exc C fs S
  | .stuck => .stuck
instance : Monad Cm where
  pure a := fun S => .ok a S
  bind m f := fun S => (m S).bnd f
def stk {α : Type} : Cm α := fun _ => .stuck
abbrev FE := Env → Cm D

/-- an exception object behind its catch -/
def EXO (C : Addr) (d : Addr) (a : Addr) : HO := .ext fun h => ∃ (oe : Obj) (vs : Array Value), h.get? a = some oe ∧ Zc (.ref C) (some d) oe ∧ oe.data = .fields vs

section
variable (T : Str → Addr) (K : PySem.W.Frag) (ρ : Nat → Option Addr) (H : Hp)
mutual
/-- the value v stands for the tree -/
def Rep : D → V → Prop
  | .non, v => v = .non
  | .bl b, v => v = .bl b
  | .int i, v => v = .int i
  | .str x, v => v = .str x
  | .lst ds, v => ∃ a vs, v = .ref a ∧ H a = some (.lst vs) ∧ RepL ds vs
  | .klst ds, v => ∃ a vs, v = .ref a ∧ SqL K H a vs ∧ RepL ds vs
  | .tup ds, v => ∃ a vs, v = .ref a ∧ SqT K H a vs ∧ RepL ds vs
  | .obj C fs, v => ∃ a dx vs, v = .ref a ∧ H a = some (.ins (T C) dx vs) ∧ RepF fs vs
  | .exn C fs, v => ∃ a d vs, v = .ref a ∧ H a = some (EXO (T C) d a) ∧ H d = some (.xd vs) ∧ RepF fs vs
  | .dK kvs, v => ∃ a vs, v = .ref a ∧ H a = some (.dK vs) ∧ RepK kvs vs
  | .dT kvs, v => ∃ a vs, v = .ref a ∧ H a = some (.dT vs) ∧ RepT kvs vs
  | .cell k, v => ∃ a, v = .ref a ∧ ρ k = some a
  | .glob x, v => v = .ref (T x)
  | .ty n, v => v = .ty n
def RepL : List D → List V → Prop
  | [], vs => vs = []
  | d :: ds, vs => ∃ v r, vs = v :: r ∧ Rep d v ∧ RepL ds r
def RepF : List (Str × D) → List (Str × V) → Prop
  | [], vs => vs = []
  | p :: ds, vs => ∃ v r, vs = (p.1, v) :: r ∧ Rep p.2 v ∧ RepF ds r
def RepK : List (Key × D) → List (Key × V) → Prop
  | [], vs => vs = []
  | p :: ds, vs => ∃ v r, vs = (p.1, v) :: r ∧ Rep p.2 v ∧ RepK ds r
def RepT : List (List Key × D) → List (List Key × V) → Prop
  | [], vs => vs = []
  | p :: ds, vs => ∃ v r, vs = (p.1, v) :: r ∧ Rep p.2 v ∧ RepT ds r
end
end
end HT
set_option Elab.async false
set_option linter.all false
set_option maxRecDepth 100000
set_option maxHeartbeats 4000000
namespace HT
open PySem PySem.Spec L2

/-- one abstract heap within another -/
abbrev Sub (H H' : Hp) : Prop := ∀ a o, H a = some o → H' a = some o
theorem Sub.seqL {K : PySem.W.Frag} {H H' : Hp} (h : Sub H H') {a : Addr} {xs : List V} (q : SqL K H a xs) : SqL K H' a xs := by
  rcases q with (q | ⟨o, q⟩) | q
  · exact .inl (.inl (h _ _ q))
  · exact .inl (.inr ⟨o, h _ _ q⟩)
  · exact .inr q
theorem Sub.seqT {K : PySem.W.Frag} {H H' : Hp} (h : Sub H H') {a : Addr} {xs : List V} (q : SqT K H a xs) : SqT K H' a xs := by
  rcases q with (q | ⟨o, q⟩) | q
  · exact .inl (.inl (h _ _ q))
  · exact .inl (.inr ⟨o, h _ _ q⟩)
  · exact .inr q
section
variable {T : Str → Addr} {K : PySem.W.Frag} {ρ ρ' : Nat → Option Addr} {H H' : Hp}
mutual
theorem Rep.mono (hr : ∀ k a, ρ k = some a → ρ' k = some a) (hs : Sub H H') : ∀ (d : D) (v : V), Rep T K ρ H d v → Rep T K ρ' H' d v
  | .non, v, h => h
  | .bl b, v, h => h
  | .int i, v, h => h
  | .str x, v, h => h
  | .lst ds, v, h => by
    obtain ⟨a, vs, e, q, r⟩ := h
    exact ⟨a, vs, e, hs _ _ q, RepL.mono hr hs ds vs r⟩
  | .klst ds, v, h => by
    obtain ⟨a, vs, e, q, r⟩ := h
    exact ⟨a, vs, e, hs.seqL q, RepL.mono hr hs ds vs r⟩
  | .tup ds, v, h => by
    obtain ⟨a, vs, e, q, r⟩ := h
    exact ⟨a, vs, e, hs.seqT q, RepL.mono hr hs ds vs r⟩
  | .obj C fs, v, h => by
    obtain ⟨a, dx, vs, e, q, r⟩ := h
    exact ⟨a, dx, vs, e, hs _ _ q, RepF.mono hr hs fs vs r⟩
  | .exn C fs, v, h => by
    obtain ⟨a, d, vs, e, q, q2, r⟩ := h
    exact ⟨a, d, vs, e, hs _ _ q, hs _ _ q2, RepF.mono hr hs fs vs r⟩
  | .dK kvs, v, h => by
    obtain ⟨a, vs, e, q, r⟩ := h
    exact ⟨a, vs, e, hs _ _ q, RepK.mono hr hs kvs vs r⟩
  | .dT kvs, v, h => by
    obtain ⟨a, vs, e, q, r⟩ := h
    exact ⟨a, vs, e, hs _ _ q, RepT.mono hr hs kvs vs r⟩
  | .cell k, v, h => by
    obtain ⟨a, e, q⟩ := h
    exact ⟨a, e, hr _ _ q⟩
  | .glob x, v, h => h
  | .ty n, v, h => h
theorem RepL.mono (hr : ∀ k a, ρ k = some a → ρ' k = some a) (hs : Sub H H') : ∀ (ds : List D) (vs : List V), RepL T K ρ H ds vs → RepL T K ρ' H' ds vs
  | [], vs, h => h
  | d :: ds, vs, h => by
    obtain ⟨v, r, e, q, q2⟩ := h
    exact ⟨v, r, e, Rep.mono hr hs d v q, RepL.mono hr hs ds r q2⟩
theorem RepF.mono (hr : ∀ k a, ρ k = some a → ρ' k = some a) (hs : Sub H H') : ∀ (ds : List (Str × D)) (vs : List (Str × V)), RepF T K ρ H ds vs → RepF T K ρ' H' ds vs
  | [], vs, h => h
  | (x, d) :: ds, vs, h => by
    obtain ⟨v, r, e, q, q2⟩ := h
    exact ⟨v, r, e, Rep.mono hr hs d v q, RepF.mono hr hs ds r q2⟩
theorem RepK.mono (hr : ∀ k a, ρ k = some a → ρ' k = some a) (hs : Sub H H') : ∀ (ds : List (Key × D)) (vs : List (Key × V)), RepK T K ρ H ds vs → RepK T K ρ' H' ds vs
  | [], vs, h => h
  | (x, d) :: ds, vs, h => by
    obtain ⟨v, r, e, q, q2⟩ := h
    exact ⟨v, r, e, Rep.mono hr hs d v q, RepK.mono hr hs ds r q2⟩
theorem RepT.mono (hr : ∀ k a, ρ k = some a → ρ' k = some a) (hs : Sub H H') : ∀ (ds : List (List Key × D)) (vs : List (List Key × V)), RepT T K ρ H ds vs → RepT T K ρ' H' ds vs
  | [], vs, h => h
  | (x, d) :: ds, vs, h => by
    obtain ⟨v, r, e, q, q2⟩ := h
    exact ⟨v, r, e, Rep.mono hr hs d v q, RepT.mono hr hs ds r q2⟩
end
theorem RepL.len : ∀ {ds : List D} {vs : List V}, RepL T K ρ H ds vs → ds.length = vs.length
  | [], vs, h => by
    have e : vs = [] := h
    rw [e]
    rfl
  | d :: ds, vs, h => by
    obtain ⟨v, r, e, q, q2⟩ := h
    rw [e, List.length_cons, List.length_cons, RepL.len q2]
theorem RepL.get : ∀ {ds : List D} {vs : List V} {i : Nat} {d : D}, RepL T K ρ H ds vs → ds[i]? = some d → ∃ v, vs[i]? = some v ∧ Rep T K ρ H d v
  | [], _, i, d, _, e => by simp at e
  | d :: ds, vs, 0, d', h, e => by
    obtain ⟨v, r, ev, q, _⟩ := h
    subst ev
    simp at e
    subst e
    exact ⟨v, rfl, q⟩
  | d :: ds, vs, i + 1, d', h, e => by
    obtain ⟨v, r, ev, _, q⟩ := h
    subst ev
    obtain ⟨u, h1, h2⟩ := RepL.get (i := i) (d := d') q (by simpa using e)
    exact ⟨u, by simpa using h1, h2⟩
theorem RepL.getV : ∀ {ds : List D} {vs : List V} {i : Nat} {v : V}, RepL T K ρ H ds vs → vs[i]? = some v → ∃ d, ds[i]? = some d ∧ Rep T K ρ H d v
  | [], vs, i, v, h, e => by
    have h' : vs = [] := h
    rw [h'] at e
    simp at e
  | d :: ds, vs, 0, v', h, e => by
    obtain ⟨v, r, ev, q, _⟩ := h
    subst ev
    simp at e
    subst e
    exact ⟨d, rfl, q⟩
  | d :: ds, vs, i + 1, v', h, e => by
    obtain ⟨v, r, ev, _, q⟩ := h
    subst ev
    obtain ⟨u, h1, h2⟩ := RepL.getV (i := i) (v := v') q (by simpa using e)
    exact ⟨u, by simpa using h1, h2⟩
theorem RepL.app : ∀ {ds es : List D} {vs us : List V}, RepL T K ρ H ds vs → RepL T K ρ H es us → RepL T K ρ H (ds ++ es) (vs ++ us)
  | [], es, vs, us, h, h2 => by
    have h' : vs = [] := h
    subst h'
    exact h2
  | d :: ds, es, vs, us, h, h2 => by
    obtain ⟨v, r, ev, q, q2⟩ := h
    subst ev
    exact ⟨v, r ++ us, rfl, q, RepL.app q2 h2⟩
theorem RepL.one {d : D} {v : V} (h : Rep T K ρ H d v) : RepL T K ρ H [d] [v] := ⟨v, [], rfl, h, rfl⟩
theorem RepL.set : ∀ {ds : List D} {vs : List V} (i : Nat) {d : D} {v : V}, RepL T K ρ H ds vs → Rep T K ρ H d v → RepL T K ρ H (ds.set i d) (vs.set i v)
  | [], vs, i, d, v, h, _ => by
    have h' : vs = [] := h
    subst h'
    exact h
  | d :: ds, vs, 0, d', v', h, q => by
    obtain ⟨v, r, ev, _, q2⟩ := h
    subst ev
    exact ⟨v', r, rfl, q, q2⟩
  | d :: ds, vs, i + 1, d', v', h, q => by
    obtain ⟨v, r, ev, q1, q2⟩ := h
    subst ev
    exact ⟨v, r.set i v', rfl, q1, RepL.set i q2 q⟩
theorem RepL.take : ∀ {ds : List D} {vs : List V} (n : Nat), RepL T K ρ H ds vs → RepL T K ρ H (ds.take n) (vs.take n)
  | ds, vs, 0, h => by
    rw [List.take_zero, List.take_zero]
    exact (rfl : ([] : List V) = [])
  | [], vs, n + 1, h => by
    have h' : vs = [] := h
    subst h'
    exact h
  | d :: ds, vs, n + 1, h => by
    obtain ⟨v, r, ev, q1, q2⟩ := h
    subst ev
    exact ⟨v, r.take n, rfl, q1, RepL.take n q2⟩
theorem RepL.drop : ∀ {ds : List D} {vs : List V} (n : Nat), RepL T K ρ H ds vs → RepL T K ρ H (ds.drop n) (vs.drop n)
  | ds, vs, 0, h => by
    rw [List.drop_zero, List.drop_zero]
    exact h
  | [], vs, n + 1, h => by
    have h' : vs = [] := h
    subst h'
    exact h
  | d :: ds, vs, n + 1, h => by
    obtain ⟨v, r, ev, q1, q2⟩ := h
    subst ev
    exact RepL.drop n q2
theorem RepL.of_all : ∀ {ds : List D} {vs : List V}, ds.length = vs.length → (∀ (i : Nat) (d : D) (v : V), ds[i]? = some d → vs[i]? = some v → Rep T K ρ H d v) → RepL T K ρ H ds vs
  | [], [], _, _ => rfl
  | [], _ :: _, e, _ => by simp at e
  | _ :: _, [], e, _ => by simp at e
  | d :: ds, v :: vs, e, h => ⟨v, vs, rfl, h 0 d v rfl rfl, RepL.of_all (by simpa using e) fun i d' v' h1 h2 => h (i + 1) d' v' (by simpa using h1) (by simpa using h2)⟩
theorem RepL.rev {ds : List D} {vs : List V} (h : RepL T K ρ H ds vs) : RepL T K ρ H ds.reverse vs.reverse := by
  have hl := h.len
  refine RepL.of_all (by simpa using hl) fun i d v h1 h2 => ?_
  have hi : i < ds.length := by
    have := (List.getElem?_eq_some_iff.mp h1).1
    simpa using this
  rw [List.getElem?_reverse hi] at h1
  rw [List.getElem?_reverse (by omega)] at h2
  obtain ⟨v', e1, r⟩ := h.get h1
  rw [hl] at e1
  rw [e1] at h2
  cases h2
  exact r
theorem RepF.look : ∀ {fs : List (Str × D)} {vs : List (Str × V)} {f : Str} {d : D}, RepF T K ρ H fs vs → fs.lookup f = some d → ∃ v, vs.lookup f = some v ∧ Rep T K ρ H d v
  | [], _, f, d, _, e => by simp at e
  | (x, d) :: fs, vs, f, d', h, e => by
    obtain ⟨v, r, ev, q, q2⟩ := h
    subst ev
    rw [List.lookup_cons] at e
    rw [List.lookup_cons]
    cases hx : (f == x) with
    | true =>
      rw [hx] at e
      cases e
      exact ⟨v, rfl, q⟩
    | false =>
      rw [hx] at e
      exact RepF.look q2 e
theorem RepF.nolook : ∀ {fs : List (Str × D)} {vs : List (Str × V)} {f : Str}, RepF T K ρ H fs vs → fs.lookup f = none → vs.lookup f = none
  | [], vs, f, h, e => by
    have h' : vs = [] := h
    subst h'
    rfl
  | (x, d) :: fs, vs, f, h, e => by
    obtain ⟨v, r, ev, q, q2⟩ := h
    subst ev
    rw [List.lookup_cons] at e
    rw [List.lookup_cons]
    cases hx : (f == x) with
    | true =>
      rw [hx] at e
      cases e
    | false =>
      rw [hx] at e
      exact RepF.nolook q2 e
theorem RepF.len : ∀ {ds : List (Str × D)} {vs : List (Str × V)}, RepF T K ρ H ds vs → ds.length = vs.length
  | [], vs, h => by
    have e : vs = [] := h
    rw [e]
    rfl
  | d :: ds, vs, h => by
    obtain ⟨v, r, e, q, q2⟩ := h
    rw [e, List.length_cons, List.length_cons, RepF.len q2]
/-- a field stored -/
def putD (f : Str) (d : D) : List (Str × D) → List (Str × D)
  | [] => [(f, d)]
  | (g, x) :: r => if g = f then (g, d) :: r else (g, x) :: putD f d r
theorem RepF.put {f : Str} {d : D} {v : V} (hv : Rep T K ρ H d v) : ∀ {fs : List (Str × D)} {vs : List (Str × V)}, RepF T K ρ H fs vs → RepF T K ρ H (putD f d fs) (putF f v vs)
  | [], vs, h => by
    have h' : vs = [] := h
    subst h'
    exact ⟨v, [], rfl, hv, rfl⟩
  | (g, x) :: fs, vs, h => by
    obtain ⟨w, r, ev, q, q2⟩ := h
    subst ev
    show RepF T K ρ H (if g = f then (g, d) :: fs else (g, x) :: putD f d fs) (if g = f then (g, v) :: r else (g, w) :: putF f v r)
    by_cases hg : g = f
    · rw [if_pos hg, if_pos hg]
      exact ⟨v, r, rfl, hv, q2⟩
    · rw [if_neg hg, if_neg hg]
      exact ⟨w, putF f v r, rfl, q, RepF.put hv q2⟩
end

/-! ### the world -/
/-- what is hidden (other frames' own objects, ours); me: the object that an __init__ makes -/
structure Hid where
  set : Addr → Prop
  me : Addr
instance : CoeFun Hid (fun _ => Addr → Prop) := ⟨Hid.set⟩
open Classical in
/-- what is frozen: neither hidden nor a cell -/
noncomputable def Fz (ρ : Nat → Option Addr) (Z : Hid) (H : Hp) : Hp := fun a => if Z a ∨ ∃ k, ρ k = some a then none else H a
section
variable {ρ ρ' : Nat → Option Addr} {Z : Hid} {H H' : Hp} {a : Addr} {o : HO}
theorem Fz_at (h : Fz ρ Z H a = some o) : H a = some o ∧ ¬ Z a ∧ ∀ k, ρ k ≠ some a := by
  unfold Fz at h
  split at h
  · cases h
  · rename_i hn
    exact ⟨h, fun z => hn (.inl z), fun k z => hn (.inr ⟨k, z⟩)⟩
theorem Fz_mk (h : H a = some o) (hz : ¬ Z a) (hr : ∀ k, ρ k ≠ some a) : Fz ρ Z H a = some o := by
  unfold Fz
  rw [if_neg]
  · exact h
  · rintro (z | ⟨k, z⟩)
    · exact hz z
    · exact hr k z
theorem Fz_sub : Sub (Fz ρ Z H) H := fun a o h => (Fz_at h).1
end

/-- what an object of the store is -/
def HObj (T : Str → Addr) (K : PySem.W.Frag) (ρ : Nat → Option Addr) (F : Hp) : CO → HO → Prop
  | .lst ds, o => ∃ vs, o = .lst vs ∧ RepL T K ρ F ds vs
  | .dK kvs, o => ∃ vs, o = .dK vs ∧ RepK T K ρ F kvs vs
  | .dT kvs, o => ∃ vs, o = .dT vs ∧ RepT T K ρ F kvs vs
  | .ins C fs, o => ∃ dx vs, o = .ins (T C) dx vs ∧ RepF T K ρ F fs vs
theorem HObj.mono {T : Str → Addr} {K : PySem.W.Frag} {ρ ρ' : Nat → Option Addr} {H H' : Hp} (hr : ∀ k a, ρ k = some a → ρ' k = some a) (hs : Sub H H') {c : CO} {o : HO} (h : HObj T K ρ H c o) : HObj T K ρ' H' c o := by
  cases c with
  | lst ds =>
    obtain ⟨vs, e, r⟩ := h
    exact ⟨vs, e, RepL.mono hr hs _ _ r⟩
  | dK kvs =>
    obtain ⟨vs, e, r⟩ := h
    exact ⟨vs, e, RepK.mono hr hs _ _ r⟩
  | dT kvs =>
    obtain ⟨vs, e, r⟩ := h
    exact ⟨vs, e, RepT.mono hr hs _ _ r⟩
  | ins C fs =>
    obtain ⟨dx, vs, e, r⟩ := h
    exact ⟨dx, vs, e, RepF.mono hr hs _ _ r⟩
theorem HObj.mut {T : Str → Addr} {K : PySem.W.Frag} {ρ : Nat → Option Addr} {F : Hp} {c : CO} {o : HO} (h : HObj T K ρ F c o) : Mut (some o) := by
  cases c <;> (obtain ⟨_, h⟩ := h) <;> first
    | (rw [h.1]; exact True.intro)
    | (obtain ⟨_, h, _⟩ := h; rw [h]; exact True.intro)

structure Wd (T : Str → Addr) (K : PySem.W.Frag) (ρ : Nat → Option Addr) (S : Sto) (Z : Hid) (H : Hp) : Prop where
  dom : ∀ k a, ρ k = some a → k < S.length
  cells : ∀ (k : Nat) (c : CO), S[k]? = some c → ∃ a o, ρ k = some a ∧ ¬ Z a ∧ H a = some o ∧ HObj T K ρ (Fz ρ Z H) c o
  inj : ∀ j k a, ρ j = some a → ρ k = some a → j = k
  there : ∀ a, Z a → ∃ o, H a = some o

/-- a later world, the hidden things as they were -/
structure Ext (ρ : Nat → Option Addr) (Z : Hid) (H : Hp) (ρ' : Nat → Option Addr) (H' : Hp) : Prop where
  cells : ∀ k a, ρ k = some a → ρ' k = some a
  frz : Sub (Fz ρ Z H) (Fz ρ' Z H')
  hid : ∀ a, Z a → H' a = H a
theorem Ext.refl {ρ : Nat → Option Addr} {Z : Hid} {H : Hp} : Ext ρ Z H ρ H := ⟨fun _ _ h => h, fun _ _ h => h, fun _ _ => rfl⟩
theorem Ext.trans {ρ ρ1 ρ2 : Nat → Option Addr} {Z : Hid} {H H1 H2 : Hp} (a : Ext ρ Z H ρ1 H1) (b : Ext ρ1 Z H1 ρ2 H2) : Ext ρ Z H ρ2 H2 :=
  ⟨fun k x h => b.cells k x (a.cells k x h), fun x o h => b.frz x o (a.frz x o h), fun x h => (b.hid x h).trans (a.hid x h)⟩
theorem Ext.rep {T : Str → Addr} {K : PySem.W.Frag} {ρ ρ1 : Nat → Option Addr} {Z : Hid} {H H1 : Hp} (a : Ext ρ Z H ρ1 H1) {d : D} {v : V} (h : Rep T K ρ (Fz ρ Z H) d v) : Rep T K ρ1 (Fz ρ1 Z H1) d v := Rep.mono a.cells a.frz d v h
theorem Ext.repL {T : Str → Addr} {K : PySem.W.Frag} {ρ ρ1 : Nat → Option Addr} {Z : Hid} {H H1 : Hp} (a : Ext ρ Z H ρ1 H1) {d : List D} {v : List V} (h : RepL T K ρ (Fz ρ Z H) d v) : RepL T K ρ1 (Fz ρ1 Z H1) d v := RepL.mono a.cells a.frz d v h

/-- the slots stand for the env -/
structure ER (T : Str → Addr) (K : PySem.W.Frag) (ρ : Nat → Option Addr) (Z : Hid) (H : Hp) (σ : St) (env : Env) : Prop where
  val : ∀ (i : Nat) (d : D), env[i]? = some (.val d) → ∃ v, σ[i]? = some (some v) ∧ Rep T K ρ (Fz ρ Z H) d v
  own : ∀ (i : Nat) (c : CO), env[i]? = some (.own c) → ∃ a o, σ[i]? = some (some (V.ref a)) ∧ Z a ∧ H a = some o ∧ HObj T K ρ (Fz ρ Z H) c o
  slf : ∀ (i : Nat) (c : CO), env[i]? = some (.slf c) → ∃ o, σ[i]? = some (some (V.ref Z.me)) ∧ Z Z.me ∧ H Z.me = some o ∧ HObj T K ρ (Fz ρ Z H) c o
  len : env.length = σ.length
theorem ER.ext {T : Str → Addr} {K : PySem.W.Frag} {ρ ρ1 : Nat → Option Addr} {Z : Hid} {H H1 : Hp} {σ : St} {env : Env} (e : ER T K ρ Z H σ env) (x : Ext ρ Z H ρ1 H1) : ER T K ρ1 Z H1 σ env := by
  refine ⟨fun i d h => ?_, fun i c h => ?_, fun i c h => ?_, e.len⟩
  · obtain ⟨v, h1, h2⟩ := e.val i d h
    exact ⟨v, h1, x.rep h2⟩
  · obtain ⟨a, o, h1, h2, h3, h4⟩ := e.own i c h
    exact ⟨a, o, h1, h2, (x.hid a h2).trans h3, h4.mono x.cells x.frz⟩
  · obtain ⟨o, h1, h2, h3, h4⟩ := e.slf i c h
    exact ⟨o, h1, h2, (x.hid _ h2).trans h3, h4.mono x.cells x.frz⟩

/-! ### readings -/
/-- how what is computed stands in the heap -/
abbrev Rl (α β : Type) := (Nat → Option Addr) → Hp → α → β → Prop
abbrev rB : Rl Bool Bool := fun _ _ a b => a = b
section
variable (T : Str → Addr) (K : PySem.W.Frag)
abbrev rD : Rl D V := fun ρ H d v => Rep T K ρ H d v
abbrev rL : Rl (List D) (List V) := fun ρ H d v => RepL T K ρ H d v
def Good {α β : Type} (rel : Rl α β) (W : WX) (σ : St) (Q : β → Hp → Prop) (ρ : Nat → Option Addr) (Z : Hid) (H : Hp) : R α → Prop
  | .ok d S' => ∀ v H' ρ', Ext ρ Z H ρ' H' → Wd T K ρ' S' Z H' → rel ρ' (Fz ρ' Z H') d v → Q v H'
  | .exc C fs S' => ∀ dx vs H' ρ', Ext ρ Z H ρ' H' → Wd T K ρ' S' Z H' → Fz ρ' Z H' dx = some (.xd vs) → RepF T K ρ' (Fz ρ' Z H') fs vs → W (.ref (T C)) (some dx) σ H'
  | .stuck => False
/-- the reading: what the env computes -/
def lift {α β : Type} (rel : Rl α β) (W : WX) (F : Env → Cm α) (σ : St) (H : Hp) (Q : β → Hp → Prop) : Prop := ∃ ρ S Z env, Wd T K ρ S Z H ∧ ER T K ρ Z H σ env ∧ Good T K rel W σ Q ρ Z H (F env S)
end
section
variable {T : Str → Addr} {K : PySem.W.Frag} {W : WX} {σ : St} {ρ ρ1 : Nat → Option Addr} {Z : Hid} {H H1 : Hp} {S : Sto} {env : Env}
variable {α β γ δ : Type} {rel : Rl α β} {rel2 : Rl γ δ} {Q : β → Hp → Prop} {Q2 : δ → Hp → Prop}
theorem Good.later {r : R α} (g : Good T K rel W σ Q ρ Z H r) (x : Ext ρ Z H ρ1 H1) : Good T K rel W σ Q ρ1 Z H1 r := by
  cases r with
  | ok d S' => exact fun v H' ρ' e w q => g v H' ρ' (x.trans e) w q
  | exc C fs S' => exact fun dx vs H' ρ' e w q q2 => g dx vs H' ρ' (x.trans e) w q q2
  | stuck => exact g
/-- what is known behind a first part: the rest k is still to be run -/
def Behind (T : Str → Addr) (K : PySem.W.Frag) (rel : Rl α β) (rel2 : Rl γ δ) (W : WX) (σ : St) (Q : δ → Hp → Prop) (ρ : Nat → Option Addr) (Z : Hid) (H : Hp) (env : Env) (k : α → Cm γ) (v : β) (H' : Hp) : Prop :=
  ∃ ρ' S' d, Ext ρ Z H ρ' H' ∧ Wd T K ρ' S' Z H' ∧ ER T K ρ' Z H' σ env ∧ rel ρ' (Fz ρ' Z H') d v ∧ Good T K rel2 W σ Q ρ' Z H' (k d S')
theorem lift_bnd {F : Env → Cm α} {k : α → Cm γ} (w : Wd T K ρ S Z H) (e : ER T K ρ Z H σ env) (g : Good T K rel2 W σ Q2 ρ Z H ((F env S).bnd k)) : lift T K rel W F σ H (Behind T K rel rel2 W σ Q2 ρ Z H env k) := by
  refine ⟨ρ, S, Z, env, w, e, ?_⟩
  cases h : F env S with
  | ok d S' =>
    rw [h] at g
    exact fun v H' ρ' x w' q => ⟨ρ', S', d, x, w', e.ext x, q, g.later x⟩
  | exc C fs S' =>
    rw [h] at g
    exact g
  | stuck =>
    rw [h] at g
    exact g
end

/-- an expression that computes F; W: what is wished of an exception -/
abbrev PF (T : Str → Addr) (X : Cx) (W : WX) (e : Expr) (F : FE) : Prop := PE X e (lift T X.K (rD T X.K) W F)
/-- a test -/
abbrev TF (T : Str → Addr) (X : Cx) (W : WX) (e : Expr) (F : Env → Cm Bool) : Prop := PT X e (lift T X.K rB W F)
abbrev TWF (T : Str → Addr) (X : Cx) (W : WX) (e : Expr) (F : Env → Cm Bool) : Prop := PW X e (lift T X.K rB W F)
/-- arguments -/
abbrev AF (T : Str → Addr) (X : Cx) (W : WX) (es : List Expr) (F : Env → Cm (List D)) : Prop := PA X es (lift T X.K (rL T X.K) W F)
theorem pe_imp {X : Cx} {e : Expr} {t t' : TE} (h : PE X e t) (i : ∀ σ H Q, t' σ H Q → t σ H Q) : PE X e t' := ⟨fun pins s σ H Q I q => h.run pins s σ H Q I (i σ H Q q)⟩
theorem pt_imp {X : Cx} {e : Expr} {t t' : TT} (h : PT X e t) (i : ∀ σ H Q, t' σ H Q → t σ H Q) : PT X e t' := ⟨fun pins s σ H Q I q => h.run pins s σ H Q I (i σ H Q q)⟩
theorem pw_imp {X : Cx} {e : Expr} {t t' : TT} (h : PW X e t) (i : ∀ σ H Q, t' σ H Q → t σ H Q) : PW X e t' := ⟨fun wh pins s σ H Q I q => h.run wh pins s σ H Q I (i σ H Q q)⟩
theorem pa_imp {X : Cx} {es : List Expr} {t t' : TA} (h : PA X es t) (i : ∀ σ H Q, t' σ H Q → t σ H Q) : PA X es t' := ⟨fun pos pins s σ H Q I q => h.run pos pins s σ H Q I (i σ H Q q)⟩

/-! ### values that need no store -/
section
variable {T : Str → Addr} {X : Cx} {W : WX}
theorem pf_const {e : Expr} {v : V} {d : D} (h : PE X e (tC v)) (r : ∀ ρ H, Rep T X.K ρ H d v) : PF T X W e (fun _ => pure d) := by
  refine pe_imp h fun σ H Q q => ?_
  obtain ⟨ρ, S, Z, env, w, e, g⟩ := q
  exact g v H ρ .refl w (r _ _)
theorem pf_int {i : Int} {j pos} : PF T X W (.Constant (.int i) j pos) (fun _ => pure (.int i)) := pf_const pe_int fun _ _ => rfl
theorem pf_bl {b : Bool} {j pos} : PF T X W (.Constant (.bool b) j pos) (fun _ => pure (.bl b)) := pf_const pe_bl fun _ _ => rfl
theorem pf_non {j pos} : PF T X W (.Constant .none j pos) (fun _ => pure .non) := pf_const pe_non fun _ _ => rfl
theorem pf_str {x : Str} {j pos} : PF T X W (.Constant (.str x) j pos) (fun _ => pure (.str x)) := pf_const pe_str fun _ _ => rfl
/-- a slot that holds a tree -/
def fVar (i : Nat) : FE := fun env => match env[i]? with
  | some (.val d) => pure d
  | _ => stk
theorem pf_var {i : Nat} {x : Str} {pos : Pos} (h : PE X (.Name x pos) (tVar i)) : PF T X W (.Name x pos) (fVar i) := by
  refine pe_imp h fun σ H Q q => ?_
  obtain ⟨ρ, S, Z, env, w, e, g⟩ := q
  unfold fVar at g
  cases hd : env[i]? with
  | none =>
    rw [hd] at g
    exact g.elim
  | some sl =>
    rw [hd] at g
    cases sl with
    | val d =>
      obtain ⟨v, h1, h2⟩ := e.val i d hd
      exact ⟨v, h1, g v H ρ .refl w h2⟩
    | un => exact g.elim
    | own c => exact g.elim
    | slf c => exact g.elim
end
end HT
set_option Elab.async false
set_option linter.all false
set_option maxRecDepth 100000
set_option maxHeartbeats 4000000
namespace HT
open PySem PySem.Spec L2

section
variable {T : Str → Addr} {K : PySem.W.Frag} {W : WX} {σ : St} {ρ ρ1 : Nat → Option Addr} {Z : Hid} {H H1 : Hp} {S : Sto} {env : Env}
variable {α β : Type} {rel : Rl α β} {Q Q' : β → Hp → Prop}
theorem Good.imp {r : R α} (g : Good T K rel W σ Q ρ Z H r) (h : ∀ v H', Q v H' → Q' v H') : Good T K rel W σ Q' ρ Z H r := by
  cases r with
  | ok d S' => exact fun v H' ρ' e w q => h v H' (g v H' ρ' e w q)
  | exc C fs S' => exact g
  | stuck => exact g
theorem lift_imp {F : Env → Cm α} (h : lift T K rel W F σ H Q) (i : ∀ v H', Q v H' → Q' v H') : lift T K rel W F σ H Q' := by
  obtain ⟨ρ, S, Z, env, w, e, g⟩ := h
  exact ⟨ρ, S, Z, env, w, e, g.imp i⟩
/-- nothing is changed: an answer at once -/
theorem Good.now {d : α} {v : β} (g : Good T K rel W σ Q ρ Z H (.ok d S)) (w : Wd T K ρ S Z H) (r : rel ρ (Fz ρ Z H) d v) : Q v H := g v H ρ .refl w r
end

/-! ### the world, step by step -/
section
variable {T : Str → Addr} {K : PySem.W.Frag} {ρ : Nat → Option Addr} {Z : Hid} {H : Hp} {S : Sto} {p : Addr} {o : HO} {c : CO}
theorem fz_new (w : Wd T K ρ S Z H) (hp : H p = none) : ¬ Z p ∧ ∀ k, ρ k ≠ some p := by
  refine ⟨fun z => ?_, fun k z => ?_⟩
  · obtain ⟨o, e⟩ := w.there p z
    rw [hp] at e
    cases e
  · have hk := w.dom k p z
    obtain ⟨a, o, h1, _, h2, _⟩ := w.cells k S[k] (List.getElem?_eq_getElem hk)
    rw [z] at h1
    cases h1
    rw [hp] at h2
    cases h2
/-- a frozen thing more -/
theorem new_frz (w : Wd T K ρ S Z H) (hp : H p = none) : Ext ρ Z H ρ (upd H p o) ∧ Wd T K ρ S Z (upd H p o) ∧ Fz ρ Z (upd H p o) p = some o := by
  obtain ⟨nz, nr⟩ := fz_new w hp
  have ne : ∀ a u, H a = some u → a ≠ p := fun a u e z => by
    rw [z, hp] at e
    cases e
  have sub : Sub (Fz ρ Z H) (Fz ρ Z (upd H p o)) := fun a u e => by
    obtain ⟨e1, e2, e3⟩ := Fz_at e
    exact Fz_mk (by rw [upd_ne (ne a u e1)]; exact e1) e2 e3
  have x : Ext ρ Z H ρ (upd H p o) := ⟨fun _ _ h => h, sub, fun a z => upd_ne (fun e => nz (e ▸ z))⟩
  refine ⟨x, ⟨w.dom, fun k c hc => ?_, w.inj, fun a z => ?_⟩, Fz_mk upd_same nz nr⟩
  · obtain ⟨a, u, h1, h2, h3, h4⟩ := w.cells k c hc
    exact ⟨a, u, h1, h2, by rw [upd_ne (ne a u h3)]; exact h3, h4.mono x.cells x.frz⟩
  · obtain ⟨u, e⟩ := w.there a z
    exact ⟨u, by rw [upd_ne (ne a u e)]; exact e⟩
/-- one cell more -/
def more (ρ : Nat → Option Addr) (n : Nat) (p : Addr) : Nat → Option Addr := fun k => if k = n then some p else ρ k
theorem new_cell (w : Wd T K ρ S Z H) (hp : H p = none) (h : HObj T K ρ (Fz ρ Z H) c o) : Ext ρ Z H (more ρ S.length p) (upd H p o) ∧ Wd T K (more ρ S.length p) (S ++ [c]) Z (upd H p o) ∧ more ρ S.length p S.length = some p := by
  obtain ⟨nz, nr⟩ := fz_new w hp
  have ne : ∀ a u, H a = some u → a ≠ p := fun a u e z => by
    rw [z, hp] at e
    cases e
  have old : ∀ k a, ρ k = some a → more ρ S.length p k = some a := fun k a e => by
    unfold more
    rw [if_neg (Nat.ne_of_lt (w.dom k a e))]
    exact e
  have inv : ∀ k a, more ρ S.length p k = some a → (k = S.length ∧ a = p) ∨ ρ k = some a := fun k a e => by
    unfold more at e
    split at e
    · rename_i hk
      exact .inl ⟨hk, (Option.some.inj e).symm⟩
    · exact .inr e
  have sub : Sub (Fz ρ Z H) (Fz (more ρ S.length p) Z (upd H p o)) := fun a u e => by
    obtain ⟨e1, e2, e3⟩ := Fz_at e
    refine Fz_mk (by rw [upd_ne (ne a u e1)]; exact e1) e2 fun k z => ?_
    rcases inv k a z with ⟨_, q⟩ | q
    · exact ne a u e1 q
    · exact e3 k q
  have x : Ext ρ Z H (more ρ S.length p) (upd H p o) := ⟨old, sub, fun a z => upd_ne (fun e => nz (e ▸ z))⟩
  refine ⟨x, ⟨fun k a e => ?_, fun k c' hc => ?_, fun j k a e1 e2 => ?_, fun a z => ?_⟩, by unfold more; rw [if_pos rfl]⟩
  · rw [List.length_append, List.length_singleton]
    rcases inv k a e with ⟨q, _⟩ | q
    · omega
    · have := w.dom k a q
      omega
  · by_cases hk : k < S.length
    · rw [List.getElem?_append_left hk] at hc
      obtain ⟨a, u, h1, h2, h3, h4⟩ := w.cells k c' hc
      exact ⟨a, u, old k a h1, h2, by rw [upd_ne (ne a u h3)]; exact h3, h4.mono x.cells x.frz⟩
    · rw [List.getElem?_append_right (by omega)] at hc
      have hk0 : k = S.length := by
        have := (List.getElem?_eq_some_iff.mp hc).1
        rw [List.length_singleton] at this
        omega
      subst hk0
      rw [Nat.sub_self] at hc
      cases hc
      exact ⟨p, o, by unfold more; rw [if_pos rfl], nz, upd_same, h.mono x.cells x.frz⟩
  · rcases inv j a e1 with ⟨q1, q2⟩ | q1
    · rcases inv k a e2 with ⟨q3, _⟩ | q3
      · rw [q1, q3]
      · rw [q2] at q3
        exact absurd q3 (nr k)
    · rcases inv k a e2 with ⟨_, q4⟩ | q3
      · rw [q4] at q1
        exact absurd q1 (nr j)
      · exact w.inj j k a q1 q3
  · obtain ⟨u, e⟩ := w.there a z
    exact ⟨u, by rw [upd_ne (ne a u e)]; exact e⟩
/-- a cell is changed -/
theorem put_cell {k : Nat} {a : Addr} {c0 : CO} (w : Wd T K ρ S Z H) (hk : S[k]? = some c0) (ha : ρ k = some a) (h : HObj T K ρ (Fz ρ Z H) c o) : Ext ρ Z H ρ (upd H a o) ∧ Wd T K ρ (S.set k c) Z (upd H a o) := by
  have nz : ¬ Z a := by
    obtain ⟨b, u, h1, h2, _⟩ := w.cells k c0 hk
    rw [ha] at h1
    cases h1
    exact h2
  have sub : Sub (Fz ρ Z H) (Fz ρ Z (upd H a o)) := fun b u e => by
    obtain ⟨e1, e2, e3⟩ := Fz_at e
    have nb : b ≠ a := fun z => e3 k (z ▸ ha)
    exact Fz_mk (by rw [upd_ne nb]; exact e1) e2 e3
  have x : Ext ρ Z H ρ (upd H a o) := ⟨fun _ _ h => h, sub, fun b z => upd_ne (fun e => nz (e ▸ z))⟩
  refine ⟨x, ⟨fun j b e => by rw [List.length_set]; exact w.dom j b e, fun j c' hc => ?_, w.inj, fun b z => ?_⟩⟩
  · by_cases hj : j = k
    · subst hj
      have hl : j < S.length := (List.getElem?_eq_some_iff.mp hk).1
      rw [List.getElem?_set_self hl] at hc
      cases hc
      exact ⟨a, o, ha, nz, upd_same, h.mono x.cells x.frz⟩
    · rw [List.getElem?_set_ne (Ne.symm hj)] at hc
      obtain ⟨b, u, h1, h2, h3, h4⟩ := w.cells j c' hc
      have nb : b ≠ a := fun z => hj (w.inj j k a (z ▸ h1) ha)
      exact ⟨b, u, h1, h2, by rw [upd_ne nb]; exact h3, h4.mono x.cells x.frz⟩
  · obtain ⟨u, e⟩ := w.there b z
    have nb : b ≠ a := fun q => nz (q ▸ z)
    exact ⟨u, by rw [upd_ne nb]; exact e⟩
end

/-! ### what a tree's list is -/
/-- the items of a list -/
def asL (S : Sto) : D → Option (List D)
  | .lst ds => some ds
  | .klst ds => some ds
  | .cell k => match S[k]? with
    | some (.lst ds) => some ds
    | _ => none
  | _ => none
/-- .. of one that is tracked -/
def asLT (S : Sto) : D → Option (List D)
  | .lst ds => some ds
  | .cell k => match S[k]? with
    | some (.lst ds) => some ds
    | _ => none
  | _ => none
section
variable {T : Str → Addr} {K : PySem.W.Frag} {ρ : Nat → Option Addr} {Z : Hid} {H : Hp} {S : Sto}
theorem asLT_ok (w : Wd T K ρ S Z H) {d : D} {v : V} {ds : List D} (r : Rep T K ρ (Fz ρ Z H) d v) (h : asLT S d = some ds) : ∃ a vs, v = .ref a ∧ H a = some (.lst vs) ∧ RepL T K ρ (Fz ρ Z H) ds vs := by
  unfold asLT at h
  split at h
  · cases h
    obtain ⟨a, vs, e, q, q2⟩ := r
    exact ⟨a, vs, e, Fz_sub _ _ q, q2⟩
  · rename_i k
    obtain ⟨a, e, q⟩ := r
    cases hc : S[k]? with
    | none =>
      rw [hc] at h
      cases h
    | some c =>
      rw [hc] at h
      obtain ⟨b, o, h1, h2, h3, h4⟩ := w.cells k c hc
      rw [q] at h1
      cases h1
      cases c with
      | lst es =>
        cases h
        obtain ⟨vs, e2, q2⟩ := h4
        exact ⟨a, vs, e, by rw [h3, e2], q2⟩
      | _ => cases h
  · cases h
theorem asL_ok (w : Wd T K ρ S Z H) {d : D} {v : V} {ds : List D} (r : Rep T K ρ (Fz ρ Z H) d v) (h : asL S d = some ds) : ∃ a vs, v = .ref a ∧ SqL K H a vs ∧ RepL T K ρ (Fz ρ Z H) ds vs := by
  cases d with
  | klst es =>
    cases h
    obtain ⟨a, vs, e, q, q2⟩ := r
    exact ⟨a, vs, e, Fz_sub.seqL q, q2⟩
  | lst es =>
    obtain ⟨a, vs, e, q, q2⟩ := asLT_ok w r (show asLT S (.lst es) = some ds from h)
    exact ⟨a, vs, e, SqL.of q, q2⟩
  | cell k =>
    obtain ⟨a, vs, e, q, q2⟩ := asLT_ok w r (show asLT S (.cell k) = some ds from h)
    exact ⟨a, vs, e, SqL.of q, q2⟩
  | _ => cases h
end

/-! ### operations -/
def f2 (g : D → D → Cm D) (Fa Fb : FE) : FE := fun env S => (Fa env S).bnd fun x S1 => (Fb env S1).bnd fun y => g x y
def f1 (g : D → Cm D) (Fa : FE) : FE := fun env S => (Fa env S).bnd fun x => g x
/-- a rule for values is one for trees -/
def Op2 (T : Str → Addr) (X : Cx) (r : R2) (g : D → D → Cm D) : Prop := ∀ (W : WX) (σ : St) (ρ : Nat → Option Addr) (S : Sto) (Z : Hid) (H : Hp) (x y : D) (v u : V) (Q : VK), Wd T X.K ρ S Z H → Rep T X.K ρ (Fz ρ Z H) x v → Rep T X.K ρ (Fz ρ Z H) y u →
  Good T X.K (rD T X.K) W σ Q ρ Z H (g x y S) → r v u H Q
section
variable {T : Str → Addr} {X : Cx} {W : WX} {a b : Expr} {Fa Fb : FE} {pos : Pos}
theorem lift2 {K : PySem.W.Frag} {g : D → D → Cm D} {σ : St} {H : Hp} {Q : VK} {r : V → V → Hp → Prop} (h : lift T K (rD T K) W (f2 g Fa Fb) σ H Q)
    (k : ∀ ρ S Z H x y v u, Wd T K ρ S Z H → Rep T K ρ (Fz ρ Z H) x v → Rep T K ρ (Fz ρ Z H) y u → Good T K (rD T K) W σ Q ρ Z H (g x y S) → r v u H) : lift T K (rD T K) W Fa σ H fun v H1 => lift T K (rD T K) W Fb σ H1 fun u H2 => r v u H2 := by
  obtain ⟨ρ, S, Z, env, w, e, g⟩ := h
  refine lift_imp (lift_bnd w e g) fun v H1 ⟨ρ1, S1, d1, x1, w1, e1, r1, g1⟩ => ?_
  refine lift_imp (lift_bnd w1 e1 g1) fun u H2 ⟨ρ2, S2, d2, x2, w2, e2, r2, g2⟩ => ?_
  exact k ρ2 S2 Z H2 d1 d2 v u w2 (x2.rep r1) r2 g2
theorem lift1 {K : PySem.W.Frag} {g : D → Cm D} {σ : St} {H : Hp} {Q : VK} {r : V → Hp → Prop} (h : lift T K (rD T K) W (f1 g Fa) σ H Q)
    (k : ∀ ρ S Z H x v, Wd T K ρ S Z H → Rep T K ρ (Fz ρ Z H) x v → Good T K (rD T K) W σ Q ρ Z H (g x S) → r v H) : lift T K (rD T K) W Fa σ H r := by
  obtain ⟨ρ, S, Z, env, w, e, g⟩ := h
  exact lift_imp (lift_bnd w e g) fun v H1 ⟨ρ1, S1, d1, x1, w1, e1, r1, g1⟩ => k ρ1 S1 Z H1 d1 v w1 r1 g1
theorem pf_bin {op : Operator} {r : R2} {g : D → D → Cm D} (ho : OpR X (binaryOp op) r) (h2 : Op2 T X r g) (ha : PF T X W a Fa) (hb : PF T X W b Fb) : PF T X W (.BinOp a op b pos) (f2 g Fa Fb) :=
  pe_imp (pe_op ho ha hb) fun σ H Q q => lift2 (r := fun v u H2 => r v u H2 Q) q fun ρ S Z H x y v u w r1 r2 g => h2 W σ ρ S Z H x y v u Q w r1 r2 g
theorem pf_cmp {op : CmpOp} {r : R2} {g : D → D → Cm D} (ho : OpR X (compareOp op) r) (h2 : Op2 T X r g) (ha : PF T X W a Fa) (hb : PF T X W b Fb) (hm : behindInMarks op b = false) : PF T X W (.Compare a [op] [b] pos) (f2 g Fa Fb) :=
  pe_imp (pe_cmpR ho ha hb hm) fun σ H Q q => lift2 (r := fun v u H2 => r v u H2 Q) q fun ρ S Z H x y v u w r1 r2 g => h2 W σ ρ S Z H x y v u Q w r1 r2 g
/-- a value that is a bool -/
def toB : D → Cm Bool
  | .bl b => pure b
  | _ => stk
def fB (F : FE) : Env → Cm Bool := fun env S => (F env S).bnd toB
theorem lift_test {K : PySem.W.Frag} {F : FE} {σ : St} {H : Hp} {Q : Bool → Hp → Prop} (h : lift T K rB W (fB F) σ H Q) : lift T K (rD T K) W F σ H fun x H' => ∃ k, x = .bl k ∧ Q k H' := by
  obtain ⟨ρ, S, Z, env, w, e, g⟩ := h
  refine lift_imp (lift_bnd w e g) fun v H1 ⟨ρ1, S1, d1, x1, w1, e1, r1, g1⟩ => ?_
  cases d1 with
  | bl b => exact ⟨b, r1, g1 b H1 ρ1 .refl w1 rfl⟩
  | _ => exact g1.elim
theorem tf_cmp {op : CmpOp} {r : R2} {g : D → D → Cm D} (ho : OpR X (compareOp op) r) (h2 : Op2 T X r g) (ha : PF T X W a Fa) (hb : PF T X W b Fb) (hm : behindInMarks op b = false) : TF T X W (.Compare a [op] [b] pos) (fB (f2 g Fa Fb)) :=
  pt_imp (pt_cmpR ho ha hb hm) fun σ H Q q => lift2 (lift_test q) fun ρ S Z H x y v u w r1 r2 g => h2 W σ ρ S Z H x y v u _ w r1 r2 g
theorem tf_val {e : Expr} {F : FE} (h : PF T X W e F) (he : ∀ whole, isTrue e X.env whole = (do let v ← whole; standAt e.pos; holding [v] (truthy v)) := by intro _; rfl) : TF T X W e (fB F) :=
  pt_imp (pt_val h he) fun σ H Q q => lift_test q
end
end HT
set_option Elab.async false
set_option linter.all false
set_option maxRecDepth 100000
set_option maxHeartbeats 4000000
namespace HT
open PySem PySem.Spec L2

/-! ### arithmetic -/
def gAdd (x y : D) : Cm D := fun S => match x, y with
  | .int i, .int j => .ok (.int (i + j)) S
  | .str a, .str b => if a.length + b.length ≤ sizeLine then .ok (.str (a ++ b)) S else .stuck
  | .tup a, .tup b => if a.length + b.length ≤ sizeLine then .ok (.tup (a ++ b)) S else .stuck
  | x, y => match asLT S x, asLT S y with
    | some a, some b => if a.length + b.length ≤ sizeLine then .ok (.lst (a ++ b)) S else .stuck
    | _, _ => .stuck
def gSub (x y : D) : Cm D := match x, y with
  | .int i, .int j => pure (.int (i - j))
  | _, _ => stk
def gMul (x y : D) : Cm D := fun S => match x, y with
  | .int i, .int j => if i.natAbs.log2 + j.natAbs.log2 < 1000000 then .ok (.int (i * j)) S else .stuck
  | .tup a, .int k => if a ≠ [] ∧ 2 ≤ k ∧ k ≤ 1000 ∧ a.length ≤ 1000 then .ok (.tup (List.replicate k.toNat a).flatten) S else .stuck
  | x, .int k => match asLT S x with
    | some a => if -(2 ^ 63) ≤ k ∧ k < 2 ^ 63 ∧ a.length * k.toNat ≤ sizeLine then .ok (.lst (List.replicate k.toNat a).flatten) S else .stuck
    | none => .stuck
  | _, _ => .stuck
def gDiv (x y : D) : Cm D := match x, y with
  | .int i, .int j => if 0 < j ∧ j.natAbs.log2 < 9000 then pure (.int (i / j)) else stk
  | _, _ => stk
def gMod (x y : D) : Cm D := match x, y with
  | .int i, .int j => if 0 < j then pure (.int (i % j)) else stk
  | _, _ => stk
def gPow (x y : D) : Cm D := match x, y with
  | .int i, .int j => if 0 ≤ j ∧ (Builtin.Int.intBits i : Int) * j ≤ 2 ^ 27 then pure (.int (i ^ j.toNat)) else stk
  | _, _ => stk
section
variable {T : Str → Addr} {X : Cx}
theorem RepL.flat {T : Str → Addr} {K : PySem.W.Frag} {ρ : Nat → Option Addr} {H : Hp} {ds : List D} {vs : List V} (h : RepL T K ρ H ds vs) : ∀ n : Nat, RepL T K ρ H (List.replicate n ds).flatten (List.replicate n vs).flatten
  | 0 => rfl
  | n + 1 => by
    rw [List.replicate_succ, List.replicate_succ, List.flatten_cons, List.flatten_cons]
    exact h.app (RepL.flat h n)
abbrev rAdd4 (X : Cx) : R2 := fun x y H Q => (fun x y H Q => ∃ i j, x = V.int i ∧ y = .int j ∧ Q (.int (i + j)) H) x y H Q ∨ (fun x y H Q => (fun x y H Q => ∃ i j, x = V.str i ∧ y = .str j ∧ i.length + j.length ≤ sizeLine ∧ Q (.str (i ++ j)) H) x y H Q ∨ (fun x y H Q => rCat x y H Q ∨ rCatA X.K x y H Q) x y H Q) x y H Q
theorem op_add4 : OpR X (binaryOp .Add) (rAdd4 X) := OpR.or op_add (OpR.or op_add_str (OpR.or op_cat op_catA))
theorem repL_nil {T : Str → Addr} {K : PySem.W.Frag} {ρ : Nat → Option Addr} {H : Hp} {ds : List D} {vs : List V} (h : RepL T K ρ H ds vs) : vs = [] ↔ ds = [] := by
  have e := h.len
  cases ds <;> cases vs <;> simp at e ⊢
theorem add_lists {W : WX} {σ : St} {ρ : Nat → Option Addr} {S : Sto} {Z : Hid} {H : Hp} {x y : D} {v u : V} {Q : VK} {a b : List D} (w : Wd T X.K ρ S Z H) (rx : Rep T X.K ρ (Fz ρ Z H) x v) (ry : Rep T X.K ρ (Fz ρ Z H) y u)
    (hx : asLT S x = some a) (hy : asLT S y = some b) (hl : a.length + b.length ≤ sizeLine) (g : Good T X.K (rD T X.K) W σ Q ρ Z H (.ok (.lst (a ++ b)) S)) : rAdd4 X v u H Q := by
  obtain ⟨p, vs, rfl, h1, h2⟩ := asLT_ok w rx hx
  obtain ⟨q, us, rfl, h3, h4⟩ := asLT_ok w ry hy
  refine .inr (.inr (.inl ⟨p, q, vs, us, rfl, rfl, h1, h3, by rw [← h2.len, ← h4.len]; exact hl, fun l hl => ?_⟩))
  obtain ⟨e, w', f⟩ := new_frz (o := .lst (vs ++ us)) w hl
  exact g _ _ ρ e w' ⟨l, _, rfl, f, (e.repL h2).app (e.repL h4)⟩
theorem ok_gAdd : Op2 T X (rAdd4 X) gAdd := by
  intro W σ ρ S Z H x y v u Q w rx ry g
  unfold gAdd at g
  split at g
  · cases rx
    cases ry
    exact .inl ⟨_, _, rfl, rfl, g.now w rfl⟩
  · split at g
    · rename_i hl
      cases rx
      cases ry
      exact .inr (.inl ⟨_, _, rfl, rfl, hl, g.now w rfl⟩)
    · exact g.elim
  · rename_i a b
    split at g
    · rename_i hl
      obtain ⟨p, vs, rfl, h1, h2⟩ := rx
      obtain ⟨q, us, rfl, h3, h4⟩ := ry
      refine .inr (.inr (.inr ⟨p, q, vs, us, rfl, rfl, Fz_sub.seqT h1, Fz_sub.seqT h3, by rw [← h2.len, ← h4.len]; exact hl, fun e => ?_, fun _ e => ?_, fun _ _ l hl => ?_⟩))
      · have ea : a = [] := (repL_nil h2).mp e
        subst ea
        exact g.now w ⟨q, us, rfl, h3, h4⟩
      · have eb : b = [] := (repL_nil h4).mp e
        subst eb
        rw [List.append_nil] at g
        exact g.now w ⟨p, vs, rfl, h1, h2⟩
      · obtain ⟨e, w', f⟩ := new_frz (o := .tup (vs ++ us)) w hl
        exact g _ _ ρ e w' ⟨l, _, rfl, SqT.of f, (e.repL h2).app (e.repL h4)⟩
    · exact g.elim
  · cases hx : asLT S x with
    | none =>
      rw [hx] at g
      exact g.elim
    | some a =>
      cases hy : asLT S y with
      | none =>
        rw [hx, hy] at g
        exact g.elim
      | some b =>
        rw [hx, hy] at g
        dsimp only at g
        split at g
        · rename_i hl
          exact add_lists w rx ry hx hy hl g
        · exact g.elim
theorem ok_gSub : Op2 T X (rI0 fun i j => .int (i - j)) gSub := by
  intro W σ ρ S Z H x y v u Q w rx ry g
  unfold gSub at g
  split at g
  · cases rx
    cases ry
    exact ⟨_, _, rfl, rfl, g.now w rfl⟩
  · exact g.elim
abbrev rMul3 (X : Cx) : R2 := fun x y H Q => rI CMulW (fun i j => .int (i * j)) x y H Q ∨ (fun x y H Q => rRep x y H Q ∨ rRepT X.K x y H Q) x y H Q
theorem op_mul3 : OpR X (binaryOp .Mult) (rMul3 X) := OpR.or op_mulW (OpR.or op_rep op_repT)
theorem ok_gMul : Op2 T X (rMul3 X) gMul := by
  intro W σ ρ S Z H x y v u Q w rx ry g
  unfold gMul at g
  split at g
  · split at g
    · rename_i hl
      cases rx
      cases ry
      exact .inl ⟨_, _, rfl, rfl, hl, g.now w rfl⟩
    · exact g.elim
  · rename_i a k
    split at g
    · rename_i hl
      obtain ⟨h0, h1, h2, h3⟩ := hl
      obtain ⟨p, vs, rfl, q1, q2⟩ := rx
      cases ry
      refine .inr (.inr ⟨p, k, vs, rfl, rfl, Fz_sub.seqT q1, fun e => h0 ((repL_nil q2).mp e), h1, h2, by rw [← q2.len]; exact h3, fun l hl => ?_⟩)
      obtain ⟨e, w', f⟩ := new_frz (o := .tup (List.replicate k.toNat vs).flatten) w hl
      exact g _ _ ρ e w' ⟨l, _, rfl, SqT.of f, (e.repL q2).flat _⟩
    · exact g.elim
  · rename_i k _ _
    cases hx : asLT S x with
    | none =>
      rw [hx] at g
      exact g.elim
    | some a =>
      rw [hx] at g
      dsimp only at g
      split at g
      · rename_i hl
        obtain ⟨h1, h2, h3⟩ := hl
        obtain ⟨p, vs, rfl, q1, q2⟩ := asLT_ok w rx hx
        cases ry
        refine .inr (.inl ⟨p, k, vs, rfl, rfl, q1, h1, h2, by rw [← q2.len]; exact h3, fun l hl => ?_⟩)
        obtain ⟨e, w', f⟩ := new_frz (o := .lst (List.replicate k.toNat vs).flatten) w hl
        exact g _ _ ρ e w' ⟨l, _, rfl, f, (e.repL q2).flat _⟩
      · exact g.elim
  · exact g.elim
theorem ok_gDiv : Op2 T X (rI CDivW fun i j => .int (i / j)) gDiv := by
  intro W σ ρ S Z H x y v u Q w rx ry g
  unfold gDiv at g
  split at g
  · split at g
    · rename_i hl
      cases rx
      cases ry
      exact ⟨_, _, rfl, rfl, hl, g.now w rfl⟩
    · exact g.elim
  · exact g.elim
theorem ok_gMod : Op2 T X (rI (fun _ j => 0 < j) fun i j => .int (i % j)) gMod := by
  intro W σ ρ S Z H x y v u Q w rx ry g
  unfold gMod at g
  split at g
  · split at g
    · rename_i hl
      cases rx
      cases ry
      exact ⟨_, _, rfl, rfl, hl, g.now w rfl⟩
    · exact g.elim
  · exact g.elim
theorem op_powW {X : Cx} : OpR X (binaryOp .Pow) (rI (fun i j => 0 ≤ j ∧ (Builtin.Int.intBits i : Int) * j ≤ 2 ^ 27) fun i j => .int (i ^ j.toNat)) := opI fun _ _ _ _ _ _ _ hc q => PyProof.Rows.pow_int hc.1 hc.2 q
theorem ok_gPow : Op2 T X (rI (fun i j => 0 ≤ j ∧ (Builtin.Int.intBits i : Int) * j ≤ 2 ^ 27) fun i j => .int (i ^ j.toNat)) gPow := by
  intro W σ ρ S Z H x y v u Q w rx ry g
  unfold gPow at g
  split at g
  · split at g
    · rename_i hl
      cases rx
      cases ry
      exact ⟨_, _, rfl, rfl, hl, g.now w rfl⟩
    · exact g.elim
  · exact g.elim
/-- an order of ints -/
def gOrd (p : Int → Int → Bool) (x y : D) : Cm D := match x, y with
  | .int i, .int j => pure (.bl (p i j))
  | _, _ => stk
theorem ok_gOrd (p : Int → Int → Bool) : Op2 T X (rI0 fun i j => .bl (p i j)) (gOrd p) := by
  intro W σ ρ S Z H x y v u Q w rx ry g
  unfold gOrd at g
  split at g
  · cases rx
    cases ry
    exact ⟨_, _, rfl, rfl, g.now w rfl⟩
  · exact g.elim
end

/-! ### data -/
mutual
/-- the data that a tree tells, f: what the cells tell -/
def deep0 (f : Nat → Option PyData) : D → Option PyData
  | .non => some .none
  | .bl b => some (.bool b)
  | .int i => some (.int i)
  | .str x => some (.str x)
  | .lst ds => (deepL f ds).map .list
  | .klst ds => (deepL f ds).map .list
  | .tup ds => (deepL f ds).map .tuple
  | .cell k => f k
  | .obj _ _ => none
  | .exn _ _ => none
  | .dK _ => none
  | .dT _ => none
  | .glob _ => none
  | .ty _ => none
def deepL (f : Nat → Option PyData) : List D → Option (List PyData)
  | [] => some []
  | d :: ds => match deep0 f d, deepL f ds with
    | some a, some b => some (a :: b)
    | _, _ => none
end
/-- .. through n cells -/
def deepC (S : Sto) : Nat → Nat → Option PyData
  | 0, _ => none
  | n + 1, k => match S[k]? with
    | some (.lst ds) => (deepL (deepC S n) ds).map .list
    | _ => none
def deep (S : Sto) (d : D) : Option PyData := deep0 (deepC S 4) d
section
variable {T : Str → Addr} {K : PySem.W.Frag} {ρ : Nat → Option Addr} {Z : Hid} {H : Hp} {S : Sto}
mutual
theorem deep0_dp {F : Hp} {f : Nat → Option PyData} (hs : Sub F H) (hf : ∀ k pd a, f k = some pd → ρ k = some a → Dp K H (.ref a) pd) : ∀ (d : D) (v : V) (pd : PyData), deep0 f d = some pd → Rep T K ρ F d v → Dp K H v pd
  | .non, v, pd, h, r => by
    cases h
    cases r
    exact .non
  | .bl b, v, pd, h, r => by
    cases h
    cases r
    exact .bl _
  | .int i, v, pd, h, r => by
    cases h
    cases r
    exact .int _
  | .str x, v, pd, h, r => by
    cases h
    cases r
    exact .str _
  | .lst ds, v, pd, h, r => by
    obtain ⟨a, vs, rfl, q, q2⟩ := r
    have h' : (deepL f ds).map PyData.list = some pd := h
    cases e : deepL f ds with
    | none =>
      rw [e] at h'
      cases h'
    | some l =>
      rw [e] at h'
      cases h'
      exact .lst (SqL.of (hs _ _ q)) (deepL_dp hs hf ds vs l e q2)
  | .klst ds, v, pd, h, r => by
    obtain ⟨a, vs, rfl, q, q2⟩ := r
    have h' : (deepL f ds).map PyData.list = some pd := h
    cases e : deepL f ds with
    | none =>
      rw [e] at h'
      cases h'
    | some l =>
      rw [e] at h'
      cases h'
      exact .lst (Sub.seqL hs q) (deepL_dp hs hf ds vs l e q2)
  | .tup ds, v, pd, h, r => by
    obtain ⟨a, vs, rfl, q, q2⟩ := r
    have h' : (deepL f ds).map PyData.tuple = some pd := h
    cases e : deepL f ds with
    | none =>
      rw [e] at h'
      cases h'
    | some l =>
      rw [e] at h'
      cases h'
      exact .tup (Sub.seqT hs q) (deepL_dp hs hf ds vs l e q2)
  | .cell k, v, pd, h, r => by
    obtain ⟨a, rfl, q⟩ := r
    exact hf k pd a h q
  | .obj _ _, _, _, h, _ => by cases h
  | .exn _ _, _, _, h, _ => by cases h
  | .dK _, _, _, h, _ => by cases h
  | .dT _, _, _, h, _ => by cases h
  | .glob _, _, _, h, _ => by cases h
  | .ty _, _, _, h, _ => by cases h
theorem deepL_dp {F : Hp} {f : Nat → Option PyData} (hs : Sub F H) (hf : ∀ k pd a, f k = some pd → ρ k = some a → Dp K H (.ref a) pd) : ∀ (ds : List D) (vs : List V) (l : List PyData), deepL f ds = some l → RepL T K ρ F ds vs → DpAll K H vs l
  | [], vs, l, h, r => by
    have r' : vs = [] := r
    subst r'
    cases h
    exact .nil
  | d :: ds, vs, l, h, r => by
    obtain ⟨v, us, rfl, r1, r2⟩ := r
    have h' : (match deep0 f d, deepL f ds with
      | some a, some b => some (a :: b)
      | _, _ => none) = some l := h
    cases e1 : deep0 f d with
    | none =>
      rw [e1] at h'
      cases h'
    | some a =>
      cases e2 : deepL f ds with
      | none =>
        rw [e1, e2] at h'
        cases h'
      | some b =>
        rw [e1, e2] at h'
        cases h'
        exact .cons (deep0_dp hs hf d v a e1 r1) (deepL_dp hs hf ds us b e2 r2)
end
theorem deepC_dp (w : Wd T K ρ S Z H) : ∀ (n k : Nat) (pd : PyData) (a : Addr), deepC S n k = some pd → ρ k = some a → Dp K H (.ref a) pd
  | 0, k, pd, a, h, _ => by cases h
  | n + 1, k, pd, a, h, e => by
    unfold deepC at h
    cases hc : S[k]? with
    | none =>
      rw [hc] at h
      cases h
    | some c =>
      rw [hc] at h
      obtain ⟨b, o, h1, h2, h3, h4⟩ := w.cells k c hc
      rw [e] at h1
      cases h1
      cases c with
      | lst ds =>
        obtain ⟨vs, rfl, q⟩ := h4
        cases e2 : deepL (deepC S n) ds with
        | none =>
          dsimp only at h
          rw [e2] at h
          cases h
        | some l =>
          dsimp only at h
          rw [e2] at h
          cases h
          exact .lst (SqL.of h3) (deepL_dp Fz_sub (fun k pd a h1 h2 => deepC_dp w n k pd a h1 h2) ds vs l e2 q)
      | _ => cases h
theorem deep_dp (w : Wd T K ρ S Z H) {d : D} {v : V} {pd : PyData} (h : deep S d = some pd) (r : Rep T K ρ (Fz ρ Z H) d v) : Dp K H v pd :=
  deep0_dp Fz_sub (fun k pd a h1 h2 => deepC_dp w 4 k pd a h1 h2) d v pd h r
end

/-! ### ==, in -/
/-- == of data -/
def gEq (neg : Bool) (x y : D) : Cm D := fun S => match deep S x, deep S y with
  | some a, some b => if SeqAt.shaped a = true ∧ SeqAt.shaped b = true then .ok (.bl (if neg then !PyData.eqv a b else PyData.eqv a b)) S else .stuck
  | _, _ => .stuck
section
variable {T : Str → Addr} {X : Cx}
theorem ok_gEq : Op2 T X (rEqD X.K) (gEq false) := by
  intro W σ ρ S Z H x y v u Q w rx ry g
  unfold gEq at g
  split at g
  · rename_i a b h1 h2
    split at g
    · rename_i hs
      exact ⟨a, b, deep_dp w h1 rx, deep_dp w h2 ry, hs.1, hs.2, g.now w rfl⟩
    · exact g.elim
  · exact g.elim
theorem ok_gNe : Op2 T X (rNeD X.K) (gEq true) := by
  intro W σ ρ S Z H x y v u Q w rx ry g
  unfold gEq at g
  split at g
  · rename_i a b h1 h2
    split at g
    · rename_i hs
      exact ⟨a, b, deep_dp w h1 rx, deep_dp w h2 ry, hs.1, hs.2, g.now w rfl⟩
    · exact g.elim
  · exact g.elim
/-- in a list of data -/
def gInL (neg : Bool) (x y : D) : Cm D := fun S => match deep S x, deep S y with
  | some a, some (.list ds) => if SeqAt.shaped a = true ∧ SeqAt.shaped (.list ds) = true then .ok (.bl (if neg then !(ds.any fun z => PyData.eqv z a) else ds.any fun z => PyData.eqv z a)) S else .stuck
  | _, _ => .stuck
theorem ok_gInL : Op2 T X (rInD X.K) (gInL false) := by
  intro W σ ρ S Z H x y v u Q w rx ry g
  unfold gInL at g
  split at g
  · rename_i a b h1 h2
    split at g
    · rename_i hs
      exact ⟨a, b, deep_dp w h1 rx, deep_dp w h2 ry, hs.1, hs.2, g.now w rfl⟩
    · exact g.elim
  · exact g.elim
theorem ok_gNotInL : Op2 T X (rNotInD X.K) (gInL true) := by
  intro W σ ρ S Z H x y v u Q w rx ry g
  unfold gInL at g
  split at g
  · rename_i a b h1 h2
    split at g
    · rename_i hs
      exact ⟨a, b, deep_dp w h1 rx, deep_dp w h2 ry, hs.1, hs.2, g.now w rfl⟩
    · exact g.elim
  · exact g.elim
/-- flat things among flat things (a tuple, a list) -/
def flatD : D → Option V
  | .non => some .non
  | .bl b => some (.bl b)
  | .int i => some (.int i)
  | .str x => some (.str x)
  | _ => none
def flatL : List D → Option (List V)
  | [] => some []
  | d :: ds => match flatD d, flatL ds with
    | some a, some b => some (a :: b)
    | _, _ => none
theorem flatD_ok {K : PySem.W.Frag} {ρ : Nat → Option Addr} {F : Hp} {d : D} {v a : V} (h : flatD d = some a) (r : Rep T K ρ F d v) : v = a ∧ flatV v = true := by
  cases d <;> first
    | (cases h; cases r; exact ⟨rfl, rfl⟩)
    | cases h
theorem flatL_ok {K : PySem.W.Frag} {ρ : Nat → Option Addr} {F : Hp} : ∀ {ds : List D} {vs as : List V}, flatL ds = some as → RepL T K ρ F ds vs → vs = as ∧ vs.all flatV = true
  | [], vs, as, h, r => by
    have r' : vs = [] := r
    subst r'
    cases h
    exact ⟨rfl, rfl⟩
  | d :: ds, vs, as, h, r => by
    obtain ⟨v, us, rfl, r1, r2⟩ := r
    unfold flatL at h
    cases e1 : flatD d with
    | none =>
      rw [e1] at h
      cases h
    | some a =>
      cases e2 : flatL ds with
      | none =>
        rw [e1, e2] at h
        cases h
      | some b =>
        rw [e1, e2] at h
        cases h
        obtain ⟨p1, p2⟩ := flatD_ok e1 r1
        obtain ⟨p3, p4⟩ := flatL_ok e2 r2
        exact ⟨by rw [p1, p3], by rw [List.all_cons, p2, p4]; rfl⟩
/-- the items of a tuple or list -/
def asQ (S : Sto) : D → Option (List D)
  | .tup ds => some ds
  | d => asL S d
theorem asQ_ok {K : PySem.W.Frag} {ρ : Nat → Option Addr} {Z : Hid} {H : Hp} {S : Sto} (w : Wd T K ρ S Z H) {d : D} {v : V} {ds : List D} (r : Rep T K ρ (Fz ρ Z H) d v) (h : asQ S d = some ds) : ∃ a vs, v = .ref a ∧ (SqL K H a vs ∨ SqT K H a vs) ∧ RepL T K ρ (Fz ρ Z H) ds vs := by
  unfold asQ at h
  split at h
  · cases h
    obtain ⟨a, vs, e, q, q2⟩ := r
    exact ⟨a, vs, e, .inr (Fz_sub.seqT q), q2⟩
  · obtain ⟨a, vs, e, q, q2⟩ := asL_ok w r h
    exact ⟨a, vs, e, .inl q, q2⟩
def gInF (neg : Bool) (x y : D) : Cm D := fun S => match asQ S y with
  | some ds => (match flatD x, flatL ds with
    | some a, some as => .ok (.bl (if neg then !inV a as else inV a as)) S
    | _, _ => .stuck)
  | none => .stuck
theorem ok_gInF (neg : Bool) : Op2 T X (rIn X.K neg) (gInF neg) := by
  intro W σ ρ S Z H x y v u Q w rx ry g
  unfold gInF at g
  cases hq : asQ S y with
  | none =>
    rw [hq] at g
    exact g.elim
  | some ds =>
    rw [hq] at g
    dsimp only at g
    split at g
    · rename_i a as h1 h2
      obtain ⟨p, vs, rfl, q1, q2⟩ := asQ_ok w ry hq
      obtain ⟨e1, e2⟩ := flatD_ok h1 rx
      obtain ⟨e3, e4⟩ := flatL_ok h2 q2
      subst e1
      subst e3
      exact ⟨p, vs, rfl, q1, e2, e4, g.now w rfl⟩
    · exact g.elim
/-- one sign in a text -/
def gInS (neg : Bool) (x y : D) : Cm D := match x, y with
  | .str c, .str z => if c.cps.size = 1 then pure (.bl (if neg then !decide (c.cps.getD 0 0 ∈ z.cps.toList) else decide (c.cps.getD 0 0 ∈ z.cps.toList))) else stk
  | _, _ => stk
theorem one_sign {c : Str} (h : c.cps.size = 1) : c = ⟨#[c.cps.getD 0 0]⟩ := by
  obtain ⟨l⟩ := c
  obtain ⟨l⟩ := l
  match l, h with
  | [x], _ => rfl
theorem ok_gInS : Op2 T X (fun x y H Q => ∃ (c : Nat) (z : Str), x = .str ⟨#[c]⟩ ∧ y = .str z ∧ Q (.bl (decide (c ∈ z.cps.toList))) H) (gInS false) := by
  intro W σ ρ S Z H x y v u Q w rx ry g
  unfold gInS at g
  split at g
  · split at g
    · rename_i c z hc
      cases rx
      cases ry
      exact ⟨c.cps.getD 0 0, z, congrArg V.str (one_sign hc), rfl, g.now w rfl⟩
    · exact g.elim
  · exact g.elim
theorem ok_gNotInS : Op2 T X (fun x y H Q => ∃ (c : Nat) (z : Str), x = .str ⟨#[c]⟩ ∧ y = .str z ∧ Q (.bl (!decide (c ∈ z.cps.toList))) H) (gInS true) := by
  intro W σ ρ S Z H x y v u Q w rx ry g
  unfold gInS at g
  split at g
  · split at g
    · rename_i c z hc
      cases rx
      cases ry
      exact ⟨c.cps.getD 0 0, z, congrArg V.str (one_sign hc), rfl, g.now w rfl⟩
    · exact g.elim
  · exact g.elim
/-- is None -/
def isNon : D → Bool
  | .non => true
  | _ => false
theorem isNon_ok {K : PySem.W.Frag} {ρ : Nat → Option Addr} {F : Hp} {d : D} {v : V} (r : Rep T K ρ F d v) : decide (v = .non) = isNon d := by
  cases d with
  | non => cases r; rfl
  | bl b => cases r; rfl
  | int i => cases r; rfl
  | str x => cases r; rfl
  | lst ds => obtain ⟨a, vs, rfl, _⟩ := r; rfl
  | klst ds => obtain ⟨a, vs, rfl, _⟩ := r; rfl
  | tup ds => obtain ⟨a, vs, rfl, _⟩ := r; rfl
  | obj C fs => obtain ⟨a, dx, vs, rfl, _⟩ := r; rfl
  | exn C fs => obtain ⟨a, dx, vs, rfl, _⟩ := r; rfl
  | dK kvs => obtain ⟨a, vs, rfl, _⟩ := r; rfl
  | dT kvs => obtain ⟨a, vs, rfl, _⟩ := r; rfl
  | cell k => obtain ⟨a, rfl, _⟩ := r; rfl
  | glob x => cases r; rfl
  | ty n => cases r; rfl
def gIsN (neg : Bool) (x y : D) : Cm D := match y with
  | .non => pure (.bl (if neg then !isNon x else isNon x))
  | _ => stk
theorem ok_gIsN : Op2 T X (fun x y H Q => y = .non ∧ Q (.bl (decide (x = .non))) H) (gIsN false) := by
  intro W σ ρ S Z H x y v u Q w rx ry g
  unfold gIsN at g
  split at g
  · cases ry
    exact ⟨rfl, g.now w (by rw [isNon_ok rx]; rfl)⟩
  · exact g.elim
theorem ok_gIsNotN : Op2 T X (fun x y H Q => y = .non ∧ Q (.bl (!decide (x = .non))) H) (gIsN true) := by
  intro W σ ρ S Z H x y v u Q w rx ry g
  unfold gIsN at g
  split at g
  · cases ry
    exact ⟨rfl, g.now w (by rw [isNon_ok rx]; rfl)⟩
  · exact g.elim
end
end HT
set_option Elab.async false
set_option linter.all false
set_option maxRecDepth 100000
set_option maxHeartbeats 4000000
namespace HT
open PySem PySem.Spec L2

/-! ### new objects that nobody else holds -/
/-- hidden, and p -/
def plusZ (Z : Hid) (p : Addr) : Hid := ⟨fun a => Z a ∨ a = p, Z.me⟩
/-- what an object is as a tree -/
def frzD : CO → D
  | .lst ds => .lst ds
  | .dK kvs => .dK kvs
  | .dT kvs => .dT kvs
  | .ins C fs => .obj C fs
section
variable {T : Str → Addr} {K : PySem.W.Frag} {ρ ρ' : Nat → Option Addr} {Z : Hid} {H H' : Hp} {S : Sto} {p : Addr} {o : HO} {c : CO}
/-- a later world in which a new object stands at p, hidden -/
structure Neu (T : Str → Addr) (K : PySem.W.Frag) (ρ : Nat → Option Addr) (Z : Hid) (H : Hp) (ρ' : Nat → Option Addr) (S' : Sto) (H' : Hp) (p : Addr) (c : CO) : Prop where
  cells : ∀ k a, ρ k = some a → ρ' k = some a
  frz : Sub (Fz ρ Z H) (Fz ρ' (plusZ Z p) H')
  hid : ∀ a, Z a → H' a = H a
  w : Wd T K ρ' S' (plusZ Z p) H'
  nz : ¬ Z p
  obj : ∃ o, H' p = some o ∧ HObj T K ρ' (Fz ρ' (plusZ Z p) H') c o
theorem fz_minus : Sub (Fz ρ (plusZ Z p) H) (Fz ρ Z H) := fun a o h => by
  obtain ⟨h1, h2, h3⟩ := Fz_at h
  exact Fz_mk h1 (fun z => h2 (.inl z)) h3
theorem Wd.minus (w : Wd T K ρ S (plusZ Z p) H) : Wd T K ρ S Z H :=
  ⟨w.dom, fun k c hc => by
    obtain ⟨a, o, h1, h2, h3, h4⟩ := w.cells k c hc
    exact ⟨a, o, h1, fun z => h2 (.inl z), h3, h4.mono (fun _ _ h => h) fz_minus⟩, w.inj, fun a z => w.there a (.inl z)⟩
theorem HObj.frzD {F : Hp} {F' : Hp} (h : HObj T K ρ F c o) (hs : Sub F F') (hp : F' p = some o) : Rep T K ρ F' (frzD c) (.ref p) := by
  have h' := HObj.mono (ρ' := ρ) (fun _ _ h => h) hs h
  cases c with
  | lst ds =>
    obtain ⟨vs, rfl, q⟩ := h'
    exact ⟨p, vs, rfl, hp, q⟩
  | dK kvs =>
    obtain ⟨vs, rfl, q⟩ := h'
    exact ⟨p, vs, rfl, hp, q⟩
  | dT kvs =>
    obtain ⟨vs, rfl, q⟩ := h'
    exact ⟨p, vs, rfl, hp, q⟩
  | ins C fs =>
    obtain ⟨dx, vs, rfl, q⟩ := h'
    exact ⟨p, dx, vs, rfl, hp, q⟩
/-- it is frozen -/
theorem Neu.freeze (n : Neu T K ρ Z H ρ' S H' p c) : Ext ρ Z H ρ' H' ∧ Wd T K ρ' S Z H' ∧ Rep T K ρ' (Fz ρ' Z H') (frzD c) (.ref p) := by
  obtain ⟨o, h1, h2⟩ := n.obj
  have nr : ∀ k, ρ' k ≠ some p := fun k e => by
    have hk := n.w.dom k p e
    obtain ⟨a, u, g1, g2, _⟩ := n.w.cells k S[k] (List.getElem?_eq_getElem hk)
    rw [e] at g1
    cases g1
    exact g2 (.inr rfl)
  exact ⟨⟨n.cells, fun a u h => fz_minus a u (n.frz a u h), n.hid⟩, n.w.minus, h2.frzD fz_minus (Fz_mk h1 n.nz nr)⟩
/-- it is a cell -/
theorem Neu.cell (n : Neu T K ρ Z H ρ' S H' p c) : Ext ρ Z H (more ρ' S.length p) H' ∧ Wd T K (more ρ' S.length p) (S ++ [c]) Z H' ∧ more ρ' S.length p S.length = some p := by
  obtain ⟨o, h1, h2⟩ := n.obj
  have w := n.w
  have old : ∀ k a, ρ' k = some a → more ρ' S.length p k = some a := fun k a e => by
    unfold more
    rw [if_neg (Nat.ne_of_lt (w.dom k a e))]
    exact e
  have inv : ∀ k a, more ρ' S.length p k = some a → (k = S.length ∧ a = p) ∨ ρ' k = some a := fun k a e => by
    unfold more at e
    split at e
    · rename_i hk
      exact .inl ⟨hk, (Option.some.inj e).symm⟩
    · exact .inr e
  have nr : ∀ k, ρ' k ≠ some p := fun k e => by
    have hk := w.dom k p e
    obtain ⟨a, u, g1, g2, _⟩ := w.cells k S[k] (List.getElem?_eq_getElem hk)
    rw [e] at g1
    cases g1
    exact g2 (.inr rfl)
  have sub : Sub (Fz ρ' (plusZ Z p) H') (Fz (more ρ' S.length p) Z H') := fun a u e => by
    obtain ⟨e1, e2, e3⟩ := Fz_at e
    refine Fz_mk e1 (fun z => e2 (.inl z)) fun k z => ?_
    rcases inv k a z with ⟨_, q⟩ | q
    · exact e2 (.inr q)
    · exact e3 k q
  refine ⟨⟨fun k a h => old k a (n.cells k a h), fun a u h => sub a u (n.frz a u h), n.hid⟩, ⟨fun k a e => ?_, fun k c' hc => ?_, fun j k a e1 e2 => ?_, fun a z => w.there a (.inl z)⟩, by unfold more; rw [if_pos rfl]⟩
  · rw [List.length_append, List.length_singleton]
    rcases inv k a e with ⟨q, _⟩ | q
    · omega
    · have := w.dom k a q
      omega
  · by_cases hk : k < S.length
    · rw [List.getElem?_append_left hk] at hc
      obtain ⟨a, u, g1, g2, g3, g4⟩ := w.cells k c' hc
      exact ⟨a, u, old k a g1, fun z => g2 (.inl z), g3, g4.mono old sub⟩
    · rw [List.getElem?_append_right (by omega)] at hc
      have hk0 : k = S.length := by
        have := (List.getElem?_eq_some_iff.mp hc).1
        rw [List.length_singleton] at this
        omega
      subst hk0
      rw [Nat.sub_self] at hc
      cases hc
      exact ⟨p, o, by unfold more; rw [if_pos rfl], n.nz, h1, h2.mono old sub⟩
  · rcases inv j a e1 with ⟨q1, q2⟩ | q1
    · rcases inv k a e2 with ⟨q3, _⟩ | q3
      · rw [q1, q3]
      · rw [q2] at q3
        exact absurd q3 (nr k)
    · rcases inv k a e2 with ⟨_, q4⟩ | q3
      · rw [q4] at q1
        exact absurd q1 (nr j)
      · exact w.inj j k a q1 q3
/-- a new object laid -/
theorem new_neu (w : Wd T K ρ S Z H) (hp : H p = none) (h : HObj T K ρ (Fz ρ Z H) c o) : Neu T K ρ Z H ρ S (upd H p o) p c := by
  obtain ⟨nz, nr⟩ := fz_new w hp
  have ne : ∀ a u, H a = some u → a ≠ p := fun a u e z => by
    rw [z, hp] at e
    cases e
  have sub : Sub (Fz ρ Z H) (Fz ρ (plusZ Z p) (upd H p o)) := fun a u e => by
    obtain ⟨e1, e2, e3⟩ := Fz_at e
    refine Fz_mk (by rw [upd_ne (ne a u e1)]; exact e1) (fun z => ?_) e3
    rcases z with z | z
    · exact e2 z
    · exact ne a u e1 z
  refine ⟨fun _ _ h => h, sub, fun a z => upd_ne (fun e => nz (e ▸ z)), ⟨w.dom, fun k c hc => ?_, w.inj, fun a z => ?_⟩, nz, ⟨o, upd_same, h.mono (fun _ _ h => h) sub⟩⟩
  · obtain ⟨a, u, h1, h2, h3, h4⟩ := w.cells k c hc
    refine ⟨a, u, h1, fun z => ?_, by rw [upd_ne (ne a u h3)]; exact h3, h4.mono (fun _ _ h => h) sub⟩
    rcases z with z | z
    · exact h2 z
    · exact ne a u h3 z
  · rcases z with z | z
    · obtain ⟨u, e⟩ := w.there a z
      exact ⟨u, by rw [upd_ne (ne a u e)]; exact e⟩
    · exact ⟨o, by rw [z]; exact upd_same⟩
theorem Neu.after {ρ0 : Nat → Option Addr} {H0 : Hp} (x : Ext ρ0 Z H0 ρ H) (n : Neu T K ρ Z H ρ' S H' p c) : Neu T K ρ0 Z H0 ρ' S H' p c :=
  ⟨fun k a h => n.cells k a (x.cells k a h), fun a u h => n.frz a u (x.frz a u h), fun a z => (n.hid a z).trans (x.hid a z), n.w, n.nz, n.obj⟩
end

section
variable (T : Str → Addr) (K : PySem.W.Frag)
def GoodO (W : WX) (σ : St) (Q : VK) (ρ : Nat → Option Addr) (Z : Hid) (H : Hp) : R CO → Prop
  | .ok c S' => ∀ p H' ρ', Neu T K ρ Z H ρ' S' H' p c → Q (.ref p) H'
  | .exc C fs S' => ∀ dx vs H' ρ', Ext ρ Z H ρ' H' → Wd T K ρ' S' Z H' → Fz ρ' Z H' dx = some (.xd vs) → RepF T K ρ' (Fz ρ' Z H') fs vs → W (.ref (T C)) (some dx) σ H'
  | .stuck => False
def liftO (W : WX) (F : Env → Cm CO) : TE := fun σ H Q => ∃ ρ S Z env, Wd T K ρ S Z H ∧ ER T K ρ Z H σ env ∧ GoodO T K W σ Q ρ Z H (F env S)
end
/-- an expression that makes a new object -/
abbrev OF (T : Str → Addr) (X : Cx) (W : WX) (e : Expr) (F : Env → Cm CO) : Prop := PE X e (liftO T X.K W F)
/-- .. as a tree; as a cell -/
def fFrz (F : Env → Cm CO) : FE := fun env S => (F env S).bnd fun c S' => .ok (frzD c) S'
def fCell (F : Env → Cm CO) : FE := fun env S => (F env S).bnd fun c S' => .ok (.cell S'.length) (S' ++ [c])
section
variable {T : Str → Addr} {X : Cx} {W : WX} {e : Expr} {F : Env → Cm CO}
theorem pf_frz (h : OF T X W e F) : PF T X W e (fFrz F) := by
  refine pe_imp h fun σ H Q q => ?_
  obtain ⟨ρ, S, Z, env, w, er, g⟩ := q
  refine ⟨ρ, S, Z, env, w, er, ?_⟩
  unfold fFrz at g
  cases hF : F env S with
  | ok c S' =>
    rw [hF] at g
    intro p H' ρ' n
    obtain ⟨x, w', r⟩ := n.freeze
    exact g _ H' ρ' x w' r
  | exc C fs S' =>
    rw [hF] at g
    exact g
  | stuck =>
    rw [hF] at g
    exact g
theorem pf_cell (h : OF T X W e F) : PF T X W e (fCell F) := by
  refine pe_imp h fun σ H Q q => ?_
  obtain ⟨ρ, S, Z, env, w, er, g⟩ := q
  refine ⟨ρ, S, Z, env, w, er, ?_⟩
  unfold fCell at g
  cases hF : F env S with
  | ok c S' =>
    rw [hF] at g
    intro p H' ρ' n
    obtain ⟨x, w', r⟩ := n.cell
    exact g _ H' _ x w' ⟨p, rfl, r⟩
  | exc C fs S' =>
    rw [hF] at g
    exact g
  | stuck =>
    rw [hF] at g
    exact g
end

/-! ### arguments, displays -/
def aNil : Env → Cm (List D) := fun _ => pure []
def aCons (Fa : FE) (Fr : Env → Cm (List D)) : Env → Cm (List D) := fun env S => (Fa env S).bnd fun x S1 => (Fr env S1).bnd fun xs S2 => .ok (x :: xs) S2
section
variable {T : Str → Addr} {X : Cx} {W : WX} {e : Expr} {es : List Expr} {Fa : FE} {Fr : Env → Cm (List D)} {pos : Pos}
theorem af_nil : AF T X W [] aNil := by
  refine pa_imp pa_nil fun σ H Q q => ?_
  obtain ⟨ρ, S, Z, env, w, er, g⟩ := q
  exact g [] H ρ .refl w rfl
theorem af_cons (ha : PF T X W e Fa) (hr : AF T X W es Fr) (hs : starEach (e :: es) X.env = (false, eval e X.env) :: starEach es X.env := by rfl) : AF T X W (e :: es) (aCons Fa Fr) := by
  refine pa_imp (pa_cons ha hr hs) fun σ H Q q => ?_
  obtain ⟨ρ, S, Z, env, w, er, g⟩ := q
  refine lift_imp (lift_bnd w er g) fun v H1 ⟨ρ1, S1, d1, x1, w1, e1, r1, g1⟩ => ?_
  refine lift_imp (lift_bnd w1 e1 g1) fun vs H2 ⟨ρ2, S2, d2, x2, w2, e2, r2, g2⟩ => ?_
  exact g2 (v :: vs) H2 ρ2 .refl w2 ⟨v, vs, rfl, x2.rep r1, r2⟩
/-- a list of written items -/
def oLst (Fr : Env → Cm (List D)) : Env → Cm CO := fun env S => (Fr env S).bnd fun xs S1 => if xs.length ≤ sizeLine then .ok (.lst xs) S1 else .stuck
theorem lift_bndO {β α : Type} {rel : Rl α β} {K : PySem.W.Frag} {σ : St} {ρ : Nat → Option Addr} {S : Sto} {Z : Hid} {H : Hp} {env : Env} {Q : VK} {F : Env → Cm α} {k : α → Cm CO} (w : Wd T K ρ S Z H) (e : ER T K ρ Z H σ env) (g : GoodO T K W σ Q ρ Z H ((F env S).bnd k)) :
    lift T K rel W F σ H fun v H' => ∃ ρ' S' d, Ext ρ Z H ρ' H' ∧ Wd T K ρ' S' Z H' ∧ ER T K ρ' Z H' σ env ∧ rel ρ' (Fz ρ' Z H') d v ∧ GoodO T K W σ Q ρ' Z H' (k d S') := by
  refine ⟨ρ, S, Z, env, w, e, ?_⟩
  cases h : F env S with
  | ok d S' =>
    rw [h] at g
    refine fun v H' ρ' x w' q => ⟨ρ', S', d, x, w', e.ext x, q, ?_⟩
    cases hk : k d S' with
    | ok c S2 =>
      rw [show ((R.ok d S').bnd k) = k d S' from rfl, hk] at g
      exact fun p H2 ρ2 n => g p H2 ρ2 (n.after x)
    | exc C fs S2 =>
      rw [show ((R.ok d S').bnd k) = k d S' from rfl, hk] at g
      exact fun dx vs H2 ρ2 x2 => g dx vs H2 ρ2 (x.trans x2)
    | stuck =>
      rw [show ((R.ok d S').bnd k) = k d S' from rfl, hk] at g
      exact g
  | exc C fs S' =>
    rw [h] at g
    exact g
  | stuck =>
    rw [h] at g
    exact g
theorem of_lst (h : AF T X W es Fr) : OF T X W (.List es pos) (oLst Fr) := by
  refine pe_imp (pe_lst h) fun σ H Q q => ?_
  obtain ⟨ρ, S, Z, env, w, er, g⟩ := q
  refine lift_imp (lift_bndO w er g) fun vs H1 ⟨ρ1, S1, d1, x1, w1, e1, r1, g1⟩ => ?_
  change GoodO _ _ _ _ _ _ _ _ (if d1.length ≤ sizeLine then _ else _) at g1
  split at g1
  · rename_i hl
    refine ⟨by rw [← r1.len]; exact hl, fun p hp => g1 p _ ρ1 (new_neu w1 hp ⟨vs, rfl, r1⟩)⟩
  · exact g1.elim
/-- a tuple of written items -/
def fTup (Fr : Env → Cm (List D)) : FE := fun env S => (Fr env S).bnd fun xs S1 => if xs.length ≤ sizeLine then .ok (.tup xs) S1 else .stuck
theorem pf_tup {x1 : Nat} (h : AF T X W es Fr) : PF T X W (.Tuple es x1 pos) (fTup Fr) := by
  refine pe_imp (pe_tup h) fun σ H Q q => ?_
  obtain ⟨ρ, S, Z, env, w, er, g⟩ := q
  refine lift_imp (lift_bnd w er g) fun vs H1 ⟨ρ1, S1, d1, x1, w1, e1, r1, g1⟩ => ?_
  change Good _ _ _ _ _ _ _ _ _ (if d1.length ≤ sizeLine then _ else _) at g1
  split at g1
  · rename_i hl
    refine ⟨by rw [← r1.len]; exact hl, fun p hp => ?_⟩
    obtain ⟨x2, w2, f⟩ := new_frz (o := .tup vs) w1 hp
    exact g1 _ _ ρ1 x2 w2 ⟨p, vs, rfl, SqT.of f, x2.repL r1⟩
  · exact g1.elim
end
end HT
set_option Elab.async false
set_option linter.all false
set_option maxRecDepth 100000
set_option maxHeartbeats 4000000
namespace HT
open PySem PySem.Spec L2

/-! ### statements -/
/-- where a statement goes -/
inductive Fl where
  | nx (env : Env) | rt (d : D) | bk (env : Env) | ct (env : Env) | xc (env : Env) (C : Str) (fs : List (Str × D))
abbrev FS := Env → Cm Fl
/-- the frame's own objects -/
structure OW (Z0 Z : Hid) (σ : St) (env : Env) : Prop where
  sub : ∀ a, Z0 a → Z a
  own : ∀ (i : Nat) (c : CO) (a : Addr), env[i]? = some (.own c) → σ[i]? = some (some (V.ref a)) → Z a ∧ ¬ Z0 a
  apart : ∀ (i j : Nat) (c c' : CO) (a : Addr), env[i]? = some (.own c) → env[j]? = some (.own c') → σ[i]? = some (some (V.ref a)) → σ[j]? = some (some (V.ref a)) → i = j
  me : Z.me = Z0.me
  slf : ∀ (i : Nat) (c : CO), env[i]? = some (.slf c) → ¬ Z0 Z.me
  apart2 : ∀ (i j : Nat) (c c' : CO) (a : Addr), env[i]? = some (.own c) → env[j]? = some (.slf c') → σ[i]? = some (some (V.ref a)) → a ≠ Z.me
  one : ∀ (i j : Nat) (c c' : CO), env[i]? = some (.slf c) → env[j]? = some (.slf c') → i = j
/-- a later world of a frame -/
structure ExtS (ρ : Nat → Option Addr) (Z0 Z : Hid) (H : Hp) (ρ' : Nat → Option Addr) (Z' : Hid) (H' : Hp) : Prop where
  cells : ∀ k a, ρ k = some a → ρ' k = some a
  frz : Sub (Fz ρ Z H) (Fz ρ' Z' H')
  hid : ∀ a, Z0 a → H' a = H a
theorem ExtS.refl {ρ : Nat → Option Addr} {Z0 Z : Hid} {H : Hp} : ExtS ρ Z0 Z H ρ Z H := ⟨fun _ _ h => h, fun _ _ h => h, fun _ _ => rfl⟩
theorem ExtS.trans {ρ ρ1 ρ2 : Nat → Option Addr} {Z0 Z Z1 Z2 : Hid} {H H1 H2 : Hp} (a : ExtS ρ Z0 Z H ρ1 Z1 H1) (b : ExtS ρ1 Z0 Z1 H1 ρ2 Z2 H2) : ExtS ρ Z0 Z H ρ2 Z2 H2 :=
  ⟨fun k x h => b.cells k x (a.cells k x h), fun x o h => b.frz x o (a.frz x o h), fun x h => (b.hid x h).trans (a.hid x h)⟩
theorem Ext.s {ρ ρ' : Nat → Option Addr} {Z0 Z : Hid} {H H' : Hp} (x : Ext ρ Z H ρ' H') (h : ∀ a, Z0 a → Z a) : ExtS ρ Z0 Z H ρ' Z H' := ⟨x.cells, x.frz, fun a z => x.hid a (h a z)⟩
structure At (T : Str → Addr) (K : PySem.W.Frag) (ρ : Nat → Option Addr) (S : Sto) (Z0 Z : Hid) (H : Hp) (σ : St) (env : Env) : Prop where
  w : Wd T K ρ S Z H
  e : ER T K ρ Z H σ env
  o : OW Z0 Z σ env
theorem At.ext {T : Str → Addr} {K : PySem.W.Frag} {ρ ρ' : Nat → Option Addr} {S S' : Sto} {Z0 Z : Hid} {H H' : Hp} {σ : St} {env : Env} (a : At T K ρ S Z0 Z H σ env) (x : Ext ρ Z H ρ' H') (w : Wd T K ρ' S' Z H') : At T K ρ' S' Z0 Z H' σ env := ⟨w, a.e.ext x, a.o⟩
section
variable (T : Str → Addr) (K : PySem.W.Frag)
def GoodF (W : WX) (B : Ends) (ρ : Nat → Option Addr) (Z0 Z : Hid) (H : Hp) (S' : Sto) : Fl → Prop
  | .nx env' => ∀ σ' H' ρ' Z', ExtS ρ Z0 Z H ρ' Z' H' → At T K ρ' S' Z0 Z' H' σ' env' → B.nx σ' H'
  | .bk env' => ∀ σ' H' ρ' Z', ExtS ρ Z0 Z H ρ' Z' H' → At T K ρ' S' Z0 Z' H' σ' env' → B.bk σ' H'
  | .ct env' => ∀ σ' H' ρ' Z', ExtS ρ Z0 Z H ρ' Z' H' → At T K ρ' S' Z0 Z' H' σ' env' → B.ct σ' H'
  | .rt d => ∀ v H' ρ' Z', ExtS ρ Z0 Z H ρ' Z' H' → (∀ a, Z0 a → Z' a) → Wd T K ρ' S' Z' H' → Rep T K ρ' (Fz ρ' Z' H') d v → B.rt v H'
  | .xc env' C fs => ∀ σ' dx vs H' ρ' Z', ExtS ρ Z0 Z H ρ' Z' H' → At T K ρ' S' Z0 Z' H' σ' env' → Fz ρ' Z' H' dx = some (.xd vs) → RepF T K ρ' (Fz ρ' Z' H') fs vs → W (.ref (T C)) (some dx) σ' H'
def GoodS (W : WX) (B : Ends) (ρ : Nat → Option Addr) (Z0 Z : Hid) (H : Hp) : R Fl → Prop
  | .ok f S' => GoodF T K W B ρ Z0 Z H S' f
  | _ => False
def liftS (W : WX) (F : FS) : TS := fun B σ H => ∃ ρ S Z0 Z env, At T K ρ S Z0 Z H σ env ∧ GoodS T K W B ρ Z0 Z H (F env S)
end
abbrev SF (T : Str → Addr) (X : Cx) (W : WX) (st : Stmt) (F : FS) : Prop := PS X st (liftS T X.K W F)
abbrev SFs (T : Str → Addr) (X : Cx) (W : WX) (st : List Stmt) (F : FS) : Prop := PSs X st (liftS T X.K W F)
theorem ps_imp {X : Cx} {st : Stmt} {t t' : TS} (h : PS X st t) (i : ∀ B σ H, t' B σ H → t B σ H) : PS X st t' := ⟨fun pins s σ H B I q => h.run pins s σ H B I (i B σ H q)⟩
theorem pss_imp {X : Cx} {st : List Stmt} {t t' : TS} (h : PSs X st t) (i : ∀ B σ H, t' B σ H → t B σ H) : PSs X st t' := ⟨fun pins s σ H B I q => h.run pins s σ H B I (i B σ H q)⟩
/-- an expression within a statement -/
def sB {α : Type} (env : Env) (r : R α) (k : α → Sto → R Fl) : R Fl := match r with
  | .ok d S => k d S
  | .exc C fs S => .ok (.xc env C fs) S
  | .stuck => .stuck
section
variable {T : Str → Addr} {K : PySem.W.Frag} {W : WX} {B B' : Ends} {ρ ρ1 : Nat → Option Addr} {Z0 Z Z1 : Hid} {H H1 : Hp} {S : Sto} {σ : St} {env : Env}
theorem GoodF.later {f : Fl} {S' : Sto} (g : GoodF T K W B ρ Z0 Z H S' f) (x : ExtS ρ Z0 Z H ρ1 Z1 H1) : GoodF T K W B ρ1 Z0 Z1 H1 S' f := by
  cases f with
  | nx e => exact fun σ' H' ρ' Z' y a => g σ' H' ρ' Z' (x.trans y) a
  | bk e => exact fun σ' H' ρ' Z' y a => g σ' H' ρ' Z' (x.trans y) a
  | ct e => exact fun σ' H' ρ' Z' y a => g σ' H' ρ' Z' (x.trans y) a
  | rt d => exact fun v H' ρ' Z' y a => g v H' ρ' Z' (x.trans y) a
  | xc e C fs => exact fun σ' dx vs H' ρ' Z' y a => g σ' dx vs H' ρ' Z' (x.trans y) a
theorem GoodS.later {r : R Fl} (g : GoodS T K W B ρ Z0 Z H r) (x : ExtS ρ Z0 Z H ρ1 Z1 H1) : GoodS T K W B ρ1 Z0 Z1 H1 r := by
  cases r with
  | ok f S' => exact GoodF.later (show GoodF T K W B ρ Z0 Z H S' f from g) x
  | exc C fs S' => exact g
  | stuck => exact g
theorem lift_sB {α β : Type} {rel : Rl α β} {F : Env → Cm α} {k : α → Sto → R Fl} (a : At T K ρ S Z0 Z H σ env) (g : GoodS T K W B ρ Z0 Z H (sB env (F env S) k)) :
    lift T K rel W F σ H fun v H' => ∃ ρ' S' d, Ext ρ Z H ρ' H' ∧ At T K ρ' S' Z0 Z H' σ env ∧ rel ρ' (Fz ρ' Z H') d v ∧ GoodS T K W B ρ' Z0 Z H' (k d S') := by
  refine ⟨ρ, S, Z, env, a.w, a.e, ?_⟩
  cases h : F env S with
  | ok d S' =>
    rw [h] at g
    exact fun v H' ρ' x w' q => ⟨ρ', S', d, x, a.ext x w', q, GoodS.later (show GoodS T K W B ρ Z0 Z H (k d S') from g) (x.s a.o.sub)⟩
  | exc C fs S' =>
    rw [h] at g
    exact fun dx vs H' ρ' x w' q1 q2 => (show GoodF T K W B ρ Z0 Z H S' (.xc env C fs) from g) σ dx vs H' ρ' Z (x.s a.o.sub) (a.ext x w') q1 q2
  | stuck =>
    rw [h] at g
    exact g
theorem At.set {i : Nat} {d : D} {v : V} (a : At T K ρ S Z0 Z H σ env) (hv : Rep T K ρ (Fz ρ Z H) d v) : At T K ρ S Z0 Z H (σ.set i (some v)) (env.set i (.val d)) := by
  have hl := a.e.len
  have bnd : ∀ {j : Nat} {s : Sl}, (env.set i (.val d))[j]? = some s → i = j → i < env.length := fun {j s} h q => by
    have := (List.getElem?_eq_some_iff.mp h).1
    rw [List.length_set] at this
    omega
  have oldS : ∀ {j : Nat} {c : CO}, (env.set i (.val d))[j]? = some (.slf c) → env[j]? = some (.slf c) ∧ i ≠ j := fun {j c} h => by
    by_cases hj : i = j
    · have hi := bnd h hj
      subst hj
      rw [List.getElem?_set_self hi] at h
      cases h
    · rw [List.getElem?_set_ne hj] at h
      exact ⟨h, hj⟩
  have oldO : ∀ {j : Nat} {c : CO}, (env.set i (.val d))[j]? = some (.own c) → env[j]? = some (.own c) ∧ i ≠ j := fun {j c} h => by
    by_cases hj : i = j
    · have hi := bnd h hj
      subst hj
      rw [List.getElem?_set_self hi] at h
      cases h
    · rw [List.getElem?_set_ne hj] at h
      exact ⟨h, hj⟩
  refine ⟨a.w, ⟨fun j d' h => ?_, fun j c h => ?_, fun j c h => ?_, by rw [List.length_set, List.length_set]; exact hl⟩, ⟨a.o.sub, fun j c b h1 h2 => ?_, fun j k c c' b h1 h2 h3 h4 => ?_, a.o.me, fun j c h => a.o.slf j c (oldS h).1,
    fun j k c c' b h1 h2 h3 => ?_, fun j k c c' h1 h2 => a.o.one j k c c' (oldS h1).1 (oldS h2).1⟩⟩
  · by_cases hj : i = j
    · subst hj
      have hi : i < env.length := by
        have := (List.getElem?_eq_some_iff.mp h).1
        rw [List.length_set] at this
        exact this
      rw [List.getElem?_set_self hi] at h
      cases h
      exact ⟨v, List.getElem?_set_self (by omega), hv⟩
    · rw [List.getElem?_set_ne hj] at h
      obtain ⟨w, h1, h2⟩ := a.e.val j d' h
      exact ⟨w, by rw [List.getElem?_set_ne hj]; exact h1, h2⟩
  · obtain ⟨h', hj⟩ := oldO h
    obtain ⟨b, o, h1, h2⟩ := a.e.own j c h'
    exact ⟨b, o, by rw [List.getElem?_set_ne hj]; exact h1, h2⟩
  · obtain ⟨h', hj⟩ := oldS h
    obtain ⟨o, h1, h2⟩ := a.e.slf j c h'
    exact ⟨o, by rw [List.getElem?_set_ne hj]; exact h1, h2⟩
  · by_cases hj : i = j
    · subst hj
      have hi : i < env.length := by
        have := (List.getElem?_eq_some_iff.mp h1).1
        rw [List.length_set] at this
        exact this
      rw [List.getElem?_set_self hi] at h1
      cases h1
    · rw [List.getElem?_set_ne hj] at h1 h2
      exact a.o.own j c b h1 h2
  · by_cases hj : i = j
    · subst hj
      have hi : i < env.length := by
        have := (List.getElem?_eq_some_iff.mp h1).1
        rw [List.length_set] at this
        exact this
      rw [List.getElem?_set_self hi] at h1
      cases h1
    · by_cases hk : i = k
      · subst hk
        have hi : i < env.length := by
          have := (List.getElem?_eq_some_iff.mp h2).1
          rw [List.length_set] at this
          exact this
        rw [List.getElem?_set_self hi] at h2
        cases h2
      · rw [List.getElem?_set_ne hj] at h1 h3
        rw [List.getElem?_set_ne hk] at h2 h4
        exact a.o.apart j k c c' b h1 h2 h3 h4
  · obtain ⟨h1', hj⟩ := oldO h1
    rw [List.getElem?_set_ne hj] at h3
    exact a.o.apart2 j k c c' b h1' (oldS h2).1 h3
theorem plus_s {p : Addr} (z : ∀ a, Z0 a → Z a) : ∀ a, Z0 a → plusZ Z p a := fun a h => .inl (z a h)
theorem At.setOwn {i : Nat} {c : CO} {p : Addr} {ρ' : Nat → Option Addr} {S' : Sto} {H' : Hp} (a : At T K ρ S Z0 Z H σ env) (n : Neu T K ρ Z H ρ' S' H' p c) :
    ExtS ρ Z0 Z H ρ' (plusZ Z p) H' ∧ At T K ρ' S' Z0 (plusZ Z p) H' (σ.set i (some (V.ref p))) (env.set i (.own c)) := by
  have hl := a.e.len
  have bnd : ∀ {j : Nat} {s : Sl} {x : Sl}, (env.set i x)[j]? = some s → i = j → i < env.length := fun {j s x} h e => by
    have := (List.getElem?_eq_some_iff.mp h).1
    rw [List.length_set] at this
    omega
  have oldS : ∀ {j : Nat} {c' : CO}, (env.set i (.own c))[j]? = some (.slf c') → env[j]? = some (.slf c') ∧ i ≠ j := fun {j c'} h => by
    by_cases hj : i = j
    · have hi := bnd h hj
      subst hj
      rw [List.getElem?_set_self hi] at h
      cases h
    · rw [List.getElem?_set_ne hj] at h
      exact ⟨h, hj⟩
  refine ⟨⟨n.cells, n.frz, fun b z => n.hid b (a.o.sub b z)⟩, n.w, ⟨fun j d' h => ?_, fun j c' h => ?_, fun j c' h => ?_, by rw [List.length_set, List.length_set]; exact hl⟩, ⟨plus_s a.o.sub, fun j c' b h1 h2 => ?_, fun j k c1 c2 b h1 h2 h3 h4 => ?_, a.o.me,
    fun j c' h => a.o.slf j c' (oldS h).1, fun j k c1 c2 b h1 h2 h3 => ?_, fun j k c1 c2 h1 h2 => a.o.one j k c1 c2 (oldS h1).1 (oldS h2).1⟩⟩
  · by_cases hj : i = j
    · have hi := bnd h hj
      subst hj
      rw [List.getElem?_set_self hi] at h
      cases h
    · rw [List.getElem?_set_ne hj] at h
      obtain ⟨w, h1, h2⟩ := a.e.val j d' h
      exact ⟨w, by rw [List.getElem?_set_ne hj]; exact h1, Rep.mono n.cells n.frz _ _ h2⟩
  · by_cases hj : i = j
    · have hi := bnd h hj
      subst hj
      rw [List.getElem?_set_self hi] at h
      cases h
      obtain ⟨o, h1, h2⟩ := n.obj
      exact ⟨p, o, List.getElem?_set_self (by omega), .inr rfl, h1, h2⟩
    · rw [List.getElem?_set_ne hj] at h
      obtain ⟨b, o, h1, h2, h3, h4⟩ := a.e.own j c' h
      exact ⟨b, o, by rw [List.getElem?_set_ne hj]; exact h1, .inl h2, (n.hid b h2).trans h3, h4.mono n.cells n.frz⟩
  · obtain ⟨h', hj⟩ := oldS h
    obtain ⟨o, h1, h2, h3, h4⟩ := a.e.slf j c' h'
    exact ⟨o, by rw [List.getElem?_set_ne hj]; exact h1, .inl h2, (n.hid _ h2).trans h3, h4.mono n.cells n.frz⟩
  · by_cases hj : i = j
    · have hi := bnd h1 hj
      subst hj
      rw [List.getElem?_set_self (by omega)] at h2
      cases h2
      exact ⟨.inr rfl, fun z => n.nz (a.o.sub p z)⟩
    · rw [List.getElem?_set_ne hj] at h1 h2
      obtain ⟨q1, q2⟩ := a.o.own j c' b h1 h2
      exact ⟨.inl q1, q2⟩
  · have old : ∀ {j : Nat} {c' : CO}, i ≠ j → (env.set i (.own c))[j]? = some (.own c') → (σ.set i (some (V.ref p)))[j]? = some (some (V.ref p)) → False := fun {j c'} hj h h' => by
      rw [List.getElem?_set_ne hj] at h h'
      exact n.nz (a.o.own j c' p h h').1
    by_cases hj : i = j
    · have hi := bnd h1 hj
      subst hj
      rw [List.getElem?_set_self (by omega)] at h3
      cases h3
      by_cases hk : i = k
      · exact hk
      · exact (old hk h2 h4).elim
    · by_cases hk : i = k
      · have hi := bnd h2 hk
        subst hk
        rw [List.getElem?_set_self (by omega)] at h4
        cases h4
        exact (old hj h1 h3).elim
      · rw [List.getElem?_set_ne hj] at h1 h3
        rw [List.getElem?_set_ne hk] at h2 h4
        exact a.o.apart j k c1 c2 b h1 h2 h3 h4
  · obtain ⟨h2', hk⟩ := oldS h2
    by_cases hj : i = j
    · have hi := bnd h1 hj
      subst hj
      rw [List.getElem?_set_self (by omega)] at h3
      cases h3
      intro e
      obtain ⟨o, _, q, _⟩ := a.e.slf k c2 h2'
      exact n.nz (by rw [e]; exact q)
    · rw [List.getElem?_set_ne hj] at h1 h3
      exact a.o.apart2 j k c1 c2 b h1 h2' h3
end

/-! ### the rules -/
def sNil : FS := fun env S => .ok (.nx env) S
def sSeq (F G : FS) : FS := fun env S => match F env S with
  | .ok (.nx env') S' => G env' S'
  | r => r
def sExpr {α : Type} (F : Env → Cm α) : FS := fun env S => sB env (F env S) fun _ S' => .ok (.nx env) S'
def sRet (F : FE) : FS := fun env S => sB env (F env S) fun d S' => .ok (.rt d) S'
def sRetN : FS := fun _ S => .ok (.rt .non) S
def sSet (i : Nat) (F : FE) : FS := fun env S => sB env (F env S) fun d S' => .ok (.nx (env.set i (.val d))) S'
def sOwn (i : Nat) (F : Env → Cm CO) : FS := fun env S => sB env (F env S) fun c S' => .ok (.nx (env.set i (.own c))) S'
def sIf (C : Env → Cm Bool) (F G : FS) : FS := fun env S => sB env (C env S) fun b S' => if b = true then F env S' else G env S'
def sBrk : FS := fun env S => .ok (.bk env) S
def sCnt : FS := fun env S => .ok (.ct env) S
section
variable {T : Str → Addr} {X : Cx} {W : WX} {st : Stmt} {rest : List Stmt} {F G : FS} {e : Expr} {Fe : FE} {pos : Pos}
theorem sfs_nil : SFs T X W [] sNil := pss_imp pss_nil fun B σ H q => by
  obtain ⟨ρ, S, Z0, Z, env, a, g⟩ := q
  exact (show GoodF T X.K W B ρ Z0 Z H S (.nx env) from g) σ H ρ Z .refl a
theorem sf_pass : SF T X W (.Pass pos) sNil := ps_imp ps_pass fun B σ H q => by
  obtain ⟨ρ, S, Z0, Z, env, a, g⟩ := q
  exact (show GoodF T X.K W B ρ Z0 Z H S (.nx env) from g) σ H ρ Z .refl a
theorem sf_break : SF T X W (.Break pos) sBrk := ps_imp ps_break fun B σ H q => by
  obtain ⟨ρ, S, Z0, Z, env, a, g⟩ := q
  exact (show GoodF T X.K W B ρ Z0 Z H S (.bk env) from g) σ H ρ Z .refl a
theorem sf_cont : SF T X W (.Continue pos) sCnt := ps_imp ps_continue fun B σ H q => by
  obtain ⟨ρ, S, Z0, Z, env, a, g⟩ := q
  exact (show GoodF T X.K W B ρ Z0 Z H S (.ct env) from g) σ H ρ Z .refl a
theorem sfs_cons (h1 : SF T X W st F) (h2 : SFs T X W rest G) : SFs T X W (st :: rest) (sSeq F G) := pss_imp (pss_cons h1 h2) fun B σ H q => by
  obtain ⟨ρ, S, Z0, Z, env, a, g⟩ := q
  refine ⟨ρ, S, Z0, Z, env, a, ?_⟩
  unfold sSeq at g
  cases hF : F env S with
  | ok f S' =>
    rw [hF] at g
    cases f with
    | nx env' => exact fun σ' H' ρ' Z' x a' => ⟨ρ', S', Z0, Z', env', a', GoodS.later (show GoodS T X.K W B ρ Z0 Z H (G env' S') from g) x⟩
    | _ => exact g
  | exc C fs S' =>
    rw [hF] at g
    exact g
  | stuck =>
    rw [hF] at g
    exact g
theorem sfs_one (h1 : SF T X W st F) : SFs T X W [st] F := pss_one h1
theorem sf_expr (he : PF T X W e Fe) (hs : swapsWith e none pos.line X.env = pure false := by rfl) : SF T X W (.Expr e pos) (sExpr Fe) := ps_imp (ps_expr he hs) fun B σ H q => by
  obtain ⟨ρ, S, Z0, Z, env, a, g⟩ := q
  exact lift_imp (lift_sB a g) fun v H1 ⟨ρ1, S1, d1, x1, a1, r1, g1⟩ => (show GoodF T X.K W B ρ1 Z0 Z H1 S1 (.nx env) from g1) σ H1 ρ1 Z .refl a1
theorem sf_ret (he : PF T X W e Fe) : SF T X W (.Return (some e) pos) (sRet Fe) := ps_imp (ps_ret he) fun B σ H q => by
  obtain ⟨ρ, S, Z0, Z, env, a, g⟩ := q
  exact lift_imp (lift_sB a g) fun v H1 ⟨ρ1, S1, d1, x1, a1, r1, g1⟩ => (show GoodF T X.K W B ρ1 Z0 Z H1 S1 (.rt d1) from g1) v H1 ρ1 Z .refl a1.o.sub a1.w r1
theorem sf_retN : SF T X W (.Return none pos) sRetN := ps_imp ps_retN fun B σ H q => by
  obtain ⟨ρ, S, Z0, Z, env, a, g⟩ := q
  exact (show GoodF T X.K W B ρ Z0 Z H S (.rt .non) from g) .non H ρ Z .refl a.o.sub a.w rfl
theorem sf_set {i : Nat} {x : Str} {pos' : Pos} (hN : X.N.Nodup) (hi : X.N[i]? = some x) (hx : Loc X.env.scope x) (he : PF T X W e Fe) (hs : swapsWith e (some (.Name x pos')) pos.line X.env = pure false := by rfl) (hf : X.fn x = true ∨ X.env.scope.names.lookup x = some .local := by first | exact .inl rfl | exact .inr rfl | assumption) :
    SF T X W (.Assign [.Name x pos'] e pos) (sSet i Fe) := ps_imp (ps_set hN hi hx he hs hf) fun B σ H q => by
  obtain ⟨ρ, S, Z0, Z, env, a, g⟩ := q
  exact lift_imp (lift_sB a g) fun v H1 ⟨ρ1, S1, d1, x1, a1, r1, g1⟩ => (show GoodF T X.K W B ρ1 Z0 Z H1 S1 (.nx (env.set i (.val d1))) from g1) _ H1 ρ1 Z .refl (a1.set r1)
theorem lift_sO {K : PySem.W.Frag} {B : Ends} {ρ : Nat → Option Addr} {S : Sto} {Z0 Z : Hid} {H : Hp} {σ : St} {env : Env} {Fo : Env → Cm CO} {k : CO → Sto → R Fl} (a : At T K ρ S Z0 Z H σ env) (g : GoodS T K W B ρ Z0 Z H (sB env (Fo env S) k)) :
    liftO T K W Fo σ H fun v H' => ∃ ρ' S' c p, v = .ref p ∧ Neu T K ρ Z H ρ' S' H' p c ∧ GoodS T K W B ρ Z0 Z H (k c S') := by
  refine ⟨ρ, S, Z, env, a.w, a.e, ?_⟩
  cases h : Fo env S with
  | ok c S' =>
    rw [h] at g
    exact fun p H' ρ' n => ⟨ρ', S', c, p, rfl, n, g⟩
  | exc C fs S' =>
    rw [h] at g
    exact fun dx vs H' ρ' x w' q1 q2 => (show GoodF T K W B ρ Z0 Z H S' (.xc env C fs) from g) σ dx vs H' ρ' Z (x.s a.o.sub) (a.ext x w') q1 q2
  | stuck =>
    rw [h] at g
    exact g
theorem sf_own {i : Nat} {x : Str} {pos' : Pos} {Fo : Env → Cm CO} (hN : X.N.Nodup) (hi : X.N[i]? = some x) (hx : Loc X.env.scope x) (he : OF T X W e Fo) (hs : swapsWith e (some (.Name x pos')) pos.line X.env = pure false := by rfl) (hf : X.fn x = true ∨ X.env.scope.names.lookup x = some .local := by first | exact .inl rfl | exact .inr rfl | assumption) :
    SF T X W (.Assign [.Name x pos'] e pos) (sOwn i Fo) := ps_imp (ps_set hN hi hx he hs hf) fun B σ H q => by
  obtain ⟨ρ, S, Z0, Z, env, a, g⟩ := q
  obtain ⟨ρ1, S1, Z1, env1, w1, e1, g1⟩ := lift_sO a g
  refine ⟨ρ1, S1, Z1, env1, w1, e1, ?_⟩
  cases hF : Fo env1 S1 with
  | ok c S' =>
    rw [hF] at g1
    intro p H' ρ' n
    obtain ⟨ρ2, S2, c2, p2, ev, n2, g2⟩ := g1 p H' ρ' n
    cases ev
    obtain ⟨x2, a2⟩ := a.setOwn (i := i) n2
    exact (show GoodF T X.K W B ρ Z0 Z H S2 (.nx (env.set i (.own c2))) from g2) _ H' ρ2 _ x2 a2
  | exc C fs S' =>
    rw [hF] at g1
    exact g1
  | stuck =>
    rw [hF] at g1
    exact g1
theorem sf_if {c : Expr} {sa sb : List Stmt} {Fc : Env → Cm Bool} (hc : TF T X W c Fc) (ha : SFs T X W sa F) (hb : SFs T X W sb G) : SF T X W (.If c sa sb pos) (sIf Fc F G) := ps_imp (ps_if hc ha hb) fun B σ H q => by
  obtain ⟨ρ, S, Z0, Z, env, a, g⟩ := q
  refine lift_imp (lift_sB a g) fun v H1 ⟨ρ1, S1, d1, x1, a1, r1, g1⟩ => ?_
  have e : d1 = v := r1
  subst e
  cases d1 with
  | true => exact iteT ⟨ρ1, S1, Z0, Z, env, a1, g1⟩
  | false => exact iteF ⟨ρ1, S1, Z0, Z, env, a1, g1⟩
/-- code that is never come to -/
def sNo : FS := fun _ _ => .stuck
theorem sf_never : SF T X W st sNo := ps_imp ps_never fun B σ H q => by
  obtain ⟨ρ, S, Z0, Z, env, a, g⟩ := q
  exact g
end
end HT
set_option Elab.async false
set_option linter.all false
set_option maxRecDepth 100000
set_option maxHeartbeats 4000000
namespace HT
open PySem PySem.Spec L2

/-! ### own objects become trees -/
def thaw1 : Sl → Sl
  | .own c => .val (frzD c)
  | s => s
/-- all slots in I -/
def thaw (I : Nat → Bool) (env : Env) : Env := env.mapIdx fun i s => if I i = true then thaw1 s else s
/-- hidden but for the own objects of the slots in I -/
def lessZ (I : Nat → Bool) (Z : Hid) (σ : St) (env : Env) : Hid := ⟨fun a => Z a ∧ ¬ ∃ (i : Nat) (c : CO), I i = true ∧ env[i]? = some (.own c) ∧ σ[i]? = some (some (V.ref a)), Z.me⟩
section
variable {T : Str → Addr} {K : PySem.W.Frag} {ρ : Nat → Option Addr} {S : Sto} {Z0 Z : Hid} {H : Hp} {σ : St} {env : Env} {I : Nat → Bool}
theorem thaw_get {i : Nat} {s : Sl} (h : (thaw I env)[i]? = some s) : ∃ s0, env[i]? = some s0 ∧ s = if I i = true then thaw1 s0 else s0 := by
  unfold thaw at h
  rw [List.getElem?_mapIdx] at h
  cases e : env[i]? with
  | none =>
    rw [e] at h
    cases h
  | some s0 =>
    rw [e] at h
    exact ⟨s0, rfl, (Option.some.inj h).symm⟩
theorem less_sub : Sub (Fz ρ Z H) (Fz ρ (lessZ I Z σ env) H) := fun a o h => by
  obtain ⟨h1, h2, h3⟩ := Fz_at h
  exact Fz_mk h1 (fun z => h2 z.1) h3
theorem less_world (w : Wd T K ρ S Z H) : Wd T K ρ S (lessZ I Z σ env) H :=
  ⟨w.dom, fun k c hc => by
    obtain ⟨a, o, h1, h2, h3, h4⟩ := w.cells k c hc
    exact ⟨a, o, h1, fun z => h2 z.1, h3, h4.mono (fun _ _ h => h) less_sub⟩, w.inj, fun a z => w.there a z.1⟩
theorem less_env (w : Wd T K ρ S Z H) (e : ER T K ρ Z H σ env) (ap : ∀ (i j : Nat) (c c' : CO) (a : Addr), env[i]? = some (.own c) → env[j]? = some (.own c') → σ[i]? = some (some (V.ref a)) → σ[j]? = some (some (V.ref a)) → i = j)
    (ap2 : ∀ (i j : Nat) (c c' : CO) (a : Addr), env[i]? = some (.own c) → env[j]? = some (.slf c') → σ[i]? = some (some (V.ref a)) → a ≠ Z.me) : ER T K ρ (lessZ I Z σ env) H σ (thaw I env) := by
  have nr : ∀ a, Z a → ∀ k, ρ k ≠ some a := fun a z k q => by
    have hk := w.dom k a q
    obtain ⟨b, u, g1, g2, _⟩ := w.cells k S[k] (List.getElem?_eq_getElem hk)
    rw [q] at g1
    cases g1
    exact g2 z
  refine ⟨fun i d h => ?_, fun i c h => ?_, fun i c h => ?_, ?_⟩
  · obtain ⟨s0, e1, e2⟩ := thaw_get h
    cases s0 with
    | un =>
      exfalso
      split at e2 <;> cases e2
    | val d0 =>
      have ed : d = d0 := by
        split at e2 <;> exact Sl.val.inj e2
      subst ed
      obtain ⟨v, h1, h2⟩ := e.val i d e1
      exact ⟨v, h1, Rep.mono (fun _ _ h => h) less_sub _ _ h2⟩
    | own c =>
      by_cases hI : I i = true
      · rw [if_pos hI] at e2
        have ed : d = frzD c := Sl.val.inj e2
        subst ed
        obtain ⟨a, o, h1, h2, h3, h4⟩ := e.own i c e1
        refine ⟨.ref a, h1, h4.frzD less_sub (Fz_mk h3 (fun z => z.2 ⟨i, c, hI, e1, h1⟩) (nr a h2))⟩
      · rw [if_neg hI] at e2
        cases e2
    | slf c =>
      exfalso
      split at e2 <;> cases e2
  · obtain ⟨s0, e1, e2⟩ := thaw_get h
    cases s0 with
    | un =>
      exfalso
      split at e2 <;> cases e2
    | val d0 =>
      exfalso
      split at e2 <;> cases e2
    | slf d0 =>
      exfalso
      split at e2 <;> cases e2
    | own c0 =>
      by_cases hI : I i = true
      · rw [if_pos hI] at e2
        cases e2
      · rw [if_neg hI] at e2
        cases e2
        obtain ⟨a, o, h1, h2, h3, h4⟩ := e.own i c e1
        refine ⟨a, o, h1, ⟨h2, fun ⟨j, c', q1, q2, q3⟩ => ?_⟩, h3, h4.mono (fun _ _ h => h) less_sub⟩
        have ij := ap i j c c' a e1 q2 h1 q3
        subst ij
        exact hI q1
  · obtain ⟨s0, e1, e2⟩ := thaw_get h
    have es : s0 = .slf c := by
      cases s0 with
      | slf c0 =>
        have : Sl.slf c = .slf c0 := by
          rw [e2]
          split <;> rfl
        exact this.symm
      | un => exfalso; split at e2 <;> cases e2
      | val d0 => exfalso; split at e2 <;> cases e2
      | own c0 =>
        exfalso
        split at e2 <;> cases e2
    subst es
    obtain ⟨o, h1, h2, h3, h4⟩ := e.slf i c e1
    exact ⟨o, h1, ⟨h2, fun ⟨j, c', q1, q2, q3⟩ => ap2 j i c' c _ q2 e1 q3 rfl⟩, h3, h4.mono (fun _ _ h => h) less_sub⟩
  · unfold thaw
    rw [List.length_mapIdx]
    exact e.len
theorem At.less (a : At T K ρ S Z0 Z H σ env) : ExtS ρ Z0 Z H ρ (lessZ I Z σ env) H ∧ At T K ρ S Z0 (lessZ I Z σ env) H σ (thaw I env) := by
  have backS : ∀ {i : Nat} {c : CO}, (thaw I env)[i]? = some (.slf c) → env[i]? = some (.slf c) := fun {i c} h => by
    obtain ⟨s0, e1, e2⟩ := thaw_get h
    cases s0 with
    | slf c0 =>
      have : Sl.slf c = .slf c0 := by
        rw [e2]
        split <;> rfl
      rw [this]
      exact e1
    | un => exfalso; split at e2 <;> cases e2
    | val d0 => exfalso; split at e2 <;> cases e2
    | own c0 => exfalso; split at e2 <;> cases e2
  have back : ∀ {i : Nat} {c : CO}, (thaw I env)[i]? = some (.own c) → env[i]? = some (.own c) ∧ ¬ I i = true := fun {i c} h => by
    obtain ⟨s0, e1, e2⟩ := thaw_get h
    cases s0 with
    | slf c0 =>
      exfalso
      split at e2 <;> cases e2
    | un =>
      exfalso
      split at e2 <;> cases e2
    | val d0 =>
      exfalso
      split at e2 <;> cases e2
    | own c0 =>
      by_cases hI : I i = true
      · rw [if_pos hI] at e2
        cases e2
      · rw [if_neg hI] at e2
        cases e2
        exact ⟨e1, hI⟩
  refine ⟨⟨fun _ _ h => h, less_sub, fun _ _ => rfl⟩, less_world a.w, less_env a.w a.e a.o.apart a.o.apart2, ⟨fun b z => ⟨a.o.sub b z, fun ⟨j, c', q1, q2, q3⟩ => (a.o.own j c' b q2 q3).2 z⟩, fun i c b h1 h2 => ?_, fun i j c c' b h1 h2 h3 h4 => a.o.apart i j c c' b (back h1).1 (back h2).1 h3 h4, a.o.me, fun i c h => a.o.slf i c (backS h), fun i j c c' b h1 h2 h3 => a.o.apart2 i j c c' b (back h1).1 (backS h2) h3, fun i j c c' h1 h2 => a.o.one i j c c' (backS h1) (backS h2)⟩⟩
  obtain ⟨q1, q2⟩ := back h1
  obtain ⟨z1, z2⟩ := a.o.own i c b q1 h2
  refine ⟨⟨z1, fun ⟨j, c', p1, p2, p3⟩ => ?_⟩, z2⟩
  have ij := a.o.apart i j c c' b q1 p2 h2 p3
  subst ij
  exact q2 p1
end
/-- ahead of a statement the slots in I become trees -/
def sFrz (I : List Nat) (F : FS) : FS := fun env => F (thaw (fun i => I.contains i) env)
theorem sf_frz {T : Str → Addr} {X : Cx} {W : WX} {st : Stmt} {F : FS} (I : List Nat) (h : SF T X W st F) : SF T X W st (sFrz I F) := ps_imp h fun B σ H q => by
  obtain ⟨ρ, S, Z0, Z, env, a, g⟩ := q
  obtain ⟨x, a'⟩ := a.less (I := fun i => I.contains i)
  exact ⟨ρ, S, Z0, _, _, a', g.later x⟩
theorem sfs_frz {T : Str → Addr} {X : Cx} {W : WX} {st : List Stmt} {F : FS} (I : List Nat) (h : SFs T X W st F) : SFs T X W st (sFrz I F) := pss_imp h fun B σ H q => by
  obtain ⟨ρ, S, Z0, Z, env, a, g⟩ := q
  obtain ⟨x, a'⟩ := a.less (I := fun i => I.contains i)
  exact ⟨ρ, S, Z0, _, _, a', g.later x⟩
end HT
set_option Elab.async false
set_option linter.all false
set_option maxRecDepth 100000
set_option maxHeartbeats 4000000
namespace HT
open PySem PySem.Spec L2

/-! ### trees are compared -/
mutual
def eqD : D → D → Bool
  | .non => fun y => (match y with | .non => true | _ => false)
  | .bl a => fun y => (match y with | .bl b => a == b | _ => false)
  | .int a => fun y => (match y with | .int b => a == b | _ => false)
  | .str a => fun y => (match y with | .str b => decide (a = b) | _ => false)
  | .lst a => fun y => (match y with | .lst b => eqL a b | _ => false)
  | .klst a => fun y => (match y with | .klst b => eqL a b | _ => false)
  | .tup a => fun y => (match y with | .tup b => eqL a b | _ => false)
  | .obj C a => fun y => (match y with | .obj C' b => decide (C = C') && eqF a b | _ => false)
  | .exn C a => fun y => (match y with | .exn C' b => decide (C = C') && eqF a b | _ => false)
  | .dK a => fun y => (match y with | .dK b => eqK a b | _ => false)
  | .dT a => fun y => (match y with | .dT b => eqT a b | _ => false)
  | .cell a => fun y => (match y with | .cell b => a == b | _ => false)
  | .glob a => fun y => (match y with | .glob b => decide (a = b) | _ => false)
  | .ty a => fun y => (match y with | .ty b => decide (a = b) | _ => false)
termination_by structural x => x
def eqL : List D → List D → Bool
  | [] => fun ys => ys.isEmpty
  | x :: xs => fun ys => (match ys with | y :: r => eqD x y && eqL xs r | [] => false)
termination_by structural x => x
def eqF : List (Str × D) → List (Str × D) → Bool
  | [] => fun ys => ys.isEmpty
  | p :: xs => fun ys => (match ys with | q :: r => decide (p.1 = q.1) && (eqD p.2 q.2 && eqF xs r) | [] => false)
termination_by structural x => x
def eqK : List (Key × D) → List (Key × D) → Bool
  | [] => fun ys => ys.isEmpty
  | p :: xs => fun ys => (match ys with | q :: r => decide (p.1 = q.1) && (eqD p.2 q.2 && eqK xs r) | [] => false)
termination_by structural x => x
def eqT : List (List Key × D) → List (List Key × D) → Bool
  | [] => fun ys => ys.isEmpty
  | p :: xs => fun ys => (match ys with | q :: r => decide (p.1 = q.1) && (eqD p.2 q.2 && eqT xs r) | [] => false)
termination_by structural x => x
end
theorem bAnd {a b : Bool} (h : (a && b) = true) : a = true ∧ b = true := Bool.and_eq_true_iff.mp h
mutual
theorem eqD_eq : ∀ x y : D, eqD x y = true → x = y
  | .non => fun y h => by cases y <;> first | rfl | cases h
  | .bl a => fun y h => by
    cases y with
    | bl b => rw [eq_of_beq (show (a == b) = true from h)]
    | _ => cases h
  | .int a => fun y h => by
    cases y with
    | int b => rw [eq_of_beq (show (a == b) = true from h)]
    | _ => cases h
  | .str a => fun y h => by
    cases y with
    | str b => rw [of_decide_eq_true (show decide (a = b) = true from h)]
    | _ => cases h
  | .lst a => fun y h => by
    cases y with
    | lst b => rw [eqL_eq a b h]
    | _ => cases h
  | .klst a => fun y h => by
    cases y with
    | klst b => rw [eqL_eq a b h]
    | _ => cases h
  | .tup a => fun y h => by
    cases y with
    | tup b => rw [eqL_eq a b h]
    | _ => cases h
  | .obj C a => fun y h => by
    cases y with
    | obj C' b =>
      obtain ⟨h1, h2⟩ := bAnd (show (decide (C = C') && eqF a b) = true from h)
      rw [of_decide_eq_true h1, eqF_eq a b h2]
    | _ => cases h
  | .exn C a => fun y h => by
    cases y with
    | exn C' b =>
      obtain ⟨h1, h2⟩ := bAnd (show (decide (C = C') && eqF a b) = true from h)
      rw [of_decide_eq_true h1, eqF_eq a b h2]
    | _ => cases h
  | .dK a => fun y h => by
    cases y with
    | dK b => rw [eqK_eq a b h]
    | _ => cases h
  | .dT a => fun y h => by
    cases y with
    | dT b => rw [eqT_eq a b h]
    | _ => cases h
  | .cell a => fun y h => by
    cases y with
    | cell b => rw [eq_of_beq (show (a == b) = true from h)]
    | _ => cases h
  | .glob a => fun y h => by
    cases y with
    | glob b => rw [of_decide_eq_true (show decide (a = b) = true from h)]
    | _ => cases h
  | .ty a => fun y h => by
    cases y with
    | ty b => rw [of_decide_eq_true (show decide (a = b) = true from h)]
    | _ => cases h
termination_by structural x => x
theorem eqL_eq : ∀ x y : List D, eqL x y = true → x = y
  | [] => fun y h => by cases y <;> first | rfl | cases h
  | a :: x => fun y h => by
    cases y with
    | nil => cases h
    | cons b y =>
      obtain ⟨h1, h2⟩ := bAnd (show (eqD a b && eqL x y) = true from h)
      rw [eqD_eq a b h1, eqL_eq x y h2]
termination_by structural x => x
theorem eqF_eq : ∀ x y : List (Str × D), eqF x y = true → x = y
  | [] => fun y h => by cases y <;> first | rfl | cases h
  | p :: x => fun y h => by
    cases y with
    | nil => cases h
    | cons q y =>
      obtain ⟨h0, h'⟩ := bAnd (show (decide (p.1 = q.1) && (eqD p.2 q.2 && eqF x y)) = true from h)
      obtain ⟨h1, h2⟩ := bAnd h'
      have e2 := eqD_eq p.2 q.2 h1
      obtain ⟨f, a⟩ := p
      obtain ⟨g, b⟩ := q
      cases of_decide_eq_true h0
      cases e2
      rw [eqF_eq x y h2]
termination_by structural x => x
theorem eqK_eq : ∀ x y : List (Key × D), eqK x y = true → x = y
  | [] => fun y h => by cases y <;> first | rfl | cases h
  | p :: x => fun y h => by
    cases y with
    | nil => cases h
    | cons q y =>
      obtain ⟨h0, h'⟩ := bAnd (show (decide (p.1 = q.1) && (eqD p.2 q.2 && eqK x y)) = true from h)
      obtain ⟨h1, h2⟩ := bAnd h'
      have e2 := eqD_eq p.2 q.2 h1
      obtain ⟨f, a⟩ := p
      obtain ⟨g, b⟩ := q
      cases of_decide_eq_true h0
      cases e2
      rw [eqK_eq x y h2]
termination_by structural x => x
theorem eqT_eq : ∀ x y : List (List Key × D), eqT x y = true → x = y
  | [] => fun y h => by cases y <;> first | rfl | cases h
  | p :: x => fun y h => by
    cases y with
    | nil => cases h
    | cons q y =>
      obtain ⟨h0, h'⟩ := bAnd (show (decide (p.1 = q.1) && (eqD p.2 q.2 && eqT x y)) = true from h)
      obtain ⟨h1, h2⟩ := bAnd h'
      have e2 := eqD_eq p.2 q.2 h1
      obtain ⟨f, a⟩ := p
      obtain ⟨g, b⟩ := q
      cases of_decide_eq_true h0
      cases e2
      rw [eqT_eq x y h2]
termination_by structural x => x
end
mutual
theorem eqD_rfl : ∀ x : D, eqD x x = true
  | .non => rfl
  | .bl a => by show (a == a) = true; exact beq_self_eq_true a
  | .int a => by show (a == a) = true; exact beq_self_eq_true a
  | .str a => by show decide (a = a) = true; exact decide_eq_true rfl
  | .lst a => eqL_rfl a
  | .klst a => eqL_rfl a
  | .tup a => eqL_rfl a
  | .obj C a => by show (decide (C = C) && eqF a a) = true; rw [decide_eq_true rfl, eqF_rfl a]; rfl
  | .exn C a => by show (decide (C = C) && eqF a a) = true; rw [decide_eq_true rfl, eqF_rfl a]; rfl
  | .dK a => eqK_rfl a
  | .dT a => eqT_rfl a
  | .cell a => by show (a == a) = true; exact beq_self_eq_true a
  | .glob a => by show decide (a = a) = true; exact decide_eq_true rfl
  | .ty a => by show decide (a = a) = true; exact decide_eq_true rfl
termination_by structural x => x
theorem eqL_rfl : ∀ x : List D, eqL x x = true
  | [] => rfl
  | a :: x => by show (eqD a a && eqL x x) = true; rw [eqD_rfl a, eqL_rfl x]; rfl
termination_by structural x => x
theorem eqF_rfl : ∀ x : List (Str × D), eqF x x = true
  | [] => rfl
  | p :: x => by show (decide (p.1 = p.1) && (eqD p.2 p.2 && eqF x x)) = true; rw [decide_eq_true rfl, eqD_rfl p.2, eqF_rfl x]; rfl
termination_by structural x => x
theorem eqK_rfl : ∀ x : List (Key × D), eqK x x = true
  | [] => rfl
  | p :: x => by show (decide (p.1 = p.1) && (eqD p.2 p.2 && eqK x x)) = true; rw [decide_eq_true rfl, eqD_rfl p.2, eqK_rfl x]; rfl
termination_by structural x => x
theorem eqT_rfl : ∀ x : List (List Key × D), eqT x x = true
  | [] => rfl
  | p :: x => by show (decide (p.1 = p.1) && (eqD p.2 p.2 && eqT x x)) = true; rw [decide_eq_true rfl, eqD_rfl p.2, eqT_rfl x]; rfl
termination_by structural x => x
end
def eqCO : CO → CO → Bool
  | .lst a, .lst b => eqL a b
  | .dK a, .dK b => eqK a b
  | .dT a, .dT b => eqT a b
  | .ins C a, .ins C' b => decide (C = C') && eqF a b
  | _, _ => false
theorem eqCO_eq {x y : CO} (h : eqCO x y = true) : x = y := by
  cases x with
  | lst a =>
    cases y with
    | lst b => rw [eqL_eq a b h]
    | _ => cases h
  | dK a =>
    cases y with
    | dK b => rw [eqK_eq a b h]
    | _ => cases h
  | dT a =>
    cases y with
    | dT b => rw [eqT_eq a b h]
    | _ => cases h
  | ins C a =>
    cases y with
    | ins C' b =>
      obtain ⟨h1, h2⟩ := bAnd (show (decide (C = C') && eqF a b) = true from h)
      rw [of_decide_eq_true h1, eqF_eq a b h2]
    | _ => cases h
theorem eqCO_rfl (x : CO) : eqCO x x = true := by
  cases x with
  | lst a => exact eqL_rfl a
  | dK a => exact eqK_rfl a
  | dT a => exact eqT_rfl a
  | ins C a => show (decide (C = C) && eqF a a) = true; rw [decide_eq_true rfl, eqF_rfl a]; rfl
def eqS : Sto → Sto → Bool
  | [], [] => true
  | a :: x, b :: y => eqCO a b && eqS x y
  | _, _ => false
theorem eqS_eq : ∀ {x y : Sto}, eqS x y = true → x = y
  | [], [], _ => rfl
  | a :: x, b :: y, h => by
    obtain ⟨h1, h2⟩ := bAnd (show (eqCO a b && eqS x y) = true from h)
    rw [eqCO_eq h1, eqS_eq h2]
  | [], _ :: _, h => by cases h
  | _ :: _, [], h => by cases h
@[simp] theorem eqS_rfl : ∀ x : Sto, eqS x x = true
  | [] => rfl
  | a :: x => by show (eqCO a a && eqS x x) = true; rw [eqCO_rfl a, eqS_rfl x]; rfl

end HT
set_option Elab.async false
set_option linter.all false
set_option maxRecDepth 100000
set_option maxHeartbeats 4000000
namespace HT
open PySem PySem.Spec L2

/-! ### a look at an object -/
section
variable (T : Str → Addr) (K : PySem.W.Frag)
def GoodV (W : WX) (σ : St) (Q : VK) (ρ : Nat → Option Addr) (Z : Hid) (H : Hp) : R CO → Prop
  | .ok c S' => ∀ a o H' ρ', Ext ρ Z H ρ' H' → Wd T K ρ' S' Z H' → H' a = some o → HObj T K ρ' (Fz ρ' Z H') c o → Q (.ref a) H'
  | .exc C fs S' => ∀ dx vs H' ρ', Ext ρ Z H ρ' H' → Wd T K ρ' S' Z H' → Fz ρ' Z H' dx = some (.xd vs) → RepF T K ρ' (Fz ρ' Z H') fs vs → W (.ref (T C)) (some dx) σ H'
  | .stuck => False
def liftV (W : WX) (F : Env → Cm CO) : TE := fun σ H Q => ∃ ρ S Z env, Wd T K ρ S Z H ∧ ER T K ρ Z H σ env ∧ GoodV T K W σ Q ρ Z H (F env S)
end
abbrev VF (T : Str → Addr) (X : Cx) (W : WX) (e : Expr) (F : Env → Cm CO) : Prop := PE X e (liftV T X.K W F)
def asCO (S : Sto) : D → Option CO
  | .lst ds => some (.lst ds)
  | .dK kvs => some (.dK kvs)
  | .dT kvs => some (.dT kvs)
  | .obj C fs => some (.ins C fs)
  | .cell k => S[k]?
  | _ => none
theorem asCO_ok {T : Str → Addr} {K : PySem.W.Frag} {ρ : Nat → Option Addr} {Z : Hid} {H : Hp} {S : Sto} (w : Wd T K ρ S Z H) {d : D} {v : V} {c : CO} (r : Rep T K ρ (Fz ρ Z H) d v) (h : asCO S d = some c) : ∃ a o, v = .ref a ∧ H a = some o ∧ HObj T K ρ (Fz ρ Z H) c o := by
  cases d with
  | lst ds =>
    cases h
    obtain ⟨a, vs, e, q, q2⟩ := r
    exact ⟨a, _, e, Fz_sub _ _ q, vs, rfl, q2⟩
  | dK kvs =>
    cases h
    obtain ⟨a, vs, e, q, q2⟩ := r
    exact ⟨a, _, e, Fz_sub _ _ q, vs, rfl, q2⟩
  | dT kvs =>
    cases h
    obtain ⟨a, vs, e, q, q2⟩ := r
    exact ⟨a, _, e, Fz_sub _ _ q, vs, rfl, q2⟩
  | obj C fs =>
    cases h
    obtain ⟨a, dx, vs, e, q, q2⟩ := r
    exact ⟨a, _, e, Fz_sub _ _ q, dx, vs, rfl, q2⟩
  | cell k =>
    obtain ⟨a, e, q⟩ := r
    obtain ⟨b, o, h1, h2, h3, h4⟩ := w.cells k c h
    rw [q] at h1
    cases h1
    exact ⟨a, o, e, h3, h4⟩
  | _ => cases h
def vPF (F : FE) : Env → Cm CO := fun env S => (F env S).bnd fun d S' => match asCO S' d with
  | some c => .ok c S'
  | none => .stuck
def vVar (i : Nat) : Env → Cm CO := fun env S => match env[i]? with
  | some (.own c) => .ok c S
  | some (.slf c) => .ok c S
  | some (.val d) => (match asCO S d with
    | some c => .ok c S
    | none => .stuck)
  | _ => .stuck
section
variable {T : Str → Addr} {X : Cx} {W : WX}
theorem vf_pf {e : Expr} {F : FE} (h : PF T X W e F) : VF T X W e (vPF F) := by
  refine pe_imp h fun σ H Q q => ?_
  obtain ⟨ρ, S, Z, env, w, er, g⟩ := q
  refine ⟨ρ, S, Z, env, w, er, ?_⟩
  unfold vPF at g
  cases hF : F env S with
  | ok d S' =>
    rw [hF] at g
    cases hc : asCO S' d with
    | none =>
      rw [show (R.ok d S').bnd (fun d S' => match asCO S' d with | some c => R.ok c S' | none => R.stuck) = (match asCO S' d with | some c => R.ok c S' | none => R.stuck) from rfl, hc] at g
      exact g.elim
    | some c =>
      rw [show (R.ok d S').bnd (fun d S' => match asCO S' d with | some c => R.ok c S' | none => R.stuck) = (match asCO S' d with | some c => R.ok c S' | none => R.stuck) from rfl, hc] at g
      intro v H' ρ' x w' r
      obtain ⟨a, o, rfl, h1, h2⟩ := asCO_ok w' r hc
      exact g a o H' ρ' x w' h1 h2
  | exc C fs S' =>
    rw [hF] at g
    exact g
  | stuck =>
    rw [hF] at g
    exact g
theorem vf_var {i : Nat} {x : Str} {pos : Pos} (h : PE X (.Name x pos) (tVar i)) : VF T X W (.Name x pos) (vVar i) := by
  refine pe_imp h fun σ H Q q => ?_
  obtain ⟨ρ, S, Z, env, w, e, g⟩ := q
  unfold vVar at g
  cases hd : env[i]? with
  | none =>
    rw [hd] at g
    exact g.elim
  | some sl =>
    rw [hd] at g
    cases sl with
    | val d =>
      obtain ⟨v, h1, h2⟩ := e.val i d hd
      cases hc : asCO S d with
      | none =>
        dsimp only at g
        rw [hc] at g
        exact g.elim
      | some c =>
        dsimp only at g
        rw [hc] at g
        obtain ⟨a, o, rfl, q1, q2⟩ := asCO_ok w h2 hc
        exact ⟨_, h1, g a o H ρ .refl w q1 q2⟩
    | un => exact g.elim
    | own c =>
      obtain ⟨a, o, h1, h2, h3, h4⟩ := e.own i c hd
      exact ⟨_, h1, g a o H ρ .refl w h3 h4⟩
    | slf c =>
      obtain ⟨o, h1, h2, h3, h4⟩ := e.slf i c hd
      exact ⟨_, h1, g _ o H ρ .refl w h3 h4⟩
end

/-! ### targets -/
def gNames : List Nat → TGs
  | [] => gNil
  | i :: r => gCons (gName i) (gNames r)
inductive Bd where
  | one (i : Nat) | many (is : List Nat)
def gBd (K : PySem.W.Frag) : Bd → TG
  | .one i => gName i
  | .many is => gTup K is.length (gNames is)
def bindL : List Nat → List D → Env → Env
  | i :: is, d :: ds, env => bindL is ds (env.set i (.val d))
  | _, _, env => env
def bindE (b : Bd) (d : D) (env : Env) : Option Env := match b with
  | .one i => some (env.set i (.val d))
  | .many is => match d with
    | .tup ds => if ds.length = is.length then some (bindL is ds env) else none
    | _ => none
def Bd.slots : Bd → List Nat
  | .one i => [i]
  | .many is => is
section
variable {T : Str → Addr} {K : PySem.W.Frag} {ρ : Nat → Option Addr} {S : Sto} {Z0 Z : Hid} {H : Hp} {σ : St} {env : Env}
theorem ER.set {i : Nat} {d : D} {v : V} (e : ER T K ρ Z H σ env) (hv : Rep T K ρ (Fz ρ Z H) d v) : ER T K ρ Z H (σ.set i (some v)) (env.set i (.val d)) := by
  have hl := e.len
  have bnd : ∀ {j : Nat} {s : Sl}, (env.set i (.val d))[j]? = some s → i = j → i < env.length := fun {j s} h q => by
    have := (List.getElem?_eq_some_iff.mp h).1
    rw [List.length_set] at this
    omega
  refine ⟨fun j d' h => ?_, fun j c h => ?_, fun j c h => ?_, by rw [List.length_set, List.length_set]; exact hl⟩
  · by_cases hj : i = j
    · have hi := bnd h hj
      subst hj
      rw [List.getElem?_set_self hi] at h
      cases h
      exact ⟨v, List.getElem?_set_self (by omega), hv⟩
    · rw [List.getElem?_set_ne hj] at h
      obtain ⟨w, h1, h2⟩ := e.val j d' h
      exact ⟨w, by rw [List.getElem?_set_ne hj]; exact h1, h2⟩
  · by_cases hj : i = j
    · have hi := bnd h hj
      subst hj
      rw [List.getElem?_set_self hi] at h
      cases h
    · rw [List.getElem?_set_ne hj] at h
      obtain ⟨b, o, h1, h2⟩ := e.own j c h
      exact ⟨b, o, by rw [List.getElem?_set_ne hj]; exact h1, h2⟩
  · by_cases hj : i = j
    · have hi := bnd h hj
      subst hj
      rw [List.getElem?_set_self hi] at h
      cases h
    · rw [List.getElem?_set_ne hj] at h
      obtain ⟨o, h1, h2⟩ := e.slf j c h
      exact ⟨o, by rw [List.getElem?_set_ne hj]; exact h1, h2⟩
/-- behind a store to the slots is -/
structure Agree (is : List Nat) (σ σ' : St) : Prop where
  len : σ'.length = σ.length
  same : ∀ j, j ∉ is → σ'[j]? = σ[j]?
theorem Agree.set {i : Nat} {v : V} : Agree [i] σ (σ.set i (some v)) := ⟨List.length_set .., fun j h => List.getElem?_set_ne (fun e => h (by rw [e]; exact List.mem_singleton.mpr rfl))⟩
theorem names_run {Q : St → Hp → Prop} : ∀ (is : List Nat) (ds : List D) (vs : List V) (σ : St) (env : Env), RepL T K ρ (Fz ρ Z H) ds vs → ds.length = is.length → ER T K ρ Z H σ env → (∀ σ', ER T K ρ Z H σ' (bindL is ds env) → Agree is σ σ' → Q σ' H) → gNames is vs σ H Q
  | [], ds, vs, σ, env, r, hl, e, k => by
    have hd : ds = [] := List.eq_nil_of_length_eq_zero hl
    subst hd
    have hv : vs = [] := r
    subst hv
    exact ⟨rfl, k σ e ⟨rfl, fun _ _ => rfl⟩⟩
  | i :: is, ds, vs, σ, env, r, hl, e, k => by
    cases ds with
    | nil => simp at hl
    | cons d ds =>
      obtain ⟨v, us, rfl, r1, r2⟩ := r
      refine ⟨v, us, rfl, names_run is ds us _ _ r2 (by simpa using hl) (e.set r1) fun σ' e' a => k σ' e' ⟨a.len.trans (List.length_set ..), fun j hj => ?_⟩⟩
      rw [a.same j fun z => hj (List.mem_cons_of_mem _ z)]
      exact List.getElem?_set_ne fun z => hj (by rw [z]; exact List.mem_cons_self)
theorem names_runA {Q : St → Hp → Prop} : ∀ (is : List Nat) (ds : List D) (vs : List V) (σ : St) (env : Env), RepL T K ρ (Fz ρ Z H) ds vs → ds.length = is.length → At T K ρ S Z0 Z H σ env → (∀ σ', At T K ρ S Z0 Z H σ' (bindL is ds env) → Q σ' H) → gNames is vs σ H Q
  | [], ds, vs, σ, env, r, hl, e, k => by
    have hd : ds = [] := List.eq_nil_of_length_eq_zero hl
    subst hd
    have hv : vs = [] := r
    subst hv
    exact ⟨rfl, k σ e⟩
  | i :: is, ds, vs, σ, env, r, hl, e, k => by
    cases ds with
    | nil => simp at hl
    | cons d ds =>
      obtain ⟨v, us, rfl, r1, r2⟩ := r
      exact ⟨v, us, rfl, names_runA is ds us _ _ r2 (by simpa using hl) (e.set r1) k⟩
theorem bd_run {Q : St → Hp → Prop} {b : Bd} {d : D} {v : V} {env' : Env} (r : Rep T K ρ (Fz ρ Z H) d v) (e : ER T K ρ Z H σ env) (h : bindE b d env = some env') (k : ∀ σ', ER T K ρ Z H σ' env' → Agree b.slots σ σ' → Q σ' H) : gBd K b v σ H Q := by
  cases b with
  | one i =>
    cases h
    exact k _ (e.set r) .set
  | many is =>
    cases d with
    | tup ds =>
      have h' : (if ds.length = is.length then some (bindL is ds env) else none) = some env' := h
      split at h'
      · rename_i hl
        cases h'
        obtain ⟨a, vs, rfl, q, q2⟩ := r
        exact ⟨a, vs, rfl, Fz_sub.seqT q, by rw [← q2.len]; exact hl, names_run is ds vs σ env q2 hl e k⟩
      · cases h'
    | _ => cases h
theorem bd_runA {Q : St → Hp → Prop} {b : Bd} {d : D} {v : V} {env' : Env} (r : Rep T K ρ (Fz ρ Z H) d v) (e : At T K ρ S Z0 Z H σ env) (h : bindE b d env = some env') (k : ∀ σ', At T K ρ S Z0 Z H σ' env' → Q σ' H) : gBd K b v σ H Q := by
  cases b with
  | one i =>
    cases h
    exact k _ (e.set r)
  | many is =>
    cases d with
    | tup ds =>
      have h' : (if ds.length = is.length then some (bindL is ds env) else none) = some env' := h
      split at h'
      · rename_i hl
        cases h'
        obtain ⟨a, vs, rfl, q, q2⟩ := r
        exact ⟨a, vs, rfl, Fz_sub.seqT q, by rw [← q2.len]; exact hl, names_runA is ds vs σ env q2 hl e k⟩
      · cases h'
    | _ => cases h
theorem Agree.wipe {is vs : List Nat} {σ' : St} (a : Agree is σ σ') (h : ∀ i ∈ is, i ∈ vs) : wipe σ' vs = wipe σ vs := by
  refine List.ext_getElem? fun j => ?_
  have wl : ∀ (l : List Nat) (τ : St), (L2.wipe τ l)[j]? = if j ∈ l then (if j < τ.length then some none else none) else τ[j]? := by
    intro l
    induction l with
    | nil => intro τ; rfl
    | cons x l ih =>
      intro τ
      show ((L2.wipe τ l).set x none)[j]? = _
      by_cases hx : x = j
      · subst hx
        by_cases hl : x < τ.length
        · rw [List.getElem?_set_self (by rw [wipe_length]; exact hl), if_pos List.mem_cons_self, if_pos hl]
        · rw [List.getElem?_eq_none (by rw [List.length_set, wipe_length]; omega), if_pos List.mem_cons_self, if_neg hl]
      · rw [List.getElem?_set_ne hx, ih τ]
        by_cases hm : j ∈ l
        · rw [if_pos hm, if_pos (List.mem_cons_of_mem _ hm)]
        · rw [if_neg hm, if_neg (by intro z; rcases List.mem_cons.mp z with q | q; exact hx q.symm; exact hm q)]
  rw [wl, wl, a.len]
  by_cases hj : j ∈ vs
  · rw [if_pos hj, if_pos hj]
  · rw [if_neg hj, if_neg hj]
    exact a.same j fun z => hj (h j z)
end

/-! ### what is walked -/
/-- where the list that is walked stands: it stays as it is -/
inductive Src where
  | fz | cl (k : Nat) (c : CO) | hid
def Src.isHid : Src → Bool
  | .hid => true
  | _ => false
def chk (src : Src) (S : Sto) : Bool := match src with
  | .cl k c => (match S[k]? with
    | some c' => eqCO c c'
    | none => false)
  | _ => true
def ItOk (T : Str → Addr) (K : PySem.W.Frag) (ρ : Nat → Option Addr) (Z : Hid) (H : Hp) (J : It) (ds : List D) (src : Src) : Prop :=
  ∀ ρ2 S2 (Z2 : Hid) H2, (∀ k a, ρ k = some a → ρ2 k = some a) → Sub (Fz ρ Z H) (Fz ρ2 Z2 H2) → (src.isHid = true → ∀ a, Z a → H2 a = H a) → Wd T K ρ2 S2 Z2 H2 → chk src S2 = true → ∀ i,
    (∀ d, ds[i]? = some d → J.go i H2 ∧ ∀ x H3, J.yld i H2 x H3 → Ext ρ2 Z2 H2 ρ2 H3 ∧ Wd T K ρ2 S2 Z2 H3 ∧ Rep T K ρ2 (Fz ρ2 Z2 H3) d x) ∧ (ds.length ≤ i → J.stop i H2)
section
variable (T : Str → Addr) (K : PySem.W.Frag)
def GoodI (W : WX) (σ : St) (Q : It → Hp → Prop) (ρ : Nat → Option Addr) (Z : Hid) (H : Hp) : R (List D × Src) → Prop
  | .ok p S' => ∀ J H' ρ', Ext ρ Z H ρ' H' → Wd T K ρ' S' Z H' → ItOk T K ρ' Z H' J p.1 p.2 → Q J H'
  | .exc C fs S' => ∀ dx vs H' ρ', Ext ρ Z H ρ' H' → Wd T K ρ' S' Z H' → Fz ρ' Z H' dx = some (.xd vs) → RepF T K ρ' (Fz ρ' Z H') fs vs → W (.ref (T C)) (some dx) σ H'
  | .stuck => False
def liftI (W : WX) (F : Env → Cm (List D × Src)) : TI := fun σ H Q => ∃ ρ S Z env, Wd T K ρ S Z H ∧ ER T K ρ Z H σ env ∧ GoodI T K W σ Q ρ Z H (F env S)
end
abbrev IF (T : Str → Addr) (X : Cx) (W : WX) (tg iter : Expr) (F : Env → Cm (List D × Src)) : Prop := PI X tg iter (liftI T X.K W F)
theorem pi_imp {X : Cx} {tg iter : Expr} {t t' : TI} (h : PI X tg iter t) (i : ∀ σ H R, t' σ H R → t σ H R) : PI X tg iter t' := ⟨fun pins s σ H R I q => h.run pins s σ H R I (i σ H R q)⟩
theorem pi_or {X : Cx} {tg iter : Expr} {t t' : TI} (h : PI X tg iter t) (h' : PI X tg iter t') : PI X tg iter (fun σ H R => t σ H R ∨ t' σ H R) := ⟨fun pins s σ H R I q => by
  rcases q with q | q
  · exact h.run pins s σ H R I q
  · exact h'.run pins s σ H R I q⟩
/-- of a list, a tuple: its items -/
def srcOf : D → Option (Sto → Option (List D × Src))
  | .lst ds => some fun _ => some (ds, .fz)
  | .klst ds => some fun _ => some (ds, .fz)
  | .tup ds => some fun _ => some (ds, .fz)
  | .cell k => some fun S => match S[k]? with
    | some (.lst ds) => some (ds, .cl k (.lst ds))
    | _ => none
  | _ => none
def walkD (S : Sto) (d : D) : Option (List D × Src) := match d with
  | .lst ds => some (ds, .fz)
  | .klst ds => some (ds, .fz)
  | .tup ds => some (ds, .fz)
  | .cell k => (match S[k]? with
    | some (.lst ds) => some (ds, .cl k (.lst ds))
    | _ => none)
  | _ => none
section
variable {T : Str → Addr} {K : PySem.W.Frag} {ρ : Nat → Option Addr} {S : Sto} {Z : Hid} {H : Hp}
theorem it_seqL {a : Addr} {vs : List V} {ds : List D} (h : SqL K (Fz ρ Z H) a vs) (r : RepL T K ρ (Fz ρ Z H) ds vs) : ItOk T K ρ Z H (Itl K a) ds .fz := by
  intro ρ2 S2 Z2 H2 hc hs _ w2 _ i
  have h2 : SqL K H2 a vs := Fz_sub.seqL (hs.seqL h)
  have r2 := RepL.mono hc hs _ _ r
  refine ⟨fun d hd => ?_, fun hl => ⟨vs, h2, by rw [← r.len]; exact hl⟩⟩
  obtain ⟨v, hv, rv⟩ := r2.get hd
  refine ⟨⟨vs, v, h2, hv⟩, fun x H3 y => ?_⟩
  obtain ⟨e, y⟩ := y
  subst e
  have e2 := y vs h2
  rw [hv] at e2
  cases e2
  exact ⟨.refl, w2, rv⟩
theorem it_seqT {a : Addr} {vs : List V} {ds : List D} (h : SqT K (Fz ρ Z H) a vs) (r : RepL T K ρ (Fz ρ Z H) ds vs) : ItOk T K ρ Z H (Itt K a) ds .fz := by
  intro ρ2 S2 Z2 H2 hc hs _ w2 _ i
  have h2 : SqT K H2 a vs := Fz_sub.seqT (hs.seqT h)
  have r2 := RepL.mono hc hs _ _ r
  refine ⟨fun d hd => ?_, fun hl => ⟨vs, h2, by rw [← r.len]; exact hl⟩⟩
  obtain ⟨v, hv, rv⟩ := r2.get hd
  refine ⟨⟨vs, v, h2, hv⟩, fun x H3 y => ?_⟩
  obtain ⟨e, y⟩ := y
  subst e
  have e2 := y vs h2
  rw [hv] at e2
  cases e2
  exact ⟨.refl, w2, rv⟩
/-- what a list that stands in the heap by itself yields (a tracked list is no list of the module) -/
theorem sq_inj {P : Prop} : P → P := id
end
end HT
set_option Elab.async false
set_option linter.all false
set_option maxRecDepth 100000
set_option maxHeartbeats 400000
namespace HT
open PySem PySem.Spec L2

section
variable {T : Str → Addr} {K : PySem.W.Frag} {ρ : Nat → Option Addr} {S : Sto} {Z : Hid} {H : Hp}
theorem it_cell {k : Nat} {a : Addr} {ds : List D} (hk : ρ k = some a) : ItOk T K ρ Z H (Itl K a) ds (.cl k (.lst ds)) := by
  intro ρ2 S2 Z2 H2 hc hs _ w2 hch i
  have hch' : (match S2[k]? with
    | some c' => eqCO (.lst ds) c'
    | none => false) = true := hch
  cases e : S2[k]? with
  | none =>
    rw [e] at hch'
    cases hch'
  | some c' =>
    rw [e] at hch'
    have ec := eqCO_eq hch'
    subst ec
    obtain ⟨b, o, h1, h2, h3, h4⟩ := w2.cells k _ e
    rw [hc k a hk] at h1
    cases h1
    obtain ⟨vs, rfl, r2⟩ := h4
    refine ⟨fun d hd => ?_, fun hl => ⟨vs, SqL.of h3, by rw [← r2.len]; exact hl⟩⟩
    obtain ⟨v, hv, rv⟩ := r2.get hd
    refine ⟨⟨vs, v, SqL.of h3, hv⟩, fun x H3 y => ?_⟩
    obtain ⟨e, y⟩ := y
    subst e
    have e2 := y vs (SqL.of h3)
    rw [hv] at e2
    cases e2
    exact ⟨.refl, w2, rv⟩
theorem it_own {a : Addr} {vs : List V} {ds : List D} (hz : Z a) (h : H a = some (.lst vs)) (r : RepL T K ρ (Fz ρ Z H) ds vs) : ItOk T K ρ Z H (Itl K a) ds .hid := by
  intro ρ2 S2 Z2 H2 hc hs hh w2 _ i
  have h2 : SqL K H2 a vs := SqL.of ((hh rfl a hz).trans h)
  have r2 := RepL.mono hc hs _ _ r
  refine ⟨fun d hd => ?_, fun hl => ⟨vs, h2, by rw [← r.len]; exact hl⟩⟩
  obtain ⟨v, hv, rv⟩ := r2.get hd
  refine ⟨⟨vs, v, h2, hv⟩, fun x H3 y => ?_⟩
  obtain ⟨e, y⟩ := y
  subst e
  have e2 := y vs h2
  rw [hv] at e2
  cases e2
  exact ⟨.refl, w2, rv⟩
theorem it_range {lo : Int} {n : Nat} : ItOk T K ρ Z H (Itr lo n) ((List.range n).map fun i => D.int (lo + (i : Nat))) .fz := by
  intro ρ2 S2 Z2 H2 hc hs _ w2 _ i
  refine ⟨fun d hd => ?_, fun hl => by show n ≤ i; simpa using hl⟩
  have hi : i < n := by
    have := (List.getElem?_eq_some_iff.mp hd).1
    simpa using this
  rw [List.getElem?_map, List.getElem?_range hi] at hd
  cases hd
  exact ⟨hi, fun x H3 y => by
    obtain ⟨e, y⟩ := y
    subst e
    subst y
    exact ⟨.refl, w2, rfl⟩⟩
theorem it_str {z : Str} : ItOk T K ρ Z H (Its z) (z.cps.toList.map fun c => D.str ⟨#[c]⟩) .fz := by
  intro ρ2 S2 Z2 H2 hc hs _ w2 _ i
  have tl : z.cps.toList[i]? = z.cps[i]? := Array.getElem?_toList
  refine ⟨fun d hd => ?_, fun hl => by show z.cps.size ≤ i; simpa using hl⟩
  rw [List.getElem?_map, tl] at hd
  cases e : z.cps[i]? with
  | none =>
    rw [e] at hd
    cases hd
  | some c =>
    rw [e] at hd
    cases hd
    have hi : i < z.cps.size := (Array.getElem?_eq_some_iff.mp e).1
    exact ⟨hi, fun x H3 y => by
      obtain ⟨e1, c', e2, e3⟩ := y
      subst e1
      rw [e] at e2
      cases e2
      subst e3
      exact ⟨.refl, w2, rfl⟩⟩
end

/-! ### sources -/
def iSeq (F : FE) : Env → Cm (List D × Src) := fun env S => (F env S).bnd fun d S' => match d with
  | .str z => .ok (z.cps.toList.map (fun c => D.str ⟨#[c]⟩), .fz) S'
  | d => match walkD S' d with
    | some p => .ok p S'
    | none => .stuck
def iOwn (i : Nat) : Env → Cm (List D × Src) := fun env S => match env[i]? with
  | some (.own (.lst ds)) => .ok (ds, .hid) S
  | some (.val d) => (match walkD S d with
    | some p => .ok p S
    | none => .stuck)
  | _ => .stuck
section
variable {T : Str → Addr} {X : Cx} {W : WX} {tg e : Expr} {F : FE} {pos : Pos}
theorem lift_bndI {β α : Type} {rel : Rl α β} {K : PySem.W.Frag} {σ : St} {ρ : Nat → Option Addr} {S : Sto} {Z : Hid} {H : Hp} {env : Env} {Q : It → Hp → Prop} {F : Env → Cm α} {k : α → Cm (List D × Src)} (w : Wd T K ρ S Z H) (e : ER T K ρ Z H σ env) (g : GoodI T K W σ Q ρ Z H ((F env S).bnd k)) :
    lift T K rel W F σ H fun v H' => ∃ ρ' S' d, Ext ρ Z H ρ' H' ∧ Wd T K ρ' S' Z H' ∧ ER T K ρ' Z H' σ env ∧ rel ρ' (Fz ρ' Z H') d v ∧ GoodI T K W σ Q ρ' Z H' (k d S') := by
  refine ⟨ρ, S, Z, env, w, e, ?_⟩
  cases h : F env S with
  | ok d S' =>
    rw [h] at g
    refine fun v H' ρ' x w' q => ⟨ρ', S', d, x, w', e.ext x, q, ?_⟩
    have g' : GoodI T K W σ Q ρ Z H (k d S') := g
    cases hk : k d S' with
    | ok c S2 =>
      rw [hk] at g'
      exact fun J H2 ρ2 x2 => g' J H2 ρ2 (x.trans x2)
    | exc C fs S2 =>
      rw [hk] at g'
      exact fun dx vs H2 ρ2 x2 => g' dx vs H2 ρ2 (x.trans x2)
    | stuck =>
      rw [hk] at g'
      exact g'
  | exc C fs S' =>
    rw [h] at g
    exact g
  | stuck =>
    rw [h] at g
    exact g
theorem if_seq (h : PF T X W e F) : IF T X W tg e (iSeq F) := by
  refine pi_imp (pi_or (pi_list h) (pi_or (pi_tup h) (pi_str h))) fun σ H Qi q => ?_
  obtain ⟨ρ, S, Z, env, w, er, g⟩ := q
  unfold iSeq at g
  cases hF : F env S with
  | stuck =>
    rw [hF] at g
    exact g.elim
  | exc C fs S' =>
    rw [hF] at g
    exact .inl ⟨ρ, S, Z, env, w, er, by rw [hF]; exact g⟩
  | ok d S' =>
    rw [hF] at g
    cases d with
    | str z =>
      refine .inr (.inr ⟨ρ, S, Z, env, w, er, ?_⟩)
      rw [hF]
      intro v H' ρ' x w' r
      exact ⟨z, r, g _ H' ρ' x w' it_str⟩
    | lst ds =>
      refine .inl ⟨ρ, S, Z, env, w, er, ?_⟩
      rw [hF]
      intro v H' ρ' x w' r
      obtain ⟨a, vs, rfl, q, q2⟩ := r
      exact ⟨a, rfl, ⟨vs, SqL.of (Fz_sub _ _ q)⟩, g _ H' ρ' x w' (it_seqL (SqL.of q) q2)⟩
    | klst ds =>
      refine .inl ⟨ρ, S, Z, env, w, er, ?_⟩
      rw [hF]
      intro v H' ρ' x w' r
      obtain ⟨a, vs, rfl, q, q2⟩ := r
      exact ⟨a, rfl, ⟨vs, Fz_sub.seqL q⟩, g _ H' ρ' x w' (it_seqL q q2)⟩
    | tup ds =>
      refine .inr (.inl ⟨ρ, S, Z, env, w, er, ?_⟩)
      rw [hF]
      intro v H' ρ' x w' r
      obtain ⟨a, vs, rfl, q, q2⟩ := r
      exact ⟨a, rfl, ⟨vs, Fz_sub.seqT q⟩, g _ H' ρ' x w' (it_seqT q q2)⟩
    | cell k =>
      cases e : S'[k]? with
      | none =>
        have hw : walkD S' (D.cell k) = none := by simp only [walkD, e]
        change GoodI _ _ _ _ _ _ _ _ (match walkD S' (D.cell k) with | some p => R.ok p S' | none => R.stuck) at g
        rw [hw] at g
        exact g.elim
      | some c =>
        cases c with
        | lst ds =>
          have hw : walkD S' (D.cell k) = some (ds, Src.cl k (.lst ds)) := by simp only [walkD, e]
          change GoodI _ _ _ _ _ _ _ _ (match walkD S' (D.cell k) with | some p => R.ok p S' | none => R.stuck) at g
          rw [hw] at g
          refine .inl ⟨ρ, S, Z, env, w, er, ?_⟩
          rw [hF]
          intro v H' ρ' x w' r
          obtain ⟨a, rfl, q⟩ := r
          obtain ⟨b, o, h1, h2, h3, h4⟩ := w'.cells k _ e
          rw [q] at h1
          cases h1
          obtain ⟨vs, rfl, r2⟩ := h4
          exact ⟨a, rfl, ⟨vs, SqL.of h3⟩, g _ H' ρ' x w' (it_cell q)⟩
        | _ =>
          have hw : walkD S' (D.cell k) = none := by simp only [walkD, e]
          change GoodI _ _ _ _ _ _ _ _ (match walkD S' (D.cell k) with | some p => R.ok p S' | none => R.stuck) at g
          rw [hw] at g
          exact g.elim
    | _ => exact g.elim
theorem if_own {i : Nat} {x : Str} (h : PE X (.Name x pos) (tVar i)) : IF T X W tg (.Name x pos) (iOwn i) := by
  refine pi_imp (pi_or (pi_list h) (pi_tup h)) fun σ H Qi q => ?_
  obtain ⟨ρ, S, Z, env, w, er, g⟩ := q
  unfold iOwn at g
  cases hd : env[i]? with
  | none =>
    rw [hd] at g
    exact g.elim
  | some sl =>
    rw [hd] at g
    cases sl with
    | un => exact g.elim
    | slf c => exact g.elim
    | own c =>
      cases c with
      | lst ds =>
        obtain ⟨a, o, h1, h2, h3, h4⟩ := er.own i _ hd
        obtain ⟨vs, rfl, r2⟩ := h4
        exact .inl ⟨_, h1, a, rfl, ⟨vs, SqL.of h3⟩, g _ H ρ .refl w (it_own h2 h3 r2)⟩
      | _ => exact g.elim
    | val d =>
      obtain ⟨v, h1, r⟩ := er.val i d hd
      cases d with
      | lst ds =>
        obtain ⟨a, vs, rfl, q, q2⟩ := r
        exact .inl ⟨_, h1, a, rfl, ⟨vs, SqL.of (Fz_sub _ _ q)⟩, g _ H ρ .refl w (it_seqL (SqL.of q) q2)⟩
      | klst ds =>
        obtain ⟨a, vs, rfl, q, q2⟩ := r
        exact .inl ⟨_, h1, a, rfl, ⟨vs, Fz_sub.seqL q⟩, g _ H ρ .refl w (it_seqL q q2)⟩
      | tup ds =>
        obtain ⟨a, vs, rfl, q, q2⟩ := r
        exact .inr ⟨_, h1, a, rfl, ⟨vs, Fz_sub.seqT q⟩, g _ H ρ .refl w (it_seqT q q2)⟩
      | cell k =>
        obtain ⟨a, rfl, q⟩ := r
        cases e : S[k]? with
        | none =>
          have hw : walkD S (D.cell k) = none := by simp only [walkD, e]
          change GoodI _ _ _ _ _ _ _ _ (match walkD S (D.cell k) with | some p => R.ok p S | none => R.stuck) at g
          rw [hw] at g
          exact g.elim
        | some c =>
          cases c with
          | lst ds =>
            have hw : walkD S (D.cell k) = some (ds, Src.cl k (.lst ds)) := by simp only [walkD, e]
            change GoodI _ _ _ _ _ _ _ _ (match walkD S (D.cell k) with | some p => R.ok p S | none => R.stuck) at g
            rw [hw] at g
            obtain ⟨b, o, g1, g2, g3, g4⟩ := w.cells k _ e
            rw [q] at g1
            cases g1
            obtain ⟨vs, rfl, r2⟩ := g4
            exact .inl ⟨_, h1, a, rfl, ⟨vs, SqL.of g3⟩, g _ H ρ .refl w (it_cell q)⟩
          | _ =>
            have hw : walkD S (D.cell k) = none := by simp only [walkD, e]
            change GoodI _ _ _ _ _ _ _ _ (match walkD S (D.cell k) with | some p => R.ok p S | none => R.stuck) at g
            rw [hw] at g
            exact g.elim
      | _ => exact g.elim
/-- range -/
def rngD (lo hi : Int) : List D := (List.range (hi - lo).toNat).map fun i => D.int (lo + (i : Nat))
def InRg (j : Int) : Prop := -(2 ^ 62) ≤ j ∧ j < 2 ^ 62
instance (j : Int) : Decidable (InRg j) := by unfold InRg; exact inferInstance
def kRg1 : List D → Cm (List D × Src)
  | [.int j] => if InRg j then pure (rngD 0 j, .fz) else stk
  | _ => stk
def kRg2 : List D → Cm (List D × Src)
  | [.int i, .int j] => if InRg i ∧ InRg j then pure (rngD i j, .fz) else stk
  | _ => stk
def iRg1 (F : Env → Cm (List D)) : Env → Cm (List D × Src) := fun env S => (F env S).bnd kRg1
def iRg2 (F : Env → Cm (List D)) : Env → Cm (List D × Src) := fun env S => (F env S).bnd kRg2
theorem kRg1_ok {K : PySem.W.Frag} {σ : St} {ρ : Nat → Option Addr} {S : Sto} {Z : Hid} {H : Hp} {Qi : It → Hp → Prop} {ds : List D} {vs : List V} (w : Wd T K ρ S Z H) (r : RepL T K ρ (Fz ρ Z H) ds vs) (g : GoodI T K W σ Qi ρ Z H (kRg1 ds S)) :
    ∃ j : Int, vs = [.int j] ∧ InRg j ∧ Qi (Itr 0 j.toNat) H := by
  unfold kRg1 at g
  split at g
  · rename_i j
    split at g
    · rename_i hj
      obtain ⟨v, us, rfl, r1, r2⟩ := r
      have e : us = [] := r2
      subst e
      have e1 : v = .int j := r1
      subst e1
      refine ⟨j, rfl, hj, g _ H ρ .refl w ?_⟩
      have h := it_range (T := T) (K := K) (ρ := ρ) (Z := Z) (H := H) (lo := 0) (n := j.toNat)
      unfold rngD
      rw [Int.sub_zero]
      exact h
    · exact g.elim
  · exact g.elim
theorem kRg2_ok {K : PySem.W.Frag} {σ : St} {ρ : Nat → Option Addr} {S : Sto} {Z : Hid} {H : Hp} {Qi : It → Hp → Prop} {ds : List D} {vs : List V} (w : Wd T K ρ S Z H) (r : RepL T K ρ (Fz ρ Z H) ds vs) (g : GoodI T K W σ Qi ρ Z H (kRg2 ds S)) :
    ∃ i j : Int, vs = [.int i, .int j] ∧ (InRg i ∧ InRg j) ∧ Qi (Itr i (j - i).toNat) H := by
  unfold kRg2 at g
  split at g
  · rename_i i j
    split at g
    · rename_i hj
      obtain ⟨v, us, rfl, r1, v2, us2, rfl, r2, r3⟩ := r
      have e : us2 = [] := r3
      subst e
      have e1 : v = .int i := r1
      subst e1
      have e2 : v2 = .int j := r2
      subst e2
      exact ⟨i, j, rfl, hj, g _ H ρ .refl w it_range⟩
    · exact g.elim
  · exact g.elim
theorem if_range1 {a : Expr} {p : Pos} {Fa : Env → Cm (List D)} (hg : Gl X "range") (hm : X.mg "range" = none) (ha : AF T X W [a] Fa) (hs : starEach [a] X.env = [(false, eval a X.env)] := by rfl) : IF T X W tg (.Call (.Name "range" p) [a] [] pos) (iRg1 Fa) := by
  refine pi_imp (pi_range1 hg hm ha hs) fun σ H Qi q => ?_
  obtain ⟨ρ, S, Z, env, w, er, g⟩ := q
  refine lift_imp (lift_bndI w er g) fun v H1 ⟨ρ1, S1, d1, x1, w1, e1, r1, g1⟩ => ?_
  obtain ⟨j, e, h, q⟩ := kRg1_ok w1 r1 g1
  exact ⟨j, e, h.1, h.2, q⟩
theorem if_range2 {a b : Expr} {p : Pos} {Fa : Env → Cm (List D)} (hg : Gl X "range") (hm : X.mg "range" = none) (ha : AF T X W [a, b] Fa) (hs : starEach [a, b] X.env = [(false, eval a X.env), (false, eval b X.env)] := by rfl) (hs2 : starEach [b] X.env = [(false, eval b X.env)] := by rfl) : IF T X W tg (.Call (.Name "range" p) [a, b] [] pos) (iRg2 Fa) := by
  refine pi_imp (pi_range2 hg hm ha hs hs2) fun σ H Qi q => ?_
  obtain ⟨ρ, S, Z, env, w, er, g⟩ := q
  refine lift_imp (lift_bndI w er g) fun v H1 ⟨ρ1, S1, d1, x1, w1, e1, r1, g1⟩ => ?_
  obtain ⟨i, j, e, h, q⟩ := kRg2_ok w1 r1 g1
  exact ⟨i, j, e, ⟨h.1.1, h.1.2, h.2.1, h.2.2⟩, q⟩
end
end HT
set_option Elab.async false
set_option linter.all false
set_option maxRecDepth 100000
set_option maxHeartbeats 400000
namespace HT
open PySem PySem.Spec L2

/-! ### for -/
def loopD (b : Bd) (src : Src) (body : FS) : List D → Env → Sto → R Fl
  | [], env, S => if chk src S = true then .ok (.nx env) S else .stuck
  | d :: ds, env, S => if chk src S = true then (match bindE b d env with
    | none => .stuck
    | some env1 => match body env1 S with
      | .ok (.nx e) S' => loopD b src body ds e S'
      | .ok (.ct e) S' => loopD b src body ds e S'
      | .ok (.bk e) S' => .ok (.nx e) S'
      | r => r) else .stuck
def sFor (b : Bd) (G : Env → Cm (List D × Src)) (body : FS) : FS := fun env S => sB env (G env S) fun p S' => if p.2.isHid = true then .stuck else loopD b p.2 body p.1 env S'
theorem drop_cons {α : Type} {l : List α} {i : Nat} (h : i < l.length) : l.drop i = l[i] :: l.drop (i + 1) := List.drop_eq_getElem_cons h
section
variable {T : Str → Addr} {X : Cx} {W : WX} {tg iter : Expr} {G : Env → Cm (List D × Src)} {body : List Stmt} {F : FS} {b : Bd} {pos : Pos}
/-- what holds ahead of the i-th turn -/
def LoopAt (T : Str → Addr) (K : PySem.W.Frag) (W : WX) (B : Ends) (b : Bd) (src : Src) (F : FS) (ρ : Nat → Option Addr) (Z0 Z : Hid) (H : Hp) (ds : List D) (σ' : St) (H' : Hp) : Prop :=
  ∃ ρ2 S2 Z2 env2, ExtS ρ Z0 Z H ρ2 Z2 H' ∧ At T K ρ2 S2 Z0 Z2 H' σ' env2 ∧ GoodS T K W B ρ2 Z0 Z2 H' (loopD b src F ds env2 S2)
theorem sf_for (hp : PassesOwn (model X.prog X.w) X.A X.env X.xe) (hc : X.calm = true) (hi : IF T X W tg iter G) (hg : PG X tg (gBd X.K b)) (hb : SFs T X W body F)
    (hs : ∀ x, foldedSetIterable iter X.env x = pure x := by intro _; rfl) : SF T X W (.For tg iter body [] pos) (sFor b G F) := ps_imp (ps_for hp hc hi hg hb hs) fun B σ H q => by
  obtain ⟨ρ, S, Z0, Z, env, a, g⟩ := q
  refine ⟨ρ, S, Z, env, a.w, a.e, ?_⟩
  unfold sFor at g
  cases hG : G env S with
  | stuck =>
    rw [hG] at g
    exact g
  | exc C fs S' =>
    rw [hG] at g
    exact fun dx vs H' ρ' x w' q1 q2 => (show GoodF T X.K W B ρ Z0 Z H S' (.xc env C fs) from g) σ dx vs H' ρ' Z (x.s a.o.sub) (a.ext x w') q1 q2
  | ok p S' =>
    rw [hG] at g
    obtain ⟨items, src⟩ := p
    intro J H' ρ' x w' it
    have g' : GoodS T X.K W B ρ Z0 Z H (if src.isHid = true then .stuck else loopD b src F items env S') := g
    cases hh : src.isHid with
    | true =>
      rw [hh, if_pos rfl] at g'
      exact g'.elim
    | false =>
      rw [hh, if_neg Bool.false_ne_true] at g'
      refine ⟨fun i m σ' H2 => m = items.length - i ∧ i ≤ items.length ∧ LoopAt T X.K W B b src F ρ' Z0 Z H' (items.drop i) σ' H2,
        ⟨items.length, by simp, Nat.zero_le _, ρ', S', Z, env, .refl, a.ext x w', g'.later (x.s a.o.sub)⟩, ?_⟩
      rintro i m σ' H2 ⟨rfl, hi, ρ2, S2, Z2, env2, x2, a2, g2⟩
      have step := it ρ2 S2 Z2 H2 x2.cells x2.frz (fun z => by rw [hh] at z; cases z) a2.w
      by_cases hlt : i < items.length
      · rw [drop_cons hlt] at g2
        unfold loopD at g2
        split at g2
        · rename_i hch
          obtain ⟨go, yl⟩ := (step hch i).1 _ (List.getElem?_eq_getElem hlt)
          cases hb2 : bindE b items[i] env2 with
          | none =>
            rw [hb2] at g2
            exact g2.elim
          | some env1 =>
            rw [hb2] at g2
            dsimp only at g2
            refine .inr ⟨go, LoopAt T X.K W B b src F ρ' Z0 Z H' (items.drop (i + 1)), fun σ3 H3 n3 => ⟨items.length - (i + 1), by omega, rfl, hlt, n3⟩, fun v H3 y => ?_⟩
            obtain ⟨x3, w3, r3⟩ := yl v H3 y
            refine bd_runA r3 (a2.ext x3 w3) hb2 fun σ3 a3 => ⟨ρ2, S2, Z0, Z2, env1, a3, ?_⟩
            have x23 : ExtS ρ' Z0 Z H' ρ2 Z2 H3 := x2.trans (x3.s a2.o.sub)
            cases hF : F env1 S2 with
            | stuck =>
              rw [hF] at g2
              exact g2
            | exc C fs S3 =>
              rw [hF] at g2
              exact g2
            | ok f S3 =>
              rw [hF] at g2
              cases f with
              | nx e => exact fun σ4 H4 ρ4 Z4 x4 a4 => ⟨ρ4, S3, Z4, e, x23.trans x4, a4, GoodS.later (show GoodS T X.K W B ρ2 Z0 Z2 H2 (loopD b src F (items.drop (i + 1)) e S3) from g2) ((x3.s a2.o.sub).trans x4)⟩
              | ct e => exact fun σ4 H4 ρ4 Z4 x4 a4 => ⟨ρ4, S3, Z4, e, x23.trans x4, a4, GoodS.later (show GoodS T X.K W B ρ2 Z0 Z2 H2 (loopD b src F (items.drop (i + 1)) e S3) from g2) ((x3.s a2.o.sub).trans x4)⟩
              | bk e => exact fun σ4 H4 ρ4 Z4 x4 a4 => (show GoodF T X.K W B ρ2 Z0 Z2 H2 S3 (.nx e) from g2) σ4 H4 ρ4 Z4 ((x3.s a2.o.sub).trans x4) a4
              | rt d => exact fun v H4 ρ4 Z4 x4 => (show GoodF T X.K W B ρ2 Z0 Z2 H2 S3 (.rt d) from g2) v H4 ρ4 Z4 ((x3.s a2.o.sub).trans x4)
              | xc e C fs => exact fun σ4 dx vs H4 ρ4 Z4 x4 => (show GoodF T X.K W B ρ2 Z0 Z2 H2 S3 (.xc e C fs) from g2) σ4 dx vs H4 ρ4 Z4 ((x3.s a2.o.sub).trans x4)
        · exact g2.elim
      · have ei : i = items.length := by omega
        subst ei
        rw [List.drop_length] at g2
        unfold loopD at g2
        split at g2
        · rename_i hch
          exact .inl ⟨(step hch _).2 (Nat.le_refl _), (show GoodF T X.K W B ρ2 Z0 Z2 H2 S2 (.nx env2) from g2) σ' H2 ρ2 Z2 .refl a2⟩
        · exact g2.elim
end

/-! ### comprehensions -/
abbrev WF : WX := fun _ _ _ _ => False
def nox {α : Type} (r : R α) : Option (α × Sto) := match r with
  | .ok a S => some (a, S)
  | _ => none
def wipeE (env : Env) : List Nat → Env
  | [] => env
  | v :: vs => (wipeE env vs).set v .un
def compL (b : Bd) (src : Src) (Ft : Env → Cm Bool) (Fe : FE) (env0 : Env) : List D → Sto → Option (List D × Sto)
  | [], S => if chk src S = true then some ([], S) else none
  | d :: ds, S => if chk src S = true then (match bindE b d env0 with
    | none => none
    | some env1 => match nox (Ft env1 S) with
      | none => none
      | some (true, S1) => (match nox (Fe env1 S1) with
        | none => none
        | some (y, S2) => match compL b src Ft Fe env0 ds S2 with
          | none => none
          | some (ys, S3) => some (y :: ys, S3))
      | some (false, S1) => compL b src Ft Fe env0 ds S1) else none
def oFin (acc : List D) : Option (List D × Sto) → R CO
  | none => .stuck
  | some (ys, S) => if (acc ++ ys).length ≤ sizeLine then .ok (.lst (acc ++ ys)) S else .stuck
def oLc (vs : List Nat) (b : Bd) (G : Env → Cm (List D × Src)) (Ft : Env → Cm Bool) (Fe : FE) : Env → Cm CO := fun env S => (G env S).bnd fun p S' => oFin [] (compL b p.2 Ft Fe (wipeE env vs) p.1 S')
abbrev TsF (T : Str → Addr) (X : Cx) (W : WX) (ifs : List Expr) (F : Env → Cm Bool) : Prop := PTs X ifs (lift T X.K rB W F)
section
variable {T : Str → Addr} {X : Cx} {W : WX}
theorem tsf_nil : TsF T X W [] (fun _ => pure true) := ⟨fun pins s σ H Q I h => pts_nil.run pins s σ H Q I (by
  obtain ⟨ρ, S, Z, env, w, er, g⟩ := h
  exact g true H ρ .refl w rfl)⟩
theorem tsf_one {c : Expr} {F : Env → Cm Bool} (h : TF T X W c F) : TsF T X W [c] F := pts_one h
end
section
variable {T : Str → Addr} {K : PySem.W.Frag} {ρ ρ1 ρ2 : Nat → Option Addr} {S S1 S2 : Sto} {Z : Hid} {H H1 H2 : Hp} {σ : St} {env : Env} {p : Addr} {c c' : CO} {o : HO}
theorem fz_hid (hz : Z p) : Fz ρ Z (upd H p o) = Fz ρ Z H := by
  funext a
  unfold Fz
  by_cases hq : Z a ∨ ∃ k, ρ k = some a
  · rw [if_pos hq, if_pos hq]
  · have ne : a ≠ p := fun e => hq (.inl (by rw [e]; exact hz))
    rw [if_neg hq, if_neg hq, upd_ne ne]
theorem Wd.hid (w : Wd T K ρ S Z H) (hz : Z p) : Wd T K ρ S Z (upd H p o) := by
  refine ⟨w.dom, fun k c hc => ?_, w.inj, fun a z => ?_⟩
  · obtain ⟨a, u, h1, h2, h3, h4⟩ := w.cells k c hc
    have ne : a ≠ p := fun e => h2 (by rw [e]; exact hz)
    exact ⟨a, u, h1, h2, by rw [upd_ne ne]; exact h3, by rw [fz_hid hz]; exact h4⟩
  · by_cases e : a = p
    · exact ⟨o, by rw [e]; exact upd_same⟩
    · obtain ⟨u, q⟩ := w.there a z
      exact ⟨u, by rw [upd_ne e]; exact q⟩
theorem Neu.put (n : Neu T K ρ Z H ρ1 S1 H1 p c) (x : Ext ρ1 (plusZ Z p) H1 ρ2 H2) (w : Wd T K ρ2 S2 (plusZ Z p) H2) (h : HObj T K ρ2 (Fz ρ2 (plusZ Z p) H2) c' o) : Neu T K ρ Z H ρ2 S2 (upd H2 p o) p c' := by
  have hp : plusZ Z p p := .inr rfl
  refine ⟨fun k a e => x.cells k a (n.cells k a e), fun a u e => by rw [fz_hid hp]; exact x.frz a u (n.frz a u e), fun a z => ?_, w.hid hp, n.nz, ⟨o, upd_same, by rw [fz_hid hp]; exact h⟩⟩
  have ne : a ≠ p := fun e => n.nz (by rw [← e]; exact z)
  rw [upd_ne ne, x.hid a (.inl z)]
  exact n.hid a z
theorem wipeE_len : ∀ (vs : List Nat), (wipeE env vs).length = env.length
  | [] => rfl
  | v :: vs => by
    unfold wipeE
    rw [List.length_set, wipeE_len vs]
theorem wipeE_get : ∀ {vs : List Nat} {i : Nat} {s : Sl}, (wipeE env vs)[i]? = some s → s = .un ∨ (env[i]? = some s ∧ i ∉ vs)
  | [], i, s, h => .inr ⟨h, by simp⟩
  | v :: vs, i, s, h => by
    unfold wipeE at h
    by_cases hv : v = i
    · subst hv
      have hl : v < (wipeE env vs).length := by
        have := (List.getElem?_eq_some_iff.mp h).1
        rw [List.length_set] at this
        exact this
      rw [List.getElem?_set_self hl] at h
      exact .inl (Option.some.inj h).symm
    · rw [List.getElem?_set_ne hv] at h
      rcases wipeE_get h with q | ⟨q1, q2⟩
      · exact .inl q
      · exact .inr ⟨q1, fun z => by
          rcases List.mem_cons.mp z with e | e
          · exact hv e.symm
          · exact q2 e⟩
theorem wipe_keep : ∀ {vs : List Nat} {i : Nat}, i ∉ vs → (L2.wipe σ vs)[i]? = σ[i]?
  | [], i, _ => rfl
  | v :: vs, i, h => by
    show ((L2.wipe σ vs).set v none)[i]? = σ[i]?
    rw [List.getElem?_set_ne fun e => h (by rw [e]; exact List.mem_cons_self), wipe_keep fun z => h (List.mem_cons_of_mem _ z)]
theorem ER.wiped (e : ER T K ρ Z H σ env) (vs : List Nat) : ER T K ρ Z H (L2.wipe σ vs) (wipeE env vs) := by
  refine ⟨fun i d h => ?_, fun i c h => ?_, fun i c h => ?_, by rw [wipeE_len, wipe_length]; exact e.len⟩
  · rcases wipeE_get h with q | ⟨q1, q2⟩
    · cases q
    · obtain ⟨v, h1, h2⟩ := e.val i d q1
      exact ⟨v, by rw [wipe_keep q2]; exact h1, h2⟩
  · rcases wipeE_get h with q | ⟨q1, q2⟩
    · cases q
    · obtain ⟨a, o, h1, h2⟩ := e.own i c q1
      exact ⟨a, o, by rw [wipe_keep q2]; exact h1, h2⟩
  · rcases wipeE_get h with q | ⟨q1, q2⟩
    · cases q
    · obtain ⟨o, h1, h2⟩ := e.slf i c q1
      exact ⟨o, by rw [wipe_keep q2]; exact h1, h2⟩
theorem wipe_wipe (vs : List Nat) : L2.wipe (L2.wipe σ vs) vs = L2.wipe σ vs := by
  have a : Agree vs σ (L2.wipe σ vs) := ⟨wipe_length σ vs, fun j h => wipe_keep h⟩
  exact a.wipe fun i h => h
theorem ER.neu (e : ER T K ρ Z H σ env) (n : Neu T K ρ Z H ρ1 S1 H1 p c) : ER T K ρ1 (plusZ Z p) H1 σ env := by
  refine ⟨fun i d h => ?_, fun i c h => ?_, fun i c h => ?_, e.len⟩
  · obtain ⟨v, h1, h2⟩ := e.val i d h
    exact ⟨v, h1, Rep.mono n.cells n.frz _ _ h2⟩
  · obtain ⟨a, o, h1, h2, h3, h4⟩ := e.own i c h
    exact ⟨a, o, h1, .inl h2, (n.hid a h2).trans h3, h4.mono n.cells n.frz⟩
  · obtain ⟨o, h1, h2, h3, h4⟩ := e.slf i c h
    exact ⟨o, h1, .inl h2, (n.hid _ h2).trans h3, h4.mono n.cells n.frz⟩
theorem GoodO.later {W : WX} {Q : VK} {r : R CO} (g : GoodO T K W σ Q ρ Z H r) (x : Ext ρ Z H ρ1 H1) : GoodO T K W σ Q ρ1 Z H1 r := by
  cases r with
  | ok d S' => exact fun p H' ρ' n => g p H' ρ' (n.after x)
  | exc C fs S' => exact fun dx vs H' ρ' e w q q2 => g dx vs H' ρ' (x.trans e) w q q2
  | stuck => exact g
end
section
variable {T : Str → Addr} {X : Cx} {W : WX} {elt tg iter : Expr} {ifs : List Expr} {scope : Scope} {own : List (Str × Nat)} {G : Env → Cm (List D × Src)} {Ft : Env → Cm Bool} {Fe : FE} {b : Bd} {pos : Pos}
/-- ahead of the i-th turn of a comprehension: the list stands at p -/
def CompAt (T : Str → Addr) (K : PySem.W.Frag) (W : WX) (σ : St) (Q : VK) (b : Bd) (src : Src) (Ft : Env → Cm Bool) (Fe : FE) (env0 : Env) (ρ : Nat → Option Addr) (Z : Hid) (H : Hp) (p : Addr) (ds : List D) (H' : Hp) : Prop :=
  ∃ ρ2 S2 acc, Neu T K ρ Z H ρ2 S2 H' p (.lst acc) ∧ GoodO T K W σ Q ρ Z H (oFin acc (compL b src Ft Fe env0 ds S2))
theorem oFin_more {acc ys : List D} {y : D} {S : Sto} : oFin acc (some (y :: ys, S)) = oFin (acc ++ [y]) (some (ys, S)) := by
  unfold oFin
  dsimp only
  rw [List.append_assoc]
  rfl
theorem comp_run {J : It} {items : List D} {src : Src} {ρ : Nat → Option Addr} {S : Sto} {Z : Hid} {H : Hp} {σ : St} {env : Env} {Q : VK} {vs : List Nat} (w : Wd T X.K ρ S Z H) (er : ER T X.K ρ Z H σ env) (it : ItOk T X.K ρ Z H J items src)
    (hv : ∀ i ∈ b.slots, i ∈ vs) (g : GoodO T X.K W σ Q ρ Z H (oFin [] (compL b src Ft Fe (wipeE env vs) items S))) (p : Addr) (hp : H p = none) :
    ∃ V : Nat → Nat → Hp → Prop, (∃ m, V 0 m (upd H p (.lst []))) ∧ ∀ i m H, V i m H → (J.stop i H ∧ Q (.ref p) H) ∨ (J.go i H ∧ ∃ Nx : Hp → Prop, (∀ H', Nx H' → ∃ m', m' < m ∧ V (i + 1) m' H') ∧ ∀ x H', J.yld i H x H' →
      gBd X.K b x (L2.wipe σ vs) H' fun σ2 H2 => L2.wipe σ2 vs = L2.wipe σ vs ∧ lift T X.K rB WF Ft σ2 H2 fun c H3 =>
        if c = true then lift T X.K (rD T X.K) WF Fe σ2 H3 fun y H4 => ∃ acc, H4 p = some (.lst acc) ∧ acc.length < sizeLine ∧ Nx (upd H4 p (.lst (acc ++ [y]))) else Nx H3) := by
  refine ⟨fun i m H2 => m = items.length - i ∧ i ≤ items.length ∧ CompAt T X.K W σ Q b src Ft Fe (wipeE env vs) ρ Z H p (items.drop i) H2,
    ⟨items.length, by simp, Nat.zero_le _, ρ, S, [], new_neu w hp ⟨[], rfl, rfl⟩, g⟩, ?_⟩
  rintro i m H2 ⟨rfl, hi, ρ2, S2, acc, n, g2⟩
  have step := it ρ2 S2 (plusZ Z p) H2 n.cells n.frz (fun _ => n.hid) n.w
  by_cases hlt : i < items.length
  · rw [drop_cons hlt] at g2
    unfold compL at g2
    split at g2
    · rename_i hch
      obtain ⟨go, yl⟩ := (step hch i).1 _ (List.getElem?_eq_getElem hlt)
      cases hb2 : bindE b items[i] (wipeE env vs) with
      | none =>
        rw [hb2] at g2
        exact g2.elim
      | some env1 =>
        rw [hb2] at g2
        dsimp only at g2
        refine .inr ⟨go, CompAt T X.K W σ Q b src Ft Fe (wipeE env vs) ρ Z H p (items.drop (i + 1)), fun H3 n3 => ⟨items.length - (i + 1), by omega, rfl, hlt, n3⟩, fun v H3 y => ?_⟩
        obtain ⟨x3, w3, r3⟩ := yl v H3 y
        have er3 : ER T X.K ρ2 (plusZ Z p) H3 (L2.wipe σ vs) (wipeE env vs) := ((er.neu n).ext x3).wiped vs
        refine bd_run r3 er3 hb2 fun σ3 a3 ag => ⟨by rw [ag.wipe hv, wipe_wipe], ρ2, S2, plusZ Z p, env1, w3, a3, ?_⟩
        cases hF : Ft env1 S2 with
        | stuck =>
          rw [hF] at g2
          exact g2.elim
        | exc C fs S3 =>
          rw [hF] at g2
          exact g2.elim
        | ok c S3 =>
          rw [hF] at g2
          intro c' H4 ρ4 x4 w4 ec
          have ec' : c = c' := ec
          subst ec'
          have x34 := x3.trans x4
          cases c with
          | false =>
            refine iteF ⟨ρ4, S3, acc, ?_, g2⟩
            obtain ⟨o, h1, h2⟩ := n.obj
            have q : H4 p = H2 p := x34.hid p (.inr rfl)
            refine ⟨fun k a e => x34.cells k a (n.cells k a e), fun a u e => x34.frz a u (n.frz a u e), fun a z => (x34.hid a (.inl z)).trans (n.hid a z), w4, n.nz, ⟨o, q.trans h1, h2.mono x34.cells x34.frz⟩⟩
          | true =>
            refine iteT ⟨ρ4, S3, plusZ Z p, env1, w4, a3.ext x4, ?_⟩
            change GoodO _ _ _ _ _ _ _ _ (oFin acc (match nox (Fe env1 S3) with | none => none | some (y, S2) => match compL b src Ft Fe (wipeE env vs) (items.drop (i + 1)) S2 with | none => none | some (ys, S3) => some (y :: ys, S3))) at g2
            cases hE : Fe env1 S3 with
            | stuck =>
              rw [hE] at g2
              exact g2.elim
            | exc C fs S4 =>
              rw [hE] at g2
              exact g2.elim
            | ok d S4 =>
              rw [hE] at g2
              intro u H5 ρ5 x5 w5 ru
              have x35 := x34.trans x5
              obtain ⟨o, h1, h2⟩ := n.obj
              obtain ⟨av, rfl, r2⟩ := h2
              have q : H5 p = some (.lst av) := (x35.hid p (.inr rfl)).trans h1
              change GoodO _ _ _ _ _ _ _ _ (oFin acc (match compL b src Ft Fe (wipeE env vs) (items.drop (i + 1)) S4 with | none => none | some (ys, S3) => some (d :: ys, S3))) at g2
              have r5 : RepL T X.K ρ5 (Fz ρ5 (plusZ Z p) H5) acc av := RepL.mono x35.cells x35.frz _ _ r2
              cases hR : compL b src Ft Fe (wipeE env vs) (items.drop (i + 1)) S4 with
              | none =>
                rw [hR] at g2
                exact g2.elim
              | some pr =>
                obtain ⟨ys, S5⟩ := pr
                rw [hR] at g2
                dsimp only at g2
                have hlen : acc.length < sizeLine := by
                  unfold oFin at g2
                  dsimp only at g2
                  split at g2
                  · rename_i hl
                    rw [List.length_append, List.length_cons] at hl
                    omega
                  · exact g2.elim
                rw [oFin_more] at g2
                refine ⟨av, q, by rw [← r5.len]; exact hlen, ρ5, S4, acc ++ [d], n.put x35 w5 ⟨av ++ [u], rfl, r5.app (RepL.one ru)⟩, ?_⟩
                rw [hR]
                exact g2
    · exact g2.elim
  · have ei : i = items.length := by omega
    subst ei
    rw [List.drop_length] at g2
    unfold compL at g2
    split at g2
    · rename_i hch
      refine .inl ⟨(step hch _).2 (Nat.le_refl _), ?_⟩
      unfold oFin at g2
      dsimp only at g2
      rw [List.append_nil] at g2
      split at g2
      · exact g2 p H2 ρ2 n
      · exact g2.elim
    · exact g2.elim
theorem of_lc (hc : X.calm = true) (hN : X.N.Nodup) (hi : IF T X W tg iter G) (ok : BlkOk X.N X.env.scope scope own) (hv : ∀ i ∈ b.slots, i ∈ own.map (·.2))
    (hg : ∀ (s : Shared) (H : Hp) (C : Addr) (cl : List (Str × Addr)) (fp : List Addr), PG (X.blk s H scope (compEnvC scope cl C X.env) fp) tg (gBd X.K b))
    (ht : ∀ (s : Shared) (H : Hp) (C : Addr) (cl : List (Str × Addr)) (fp : List Addr), TsF T (X.blk s H scope (compEnvC scope cl C X.env) fp) WF ifs Ft)
    (he : ∀ (s : Shared) (H : Hp) (C : Addr) (cl : List (Str × Addr)) (fp : List Addr), PF T (X.blk s H scope (compEnvC scope cl C X.env) fp) WF elt Fe) (hs : ∀ x, foldedSetIterable iter X.env x = pure x := by intro _; rfl) :
    OF T X W (.ListComp elt [⟨tg, iter, ifs, 0⟩] scope pos) (oLc (own.map (·.2)) b G Ft Fe) := pe_imp (pe_lc hc hN hi ok hg ht he hs) fun σ H Q q => by
  obtain ⟨ρ, S, Z, env, w, er, g⟩ := q
  refine ⟨ρ, S, Z, env, w, er, ?_⟩
  unfold oLc at g
  cases hG : G env S with
  | stuck =>
    rw [hG] at g
    exact g
  | exc C fs S' =>
    rw [hG] at g
    exact g
  | ok p S' =>
    rw [hG] at g
    obtain ⟨items, src⟩ := p
    exact fun J H' ρ' x w' it D hD => comp_run w' (er.ext x) it hv (GoodO.later (show GoodO T X.K W σ Q ρ Z H (oFin [] (compL b src Ft Fe (wipeE env (own.map (·.2))) items S')) from g) x) D hD
end
end HT
set_option Elab.async false
set_option linter.all false
set_option maxRecDepth 100000
set_option maxHeartbeats 400000
namespace HT
open PySem PySem.Spec L2
open PyProof.Rows hiding St

/-! ### defs -/
/-- room, and no repr under way -/
structure Lv (k : Nat) (A : Around) : Prop where
  room : Room k A
  gd : A.guards = some []
theorem Lv.mono {j k : Nat} {A : Around} (r : Lv k A) (h : j ≤ k) : Lv j A := ⟨r.room.mono h, r.gd⟩
/-- a def's promise: its trees' function -/
def spT (T : Str → Addr) (K : PySem.W.Frag) (M : List D → Cm D) (vs : List V) (H : Hp) (Q : VK) (E : XK) : Prop := ∃ ρ S Z ds, Wd T K ρ S Z H ∧ RepL T K ρ (Fz ρ Z H) ds vs ∧ Good T K (rD T K) (fun c d _ H' => E c d H') [] Q ρ Z H (M ds S)
/-- the def at f computes M -/
structure FT (P : Program) (w : World) (K : PySem.W.Frag) (mg : Str → Option Value) (base : Heap) (T : Str → Addr) (k : Nat) (f : Addr) (fd : FuncData) (ps : List Str) (M : List D → Cm D) : Prop where
  len : ∀ ds S, ds.length ≠ ps.length → M ds S = .stuck
  run : ∀ (A : Around) (outer : List PySem.Env) (s : Shared) (H : Hp) (args : Args) (us : List Value) (vs : List V) (Q : VK) (E : XK), Lv k A → Env0 P w K mg base A outer s H → BindsTo s fd args (ps.zip us) → Vals vs us → vs.length = ps.length → spT T K M vs H Q E →
    codeAny (model P w) A (.call (.ref f) args) (CR (L2.CX P w) outer P w H s Q E) s
/-- what a body makes of the arguments: np of them, n names in all -/
def mkM (np n : Nat) (F : FS) (ds : List D) : Cm D := fun S => if ds.length = np then (match F (ds.map .val ++ List.replicate (n - ds.length) .un) S with
  | .ok (.rt d) S' => .ok d S'
  | .ok (.nx _) S' => .ok .non S'
  | .ok (.xc _ C fs) S' => .exc C fs S'
  | _ => .stuck) else .stuck
theorem fz_big {ρ : Nat → Option Addr} {Z Z' : Hid} {H : Hp} (h : ∀ a, Z a → Z' a) : Sub (Fz ρ Z' H) (Fz ρ Z H) := fun a o q => by
  obtain ⟨h1, h2, h3⟩ := Fz_at q
  exact Fz_mk h1 (fun z => h2 (h a z)) h3
theorem Wd.big {T : Str → Addr} {K : PySem.W.Frag} {ρ : Nat → Option Addr} {S : Sto} {Z Z' : Hid} {H : Hp} (w : Wd T K ρ S Z' H) (h : ∀ a, Z a → Z' a) : Wd T K ρ S Z H :=
  ⟨w.dom, fun k c hc => by
    obtain ⟨a, o, h1, h2, h3, h4⟩ := w.cells k c hc
    exact ⟨a, o, h1, fun z => h2 (h a z), h3, h4.mono (fun _ _ h => h) (fz_big h)⟩, w.inj, fun a z => w.there a (h a z)⟩
theorem ExtS.big {ρ ρ' : Nat → Option Addr} {Z Z1 Z' : Hid} {H H' : Hp} (x : ExtS ρ Z Z1 H ρ' Z' H') (h : ∀ a, Z a → Z' a) (h1 : ∀ a, Z1 a → Z a) : Ext ρ Z H ρ' H' := ⟨x.cells, fun a o q => fz_big h a o (x.frz a o (fz_big h1 a o q)), x.hid⟩
theorem no_mapped {ds : List D} {n i : Nat} {s : Sl} (h : (ds.map Sl.val ++ List.replicate n .un)[i]? = some s) : s = .un ∨ ∃ d, s = .val d := by
  have m := List.mem_of_getElem? h
  rcases List.mem_append.mp m with m | m
  · obtain ⟨d, _, e⟩ := List.mem_map.mp m
    exact .inr ⟨d, e.symm⟩
  · exact .inl (List.eq_of_mem_replicate m)
theorem start_er {T : Str → Addr} {K : PySem.W.Frag} {ρ : Nat → Option Addr} {Z : Hid} {H : Hp} {ds : List D} {vs : List V} {N : List Str} (r : RepL T K ρ (Fz ρ Z H) ds vs) (hl : ds.length ≤ N.length) : ER T K ρ Z H (L2.start N vs) (ds.map .val ++ List.replicate (N.length - ds.length) .un) := by
  have hv := r.len
  have pick : ∀ {i : Nat} {s : Sl}, (ds.map Sl.val ++ List.replicate (N.length - ds.length) .un)[i]? = some s → s = .un ∨ ∃ d, s = .val d ∧ ds[i]? = some d := fun {i s} h => by
    by_cases hi : i < ds.length
    · rw [List.getElem?_append_left (by simpa using hi), List.getElem?_map] at h
      cases e : ds[i]? with
      | none =>
        rw [e] at h
        cases h
      | some d =>
        rw [e] at h
        exact .inr ⟨d, (Option.some.inj h).symm, rfl⟩
    · rw [List.getElem?_append_right (by simpa using hi), List.getElem?_replicate] at h
      split at h
      · exact .inl (Option.some.inj h).symm
      · cases h
  refine ⟨fun i d h => ?_, fun i c h => ?_, fun i c h => ?_, ?_⟩
  · rcases pick h with e | ⟨d', e, hd⟩
    · cases e
    · cases e
      obtain ⟨v, h1, h2⟩ := r.get hd
      refine ⟨v, ?_, h2⟩
      unfold L2.start
      have hi : i < vs.length := (List.getElem?_eq_some_iff.mp h1).1
      rw [List.getElem?_append_left (by simpa using hi), List.getElem?_map, h1]
      rfl
  · rcases pick h with e | ⟨d', e, hd⟩ <;> cases e
  · rcases pick h with e | ⟨d', e, hd⟩ <;> cases e
  · unfold L2.start
    rw [List.length_append, List.length_append, List.length_map, List.length_map, List.length_replicate, List.length_replicate, hv]
section
variable {P : Program} {w : World} {K : PySem.W.Frag} {mg : Str → Option Value} {base : Heap} {T : Str → Addr} {x qual : Str} {params : Arguments} {body : List Stmt} {scope : Scope} {dvs : List V} {kws : List (Str × V)} {f : Addr} {fd : FuncData} {N ps : List Str} {k : Nat}
/-- the context of a body -/
abbrev ctx (P : Program) (w : World) (K : PySem.W.Frag) (mg : Str → Option Value) (base : Heap) (N : List Str) (qual : Str) (scope : Scope) (f : Addr) (cdv : Value) (A : Around) (outer : List PySem.Env) (s : Shared) (H : Hp) (E : XK) : Cx := cxOf (L2.CX P w) P w K mg base N qual scope f cdv A outer s H E
/-- a def by its body, from a reading of the body -/
theorem ft_core {sp : List V → Hp → VK → XK → Prop} (F : FunD K x qual params body scope dvs kws f fd) (C : FnScope N ps scope)
    (hbody : ∀ (cdv : Value) (A : Around) (outer : List PySem.Env) (s : Shared) (H : Hp) (vs : List V) (Q : VK) (E : XK), Lv k (A.deeper (envOfC qual scope s.heap.objs.size f cdv)) → sp vs H Q E →
      ∃ t, PSs (ctx P w K mg base N qual scope f cdv A outer s H E) body t ∧ t { nx := fun _ H' => Q .non H', rt := Q } (L2.start N vs) H) :
    ∀ (A : Around) (outer : List PySem.Env) (s : Shared) (H : Hp) (args : Args) (us : List Value) (vs : List V) (Q : VK) (E : XK), Lv (k + 1) A → Env0 P w K mg base A outer s H → BindsTo s fd args (ps.zip us) → Vals vs us → vs.length = ps.length → sp vs H Q E →
    codeAny (model P w) A (.call (.ref f) args) (CR (L2.CX P w) outer P w H s Q E) s := by
  intro A outer s H args us vs Q E lv ev bd rv hl hq
  obtain ⟨oc, od, dV, kV, doc, pm, an, cdv, ct, osl, rfl, look, code, _, _⟩ := F.ex
  have kin : K.In s.heap := ev.mod.kin.keeps fun b o e => (ev.bs b o e).1
  have nol : s.heap.NoLimit := ev.mod.nolimit.keeps fun b o e => (ev.bs b o e).1
  have kinds : ∀ y ∈ ps.zip us, scope.names.lookup y.1 = some .local ∨ (scope.names.lookup y.1 = some .cell ∧ ((cellsFrom (s.heap.objs.size + 1) scope.names []).lookup y.1).isSome = true) := by
    rintro ⟨n, v⟩ hy
    rcases C.par n (List.of_mem_zip hy).1 with q | q
    · exact Or.inl q
    · exact Or.inr ⟨q, PySem.W.cellsFrom_some _ _ _ (Or.inl q)⟩
  refine codeAny_call_function lv.room.depth (kin _ _ look) rfl C.co C.gen rfl (PySem.W.codeRec_of kin code) (bd _ _ _ _ ?_)
  refine wpAny_newFunctionEnv_cells C.kind kinds fun env he s1 st => ?_
  subst he
  refine ⟨nol.keeps st.toInCall.keep, codeAny_func ?_⟩
  obtain ⟨t, ht, hr⟩ := hbody cdv A outer s H vs Q E ⟨lv.room.deeper _, lv.gd⟩ hq
  have I := inv_start (CX := L2.CX P w) (E := E) C lv.room.hd ev hl rv st
  refine wpAny_mono (ht.run [] s1 (L2.start N vs) H _ I hr) (fun fl s' q => ?_) fun e s' q => q
  cases fl with
  | ret u =>
    obtain ⟨v, τ, H', J, r, q⟩ := q
    exact ⟨v, H', J.os, J.bare, J.base, J.hok, r, q⟩
  | next =>
    obtain ⟨τ, H', J, q⟩ := q
    exact ⟨.non, H', J.os, J.bare, J.base, J.hok, rfl, q⟩
  | brk =>
    obtain ⟨_, _, _, q⟩ := q
    exact q.elim
  | cont =>
    obtain ⟨_, _, _, q⟩ := q
    exact q.elim
theorem ft_of {F : FS} (D : FunD K x qual params body scope dvs kws f fd) (C : FnScope N ps scope) {np n : Nat} (hnp : np = ps.length) (hn : n = N.length)
    (h : ∀ (cdv : Value) (A : Around) (outer : List PySem.Env) (s : Shared) (H : Hp) (E : XK), Lv k (A.deeper (envOfC qual scope s.heap.objs.size f cdv)) → SFs T (ctx P w K mg base N qual scope f cdv A outer s H E) (fun c d _ H' => E c d H') body F) :
    FT P w K mg base T (k + 1) f fd ps (mkM np n F) := by
  subst hnp hn
  refine ⟨fun ds S hne => by unfold mkM; rw [if_neg hne], ft_core D C fun cdv A outer s H vs Q E lv hq => ⟨_, h cdv A outer s H E lv, ?_⟩⟩
  obtain ⟨ρ, S, Z, ds, w', r, g⟩ := hq
  unfold mkM at g
  split at g
  · rename_i hd
    have hle : ds.length ≤ N.length := by
      have := congrArg List.length C.pre
      rw [List.length_take] at this
      omega
    have er := start_er (N := N) r hle
    have noO : ∀ {i : Nat} {c : CO}, ¬ (ds.map Sl.val ++ List.replicate (N.length - ds.length) .un)[i]? = some (.own c) := fun {i c} h => by
      rcases no_mapped h with e | ⟨d, e⟩ <;> cases e
    have noS : ∀ {i : Nat} {c : CO}, ¬ (ds.map Sl.val ++ List.replicate (N.length - ds.length) .un)[i]? = some (.slf c) := fun {i c} h => by
      rcases no_mapped h with e | ⟨d, e⟩ <;> cases e
    refine ⟨ρ, S, Z, Z, _, ⟨w', er, ⟨fun _ z => z, fun i c a h1 h2 => (noO h1).elim, fun i j c c' a h1 _ _ _ => (noO h1).elim, rfl, fun i c h1 => (noS h1).elim, fun i j c c' a h1 _ _ => (noO h1).elim, fun i j c c' h1 _ => (noS h1).elim⟩⟩, ?_⟩
    cases hF : F (ds.map Sl.val ++ List.replicate (N.length - ds.length) .un) S with
    | stuck =>
      rw [hF] at g
      exact g.elim
    | exc C' fs S' =>
      rw [hF] at g
      exact g.elim
    | ok fl S' =>
      rw [hF] at g
      cases fl with
      | nx e => exact fun σ' H' ρ' Z' x a => g .non H' ρ' (x.big a.o.sub fun _ z => z) (a.w.big a.o.sub) rfl
      | rt d => exact fun v H' ρ' Z' x hz w2 r2 => g v H' ρ' (x.big hz fun _ z => z) (w2.big hz) (Rep.mono (fun _ _ h => h) (fz_big hz) _ _ r2)
      | bk e => exact g.elim
      | ct e => exact g.elim
      | xc e C' fs => exact fun σ' dx us H' ρ' Z' x a q1 q2 => g dx us H' ρ' (x.big a.o.sub fun _ z => z) (a.w.big a.o.sub) (fz_big a.o.sub _ _ q1) (RepF.mono (fun _ _ h => h) (fz_big a.o.sub) _ _ q2)
  · exact g.elim
end
end HT
set_option Elab.async false
set_option linter.all false
set_option maxRecDepth 100000
set_option maxHeartbeats 400000
namespace HT
open PySem PySem.Spec L2
open PyProof.Rows hiding St

/-! ### calls -/
theorem takesF {X : Cx} : Takes X WF := fun _ _ x => by
  obtain ⟨_, _, _, _, _, _, _, _, _, _, _, _, _, _, _, _, z⟩ := x
  exact z.elim
/-- the values of what is written, then the defaults -/
def fCall (M : List D → Cm D) (ds : List D) (Fa : Env → Cm (List D)) : FE := fun env S => (Fa env S).bnd fun xs => M (xs ++ ds)
theorem RepL.cons {T : Str → Addr} {K : PySem.W.Frag} {ρ : Nat → Option Addr} {F : Hp} {d : D} {v : V} {ds : List D} {vs : List V} (h : Rep T K ρ F d v) (r : RepL T K ρ F ds vs) : RepL T K ρ F (d :: ds) (v :: vs) := ⟨v, vs, rfl, h, r⟩
/-- constants -/
def CsD (T : Str → Addr) (K : PySem.W.Frag) (dds : List D) (dvs : List V) : Prop := ∀ ρ F, RepL T K ρ F dds dvs
theorem CsD.nil {T : Str → Addr} {K : PySem.W.Frag} : CsD T K [] [] := fun _ _ => rfl
section
variable {T : Str → Addr} {X : Cx} {W : WX} {k : Nat} {f : Addr} {fd : FuncData} {ps : List Str} {M : List D → Cm D} {dvs : List V} {dsv : List Value} {dds : List D} {x : Str} {p pos : Pos} {e : Expr} {es : List Expr} {Fa : Env → Cm (List D)}
theorem run_ft {pins : List (Addr × Obj)} {σ : St} {H : Hp} {s : Shared} {Q : VK} {us : List Value} {vs : List V} {ρ : Nat → Option Addr} {S : Sto} {Z : Hid} {ds : List D} (F : FT X.prog X.w X.K X.mg X.base T k f fd ps M) (lv : Lv k X.A) (hb : Binds X.K fd ps dsv) (hd : Vals dvs dsv) (tk : Takes X W)
    (I : Inv X pins σ H s) (r : Vals vs us) (w : Wd T X.K ρ S Z H) (r2 : RepL T X.K ρ (Fz ρ Z H) ds (vs ++ dvs)) (g : Good T X.K (rD T X.K) W σ Q ρ Z H (M ds S)) : wpAny (model X.prog X.w) X.A (call (.ref f) us) (EP X pins σ Q) X.xe s := by
  have hl : ds.length = ps.length := Classical.byContradiction fun hne => by
    rw [F.len ds S hne] at g
    exact g
  have r3 : Vals (vs ++ dvs) (us ++ dsv) := r.append hd
  have hl2 : (us ++ dsv).length = ps.length := by rw [← r3.length, ← r2.len]; exact hl
  refine wpAny_call (codeAny_mono (F.run X.A X.stack s H ⟨us, []⟩ (us ++ dsv) (vs ++ dvs) Q (WE W σ) lv I.env0 (hb s us I.kIn hl2) r3 (by rw [← r2.len]; exact hl) ⟨ρ, S, Z, ds, w, r2, ?_⟩) fun r s' hq => ?_)
  · cases hM : M ds S with
    | ok d S' =>
      rw [hM] at g
      exact g
    | exc C fs S' =>
      rw [hM] at g
      exact g
    | stuck =>
      rw [hM] at g
      exact g
  · cases r with
    | error e => exact passAt tk σ pins H s e s' I hq
    | ok fl =>
      cases fl with
      | ret u => exact I.after hq
      | next => exact False.elim hq
      | brk => exact False.elim hq
      | cont => exact False.elim hq
theorem pf_call (F : FT X.prog X.w X.K X.mg X.base T k f fd ps M) (lv : Lv k X.A) (hg : Gl X x) (hm : X.mg x = some (.ref f)) (hk : PySem.W.keepIn X.K (.ref f) = true) (hb : Binds X.K fd ps dsv) (hd : Vals dvs dsv) (hD : CsD T X.K dds dvs) (tk : Takes X W)
    (ha : AF T X W (e :: es) Fa) (hdb : (x == ("__debug__" : Str)) = false := by decide) (he : starEach (e :: es) X.env = (false, eval e X.env) :: starEach es X.env := by rfl) (hpl : (backTo pos (starEach es X.env)).any (·.1) = false := by rfl) :
    PF T X W (.Call (.Name x p) (e :: es) [] pos) (fCall M dds Fa) := by
  refine ⟨fun pins s σ H Q I h => ?_⟩
  obtain ⟨ρ, S, Z, env, w, er, g⟩ := h
  refine wpAny_Call_Name_kw (ld_glob I hg hm ?_ hdb)
  refine PySem.W.callWith_K (h₀ := X.base) I.ok.mod.kin hk (thn (ha.run pos pins s σ H _ I (lift_bnd w er g)) fun us s1 ⟨vs, H1, I1, r, ρ1, S1, ds, x1, w1, e1, r1, g1⟩ => ⟨I1.kIn, ?_⟩) he hpl
  exact run_ft F lv hb hd tk I1 r w1 (r1.app (hD _ _)) g1
theorem pf_call0 (F : FT X.prog X.w X.K X.mg X.base T k f fd ps M) (lv : Lv k X.A) (hg : Gl X x) (hm : X.mg x = some (.ref f)) (hk : PySem.W.keepIn X.K (.ref f) = true) (hb : Binds X.K fd ps dsv) (hd : Vals dvs dsv) (hD : CsD T X.K dds dvs) (tk : Takes X W)
    (hdb : (x == ("__debug__" : Str)) = false := by decide) : PF T X W (.Call (.Name x p) [] [] pos) (fun _ => M dds) := by
  refine ⟨fun pins s σ H Q I h => ?_⟩
  obtain ⟨ρ, S, Z, env, w, er, g⟩ := h
  refine wpAny_Call_Name_kw (ld_glob I hg hm ?_ hdb)
  exact PySem.W.callWith_K0 I.kIn hk (run_ft (us := []) F lv hb hd tk I .nil w (hD _ _) g)
end

/-! ### methods -/
/-- a call of a method goes the plain way -/
abbrev EvM (env : PySem.Env) (o : Expr) (m : Str) (apos : Pos) (es : List Expr) (pos : Pos) (pl : Sem Bool) : Prop :=
  eval (.Call (.Attribute o m apos) es [] pos) env = (eval o env >>= fun ov => standAt apos.atName >>= fun _ => holding [ov] (getMethod ov m pl) >>= fun fx => callWith pos fx.1 fx.2 (backTo pos (starEach es env)) (backToKw pos (keywordEach [] env)))
/-- o.m(..) of an instance of class C; the object is told as a tree -/
def fMeth (C m : Str) (M : List D → Cm D) (ds : List D) (Fo : FE) (Fa : Env → Cm (List D)) : FE := fun env S => (Fo env S).bnd fun o S1 => match asCO S1 o with
  | some (.ins C' fs) => if C' = C ∧ fs.lookup m = none then (Fa env S1).bnd fun xs => M (o :: (xs ++ ds)) else .stuck
  | _ => .stuck
section
variable {T : Str → Addr} {X : Cx} {W : WX} {k : Nat} {f : Addr} {fd : FuncData} {ps : List Str} {M : List D → Cm D} {dvs : List V} {dsv : List Value} {dds : List D} {C m : Str} {p pos apos : Pos} {o e : Expr} {es : List Expr} {Fo : FE} {Fa : Env → Cm (List D)}
theorem pf_meth {pl : Sem Bool} (ho : PF T X W o Fo) (c : Cls X.K (T C)) (hm : Meth X.K (T C) m f) (F : FT X.prog X.w X.K X.mg X.base T k f fd ps M) (lv : Lv k X.A) (hb : Binds X.K fd ps dsv) (hd : Vals dvs dsv) (hD : CsD T X.K dds dvs) (tk : Takes X W) (ha : AF T X W (e :: es) Fa)
    (hst : starEach (e :: es) X.env = (false, eval e X.env) :: starEach es X.env := by rfl) (hpl : (backTo pos (starEach es X.env)).any (·.1) = false := by rfl)
    (ht : EvM X.env o m apos (e :: es) pos pl := by rfl) :
    PF T X W (.Call (.Attribute o m apos) (e :: es) [] pos) (fMeth C m M dds Fo Fa) := by
  refine ⟨fun pins s σ H Q I h => ?_⟩
  obtain ⟨ρ, S, Z, env, w, er, g⟩ := h
  refine PySem.W.methodCall_KW (pl := pl) (thn (ho.run pins s σ H _ I (lift_bnd w er g)) fun u s1 ⟨v, H1, I1, rx, ρ1, S1, d1, x1, w1, e1, r1, g1⟩ => ?_) ht
  dsimp only at g1
  cases hc : asCO S1 d1 with
  | none =>
    rw [hc] at g1
    exact g1.elim
  | some c1 =>
    rw [hc] at g1
    obtain ⟨a, ob, rfl, h1, h2⟩ := asCO_ok w1 r1 hc
    cases c1 with
    | ins C' fs =>
      dsimp only at g1
      split at g1
      · rename_i hCm
        obtain ⟨rfl, hn⟩ := hCm
        obtain ⟨dx, vf, rfl, rf⟩ := h2
        obtain rfl : u = Value.ref a := rx
        refine getmeth_ok I1 h1 c hm (rf.nolook hn) ?_
        refine PySem.W.callWith_K (first := [.ref a]) (h₀ := X.base) I.ok.mod.kin hm.kp (thn (ha.run pos pins s1 σ H1 _ I1 (lift_bnd w1 e1 g1)) fun us s2 ⟨vs, H2, I2, r, ρ2, S2, ds, x2, w2, e2, r2, g2⟩ => ⟨I2.kIn, ?_⟩) hst hpl
        exact run_ft (us := .ref a :: us) (vs := .ref a :: vs) F lv hb hd tk I2 (.cons rfl r) w2 (RepL.cons (x2.rep r1) (r2.app (hD _ _))) g2
      · exact g1.elim
    | _ => exact g1.elim
theorem pf_meth0 {pl : Sem Bool} (ho : PF T X W o Fo) (c : Cls X.K (T C)) (hm : Meth X.K (T C) m f) (F : FT X.prog X.w X.K X.mg X.base T k f fd ps M) (lv : Lv k X.A) (hb : Binds X.K fd ps dsv) (hd : Vals dvs dsv) (hD : CsD T X.K dds dvs) (tk : Takes X W)
    (ht : EvM X.env o m apos [] pos pl := by rfl) :
    PF T X W (.Call (.Attribute o m apos) [] [] pos) (fMeth C m M dds Fo (fun _ => pure [])) := by
  refine ⟨fun pins s σ H Q I h => ?_⟩
  obtain ⟨ρ, S, Z, env, w, er, g⟩ := h
  refine PySem.W.methodCall_KW (pl := pl) (thn (ho.run pins s σ H _ I (lift_bnd w er g)) fun u s1 ⟨v, H1, I1, rx, ρ1, S1, d1, x1, w1, e1, r1, g1⟩ => ?_) ht
  dsimp only at g1
  cases hc : asCO S1 d1 with
  | none =>
    rw [hc] at g1
    exact g1.elim
  | some c1 =>
    rw [hc] at g1
    obtain ⟨a, ob, rfl, h1, h2⟩ := asCO_ok w1 r1 hc
    cases c1 with
    | ins C' fs =>
      dsimp only at g1
      split at g1
      · rename_i hCm
        obtain ⟨rfl, hn⟩ := hCm
        obtain ⟨dx, vf, rfl, rf⟩ := h2
        obtain rfl : u = Value.ref a := rx
        refine getmeth_ok I1 h1 c hm (rf.nolook hn) ?_
        exact PySem.W.callWith_K0 (first := [.ref a]) I1.kIn hm.kp (run_ft (us := [.ref a]) (vs := [.ref a]) F lv hb hd tk I1 (.cons rfl .nil) w1 (RepL.cons r1 (hD _ _)) g1)
      · exact g1.elim
    | _ => exact g1.elim
end
end HT
set_option Elab.async false
set_option linter.all false
set_option maxRecDepth 100000
set_option maxHeartbeats 400000
namespace HT
open PySem PySem.Spec L2
open PyProof.Rows hiding St

/-! ### and, or, not -/
def fNotT (F : Env → Cm Bool) : Env → Cm Bool := fun env S => (F env S).bnd fun b => pure (!b)
def fAndT (F G : Env → Cm Bool) : Env → Cm Bool := fun env S => (F env S).bnd fun b S1 => if b = true then G env S1 else .ok false S1
def fOrT (F G : Env → Cm Bool) : Env → Cm Bool := fun env S => (F env S).bnd fun b S1 => if b = true then .ok true S1 else G env S1
def fIfT {α : Type} (C : Env → Cm Bool) (F G : Env → Cm α) : Env → Cm α := fun env S => (C env S).bnd fun b S1 => if b = true then F env S1 else G env S1
def fAndV (F G : FE) : FE := fun env S => (F env S).bnd fun x S1 => match x with
  | .bl b => if b = true then G env S1 else .ok (.bl false) S1
  | _ => .stuck
def fOrV (F G : FE) : FE := fun env S => (F env S).bnd fun x S1 => match x with
  | .bl b => if b = true then .ok (.bl true) S1 else G env S1
  | _ => .stuck
def gNot : D → Cm D
  | .bl b => pure (.bl (!b))
  | _ => stk
section
variable {T : Str → Addr} {X : Cx} {W : WX} {a b c : Expr} {rest : List Expr} {F G : Env → Cm Bool} {Fa Fb : FE} {pos : Pos}
/-- behind the first part -/
theorem lift_then {α β γ δ : Type} {K : PySem.W.Frag} {rel : Rl α β} {rel2 : Rl γ δ} {F : Env → Cm α} {k : Env → α → Cm γ} {σ : St} {H : Hp} {Q : δ → Hp → Prop} {r : β → Hp → Prop} (h : lift T K rel2 W (fun env S => (F env S).bnd (k env)) σ H Q)
    (i : ∀ ρ S Z env H v d, Wd T K ρ S Z H → ER T K ρ Z H σ env → rel ρ (Fz ρ Z H) d v → Good T K rel2 W σ Q ρ Z H (k env d S) → r v H) : lift T K rel W F σ H r := by
  obtain ⟨ρ, S, Z, env, w, e, g⟩ := h
  exact lift_imp (lift_bnd w e g) fun v H1 ⟨ρ1, S1, d1, x1, w1, e1, r1, g1⟩ => i ρ1 S1 Z env H1 v d1 w1 e1 r1 g1
theorem tf_not (h : TF T X W a F) : TF T X W (.UnaryOp .Not a pos) (fNotT F) := pt_imp (pt_not h) fun σ H Q q =>
  lift_then (rel := rB) (k := fun _ b => pure (!b)) q fun ρ S Z env H v d w e r g => by
    have r' : d = v := r
    subst r'
    exact g _ H ρ .refl w rfl
theorem twf_and1 (h : TF T X W a F) : TWF T X W (.BoolOp .And [a] pos) F := pw_and1 h
theorem twf_or1 (h : TF T X W a F) : TWF T X W (.BoolOp .Or [a] pos) F := pw_or1 h
theorem twf_and (h : TF T X W a F) (h2 : TWF T X W (.BoolOp .And (b :: rest) pos) G) : TWF T X W (.BoolOp .And (a :: b :: rest) pos) (fAndT F G) := pw_imp (pw_and h h2) fun σ H Q q =>
  lift_then (rel := rB) (k := fun env b S1 => if b = true then G env S1 else .ok false S1) q fun ρ S Z env H v d w e r g => by
    have r' : d = v := r
    subst r'
    cases d with
    | true => exact iteT ⟨ρ, S, Z, env, w, e, g⟩
    | false => exact iteF (g _ H ρ .refl w rfl)
theorem twf_or (h : TF T X W a F) (h2 : TWF T X W (.BoolOp .Or (b :: rest) pos) G) : TWF T X W (.BoolOp .Or (a :: b :: rest) pos) (fOrT F G) := pw_imp (pw_or h h2) fun σ H Q q =>
  lift_then (rel := rB) (k := fun env b S1 => if b = true then .ok true S1 else G env S1) q fun ρ S Z env H v d w e r g => by
    have r' : d = v := r
    subst r'
    cases d with
    | true => exact iteT (g _ H ρ .refl w rfl)
    | false => exact iteF ⟨ρ, S, Z, env, w, e, g⟩
theorem tf_pw {e : Expr} (h : TWF T X W e F) : TF T X W e F := h.pt
theorem pf_one {op} (h : PF T X W a Fa) : PF T X W (.BoolOp op [a] pos) Fa := pe_one h
theorem pf_and (h : PF T X W a Fa) (h2 : PF T X W (.BoolOp .And (b :: rest) pos) Fb) : PF T X W (.BoolOp .And (a :: b :: rest) pos) (fAndV Fa Fb) := pe_imp (pe_and h h2) fun σ H Q q =>
  lift_then (rel := rD T X.K) (k := fun env x S1 => match x with | .bl b => if b = true then Fb env S1 else .ok (.bl false) S1 | _ => .stuck) q fun ρ S Z env H v d w e r g => by
    cases d with
    | bl b =>
      have r' : v = .bl b := r
      refine ⟨b, r', ?_⟩
      cases b with
      | true => exact iteT ⟨ρ, S, Z, env, w, e, g⟩
      | false => exact iteF (g _ H ρ .refl w rfl)
    | _ => exact g.elim
theorem pf_or (h : PF T X W a Fa) (h2 : PF T X W (.BoolOp .Or (b :: rest) pos) Fb) : PF T X W (.BoolOp .Or (a :: b :: rest) pos) (fOrV Fa Fb) := pe_imp (pe_or h h2) fun σ H Q q =>
  lift_then (rel := rD T X.K) (k := fun env x S1 => match x with | .bl b => if b = true then .ok (.bl true) S1 else Fb env S1 | _ => .stuck) q fun ρ S Z env H v d w e r g => by
    cases d with
    | bl b =>
      have r' : v = .bl b := r
      refine ⟨b, r', ?_⟩
      cases b with
      | true => exact iteT (g _ H ρ .refl w rfl)
      | false => exact iteF ⟨ρ, S, Z, env, w, e, g⟩
    | _ => exact g.elim
theorem pf_not (h : PF T X W a Fa) : PF T X W (.UnaryOp .Not a pos) (f1 gNot Fa) := pe_imp (pe_not h) fun σ H Q q =>
  lift1 (r := fun x H1 => ∃ c, x = .bl c ∧ Q (.bl (!c)) H1) q fun ρ S Z H x v w r g => by
    cases x with
    | bl b => exact ⟨b, r, g _ H ρ .refl w rfl⟩
    | _ => exact g.elim
theorem pf_if (hc : TF T X W c F) (h : PF T X W a Fa) (h2 : PF T X W b Fb) : PF T X W (.IfExp c a b pos) (fIfT F Fa Fb) := pe_imp (pe_ifExp hc h h2) fun σ H Q q =>
  lift_then (rel := rB) (k := fun env b S1 => if b = true then Fa env S1 else Fb env S1) q fun ρ S Z env H v d w e r g => by
    have r' : d = v := r
    subst r'
    cases d with
    | true => exact iteT ⟨ρ, S, Z, env, w, e, g⟩
    | false => exact iteF ⟨ρ, S, Z, env, w, e, g⟩
end

/-! ### calls of builtins with one value, two -/
def a1 (g : D → Cm D) (xs : List D) : Cm D := match xs with
  | [x] => g x
  | _ => stk
def a2 (g : D → D → Cm D) (xs : List D) : Cm D := match xs with
  | [x, y] => g x y
  | _ => stk
def OpN (T : Str → Addr) (X : Cx) (r : List V → Hp → VK → Prop) (g : List D → Cm D) : Prop := ∀ (W : WX) (σ : St) (ρ : Nat → Option Addr) (S : Sto) (Z : Hid) (H : Hp) (xs : List D) (vs : List V) (Q : VK), Wd T X.K ρ S Z H → RepL T X.K ρ (Fz ρ Z H) xs vs →
  Good T X.K (rD T X.K) W σ Q ρ Z H (g xs S) → r vs H Q
def fArgs (g : List D → Cm D) (Fa : Env → Cm (List D)) : FE := fun env S => (Fa env S).bnd fun xs => g xs
section
variable {T : Str → Addr} {X : Cx} {W : WX} {x : Str} {p pos : Pos} {e : Expr} {es : List Expr} {Fa : Env → Cm (List D)} {id : String} {r : List V → Hp → VK → Prop} {g : List D → Cm D}
theorem lift_args {K : PySem.W.Frag} {σ : St} {H : Hp} {Q : VK} {r : List V → Hp → Prop} (h : lift T K (rD T K) W (fArgs g Fa) σ H Q)
    (k : ∀ ρ S Z H xs vs, Wd T K ρ S Z H → RepL T K ρ (Fz ρ Z H) xs vs → Good T K (rD T K) W σ Q ρ Z H (g xs S) → r vs H) : lift T K (rL T K) W Fa σ H r :=
  lift_then (rel := rL T K) (k := fun _ xs => g xs) h fun ρ S Z env H v d w e r g => k ρ S Z H d v w r g
theorem pf_callB (hc : CallR X (.builtin id) r) (hr : OpN T X r g) (hg : Gl X x) (hm : X.mg x = none) (hv : bootBuiltins x = some (.builtin id)) (ha : AF T X W (e :: es) Fa) (hn : x ≠ "__name__" := by decide) (hdb : (x == ("__debug__" : Str)) = false := by decide)
    (he : starEach (e :: es) X.env = (false, eval e X.env) :: starEach es X.env := by rfl) (hpl : (backTo pos (starEach es X.env)).any (·.1) = false := by rfl) : PF T X W (.Call (.Name x p) (e :: es) [] pos) (fArgs g Fa) :=
  pe_imp (pe_callB hc hg hm hv ha hn hdb he hpl) fun σ H Q q => lift_args (r := fun vs H1 => r vs H1 Q) q fun ρ S Z H xs vs w rr g => hr W σ ρ S Z H xs vs Q w rr g
theorem pf_callTy (hc : CallR X (.type id) r) (hr : OpN T X r g) (hg : Gl X x) (hm : X.mg x = none) (hv : bootBuiltins x = some (.type id)) (ha : AF T X W (e :: es) Fa) (hn : x ≠ "__name__" := by decide) (hdb : (x == ("__debug__" : Str)) = false := by decide)
    (he : starEach (e :: es) X.env = (false, eval e X.env) :: starEach es X.env := by rfl) (hpl : (backTo pos (starEach es X.env)).any (·.1) = false := by rfl) : PF T X W (.Call (.Name x p) (e :: es) [] pos) (fArgs g Fa) :=
  pe_imp (pe_callTy hc hg hm hv ha hn hdb he hpl) fun σ H Q q => lift_args (r := fun vs H1 => r vs H1 Q) q fun ρ S Z H xs vs w rr g => hr W σ ρ S Z H xs vs Q w rr g
end
theorem RepL.one_inv {T : Str → Addr} {K : PySem.W.Frag} {ρ : Nat → Option Addr} {F : Hp} {d : D} {vs : List V} (r : RepL T K ρ F [d] vs) : ∃ v, vs = [v] ∧ Rep T K ρ F d v := by
  obtain ⟨v, u, rfl, h, r2⟩ := r
  have e : u = [] := r2
  subst e
  exact ⟨v, rfl, h⟩
theorem RepL.two_inv {T : Str → Addr} {K : PySem.W.Frag} {ρ : Nat → Option Addr} {F : Hp} {d c : D} {vs : List V} (r : RepL T K ρ F [d, c] vs) : ∃ v u, vs = [v, u] ∧ Rep T K ρ F d v ∧ Rep T K ρ F c u := by
  obtain ⟨v, u, rfl, h, r2⟩ := r
  obtain ⟨u', rfl, h2⟩ := r2.one_inv
  exact ⟨v, u', rfl, h, h2⟩
section
variable {T : Str → Addr} {X : Cx}
theorem opN1 {r : List V → Hp → VK → Prop} {g : D → Cm D} (h : ∀ (W : WX) (σ : St) (ρ : Nat → Option Addr) (S : Sto) (Z : Hid) (H : Hp) (x : D) (v : V) (Q : VK), Wd T X.K ρ S Z H → Rep T X.K ρ (Fz ρ Z H) x v → Good T X.K (rD T X.K) W σ Q ρ Z H (g x S) → r [v] H Q) : OpN T X r (a1 g) := by
  intro W σ ρ S Z H xs vs Q w rr g0
  match xs, rr, g0 with
  | [], _, g0 => exact g0.elim
  | [x], rr, g0 =>
    obtain ⟨v, rfl, h1⟩ := rr.one_inv
    exact h W σ ρ S Z H x v Q w h1 g0
  | _ :: _ :: _, _, g0 => exact g0.elim
theorem opN2 {r : List V → Hp → VK → Prop} {g : D → D → Cm D} (h : ∀ (W : WX) (σ : St) (ρ : Nat → Option Addr) (S : Sto) (Z : Hid) (H : Hp) (x y : D) (v u : V) (Q : VK), Wd T X.K ρ S Z H → Rep T X.K ρ (Fz ρ Z H) x v → Rep T X.K ρ (Fz ρ Z H) y u → Good T X.K (rD T X.K) W σ Q ρ Z H (g x y S) → r [v, u] H Q) : OpN T X r (a2 g) := by
  intro W σ ρ S Z H xs vs Q w rr g0
  match xs, rr, g0 with
  | [], _, g0 => exact g0.elim
  | [x], _, g0 => exact g0.elim
  | [x, y], rr, g0 =>
    obtain ⟨v, u, rfl, h1, h2⟩ := rr.two_inv
    exact h W σ ρ S Z H x y v u Q w h1 h2 g0
  | _ :: _ :: _ :: _, _, g0 => exact g0.elim
/-- the items of a list or a tuple -/
def asQ2 (S : Sto) : D → Option (List D)
  | .tup ds => some ds
  | d => asL S d
theorem asQ2_ok {K : PySem.W.Frag} {ρ : Nat → Option Addr} {Z : Hid} {H : Hp} {S : Sto} (w : Wd T K ρ S Z H) {d : D} {v : V} {ds : List D} (r : Rep T K ρ (Fz ρ Z H) d v) (h : asQ2 S d = some ds) : ∃ a vs, v = .ref a ∧ (SqL K H a vs ∨ SqT K H a vs) ∧ RepL T K ρ (Fz ρ Z H) ds vs := by
  cases d with
  | tup es =>
    cases h
    obtain ⟨a, vs, e, q, q2⟩ := r
    exact ⟨a, vs, e, .inr (Fz_sub.seqT q), q2⟩
  | klst es =>
    obtain ⟨a, vs, e, q, q2⟩ := asL_ok w r (show asL S (.klst es) = some ds from h)
    exact ⟨a, vs, e, .inl q, q2⟩
  | lst es =>
    obtain ⟨a, vs, e, q, q2⟩ := asL_ok w r (show asL S (.lst es) = some ds from h)
    exact ⟨a, vs, e, .inl q, q2⟩
  | cell k =>
    obtain ⟨a, vs, e, q, q2⟩ := asL_ok w r (show asL S (.cell k) = some ds from h)
    exact ⟨a, vs, e, .inl q, q2⟩
  | _ => cases h
/-- len -/
def gLen (x : D) : Cm D := fun S => match x with
  | .str y => if y.length ≤ sizeLine then .ok (.int y.length) S else .stuck
  | x => match asQ2 S x with
    | some ds => .ok (.int ds.length) S
    | none => .stuck
theorem ok_gLen : OpN T X (fun xs H Q => ∃ x n, xs = [x] ∧ LenV X.K x H n ∧ Q (.int n) H) (a1 gLen) := opN1 fun W σ ρ S Z H x v Q w r g => by
  unfold gLen at g
  split at g
  · have e : v = .str _ := r
    subst e
    split at g
    · exact ⟨_, _, rfl, ⟨by assumption, rfl⟩, g _ H ρ .refl w rfl⟩
    · exact g.elim
  · split at g
    · rename_i ds hds
      obtain ⟨a, vs, rfl, q, q2⟩ := asQ2_ok w r hds
      refine ⟨_, vs.length, rfl, ?_, g _ H ρ .refl w (by rw [← q2.len]; exact (rfl : V.int _ = .int _))⟩
      rcases q with q | q
      · exact .inl ⟨vs, q, rfl⟩
      · exact .inr ⟨vs, q, rfl⟩
    · exact g.elim
/-- xs[i] -/
def gIx (x y : D) : Cm D := fun S => match y with
  | .int i => (match x with
    | .str z => (match atI z.cps.toList i with
      | some c => if z.length ≤ sizeLine then .ok (.str ⟨#[c]⟩) S else .stuck
      | none => .stuck)
    | x => match asQ2 S x with
      | some ds => (match atI ds i with
        | some d => .ok d S
        | none => .stuck)
      | none => .stuck)
  | _ => .stuck
def rIx3 (K : PySem.W.Frag) : R2 := fun x y H Q => (rIxL K x y H Q ∨ rIxT K x y H Q) ∨ rIxS x y H Q
theorem ix_3 : IxR X (rIx3 X.K) := IxR.or (IxR.or ix_list ix_tup) ix_str
theorem atI_rep {K : PySem.W.Frag} {ρ : Nat → Option Addr} {F : Hp} {ds : List D} {vs : List V} {i : Int} {d : D} (r : RepL T K ρ F ds vs) (h : atI ds i = some d) : ∃ v, atI vs i = some v ∧ Rep T K ρ F d v := by
  unfold atI at h ⊢
  rw [← r.len]
  cases e : ixN ds.length i with
  | none =>
    rw [e] at h
    cases h
  | some j =>
    rw [e] at h
    exact r.get h
theorem ok_gIx : Op2 T X (rIx3 X.K) gIx := by
  intro W σ ρ S Z H x y v u Q w r1 r2 g
  unfold gIx at g
  split at g
  · rename_i i
    have e : u = .int i := r2
    subst e
    split at g
    · rename_i z
      have e : v = .str z := r1
      subst e
      split at g
      · rename_i c hc
        split at g
        · exact .inr ⟨z, i, c, rfl, rfl, by assumption, hc, g _ H ρ .refl w rfl⟩
        · exact g.elim
      · exact g.elim
    · split at g
      · rename_i ds hds
        obtain ⟨a, vs, rfl, q, q2⟩ := asQ2_ok w r1 hds
        split at g
        · rename_i d hd
          obtain ⟨v', h1, h2⟩ := atI_rep q2 hd
          have fin : Q v' H := g v' H ρ .refl w h2
          rcases q with q | q
          · exact .inl (.inl ⟨a, vs, i, v', rfl, rfl, q, h1, fin⟩)
          · exact .inl (.inr ⟨a, vs, i, v', rfl, rfl, q, h1, fin⟩)
        · exact g.elim
      · exact g.elim
  · exact g.elim
theorem pf_ix {W : WX} {a b : Expr} {Fa Fb : FE} {pos : Pos} (ha : PF T X W a Fa) (hb : PF T X W b Fb) (hs : PlainIx b) : PF T X W (.Subscript a b pos) (f2 gIx Fa Fb) :=
  pe_imp (pe_ix ix_3 ha hb hs) fun σ H Q q => lift2 (r := fun v u H2 => rIx3 X.K v u H2 Q) q fun ρ S Z H x y v u w r1 r2 g => ok_gIx W σ ρ S Z H x y v u Q w r1 r2 g
end
end HT
set_option Elab.async false
set_option linter.all false
set_option maxRecDepth 100000
set_option maxHeartbeats 800000
namespace HT
open PySem PySem.Spec L2
open PyProof.Rows hiding St
open PySem.SeqAt AutoSeq1 MeetsSeq MeetsSeq2 MeetsSeq3 SeqRoads2

/-! ### a tuple once, no time -/
theorem tup_once (l : Addr) (items : Array Value) (n : Nat) (sl : Array (Option Value)) (dd : Option Addr) (u : Tok) :
    Meets (Builtin.«tuple.__mul__» ⟨[.ref l, .int 1 u], []⟩) (fun _ R s => s.heap.get? l = some { cls := .type "tuple", dict := dd, data := .seq items n, slots := sl } ∧ R (.ok (.ret (Value.ref l))) s) :=
  .of_wp fun prog w A R s h => by
    obtain ⟨hp, g, d, tk, os⟩ := s
    obtain ⟨hl, h⟩ := h
    have f1 := AutoSeq1.idx_int
    wp_walk using wpAny_loadPart' hl
    exact ⟨_, rfl, h⟩
theorem tup_never (l : Addr) (x : Value) (items : List Value) (n : Nat) (sl : Array (Option Value)) (dd : Option Addr) (u : Tok) :
    Meets (Builtin.«tuple.__mul__» ⟨[.ref l, .int 0 u], []⟩) (fun _ R s => s.heap.get? l = some { cls := .type "tuple", dict := dd, data := .seq (x :: items).toArray n, slots := sl } ∧
      R (.ok (.ret (Value.ref s.heap.objs.size))) { s with heap := s.heap.push { cls := Value.type "tuple", data := Data.seq #[] }, toks := s.toks }) :=
  .of_wp fun prog w A R s h => by
    obtain ⟨hp, g, d, tk, os⟩ := s
    obtain ⟨hl, h⟩ := h
    have f1 := AutoSeq1.idx_int
    have c1 : ((x :: items).toArray.isEmpty || (0 : Int) == 1) = false := rfl
    wp_walk using wpAny_loadPart' hl
    repeat (first
      | (refine wpAny_ite_false (decide_eq_false (by rw [c1]; exact Bool.false_ne_true)) ?_; wp_walk using wpAny_loadPart' hl))
    exact ⟨_, rfl, h⟩
/-- t * 1, t * 0 (t not empty) -/
def rRepT01 (K : PySem.W.Frag) : R2 := fun x y H Q => ∃ l k xs, x = .ref l ∧ y = .int k ∧ SqT K H l xs ∧ xs ≠ [] ∧ ((k = 1 ∧ Q (.ref l) H) ∨ (k = 0 ∧ ∀ p, H p = none → Q (.ref p) (upd H p (.tup []))))
theorem op_repT01 {X : Cx} : OpR X (binaryOp .Mult) (rRepT01 X.K) := by
  intro pins s σ H x y v u Q I rx ry h
  obtain ⟨l, k, xs, rfl, rfl, hT, hne, q⟩ := h
  cases rx
  obtain ⟨t, rfl⟩ := ry
  obtain ⟨its, r, ⟨⟨cls, dd, data, sl⟩, ho, hc, n, hd⟩, hs⟩ := I.tuple hT
  simp only at hc hd
  subst hc hd
  refine wpAny_binaryOp_repeat_ref (T := "tuple") (U := "int") (by decide) ⟨_, ho, rfl⟩ (fun s' => typeIs_int s' k t) noFill_tuple_mul F.fills_int_mul F.slot_int_rmul repeat_tuple F.slot_int_index.lookup
    (call_meets F.slot_int_rmul (typeIs_int s k t) F.entry_int_rmul (F.args_int_rmul_2 _ _) (int_rmul_tuple k t l its.toArray n dd sl) ⟨ho, rfl, ⟨_, ho, rfl⟩, ?_⟩)
  rcases q with ⟨rfl, q⟩ | ⟨rfl, q⟩
  · exact call_meets F.slot_tuple_mul ⟨_, ho, rfl⟩ F.entry_tuple_mul (F.args_tuple_mul_2 _ _) (tup_once l its.toArray n sl dd t) ⟨ho, .ref l, H, I, rfl, q⟩
  · cases its with
    | nil =>
      have e := r.length
      exact absurd (List.eq_nil_of_length_eq_zero e) hne
    | cons a b =>
      refine call_meets F.slot_tuple_mul ⟨_, ho, rfl⟩ F.entry_tuple_mul (F.args_tuple_mul_2 _ _) (tup_never l a b n sl dd t) ⟨ho, ?_⟩
      refine ⟨.ref s.heap.objs.size, _, I.laid (t' := s.toks) (o := .tup []) (fun b ob q => Heap.get?_push_of_some _ q) (Nat.le_refl _) ?_, rfl, q _ (I.hok.fresh (Nat.le_refl _))⟩
      exact ⟨Nat.zero_le _, [], .nil, IsTup.new _ _⟩
def gMul2 (x y : D) : Cm D := fun S => match x, y with
  | .tup a, .int k => if a ≠ [] ∧ k = 1 then .ok (.tup a) S else if a ≠ [] ∧ k = 0 then .ok (.tup []) S else gMul (.tup a) (.int k) S
  | x, y => gMul x y S
abbrev rMul4 (X : Cx) : R2 := fun x y H Q => rMul3 X x y H Q ∨ rRepT01 X.K x y H Q
theorem op_mul4 {X : Cx} : OpR X (binaryOp .Mult) (rMul4 X) := OpR.or op_mul3 op_repT01
theorem ok_gMul2 {T : Str → Addr} {X : Cx} : Op2 T X (rMul4 X) gMul2 := by
  intro W σ ρ S Z H x y v u Q w rx ry g
  unfold gMul2 at g
  split at g
  · rename_i a k
    have eu : u = .int k := ry
    split at g
    · rename_i hc
      obtain ⟨h1, rfl⟩ := hc
      obtain ⟨p, vs, rfl, h2, h3⟩ := id rx
      exact .inr ⟨p, 1, vs, rfl, eu, Fz_sub.seqT h2, fun e => h1 ((repL_nil h3).mp e), .inl ⟨rfl, g.now w rx⟩⟩
    · split at g
      · rename_i hc
        obtain ⟨h1, rfl⟩ := hc
        obtain ⟨p, vs, rfl, h2, h3⟩ := rx
        refine .inr ⟨p, 0, vs, rfl, eu, Fz_sub.seqT h2, fun e => h1 ((repL_nil h3).mp e), .inr ⟨rfl, fun l hl => ?_⟩⟩
        obtain ⟨e, w', f⟩ := new_frz (o := .tup []) w hl
        exact g _ _ ρ e w' ⟨l, [], rfl, SqT.of f, rfl⟩
      · exact .inl (ok_gMul W σ ρ S Z H _ _ _ _ Q w rx ry g)
  · exact .inl (ok_gMul W σ ρ S Z H _ _ _ _ Q w rx ry g)

/-! ### slices; list(..), tuple(..) -/
def fPart (F : Option FE) : Env → Cm (Option Int) := fun env S => match F with
  | none => .ok none S
  | some F => (F env S).bnd fun d S1 => match d with
    | .int i => .ok (some i) S1
    | _ => .stuck
def cutD (xs : List D) (lo hi : Option Int) : List D := (xs.drop (HT.sIx xs.length 0 lo)).take (HT.sIx xs.length xs.length hi - HT.sIx xs.length 0 lo)
abbrev rP : Rl (Option Int) (Option Int) := fun _ _ a b => a = b
abbrev POF (T : Str → Addr) (X : Cx) (W : WX) (e : Option Expr) (F : Env → Cm (Option Int)) : Prop := PO X e (lift T X.K rP W F)
def pNone : Env → Cm (Option Int) := fun _ => pure none
def toP : D → Cm (Option Int)
  | .int i => pure (some i)
  | _ => stk
def pSome (F : FE) : Env → Cm (Option Int) := fun env S => (F env S).bnd toP
theorem po_imp {X : Cx} {e : Option Expr} {t t' : TO} (h : PO X e t) (i : ∀ σ H Q, t' σ H Q → t σ H Q) : PO X e t' := ⟨fun pins s σ H Q I q => h.run pins s σ H Q I (i σ H Q q)⟩
theorem cutD_rep {T : Str → Addr} {K : PySem.W.Frag} {ρ : Nat → Option Addr} {F : Hp} {ds : List D} {vs : List V} {lo hi : Option Int} (r : RepL T K ρ F ds vs) : RepL T K ρ F (cutD ds lo hi) (cutV vs lo hi) := by
  unfold cutD cutV
  rw [r.len]
  exact (r.drop _).take _
def gSlT (d : D) (l h : Option Int) : Cm D := fun S => match d with
  | .tup ds => if ¬ (HT.sIx ds.length 0 l = 0 ∧ HT.sIx ds.length ds.length h = ds.length) then .ok (.tup (cutD ds l h)) S else .stuck
  | _ => .stuck
def gSlL (d : D) (l h : Option Int) : Cm CO := fun S => match asL S d with
  | some ds => .ok (.lst (cutD ds l h)) S
  | none => .stuck
def f3 {α : Type} (g : D → Option Int → Option Int → Cm α) (Fe : FE) (Fl Fh : Env → Cm (Option Int)) : Env → Cm α := fun env S => (Fe env S).bnd fun d S1 => (Fl env S1).bnd fun l S2 => (Fh env S2).bnd fun h => g d l h
section
variable {T : Str → Addr} {X : Cx} {W : WX} {e : Expr} {lo hi : Option Expr} {Fe : FE} {Fl Fh : Env → Cm (Option Int)} {pos p2 : Pos}
theorem pof_none : POF T X W none pNone := po_imp po_none fun σ H Q q => by
  obtain ⟨ρ, S, Z, env, w, er, g⟩ := q
  exact g none H ρ .refl w rfl
theorem pof_some (h : PF T X W e Fe) : POF T X W (some e) (pSome Fe) := po_imp (po_some h) fun σ H Q q =>
  lift_then (rel := rD T X.K) (k := fun _ d => toP d) q fun ρ S Z env H v d w er r g => by
    cases d with
    | int i => exact ⟨i, r, g _ H ρ .refl w rfl⟩
    | _ => exact g.elim
theorem pf_slT (he : PF T X W e Fe) (hl : POF T X W lo Fl) (hh : POF T X W hi Fh) : PF T X W (.Subscript e (.Slice lo hi none p2) pos) (f3 gSlT Fe Fl Fh) := pe_imp (pe_slice sl_tup he hl hh) fun σ H Q q => by
  obtain ⟨ρ, S, Z, env, w, er, g⟩ := q
  refine lift_imp (lift_bnd w er g) fun v H1 ⟨ρ1, S1, d1, x1, w1, e1, r1, g1⟩ => ?_
  refine lift_imp (lift_bnd w1 e1 g1) fun l H2 ⟨ρ2, S2, d2, x2, w2, e2, r2, g2⟩ => ?_
  refine lift_imp (lift_bnd w2 e2 g2) fun u H3 ⟨ρ3, S3, d3, x3, w3, e3, r3, g3⟩ => ?_
  have r2' : d2 = l := r2
  have r3' : d3 = u := r3
  subst r2' r3'
  have rv := (x2.trans x3).rep r1
  unfold gSlT at g3
  try dsimp only at g3
  split at g3
  · split at g3
    · rename_i hw
      obtain ⟨a, vs, rfl, h1, h2⟩ := rv
      refine ⟨a, vs, rfl, Fz_sub.seqT h1, by rw [← h2.len]; exact hw, fun p hp => ?_⟩
      obtain ⟨x4, w4, f⟩ := new_frz (o := .tup (cutV vs d2 d3)) w3 hp
      exact g3 _ _ ρ3 x4 w4 ⟨p, _, rfl, SqT.of f, x4.repL (cutD_rep h2)⟩
    · exact g3.elim
  · exact g3.elim
theorem of_slL (he : PF T X W e Fe) (hl : POF T X W lo Fl) (hh : POF T X W hi Fh) : OF T X W (.Subscript e (.Slice lo hi none p2) pos) (f3 gSlL Fe Fl Fh) := pe_imp (pe_slice sl_list he hl hh) fun σ H Q q => by
  obtain ⟨ρ, S, Z, env, w, er, g⟩ := q
  refine lift_imp (lift_bndO w er g) fun v H1 ⟨ρ1, S1, d1, x1, w1, e1, r1, g1⟩ => ?_
  refine lift_imp (lift_bndO w1 e1 g1) fun l H2 ⟨ρ2, S2, d2, x2, w2, e2, r2, g2⟩ => ?_
  refine lift_imp (lift_bndO w2 e2 g2) fun u H3 ⟨ρ3, S3, d3, x3, w3, e3, r3, g3⟩ => ?_
  have r2' : d2 = l := r2
  have r3' : d3 = u := r3
  subst r2' r3'
  have rv := (x2.trans x3).rep r1
  unfold gSlL at g3
  try dsimp only at g3
  split at g3
  · rename_i ds hds
    obtain ⟨a, vs, rfl, h1, h2⟩ := asL_ok w3 rv hds
    exact ⟨a, vs, rfl, h1, fun p hp => g3 p _ ρ3 (new_neu w3 hp ⟨_, rfl, cutD_rep h2⟩)⟩
  · exact g3.elim
end
/-- list(x) of a list, a tuple -/
def oOne (g : D → Cm CO) (Fa : Env → Cm (List D)) : Env → Cm CO := fun env S => (Fa env S).bnd fun xs => match xs with
  | [x] => g x
  | _ => fun _ => .stuck
def gList (x : D) : Cm CO := fun S => match asQ2 S x with
  | some ds => .ok (.lst ds) S
  | none => .stuck
def gTuple (x : D) : Cm D := fun S => match x with
  | .tup ds => .ok (.tup ds) S
  | x => match asL S x with
    | some ds => .ok (.tup ds) S
    | none => .stuck
section
variable {T : Str → Addr} {X : Cx} {W : WX} {e : Expr} {Fa : Env → Cm (List D)} {p pos : Pos}
theorem of_list (hg : Gl X "list") (hm : X.mg "list" = none) (ha : AF T X W [e] Fa) (he : starEach [e] X.env = (false, eval e X.env) :: starEach [] X.env := by rfl) (hpl : (backTo pos (starEach [] X.env)).any (·.1) = false := by rfl) :
    OF T X W (.Call (.Name "list" p) [e] [] pos) (oOne gList Fa) := pe_imp (pe_callTy call_list_of hg hm (by rfl) ha (by decide) (by decide) he hpl) fun σ H Q q => by
  obtain ⟨ρ, S, Z, env, w, er, g⟩ := q
  refine lift_imp (lift_bndO w er g) fun vs H1 ⟨ρ1, S1, d1, x1, w1, e1, r1, g1⟩ => ?_
  match d1, r1, g1 with
  | [], _, g1 => exact g1.elim
  | [d], r1, g1 =>
    obtain ⟨v, rfl, rv⟩ := r1.one_inv
    dsimp only at g1
    unfold gList at g1
    split at g1
    · rename_i ds hds
      obtain ⟨a, us, rfl, h1, h2⟩ := asQ2_ok w1 rv hds
      exact ⟨a, us, rfl, h1, fun l hl => g1 l _ ρ1 (new_neu w1 hl ⟨us, rfl, h2⟩)⟩
    · exact g1.elim
  | _ :: _ :: _, _, g1 => exact g1.elim
theorem ok_gTuple : OpN T X (fun xs H Q => ∃ p ys, xs = [.ref p] ∧ ((SqL X.K H p ys ∧ ∀ l, H l = none → Q (.ref l) (upd H l (.tup ys))) ∨ (SqT X.K H p ys ∧ Q (.ref p) H))) (a1 gTuple) := opN1 fun W σ ρ S Z H x v Q w r g => by
  unfold gTuple at g
  split at g
  · obtain ⟨a, vs, rfl, h1, h2⟩ := id r
    exact ⟨a, vs, rfl, .inr ⟨Fz_sub.seqT h1, g.now w r⟩⟩
  · split at g
    · rename_i ds hds
      obtain ⟨a, vs, rfl, h1, h2⟩ := asL_ok w r hds
      refine ⟨a, vs, rfl, .inl ⟨h1, fun l hl => ?_⟩⟩
      obtain ⟨e, w', f⟩ := new_frz (o := .tup vs) w hl
      exact g _ _ ρ e w' ⟨l, _, rfl, SqT.of f, e.repL h2⟩
    · exact g.elim
end
end HT
set_option Elab.async false
set_option linter.all false
set_option maxRecDepth 100000
set_option maxHeartbeats 800000
namespace HT
open PySem PySem.Spec L2
open PyProof.Rows hiding St
open PySem.W (ksFn ksEnv ks_superObj kxs_mw KxsAt)

/-! ### an __init__ of an own error: super().__init__(v), self.f = v -/
def exBody (f : Str) (p0 p1 p2 p3 p4 p5 p6 p7 p8 p9 : Pos) : List Stmt :=
  [.Expr (.Call (.Attribute (.Call (.Name "super" p0) [] [] p1) "__init__" p2) [.Name f p3] [] p4) p5,
   .Assign [.Attribute (.Name "self" p6) f p7] (.Name f p8) p9]
/-- its first row goes the plain way -/
def SupEv (f : Str) (p0 p1 p2 p3 p4 : Pos) : Prop := ∃ pl : PySem.Env → Sem Bool, ∀ env : PySem.Env, eval (.Call (.Attribute (.Call (.Name "super" p0) [] [] p1) "__init__" p2) [.Name f p3] [] p4) env =
  (attributeBase (.Call (.Name "super" p0) [] [] p1) "__init__" env (eval (.Call (.Name "super" p0) [] [] p1) env) >>= fun ov => standAt p2.atName >>= fun _ => holding [ov] (getMethod ov "__init__" (pl env)) >>= fun fx => callWith p4 fx.1 fx.2 (backTo p4 (starEach [.Name f p3] env)) [])
/-- what the written part says of such a class -/
structure ExI (P : Program) (K : PySem.W.Frag) (C : Addr) (f : Str) (fI : Addr) (fd : FuncData) : Prop where
  ox : OexC K C
  no : PySem.W.findIn K (.ref C) f = some none
  vb : PySem.W.subIn K (.ref C) (.type "ValueError") = some true
  su : PySem.W.ks_superIn K C C "__init__" = some (some (.builtin "ValueError.__init__"))
  mm : PySem.W.mroIn K C (.ref C) = some true
  op : PySem.W.nsIn K cStatics "thirdparty.any" = some none
  tp : (P.main.scope.names.lookup ("super" : Str)).isSome = false
  iC : PySem.W.findIn K (.ref C) "__init__" = some (some (.ref fI))
  tI : PySem.W.typeIn K (.ref fI) = some (.type "function")
  df : ∃ (oc : Value) (od : Option Addr) (osl : Array (Option Value)) (qual : Str) (params : Arguments) (p0 p1 p2 p3 p4 p5 p6 p7 p8 p9 : Pos) (scope : Scope) (dV kV doc pm ct : Value) (an : Option Addr) (cda cc : Addr),
    fd = ksFn "__init__" qual params (exBody f p0 p1 p2 p3 p4 p5 p6 p7 p8 p9) scope dV kV doc pm an (.ref cda) ct cc ∧ K.lookup fI = some ⟨oc, od, .func fd, osl⟩ ∧ PySem.W.codeIn K (.ref cda) qual = true ∧
    (∃ (ccl : Value) (cdd : Option Addr) (vs : Array Value) (ccs : Array (Option Value)) (file : Str) (tf : Tok), K.lookup cda = some ⟨ccl, cdd, .fields vs, ccs⟩ ∧ vs[2]? = some (.str file tf) ∧ ((P.main.file : Str) == file) = true) ∧
    (∃ (cl : Value) (cld : Option Addr) (csl : Array (Option Value)), K.lookup cc = some ⟨cl, cld, .cell (some (.ref C)), csl⟩) ∧
    (∃ ar, (params.posonlyargs ++ params.args).head? = some ar ∧ ar.arg = "self") ∧
    scope.names.lookup ("super" : Str) = some .globalImplicit ∧ scope.names.lookup ("__class__" : Str) = some .free ∧ scope.names.lookup ("self" : Str) = some .local ∧ scope.names.lookup f = some .local ∧ scope.kind = .function ∧
    (∀ x ∈ scope.names, x.2 ≠ .cell) ∧ scope.isCoroutine = false ∧ scope.isGenerator = false ∧ SupEv f p0 p1 p2 p3 p4
section
variable {prog : Program} {w : World} {A : Around} {E : Value → Shared → Prop} {h : Heap} {g : Array GenState} {d : Drawn} {t : Nat} {os : OsState}
variable {nm q : Str} {C N : Addr} {bs bm : List Value} {hdct : Bool} {sn : List Str} {sub : List Value} {ab : Bool} {col : Option Bool} {dd : Option Addr} {k0 k1 k2 k3 k5 : Option Value}
/-- the bound ValueError.__init__ is called -/
theorem call_mw {u e t0 : Addr} {rest : List Value} {Q : Value → Shared → Prop}
    (hC : h.get? C = some (excClassObj nm q C N bs bm hdct sn sub ab col dd k0 k1 k2 k3 k5 "ValueError.__new__")) (he : h.get? e = some (PySem.HandSPX.excO C t0)) (hu : h.get? u = some (kxs_mw "ValueError.__init__" e)) (hr : rest.length ≤ sizeLine)
    (hq : ∀ h2 t1, (∀ b o, b ≠ e → h.get? b = some o → h2.get? b = some o) → h2.get? e = some (PySem.HandSPX.excO C t1) → Q .none ⟨h2, g, d, t, os⟩) :
    wpAny (model prog w) A (call (.ref u) rest) Q E ⟨h, g, d, t, os⟩ := by
  have c1 : (Value.type "method-wrapper" == Value.type "method" || Value.type "method-wrapper" == Value.type "builtin_function_or_method" || Value.type "method-wrapper" == Value.type "method-wrapper") = true := by decide
  refine wpAny_call (codeAny_of_tree ?_)
  change wpAny _ A.in1 (callAny (.ref u) ⟨rest, []⟩) _ _ _
  simp only [callAny]
  refine wpAny_bind (wpAny_load hu ?_)
  simp only [kxs_mw, c1, if_true]
  refine PySem.W.KFB.if_so (by decide) (wpAny_bind (PySem.ESX.check_bound F.excBase_ValueError hC he rfl (wpAny_bind (wpAny_pure (wpAny_pure ⟨Code.quiet_builtin _ (by decide +kernel), codeAny_builtin F.excBase_ValueError.initEntry ?_⟩)))))
  rw [Around.under_plainId F.excBase_ValueError.init.plain _]
  wp_walk
  refine hq _ h.objs.size (fun b o hb ho => ?_) ?_
  · exact (Heap.get?_update_other _ _ (Ne.symm hb)).trans (Heap.get?_push_of_some _ ho)
  · rw [Heap.get?_update_self _ (Heap.get?_push_of_some _ he) rfl]
    rfl
end
end HT
set_option Elab.async false
set_option linter.all false
set_option maxRecDepth 100000
set_option maxHeartbeats 800000
namespace HT
open PySem PySem.Spec L2
open PyProof.Rows hiding St
open PySem.W (ksFn ksEnv ks_superObj kxs_mw KxsAt ks_newsPush)

section
variable {prog : Program} {w : World} {A : Around} {R : Result → Shared → Prop} {hp : Heap} {g : Array GenState} {d : Drawn} {t : Nat} {os : OsState} {K : PySem.W.Frag} {mg mb : Str → Option Value} {C fI x t0 : Addr} {f : Str} {fd : FuncData} {v : Value} {args : Args}
theorem excO_inst {h : Heap} (hx : h.get? x = some (PySem.HandSPX.excO C t0)) : PySem.W.InstAt h x (PySem.HandSPX.excO C t0) C none := ⟨hx, rfl, rfl, trivial⟩
theorem ex_run (G : ExI prog K C f fI fd) (hself : (f == ("self" : Str)) = false) (hdb : (f == ("__debug__" : Str)) = false) (room : A.depth < recursionLimit) (X : K.In hp) (lim : hp.NoLimit) (gl : hp.Ns mainGlobals mg) (bl : hp.Ns builtinsNs mb) (hbl : ∀ y : Str, y ≠ "__name__" → mb y = bootBuiltins y) (msup : mg "super" = none)
    (hx : hp.get? x = some (PySem.HandSPX.excO C t0)) (hxK : K.lookup x = none) (bd : BindsTo ⟨hp, g, d, t, os⟩ fd args [("self", .ref x), (f, v)])
    (hq : ∀ h2 t2 t1 dx, (∀ b o, b ≠ x → hp.get? b = some o → h2.get? b = some o) → hp.objs.size ≤ dx → dx ≠ x → h2.get? x = some ({ cls := .ref C, dict := some dx, data := .fields #[.ref t1, .none, .none, .none, .bool false, .none] } : Obj) →
      h2.Ns1 dx (fun y => if y = f then some v else none) → R (.ok (.ret .none)) ⟨h2, g, d, t2, os⟩) :
    codeAny (model prog w) A (.call (.ref fI) args) R ⟨hp, g, d, t, os⟩ := by
  obtain ⟨oc, od, osl, qual, params, p0, p1, p2, p3, p4, p5, p6, p7, p8, p9, scope, dV, kV, doc, pm, ct, an, cda, cc, rfl, look, code, ⟨ccl, cdd, vs, ccs, file, tf, lcode, hvs, hfile⟩, ⟨cl, cld, csl, lcell⟩, ⟨ar, har, harg⟩, ssup, scls, sself, sf, skind, snc, sco, sge, pl, hev⟩ := G.df
  obtain ⟨nm, q, N, bs, bm, sn, sub, ab, col, dd, k0, k1, k2, k3, k5, hC, hbm⟩ := G.ox.cls
  have hcl : PySem.W.clsIn K C = some { name := nm, bases := bs, mro := .ref C :: bm, ns := N, qualname := q, hasDict := true, slotNames := sn, subclasses := sub, abstract := ab, collection := col, hasDel := false } := by unfold PySem.W.clsIn; rw [hC] <;> rfl
  refine ks_codeAny_call_defAt (body := exBody f p0 p1 p2 p3 p4 p5 p6 p7 p8 p9) room (X _ _ look) rfl lim (PySem.W.codeRec_of X code) rfl bd snc (fun y hy => ?_) (fun h1 ns1 k1' => ?_) sco sge skind
  · rcases List.mem_cons.mp hy with rfl | hy
    · exact sself
    · rcases List.mem_cons.mp hy with rfl | hy
      · exact sf
      · cases hy
  have F1 : Fr hp hp.objs.size h1 (fun y => ([("self", Value.ref x), (f, v)] : List (Str × Value)).reverse.lookup y) := ⟨ns1, k1', Nat.le_refl _⟩
  have nself : (("self" : Str) == f) = false := by
    cases e : (("self" : Str) == f) with
    | false => rfl
    | true =>
      rw [show ("self" : Str) = f from eq_of_beq e] at hself
      exact absurd hself (by rw [show (f == f) = true from beq_self_eq_true _]; decide)
  have ms : List.lookup ("self" : Str) ([(("self" : Str), Value.ref x), (f, v)] : List (Str × Value)).reverse = some (.ref x) := by
    show List.lookup ("self" : Str) [(f, v), (("self" : Str), Value.ref x)] = _
    rw [List.lookup_cons, nself, List.lookup_cons, show (("self" : Str) == ("self" : Str)) = true from beq_self_eq_true _]
  have mf : List.lookup f ([(("self" : Str), Value.ref x), (f, v)] : List (Str × Value)).reverse = some v := by
    show List.lookup f [(f, v), (("self" : Str), Value.ref x)] = _
    rw [List.lookup_cons, show (f == f) = true from beq_self_eq_true _]
  have xL : x ≠ hp.objs.size := Nat.ne_of_lt (Heap.lt_size hx)
  refine ks_wpAt_execs_cons ?_
  refine ks_wpAt_Expr_any ?_ (by show (scope.kind == ScopeKind.module && _) = false; rw [skind]; rfl)
  refine ks_wpAt_MethodCall ?_ (hev _)
  have X1 : K.In h1 := X.keeps k1'
  have hD1 : h1.get? C = some (excClassObj nm q C N bs bm true sn sub ab col dd k0 k1 k2 k3 k5 "ValueError.__new__") := X1 _ _ hC
  refine ks_wpAt_super_base (file := file) (tf := tf) ssup scls (by decide) rfl (X1 _ _ look) rfl har rfl (X1 _ _ lcode) rfl hvs hfile G.tp ?_
  refine PySem.W.ks_loadName_global skind ssup (PySem.Calls.loadGlobal_builtin (gl.keeps k1') msup (bl.keeps k1') ((hbl _ (by decide +kernel)).trans PyProof.Rows.Boot.«super») ⟨rfl, ?_⟩)
  obtain ⟨ob, es, ep, hob, hrest⟩ := id ns1
  refine wpAny_loadName_free skind scls rfl ⟨_, X1 _ _ lcell, rfl⟩ ?_
  rw [harg]
  refine wpAny_loadName_local skind sself ns1 ms ?_
  refine ks_wpAny_isType_cls hD1 rfl ⟨rfl, ?_⟩
  have hx1 : h1.get? x = some (PySem.HandSPX.excO C t0) := k1' _ _ hx
  refine ks_wpAny_call_super hD1 rfl hx1 rfl (fun c e => by cases e) (PySem.W.looks_mroIn X1 G.mm) (fun h2 e2 k2 => ?_)
  obtain ⟨F2, N2, _⟩ := ks_newsPush (s := ⟨h1, g, d, t + 2, os⟩) (news := []) F1 News.nil rfl e2 k2
  have I2 : PySem.W.InstAt h2 x (PySem.HandSPX.excO C t0) C none := excO_inst (k2 _ _ hx1)
  refine PySem.W.kxs_method PySem.W.kxs_ValueError F2 X N2 List.mem_cons_self I2 G.op G.su G.vb (by decide) (fun qq h3 F3 N3 _ => ?_)
  refine PySem.W.kxs_callWith1 N3 List.mem_cons_self ?_
  show wpAny _ _ (spliced ((false, eval (.Name f p3) _) :: [])) _ _ _
  refine PySem.Calls.spliced_cons (wpAny_Name (wpAny_loadName_local skind sf F3.ns mf ?_) hdb)
  refine PySem.Calls.spliced_nil ⟨PySem.W.kxs_at N3 List.mem_cons_self, ?_⟩
  have hx3 : h3.get? x = some (PySem.HandSPX.excO C t0) := F3.keep _ _ hx
  have X3 : K.In h3 := X.keeps F3.keep
  refine call_mw (X3 _ _ hC) hx3 (PySem.W.kxs_at N3 List.mem_cons_self) (by show 1 ≤ sizeLine; rw [sizeLine_eq]; omega) (fun h4 t1 k4 hx4 => ?_)
  have ns4 : h4.Ns hp.objs.size (fun y => List.lookup y ([(("self" : Str), Value.ref x), (f, v)] : List (Str × Value)).reverse) := by
    obtain ⟨o3, es3, ep3, a3, r3⟩ := F3.ns
    exact ⟨o3, es3, ep3, k4 _ _ (Ne.symm xL) a3, r3⟩
  refine ks_wpAt_execs_cons (wpAt_of_wpAny (plainObj_wpAny_Assign_Attribute ?_))
  refine wpAny_Name (wpAny_loadName_local skind sf ns4 mf ?_) hdb
  refine wpAny_Name (wpAny_loadName_local skind sself ns4 ms ?_)
  have X4 : K.In h4 := fun b o e => by
    have hb : b ≠ x := fun z => by
      rw [z, hxK] at e
      cases e
    exact k4 b o hb (X3 b o e)
  refine PySem.W.set_plain X4 (ox := PySem.HandSPX.excO C t1) (od := none) (excO_inst hx4) G.ox.sa ?_
  refine PySem.HandSPX.exc_osa X4 hx4 hcl (show PySem.HandSPX.refsVE (.ref C :: bm) = true from hbm) rfl G.no (fun h5 tk5 dx k5 dn dne hx5 hn5 => ?_)
  refine wpAt_of_wpAny (wpAny_execs_nil ?_)
  have le4 : hp.objs.size ≤ h4.objs.size := Nat.le_of_lt ns4.lt
  refine hq h5 _ t1 dx (fun b o hb e => k5 b o hb (k4 b o hb (F3.keep b o e))) (Nat.le_trans le4 dn) dne hx5 hn5
end
end HT
set_option Elab.async false
set_option linter.all false
set_option maxRecDepth 100000
set_option maxHeartbeats 800000
namespace HT
open PySem PySem.Spec L2
open PyProof.Rows hiding St

section
variable {X : Cx} {pins : List (Addr × Obj)} {σ : St} {H1 : Hp} {s1 : Shared} {C fI : Addr} {f : Str} {fd : FuncData} {dvs : List V} {dsv : List Value} {us : List Value} {vs : List V} {v : V} {Q : XK} {k : Nat}
/-- C(..) is called: a new error with its field -/
theorem xmk_run (G : ExI X.prog X.K C f fI fd) (hself : (f == ("self" : Str)) = false) (hdb : (f == ("__debug__" : Str)) = false) (msup : X.mg "super" = none) (lv : Lv (k + 1) X.A) (hb : Binds X.K fd ["self", f] dsv) (hd : Vals dvs dsv)
    (I1 : Inv X pins σ H1 s1) (r1 : Vals vs us) (hv : vs ++ dvs = [v]) (q : ∀ d, H1 d = none → Q (.ref C) (some d) (upd H1 d (.xd [(f, v)]))) : wpAny (model X.prog X.w) X.A (call (.ref C) us) (MkP X pins σ Q) X.xe s1 := by
  obtain ⟨nm, qn, N, bs, bm, sn, sub, ab, col, dd, k0, k1, k2, k3, k5, hC, hbm⟩ := G.ox.cls
  obtain ⟨mb, hbl, hbb⟩ := I1.ok.mod.blt
  obtain ⟨hp, g, dr, tk, os⟩ := s1
  have hsz : hp.objs.size ≤ hp.objs.size + 1 := Nat.le_succ _
  have hn : H1 (hp.objs.size + 1) = none := I1.hok.fresh hsz
  have kk : ∀ b o, hp.get? b = some o → ((hp.push (PySem.W.kdv_tup us)).push (PySem.HandSPX.excO C hp.objs.size)).get? b = some o := fun b o e => Heap.get?_push_of_some _ (Heap.get?_push_of_some _ e)
  have hget : ((hp.push (PySem.W.kdv_tup us)).push (PySem.HandSPX.excO C hp.objs.size)).get? (hp.objs.size + 1) = some (PySem.HandSPX.excO C hp.objs.size) := by heap_get
  have I2 : Inv X pins σ (upd H1 (hp.objs.size + 1) (exo (hp.objs.size + 1) C none)) ⟨(hp.push (PySem.W.kdv_tup us)).push (PySem.HandSPX.excO C hp.objs.size), g, dr, tk, os⟩ :=
    I1.laid (t' := tk) (a := hp.objs.size + 1) (o := exo (hp.objs.size + 1) C none) (h' := (hp.push (PySem.W.kdv_tup us)).push (PySem.HandSPX.excO C hp.objs.size)) kk hsz (exo_ok hget)
  have rr := r1.append hd
  rw [hv] at rr
  obtain ⟨u, eu, ru⟩ : ∃ u, us ++ dsv = [u] ∧ RelV v u := by
    cases hh : us ++ dsv with
    | nil =>
      rw [hh] at rr
      cases rr
    | cons u r =>
      rw [hh] at rr
      cases rr with
      | cons a b =>
        cases b
        exact ⟨u, rfl, a⟩
  have hus : us.length ≤ sizeLine := by
    have : us.length ≤ (us ++ dsv).length := by rw [List.length_append]; omega
    rw [eu] at this
    rw [sizeLine_eq]
    simp at this
    omega
  have hxK : X.K.lookup (hp.objs.size + 1) = none := by
    cases e : X.K.lookup (hp.objs.size + 1) with
    | none => rfl
    | some o =>
      have z := Heap.lt_size (I1.kIn _ _ e)
      exact absurd (show hp.objs.size + 1 < hp.objs.size from z) (by omega)
  have bd : BindsTo ⟨(hp.push (PySem.W.kdv_tup us)).push (PySem.HandSPX.excO C hp.objs.size), g, dr, tk, os⟩ fd ⟨Value.ref (hp.objs.size + 1) :: us, []⟩ [(("self" : Str), Value.ref (hp.objs.size + 1)), (f, u)] := by
    have b := hb ⟨(hp.push (PySem.W.kdv_tup us)).push (PySem.HandSPX.excO C hp.objs.size), g, dr, tk, os⟩ (Value.ref (hp.objs.size + 1) :: us) I2.kIn (by rw [List.cons_append, eu]; rfl)
    rw [List.cons_append, eu] at b
    exact b
  refine wpAny_call (PySem.HandSPX.call_own F.excBase_ValueError (fun Y => PySem.HandSPX.refsVE_contains Y bm hbm) (I1.kIn _ _ hC) (PySem.W.looks_findIn I1.kIn G.iC) (fun self => PySem.W.bind_fn I1.kIn self G.tI) hus
    (ex_run G hself hdb (lv.room.make C us []).depth I2.kIn I2.nolimit (I2.ok.mod.glob.keeps I2.bk) (hbl.keeps I2.bk) hbb msup hget hxK bd fun h2 t2 t1 dx k2 dn dne hx2 hn2 => ?_))
  refine ⟨rfl, ?_⟩
  have hsz2 : hp.objs.size ≤ ((hp.push (PySem.W.kdv_tup us)).push (PySem.HandSPX.excO C hp.objs.size)).objs.size := by
    rw [Heap.size_push, Heap.size_push]
    omega
  have hnd : H1 dx = none := I1.hok.fresh (Nat.le_trans hsz2 dn)
  have hnd2 : upd H1 (hp.objs.size + 1) (exo (hp.objs.size + 1) C none) dx = none := by
    rw [upd_ne dne]
    exact hnd
  have ea : upd H1 (hp.objs.size + 1) (exo (hp.objs.size + 1) C none) (hp.objs.size + 1) = some (exo (hp.objs.size + 1) C none) := upd_same
  have na : ∀ {b : Addr}, upd H1 (hp.objs.size + 1) (exo (hp.objs.size + 1) C none) b = none → b ≠ hp.objs.size + 1 := fun {b} n z => by
    rw [z, upd_same] at n
    cases n
  have nd : ∀ {b : Addr} {o : Obj}, ((hp.push (PySem.W.kdv_tup us)).push (PySem.HandSPX.excO C hp.objs.size)).get? b = some o → b ≠ dx := fun {b o} z => Nat.ne_of_lt (Nat.lt_of_lt_of_le (Heap.lt_size z) dn)
  have un : Un (frs X.stack) [] (upd H1 (hp.objs.size + 1) (exo (hp.objs.size + 1) C none)) (upd (upd (upd H1 (hp.objs.size + 1) (exo (hp.objs.size + 1) C none)) dx (exd dx [(f, v)])) (hp.objs.size + 1) (exo (hp.objs.size + 1) C (some dx)))
      ((hp.push (PySem.W.kdv_tup us)).push (PySem.HandSPX.excO C hp.objs.size)) h2 := {
    keep := fun b o z n _ _ => k2 b o (na n) z
    slot := fun b o z n _ _ => ⟨o.slots, k2 b o (na n) z⟩
    free := fun b o z n _ => by rw [upd_ne (na n), upd_ne (nd z)]; exact n
    there := fun b o z _ => by
      by_cases hb : b = hp.objs.size + 1
      · exact ⟨_, by rw [hb]; exact hx2⟩
      · exact ⟨o, k2 b o hb z⟩
    tups := fun b xs z => by rw [upd_ne (at_ne ea z exo_tup), upd_ne (ne_of_none z hnd2)]; exact z
    frzs := fun b o w z => by rw [upd_ne (at_ne ea z exo_frz), upd_ne (ne_of_none z hnd2)]; exact z
    tbls := fun b ps z => ⟨#[], by rw [upd_ne (at_ne ea z exo_tbl), upd_ne (ne_of_none z hnd2), z]; simp⟩ }
  have hok : HOk X.prog X.w (upd (upd (upd H1 (hp.objs.size + 1) (exo (hp.objs.size + 1) C none)) dx (exd dx [(f, v)])) (hp.objs.size + 1) (exo (hp.objs.size + 1) C (some dx))) h2 := fun b o z => by
    by_cases hb : b = hp.objs.size + 1
    · subst hb
      rw [upd_same] at z
      cases z
      exact exo_ok hx2
    · rw [upd_ne hb] at z
      by_cases hdx : b = dx
      · subst hdx
        rw [upd_same] at z
        cases z
        exact exd_ok hn2 (relO_put (fs := []) ru fun g => True.intro)
      · rw [upd_ne hdx] at z
        exact (I2.hok b o z).stay (fun c w hc y => k2 c w (by
            rcases hc with hc | hc
            · rw [hc]
              exact hb
            · exact at_ne ea hc exo_own) y)
          (fun c hc => by rw [upd_ne (at_ne ea hc exo_own), upd_ne (ne_of_none hc hnd2)]; exact hc) (fun c xs hc => by rw [upd_ne (at_ne ea hc exo_tup), upd_ne (ne_of_none hc hnd2)]; exact hc)
  have e2 : del (upd (upd (upd H1 (hp.objs.size + 1) (exo (hp.objs.size + 1) C none)) dx (exd dx [(f, v)])) (hp.objs.size + 1) (exo (hp.objs.size + 1) C (some dx))) (hp.objs.size + 1) = upd H1 dx (exd dx [(f, v)]) := by
    funext b
    by_cases hb : b = hp.objs.size + 1
    · rw [hb, del_same, upd_ne (Ne.symm dne)]
      exact hn.symm
    · rw [del_ne hb, upd_ne hb]
      by_cases hdx : b = dx
      · rw [hdx, upd_same, upd_same]
      · rw [upd_ne hdx, upd_ne hdx, upd_ne hb]
  refine mk_end (raises_own G.ox.exC G.ox.tyC) I1 hsz kk un hok rfl I2.bare upd_same (by rw [upd_ne dne, upd_same]) hnd ?_
  rw [e2, show upd (upd H1 dx (exd dx [(f, v)])) dx (.xd [(f, v)]) = upd H1 dx (.xd [(f, v)]) from by
    funext b
    by_cases hdx : b = dx
    · rw [hdx, upd_same, upd_same]
    · rw [upd_ne hdx, upd_ne hdx, upd_ne hdx]]
  exact q dx hnd
end
end HT
set_option Elab.async false
set_option linter.all false
set_option maxRecDepth 100000
set_option maxHeartbeats 800000
namespace HT
open PySem PySem.Spec L2
open PyProof.Rows hiding St

/-! ### expressions that make an error -/
section
variable (T : Str → Addr) (K : PySem.W.Frag)
def GoodM (W : WX) (σ : St) (Q : XK) (ρ : Nat → Option Addr) (Z : Hid) (H : Hp) : R (Str × List (Str × D)) → Prop
  | .ok p S' => ∀ dx vs H' ρ', Ext ρ Z H ρ' H' → Wd T K ρ' S' Z H' → Fz ρ' Z H' dx = some (.xd vs) → RepF T K ρ' (Fz ρ' Z H') p.2 vs → Q (.ref (T p.1)) (some dx) H'
  | .exc C fs S' => ∀ dx vs H' ρ', Ext ρ Z H ρ' H' → Wd T K ρ' S' Z H' → Fz ρ' Z H' dx = some (.xd vs) → RepF T K ρ' (Fz ρ' Z H') fs vs → W (.ref (T C)) (some dx) σ H'
  | .stuck => False
def liftM (W : WX) (F : Env → Cm (Str × List (Str × D))) : St → Hp → XK → Prop := fun σ H Q => ∃ ρ S Z env, Wd T K ρ S Z H ∧ ER T K ρ Z H σ env ∧ GoodM T K W σ Q ρ Z H (F env S)
end
abbrev MF (T : Str → Addr) (X : Cx) (W : WX) (e : Expr) (F : Env → Cm (Str × List (Str × D))) : Prop := PMk X e (liftM T X.K W F)
section
variable {T : Str → Addr} {X : Cx} {W : WX} {C f x : Str} {fI : Addr} {fd : FuncData} {k : Nat} {dvs : List V} {dsv : List Value} {dds : List D} {e : Expr} {es : List Expr} {Fa : Env → Cm (List D)} {F : Env → Cm (Str × List (Str × D))} {p pos : Pos}
theorem lift_bndM {α β : Type} {rel : Rl α β} {K : PySem.W.Frag} {σ : St} {ρ : Nat → Option Addr} {S : Sto} {Z : Hid} {H : Hp} {env : Env} {Q : XK} {F : Env → Cm α} {k : α → Cm (Str × List (Str × D))} (w : Wd T K ρ S Z H) (e : ER T K ρ Z H σ env) (g : GoodM T K W σ Q ρ Z H ((F env S).bnd k)) :
    lift T K rel W F σ H fun v H' => ∃ ρ' S' d, Ext ρ Z H ρ' H' ∧ Wd T K ρ' S' Z H' ∧ ER T K ρ' Z H' σ env ∧ rel ρ' (Fz ρ' Z H') d v ∧ GoodM T K W σ Q ρ' Z H' (k d S') := by
  refine ⟨ρ, S, Z, env, w, e, ?_⟩
  cases h : F env S with
  | ok d S' =>
    rw [h] at g
    refine fun v H' ρ' x w' q => ⟨ρ', S', d, x, w', e.ext x, q, ?_⟩
    cases hk : k d S' with
    | ok c S2 =>
      rw [show ((R.ok d S').bnd k) = k d S' from rfl, hk] at g
      exact fun dx vs H2 ρ2 x2 => g dx vs H2 ρ2 (x.trans x2)
    | exc C fs S2 =>
      rw [show ((R.ok d S').bnd k) = k d S' from rfl, hk] at g
      exact fun dx vs H2 ρ2 x2 => g dx vs H2 ρ2 (x.trans x2)
    | stuck =>
      rw [show ((R.ok d S').bnd k) = k d S' from rfl, hk] at g
      exact g
  | exc C fs S' =>
    rw [h] at g
    exact g
  | stuck =>
    rw [h] at g
    exact g
/-- C(..), the field's value and the defaults -/
def mArg (C f : Str) (dds : List D) (xs : List D) : Cm (Str × List (Str × D)) := fun S => match xs ++ dds with
  | [d] => .ok (C, [(f, d)]) S
  | _ => .stuck
def fMk (C f : Str) (dds : List D) (Fa : Env → Cm (List D)) : Env → Cm (Str × List (Str × D)) := fun env S => (Fa env S).bnd (mArg C f dds)
theorem mk_good {σ : St} {Q : XK} {ρ : Nat → Option Addr} {S : Sto} {Z : Hid} {H : Hp} {xs : List D} {vs : List V} (w : Wd T X.K ρ S Z H) (r : RepL T X.K ρ (Fz ρ Z H) xs vs) (hD : CsD T X.K dds dvs) (g : GoodM T X.K W σ Q ρ Z H (mArg C f dds xs S)) :
    ∃ v, vs ++ dvs = [v] ∧ ∀ d, H d = none → Q (.ref (T C)) (some d) (upd H d (.xd [(f, v)])) := by
  have rr := r.app (hD ρ (Fz ρ Z H))
  unfold mArg at g
  split at g
  · rename_i d hd
    rw [hd] at rr
    obtain ⟨v, hv, rv⟩ := rr.one_inv
    refine ⟨v, hv, fun a ha => ?_⟩
    obtain ⟨x, w', fz⟩ := new_frz (o := .xd [(f, v)]) w ha
    exact g a _ _ ρ x w' fz ⟨v, [], rfl, x.rep rv, rfl⟩
  · exact g.elim
theorem mf_mk (G : ExI X.prog X.K (T C) f fI fd) (hself : (f == ("self" : Str)) = false) (hdf : (f == ("__debug__" : Str)) = false) (msup : X.mg "super" = none) (lv : Lv (k + 1) X.A) (hb : Binds X.K fd ["self", f] dsv) (hd : Vals dvs dsv) (hD : CsD T X.K dds dvs)
    (hg : Gl X x) (hm : X.mg x = some (.ref (T C))) (ha : AF T X W (e :: es) Fa) (hdb : (x == ("__debug__" : Str)) = false := by decide) (he : starEach (e :: es) X.env = (false, eval e X.env) :: starEach es X.env := by rfl) (hpl : (backTo pos (starEach es X.env)).any (·.1) = false := by rfl) :
    MF T X W (.Call (.Name x p) (e :: es) [] pos) (fMk C f dds Fa) := by
  intro pins s σ H Q I h
  obtain ⟨ρ, S, Z, env, w, er, g⟩ := h
  refine wpAny_Call_Name_kw (ld_glob I hg hm ?_ hdb)
  refine PySem.W.callWith_K (h₀ := X.base) I.ok.mod.kin G.ox.kC (thn (ha.run pos pins s σ H _ I (lift_bndM w er g)) fun us s1 ⟨vs, H1, I1, r, ρ1, S1, ds, x1, w1, e1, r1, g1⟩ => ⟨I1.kIn, ?_⟩) he hpl
  obtain ⟨v, hv, q⟩ := mk_good w1 r1 hD g1
  exact xmk_run G hself hdf msup lv hb hd I1 r hv q
theorem mf_mk0 (G : ExI X.prog X.K (T C) f fI fd) (hself : (f == ("self" : Str)) = false) (hdf : (f == ("__debug__" : Str)) = false) (msup : X.mg "super" = none) (lv : Lv (k + 1) X.A) (hb : Binds X.K fd ["self", f] dsv) (hd : Vals dvs dsv) (hD : CsD T X.K dds dvs)
    (hg : Gl X x) (hm : X.mg x = some (.ref (T C))) (hdb : (x == ("__debug__" : Str)) = false := by decide) : MF T X W (.Call (.Name x p) [] [] pos) (fMk C f dds aNil) := by
  intro pins s σ H Q I h
  obtain ⟨ρ, S, Z, env, w, er, g⟩ := h
  refine wpAny_Call_Name_kw (ld_glob I hg hm ?_ hdb)
  obtain ⟨v, hv, q⟩ := mk_good (xs := []) (vs := []) w rfl hD g
  exact PySem.W.callWith_K0 I.kIn G.ox.kC (xmk_run G hself hdf msup lv hb hd I .nil hv q)
/-- an error as a value -/
def fExn (F : Env → Cm (Str × List (Str × D))) : FE := fun env S => (F env S).bnd fun p S' => .ok (.exn p.1 p.2) S'
theorem exo2_ok {P : Program} {w : World} {H : Hp} {h : Heap} {a d C : Addr} {oe : Obj} {vs : Array Value} (e : h.get? a = some oe) (z : Zc (.ref C) (some d) oe) (dd : oe.data = .fields vs) : ObjOk P w H h a (EXO C d a) :=
  ⟨⟨oe, vs, e, z, dd⟩, ⟨oe, e⟩, fun _ _ ⟨o, v, q, r⟩ k => ⟨o, v, k o q, r⟩⟩
theorem land_val {pins : List (Addr × Obj)} {σ : St} {H' : Hp} {sI s' : Shared} {a d C : Addr} {oe : Obj} {vs : Array Value} (I : Inv X pins σ H' sI) (k : ∀ b o, sI.heap.get? b = some o → s'.heap.get? b = some o) (hn : sI.heap.get? a = none) (he : s'.heap.get? a = some oe)
    (hz : Zc (.ref C) (some d) oe) (hd : oe.data = .fields vs) (na : H' a = none) (os : s'.os = sI.os) (ag : AllBare s'.gens) : Inv X pins σ (upd H' a (EXO C d a)) s' :=
  I.call' (ch := []) os (Un.laidN k hn na) (I.hok.laidN k na (exo2_ok he hz hd)) ag (fun _ z => nomatch z)
theorem pf_exn (h : MF T X W e F) : PF T X W e (fExn F) := by
  refine ⟨fun pins s σ H Q I q => ?_⟩
  obtain ⟨ρ, S, Z, env, w, er, g⟩ := q
  unfold fExn at g
  refine wpAny_mono (h pins s σ H (fun cls d H' => ∃ C dx, cls = .ref C ∧ d = some dx ∧ ∀ a, H' a = none → Q (.ref a) (upd H' a (EXO C dx a))) I ⟨ρ, S, Z, env, w, er, ?_⟩) (fun u s1 hu => ?_) fun _ _ x => x
  · cases hF : F env S with
    | ok pr S' =>
      rw [hF] at g
      intro dx vs H' ρ' x w' hx hr
      refine ⟨_, dx, rfl, rfl, fun a ha => ?_⟩
      obtain ⟨x2, w2, fz⟩ := new_frz (o := EXO (T pr.1) dx a) w' ha
      exact g _ _ ρ' (x.trans x2) w2 ⟨a, dx, vs, rfl, fz, x2.frz _ _ hx, RepF.mono x2.cells x2.frz _ _ hr⟩
    | exc C fs S' =>
      rw [hF] at g
      exact g
    | stuck =>
      rw [hF] at g
      exact g
  · obtain ⟨a, oe, vs, sI, H', cls, d, rfl, J, k, hne, ha, hz, hd, h1, na, os, ag, r, C, dx, rfl, rfl, q⟩ := hu
    exact ⟨.ref a, _, land_val J k hne ha hz hd na os ag, rfl, q a na⟩
/-- raise -/
def sRaise (F : Env → Cm (Str × List (Str × D))) : FS := fun env S => sB env (F env S) fun p S' => .ok (.xc env p.1 p.2) S'
theorem sf_raise (hc : X.calm = true) (tk : Takes X W) (h : MF T X W e F) : SF T X W (.Raise (some e) none pos) (sRaise F) := ps_imp (ps_raise hc tk h) fun B σ H q => by
  obtain ⟨ρ, S, Z0, Z, env, a, g⟩ := q
  refine ⟨ρ, S, Z, env, a.w, a.e, ?_⟩
  unfold sRaise at g
  cases hF : F env S with
  | ok pr S' =>
    rw [hF] at g
    exact fun dx vs H' ρ' x w' hx hr => (show GoodF T X.K W B ρ Z0 Z H S' (.xc env pr.1 pr.2) from g) σ dx vs H' ρ' Z (x.s a.o.sub) (a.ext x w') hx hr
  | exc C fs S' =>
    rw [hF] at g
    exact fun dx vs H' ρ' x w' hx hr => (show GoodF T X.K W B ρ Z0 Z H S' (.xc env C fs) from g) σ dx vs H' ρ' Z (x.s a.o.sub) (a.ext x w') hx hr
  | stuck =>
    rw [hF] at g
    exact g
end
end HT
set_option Elab.async false
set_option linter.all false
set_option maxRecDepth 100000
set_option maxHeartbeats 800000
namespace HT
open PySem PySem.Spec L2
open PyProof.Rows hiding St

/-! ### try: .. except x as n: .., the error is an object in the suite and behind it -/
/-- the ends of a suite, seen past its name's going -/
def dropN (i : Nat) (D : Ends) : Ends := { nx := fun σ H => D.nx (σ.set i none) H, rt := D.rt, bk := fun σ H => D.bk (σ.set i none) H, ct := fun σ H => D.ct (σ.set i none) H }
def wEx (K : PySem.W.Frag) (c : Value) (i : Nat) (ts : TS) (Wout : WX) (D : Ends) : WX := fun cls d σ H => ∃ b, PySem.W.exmOne K cls c = some b ∧
  (b = true → ∃ C dx, cls = .ref C ∧ d = some dx ∧ ∀ a, H a = none → ts (dropN i D) (σ.set i (some (.ref a))) (upd H a (EXO C dx a))) ∧ (b = false → Wout cls d σ H)
section
variable {X : Cx} {pins : List (Addr × Obj)} {σ : St} {H : Hp} {s : Shared}
theorem Inv.suite0 (I : Inv X pins σ H s) (a : Addr) : Inv (X.suite a (X.pn ++ pins)) [] σ H s :=
  ⟨I.ok.suite _ _, I.os, I.bare, I.base, I.loc, I.cell, I.free, I.freeC, fun p hp => I.pin p (by rw [List.append_nil] at hp; exact hp), I.hok, I.len⟩
theorem Inv.unsuite0 {a : Addr} {pn' : List (Addr × Obj)} (I : Inv (X.suite a (X.pn ++ pins)) pn' σ H s) (ok : X.Ok) : Inv X pins σ H s :=
  ⟨ok, I.os, I.bare, I.base, I.loc, I.cell, I.free, I.freeC, fun p hp => I.pin p (List.mem_append_left _ hp), I.hok, I.len⟩
/-- an object that stands in the heap, untracked, new behind the entry, is tracked -/
theorem Inv.track {a : Addr} {o : HO} (I : Inv X pins σ H s) (na : H a = none) (n0 : X.s_0.heap.get? a = none) (nL : a ≠ X.env.locals) (nC : ∀ x c, X.env.cells.lookup x = some c → c ≠ a) (nP : ∀ p ∈ X.pn ++ pins, p.1 ≠ a) (new : ObjOk X.prog X.w (upd H a o) s.heap a o) : Inv X pins σ (upd H a o) s := by
  refine ⟨I.ok, I.os, I.bare, ⟨I.base.keep, I.base.slot, fun b u e n hx => ?_, I.base.there, fun b xs e => ?_, fun b u w e => ?_, fun b ps e => ?_⟩, I.loc, I.cell, ?_, fun x c e => ?_, fun p hp => ?_, fun b u e => ?_, I.len⟩
  · rw [upd_ne (fun z => by rw [z, n0] at e; cases e)]
    exact I.base.free b u e n hx
  · have q := I.base.tups b xs e
    rw [upd_ne (ne_of_none q na)]
    exact q
  · have q := I.base.frzs b u w e
    rw [upd_ne (ne_of_none q na)]
    exact q
  · obtain ⟨m, q⟩ := I.base.tbls b ps e
    exact ⟨m, by rw [upd_ne (ne_of_none q na)]; exact q⟩
  · rw [upd_ne (Ne.symm nL)]
    exact I.free
  · rw [upd_ne (nC x c e)]
    exact I.freeC x c e
  · obtain ⟨e, n, ne, nf, d⟩ := I.pin p hp
    exact ⟨e, by rw [upd_ne (nP p hp)]; exact n, ne, nf, d⟩
  · by_cases hb : b = a
    · subst hb
      rw [upd_same] at e
      cases e
      exact new
    · rw [upd_ne hb] at e
      exact (I.hok b u e).stay (fun c w _ q => q) (fun c q => by rw [upd_ne (ne_of_none q na)]; exact q) fun c xs q => by rw [upd_ne (ne_of_none q na)]; exact q
end
section
variable {X : Cx} {x n : Str} {c : Value} {i : Nat} {body suite : List Stmt} {b0 : Stmt} {np pos pos' : Pos} {tb : WX → TS} {ts : TS} {Wout : WX}
theorem ps_try_ex (hs : X.stack = X.env :: X.outer) (hf : X.env.frame = some X.env.locals) (hex : X.ex = []) (hN : X.N.Nodup) (hi : X.N[i]? = some n) (hln : X.env.kindOf n = some .local) (hc : Names X x c) (tk : Takes X Wout)
    (hb : ∀ (W : WX) (pn : List (Addr × Obj)) (xe : Value → Shared → Prop), Takes (X.tr pn xe) W → PassesOwn (model X.prog X.w) X.A X.env xe → PSs (X.tr pn xe) body (tb W))
    (hsu : ∀ (a : Addr) (pn : List (Addr × Obj)), PSs (X.suite a pn) (b0 :: suite) ts) :
    PS X (.Try body [.ExceptHandler (some (.Name x np)) (some n) (b0 :: suite) pos'] [] [] pos) (fun D σ H => tb (wEx X.K c i ts Wout D) D σ H) := by
  refine ⟨fun pins s σ H D I h => ?_⟩
  have ok := I.ok
  have hfr : X.A.frames = some (X.env :: X.outer) := ok.frames.trans (congrArg some hs)
  refine wpAny_Try_except (wpAny_mono ((hb (wEx X.K c i ts Wout D) (X.pn ++ pins) (fun e s₁ => wpAny (model X.prog X.w) X.A (noteFrame e X.env) (fun _ s₂ => wpAny (model X.prog X.w) X.A (setFlight e none) (fun _ s₃ =>
    wpAny (model X.prog X.w) X.A (handleBy e X.env [.ExceptHandler (some (.Name x np)) (some n) (b0 :: suite) pos']) (SP X pins D) X.xe s₃) X.xe s₂) X.xe s₁) (fun u s' xx => ?_) PassesOwn.looking).run [] s σ H D (I.toTry _) h) (fun fl s1 hsp => ?_) (fun e s1 he => he))
  · obtain ⟨a, B, sI, pins', τ, G, cls, d, rfl, J', nb, up, sky, na, os, ag, b, hb1, hyes, hno⟩ := xx
    have J : Inv X pins τ G sI := J'.ofTry ok
    rw [hs] at sky
    change wpAny (model X.prog X.w) X.A (noteFrame (.ref a) X.env) _ _ _
    refine Sky.land Zc.steady hfr hf sky fun h3 fl3 up3 => ?_
    have J3 : Inv X pins τ G { s' with heap := h3 } := J.landed nb fl3.1 (up.trans up3) os ag
    obtain ⟨oe3, vs3, he3, hz3, hd3⟩ := fl3.there
    have nfr : a ∉ frs (X.env :: X.outer) := fun hm => by
      obtain ⟨_, o', e', hnf⟩ := fl3.2.2.1.mem hm
      rw [he3] at e'
      cases e'
      exact hnf _ hd3
    have nL : a ≠ X.env.locals := fun z => nfr (List.mem_filterMap.mpr ⟨X.env, List.mem_cons_self, by rw [hf, z]⟩)
    have nI : sI.heap.get? a = none := by
      cases e : sI.heap.get? a with
      | none => rfl
      | some o =>
        have z := nb a o e (by rw [hs]; exact nfr)
        rw [fl3.2.1] at z
        cases z
    have LT : PySem.W.Looks (model X.prog X.w) h3 (typeOf (.ref a)) cls := fun A Q E s k q => wpAny_typeOf_ref (k _ _ he3) (by rw [hz3.1]; exact q)
    have LM := PySem.W.exm_one (M := model X.prog X.w) (J3.kIn) LT hb1
    have S3 := Inv.suite0 J3 a
    have test : ∀ {Q : Value → Shared → Prop} {E : Value → Shared → Prop}, Q c { s' with heap := h3 } → wpAny (model X.prog X.w) (X.A.mark (some (.ref a))) (eval (.Name x np) X.env) Q E { s' with heap := h3 } := fun {Q E} q => by
      obtain ⟨hg, hdbg, hm | ⟨hm, hv, hnn⟩⟩ := hc
      · exact ld_glob (X := X.suite a (X.pn ++ pins)) S3 hg hm q hdbg
      · exact ld_blt (X := X.suite a (X.pn ++ pins)) S3 hg hm hv q hnn hdbg
    refine wpAny_handleBy_cons (codeAny_handlers_test (test (LM.here ?_))) (by intro q; cases q)
    cases b with
    | true =>
      refine codeAny_handlers_suite_as (HandSPX.lands_againZ fl3 fun h4 fl4 up4 => ?_)
      have J4 : Inv X pins τ G { s' with heap := h4 } := J.landed nb fl4.1 ((up.trans up3).trans up4) os ag
      obtain ⟨oe4, vs4, he4, hz4, hd4⟩ := fl4.there
      obtain ⟨C, dx, rfl, rfl, hgo⟩ := hyes rfl
      have n0 : X.s_0.heap.get? a = none := by
        cases e : X.s_0.heap.get? a with
        | none => rfl
        | some o =>
          obtain ⟨o', z⟩ := J.base.there a o e (by rw [hex]; exact fun y => nomatch y)
          rw [nI] at z
          cases z
      have T4 : Inv X pins τ (upd G a (EXO C dx a)) { s' with heap := h4 } := Inv.track J4 na n0 nL (fun y k e z => by
          obtain ⟨v, o, q1, q2⟩ := J4.cell y k e
          rw [z] at q1
          have q3 := he4.symm.trans q1
          cases q3
          rw [hd4] at q2
          cases q2) (fun p hp z => by
          have q1 := (J.pin p hp).1
          rw [z, nI] at q1
          cases q1) (exo2_ok he4 hz4 hd4)
      refine store_ok (X := X.suite a (X.pn ++ pins)) (v := .ref a) (Inv.suite0 T4 a) hN hi (.inl hln) rfl (fun s5 S5 => ?_) (.inr hln)
      refine wpAny_mono ((hsu a (X.pn ++ pins)).run [] s5 _ _ _ S5 (hgo a na)) (fun fl s6 hsp => ?_) (fun _ _ z => False.elim z)
      have last : ∀ {τ6 : St} {H6 : Hp} {Q : Shared → Prop}, Inv (X.suite a (X.pn ++ pins)) [] τ6 H6 s6 → (∀ s7, Inv X pins (τ6.set i none) H6 s7 → Q s7) →
          wpAny (model X.prog X.w) X.A (do bindName X.env n .none; unbindBehindTheSuite X.env n pos') (fun _ s7 => Q s7) X.xe s6 := fun {τ6 H6 Q} S6 hq => gone_ok (Inv.unsuite0 S6 ok) hN hi hln hq
      cases fl with
      | ret u =>
        obtain ⟨v6, τ6, H6, S6, r6, q6⟩ := hsp
        exact last S6 fun s7 J7 => ⟨_, _, _, J7, r6, q6⟩
      | next =>
        obtain ⟨τ6, H6, S6, q6⟩ := hsp
        exact last S6 fun s7 J7 => ⟨_, _, J7, q6⟩
      | brk =>
        obtain ⟨τ6, H6, S6, q6⟩ := hsp
        exact last S6 fun s7 J7 => ⟨_, _, J7, q6⟩
      | cont =>
        obtain ⟨τ6, H6, S6, q6⟩ := hsp
        exact last S6 fun s7 J7 => ⟨_, _, J7, q6⟩
    | false =>
      show wpAny _ X.A (handleBy (.ref a) X.env []) _ _ _
      refine wpAny_handleBy_nil ?_
      obtain ⟨y1, y2, y3, oe, vs, tb0, oT, ts', he, hz, hd, h1, hr⟩ := id fl3
      have fin : wpAny (model X.prog X.w) X.A (setFlight (.ref a) X.env.frame) (fun _ s4 => wpAny (model X.prog X.w) X.A (throw (.ref a) : Sem Flow) (SP X pins D) X.xe s4) X.xe { s' with heap := h3 } := by
        rw [hf]
        exact HandSPX.setFlight_upZ fl3 fun h4 hh4 up4 => wpAny_throw (tk _ _ ⟨a, B, sI, pins, τ, G, cls, d, rfl, J, nb, (up.trans up3).trans up4, .inr (.inr (by rw [hs]; exact hh4)), na, os, ag, hno rfl⟩)
      unfold PySem.passOn
      refine wpAny_bind (wpAny_field he hd h1 ?_)
      rw [if_neg (show ¬ ((Value.ref tb0 == Value.none) = true) from by simp)]
      first
        | exact wpAny_bind (wpAny_pure (wpAny_bind fin))
        | exact wpAny_bind fin
  · cases fl with
    | ret u =>
      obtain ⟨v, τ, G, J', r, q⟩ := hsp
      exact ⟨v, τ, G, J'.ofTry ok, r, q⟩
    | next =>
      obtain ⟨τ, G, J', q⟩ := hsp
      exact wpAny_execs_nil ⟨τ, G, J'.ofTry ok, q⟩
    | brk =>
      obtain ⟨τ, G, J', q⟩ := hsp
      exact ⟨τ, G, J'.ofTry ok, q⟩
    | cont =>
      obtain ⟨τ, G, J', q⟩ := hsp
      exact ⟨τ, G, J'.ofTry ok, q⟩
end
end HT
set_option Elab.async false
set_option linter.all false
set_option maxRecDepth 100000
set_option maxHeartbeats 800000
namespace HT
open PySem PySem.Spec L2
open PyProof.Rows hiding St

section
variable {T : Str → Addr} {K : PySem.W.Frag} {ρ : Nat → Option Addr} {S : Sto} {Z0 Z : Hid} {H : Hp} {σ : St} {env : Env} {i : Nat}
/-- a slot is let go -/
theorem At.unset (a : At T K ρ S Z0 Z H σ env) (i : Nat) : At T K ρ S Z0 Z H (σ.set i none) (env.set i .un) := by
  have old : ∀ {j : Nat} {s : Sl}, s ≠ .un → (env.set i .un)[j]? = some s → env[j]? = some s ∧ i ≠ j := fun {j s} hs h => by
    by_cases hj : i = j
    · subst hj
      have hi : i < env.length := by
        have := (List.getElem?_eq_some_iff.mp h).1
        rw [List.length_set] at this
        exact this
      rw [List.getElem?_set_self hi] at h
      exact absurd (Option.some.inj h).symm hs
    · rw [List.getElem?_set_ne hj] at h
      exact ⟨h, hj⟩
  refine ⟨a.w, a.e.wiped [i], a.o.sub, fun j c b h1 h2 => ?_, fun j k c c' b h1 h2 h3 h4 => ?_, a.o.me, fun j c h1 => ?_, fun j k c c' b h1 h2 h3 => ?_, fun j k c c' h1 h2 => ?_⟩
  · obtain ⟨q, hj⟩ := old (by intro z; cases z) h1
    rw [List.getElem?_set_ne hj] at h2
    exact a.o.own j c b q h2
  · obtain ⟨q, hj⟩ := old (by intro z; cases z) h1
    obtain ⟨q2, hk⟩ := old (by intro z; cases z) h2
    rw [List.getElem?_set_ne hj] at h3
    rw [List.getElem?_set_ne hk] at h4
    exact a.o.apart j k c c' b q q2 h3 h4
  · exact a.o.slf j c (old (by intro z; cases z) h1).1
  · obtain ⟨q, hj⟩ := old (by intro z; cases z) h1
    rw [List.getElem?_set_ne hj] at h3
    exact a.o.apart2 j k c c' b q (old (by intro z; cases z) h2).1 h3
  · exact a.o.one j k c c' (old (by intro z; cases z) h1).1 (old (by intro z; cases z) h2).1
end
/-- which errors an except clause takes -/
abbrev ExTb := Str → Option Bool
def sDrop (i : Nat) (r : R Fl) : R Fl := match r with
  | .ok (.nx e) S => .ok (.nx (e.set i .un)) S
  | .ok (.bk e) S => .ok (.bk (e.set i .un)) S
  | .ok (.ct e) S => .ok (.ct (e.set i .un)) S
  | .ok (.rt d) S => .ok (.rt d) S
  | _ => .stuck
def sTry (i : Nat) (tb : ExTb) (F G : FS) : FS := fun env S => match F env S with
  | .ok (.xc env' C fs) S' => (match tb C with
    | some true => sDrop i (G (env'.set i (.val (.exn C fs))) S')
    | some false => .ok (.xc env' C fs) S'
    | none => .stuck)
  | r => r
section
variable {T : Str → Addr} {X : Cx} {W : WX} {x n : Str} {c : Value} {i : Nat} {body suite : List Stmt} {b0 : Stmt} {np pos pos' : Pos} {F G : FS} {tb : ExTb}
theorem sf_try (hs : X.stack = X.env :: X.outer) (hf : X.env.frame = some X.env.locals) (hex : X.ex = []) (hN : X.N.Nodup) (hi : X.N[i]? = some n) (hln : X.env.kindOf n = some .local) (hc : Names X x c) (tk : Takes X W)
    (ht : ∀ C b, tb C = some b → PySem.W.exmOne X.K (.ref (T C)) c = some b)
    (hb : ∀ (W : WX) (pn : List (Addr × Obj)) (xe : Value → Shared → Prop), Takes (X.tr pn xe) W → SFs T (X.tr pn xe) W body F)
    (hsu : ∀ (a : Addr) (pn : List (Addr × Obj)), SFs T (X.suite a pn) WF (b0 :: suite) G) :
    SF T X W (.Try body [.ExceptHandler (some (.Name x np)) (some n) (b0 :: suite) pos'] [] [] pos) (sTry i tb F G) :=
  ps_imp (ps_try_ex (tb := fun W => liftS T X.K W F) (ts := liftS T X.K WF G) hs hf hex hN hi hln hc tk (fun W pn xe tk _ => hb W pn xe tk) hsu) fun B σ H q => by
    obtain ⟨ρ, S, Z0, Z, env, a, g⟩ := q
    refine ⟨ρ, S, Z0, Z, env, a, ?_⟩
    unfold sTry at g
    cases hF : F env S with
    | stuck =>
      rw [hF] at g
      exact g
    | exc C fs S' =>
      rw [hF] at g
      exact g
    | ok fl S' =>
      rw [hF] at g
      cases fl with
      | nx e => exact (show GoodF T X.K W B ρ Z0 Z H S' (.nx e) from g)
      | bk e => exact (show GoodF T X.K W B ρ Z0 Z H S' (.bk e) from g)
      | ct e => exact (show GoodF T X.K W B ρ Z0 Z H S' (.ct e) from g)
      | rt d => exact (show GoodF T X.K W B ρ Z0 Z H S' (.rt d) from g)
      | xc e C fs =>
        intro σ' dx vs H' ρ' Z' xs a' hx hr
        dsimp only at g
        cases ht' : tb C with
        | none =>
          rw [ht'] at g
          exact g.elim
        | some b =>
          rw [ht'] at g
          refine ⟨b, ht C b ht', fun e1 => ?_, fun e1 => ?_⟩
          · subst e1
            refine ⟨_, dx, rfl, rfl, fun p hp => ?_⟩
            obtain ⟨x2, w2, fz⟩ := new_frz (o := EXO (T C) dx p) a'.w hp
            have a2 := (a'.ext x2 w2).set (i := i) (d := .exn C fs) (v := .ref p) ⟨p, dx, vs, rfl, fz, x2.frz _ _ hx, RepF.mono x2.cells x2.frz _ _ hr⟩
            refine ⟨ρ', S', Z0, Z', _, a2, ?_⟩
            have xe : ExtS ρ Z0 Z H ρ' Z' (upd H' p (EXO (T C) dx p)) := xs.trans (x2.s a'.o.sub)
            change GoodS T X.K W B ρ Z0 Z H (sDrop i (G (e.set i (.val (.exn C fs))) S')) at g
            cases hG : G (e.set i (.val (.exn C fs))) S' with
            | stuck =>
              rw [hG] at g
              exact g
            | exc C' fs' S2 =>
              rw [hG] at g
              exact g
            | ok fl2 S2 =>
              rw [hG] at g
              cases fl2 with
              | nx e2 => exact fun σ3 H3 ρ3 Z3 x3 a3 => (show GoodF T X.K W B ρ Z0 Z H S2 (.nx (e2.set i .un)) from g) _ H3 ρ3 Z3 (xe.trans x3) (a3.unset i)
              | bk e2 => exact fun σ3 H3 ρ3 Z3 x3 a3 => (show GoodF T X.K W B ρ Z0 Z H S2 (.bk (e2.set i .un)) from g) _ H3 ρ3 Z3 (xe.trans x3) (a3.unset i)
              | ct e2 => exact fun σ3 H3 ρ3 Z3 x3 a3 => (show GoodF T X.K W B ρ Z0 Z H S2 (.ct (e2.set i .un)) from g) _ H3 ρ3 Z3 (xe.trans x3) (a3.unset i)
              | rt d => exact fun v H3 ρ3 Z3 x3 => (show GoodF T X.K W B ρ Z0 Z H S2 (.rt d) from g) v H3 ρ3 Z3 (xe.trans x3)
              | xc e2 C' fs' => exact g.elim
          · subst e1
            exact (show GoodF T X.K W B ρ Z0 Z H S' (.xc e C fs) from g) σ' dx vs H' ρ' Z' xs a' hx hr
end
end HT
set_option Elab.async false
set_option linter.all false
set_option maxRecDepth 100000
set_option maxHeartbeats 800000
namespace HT
open PySem PySem.Spec L2
open PyProof.Rows hiding St

/-! ### isinstance -/
inductive Ty where
  | b (n : String) | own (C : Str) | exc (C : Str)
def tyD (S : Sto) : D → Option Ty
  | .non => some (.b "NoneType")
  | .bl _ => some (.b "bool")
  | .int _ => some (.b "int")
  | .str _ => some (.b "str")
  | .lst _ => some (.b "list")
  | .klst _ => some (.b "list")
  | .tup _ => some (.b "tuple")
  | .dK _ => some (.b "dict")
  | .dT _ => some (.b "dict")
  | .obj C _ => some (.own C)
  | .exn C _ => some (.exc C)
  | .cell k => (match S[k]? with
    | some (.lst _) => some (.b "list")
    | some (.dK _) => some (.b "dict")
    | some (.dT _) => some (.b "dict")
    | some (.ins C _) => some (.own C)
    | none => none)
  | _ => none
/-- what an own class must say -/
structure ObC (K : PySem.W.Frag) (C : Addr) : Prop where
  cl : Cls K C
  ha : PySem.W.findIn K (.ref C) "__class__" = some (some (.builtin "object.__class__"))
  hn : PySem.W.specialIn K (.builtin "object.__class__") "__get__" = some (some (.builtin "getset_descriptor.__get__"))
  ht : PySem.W.takesIn K (.builtin "object.__class__") = some true
  hm : PySem.W.mroIn K C (.type "object") = some true
/-- the answers for a class, by the value's type -/
structure IsTb (T : Str → Addr) (K : PySem.W.Frag) (cv : Value) (tb : Ty → Option Bool) : Prop where
  b : ∀ n r, tb (.b n) = some r → PySem.W.kitOne K (.type n) cv = some r
  own : ∀ C r, tb (.own C) = some r → ObC K (T C) ∧ PySem.W.kitOne K (.ref (T C)) cv = some r
  exc : ∀ C r, tb (.exc C) = some r → ExcC K (T C) ∧ PySem.W.kitOne K (.ref (T C)) cv = some r
inductive ClsD where
  | ty (n : String) | own (C : Str)
def ClsD.is (c : ClsD) (d : D) : Bool := match c, d with
  | .ty n, .ty m => n == m
  | .own C, .glob x => C == x
  | _, _ => false
def ClsD.val (T : Str → Addr) : ClsD → Value
  | .ty n => .type n
  | .own C => .ref (T C)
def gIsi (tb : Ty → Option Bool) (c : ClsD) (x y : D) : Cm D := fun S => if c.is y = true then (match tyD S x with
  | some t => (match tb t with
    | some r => .ok (.bl r) S
    | none => .stuck)
  | none => .stuck) else .stuck
section
variable {T : Str → Addr} {X : Cx}
/-- isinstance of an error -/
def rIsx (K : PySem.W.Frag) : List V → Hp → VK → Prop := fun xs H Q => ∃ (a dx C : Addr) (fs : List (Str × V)) (c : V) (u : Value) (b : Bool), xs = [.ref a, c] ∧ H a = some (EXO C dx a) ∧ H dx = some (.xd fs) ∧ ExcC K C ∧ ClsV c u ∧ PySem.W.kitOne K (.ref C) u = some b ∧ Q (.bl b) H
theorem exo_get {pins : List (Addr × Obj)} {σ : St} {H : Hp} {s : Shared} {a C dx : Addr} {fs : List (Str × V)} (I : Inv X pins σ H s) (ha : H a = some (EXO C dx a)) (hx : H dx = some (.xd fs)) :
    ∃ (oe od : Obj) (mA : Str → Option Value), PySem.W.InstAt s.heap a oe C (some od) ∧ (∀ f, PySem.W.lookIn f od = some (mA f)) ∧ ∀ f, RelO (fs.lookup f) (mA f) := by
  obtain ⟨⟨oe, vs, h1, h2, h3⟩, _, _⟩ := (show ObjOk X.prog X.w H s.heap a (EXO C dx a) from I.hok a _ ha)
  have hx2 : ObjOk X.prog X.w H s.heap dx (.xd fs) := I.hok dx _ hx
  obtain ⟨mA, hns, hr⟩ := hx2
  obtain ⟨od, ho, hl⟩ := lookIn_ns hns
  exact ⟨oe, od, mA, ⟨h1, h2.1, by unfold PySem.W.notCls; rw [h3] <;> rfl, by rw [h2.2]; exact ho⟩, hl, hr⟩
theorem call_isx : CallR X (.builtin "isinstance") (rIsx X.K) := by
  intro pins s σ H xs us Q I r h
  obtain ⟨a, dx, C, fs, c, u, b, rfl, ha, hx, hc, k, e, q⟩ := h
  obtain ⟨u1, u2, rfl, r1, r2⟩ := vals2 r
  have e2 := k.eq r2
  subst e2
  cases r1
  obtain ⟨oe, od, mA, J, _, _⟩ := exo_get I ha hx
  obtain ⟨cd, hcd, _⟩ := PySem.W.any_some hc.hd
  exact PySem.W.kia_one (PySem.W.kitx_exc (by rw [hcd]; rfl) hc.hg hc.hk hc.hs hc.ha hc.hn hc.ht hc.hm) I.kIn J e (fun z => nomatch z) fun tk => ⟨.bl b, H, I.tok tk, rfl, q⟩
theorem call_isi2 : CallR X (.builtin "isinstance") (fun xs H Q => rIsi X.K xs H Q ∨ rIsx X.K xs H Q) := by
  intro pins s σ H xs us Q I r h
  rcases h with h | h
  · exact call_isi pins s σ H xs us Q I r h
  · exact call_isx pins s σ H xs us Q I r h
theorem seqL_ty {K : PySem.W.Frag} {H : Hp} {a : Addr} {xs : List V} (h : SqL K H a xs) : TyX K H (.ref a) (.type "list") := by
  rcases h with (h | ⟨o, h⟩) | ⟨o, its, n, h1, h2, _⟩
  · exact .base (.lst h)
  · exact .base (.frz h)
  · exact .kList h1 h2
theorem seqT_ty {K : PySem.W.Frag} {H : Hp} {a : Addr} {xs : List V} (h : SqT K H a xs) : TyX K H (.ref a) (.type "tuple") := by
  rcases h with (h | ⟨o, h⟩) | ⟨o, its, n, h1, h2, _⟩
  · exact .base (.tup h)
  · exact .fTuple h
  · exact .kTuple h1 h2
theorem ok_gIsi {tb : Ty → Option Bool} {c : ClsD} (tbl : IsTb T X.K (c.val T) tb) : OpN T X (fun xs H Q => rIsi X.K xs H Q ∨ rIsx X.K xs H Q) (a2 (gIsi tb c)) := opN2 fun W σ ρ S Z H x y v u Q w r1 r2 g => by
  unfold gIsi at g
  split at g
  · rename_i hc
    have hcv : ClsV u (c.val T) := by
      cases c with
      | ty n =>
        cases y with
        | ty m =>
          have e : n = m := eq_of_beq (show (n == m) = true from hc)
          subst e
          have e2 : u = .ty n := r2
          subst e2
          exact .ty n
        | _ => cases hc
      | own C =>
        cases y with
        | glob m =>
          have e : C = m := eq_of_beq (show (C == m) = true from hc)
          subst e
          have e2 : u = .ref (T C) := r2
          subst e2
          exact .own (T C)
        | _ => cases hc
    cases ht : tyD S x with
    | none =>
      rw [ht] at g
      exact g.elim
    | some t =>
      rw [ht] at g
      dsimp only at g
      cases hb : tb t with
      | none =>
        rw [hb] at g
        exact g.elim
      | some b =>
        rw [hb] at g
        have fin : Q (.bl b) H := g _ H ρ .refl w rfl
        have plain : ∀ (n : String), t = .b n → TyX X.K H v (.type n) → rIsi X.K [v, u] H Q := fun n e ty => by
          subst e
          exact ⟨v, u, _, _, b, rfl, hcv, ty, tbl.b n b hb, fin⟩
        have owned : ∀ (C : Str) (a dx : Addr) (fs : List (Str × V)), t = .own C → v = .ref a → H a = some (.ins (T C) dx fs) → rIsi X.K [v, u] H Q := fun C a dx fs e ev ha => by
          subst e ev
          obtain ⟨o1, o2⟩ := tbl.own C b hb
          exact ⟨_, u, _, _, b, rfl, hcv, .base (.ins ha o1.cl o1.ha o1.hn o1.ht o1.hm), o2, fin⟩
        cases x with
        | non =>
          cases ht
          have e : v = .non := r1
          subst e
          exact .inl (plain _ rfl (.base .non))
        | bl k =>
          cases ht
          have e : v = .bl k := r1
          subst e
          exact .inl (plain _ rfl (.base (.bl k)))
        | int k =>
          cases ht
          have e : v = .int k := r1
          subst e
          exact .inl (plain _ rfl (.base (.int k)))
        | str k =>
          cases ht
          have e : v = .str k := r1
          subst e
          exact .inl (plain _ rfl (.base (.str k)))
        | lst ds =>
          cases ht
          obtain ⟨a, vs, rfl, q, _⟩ := r1
          exact .inl (plain _ rfl (.base (.lst (Fz_sub _ _ q))))
        | klst ds =>
          cases ht
          obtain ⟨a, vs, rfl, q, _⟩ := r1
          exact .inl (plain _ rfl (seqL_ty (Fz_sub.seqL q)))
        | tup ds =>
          cases ht
          obtain ⟨a, vs, rfl, q, _⟩ := r1
          exact .inl (plain _ rfl (seqT_ty (Fz_sub.seqT q)))
        | dK kvs =>
          cases ht
          obtain ⟨a, vs, rfl, q, _⟩ := r1
          exact .inl (plain _ rfl (.base (.dK (Fz_sub _ _ q))))
        | dT kvs =>
          cases ht
          obtain ⟨a, vs, rfl, q, _⟩ := r1
          exact .inl (plain _ rfl (.base (.dT (Fz_sub _ _ q))))
        | obj C fs =>
          cases ht
          obtain ⟨a, dx, vs, rfl, q, _⟩ := r1
          exact .inl (owned C a dx vs rfl rfl (Fz_sub _ _ q))
        | exn C fs =>
          cases ht
          obtain ⟨a, dx, vs, rfl, q, q2, _⟩ := r1
          obtain ⟨o1, o2⟩ := tbl.exc C b hb
          exact .inr ⟨a, dx, T C, vs, u, _, b, rfl, Fz_sub _ _ q, Fz_sub _ _ q2, o1, hcv, o2, fin⟩
        | cell k =>
          obtain ⟨a, rfl, q⟩ := r1
          cases hk : S[k]? with
          | none =>
            have ht2 : (match S[k]? with | some (.lst _) => some (Ty.b "list") | some (.dK _) => some (.b "dict") | some (.dT _) => some (.b "dict") | some (.ins C _) => some (.own C) | none => none) = some t := ht
            rw [hk] at ht2
            cases ht2
          | some co =>
            have ht2 : (match S[k]? with | some (.lst _) => some (Ty.b "list") | some (.dK _) => some (.b "dict") | some (.dT _) => some (.b "dict") | some (.ins C _) => some (.own C) | none => none) = some t := ht
            rw [hk] at ht2
            obtain ⟨a', o, h1, h2, h3, h4⟩ := w.cells k co hk
            rw [q] at h1
            cases h1
            cases co with
            | lst ds =>
              cases ht2
              obtain ⟨vs, rfl, _⟩ := h4
              exact .inl (plain _ rfl (.base (.lst h3)))
            | dK ds =>
              cases ht2
              obtain ⟨vs, rfl, _⟩ := h4
              exact .inl (plain _ rfl (.base (.dK h3)))
            | dT ds =>
              cases ht2
              obtain ⟨vs, rfl, _⟩ := h4
              exact .inl (plain _ rfl (.base (.dT h3)))
            | ins C fs =>
              cases ht2
              obtain ⟨dx, vs, rfl, _⟩ := h4
              exact .inl (owned C a dx vs rfl rfl h3)
        | glob x => cases ht
        | ty n => cases ht
  · exact g.elim
/-- names of classes -/
theorem pf_tyName {W : WX} {x : Str} {n : String} {pos : Pos} (hg : Gl X x) (hm : X.mg x = none) (hv : bootBuiltins x = some (.type n)) (hn : x ≠ "__name__" := by decide) (hd : (x == ("__debug__" : Str)) = false := by decide) : PF T X W (.Name x pos) (fun _ => pure (.ty n)) :=
  pf_const (pe_bltn hg hm hv (show RelV (.ty n) (.type n) from rfl) hn hd) fun _ _ => rfl
theorem pf_clsName {W : WX} {x : Str} {pos : Pos} (hg : Gl X x) (hm : X.mg x = some (.ref (T x))) (hd : (x == ("__debug__" : Str)) = false := by decide) : PF T X W (.Name x pos) (fun _ => pure (.glob x)) :=
  pf_const (pe_glob hg hm (show RelV (.ref (T x)) (.ref (T x)) from rfl) hd) fun _ _ => rfl

/-! ### fields -/
/-- o.f of an object of one of the classes cs -/
def fldOf (cs : List Str) (f : Str) (c : CO) : Cm D := fun S' => match c with
  | .ins C fs => if C ∈ cs then (match fs.lookup f with
    | some d => .ok d S'
    | none => .stuck) else .stuck
  | _ => .stuck
def fFld (cs : List Str) (f : Str) (Fo : Env → Cm CO) : FE := fun env S => (Fo env S).bnd (fldOf cs f)
theorem pf_fld {W : WX} {e : Expr} {f : Str} {Fo : Env → Cm CO} {cs : List Str} {pos : Pos} (he : VF T X W e Fo) (hc : ∀ C ∈ cs, Cls X.K (T C) ∧ NoAttr X.K (T C) f) (hb : attributeBase e f X.env (eval e X.env) = eval e X.env := by rfl) : PF T X W (.Attribute e f pos) (fFld cs f Fo) :=
  pe_imp (pe_fld he hb) fun σ H Q q => by
    obtain ⟨ρ, S, Z, env, w, er, g⟩ := q
    refine ⟨ρ, S, Z, env, w, er, ?_⟩
    unfold fFld at g
    cases hF : Fo env S with
    | stuck =>
      rw [hF] at g
      exact g
    | exc C fs S' =>
      rw [hF] at g
      exact g
    | ok c S' =>
      rw [hF] at g
      change Good T X.K (rD T X.K) W σ Q ρ Z H (fldOf cs f c S') at g
      unfold fldOf at g
      intro a o H' ρ' x w' ha hO
      cases c with
      | ins C fs =>
        dsimp only at g
        split at g
        · rename_i hm
          cases hl : fs.lookup f with
          | none =>
            rw [hl] at g
            exact g.elim
          | some d =>
            rw [hl] at g
            obtain ⟨dx, vs, rfl, rf⟩ := hO
            obtain ⟨v, h1, h2⟩ := rf.look hl
            exact ⟨a, T C, dx, vs, v, rfl, ha, (hc C hm).1, (hc C hm).2, h1, g v H' ρ' x w' h2⟩
        · exact g.elim
      | _ => exact g.elim
/-- e.f of an error -/
def fXf (cs : List Str) (f : Str) (Fo : FE) : FE := fun env S => (Fo env S).bnd fun d S' => match d with
  | .exn C fs => if C ∈ cs then (match fs.lookup f with
    | some d => .ok d S'
    | none => .stuck) else .stuck
  | _ => .stuck
theorem pf_xf {W : WX} {e : Expr} {f : Str} {Fo : FE} {cs : List Str} {pos : Pos} (he : PF T X W e Fo) (hc : ∀ C ∈ cs, XfC X.K (T C) ∧ PySem.W.findIn X.K (.ref (T C)) f = some none) (hb : attributeBase e f X.env (eval e X.env) = eval e X.env := by rfl) : PF T X W (.Attribute e f pos) (fXf cs f Fo) := by
  refine ⟨fun pins s σ H Q I h => ?_⟩
  obtain ⟨ρ, S, Z, env, w, er, g⟩ := h
  refine attr_of hb (thn (he.run pins s σ H _ I (lift_bnd w er g)) fun u s1 ⟨v, H1, I1, rx, ρ1, S1, d1, x1, w1, e1, r1, g1⟩ => ?_)
  cases d1 with
  | exn C fs =>
    dsimp only at g1
    split at g1
    · rename_i hm
      cases hl : fs.lookup f with
      | none =>
        rw [hl] at g1
        exact g1.elim
      | some d =>
        rw [hl] at g1
        obtain ⟨a, dx, vs, rfl, q1, q2, rf⟩ := r1
        obtain rfl : u = Value.ref a := rx
        obtain ⟨y, h1, h2⟩ := rf.look hl
        obtain ⟨oe, od, mA, J, hlk, hr⟩ := exo_get I1 (Fz_sub _ _ q1) (Fz_sub _ _ q2)
        obtain ⟨t, hno⟩ := hc C hm
        obtain ⟨u2, hu, ru⟩ := RelO.some_of (v := y) (o := mA f) (by rw [← h1]; exact hr f)
        exact HandSPX.exc_get I1.kIn J t.ga t.gg t.exC (PySem.W.findObj_own t.hdC hno rfl (by rw [hlk, hu])) (handed_of ru) ⟨y, H1, I1.tok _, ru, g1 y H1 ρ1 .refl w1 h2⟩
    · exact g1.elim
  | _ => exact g1.elim
end
end HT
set_option Elab.async false
set_option linter.all false
set_option maxRecDepth 100000
set_option maxHeartbeats 800000
namespace HT
open PySem PySem.Spec L2
open PyProof.Rows hiding St

/-! ### own objects are changed -/
section
variable {T : Str → Addr} {K : PySem.W.Frag} {ρ : Nat → Option Addr} {S : Sto} {Z0 Z : Hid} {H : Hp} {σ : St} {env : Env} {i : Nat} {c0 c : CO} {o : HO}
/-- a hidden object is changed: the env's slots but the i-th stand as they stood -/
theorem ER.hid1 {p : Addr} (e : ER T K ρ Z H σ env) (hp : Z p) (hi : i < env.length) {s : Sl} (h1 : ∀ c', s = .own c' → σ[i]? = some (some (V.ref p)) ∧ HObj T K ρ (Fz ρ Z H) c' o) (h2 : ∀ c', s = .slf c' → p = Z.me ∧ σ[i]? = some (some (V.ref p)) ∧ HObj T K ρ (Fz ρ Z H) c' o) (h3 : ∀ d, s ≠ .val d)
    (n1 : ∀ j c', j ≠ i → env[j]? = some (.own c') → σ[j]? ≠ some (some (V.ref p))) (n2 : ∀ j c', j ≠ i → env[j]? = some (.slf c') → p ≠ Z.me) : ER T K ρ Z (upd H p o) σ (env.set i s) := by
  have hF : Fz ρ Z (upd H p o) = Fz ρ Z H := fz_hid hp
  have at_ : ∀ {j : Nat} {x : Sl}, (env.set i s)[j]? = some x → (j = i ∧ x = s) ∨ (j ≠ i ∧ env[j]? = some x) := fun {j x} h => by
    by_cases hj : i = j
    · subst hj
      rw [List.getElem?_set_self hi] at h
      exact .inl ⟨rfl, (Option.some.inj h).symm⟩
    · rw [List.getElem?_set_ne hj] at h
      exact .inr ⟨Ne.symm hj, h⟩
  refine ⟨fun j d h => ?_, fun j c' h => ?_, fun j c' h => ?_, by rw [List.length_set]; exact e.len⟩
  · rcases at_ h with ⟨_, q⟩ | ⟨_, q⟩
    · exact absurd q.symm (h3 d)
    · rw [hF]
      exact e.val j d q
  · rcases at_ h with ⟨rfl, q⟩ | ⟨hj, q⟩
    · obtain ⟨q1, q2⟩ := h1 c' q.symm
      exact ⟨p, o, q1, hp, upd_same, by rw [hF]; exact q2⟩
    · obtain ⟨a, u, q1, q2, q3, q4⟩ := e.own j c' q
      have na : a ≠ p := fun z => n1 j c' hj q (by rw [q1, z])
      exact ⟨a, u, q1, q2, by rw [upd_ne na]; exact q3, by rw [hF]; exact q4⟩
  · rcases at_ h with ⟨rfl, q⟩ | ⟨hj, q⟩
    · obtain ⟨q0, q1, q2⟩ := h2 c' q.symm
      subst q0
      exact ⟨o, q1, hp, upd_same, by rw [hF]; exact q2⟩
    · obtain ⟨u, q1, q2, q3, q4⟩ := e.slf j c' q
      exact ⟨u, q1, q2, by rw [upd_ne (Ne.symm (n2 j c' hj q))]; exact q3, by rw [hF]; exact q4⟩
theorem set_old {s : Sl} {j : Nat} {x : Sl} (h : (env.set i s)[j]? = some x) : (j = i ∧ x = s ∧ i < env.length) ∨ (j ≠ i ∧ env[j]? = some x) := by
  by_cases hj : i = j
  · subst hj
    have hi : i < env.length := by
      have := (List.getElem?_eq_some_iff.mp h).1
      rw [List.length_set] at this
      exact this
    rw [List.getElem?_set_self hi] at h
    exact .inl ⟨rfl, (Option.some.inj h).symm, hi⟩
  · rw [List.getElem?_set_ne hj] at h
    exact .inr ⟨Ne.symm hj, h⟩
/-- the object under __init__ is changed -/
theorem At.putSlf (a : At T K ρ S Z0 Z H σ env) (h0 : env[i]? = some (.slf c0)) (h : HObj T K ρ (Fz ρ Z H) c o) : ExtS ρ Z0 Z H ρ Z (upd H Z.me o) ∧ At T K ρ S Z0 Z (upd H Z.me o) σ (env.set i (.slf c)) := by
  obtain ⟨o0, e1, e2, e3, e4⟩ := a.e.slf i c0 h0
  have hi : i < env.length := (List.getElem?_eq_some_iff.mp h0).1
  refine ⟨⟨fun _ _ q => q, fun b u q => by rw [fz_hid e2]; exact q, fun b z => upd_ne fun q => a.o.slf i c0 h0 (q ▸ z)⟩, a.w.hid e2, ?_, a.o.sub, fun j c' b q1 q2 => ?_, fun j k c1 c2 b q1 q2 q3 q4 => ?_, a.o.me, fun j c' q1 => ?_, fun j k c1 c2 b q1 q2 q3 => ?_, fun j k c1 c2 q1 q2 => ?_⟩
  · refine a.e.hid1 e2 hi (fun c' z => nomatch z) (fun c' z => ?_) (fun d z => nomatch z) (fun j c' hj q z => ?_) (fun j c' hj q => ?_)
    · cases z
      exact ⟨rfl, e1, h⟩
    · exact a.o.apart2 j i c' c0 _ q h0 z rfl
    · exact absurd (a.o.one j i c' c0 q h0) hj
  · rcases set_old q1 with ⟨_, q, _⟩ | ⟨_, q⟩
    · cases q
    · exact a.o.own j c' b q q2
  · rcases set_old q1 with ⟨_, q, _⟩ | ⟨_, q⟩
    · cases q
    · rcases set_old q2 with ⟨_, q', _⟩ | ⟨_, q'⟩
      · cases q'
      · exact a.o.apart j k c1 c2 b q q' q3 q4
  · exact a.o.slf i c0 h0
  · rcases set_old q1 with ⟨_, q, _⟩ | ⟨_, q⟩
    · cases q
    · exact a.o.apart2 j i c1 c0 b q h0 q3
  · rcases set_old q1 with ⟨q, _, _⟩ | ⟨q, q'⟩
    · rcases set_old q2 with ⟨r, _, _⟩ | ⟨r, r'⟩
      · rw [q, r]
      · exact absurd (a.o.one k i c2 c0 r' h0) r
    · exact absurd (a.o.one j i c1 c0 q' h0) q
/-- an own object is changed -/
theorem At.putOwn {p : Addr} (a : At T K ρ S Z0 Z H σ env) (h0 : env[i]? = some (.own c0)) (hp : σ[i]? = some (some (V.ref p))) (h : HObj T K ρ (Fz ρ Z H) c o) : ExtS ρ Z0 Z H ρ Z (upd H p o) ∧ At T K ρ S Z0 Z (upd H p o) σ (env.set i (.own c)) := by
  obtain ⟨zp, nz⟩ := a.o.own i c0 p h0 hp
  have hi : i < env.length := (List.getElem?_eq_some_iff.mp h0).1
  have hold : ∀ {j : Nat} {c' : CO}, (env.set i (.own c))[j]? = some (.own c') → ∃ c1, env[j]? = some (.own c1) := fun {j c'} q => by
    rcases set_old q with ⟨rfl, _, _⟩ | ⟨_, q'⟩
    · exact ⟨c0, h0⟩
    · exact ⟨c', q'⟩
  have holdS : ∀ {j : Nat} {c' : CO}, (env.set i (.own c))[j]? = some (.slf c') → env[j]? = some (.slf c') := fun {j c'} q => by
    rcases set_old q with ⟨_, q', _⟩ | ⟨_, q'⟩
    · cases q'
    · exact q'
  refine ⟨⟨fun _ _ q => q, fun b u q => by rw [fz_hid zp]; exact q, fun b z => upd_ne fun q => nz (q ▸ z)⟩, a.w.hid zp, ?_, a.o.sub, fun j c' b q1 q2 => ?_, fun j k c1 c2 b q1 q2 q3 q4 => ?_, a.o.me, fun j c' q1 => a.o.slf j c' (holdS q1), fun j k c1 c2 b q1 q2 q3 => ?_, fun j k c1 c2 q1 q2 => a.o.one j k c1 c2 (holdS q1) (holdS q2)⟩
  · refine a.e.hid1 zp hi (fun c' z => ?_) (fun c' z => nomatch z) (fun d z => nomatch z) (fun j c' hj q z => ?_) (fun j c' hj q => ?_)
    · cases z
      exact ⟨hp, h⟩
    · exact hj (a.o.apart j i c' c0 p q h0 z hp)
    · exact a.o.apart2 i j c0 c' p h0 q hp
  · obtain ⟨c1, q⟩ := hold q1
    exact a.o.own j c1 b q q2
  · obtain ⟨x1, q⟩ := hold q1
    obtain ⟨x2, q'⟩ := hold q2
    exact a.o.apart j k x1 x2 b q q' q3 q4
  · obtain ⟨x1, q⟩ := hold q1
    exact a.o.apart2 j k x1 c2 b q (holdS q2) q3
end

/-! ### self.f = e within __init__ -/
def sFldS (i : Nat) (cs : List Str) (f : Str) (F : FE) : FS := fun env S => sB env (F env S) fun d S' => match env[i]? with
  | some (.slf (.ins C fs)) => if C ∈ cs ∧ fs.length < 1000 then .ok (.nx (env.set i (.slf (.ins C (putD f d fs))))) S' else .stuck
  | _ => .stuck
section
variable {T : Str → Addr} {X : Cx} {W : WX} {x f : Str} {i : Nat} {cs : List Str} {value : Expr} {F : FE} {p pos pos' : Pos}
theorem sf_fldS (hx : PE X (.Name x p) (tVar i)) (hv : PF T X W value F) (hc : ∀ C ∈ cs, Cls X.K (T C) ∧ NoAttr X.K (T C) f) (hs : swapsWith value (some (.Attribute (.Name x p) f pos')) pos.line X.env = pure false := by rfl) :
    SF T X W (.Assign [.Attribute (.Name x p) f pos'] value pos) (sFldS i cs f F) := ps_imp (ps_fld hx hv hs) fun B σ H q => by
  obtain ⟨ρ, S, Z0, Z, env, a, g⟩ := q
  refine lift_imp (lift_sB a g) fun v H1 ⟨ρ1, S1, d, x1, a1, r1, g1⟩ => ?_
  split at g1
  · rename_i C fs h0
    split at g1
    · rename_i hm
      obtain ⟨o, e1, e2, e3, e4⟩ := a1.e.slf i _ h0
      obtain ⟨dx, vs, rfl, rf⟩ := e4
      obtain ⟨xs, as⟩ := a1.putSlf (c := .ins C (putD f d fs)) (o := .ins (T C) dx (putF f v vs)) h0 ⟨dx, _, rfl, rf.put r1⟩
      exact ⟨_, e1, Z.me, T C, dx, vs, rfl, e3, (hc C hm.1).1, (hc C hm.1).2, by rw [← rf.len]; exact hm.2, (show GoodF T X.K W B ρ1 Z0 Z H1 S1 (.nx _) from g1) σ _ ρ1 Z xs as⟩
    · exact g1.elim
  · exact g1.elim
end

/-! ### C(..), its __init__ -/
/-- an __init__'s promise -/
def spI (T : Str → Addr) (K : PySem.W.Frag) (C : Str) (M : List D → Cm CO) (vs : List V) (H : Hp) (Q : VK) (E : XK) : Prop := ∃ ρ S Z H0 x dx rest ds, ∃ Qo : VK, vs = .ref x :: rest ∧ H0 x = none ∧ H0 dx = none ∧ dx ≠ x ∧
  H = upd (upd H0 dx (.own x)) x (.ins (T C) dx []) ∧ Wd T K ρ S Z H0 ∧ RepL T K ρ (Fz ρ Z H0) ds rest ∧ GoodO T K (fun c d _ H' => E c d H') [] Qo ρ Z H0 (M ds S) ∧ ∀ H2, Qo (.ref x) H2 → Q .non H2
structure FI (P : Program) (w : World) (K : PySem.W.Frag) (mg : Str → Option Value) (base : Heap) (T : Str → Addr) (k : Nat) (f : Addr) (fd : FuncData) (ps : List Str) (C : Str) (M : List D → Cm CO) : Prop where
  len : ∀ ds S, ds.length + 1 ≠ ps.length → M ds S = .stuck
  run : ∀ (A : Around) (outer : List PySem.Env) (s : Shared) (H : Hp) (args : Args) (us : List Value) (vs : List V) (Q : VK) (E : XK), Lv k A → Env0 P w K mg base A outer s H → BindsTo s fd args (ps.zip us) → Vals vs us → vs.length = ps.length → spI T K C M vs H Q E →
    codeAny (model P w) A (.call (.ref f) args) (CR (L2.CX P w) outer P w H s Q E) s
/-- what is left of the object: slot 0 -/
def selfOf : Env → Option CO
  | .slf c :: _ => some c
  | _ => none
def mkI (np n : Nat) (C : Str) (F : FS) (ds : List D) : Cm CO := fun S => if ds.length + 1 = np then (match F (.slf (.ins C []) :: (ds.map .val ++ List.replicate (n - np) .un)) S with
  | .ok (.nx e) S' => (match selfOf e with
    | some c => .ok c S'
    | none => .stuck)
  | .ok (.xc _ C' fs) S' => .exc C' fs S'
  | _ => .stuck) else .stuck
def Hid.at (Z : Hid) (x : Addr) : Hid := ⟨fun a => Z a ∨ a = x, x⟩
theorem fi_start {T : Str → Addr} {K : PySem.W.Frag} {ρ : Nat → Option Addr} {S : Sto} {Z : Hid} {H0 H : Hp} {x dx : Addr} {C : Str} {ds : List D} {rest : List V} {N : List Str} (w : Wd T K ρ S Z H0) (hx : H0 x = none) (hd : H0 dx = none) (ne : dx ≠ x)
    (eH : H = upd (upd H0 dx (.own x)) x (.ins (T C) dx [])) (r : RepL T K ρ (Fz ρ Z H0) ds rest) (hl : rest.length + 1 ≤ N.length) :
    ExtS ρ Z Z H0 ρ (Z.at x) H ∧ At T K ρ S ⟨Z.set, x⟩ (Z.at x) H (L2.start N (.ref x :: rest)) (.slf (.ins C []) :: (ds.map .val ++ List.replicate (N.length - (ds.length + 1)) .un)) := by
  obtain ⟨x1, w1, f1⟩ := new_frz (o := .own x) w hd
  have hx1 : upd H0 dx (.own x) x = none := by rw [upd_ne (Ne.symm ne)]; exact hx
  have n := new_neu (c := .ins C []) (o := .ins (T C) dx []) w1 hx1 ⟨dx, [], rfl, rfl⟩
  rw [← eH] at n
  have w2 : Wd T K ρ S (Z.at x) H := ⟨n.w.dom, n.w.cells, n.w.inj, n.w.there⟩
  have fz : Fz ρ (Z.at x) H = Fz ρ (plusZ Z x) H := rfl
  have sub : Sub (Fz ρ Z H0) (Fz ρ (Z.at x) H) := fun a o h => n.frz a o (x1.frz a o h)
  have r2 : RepL T K ρ (Fz ρ (Z.at x) H) ds rest := RepL.mono (fun _ _ h => h) sub _ _ r
  have hv := r.len
  obtain ⟨o, ho, hO⟩ := n.obj
  refine ⟨⟨fun _ _ h => h, sub, fun a z => (n.hid a z).trans (x1.hid a z)⟩, w2, ⟨fun i d h => ?_, fun i c h => ?_, fun i c h => ?_, ?_⟩, fun a z => .inl z, fun i c a h => ?_, fun i j c c' a h => ?_, rfl, fun i c h => n.nz, fun i j c c' a h => ?_, fun i j c c' h1 h2 => ?_⟩
  · cases i with
    | zero => cases h
    | succ i =>
      rw [List.getElem?_cons_succ] at h
      by_cases hi : i < ds.length
      · rw [List.getElem?_append_left (by simpa using hi), List.getElem?_map] at h
        cases e : ds[i]? with
        | none =>
          rw [e] at h
          cases h
        | some d' =>
          rw [e] at h
          cases h
          obtain ⟨v, h1, h2⟩ := r2.get e
          refine ⟨v, ?_, h2⟩
          unfold L2.start
          have hi2 : i < rest.length := (List.getElem?_eq_some_iff.mp h1).1
          rw [List.getElem?_append_left (by simp; omega), List.getElem?_map, List.getElem?_cons_succ, h1]
          rfl
      · rw [List.getElem?_append_right (by simpa using hi), List.getElem?_replicate] at h
        split at h
        · cases h
        · cases h
  · cases i with
    | zero => cases h
    | succ i =>
      rw [List.getElem?_cons_succ] at h
      rcases no_mapped h with e | ⟨d, e⟩ <;> cases e
  · cases i with
    | zero =>
      cases h
      refine ⟨o, ?_, .inr rfl, ho, hO⟩
      unfold L2.start
      rfl
    | succ i =>
      rw [List.getElem?_cons_succ] at h
      rcases no_mapped h with e | ⟨d, e⟩ <;> cases e
  · unfold L2.start
    rw [List.length_cons, List.length_append, List.length_append, List.length_map, List.length_map, List.length_replicate, List.length_replicate, List.length_cons, hv]
    omega
  · cases i with
    | zero => cases h
    | succ i =>
      rw [List.getElem?_cons_succ] at h
      rcases no_mapped h with e | ⟨d, e⟩ <;> cases e
  · cases i with
    | zero => cases h
    | succ i =>
      rw [List.getElem?_cons_succ] at h
      rcases no_mapped h with e | ⟨d, e⟩ <;> cases e
  · cases i with
    | zero => cases h
    | succ i =>
      rw [List.getElem?_cons_succ] at h
      rcases no_mapped h with e | ⟨d, e⟩ <;> cases e
  · have z : ∀ {i : Nat} {c : CO}, (Sl.slf (.ins C []) :: (ds.map Sl.val ++ List.replicate (N.length - (ds.length + 1)) .un))[i]? = some (.slf c) → i = 0 := fun {i c} h => by
      cases i with
      | zero => rfl
      | succ i =>
        rw [List.getElem?_cons_succ] at h
        rcases no_mapped h with e | ⟨d, e⟩ <;> cases e
    rw [z h1, z h2]
section
variable {P : Program} {w : World} {K : PySem.W.Frag} {mg : Str → Option Value} {base : Heap} {T : Str → Addr} {x qual : Str} {params : Arguments} {body : List Stmt} {scope : Scope} {dvs : List V} {kws : List (Str × V)} {f : Addr} {fd : FuncData} {N ps : List Str} {k : Nat}
theorem fi_of {F : FS} {C : Str} (D : FunD K x qual params body scope dvs kws f fd) (Sc : FnScope N ps scope) {np n : Nat} (hnp : np = ps.length) (hn : n = N.length)
    (h : ∀ (cdv : Value) (A : Around) (outer : List PySem.Env) (s : Shared) (H : Hp) (E : XK), Lv k (A.deeper (envOfC qual scope s.heap.objs.size f cdv)) → SFs T (ctx P w K mg base N qual scope f cdv A outer s H E) (fun c d _ H' => E c d H') body F) :
    FI P w K mg base T (k + 1) f fd ps C (mkI np n C F) := by
  subst hnp hn
  refine ⟨fun ds S hne => by unfold mkI; rw [if_neg hne], ?_⟩
  intro A outer s H args us vs Q E lv ev bd rv hlen hq
  refine ft_core D Sc (sp := fun vs H Q E => vs.length = ps.length ∧ spI T K C (mkI ps.length N.length C F) vs H Q E) (fun cdv A outer s H vs Q E lv hq => ⟨_, h cdv A outer s H E lv, ?_⟩) A outer s H args us vs Q E lv ev bd rv hlen ⟨hlen, hq⟩
  obtain ⟨hlen, ρ, S, Z, H0, y, dx, rest, ds, Qo, rfl, hx, hd, ne, eH, w', r, g, fin⟩ := hq
  have hds : ds.length + 1 = ps.length := by
    rw [← hlen, List.length_cons, r.len]
  have hle : rest.length + 1 ≤ N.length := by
    have := congrArg List.length Sc.pre
    rw [List.length_take] at this
    rw [← r.len]
    omega
  obtain ⟨xs, a⟩ := fi_start (N := N) w' hx hd ne eH r hle
  rw [hds] at a
  refine ⟨ρ, S, ⟨Z.set, y⟩, Z.at y, _, a, ?_⟩
  unfold mkI at g
  rw [if_pos hds] at g
  cases hF : F (.slf (.ins C []) :: (ds.map Sl.val ++ List.replicate (N.length - ps.length) .un)) S with
  | stuck =>
    rw [hF] at g
    exact g
  | exc C' fs S' =>
    rw [hF] at g
    exact g
  | ok fl S' =>
    rw [hF] at g
    cases fl with
    | nx e =>
      intro σ' H' ρ' Z' x2 a2
      cases e with
      | nil => exact g.elim
      | cons sl er =>
        cases sl with
        | slf c =>
          refine fin H' (g y H' ρ' ?_)
          obtain ⟨o, e1, e2, e3, e4⟩ := a2.e.slf 0 c rfl
          have me : Z'.me = y := a2.o.me
          have big : ∀ b, plusZ Z y b → Z' b := fun b z => by
            rcases z with z | z
            · exact a2.o.sub b z
            · rw [z, ← me]
              exact e2
          rw [me] at e3
          refine ⟨x2.cells, fun b u q => ?_, fun b z => ?_, a2.w.big big, ?_, o, e3, e4.mono (fun _ _ q => q) (fz_big big)⟩
          · exact fz_big big b u (x2.frz b u (xs.frz b u q))
          · exact (x2.hid b z).trans (xs.hid b z)
          · intro z
            obtain ⟨u, q⟩ := w'.there y z
            rw [hx] at q
            cases q
        | _ => exact g.elim
    | rt d => exact g.elim
    | bk e => exact g.elim
    | ct e => exact g.elim
    | xc e C' fs =>
      intro σ' dx' us' H' ρ' Z' x2 a2 q1 q2
      have big : ∀ b, Z b → Z' b := a2.o.sub
      exact g dx' us' H' ρ' ⟨x2.cells, fun b u q => fz_big big b u (x2.frz b u (xs.frz b u q)), fun b z => (x2.hid b z).trans (xs.hid b z)⟩ (a2.w.big big) (fz_big big _ _ q1) (RepF.mono (fun _ _ q => q) (fz_big big) _ _ q2)
end
end HT
set_option Elab.async false
set_option linter.all false
set_option maxRecDepth 100000
set_option maxHeartbeats 800000
namespace HT
open PySem PySem.Spec L2
open PyProof.Rows hiding St

/-! ### C(..) -/
def oMake (M : List D → Cm CO) (dds : List D) (Fa : Env → Cm (List D)) : Env → Cm CO := fun env S => (Fa env S).bnd fun xs => M (xs ++ dds)
section
variable {T : Str → Addr} {X : Cx} {W : WX} {k : Nat} {f : Addr} {fd : FuncData} {ps : List Str} {C : Str} {M : List D → Cm CO} {dvs : List V} {dsv : List Value} {dds : List D} {x : Str} {p pos : Pos} {e : Expr} {es : List Expr} {Fa : Env → Cm (List D)}
theorem Lv.make {k : Nat} {A : Around} (r : Lv (k + 1) A) (C : Addr) (us : List Value) (kw : List (Str × Value)) : Lv k (A.under (.builtin "type.__call__" ⟨.ref C :: us, kw⟩)) :=
  ⟨r.room.make C us kw, by
    have h := r.gd
    first
      | exact h
      | (simpa [Around.under] using h)⟩
theorem run_fi {pins : List (Addr × Obj)} {σ : St} {H : Hp} {s : Shared} {Q : VK} {us : List Value} {vs : List V} {ρ : Nat → Option Addr} {S : Sto} {Z : Hid} {ds : List D} (Mm : Mk X.K (T C) f) (F : FI X.prog X.w X.K X.mg X.base T k f fd ps C M) (lv : Lv (k + 1) X.A) (hb : Binds X.K fd ps dsv) (hd : Vals dvs dsv) (tk : Takes X W)
    (I : Inv X pins σ H s) (r : Vals vs us) (w : Wd T X.K ρ S Z H) (r2 : RepL T X.K ρ (Fz ρ Z H) ds (vs ++ dvs)) (g : GoodO T X.K W σ Q ρ Z H (M ds S)) : wpAny (model X.prog X.w) X.A (call (.ref (T C)) us) (EP X pins σ Q) X.xe s := by
  have hl : ds.length + 1 = ps.length := Classical.byContradiction fun hne => by
    rw [F.len ds S hne] at g
    exact g
  have I2 := Inv.made (C := T C) I
  have r3 : Vals (V.ref (s.heap.objs.size + 1) :: (vs ++ dvs)) (Value.ref (s.heap.objs.size + 1) :: (us ++ dsv)) := .cons rfl (r.append hd)
  have hlv : (V.ref (s.heap.objs.size + 1) :: (vs ++ dvs)).length = ps.length := by rw [List.length_cons, ← r2.len]; exact hl
  have hl2 : (Value.ref (s.heap.objs.size + 1) :: us ++ dsv).length = ps.length := by
    rw [← hlv]
    exact r3.length.symm
  refine wpAny_call (make_map (f := f) I.kIn Mm.makes Mm.init (beq_iff_eq.mp Mm.fn) (codeAny_mono (F.run _ X.stack _ _ ⟨Value.ref (s.heap.objs.size + 1) :: us, []⟩ (Value.ref (s.heap.objs.size + 1) :: (us ++ dsv)) (V.ref (s.heap.objs.size + 1) :: (vs ++ dvs)) (fun v H2 => v = .non ∧ Q (.ref (s.heap.objs.size + 1)) H2) (WE W σ) (lv.make (T C) us [])
    (I2.env0.make (T C) us []) (hb _ (Value.ref (s.heap.objs.size + 1) :: us) I2.kIn hl2) r3 hlv
    ⟨ρ, S, Z, H, s.heap.objs.size + 1, s.heap.objs.size, _, ds, Q, rfl, I.hok.fresh (Nat.le_succ _), I.hok.fresh (Nat.le_refl _), Nat.ne_of_lt (Nat.lt_succ_self _), rfl, w, r2, ?_, fun H2 q => ⟨rfl, q⟩⟩) fun r s' hq' => ?_))
  · cases hM : M ds S with
    | ok d S' =>
      rw [hM] at g
      exact g
    | exc C fs S' =>
      rw [hM] at g
      exact g
    | stuck =>
      rw [hM] at g
      exact g
  · cases r with
    | error e => exact passAt tk σ pins _ _ e s' I2 hq'
    | ok fl =>
      cases fl with
      | ret u =>
        obtain ⟨v, H', I3, rv, ev, q3⟩ := I2.after hq'
        subst ev
        exact ⟨rv, ⟨V.ref (s.heap.objs.size + 1), H', I3, rfl, q3⟩⟩
      | next => exact False.elim hq'
      | brk => exact False.elim hq'
      | cont => exact False.elim hq'
theorem of_make (Mm : Mk X.K (T C) f) (F : FI X.prog X.w X.K X.mg X.base T k f fd ps C M) (lv : Lv (k + 1) X.A) (hg : Gl X x) (hm : X.mg x = some (.ref (T C))) (hb : Binds X.K fd ps dsv) (hd : Vals dvs dsv) (hD : CsD T X.K dds dvs) (tk : Takes X W)
    (ha : AF T X W (e :: es) Fa) (hdb : (x == ("__debug__" : Str)) = false := by decide) (he : starEach (e :: es) X.env = (false, eval e X.env) :: starEach es X.env := by rfl) (hpl : (backTo pos (starEach es X.env)).any (·.1) = false := by rfl) :
    OF T X W (.Call (.Name x p) (e :: es) [] pos) (oMake M dds Fa) := by
  refine ⟨fun pins s σ H Q I h => ?_⟩
  obtain ⟨ρ, S, Z, env, w, er, g⟩ := h
  refine wpAny_Call_Name_kw (ld_glob I hg hm ?_ hdb)
  refine PySem.W.callWith_K (h₀ := X.base) I.ok.mod.kin Mm.kp (thn (ha.run pos pins s σ H _ I (lift_bndO w er g)) fun us s1 ⟨vs, H1, I1, r, ρ1, S1, ds, x1, w1, e1, r1, g1⟩ => ⟨I1.kIn, ?_⟩) he hpl
  exact run_fi Mm F lv hb hd tk I1 r w1 (r1.app (hD _ _)) g1
end

/-! ### lists are changed -/
/-- cell k is a list -/
def lstAt (S : Sto) (k : Nat) : Option (List D) := match S[k]? with
  | some (.lst ds) => some ds
  | _ => none
def appC (env : Env) (k : Nat) (d : D) (S : Sto) : R Fl := match lstAt S k with
  | some ds => if ds.length < sizeLine then .ok (.nx env) (S.set k (.lst (ds ++ [d]))) else .stuck
  | none => .stuck
/-- xs.append(e), xs a slot -/
def sApp (i : Nat) (F : FE) : FS := fun env S => match env[i]? with
  | some (.own (.lst ds)) => sB env (F env S) fun d S' => if ds.length < sizeLine then .ok (.nx (env.set i (.own (.lst (ds ++ [d]))))) S' else .stuck
  | some (.val (.cell k)) => if (lstAt S k).isSome = true then sB env (F env S) fun d S' => appC env k d S' else .stuck
  | _ => .stuck
/-- e.append(..), e a cell -/
def sAppC (Fo F : FE) : FS := fun env S => sB env (Fo env S) fun o S1 => match o with
  | .cell k => if (lstAt S1 k).isSome = true then sB env (F env S1) fun d S2 => appC env k d S2 else .stuck
  | _ => .stuck
/-- xs[i] = e, xs a cell -/
def putC (env : Env) (d o i : D) : Sto → R Fl := fun S => match o, i with
  | .cell k, .int j => (match lstAt S k with
    | some ds => (match ixN ds.length j with
      | some n => .ok (.nx env) (S.set k (.lst (ds.set n d)))
      | none => .stuck)
    | none => .stuck)
  | _, _ => .stuck
def sPutC (Fe Fo Fi : FE) : FS := fun env S => sB env (Fe env S) fun d S1 => sB env (Fo env S1) fun o S2 => sB env (Fi env S2) fun i S3 => putC env d o i S3
section
variable {T : Str → Addr} {K : PySem.W.Frag} {ρ : Nat → Option Addr} {S : Sto} {Z0 Z : Hid} {H : Hp} {σ : St} {env : Env} {W : WX} {B : Ends}
theorem lstAt_ok (w : Wd T K ρ S Z H) {k : Nat} {ds : List D} (h : lstAt S k = some ds) : S[k]? = some (.lst ds) ∧ ∃ a vs, ρ k = some a ∧ H a = some (.lst vs) ∧ RepL T K ρ (Fz ρ Z H) ds vs := by
  unfold lstAt at h
  cases hk : S[k]? with
  | none =>
    rw [hk] at h
    cases h
  | some c =>
    rw [hk] at h
    cases c with
    | lst es =>
      cases h
      obtain ⟨a, o, h1, h2, h3, h4⟩ := w.cells k _ hk
      obtain ⟨vs, rfl, r⟩ := h4
      exact ⟨rfl, a, vs, h1, h3, r⟩
    | _ => cases h
theorem At.putCell (a : At T K ρ S Z0 Z H σ env) {k : Nat} {p : Addr} {c0 c : CO} {o : HO} (hk : S[k]? = some c0) (hp : ρ k = some p) (h : HObj T K ρ (Fz ρ Z H) c o) : ExtS ρ Z0 Z H ρ Z (upd H p o) ∧ At T K ρ (S.set k c) Z0 Z (upd H p o) σ env := by
  obtain ⟨x, w⟩ := put_cell a.w hk hp h
  exact ⟨x.s a.o.sub, a.ext x w⟩
theorem appC_ok {k : Nat} {d : D} {v : V} {p : Addr} {σ : St} (a : At T K ρ S Z0 Z H σ env) (hp : ρ k = some p) (r : Rep T K ρ (Fz ρ Z H) d v) (g : GoodS T K W B ρ Z0 Z H (appC env k d S)) : rAppend (.ref p) [v] H (fun _ H' => B.nx σ H') := by
  unfold appC at g
  split at g
  · rename_i ds hds
    split at g
    · rename_i hl
      obtain ⟨hk, q, vs, h1, h2, h3⟩ := lstAt_ok a.w hds
      rw [hp] at h1
      cases h1
      obtain ⟨x, a2⟩ := a.putCell (c := .lst (ds ++ [d])) (o := .lst (vs ++ [v])) hk hp ⟨_, rfl, h3.app (RepL.one r)⟩
      exact ⟨p, vs, v, rfl, rfl, h2, by rw [← h3.len]; exact hl, (show GoodF T K W B ρ Z0 Z H _ (.nx env) from g) σ _ ρ Z x a2⟩
    · exact g.elim
  · exact g.elim
end
section
variable {T : Str → Addr} {X : Cx} {W : WX} {x : Str} {i : Nat} {o e : Expr} {Fe Fo Fi : FE} {p apos cpos pos : Pos}
theorem ty_append : typeOf (.builtin "list.append") = pure (.type "method_descriptor") := by
  show builtinType _ = _
  rw [builtinType_eq_fast]
  kernel_rfl
abbrev AppEv (X : Cx) (o e : Expr) (apos cpos pos : Pos) : Prop := attributeBase o "append" X.env (eval o X.env) = eval o X.env ∧
  ((backTo cpos (starEach [e] X.env)).all (fun x => !x.1) && (backToKw cpos (keywordEach [] X.env)).all (fun x => x.1.isSome) && decide ([e].length + ([] : List Keyword).length + (if ([] : List Keyword).isEmpty then 0 else 1) < 30)) = true ∧
  (apos.endLine == cpos.line) = true ∧ starEach [e] X.env = (false, eval e X.env) :: starEach [] X.env ∧ (backTo cpos (starEach [] X.env)).any (·.1) = false ∧
  swapsWith (.Call (.Attribute o "append" apos) [e] [] cpos) none pos.line X.env = pure false
/-- xs.append(e), xs a slot -/
theorem sf_app (hx : PE X (.Name x p) (tVar i)) (he : PF T X W e Fe) (hv : AppEv X (.Name x p) e apos cpos pos := by exact ⟨rfl, rfl, rfl, rfl, rfl, rfl⟩) :
    SF T X W (.Expr (.Call (.Attribute (.Name x p) "append" apos) [e] [] cpos) pos) (sApp i Fe) :=
  ps_imp (ps_expr (pe_bm PySem.F.plainAttrs_list PySem.F.slot_list_append ty_append mt_append hx (pa_cons he pa_nil hv.2.2.2.1) hv.1 hv.2.1 hv.2.2.1 hv.2.2.2.1 hv.2.2.2.2.1) hv.2.2.2.2.2) fun B σ H q => by
    obtain ⟨ρ, S, Z0, Z, env, a, g⟩ := q
    unfold sApp at g
    split at g
    · rename_i ds h0
      obtain ⟨q, ob, h1, h2, h3, vs, rfl, h4⟩ := a.e.own i _ h0
      refine ⟨_, h1, .inl ⟨rfl, vs, SqL.of h3⟩, lift_imp (lift_sB a g) fun v H1 ⟨ρ1, S1, d, x1, a1, r1, g1⟩ => ?_⟩
      split at g1
      · rename_i hl
        obtain ⟨q', ob', h1', h2', h3', vs', rfl, h4'⟩ := a1.e.own i _ h0
        rw [h1] at h1'
        cases h1'
        obtain ⟨xs, as⟩ := a1.putOwn (c := .lst (ds ++ [d])) (o := .lst (vs' ++ [v])) h0 h1 ⟨_, rfl, h4'.app (RepL.one r1)⟩
        exact ⟨q, vs', v, rfl, rfl, h3', by rw [← h4'.len]; exact hl, (show GoodF T X.K W B ρ1 Z0 Z H1 S1 (.nx _) from g1) σ _ ρ1 Z xs as⟩
      · exact g1.elim
    · rename_i k h0
      split at g
      · rename_i hs
        obtain ⟨v0, h1, q, rfl, hq⟩ := a.e.val i _ h0
        obtain ⟨ds, hds⟩ := Option.isSome_iff_exists.mp hs
        obtain ⟨hk, q', vs, e1, e2, e3⟩ := lstAt_ok a.w hds
        rw [hq] at e1
        cases e1
        refine ⟨_, h1, .inl ⟨rfl, vs, SqL.of e2⟩, lift_imp (lift_sB a g) fun v H1 ⟨ρ1, S1, d, x1, a1, r1, g1⟩ => ?_⟩
        exact appC_ok a1 (x1.cells _ _ hq) r1 g1
      · exact g.elim
    · exact g.elim
/-- o.append(e), o a cell -/
theorem sf_appC (ho : PF T X W o Fo) (he : PF T X W e Fe) (hv : AppEv X o e apos cpos pos := by exact ⟨rfl, rfl, rfl, rfl, rfl, rfl⟩) :
    SF T X W (.Expr (.Call (.Attribute o "append" apos) [e] [] cpos) pos) (sAppC Fo Fe) :=
  ps_imp (ps_expr (pe_bm PySem.F.plainAttrs_list PySem.F.slot_list_append ty_append mt_append ho (pa_cons he pa_nil hv.2.2.2.1) hv.1 hv.2.1 hv.2.2.1 hv.2.2.2.1 hv.2.2.2.2.1) hv.2.2.2.2.2) fun B σ H q => by
    obtain ⟨ρ, S, Z0, Z, env, a, g⟩ := q
    unfold sAppC at g
    refine lift_imp (lift_sB a g) fun u H1 ⟨ρ1, S1, d1, x1, a1, r1, g1⟩ => ?_
    split at g1
    · rename_i k
      split at g1
      · rename_i hs
        obtain ⟨q, rfl, hq⟩ := r1
        obtain ⟨ds, hds⟩ := Option.isSome_iff_exists.mp hs
        obtain ⟨hk, q', vs, e1, e2, e3⟩ := lstAt_ok a1.w hds
        rw [hq] at e1
        cases e1
        refine ⟨.inl ⟨rfl, vs, SqL.of e2⟩, lift_imp (lift_sB a1 g1) fun v H2 ⟨ρ2, S2, d2, x2, a2, r2, g2⟩ => ?_⟩
        exact appC_ok a2 (x2.cells _ _ hq) r2 g2
      · exact g1.elim
    · exact g1.elim
/-- o[i] = e, o a cell -/
theorem sf_putC (he : PF T X W e Fe) (ho : PF T X W o Fo) {ie : Expr} (hi : PF T X W ie Fi) {tpos : Pos}
    (ha : ∀ v, assign (.Subscript o ie tpos) X.env v = (holding [v] (eval o X.env) >>= fun ov => holding [v, ov] (eval ie X.env) >>= fun iv => standAt tpos >>= fun _ => holding [v, ov, iv] (setItem ov iv v) >>= fun _ => release [v, ov, iv] []) := by intro _; rfl)
    (hs : swapsWithSole [.Subscript o ie tpos] e pos.line X.env = pure false := by rfl) (hw : swappedStores [.Subscript o ie tpos] e X.env = pure none := by rfl) (h1 : (assignEach [.Subscript o ie tpos] X.env).map (·.2) = [assign (.Subscript o ie tpos) X.env] := by rfl) :
    SF T X W (.Assign [.Subscript o ie tpos] e pos) (sPutC Fe Fo Fi) := ps_imp (ps_asg he (pg_sub ho hi set_list ha) hs hw h1) fun B σ H q => by
  obtain ⟨ρ, S, Z0, Z, env, a, g⟩ := q
  unfold sPutC at g
  refine lift_imp (lift_sB a g) fun v H1 ⟨ρ1, S1, d1, x1, a1, r1, g1⟩ => ?_
  refine lift_imp (lift_sB a1 g1) fun u H2 ⟨ρ2, S2, d2, x2, a2, r2, g2⟩ => ?_
  refine lift_imp (lift_sB a2 g2) fun y H3 ⟨ρ3, S3, d3, x3, a3, r3, g3⟩ => ?_
  have rv := (x2.trans x3).rep r1
  have ru := x3.rep r2
  cases d2 with
  | cell k =>
    cases d3 with
    | int j =>
      unfold putC at g3
      dsimp only at g3
      obtain ⟨p, rfl, hp⟩ := ru
      have ey : y = .int j := r3
      subst ey
      split at g3
      · rename_i ds hds
        split at g3
        · rename_i n hn
          obtain ⟨hk, q', vs, e1, e2, e3⟩ := lstAt_ok a3.w hds
          rw [hp] at e1
          cases e1
          obtain ⟨x4, a4⟩ := a3.putCell (c := .lst (ds.set n d1)) (o := .lst (vs.set n v)) hk hp ⟨_, rfl, e3.set n rv⟩
          exact ⟨p, vs, j, n, rfl, rfl, e2, by rw [← e3.len]; exact hn, (show GoodF T X.K W B ρ3 Z0 Z H3 _ (.nx env) from g3) σ _ ρ3 Z x4 a4⟩
        · exact g3.elim
      · exact g3.elim
    | _ => exact g3.elim
  | _ => exact g3.elim
end
end HT
set_option Elab.async false
set_option linter.all false
set_option maxRecDepth 100000
set_option maxHeartbeats 800000
namespace HT
open PySem PySem.Spec L2
open PyProof.Rows hiding St

/-! ### the law's call -/
section
variable {P : Program} {w : World} {K : PySem.W.Frag} {mg mb : Str → Option Value} {T : Str → Addr} {k : Nat} {fa a : Addr} {fd : FuncData} {x : Str} {M : List D → Cm D} {s1 : Shared} {vs : List Value} {ns : List Int}
/-- from one abstract heap that tracks the script alone, or nothing -/
theorem law_core (H : Hp) (KX : K.In s1.heap) (hns : s1.heap.Ns mainGlobals mg) (hb : s1.heap.Ns builtinsNs mb) (hbb : ∀ y : Str, y ≠ "__name__" → mb y = bootBuiltins y) (hlim : s1.heap.NoLimit) (hg : s1.gens = #[])
    (ha : s1.heap.get? a = some { cls := .type "list", data := .seq vs.toArray }) (lv : Lv k callerA) (F : ∀ base : Heap, K.In base → base.Ns mainGlobals mg → FT P w K mg base T k fa fd [x] M) (hbind : ∀ (s : Shared) (u : Value), BindsTo s fd ⟨[u], []⟩ [(x, u)])
    (hO : Only H) (hS : SqL K H a (ns.map V.int)) (hok : HOk P w H s1.heap) (hA : ∀ b, H b ≠ none → b = a) (hK : H a ≠ none → K.lookup a = none) (hM : ∃ S', M [.klst (ns.map .int)] [] = .ok (.bl true) S') :
    codeAny (model P w) callerA (.call (.ref fa) ⟨[.ref a], []⟩) (fun r s' => r = .ok (.ret (.bool true)) ∧ OldK s1.heap s'.heap ∧ s'.os = s1.os ∧ AllBare s'.gens) s1 := by
  have at_a : ∀ {b : Addr} {u : HO}, H b = some u → b = a := fun {b u} q => hA b (by rw [q]; exact fun z => nomatch z)
  have noA : ∀ {b : Addr} {o : Obj} {es : Array DictEntry} {ep : Nat}, s1.heap.get? b = some o → o.data = .dict es ep → H b = none := fun {b o es ep} e d => by
    cases q : H b with
    | none => rfl
    | some u =>
      rw [at_a q, ha] at e
      have e2 := Option.some.inj e
      rw [← e2] at d
      cases d
  have nsK : ∀ {b : Addr} {m : Str → Option Value}, s1.heap.Ns b m → (hidT s1.heap H).Ns b m := fun {b m} z => by
    obtain ⟨o, es, ep, e, d, r⟩ := z
    exact ⟨o, es, ep, hidT_get e (noA e d), d, r⟩
  have hKb : K.In (hidT s1.heap H) := fun b o e => hidT_get (KX b o e) (by
    cases q : H b with
    | none => rfl
    | some u =>
      have e2 := at_a q
      rw [e2] at q e
      rw [hK (by rw [q]; exact fun z => nomatch z)] at e
      cases e)
  obtain ⟨mc, l1, l2⟩ := hlim
  have e0 : Env0 P w K mg (hidT s1.heap H) callerA [] s1 H := ⟨rfl, ⟨hKb, nsK hns, ⟨mb, nsK hb, hbb⟩, ⟨mc, nsK l1, l2⟩⟩, fun b o e => of_hidT e, Nat.le_of_eq (hidT_size _ _), trivial, fun b z => absurd (show b ∈ ([] : List Addr) from z) (by simp), hok, .of_eq hg⟩
  obtain ⟨S', hM⟩ := hM
  have rep : ∀ ρ Z, (∀ b, ¬ Z b) → (∀ j, ρ j = none) → RepL T K ρ (Fz ρ Z H) [.klst (ns.map .int)] [.ref a] := fun ρ Z z r => by
    refine RepL.one ⟨a, ns.map V.int, rfl, ?_, ?_⟩
    · have e : Fz ρ Z H = H := by
        funext b
        unfold Fz
        rw [if_neg]
        rintro (q | ⟨j, q⟩)
        · exact z b q
        · rw [r j] at q
          cases q
      rw [e]
      exact hS
    · refine RepL.of_all (by simp) fun i d v h1 h2 => ?_
      rw [List.getElem?_map] at h1 h2
      cases e : ns[i]? with
      | none =>
        rw [e] at h1
        cases h1
      | some n =>
        rw [e] at h1 h2
        cases h1
        cases h2
        exact rfl
  have w0 : Wd T K (fun _ => none) [] ⟨fun _ => False, 0⟩ H := by
    refine ⟨?_, ?_, ?_, ?_⟩
    · intro j b q
      cases q
    · intro j c q
      cases q
    · intro i j b q _
      cases q
    · intro b z
      exact False.elim z
  have sp : spT T K M [.ref a] H (fun v _ => v = .bl true) (fun _ _ _ => False) := by
    refine ⟨fun _ => none, [], ⟨fun _ => False, 0⟩, [.klst (ns.map .int)], w0, rep _ _ (fun b z => z) (fun j => rfl), ?_⟩
    rw [hM]
    exact fun v H' ρ' _ _ q => q
  refine codeAny_mono ((F _ hKb (nsK hns)).run callerA [] s1 H ⟨[.ref a], []⟩ [.ref a] [.ref a] (fun v _ => v = .bl true) (fun _ _ _ => False) lv e0 (hbind s1 (.ref a)) (.cons rfl .nil) rfl sp) fun r s' h => ?_
  cases r with
  | error e =>
    obtain ⟨_, _, _, _, _, _, _, _, _, _, _, _, z⟩ := h
    exact z.elim
  | ok fl =>
    cases fl with
    | next => exact False.elim h
    | brk => exact False.elim h
    | cont => exact False.elim h
    | ret u =>
      obtain ⟨v, H', os, bare, un, hok', r', q⟩ := h
      have q' : v = .bl true := q
      subst q'
      have eu : u = Value.bool true := r'
      subst eu
      refine ⟨rfl, OldK.of_keep fun b o e => ?_, os, bare⟩
      cases q : H b with
      | none => exact un.keep b o e q (by intro z; exact absurd (show b ∈ ([] : List Addr) from z) (by simp)) (by simp)
      | some u =>
        rcases hO b with z | ⟨ob, xs, z⟩
        · rw [q] at z
          cases z
        · obtain ⟨e1, _⟩ := hok b _ z
          obtain ⟨e2, _⟩ := hok' b _ (un.frzs b ob _ z)
          rw [e] at e1
          rw [Option.some.inj e1]
          exact e2
theorem law_callT (KX : K.In s1.heap) (hns : s1.heap.Ns mainGlobals mg) (hb : s1.heap.Ns builtinsNs mb) (hbb : ∀ y : Str, y ≠ "__name__" → mb y = bootBuiltins y) (hlim : s1.heap.NoLimit) (hg : s1.gens = #[])
    (ha : s1.heap.get? a = some { cls := .type "list", data := .seq vs.toArray }) (hi : IntsAre vs ns) (hl : ns.length ≤ sizeLine) (lv : Lv k callerA) (F : ∀ base : Heap, K.In base → base.Ns mainGlobals mg → FT P w K mg base T k fa fd [x] M)
    (hbind : ∀ (s : Shared) (u : Value), BindsTo s fd ⟨[u], []⟩ [(x, u)]) (hM : ∃ S', M [.klst (ns.map .int)] [] = .ok (.bl true) S') :
    codeAny (model P w) callerA (.call (.ref fa) ⟨[.ref a], []⟩) (fun r s' => r = .ok (.ret (.bool true)) ∧ OldK s1.heap s'.heap ∧ s'.os = s1.os ∧ AllBare s'.gens) s1 := by
  have rv := vals_ints hi
  cases hk : K.lookup a with
  | some o =>
    have e := KX a o hk
    rw [ha] at e
    have e2 := Option.some.inj e
    subst e2
    exact law_core (ns := ns) (fun _ => none) KX hns hb hbb hlim hg ha lv F hbind (fun _ => .inl rfl) (.inr ⟨_, vs.toArray, _, hk, rfl, rfl, rfl, by rw [List.size_toArray, hi.length]; exact hl, by simpa using rv⟩) (fun b u z => nomatch z) (fun b z => absurd rfl z) (fun z => absurd rfl z) hM
  | none =>
    have at1 : ∀ b u, (if b = a then some (HO.frz { cls := .type "list", data := .seq vs.toArray } (.lst (ns.map V.int))) else none) = some u → b = a ∧ u = HO.frz { cls := .type "list", data := .seq vs.toArray } (.lst (ns.map V.int)) := fun b u z => by
      split at z
      · exact ⟨by assumption, (Option.some.inj z).symm⟩
      · cases z
    refine law_core (ns := ns) (fun b => if b = a then some (.frz { cls := .type "list", data := .seq vs.toArray } (.lst (ns.map V.int))) else none) KX hns hb hbb hlim hg ha lv F hbind (fun b => ?_) (.inl (.inr ⟨{ cls := .type "list", data := .seq vs.toArray }, if_pos rfl⟩)) (fun b u z => ?_) (fun b z => ?_) (fun _ => hk) hM
    · by_cases hb : b = a
      · exact .inr ⟨_, _, if_pos hb⟩
      · exact .inl (if_neg hb)
    · obtain ⟨rfl, rfl⟩ := at1 b u z
      exact ⟨ha, by rw [List.length_map]; exact hl, vs, _, rv, ha⟩
    · by_cases hb : b = a
      · exact hb
      · exact absurd (if_neg hb) z
end
/-- a law: the goal that a head leaves -/
theorem walk_T {l : PySem.W.OpenLaw} {n k : Nat} {q : Program} {loose : List Str} {XP : (Str → Option Value) → Heap → Prop} {YP : World → Heap → Prop} {d : DefRec} {x : Str} (hn : l.most = some n) (hn2 : n ≤ sizeLine) (hdf : d.params.defaults = []) (lv : Lv k callerA)
    (F : ∀ (w : World) (mg : Str → Option Value) (fa : Addr) (h : Heap), YP w h → h.Ns mainGlobals mg → mg d.name = some (.ref fa) →
      ∃ (K : PySem.W.Frag) (fd : FuncData) (T : Str → Addr) (M : List D → Cm D), K.In h ∧ (∀ (s : Shared) (u : Value), BindsTo s fd ⟨[u], []⟩ [(x, u)]) ∧ (∀ ns : List Int, ns.length ≤ n → ∃ S', M [.klst (ns.map .int)] [] = .ok (.bl true) S') ∧
        ∀ base : Heap, K.In base → base.Ns mainGlobals mg → FT l.prog w K mg base T k fa fd [x] M) : PySem.W.WalkO q loose XP YP l.row.toRowW d [] (fun f vs => PySem.call f vs) :=
  Att.attach_call hn hdf fun w s0 s1 mg mb fa o pm cd doc a vs ns G Y ho hd hcd hmg hobj hints hlen hg => by
    obtain ⟨K, fd, T, M, KX, hb, hM, hF⟩ := F w mg fa _ Y G.T.g hmg
    exact law_callT KX G.T.g G.T.b G.T.builtins G.T.nolimit hg hobj hints (Nat.le_trans hlen hn2) lv hF hb (hM ns hlen)
end HT
set_option Elab.async false
set_option linter.all false
set_option maxRecDepth 100000
set_option maxHeartbeats 800000
namespace HT
open PySem PySem.Spec L2
open PyProof.Rows hiding St
open PySem.SeqAt AutoSeq1 MeetsSeq MeetsSeq2 MeetsSeq3 SeqRoads2

/-! ### own == -/
/-- a builtin's == declines an own object -/
def Declines (prog : Program) (w : World) (s : Shared) (a : Value) (y : Addr) (Tn id : String) : Prop :=
  ∀ (A : Around) (E : Value → Shared → Prop) (Q : Value → Shared → Prop), A.units < cLine → Q .notImplemented s → wpAny (model prog w) A (call (.builtin id) [a, .ref y]) Q E s
section
variable {prog : Program} {w : World} {A : Around} {E : Value → Shared → Prop} {s : Shared} {K : PySem.W.Frag} {y C : Addr} {oy : Obj} {od : Option Obj} {Q : Value → Shared → Prop}
theorem own_isn (X : K.In s.heap) (I : PySem.W.InstAt s.heap y oy C od) {Tn : String} (h : PySem.W.subIn K (.ref C) (.type Tn) = some false) : PySem.W.Looks (model prog w) s.heap (isInstance (.ref y) (.type Tn)) false := I.type.andThen (PySem.W.looks_subIn X h)
abbrev DecQ (s : Shared) : Fin → Shared → Prop := fun f s' => f = .done (.ret .notImplemented) ∧ s' = s
theorem dec_none : wpAny (model prog w) A (Builtin.«NoneType.__eq__» ⟨[.none, .ref y], []⟩) (DecQ s) E s := by
  obtain ⟨hp, g, d, tk, os⟩ := s
  wp_walk
  exact ⟨rfl, rfl⟩
theorem dec_int {i : Int} {t : Tok} {dx : Addr} (hy : s.heap.get? y = some (PySem.W.instObj C dx)) : wpAny (model prog w) A (Builtin.«int.__eq__» ⟨[.int i t, .ref y], []⟩) (DecQ s) E s := by
  obtain ⟨hp, g, d, tk, os⟩ := s
  wp_walk using wpAny_load hy
  exact ⟨rfl, rfl⟩
theorem dec_bool {b : Bool} {dx : Addr} (hy : s.heap.get? y = some (PySem.W.instObj C dx)) : wpAny (model prog w) A (Builtin.«int.__eq__» ⟨[.bool b, .ref y], []⟩) (DecQ s) E s := by
  obtain ⟨hp, g, d, tk, os⟩ := s
  wp_walk using wpAny_load hy
  exact ⟨rfl, rfl⟩
theorem dec_str {x : Str} {t : Tok} {dx : Addr} (hy : s.heap.get? y = some (PySem.W.instObj C dx)) : wpAny (model prog w) A (Builtin.«str.__eq__» ⟨[.str x t, .ref y], []⟩) (DecQ s) E s := by
  obtain ⟨hp, g, d, tk, os⟩ := s
  wp_walk using wpAny_load hy
  exact ⟨rfl, rfl⟩
theorem dec_list {l : Addr} (hin : PySem.W.Looks (model prog w) s.heap (isInstance (.ref y) (.type "list")) false) : wpAny (model prog w) A (Builtin.«list.__eq__» ⟨[.ref l, .ref y], []⟩) (DecQ s) E s := by
  obtain ⟨hp, g, d, tk, os⟩ := s
  wp_walk using hin.at
  exact ⟨rfl, rfl⟩
theorem dec_tuple {l : Addr} (hin : PySem.W.Looks (model prog w) s.heap (isInstance (.ref y) (.type "tuple")) false) : wpAny (model prog w) A (Builtin.«tuple.__eq__» ⟨[.ref l, .ref y], []⟩) (DecQ s) E s := by
  obtain ⟨hp, g, d, tk, os⟩ := s
  wp_walk using hin.at
  exact ⟨rfl, rfl⟩
theorem dec_dict {l : Addr} (hin : PySem.W.Looks (model prog w) s.heap (isInstance (.ref y) (.type "dict")) false) : wpAny (model prog w) A (Builtin.«dict.__eq__» ⟨[.ref l, .ref y], []⟩) (DecQ s) E s := by
  obtain ⟨hp, g, d, tk, os⟩ := s
  wp_walk using hin.at
  exact ⟨rfl, rfl⟩
end
section
variable {prog : Program} {w : World} {A : Around} {E : Value → Shared → Prop} {s : Shared} {K : PySem.W.Frag} {y x C f : Addr} {oy ox : Obj} {od odx : Option Obj} {Q : Value → Shared → Prop}
/-- y's own == is asked -/
theorem try_own (X : K.In s.heap) (I : PySem.W.InstAt s.heap y oy C od) (hs : PySem.W.findIn K (.ref C) "__eq__" = some (some (.ref f))) (hf : PySem.W.isFn K (.ref f) = true) {b : Value} {Q : Option Value → Shared → Prop}
    (h : wpAny (model prog w) A (call (.ref f) [.ref y, b]) (fun v s' => ∃ r, v = .bool r ∧ Q (some (.bool r)) s') E s) : wpAny (model prog w) A (tryCompare (.ref y) "__eq__" b) Q E s := by
  unfold tryCompare
  refine wpAny_bind (PySem.W.ifBound_K X I hs hf (wpAny_mono h (fun v s' hv => ?_) fun _ _ e => e))
  obtain ⟨r, rfl, q⟩ := hv
  exact wpAny_pure q
theorem rc_refl {a : Value} {Ta ida : String} {B : Builtin} (hu : A.units < cLine) (X : K.In s.heap) (I : PySem.W.InstAt s.heap y oy C od) (ha : s.TypeIs a Ta) (hsub : PySem.W.subIn K (.ref C) (.type Ta) = some false) (h1 : Slot Ta (cmpInfo .Eq).2.1 ida) (entry : entryFor table ida = some B) (args : argsOk ida ⟨[a, .ref y], []⟩)
    (hdec : wpAny (model prog w) A.in1 (B ⟨[a, .ref y], []⟩) (DecQ s) (fun e s' => E e s') s) (hs : PySem.W.findIn K (.ref C) "__eq__" = some (some (.ref f))) (hf : PySem.W.isFn K (.ref f) = true)
    (h : wpAny (model prog w) A (call (.ref f) [.ref y, a]) (fun v s' => ∃ r, v = .bool r ∧ Q (.bool r) s') E s) : wpAny (model prog w) A (richCompare .Eq a (.ref y)) Q E s := by
  rcases hi : cmpInfo CmpOp.Eq with ⟨sym, fn, rn⟩
  have e1 : fn = "__eq__" := by
    have := congrArg (fun z => z.2.1) hi
    exact this.symm
  have e2 : rn = "__eq__" := by
    have := congrArg (fun z => z.2.2) hi
    exact this.symm
  rw [hi] at h1
  simp only [richCompare, hi, ha.oneThing_none]
  refine wpAny_holding (wpAny_bind (wpAny_cRoomFor hu ?_))
  refine wpAny_bind (wpAny_typeOf ha (wpAny_bind (I.type.here ?_)))
  have hne : (Value.type Ta != Value.ref C) = true := rfl
  simp only [hne, if_true]
  refine wpAny_bind ((PySem.W.looks_subIn X hsub).here ?_)
  simp only [Bool.false_eq_true, if_false, Bool.not_false, if_true]
  refine wpAny_bind (m := tryCompare a _ (.ref y)) (wpAny_tryCompare_declines ha h1 (GQ.call_here h1 ha entry args (wpAny_mono hdec (fun fl s' q => ?_) fun _ _ e => e)))
  obtain ⟨rfl, rfl⟩ := q
  refine ⟨rfl, ?_⟩
  subst e2
  refine wpAny_bind (m := tryCompare (.ref y) _ a) (try_own X I hs hf (wpAny_mono h (fun v s' q => ?_) fun _ _ e => e))
  obtain ⟨r, rfl, q⟩ := q
  exact ⟨r, rfl, wpAny_pure q⟩
/-- != of two own objects, by == -/
theorem rc_ne (hu : A.units + 1 < cLine) (X : K.In s.heap) (I : PySem.W.InstAt s.heap x ox C odx) {b tb : Value} (hb : PySem.W.Looks (model prog w) s.heap (typeOf b) tb) (hn : PySem.W.notFirst K C tb = true) (hne : PySem.W.findIn K (.ref C) "__ne__" = some (some (.builtin "object.__ne__"))) (hob : PySem.W.mroIn K C (.type "object") = some true)
    (hs : PySem.W.findIn K (.ref C) "__eq__" = some (some (.ref f))) (hf : PySem.W.isFn K (.ref f) = true) (h : wpAny (model prog w) A.in1 (call (.ref f) [.ref x, b]) (fun v s' => ∃ r, v = .bool r ∧ Q (.bool (!r)) s') E s) : wpAny (model prog w) A (richCompare .NotEq (.ref x) b) Q E s := by
  have one : wpAny (model prog w) A (tryCompare (.ref x) "__ne__" b) (fun r s' => ∃ v, r = some v ∧ Q v s') E s := by
    have SF := F.cmp_object.ne
    have sub : PySem.W.Looks (model prog w) s.heap (isInstance (.ref x) (.type "object")) true := I.type.andThen (PySem.W.looks_mroIn X hob)
    have run : wpAny (model prog w) A (call (.builtin "object.__ne__") [.ref x, b]) (fun v s' => ∃ r, v = .bool r ∧ Q (.bool r) s') E s := by
      refine wpAny_call (codeAny_call_builtin SF.plain F.cmpEntry_ne (PySem.W.check_slot F.cmpKind_ne F.cmpSplit_ne sub (F.cmpArgs_ne _ _) ?_))
      unfold Builtin.«object.__ne__»
      repeat (first
        | with_reducible refine wpAny_cRoomFor (show A.in1.units < cLine from hu) ?_
        | (refine wpAny_bind (m := callSpecialIfBound? (.ref x) (Str.ofString "__eq__") [b]) (PySem.W.ifBound_K X I hs hf (wpAny_mono h (fun v s' hv => ?_) fun _ _ e => e)))
        | wp_step)
      obtain ⟨r, rfl, q⟩ := hv
      repeat (first | exact ⟨_, rfl, q⟩ | exact wpAny_truthy_bool q | (refine wpAny_bind (m := truthy (.bool _)) (wpAny_truthy_bool ?_)) | wp_step)
    unfold tryCompare
    refine wpAny_bind ?_
    simp only [callSpecialIfBound?, bindSpecialIfBound?]
    refine wpAny_holding (wpAny_bind (wpAny_bind (wpAny_bind (I.type.here ((PySem.W.looks_findIn X hne).here ?_)))))
    refine wpAny_bind (wpAny_askSetting (wpAny_ite ?_))
    have fin : wpAny (model prog w) A (call (.builtin "object.__ne__") ([.ref x] ++ [b]) >>= fun v => pure (some v)) (fun a s' => wpAny (model prog w) A (match a with | some .notImplemented | none => pure none | some v => pure (some v)) (fun r s' => ∃ v, r = some v ∧ Q v s') E s') E s := wpAny_bind (wpAny_mono run (fun v s' h' => wpAny_pure (by
      obtain ⟨r, rfl, q⟩ := h'
      exact wpAny_pure ⟨_, rfl, q⟩)) fun _ _ h' => h')
    split
    · exact wpAny_bind (wpAny_of_eq (SF.bind (.ref x)) (wpAny_pure (by exact fin)))
    · exact wpAny_tryCatch (wpAny_bind (wpAny_of_eq (SF.bind (.ref x)) (wpAny_pure (by exact fin))))
  unfold richCompare
  simp only [oneThing_ref]
  refine wpAny_holding (wpAny_bind (wpAny_cRoomFor (Nat.lt_of_succ_lt hu) ?_))
  refine wpAny_bind (I.type.here (wpAny_bind (hb.here ?_)))
  split
  · rename_i q
    have e : PySem.W.subIn K tb (.ref C) = some false := by
      rcases Bool.or_eq_true_iff.mp hn with e | e
      · rw [beq_iff_eq.mp e] at q
        simp at q
      · exact beq_iff_eq.mp e
    refine wpAny_bind ((PySem.W.looks_subIn X e).here ?_)
    simp only [Bool.false_eq_true, if_false]
    refine wpAny_bind (wpAny_mono one (fun r s' z => ?_) fun _ _ e => e)
    obtain ⟨v, rfl, hq⟩ := z
    exact wpAny_pure hq
  · refine wpAny_bind (wpAny_pure ?_)
    simp only [Bool.false_eq_true, if_false]
    refine wpAny_bind (wpAny_mono one (fun r s' z => ?_) fun _ _ e => e)
    obtain ⟨v, rfl, hq⟩ := z
    exact wpAny_pure hq
end
end HT
set_option Elab.async false
set_option linter.all false
set_option maxRecDepth 100000
set_option maxHeartbeats 800000
namespace HT
open PySem PySem.Spec L2
open PyProof.Rows hiding St

/-! ### == of own objects, as an operation -/
/-- what a class with an own == must say -/
structure EqC (K : PySem.W.Frag) (C f : Addr) : Prop where
  hs : PySem.W.findIn K (.ref C) "__eq__" = some (some (.ref f))
  hf : PySem.W.isFn K (.ref f) = true
  ne : PySem.W.findIn K (.ref C) "__ne__" = some (some (.builtin "object.__ne__"))
  ob : PySem.W.mroIn K C (.type "object") = some true
  sub : ∀ n ∈ ["NoneType", "bool", "int", "str", "list", "tuple", "dict"], PySem.W.subIn K (.ref C) (.type n) = some false
  nf : ∀ n ∈ ["NoneType", "bool", "int", "str", "list", "tuple", "dict"], PySem.W.notFirst K C (.type n) = true
def Rn (T : Str → Addr) (K : PySem.W.Frag) (M : List D → Cm D) (vs : List V) (H : Hp) (Q : VK) : Prop := spT T K M vs H Q (fun _ _ _ => False)
/-- what stands beside an own object in ==: a builtin's value, another one of the class -/
inductive Side (K : PySem.W.Frag) (H : Hp) (C : Addr) : V → Prop where
  | b {x : V} {n : String} (h : TyX K H x (.type n)) (hn : n ∈ ["NoneType", "bool", "int", "str", "list", "tuple", "dict"]) : Side K H C x
  | own {a dx : Addr} {fs : List (Str × V)} (h : H a = some (.ins C dx fs)) : Side K H C (.ref a)
def rEqO (T : Str → Addr) (K : PySem.W.Frag) (C : Addr) (M : List D → Cm D) : R2 := fun x y H Q => ∃ a dx fs, x = .ref a ∧ H a = some (.ins C dx fs) ∧ Side K H C y ∧ Rn T K M [x, y] H (fun v H' => ∃ b, v = .bl b ∧ Q (.bl b) H')
def rNeO (T : Str → Addr) (K : PySem.W.Frag) (C : Addr) (M : List D → Cm D) : R2 := fun x y H Q => ∃ a dx fs, x = .ref a ∧ H a = some (.ins C dx fs) ∧ Side K H C y ∧ Rn T K M [x, y] H (fun v H' => ∃ b, v = .bl b ∧ Q (.bl (!b)) H')
def rEqR (T : Str → Addr) (K : PySem.W.Frag) (C : Addr) (M : List D → Cm D) : R2 := fun x y H Q => ∃ a dx fs n, y = .ref a ∧ H a = some (.ins C dx fs) ∧ TyX K H x (.type n) ∧ n ∈ ["NoneType", "bool", "int", "str", "list", "tuple", "dict"] ∧ Rn T K M [y, x] H (fun v H' => ∃ b, v = .bl b ∧ Q (.bl b) H')
section
variable {T : Str → Addr} {X : Cx} {C f : Addr} {fd : FuncData} {ps : List Str} {M : List D → Cm D} {k : Nat} {pins : List (Addr × Obj)} {σ : St} {H : Hp} {s : Shared}
theorem Lv.in1 {k : Nat} {A : Around} (r : Lv (k + 1) A) : Lv k A.in1 := ⟨r.room.in1, r.gd⟩
theorem run_eq {A : Around} {Q : VK} {us : List Value} {vs : List V} {R : Value → Shared → Prop} (F : FT X.prog X.w X.K X.mg X.base T k f fd ps M) (lv : Lv k A) (hb : Binds X.K fd ps []) (I : Inv X pins σ H s) (e0 : Env0 X.prog X.w X.K X.mg X.base A X.stack s H) (r : Vals vs us) (sp : Rn T X.K M vs H Q)
    (hR : ∀ u s', EP X pins σ Q u s' → R u s') : wpAny (model X.prog X.w) A (call (.ref f) us) R X.xe s := by
  have hl : vs.length = ps.length := Classical.byContradiction fun hne => by
    obtain ⟨ρ, S, Z, ds, w, r2, g⟩ := sp
    rw [F.len ds S (by rw [r2.len]; exact hne)] at g
    exact g
  have hb2 := hb s us I.kIn (by rw [List.append_nil, ← r.length]; exact hl)
  rw [List.append_nil] at hb2
  refine wpAny_call (codeAny_mono (F.run A X.stack s H ⟨us, []⟩ us vs Q (fun _ _ _ => False) lv e0 hb2 r hl sp) fun rr s' hq => ?_)
  cases rr with
  | error e =>
    obtain ⟨_, _, _, _, _, _, _, _, _, _, _, _, z⟩ := hq
    exact z.elim
  | ok fl =>
    cases fl with
    | ret u => exact hR u s' (I.after hq)
    | next => exact False.elim hq
    | brk => exact False.elim hq
    | cont => exact False.elim hq
theorem side_ty (ec : EqC X.K C f) (I : Inv X pins σ H s) {x : V} {u : Value} (r : RelV x u) (h : Side X.K H C x) : ∃ t, PySem.W.Looks (model X.prog X.w) s.heap (typeOf u) t ∧ PySem.W.notFirst X.K C t = true := by
  cases h with
  | b ty hn =>
    obtain ⟨P, Z, p, _⟩ := kit_of I r ty
    exact ⟨_, Z.ty _ _ I.kIn p, ec.nf _ hn⟩
  | own h =>
    obtain ⟨mA, O, _⟩ := ins_get I.hok h
    obtain ⟨od, J, _⟩ := O.look
    cases r
    exact ⟨_, J.type, by simp [PySem.W.notFirst]⟩
theorem op_eqO (ec : EqC X.K C f) (F : FT X.prog X.w X.K X.mg X.base T k f fd ps M) (lv : Lv k X.A) (hb : Binds X.K fd ps []) : OpR X (compareOp .Eq) (rEqO T X.K C M) := by
  intro pins s σ H x y v u Q I rx ry h
  obtain ⟨a, dx, fs, rfl, ha, sd, sp⟩ := h
  cases rx
  obtain ⟨mA, O, _⟩ := ins_get I.hok ha
  obtain ⟨od, J, _⟩ := O.look
  obtain ⟨m, hF⟩ := I.fr
  obtain ⟨t, Lt, nf⟩ := side_ty ec I ry sd
  refine PySem.W.cmp_K (op := .Eq) lv.room.units0 hF I.ok.mod.kin J Lt nf ec.hs ec.hf ?_
  refine run_eq F lv hb I I.env0 (.cons (show RelV (.ref a) (.ref a) from rfl) (.cons ry .nil)) sp fun w s' hw => ?_
  obtain ⟨z, H', I', rz, b, rfl, q⟩ := hw
  cases rz
  exact ⟨.bl b, H', I', rfl, q⟩
theorem op_neO (ec : EqC X.K C f) (F : FT X.prog X.w X.K X.mg X.base T k f fd ps M) (lv : Lv (k + 1) X.A) (hb : Binds X.K fd ps []) : OpR X (compareOp .NotEq) (rNeO T X.K C M) := by
  intro pins s σ H x y v u Q I rx ry h
  obtain ⟨a, dx, fs, rfl, ha, sd, sp⟩ := h
  cases rx
  obtain ⟨mA, O, _⟩ := ins_get I.hok ha
  obtain ⟨od, J, _⟩ := O.look
  obtain ⟨t, Lt, nf⟩ := side_ty ec I ry sd
  refine rc_ne (by have := lv.room.un; omega) I.kIn J Lt nf ec.ne ec.ob ec.hs ec.hf ?_
  refine run_eq F lv.in1 hb I I.env0.in1 (.cons (show RelV (.ref a) (.ref a) from rfl) (.cons ry .nil)) sp fun w s' hw => ?_
  obtain ⟨z, H', I', rz, b, rfl, q⟩ := hw
  cases rz
  exact ⟨b, rfl, .bl (!b), H', I', rfl, q⟩
/-- a value's builtin type, in the heap -/
theorem ty_is (I : Inv X pins σ H s) {x : V} {u : Value} {n : String} (r : RelV x u) (ty : TyX X.K H x (.type n)) : s.TypeIs u n := by
  obtain ⟨P, Z, p, _⟩ := kit_of I r ty
  generalize ht : Value.type n = t at ty
  cases ty with
  | base b =>
    cases b with
    | non =>
      cases ht
      have e : u = .none := r
      subst e
      exact (rfl : typeOf _ = _)
    | bl y =>
      cases ht
      have e : u = .bool y := r
      subst e
      exact (rfl : typeOf _ = _)
    | int i =>
      cases ht
      obtain ⟨t, rfl⟩ := r
      exact typeIs_int s i t
    | str i =>
      cases ht
      obtain ⟨t, rfl⟩ := r
      exact typeIs_str s i t
    | flt i =>
      cases ht
      obtain ⟨t, rfl⟩ := r
      exact (rfl : typeOf _ = _)
    | @lst a xs e =>
      cases ht
      cases r
      obtain ⟨_, _, n, _, h1⟩ := (show ObjOk X.prog X.w H s.heap a (.lst xs) from I.hok a _ e)
      exact ⟨_, h1, rfl⟩
    | @frz a ob xs e =>
      cases ht
      cases r
      obtain ⟨_, _, _, n, _, h1⟩ := (show ObjOk X.prog X.w H s.heap a (.frz ob (.lst xs)) from I.hok a _ e)
      exact ⟨_, h1, rfl⟩
    | @tup a xs e =>
      cases ht
      cases r
      obtain ⟨_, _, _, o, h1, h2, _⟩ := (show ObjOk X.prog X.w H s.heap a (.tup xs) from I.hok a _ e)
      exact ⟨o, h1, h2⟩
    | @dK a kvs e =>
      cases ht
      cases r
      obtain ⟨_, _, vs, _, o, es, ep, h1, h2, _⟩ := (show ObjOk X.prog X.w H s.heap a (.dK kvs) from I.hok a _ e)
      exact ⟨o, h1, h2.1⟩
    | @dT a kvs e =>
      cases ht
      cases r
      obtain ⟨_, _, xs, _, o, es, ep, h1, h2, _⟩ := (show ObjOk X.prog X.w H s.heap a (.dT kvs) from I.hok a _ e)
      exact ⟨o, h1, h2.1⟩
    | ins e cl ha hn htk hm => cases ht
  | byt b =>
    cases ht
    obtain ⟨t, rfl⟩ := r
    exact (rfl : typeOf _ = _)
  | @set a S m e =>
    cases ht
    cases r
    obtain ⟨o, _, _, _, h1, ex, _⟩ := I.hok a _ e
    exact ⟨o, h1, ex.1⟩
  | @kList a o e c =>
    cases ht
    cases r
    exact ⟨o, I.kIn a o e, c⟩
  | @kTuple a o e c =>
    cases ht
    cases r
    exact ⟨o, I.kIn a o e, c⟩
  | @kDict a o e c =>
    cases ht
    cases r
    exact ⟨o, I.kIn a o e, c⟩
  | @fTuple a ob xs e =>
    cases ht
    cases r
    obtain ⟨_, _, _, _, o, h1, h2, _⟩ := (show ObjOk X.prog X.w H s.heap a (.frz ob (.tup xs)) from I.hok a _ e)
    exact ⟨o, h1, h2⟩
  | @fDict a ob kvs e =>
    cases ht
    cases r
    obtain ⟨_, _, _, vs, _, o, es, ep, h1, h2, _⟩ := (show ObjOk X.prog X.w H s.heap a (.frz ob (.dK kvs)) from I.hok a _ e)
    exact ⟨o, h1, h2.1⟩
end
end HT
set_option Elab.async false
set_option linter.all false
set_option maxRecDepth 100000
set_option maxHeartbeats 800000
namespace HT
open PySem PySem.Spec L2
open PyProof.Rows hiding St

section
variable {T : Str → Addr} {X : Cx} {C f : Addr} {fd : FuncData} {ps : List Str} {M : List D → Cm D} {k : Nat}
theorem tyRef {K : PySem.W.Frag} {H : Hp} {a : Addr} {n : String} (h : TyX K H (.ref a) (.type n)) (hn : n ∈ ["NoneType", "bool", "int", "str", "list", "tuple", "dict"]) : n = "list" ∨ n = "tuple" ∨ n = "dict" := by
  generalize ht : Value.type n = t at h
  generalize hv : V.ref a = v at h
  cases h with
  | base b =>
    cases b with
    | non => cases hv
    | bl y => cases hv
    | int i => cases hv
    | str i => cases hv
    | flt i => cases hv
    | lst e =>
      cases ht
      exact .inl rfl
    | frz e =>
      cases ht
      exact .inl rfl
    | tup e =>
      cases ht
      exact .inr (.inl rfl)
    | dK e =>
      cases ht
      exact .inr (.inr rfl)
    | dT e =>
      cases ht
      exact .inr (.inr rfl)
    | ins e cl ha hn htk hm => cases ht
  | byt b => cases hv
  | set e =>
    cases ht
    simp at hn
  | kList e c =>
    cases ht
    exact .inl rfl
  | kTuple e c =>
    cases ht
    exact .inr (.inl rfl)
  | kDict e c =>
    cases ht
    exact .inr (.inr rfl)
  | fTuple e =>
    cases ht
    exact .inr (.inl rfl)
  | fDict e =>
    cases ht
    exact .inr (.inr rfl)
theorem op_eqR (ec : EqC X.K C f) (G0 : FT X.prog X.w X.K X.mg X.base T k f fd ps M) (lv : Lv k X.A) (hb : Binds X.K fd ps []) : OpR X (compareOp .Eq) (rEqR T X.K C M) := by
  intro pins s σ H x y v u Q I rx ry h
  obtain ⟨a, dx, fs, n, rfl, ha, ty, hn, sp⟩ := h
  cases ry
  obtain ⟨mA, O, _⟩ := ins_get I.hok ha
  obtain ⟨od, J, _⟩ := O.look
  have hu := lv.room.units0
  have X0 := I.kIn
  have hget : s.heap.get? a = some (PySem.W.instObj C dx) := J.at_
  have go : wpAny (model X.prog X.w) X.A (call (.ref f) [.ref a, v]) (fun w s' => ∃ r, w = .bool r ∧ EP X pins σ Q (.bool r) s') X.xe s := by
    refine run_eq G0 lv hb I I.env0 (.cons (show RelV (.ref a) (.ref a) from rfl) (.cons rx .nil)) sp fun w s' hw => ?_
    obtain ⟨z, H', I', rz, b, rfl, q⟩ := hw
    cases rz
    exact ⟨b, rfl, .bl b, H', I', rfl, q⟩
  have hT := ty_is I rx ty
  have sub := ec.sub n hn
  have isn : PySem.W.Looks (model X.prog X.w) s.heap (isInstance (.ref a) (.type n)) false := own_isn X0 J sub
  cases x with
  | non =>
    cases ty with
    | base b =>
      cases b
      have e : v = .none := rx
      subst e
      exact rc_refl hu X0 J hT sub F.slot_NoneType_eq F.entry_NoneType_eq (F.args_NoneType_eq_2 _ _) dec_none ec.hs ec.hf go
  | bl y =>
    cases ty with
    | base b =>
      cases b
      have e : v = .bool y := rx
      subst e
      exact rc_refl hu X0 J hT sub F.slot_bool_eq F.entry_int_eq (F.args_int_eq_2 _ _) (dec_bool hget) ec.hs ec.hf go
  | int i =>
    cases ty with
    | base b =>
      cases b
      obtain ⟨t, rfl⟩ := rx
      exact rc_refl hu X0 J hT sub F.slot_int_eq F.entry_int_eq (F.args_int_eq_2 _ _) (dec_int hget) ec.hs ec.hf go
  | str i =>
    cases ty with
    | base b =>
      cases b
      obtain ⟨t, rfl⟩ := rx
      exact rc_refl hu X0 J hT sub F.slot_str_eq F.entry_str_eq (F.args_str_eq_2 _ _) (dec_str hget) ec.hs ec.hf go
  | ref p =>
    cases rx
    rcases tyRef ty hn with rfl | rfl | rfl
    · exact rc_refl hu X0 J hT sub F.slot_list_eq F.entry_list_eq (F.args_list_eq_2 _ _) (dec_list isn) ec.hs ec.hf go
    · exact rc_refl hu X0 J hT sub F.slot_tuple_eq F.entry_tuple_eq (F.args_tuple_eq_2 _ _) (dec_tuple isn) ec.hs ec.hf go
    · exact rc_refl hu X0 J hT sub F.slot_dict_eq F.entry_dict_eq (F.args_dict_eq_2 _ _) (dec_dict isn) ec.hs ec.hf go
  | byt b =>
    cases ty with
    | base b => cases b
    | byt b => simp at hn
  | flt b =>
    cases ty with
    | base b =>
      cases b
      simp at hn
  | ty m =>
    cases ty with
    | base b => cases b
/-- the builtin type's name of a tree -/
def bTy (S : Sto) (d : D) : Option String := match tyD S d with
  | some (.b n) => some n
  | _ => none
theorem bTy_ok {K : PySem.W.Frag} {ρ : Nat → Option Addr} {Z : Hid} {H : Hp} {S : Sto} (w : Wd T K ρ S Z H) {d : D} {v : V} {n : String} (r : Rep T K ρ (Fz ρ Z H) d v) (h : bTy S d = some n) : TyX K H v (.type n) ∧ n ∈ ["NoneType", "bool", "int", "str", "list", "tuple", "dict"] := by
  unfold bTy at h
  cases d with
  | non =>
    cases h
    cases r
    exact ⟨.base .non, by decide⟩
  | bl b =>
    cases h
    cases r
    exact ⟨.base (.bl _), by decide⟩
  | int i =>
    cases h
    cases r
    exact ⟨.base (.int _), by decide⟩
  | str x =>
    cases h
    cases r
    exact ⟨.base (.str _), by decide⟩
  | lst ds =>
    cases h
    obtain ⟨a, vs, rfl, q, _⟩ := r
    exact ⟨.base (.lst (Fz_sub _ _ q)), by decide⟩
  | klst ds =>
    cases h
    obtain ⟨a, vs, rfl, q, _⟩ := r
    exact ⟨seqL_ty (Fz_sub.seqL q), by decide⟩
  | tup ds =>
    cases h
    obtain ⟨a, vs, rfl, q, _⟩ := r
    exact ⟨seqT_ty (Fz_sub.seqT q), by decide⟩
  | dK ds =>
    cases h
    obtain ⟨a, vs, rfl, q, _⟩ := r
    exact ⟨.base (.dK (Fz_sub _ _ q)), by decide⟩
  | dT ds =>
    cases h
    obtain ⟨a, vs, rfl, q, _⟩ := r
    exact ⟨.base (.dT (Fz_sub _ _ q)), by decide⟩
  | obj C fs => cases h
  | exn C fs => cases h
  | glob x => cases h
  | ty n => cases h
  | cell k =>
    obtain ⟨a, rfl, q⟩ := r
    cases hk : S[k]? with
    | none =>
      have h2 : (match (match S[k]? with | some (.lst _) => some (Ty.b "list") | some (.dK _) => some (.b "dict") | some (.dT _) => some (.b "dict") | some (.ins C _) => some (.own C) | none => none) with | some (.b n) => some n | _ => none) = some n := h
      rw [hk] at h2
      cases h2
    | some co =>
      have h2 : (match (match S[k]? with | some (.lst _) => some (Ty.b "list") | some (.dK _) => some (.b "dict") | some (.dT _) => some (.b "dict") | some (.ins C _) => some (.own C) | none => none) with | some (.b n) => some n | _ => none) = some n := h
      rw [hk] at h2
      obtain ⟨a', o, h1, _, h3, h4⟩ := w.cells k co hk
      rw [q] at h1
      cases h1
      cases co with
      | lst ds =>
        cases h2
        obtain ⟨vs, rfl, _⟩ := h4
        exact ⟨.base (.lst h3), by decide⟩
      | dK ds =>
        cases h2
        obtain ⟨vs, rfl, _⟩ := h4
        exact ⟨.base (.dK h3), by decide⟩
      | dT ds =>
        cases h2
        obtain ⟨vs, rfl, _⟩ := h4
        exact ⟨.base (.dT h3), by decide⟩
      | ins C fs => cases h2
/-- an object of the class -/
def isOb (C : Str) (S : Sto) (d : D) : Bool := match asCO S d with
  | some (.ins C' _) => C' == C
  | _ => false
theorem isOb_ok {K : PySem.W.Frag} {ρ : Nat → Option Addr} {Z : Hid} {H : Hp} {S : Sto} {Cn : Str} (w : Wd T K ρ S Z H) {d : D} {v : V} (r : Rep T K ρ (Fz ρ Z H) d v) (h : isOb Cn S d = true) : ∃ a dx fs, v = .ref a ∧ H a = some (.ins (T Cn) dx fs) := by
  unfold isOb at h
  cases hc : asCO S d with
  | none =>
    rw [hc] at h
    cases h
  | some c =>
    rw [hc] at h
    obtain ⟨a, o, rfl, h1, h2⟩ := asCO_ok w r hc
    cases c with
    | ins C' fs =>
      have e : C' = Cn := eq_of_beq h
      subst e
      obtain ⟨dx, vs, rfl, _⟩ := h2
      exact ⟨a, dx, vs, rfl, h1⟩
    | _ => cases h
def boolR (neg : Bool) (r : R D) : R D := match r with
  | .ok (.bl b) S => .ok (.bl (neg ^^ b)) S
  | _ => .stuck
/-- x == y, x != y -/
def gEqO (neg : Bool) (C : Str) (M : List D → Cm D) (x y : D) : Cm D := fun S =>
  if isOb C S x = true then (if isOb C S y = true ∨ (bTy S y).isSome = true then boolR neg (M [x, y] S) else .stuck)
  else if isOb C S y = true then (if neg = false ∧ (bTy S x).isSome = true then boolR neg (M [y, x] S) else .stuck)
  else gEq neg x y S
theorem rn_of {W : WX} {σ : St} {ρ : Nat → Option Addr} {S : Sto} {Z : Hid} {H : Hp} {x y : D} {v u : V} {Q : VK} {neg : Bool} (w : Wd T X.K ρ S Z H) (r1 : Rep T X.K ρ (Fz ρ Z H) x v) (r2 : Rep T X.K ρ (Fz ρ Z H) y u) (g : Good T X.K (rD T X.K) W σ Q ρ Z H (boolR neg (M [x, y] S))) :
    Rn T X.K M [v, u] H (fun z H' => ∃ b, z = .bl b ∧ Q (.bl (neg ^^ b)) H') := by
  refine ⟨ρ, S, Z, [x, y], w, RepL.cons r1 (RepL.one r2), ?_⟩
  cases hM : M [x, y] S with
  | stuck =>
    rw [hM] at g
    exact g
  | exc C fs S' =>
    rw [hM] at g
    exact g.elim
  | ok d S' =>
    rw [hM] at g
    cases d with
    | bl b => exact fun z H' ρ' e w' q => ⟨b, q, g _ H' ρ' e w' rfl⟩
    | _ => exact g.elim
theorem op2_eqO {Cn : Str} (hu : X.A.units + 64 < cLine) (ec : EqC X.K (T Cn) f) (G0 : FT X.prog X.w X.K X.mg X.base T k f fd ps M) (lv : Lv k X.A) (hb : Binds X.K fd ps []) :
    OpR X (compareOp .Eq) (fun x y H Q => rEqO T X.K (T Cn) M x y H Q ∨ (fun x y H Q => rEqR T X.K (T Cn) M x y H Q ∨ rEqD X.K x y H Q) x y H Q) := OpR.or (op_eqO ec G0 lv hb) (OpR.or (op_eqR ec G0 lv hb) (op_eqD hu))
theorem ok_gEqO {Cn : Str} : Op2 T X (fun x y H Q => rEqO T X.K (T Cn) M x y H Q ∨ (fun x y H Q => rEqR T X.K (T Cn) M x y H Q ∨ rEqD X.K x y H Q) x y H Q) (gEqO false Cn M) := by
  intro W σ ρ S Z H x y v u Q w r1 r2 g
  unfold gEqO at g
  split at g
  · rename_i hx
    split at g
    · rename_i hy
      obtain ⟨a, dx, fs, rfl, ha⟩ := isOb_ok w r1 hx
      have rn := rn_of (neg := false) w r1 r2 g
      simp only [Bool.false_xor] at rn
      refine .inl ⟨a, dx, fs, rfl, ha, ?_, rn⟩
      rcases hy with hy | hy
      · obtain ⟨b, dy, gs, rfl, hb⟩ := isOb_ok w r2 hy
        exact .own hb
      · obtain ⟨n, hn⟩ := Option.isSome_iff_exists.mp hy
        obtain ⟨q1, q2⟩ := bTy_ok w r2 hn
        exact .b q1 q2
    · exact g.elim
  · split at g
    · rename_i hy
      split at g
      · rename_i hc
        obtain ⟨a, dx, fs, rfl, ha⟩ := isOb_ok w r2 hy
        have rn := rn_of (neg := false) w r2 r1 g
        simp only [Bool.false_xor] at rn
        obtain ⟨n, hn⟩ := Option.isSome_iff_exists.mp hc.2
        obtain ⟨q1, q2⟩ := bTy_ok w r1 hn
        exact .inr (.inl ⟨a, dx, fs, n, rfl, ha, q1, q2, rn⟩)
      · exact g.elim
    · exact .inr (.inr (ok_gEq W σ ρ S Z H x y v u Q w r1 r2 g))
theorem op2_neO {Cn : Str} (hu : X.A.units + 64 < cLine) (ec : EqC X.K (T Cn) f) (G0 : FT X.prog X.w X.K X.mg X.base T k f fd ps M) (lv : Lv (k + 1) X.A) (hb : Binds X.K fd ps []) :
    OpR X (compareOp .NotEq) (fun x y H Q => rNeO T X.K (T Cn) M x y H Q ∨ rNeD X.K x y H Q) := OpR.or (op_neO ec G0 lv hb) (op_neD hu)
theorem ok_gNeO {Cn : Str} : Op2 T X (fun x y H Q => rNeO T X.K (T Cn) M x y H Q ∨ rNeD X.K x y H Q) (gEqO true Cn M) := by
  intro W σ ρ S Z H x y v u Q w r1 r2 g
  unfold gEqO at g
  split at g
  · rename_i hx
    split at g
    · rename_i hy
      obtain ⟨a, dx, fs, rfl, ha⟩ := isOb_ok w r1 hx
      have rn := rn_of (neg := true) w r1 r2 g
      simp only [Bool.true_xor] at rn
      refine .inl ⟨a, dx, fs, rfl, ha, ?_, rn⟩
      rcases hy with hy | hy
      · obtain ⟨b, dy, gs, rfl, hb⟩ := isOb_ok w r2 hy
        exact .own hb
      · obtain ⟨n, hn⟩ := Option.isSome_iff_exists.mp hy
        obtain ⟨q1, q2⟩ := bTy_ok w r2 hn
        exact .b q1 q2
    · exact g.elim
  · split at g
    · rename_i hy
      split at g
      · rename_i hc
        cases hc.1
      · exact g.elim
    · exact .inr (ok_gNe W σ ρ S Z H x y v u Q w r1 r2 g)
end
end HT
set_option Elab.async false
set_option linter.all false
set_option maxRecDepth 100000
set_option maxHeartbeats 800000
namespace HT
open PySem PySem.Spec L2
open PyProof.Rows hiding St

/-! ### repr -/
/-- an empty dict -/
def noKv (S : Sto) (d : D) : Bool := match asCO S d with
  | some (.dK []) => true
  | _ => false
def gRepr (x : D) : Cm D := fun S => match deep S x with
  | some p => if p.showable = true ∧ p.hasDict = false ∧ p.depth ≤ 50 ∧ p.shown.length ≤ sizeLine then .ok (.str p.shown) S else .stuck
  | none => if noKv S x = true then .ok (.str (PyData.dict []).shown) S else .stuck
def rRepr (K : PySem.W.Frag) : List V → Hp → VK → Prop := fun xs H Q => ∃ x, xs = [x] ∧ ((∃ p, Dp K H x p ∧ (p.showable = true ∧ p.hasDict = false ∧ p.depth ≤ 50 ∧ p.shown.length ≤ sizeLine) ∧ Q (.str p.shown) H) ∨ ∃ a, x = .ref a ∧ H a = some (.dK []) ∧ Q (.str (PyData.dict []).shown) H)
section
variable {T : Str → Addr} {X : Cx} {k : Nat}
theorem call_reprD (lv : Lv k X.A) : CallR X (.builtin "repr") (rRepr X.K) := by
  intro pins s σ H xs us Q I r h
  obtain ⟨x, rfl, h⟩ := h
  obtain ⟨u, rfl, ru⟩ := vals1 r
  have hu := lv.room.un
  have fin : ∀ (z : Str) (h' : Heap) (tu tk : Tok), (∀ b o, s.heap.get? b = some o → h'.get? b = some o) → Q (.str z) H → EP X pins σ Q (.str z tu) { s with heap := h', toks := tk } := fun z h' tu tk k q => ⟨.str z, H, I.kept (t' := tk) k, ⟨_, rfl⟩, q⟩
  rcases h with ⟨p, hp, ⟨h1, h2, h3, h4⟩, q⟩ | ⟨a, rfl, ha, q⟩
  · obtain ⟨as, rd⟩ := Dp.reads I p x u hp ru
    cases rd with
    | none => exact PySem.P.repr_of_none (fin _ _ _ _ (fun _ _ e => e) q)
    | bool b => exact PySem.P.repr_of_bool (fin _ _ _ _ (fun _ _ e => e) q)
    | int i t => exact PySem.P.repr_of_int (of_decide_eq_true h1) (fin _ _ _ _ (fun _ _ e => e) q)
    | str y t => exact PySem.P.repr_of_str (fin _ _ _ _ (fun _ _ e => e) q) h4
    | list e1 e2 e3 e4 => exact repr_of_reads' (.list e1 e2 e3 e4) h1 (fun z => by rw [h2] at z; cases z) lv.gd (by omega) (fun b o e => e) (fun h' tu tk k => fin _ h' tu tk k q) h4
    | tuple e1 e2 e3 e4 => exact repr_of_reads' (.tuple e1 e2 e3 e4) h1 (fun z => by rw [h2] at z; cases z) lv.gd (by omega) (fun b o e => e) (fun h' tu tk k => fin _ h' tu tk k q) h4
    | dict e1 e2 e3 e4 e5 => cases h2
  · cases ru
    obtain ⟨_, hS, vs, kv, o, es, ep, e1, e2, e3, e4, e5, e6⟩ := (show ObjOk X.prog X.w H s.heap a (.dK []) from I.hok a _ ha)
    cases kv
    have ee : es.toList = [] := by
      cases hh : es.toList with
      | nil => rfl
      | cons y r =>
        rw [hh] at e5
        cases e5
    have rd : Reads s.heap (.ref a) (.dict []) ([a] ++ []) := .dict (as := []) (bs := []) e1 e2.1 e3 (by rw [ee]; exact .nil) (by rw [ee]; exact .nil)
    have hdp : (PyData.dict []).depth ≤ 50 := by decide
    refine repr_of_reads' rd rfl (fun _ z => ?_) lv.gd (by omega) (fun b o e => e) (fun h' tu tk k => fin _ h' tu tk k q) (by rw [sizeLine_eq]; decide +kernel)
    have z2 : sysModules = a := by simpa using z
    rw [z2] at hS
    simp at hS
theorem ok_gRepr : OpN T X (rRepr X.K) (a1 gRepr) := opN1 fun W σ ρ S Z H x v Q w r g => by
  unfold gRepr at g
  refine ⟨v, rfl, ?_⟩
  split at g
  · rename_i p hp
    split at g
    · rename_i hc
      exact .inl ⟨p, deep_dp w hp r, hc, g.now w rfl⟩
    · exact g.elim
  · split at g
    · rename_i hc
      unfold noKv at hc
      cases ha : asCO S x with
      | none =>
        rw [ha] at hc
        cases hc
      | some c =>
        rw [ha] at hc
        obtain ⟨a, o, rfl, h1, h2⟩ := asCO_ok w r ha
        cases c with
        | dK kvs =>
          cases kvs with
          | nil =>
            obtain ⟨vs, rfl, rv⟩ := h2
            have ev : vs = [] := rv
            subst ev
            exact .inr ⟨a, rfl, h1, g.now w rfl⟩
          | cons _ _ => cases hc
        | _ => cases hc
    · exact g.elim
/-- {} -/
theorem of_dict0 {W : WX} {pos : Pos} : OF T X W (.Dict [] [] pos) (fun _ S => .ok (.dK []) S) := pe_imp pe_dnewK fun σ H Q q => by
  obtain ⟨ρ, S, Z, env, w, er, g⟩ := q
  exact fun p hp => g p _ ρ (new_neu w hp ⟨[], rfl, rfl⟩)
/-- int -/
def gInt : D → Cm D
  | .int i => pure (.int i)
  | .bl b => pure (.int (if b then 1 else 0))
  | _ => stk
theorem ok_gInt : OpN T X (fun xs H Q => (∃ i, xs = [.int i] ∧ Q (.int i) H) ∨ ∃ k, xs = [.bl k] ∧ Q (.int (if k then 1 else 0)) H) (a1 gInt) := opN1 fun W σ ρ S Z H x v Q w r g => by
  cases x with
  | int i =>
    cases r
    exact .inl ⟨i, rfl, g.now w rfl⟩
  | bl b =>
    cases r
    exact .inr ⟨_, rfl, g.now w rfl⟩
  | _ => exact g.elim
def gMax (x y : D) : Cm D := match x, y with
  | .int i, .int j => pure (.int (if j > i then j else i))
  | _, _ => stk
theorem ok_gMax : OpN T X (fun xs H Q => ∃ i j, xs = [.int i, .int j] ∧ Q (.int (if j > i then j else i)) H) (a2 gMax) := opN2 fun W σ ρ S Z H x y v u Q w r1 r2 g => by
  cases x with
  | int i =>
    cases y with
    | int j =>
      cases r1
      cases r2
      exact ⟨i, j, rfl, g.now w rfl⟩
    | _ => exact g.elim
  | _ => exact g.elim
def gBits : D → Cm D
  | .int i => pure (.int (Builtin.Int.intBits i : Nat))
  | _ => stk
theorem pf_bits {W : WX} {o : Expr} {Fo : FE} {apos pos : Pos} (ho : PF T X W o Fo) (hbase : attributeBase o "bit_length" X.env (eval o X.env) = eval o X.env := by rfl) (hline : (apos.endLine == pos.line) = true := by rfl) : PF T X W (.Call (.Attribute o "bit_length" apos) [] [] pos) (f1 gBits Fo) :=
  pe_imp (pe_bits ho hbase hline) fun σ H Q q => lift1 (r := fun x H1 => ∃ i, x = .int i ∧ Q (.int (Builtin.Int.intBits i : Nat)) H1) q fun ρ S Z H x v w r g => by
    cases x with
    | int i => exact ⟨i, r, g _ H ρ .refl w rfl⟩
    | _ => exact g.elim
/-- a list of the module, of constants -/
theorem pf_klst {W : WX} {x : Str} {a : Addr} {ds : List D} {vs : List V} {pos : Pos} (hg : Gl X x) (hm : X.mg x = some (.ref a)) (hs : ∀ H, SqL X.K H a vs) (hr : CsD T X.K ds vs) (hd : (x == ("__debug__" : Str)) = false := by decide) : PF T X W (.Name x pos) (fun _ => pure (.klst ds)) :=
  pf_const (pe_glob hg hm (show RelV (.ref a) (.ref a) from rfl) hd) fun ρ H => ⟨a, vs, rfl, hs H, hr ρ H⟩
end
end HT
set_option Elab.async false
set_option linter.all false
set_option maxRecDepth 100000
set_option maxHeartbeats 800000
namespace HT
open PySem PySem.Spec L2
open PyProof.Rows hiding St
section
variable {P : Program} {w : World} {K : PySem.W.Frag} {mg : Str → Option Value} {base : Heap} {N : List Str} {qual : Str} {scope : Scope} {f : Addr} {cdv : Value} {A : Around} {outer : List PySem.Env} {s : Shared} {H : Hp} {E : XK}
theorem ctx_takes : Takes (ctx P w K mg base N qual scope f cdv A outer s H E) (fun c d _ H' => E c d H') := takes_of rfl rfl rfl rfl
theorem ctx_po : PassesOwn (model P w) (ctx P w K mg base N qual scope f cdv A outer s H E).A (ctx P w K mg base N qual scope f cdv A outer s H E).env (ctx P w K mg base N qual scope f cdv A outer s H E).xe := passes_of (X := ctx P w K mg base N qual scope f cdv A outer s H E) rfl
end
theorem Lv.u65 {k : Nat} {A : Around} (lv : Lv k A) : A.units + 65 < cLine := by
  have := lv.room.un
  omega
end HT
set_option Elab.async false
set_option linter.all false
set_option maxRecDepth 100000
set_option maxHeartbeats 800000
namespace HT
open PySem PySem.Spec L2
open PyProof.Rows hiding St
open He (ga ma fAd eqO eqO_ok ba)

/-! ### facts of the written part, as questions with yes or no -/
section
variable {K : PySem.W.Frag} {C : Addr}
def ty7 : List String := ["NoneType", "bool", "int", "str", "list", "tuple", "dict"]
def eqB (K : PySem.W.Frag) (C : Addr) : Bool := eqO (PySem.W.findIn K (.ref C) "__eq__") (some (some (.ref (ma K C "__eq__")))) && (PySem.W.isFn K (.ref (ma K C "__eq__")) && (eqO (PySem.W.findIn K (.ref C) "__ne__") (some (some (.builtin "object.__ne__"))) &&
  (decide (PySem.W.mroIn K C (.type "object") = some true) && (ty7.all (fun n => decide (PySem.W.subIn K (.ref C) (.type n) = some false)) && ty7.all fun n => PySem.W.notFirst K C (.type n)))))
theorem eqB_ok (h : eqB K C = true) : EqC K C (ma K C "__eq__") := by
  obtain ⟨h1, h⟩ := ba h
  obtain ⟨h2, h⟩ := ba h
  obtain ⟨h3, h⟩ := ba h
  obtain ⟨h4, h⟩ := ba h
  obtain ⟨h5, h6⟩ := ba h
  exact ⟨eqO_ok h1, h2, eqO_ok h3, of_decide_eq_true h4, fun n hn => of_decide_eq_true (List.all_eq_true.mp h5 n hn), fun n hn => List.all_eq_true.mp h6 n hn⟩
def clsB (K : PySem.W.Frag) (C : Addr) : Bool := PySem.W.plainGet K C Str.empty && (PySem.W.hasDictIn K C && (PySem.W.plainOver K C && eqO (PySem.W.findIn K (.ref C) "__setattr__") (some (some (.builtin "object.__setattr__")))))
theorem clsB_ok (h : clsB K C = true) : Cls K C := by
  obtain ⟨h1, h⟩ := ba h
  obtain ⟨h2, h⟩ := ba h
  obtain ⟨h3, h4⟩ := ba h
  exact ⟨h1, h2, h3, eqO_ok h4⟩
def clB (K : PySem.W.Frag) (C : Addr) : Bool := eqO (PySem.W.findIn K (.ref C) "__class__") (some (some (.builtin "object.__class__"))) && (decide (PySem.W.specialIn K (.builtin "object.__class__") "__get__" = some (some (.builtin "getset_descriptor.__get__"))) &&
  (decide (PySem.W.takesIn K (.builtin "object.__class__") = some true) && decide (PySem.W.mroIn K C (.type "object") = some true)))
def obB (K : PySem.W.Frag) (C : Addr) : Bool := clsB K C && clB K C
theorem obB_ok (h : obB K C = true) : ObC K C := by
  obtain ⟨h0, h⟩ := ba h
  obtain ⟨h1, h⟩ := ba h
  obtain ⟨h2, h⟩ := ba h
  obtain ⟨h3, h4⟩ := ba h
  exact ⟨clsB_ok h0, eqO_ok h1, of_decide_eq_true h2, of_decide_eq_true h3, of_decide_eq_true h4⟩
def excB (K : PySem.W.Frag) (C : Addr) : Bool := xfB K C && clB K C
theorem excB_ok (h : excB K C = true) : ExcC K C := by
  obtain ⟨h0, h⟩ := ba h
  obtain ⟨h1, h⟩ := ba h
  obtain ⟨h2, h⟩ := ba h
  obtain ⟨h3, h4⟩ := ba h
  have x := xfB_ok h0
  exact ⟨x.ga, x.gg, x.exC, x.hdC, eqO_ok h1, of_decide_eq_true h2, of_decide_eq_true h3, of_decide_eq_true h4⟩
/-- a class over ValueError -/
def oexB (K : PySem.W.Frag) (C : Addr) : Bool := match K.lookup C with
  | some ⟨.type "type", _, .cls cd, sl⟩ => (match cd.mro, sl.toList with
    | .ref C' :: bm, [_, _, _, _, some (.builtin n), _] => C' == C && (n == "ValueError.__new__" && (!cd.hasDel && (cd.hasDict && PySem.HandSPX.refsVE bm)))
    | _, _ => false)
  | _ => false
theorem oexB_ok (h : oexB K C = true) : ∃ nm q N bs bm sn sub ab col dd k0 k1 k2 k3 k5, K.lookup C = some (excClassObj nm q C N bs bm true sn sub ab col dd k0 k1 k2 k3 k5 "ValueError.__new__") ∧ PySem.HandSPX.refsVE bm = true := by
  unfold oexB at h
  split at h
  · rename_i dd cd sl ho
    split at h
    · rename_i C' bm k0 k1 k2 k3 n k5 hm hs
      obtain ⟨h1, h⟩ := ba h
      obtain ⟨h2, h⟩ := ba h
      obtain ⟨h3, h⟩ := ba h
      obtain ⟨h4, h5⟩ := ba h
      have e1 : C' = C := eq_of_beq h1
      have e2 : n = "ValueError.__new__" := eq_of_beq h2
      subst e1 e2
      obtain ⟨nm, bs, mro, ns, qn, hd, sn, sub, ab, col, hdel⟩ := cd
      dsimp only at hm h3 h4
      subst hm h4
      have e3 : hdel = false := by simpa using h3
      subst e3
      have hsl : sl = #[k0, k1, k2, k3, some (.builtin "ValueError.__new__"), k5] := by
        obtain ⟨l⟩ := sl
        simp only at hs
        rw [hs]
      subst hsl
      exact ⟨nm, qn, ns, bs, bm, sn, sub, ab, col, dd, k0, k1, k2, k3, k5, ho, h5⟩
    · cases h
  · cases h
abbrev ExW : Type := Option (Str × Str × Arguments × FuncBody × Scope × Addr × Addr)
def exW (K : PySem.W.Frag) (c : Str) : ExW := match K.lookup (ma K (ga K c) "__init__") with
  | some ⟨_, _, .func fd, _⟩ => some (fd.name, fd.qualname, fd.params, fd.body, fd.scope, fd.globals, fd.builtins)
  | _ => none
def exCl (P : Program) (K : PySem.W.Frag) (C : Addr) : Bool := match K.lookup (ma K C "__init__") with
  | some ⟨_, _, .func fd, _⟩ => (match fd.closure, fd.code with
    | [(n, cc)], .ref cda => n == ("__class__" : Str) && (He.dflB K fd.defaults [V.non] && (PySem.W.codeIn K (.ref cda) fd.qualname && ((match K.lookup cc with
        | some ⟨_, _, .cell (some (.ref D)), _⟩ => D == C
        | _ => false) && (match K.lookup cda with
        | some ⟨_, _, .fields vs, _⟩ => (match vs[2]? with
          | some (Value.str file _) => ((P.main.file : Str) == file)
          | _ => false)
        | _ => false))))
    | _, _ => false)
  | _ => false
def exB (P : Program) (K : PySem.W.Frag) (c f : Str) : Bool := oexB K (ga K c) && (eqO (PySem.W.findIn K (.ref (ga K c)) "__setattr__") (some (some (.builtin "object.__setattr__"))) && (decide (PySem.W.subIn K (.ref (ga K c)) (.type "BaseException") = some true) &&
  (decide (PySem.W.typeIn K (.ref (ga K c)) = some (.type "type")) && (PySem.W.keepIn K (.ref (ga K c)) && (eqO (PySem.W.findIn K (.ref (ga K c)) f) (some none) && (decide (PySem.W.subIn K (.ref (ga K c)) (.type "ValueError") = some true) &&
  (eqO (PySem.W.ks_superIn K (ga K c) (ga K c) "__init__") (some (some (.builtin "ValueError.__init__"))) && (decide (PySem.W.mroIn K (ga K c) (.ref (ga K c)) = some true) && (eqO (PySem.W.nsIn K cStatics "thirdparty.any") (some none) &&
  (eqO (PySem.W.findIn K (.ref (ga K c)) "__init__") (some (some (.ref (ma K (ga K c) "__init__")))) && (decide (PySem.W.typeIn K (.ref (ma K (ga K c) "__init__")) = some (.type "function")) && exCl P K (ga K c))))))))))))
theorem exB_ok {P : Program} {c f qual : Str} {params : Arguments} {p0 p1 p2 p3 p4 p5 p6 p7 p8 p9 : Pos} {scope : Scope} (h : exB P K c f = true) (hw : exW K c = some (("__init__" : Str), qual, params, FuncBody.stmts (exBody f p0 p1 p2 p3 p4 p5 p6 p7 p8 p9), scope, mainGlobals, builtinsNs))
    (tp : (P.main.scope.names.lookup ("super" : Str)).isSome = false) (har : ∃ ar, (params.posonlyargs ++ params.args).head? = some ar ∧ ar.arg = "self")
    (s1 : scope.names.lookup ("super" : Str) = some .globalImplicit) (s2 : scope.names.lookup ("__class__" : Str) = some .free) (s3 : scope.names.lookup ("self" : Str) = some .local) (s4 : scope.names.lookup f = some .local) (s5 : scope.kind = .function)
    (s6 : ∀ x ∈ scope.names, x.2 ≠ .cell) (s7 : scope.isCoroutine = false) (s8 : scope.isGenerator = false) (hev : SupEv f p0 p1 p2 p3 p4) : ∃ fd, ExI P K (ga K c) f (fAd K (c, some "__init__")) fd ∧
      ∃ (dV kV doc pm ct : Value) (an : Option Addr) (cda cc : Addr), DflV K dV [V.non] ∧ fd = PySem.W.ksFn "__init__" qual params (exBody f p0 p1 p2 p3 p4 p5 p6 p7 p8 p9) scope dV kV doc pm an (.ref cda) ct cc := by
  obtain ⟨a1, h⟩ := ba h
  obtain ⟨a2, h⟩ := ba h
  obtain ⟨a3, h⟩ := ba h
  obtain ⟨a4, h⟩ := ba h
  obtain ⟨a5, h⟩ := ba h
  obtain ⟨a6, h⟩ := ba h
  obtain ⟨a7, h⟩ := ba h
  obtain ⟨a8, h⟩ := ba h
  obtain ⟨a9, h⟩ := ba h
  obtain ⟨a10, h⟩ := ba h
  obtain ⟨a11, h⟩ := ba h
  obtain ⟨a12, h⟩ := ba h
  unfold exCl at h
  unfold exW at hw
  cases q : K.lookup (ma K (ga K c) "__init__") with
  | none =>
    rw [q] at h
    cases h
  | some o =>
    obtain ⟨oc, od, dt, osl⟩ := o
    rw [q] at h hw
    cases dt with
    | func fd =>
      obtain ⟨n1, n2, n3, n4, n5, n6, n7, n8, n9, n10, n11, n12, n13, n14, n15⟩ := fd
      have e2 : (some (n1, n2, n3, n4, n5, n6, n15) : ExW) = some (("__init__" : Str), qual, params, FuncBody.stmts (exBody f p0 p1 p2 p3 p4 p5 p6 p7 p8 p9), scope, mainGlobals, builtinsNs) := hw
      simp only [Option.some.injEq, Prod.mk.injEq] at e2
      obtain ⟨g1, g2, g3, g4, g5, g6, g7⟩ := e2
      subst g1 g2 g3 g4 g5 g6 g7
      dsimp only at h
      split at h
      · rename_i n cc cda
        obtain ⟨b1, h⟩ := ba h
        obtain ⟨b0, h⟩ := ba h
        obtain ⟨b2, h⟩ := ba h
        obtain ⟨b3, b4⟩ := ba h
        have en : n = ("__class__" : Str) := eq_of_beq b1
        subst en
        refine ⟨_, ⟨⟨oexB_ok a1, eqO_ok a2, of_decide_eq_true a3, of_decide_eq_true a4, a5⟩, eqO_ok a6, of_decide_eq_true a7, eqO_ok a8, of_decide_eq_true a9, eqO_ok a10, tp, eqO_ok a11, of_decide_eq_true a12,
          oc, od, osl, _, _, p0, p1, p2, p3, p4, p5, p6, p7, p8, p9, _, n8, n9, n10, n11, n14, n12, cda, cc, rfl, q, b2, ?_, ?_, har, s1, s2, s3, s4, s5, s6, s7, s8, hev⟩, n8, n9, n10, n11, n14, n12, cda, cc, He.dflB_ok b0, rfl⟩
        · split at b4
          · rename_i ccl cdd vs ccs hl
            split at b4
            · rename_i file tf hf
              exact ⟨ccl, cdd, vs, ccs, file, tf, hl, hf, b4⟩
            · cases b4
          · cases b4
        · split at b3
          · rename_i cl cld D csl hl
            have eD : D = ga K c := eq_of_beq b3
            subst eD
            exact ⟨cl, cld, csl, hl⟩
          · cases b3
      · cases h
    | _ => cases h
end
end HT
namespace HT
open PySem PySem.Spec L2
theorem nthB {l : List Bool} (h : l.all id = true) (i : Nat) {b : Bool} (hi : l[i]? = some b) : b = true := List.all_eq_true.mp h b (List.mem_of_getElem? hi)
theorem isTb_own {T : Str → Addr} {K : PySem.W.Frag} {c : Str} (h1 : obB K (T c) = true) (h2 : (ty7.all fun n => decide (PySem.W.kitOne K (.type n) (.ref (T c)) = some false)) = true) (h3 : decide (PySem.W.kitOne K (.ref (T c)) (.ref (T c)) = some true) = true) :
    IsTb T K (.ref (T c)) (fun t => match t with | .b n => if n ∈ ty7 then some false else none | .own C => if C = c then some true else none | _ => none) := by
  refine ⟨fun n r h => ?_, fun C r h => ?_, (fun C r h => nomatch h)⟩
  · dsimp only at h
    split at h
    · rename_i hn
      cases h
      exact of_decide_eq_true (List.all_eq_true.mp h2 n hn)
    · cases h
  · dsimp only at h
    split at h
    · rename_i e
      subst e
      cases h
      exact ⟨obB_ok h1, of_decide_eq_true h3⟩
    · cases h
theorem isTb_exc {T : Str → Addr} {K : PySem.W.Frag} {c : Str} {cs : List Str} (h : ∀ C ∈ cs, (excB K (T C) && decide (PySem.W.kitOne K (.ref (T C)) (.ref (T c)) = some (C == c))) = true) :
    IsTb T K (.ref (T c)) (fun t => match t with | .exc C => if C ∈ cs then some (C == c) else none | _ => none) := by
  refine ⟨(fun n r h => nomatch h), (fun C r h => nomatch h), fun C r h2 => ?_⟩
  dsimp only at h2
  split at h2
  · rename_i hm
    cases h2
    obtain ⟨q1, q2⟩ := He.ba (h C hm)
    exact ⟨excB_ok q1, of_decide_eq_true q2⟩
  · cases h2
end HT

namespace HT
open PySem PySem.Spec L2
/-- every parameter is given, though the last one has a default -/
theorem bx_all {K : PySem.W.Frag} {fd : FuncData} {ps : List Str} {dV : Value} (hD : DflV K dV [V.non]) (h : ∀ (t : Addr) (us its : List Value), dV = .ref t → us.length = ps.length → its.length = 1 → ∃ k, bindArgs fd ⟨us, []⟩ = seqItems? (.ref t) >>= k ∧ k (some its.toArray) = pure (ps.zip us)) : Binds K fd ps [] := by
  rcases hD with ⟨e, _⟩ | ⟨_, t, o, its, m, e, lT, oT, rT⟩
  · cases e
  · intro s us X hlen
    rw [List.append_nil] at hlen ⊢
    obtain ⟨k, e1, e2⟩ := h t us its e hlen rT.length.symm
    refine BindsTo.of_looks fun M => ?_
    rw [e1]
    exact looks_items X lT oT (.of_pure e2)
end HT
set_option Elab.async false
set_option linter.all false
set_option maxRecDepth 100000
set_option maxHeartbeats 1000000
namespace HT.Lk20
open PySem PySem.Spec L2
open PyProof.Rows hiding St
abbrev P0 : Program := PySem.Challenge.pw_tickcounts_k20_rules_made
def top (i : Nat) : Stmt := P0.main.body.getD i (.Pass ⟨0, 0, 0, 0⟩)
def sub (st : Stmt) (j : Nat) : Stmt := match st with
  | .ClassDef _ _ _ b _ _ _ _ _ _ _ => b.getD j st
  | _ => st
abbrev s_Rule_five : Stmt := sub (top 9) 1
abbrev s_Rule_eq : Stmt := sub (top 9) 2
abbrev s__law_all_rules : Stmt := top 17
abbrev s_check_flag : Stmt := top 8
abbrev s_check_word : Stmt := top 7
abbrev s_Rule_init : Stmt := sub (top 9) 0
abbrev s__law_made_rule : Stmt := top 16
abbrev s__law_caught : Stmt := top 18
abbrev s__law_cell : Stmt := top 11
abbrev s__law_generator : Stmt := top 13
abbrev s__law_hash : Stmt := top 12
abbrev s__law_random : Stmt := top 14
abbrev s__law_rule_parts : Stmt := top 15
abbrev s_law : Stmt := top 19

def c_COUNTS : List D := [.str "things", .str "models"]
def c_OTHERS : List D := [.str "keep", .str "leave"]
def c_OWN : List D := [.str "keep", .str "leave", .str "add", .str "only"]
def is_InvalidWord : Ty → Option Bool := fun t => match t with
  | .exc C => if C ∈ (["InvalidWord"] : List Str) then some (C == "InvalidWord") else none
  | _ => none
def is_Rule : Ty → Option Bool := fun t => match t with
  | .b n => if n ∈ ty7 then some false else none
  | .own C => if C = "Rule" then some true else none
  | _ => none
def is_bool : Ty → Option Bool
  | .b n => kitB n "bool"
  | _ => none
def is_list : Ty → Option Bool
  | .b n => kitB n "list"
  | _ => none
def is_str : Ty → Option Bool
  | .b n => kitB n "str"
  | _ => none
def xt_TickError : ExTb := fun C => if C = "InvalidWord" then some true else none
def xf_value : List Str := ["InvalidWord"]
structure Fx (K : PySem.W.Frag) (mg : Str → Option Value) where
  fd_Rule_five : FuncData
  d_Rule_five : FunD K "five" "Rule.five" (defArgs s_Rule_five) (defBody s_Rule_five) (defScope s_Rule_five) [] [] (He.fAd K ("Rule", some "five")) fd_Rule_five
  fd_Rule_eq : FuncData
  d_Rule_eq : FunD K "__eq__" "Rule.__eq__" (defArgs s_Rule_eq) (defBody s_Rule_eq) (defScope s_Rule_eq) [] [] (He.fAd K ("Rule", some "__eq__")) fd_Rule_eq
  fd__law_all_rules : FuncData
  d__law_all_rules : FunD K "_law_all_rules" "_law_all_rules" (defArgs s__law_all_rules) (defBody s__law_all_rules) (defScope s__law_all_rules) [] [] (He.fAd K ("_law_all_rules", none)) fd__law_all_rules
  g__law_all_rules : mg "_law_all_rules" = some (.ref (He.fAd K ("_law_all_rules", none)))
  fd_check_flag : FuncData
  d_check_flag : FunD K "check_flag" "check_flag" (defArgs s_check_flag) (defBody s_check_flag) (defScope s_check_flag) [] [] (He.fAd K ("check_flag", none)) fd_check_flag
  g_check_flag : mg "check_flag" = some (.ref (He.fAd K ("check_flag", none)))
  fd_check_word : FuncData
  d_check_word : FunD K "check_word" "check_word" (defArgs s_check_word) (defBody s_check_word) (defScope s_check_word) [] [] (He.fAd K ("check_word", none)) fd_check_word
  g_check_word : mg "check_word" = some (.ref (He.fAd K ("check_word", none)))
  fd_Rule_init : FuncData
  d_Rule_init : FunD K "__init__" "Rule.__init__" (defArgs s_Rule_init) (defBody s_Rule_init) (defScope s_Rule_init) [] [] (He.fAd K ("Rule", some "__init__")) fd_Rule_init
  fd__law_made_rule : FuncData
  d__law_made_rule : FunD K "_law_made_rule" "_law_made_rule" (defArgs s__law_made_rule) (defBody s__law_made_rule) (defScope s__law_made_rule) [] [] (He.fAd K ("_law_made_rule", none)) fd__law_made_rule
  g__law_made_rule : mg "_law_made_rule" = some (.ref (He.fAd K ("_law_made_rule", none)))
  fd__law_caught : FuncData
  d__law_caught : FunD K "_law_caught" "_law_caught" (defArgs s__law_caught) (defBody s__law_caught) (defScope s__law_caught) [] [] (He.fAd K ("_law_caught", none)) fd__law_caught
  g__law_caught : mg "_law_caught" = some (.ref (He.fAd K ("_law_caught", none)))
  fd__law_cell : FuncData
  d__law_cell : FunD K "_law_cell" "_law_cell" (defArgs s__law_cell) (defBody s__law_cell) (defScope s__law_cell) [] [] (He.fAd K ("_law_cell", none)) fd__law_cell
  g__law_cell : mg "_law_cell" = some (.ref (He.fAd K ("_law_cell", none)))
  fd__law_generator : FuncData
  d__law_generator : FunD K "_law_generator" "_law_generator" (defArgs s__law_generator) (defBody s__law_generator) (defScope s__law_generator) [] [] (He.fAd K ("_law_generator", none)) fd__law_generator
  g__law_generator : mg "_law_generator" = some (.ref (He.fAd K ("_law_generator", none)))
  fd__law_hash : FuncData
  d__law_hash : FunD K "_law_hash" "_law_hash" (defArgs s__law_hash) (defBody s__law_hash) (defScope s__law_hash) [] [] (He.fAd K ("_law_hash", none)) fd__law_hash
  g__law_hash : mg "_law_hash" = some (.ref (He.fAd K ("_law_hash", none)))
  fd__law_random : FuncData
  d__law_random : FunD K "_law_random" "_law_random" (defArgs s__law_random) (defBody s__law_random) (defScope s__law_random) [] [] (He.fAd K ("_law_random", none)) fd__law_random
  g__law_random : mg "_law_random" = some (.ref (He.fAd K ("_law_random", none)))
  fd__law_rule_parts : FuncData
  d__law_rule_parts : FunD K "_law_rule_parts" "_law_rule_parts" (defArgs s__law_rule_parts) (defBody s__law_rule_parts) (defScope s__law_rule_parts) [] [] (He.fAd K ("_law_rule_parts", none)) fd__law_rule_parts
  g__law_rule_parts : mg "_law_rule_parts" = some (.ref (He.fAd K ("_law_rule_parts", none)))
  fd_law : FuncData
  d_law : FunD K "law" "law" (defArgs s_law) (defBody s_law) (defScope s_law) [] [] (He.fAd K ("law", none)) fd_law
  g_law : mg "law" = some (.ref (He.fAd K ("law", none)))
  n_bool : mg "bool" = none
  n_int : mg "int" = none
  n_isinstance : mg "isinstance" = none
  n_len : mg "len" = none
  n_list : mg "list" = none
  n_max : mg "max" = none
  n_range : mg "range" = none
  n_repr : mg "repr" = none
  n_str : mg "str" = none
  n_super : mg "super" = none
  g_InvalidWord : mg "InvalidWord" = some (.ref (He.ga K "InvalidWord"))
  g_Rule : mg "Rule" = some (.ref (He.ga K "Rule"))
  g_TickError : mg "TickError" = some (.ref (He.ga K "TickError"))
  mk_Rule : Mk K (He.ga K "Rule") (He.fAd K ("Rule", some "__init__"))
  cls_Rule : Cls K (He.ga K "Rule")
  meth_Rule_five : Meth K (He.ga K "Rule") "five" (He.fAd K ("Rule", some "five"))
  eq_Rule : EqC K (He.ga K "Rule") (He.fAd K ("Rule", some "__eq__"))
  is_InvalidWord : IsTb (He.ga K) K (.ref (He.ga K "InvalidWord")) is_InvalidWord
  is_Rule : IsTb (He.ga K) K (.ref (He.ga K "Rule")) is_Rule
  is_bool : IsTb (He.ga K) K (.type "bool") is_bool
  is_list : IsTb (He.ga K) K (.type "list") is_list
  is_str : IsTb (He.ga K) K (.type "str") is_str
  f_bears : ∀ C ∈ (["Rule"] : List Str), Cls K (He.ga K C) ∧ NoAttr K (He.ga K C) "bears"
  f_counts : ∀ C ∈ (["Rule"] : List Str), Cls K (He.ga K C) ∧ NoAttr K (He.ga K C) "counts"
  f_less : ∀ C ∈ (["Rule"] : List Str), Cls K (He.ga K C) ∧ NoAttr K (He.ga K C) "less"
  f_others : ∀ C ∈ (["Rule"] : List Str), Cls K (He.ga K C) ∧ NoAttr K (He.ga K C) "others"
  f_own : ∀ C ∈ (["Rule"] : List Str), Cls K (He.ga K C) ∧ NoAttr K (He.ga K C) "own"
  xf_value : ∀ C ∈ xf_value, XfC K (He.ga K C) ∧ PySem.W.findIn K (.ref (He.ga K C)) "value" = some none
  xt_TickError : ∀ C b, xt_TickError C = some b → PySem.W.exmOne K (.ref (He.ga K C)) (.ref (He.ga K "TickError")) = some b
  fx_InvalidWord : FuncData
  ex_InvalidWord : ExI P0 K (He.ga K "InvalidWord") "value" (He.fAd K ("InvalidWord", some "__init__")) fx_InvalidWord
  bx_InvalidWord : Binds K fx_InvalidWord ["self", "value"] []
  a_COUNTS : Addr
  g_COUNTS : mg "COUNTS" = some (.ref a_COUNTS)
  k_COUNTS : ∀ H, SqL K H a_COUNTS [V.str "things", V.str "models"]
  r_COUNTS : CsD (He.ga K) K c_COUNTS [V.str "things", V.str "models"]
  a_OTHERS : Addr
  g_OTHERS : mg "OTHERS" = some (.ref a_OTHERS)
  k_OTHERS : ∀ H, SqL K H a_OTHERS [V.str "keep", V.str "leave"]
  r_OTHERS : CsD (He.ga K) K c_OTHERS [V.str "keep", V.str "leave"]
  a_OWN : Addr
  g_OWN : mg "OWN" = some (.ref a_OWN)
  k_OWN : ∀ H, SqL K H a_OWN [V.str "keep", V.str "leave", V.str "add", V.str "only"]
  r_OWN : CsD (He.ga K) K c_OWN [V.str "keep", V.str "leave", V.str "add", V.str "only"]
section
variable {w : World} {K : PySem.W.Frag} {mg : Str → Option Value} {base : Heap}
theorem bx_InvalidWord (x : Fx K mg) : Binds K x.fx_InvalidWord ["self", "value"] [] := x.bx_InvalidWord
/-! ### Rule.five -/
def M_Rule_five : List D → Cm D := mkM 1 1 ((sRet (fTup (aCons (fFld ["Rule"] "own" (vVar 0)) (aCons (fFld ["Rule"] "others" (vVar 0)) (aCons (fFld ["Rule"] "bears" (vVar 0)) (aCons (fFld ["Rule"] "counts" (vVar 0)) (aCons (fFld ["Rule"] "less" (vVar 0)) aNil))))))))
theorem sc_Rule_five : FnScope ["self"] ["self"] (defScope s_Rule_five) := ⟨rfl, rfl, rfl, by decide +kernel, rfl, by decide +kernel, by decide +kernel⟩
theorem b_Rule_five (x : Fx K mg) : Binds K x.fd_Rule_five ["self"] [] := x.d_Rule_five.bindsN fun _ _ _ _ _ _ us hl => match us, hl with | [_], _ => rfl
set_option maxHeartbeats 4000000 in
theorem ft_Rule_five (x : Fx K mg) : FT P0 w K mg base (He.ga K) (3 + 1) (He.fAd K ("Rule", some "five")) x.fd_Rule_five ["self"] M_Rule_five := ft_of x.d_Rule_five sc_Rule_five rfl rfl fun cdv A outer s H E lv =>
  have nd := sc_Rule_five.nd
  have tk := ctx_takes (P := P0) (w := w) (K := K) (mg := mg) (base := base) (N := ["self"]) (qual := "Rule.five") (scope := defScope s_Rule_five) (f := He.fAd K ("Rule", some "five")) (cdv := cdv) (A := A) (outer := outer) (s := s) (H := H) (E := E)
  have po := ctx_po (P := P0) (w := w) (K := K) (mg := mg) (base := base) (N := ["self"]) (qual := "Rule.five") (scope := defScope s_Rule_five) (f := He.fAd K ("Rule", some "five")) (cdv := cdv) (A := A) (outer := outer) (s := s) (H := H) (E := E)
  (sfs_one (sf_ret (pf_tup (af_cons (pf_fld (cs := ["Rule"]) (vf_var (pv 0)) x.f_own) (af_cons (pf_fld (cs := ["Rule"]) (vf_var (pv 0)) x.f_others) (af_cons (pf_fld (cs := ["Rule"]) (vf_var (pv 0)) x.f_bears) (af_cons (pf_fld (cs := ["Rule"]) (vf_var (pv 0)) x.f_counts) (af_cons (pf_fld (cs := ["Rule"]) (vf_var (pv 0)) x.f_less) af_nil))))))))
/-! ### Rule.__eq__ -/
def M_Rule_eq : List D → Cm D := mkM 2 2 ((sRet (fAndV (fArgs (a2 (gIsi is_Rule (.own "Rule"))) (aCons (fVar 1) (aCons (fun _ => pure (.glob "Rule")) aNil))) (f2 (gEq false) (fMeth "Rule" "five" M_Rule_five [] (fVar 0) (fun _ => pure [])) (fMeth "Rule" "five" M_Rule_five [] (fVar 1) (fun _ => pure []))))))
theorem sc_Rule_eq : FnScope ["self", "other"] ["self", "other"] (defScope s_Rule_eq) := ⟨rfl, rfl, rfl, by decide +kernel, rfl, by decide +kernel, by decide +kernel⟩
theorem b_Rule_eq (x : Fx K mg) : Binds K x.fd_Rule_eq ["self", "other"] [] := x.d_Rule_eq.bindsN fun _ _ _ _ _ _ us hl => match us, hl with | [_, _], _ => rfl
set_option maxHeartbeats 4000000 in
theorem ft_Rule_eq (x : Fx K mg) : FT P0 w K mg base (He.ga K) (4 + 1) (He.fAd K ("Rule", some "__eq__")) x.fd_Rule_eq ["self", "other"] M_Rule_eq := ft_of x.d_Rule_eq sc_Rule_eq rfl rfl fun cdv A outer s H E lv =>
  have nd := sc_Rule_eq.nd
  have tk := ctx_takes (P := P0) (w := w) (K := K) (mg := mg) (base := base) (N := ["self", "other"]) (qual := "Rule.__eq__") (scope := defScope s_Rule_eq) (f := He.fAd K ("Rule", some "__eq__")) (cdv := cdv) (A := A) (outer := outer) (s := s) (H := H) (E := E)
  have po := ctx_po (P := P0) (w := w) (K := K) (mg := mg) (base := base) (N := ["self", "other"]) (qual := "Rule.__eq__") (scope := defScope s_Rule_eq) (f := He.fAd K ("Rule", some "__eq__")) (cdv := cdv) (A := A) (outer := outer) (s := s) (H := H) (E := E)
  (sfs_one (sf_ret (pf_and (pf_callB call_isi2 (ok_gIsi (c := (.own "Rule")) x.is_Rule) rfl x.n_isinstance PyProof.Rows.Boot.«isinstance» (af_cons (pf_var (pv 1)) (af_cons (pf_clsName rfl x.g_Rule) af_nil))) (pf_one (pf_cmp (op_eqD lv.room.units) ok_gEq (pf_meth0 (C := "Rule") (m := "five") (pf_var (pv 0)) x.cls_Rule x.meth_Rule_five (ft_Rule_five x) (lv.mono (by decide)) (b_Rule_five x) .nil CsD.nil tk) (pf_meth0 (C := "Rule") (m := "five") (pf_var (pv 1)) x.cls_Rule x.meth_Rule_five (ft_Rule_five x) (lv.mono (by decide)) (b_Rule_five x) .nil CsD.nil tk) (nomark _))))))
/-! ### _law_all_rules -/
def M__law_all_rules : List D → Cm D := mkM 0 6 ((sSeq (sSet 0 (fFrz (oLst aNil)))
  (sSeq (sFor (.one 1) (iSeq (fFrz (oLst (aCons (fun _ => pure (.str "keep")) (aCons (fun _ => pure (.str "leave")) (aCons (fun _ => pure (.str "add")) (aCons (fun _ => pure (.str "only")) aNil))))))) (sFor (.one 2) (iSeq (fFrz (oLst (aCons (fun _ => pure (.str "keep")) (aCons (fun _ => pure (.str "leave")) aNil))))) (sFor (.one 3) (iSeq (fFrz (oLst (aCons (fun _ => pure (.bl false)) (aCons (fun _ => pure (.bl true)) aNil))))) (sFor (.one 4) (iSeq (fFrz (oLst (aCons (fun _ => pure (.str "things")) (aCons (fun _ => pure (.str "models")) aNil))))) (sSet 0 (f2 gAdd (fVar 0) (fFrz (oLc [5] (.one 5) (iSeq (fFrz (oLst (aCons (fun _ => pure (.bl false)) (aCons (fun _ => pure (.bl true)) aNil))))) (fun _ => pure true) (fTup (aCons (fVar 1) (aCons (fVar 2) (aCons (fVar 3) (aCons (fVar 4) (aCons (fVar 5) aNil))))))))))))))
  (sRet (fVar 0)))))
theorem sc__law_all_rules : FnScope ["found", "own", "others", "bears", "counts", "less"] [] (defScope s__law_all_rules) := ⟨rfl, rfl, rfl, by decide +kernel, rfl, by decide +kernel, by decide +kernel⟩
theorem b__law_all_rules (x : Fx K mg) : Binds K x.fd__law_all_rules [] [] := x.d__law_all_rules.bindsN fun _ _ _ _ _ _ us hl => match us, hl with | [], _ => rfl
set_option maxHeartbeats 4000000 in
theorem ft__law_all_rules (x : Fx K mg) : FT P0 w K mg base (He.ga K) (3 + 1) (He.fAd K ("_law_all_rules", none)) x.fd__law_all_rules [] M__law_all_rules := ft_of x.d__law_all_rules sc__law_all_rules rfl rfl fun cdv A outer s H E lv =>
  have nd := sc__law_all_rules.nd
  have tk := ctx_takes (P := P0) (w := w) (K := K) (mg := mg) (base := base) (N := ["found", "own", "others", "bears", "counts", "less"]) (qual := "_law_all_rules") (scope := defScope s__law_all_rules) (f := He.fAd K ("_law_all_rules", none)) (cdv := cdv) (A := A) (outer := outer) (s := s) (H := H) (E := E)
  have po := ctx_po (P := P0) (w := w) (K := K) (mg := mg) (base := base) (N := ["found", "own", "others", "bears", "counts", "less"]) (qual := "_law_all_rules") (scope := defScope s__law_all_rules) (f := He.fAd K ("_law_all_rules", none)) (cdv := cdv) (A := A) (outer := outer) (s := s) (H := H) (E := E)
  (sfs_cons (sf_set (i := 0) nd rfl (by first | exact Or.inl rfl | exact Or.inr rfl) (pf_frz (of_lst af_nil)))
  (sfs_cons (sf_for (b := (.one 1)) po rfl (if_seq (pf_frz (of_lst (af_cons pf_str (af_cons pf_str (af_cons pf_str (af_cons pf_str af_nil))))))) (pg_name nd rfl (by first | exact Or.inl rfl | exact Or.inr rfl)) (sfs_one (sf_for (b := (.one 2)) po rfl (if_seq (pf_frz (of_lst (af_cons pf_str (af_cons pf_str af_nil))))) (pg_name nd rfl (by first | exact Or.inl rfl | exact Or.inr rfl)) (sfs_one (sf_for (b := (.one 3)) po rfl (if_seq (pf_frz (of_lst (af_cons pf_bl (af_cons pf_bl af_nil))))) (pg_name nd rfl (by first | exact Or.inl rfl | exact Or.inr rfl)) (sfs_one (sf_for (b := (.one 4)) po rfl (if_seq (pf_frz (of_lst (af_cons pf_str (af_cons pf_str af_nil))))) (pg_name nd rfl (by first | exact Or.inl rfl | exact Or.inr rfl)) (sfs_one (sf_set (i := 0) nd rfl (by first | exact Or.inl rfl | exact Or.inr rfl) (pf_bin op_add4 ok_gAdd (pf_var (pv 0)) (pf_frz (of_lc (own := [("less", 5)]) (b := (.one 5)) rfl nd (if_seq (pf_frz (of_lst (af_cons pf_bl (af_cons pf_bl af_nil))))) (blkOk_by (by rfl)) (by decide) (fun _ _ _ _ _ => (pg_name nd rfl (by first | exact Or.inl rfl | exact Or.inr rfl))) (fun _ _ _ _ _ => tsf_nil) (fun _ _ _ _ _ => (pf_tup (af_cons (pf_var (pv 1)) (af_cons (pf_var (pv 2)) (af_cons (pf_var (pv 3)) (af_cons (pf_var (pv 4)) (af_cons (pf_var (pv 5)) af_nil)))))))))))))))))))
  (sfs_one (sf_ret (pf_var (pv 0))))))
/-! ### check_flag -/
def M_check_flag : List D → Cm D := mkM 1 1 ((sIf (fNotT (fB (fArgs (a2 (gIsi is_bool (.ty "bool"))) (aCons (fVar 0) (aCons (fun _ => pure (.ty "bool")) aNil))))) (sRaise (fMk "InvalidWord" "value" [] (aCons (fVar 0) aNil))) sNil))
theorem sc_check_flag : FnScope ["value"] ["value"] (defScope s_check_flag) := ⟨rfl, rfl, rfl, by decide +kernel, rfl, by decide +kernel, by decide +kernel⟩
theorem b_check_flag (x : Fx K mg) : Binds K x.fd_check_flag ["value"] [] := x.d_check_flag.bindsN fun _ _ _ _ _ _ us hl => match us, hl with | [_], _ => rfl
set_option maxHeartbeats 4000000 in
theorem ft_check_flag (x : Fx K mg) : FT P0 w K mg base (He.ga K) (3 + 1) (He.fAd K ("check_flag", none)) x.fd_check_flag ["value"] M_check_flag := ft_of x.d_check_flag sc_check_flag rfl rfl fun cdv A outer s H E lv =>
  have nd := sc_check_flag.nd
  have tk := ctx_takes (P := P0) (w := w) (K := K) (mg := mg) (base := base) (N := ["value"]) (qual := "check_flag") (scope := defScope s_check_flag) (f := He.fAd K ("check_flag", none)) (cdv := cdv) (A := A) (outer := outer) (s := s) (H := H) (E := E)
  have po := ctx_po (P := P0) (w := w) (K := K) (mg := mg) (base := base) (N := ["value"]) (qual := "check_flag") (scope := defScope s_check_flag) (f := He.fAd K ("check_flag", none)) (cdv := cdv) (A := A) (outer := outer) (s := s) (H := H) (E := E)
  (sfs_one (sf_if (tf_not (tf_val (pf_callB call_isi2 (ok_gIsi (c := (.ty "bool")) x.is_bool) rfl x.n_isinstance PyProof.Rows.Boot.«isinstance» (af_cons (pf_var (pv 0)) (af_cons (pf_tyName rfl x.n_bool PyProof.Rows.Boot.«bool») af_nil))))) (sfs_one (sf_raise rfl tk (mf_mk (C := "InvalidWord") (f := "value") x.ex_InvalidWord rfl rfl x.n_super (lv.mono (by decide : 1 ≤ _)) (bx_InvalidWord x) .nil CsD.nil rfl x.g_InvalidWord (af_cons (pf_var (pv 0)) af_nil)))) sfs_nil))
/-! ### check_word -/
def M_check_word : List D → Cm D := mkM 2 2 ((sIf (fOrT (fNotT (fB (fArgs (a2 (gIsi is_str (.ty "str"))) (aCons (fVar 0) (aCons (fun _ => pure (.ty "str")) aNil))))) (fB (f2 (gInL true) (fVar 0) (fVar 1)))) (sRaise (fMk "InvalidWord" "value" [] (aCons (fVar 0) aNil))) sNil))
theorem sc_check_word : FnScope ["value", "words"] ["value", "words"] (defScope s_check_word) := ⟨rfl, rfl, rfl, by decide +kernel, rfl, by decide +kernel, by decide +kernel⟩
theorem b_check_word (x : Fx K mg) : Binds K x.fd_check_word ["value", "words"] [] := x.d_check_word.bindsN fun _ _ _ _ _ _ us hl => match us, hl with | [_, _], _ => rfl
set_option maxHeartbeats 4000000 in
theorem ft_check_word (x : Fx K mg) : FT P0 w K mg base (He.ga K) (3 + 1) (He.fAd K ("check_word", none)) x.fd_check_word ["value", "words"] M_check_word := ft_of x.d_check_word sc_check_word rfl rfl fun cdv A outer s H E lv =>
  have nd := sc_check_word.nd
  have tk := ctx_takes (P := P0) (w := w) (K := K) (mg := mg) (base := base) (N := ["value", "words"]) (qual := "check_word") (scope := defScope s_check_word) (f := He.fAd K ("check_word", none)) (cdv := cdv) (A := A) (outer := outer) (s := s) (H := H) (E := E)
  have po := ctx_po (P := P0) (w := w) (K := K) (mg := mg) (base := base) (N := ["value", "words"]) (qual := "check_word") (scope := defScope s_check_word) (f := He.fAd K ("check_word", none)) (cdv := cdv) (A := A) (outer := outer) (s := s) (H := H) (E := E)
  (sfs_one (sf_if (tf_pw (twf_or (tf_not (tf_val (pf_callB call_isi2 (ok_gIsi (c := (.ty "str")) x.is_str) rfl x.n_isinstance PyProof.Rows.Boot.«isinstance» (af_cons (pf_var (pv 0)) (af_cons (pf_tyName rfl x.n_str PyProof.Rows.Boot.«str») af_nil))))) (twf_or1 (tf_cmp (op_notInD lv.u65) ok_gNotInL (pf_var (pv 0)) (pf_var (pv 1)) rfl)))) (sfs_one (sf_raise rfl tk (mf_mk (C := "InvalidWord") (f := "value") x.ex_InvalidWord rfl rfl x.n_super (lv.mono (by decide : 1 ≤ _)) (bx_InvalidWord x) .nil CsD.nil rfl x.g_InvalidWord (af_cons (pf_var (pv 0)) af_nil)))) sfs_nil))
/-! ### Rule.__init__ -/
def M_Rule_init : List D → Cm CO := mkI 6 6 "Rule" ((sSeq (sExpr (fCall M_check_word [] (aCons (fVar 1) (aCons (fFrz (oOne gList (aCons (fun _ => pure (.klst c_OWN)) aNil))) aNil))))
  (sSeq (sExpr (fCall M_check_word [] (aCons (fVar 2) (aCons (fFrz (oOne gList (aCons (fun _ => pure (.klst c_OTHERS)) aNil))) aNil))))
  (sSeq (sExpr (fCall M_check_flag [] (aCons (fVar 3) aNil)))
  (sSeq (sExpr (fCall M_check_word [] (aCons (fVar 4) (aCons (fFrz (oOne gList (aCons (fun _ => pure (.klst c_COUNTS)) aNil))) aNil))))
  (sSeq (sExpr (fCall M_check_flag [] (aCons (fVar 5) aNil)))
  (sSeq (sFldS 0 ["Rule"] "own" (fVar 1))
  (sSeq (sFldS 0 ["Rule"] "others" (fVar 2))
  (sSeq (sFldS 0 ["Rule"] "bears" (fVar 3))
  (sSeq (sFldS 0 ["Rule"] "counts" (fVar 4))
  (sFldS 0 ["Rule"] "less" (fVar 5))))))))))))
theorem sc_Rule_init : FnScope ["self", "own", "others", "bears", "counts", "less"] ["self", "own", "others", "bears", "counts", "less"] (defScope s_Rule_init) := ⟨rfl, rfl, rfl, by decide +kernel, rfl, by decide +kernel, by decide +kernel⟩
theorem b_Rule_init (x : Fx K mg) : Binds K x.fd_Rule_init ["self", "own", "others", "bears", "counts", "less"] [] := x.d_Rule_init.bindsN fun _ _ _ _ _ _ us hl => match us, hl with | [_, _, _, _, _, _], _ => rfl
set_option maxHeartbeats 4000000 in
theorem fi_Rule_init (x : Fx K mg) : FI P0 w K mg base (He.ga K) (4 + 1) (He.fAd K ("Rule", some "__init__")) x.fd_Rule_init ["self", "own", "others", "bears", "counts", "less"] "Rule" M_Rule_init := fi_of x.d_Rule_init sc_Rule_init rfl rfl fun cdv A outer s H E lv =>
  have nd := sc_Rule_init.nd
  have tk := ctx_takes (P := P0) (w := w) (K := K) (mg := mg) (base := base) (N := ["self", "own", "others", "bears", "counts", "less"]) (qual := "Rule.__init__") (scope := defScope s_Rule_init) (f := He.fAd K ("Rule", some "__init__")) (cdv := cdv) (A := A) (outer := outer) (s := s) (H := H) (E := E)
  have po := ctx_po (P := P0) (w := w) (K := K) (mg := mg) (base := base) (N := ["self", "own", "others", "bears", "counts", "less"]) (qual := "Rule.__init__") (scope := defScope s_Rule_init) (f := He.fAd K ("Rule", some "__init__")) (cdv := cdv) (A := A) (outer := outer) (s := s) (H := H) (E := E)
  (sfs_cons (sf_expr (pf_call (ft_check_word x) (lv.mono (by decide)) rfl x.g_check_word x.d_check_word.kp (b_check_word x) .nil CsD.nil tk (af_cons (pf_var (pv 1)) (af_cons (pf_frz (of_list rfl x.n_list (af_cons (pf_klst rfl x.g_OWN x.k_OWN x.r_OWN) af_nil))) af_nil))))
  (sfs_cons (sf_expr (pf_call (ft_check_word x) (lv.mono (by decide)) rfl x.g_check_word x.d_check_word.kp (b_check_word x) .nil CsD.nil tk (af_cons (pf_var (pv 2)) (af_cons (pf_frz (of_list rfl x.n_list (af_cons (pf_klst rfl x.g_OTHERS x.k_OTHERS x.r_OTHERS) af_nil))) af_nil))))
  (sfs_cons (sf_expr (pf_call (ft_check_flag x) (lv.mono (by decide)) rfl x.g_check_flag x.d_check_flag.kp (b_check_flag x) .nil CsD.nil tk (af_cons (pf_var (pv 3)) af_nil)))
  (sfs_cons (sf_expr (pf_call (ft_check_word x) (lv.mono (by decide)) rfl x.g_check_word x.d_check_word.kp (b_check_word x) .nil CsD.nil tk (af_cons (pf_var (pv 4)) (af_cons (pf_frz (of_list rfl x.n_list (af_cons (pf_klst rfl x.g_COUNTS x.k_COUNTS x.r_COUNTS) af_nil))) af_nil))))
  (sfs_cons (sf_expr (pf_call (ft_check_flag x) (lv.mono (by decide)) rfl x.g_check_flag x.d_check_flag.kp (b_check_flag x) .nil CsD.nil tk (af_cons (pf_var (pv 5)) af_nil)))
  (sfs_cons (sf_fldS (cs := ["Rule"]) (pv 0) (pf_var (pv 1)) x.f_own)
  (sfs_cons (sf_fldS (cs := ["Rule"]) (pv 0) (pf_var (pv 2)) x.f_others)
  (sfs_cons (sf_fldS (cs := ["Rule"]) (pv 0) (pf_var (pv 3)) x.f_bears)
  (sfs_cons (sf_fldS (cs := ["Rule"]) (pv 0) (pf_var (pv 4)) x.f_counts)
  (sfs_one (sf_fldS (cs := ["Rule"]) (pv 0) (pf_var (pv 5)) x.f_less)))))))))))
/-! ### _law_made_rule -/
def M__law_made_rule : List D → Cm D := mkM 1 1 ((sRet (fFrz (oMake M_Rule_init [] (aCons (f2 gIx (fVar 0) (fun _ => pure (.int 0))) (aCons (f2 gIx (fVar 0) (fun _ => pure (.int 1))) (aCons (f2 gIx (fVar 0) (fun _ => pure (.int 2))) (aCons (f2 gIx (fVar 0) (fun _ => pure (.int 3))) (aCons (f2 gIx (fVar 0) (fun _ => pure (.int 4))) aNil)))))))))
theorem sc__law_made_rule : FnScope ["words"] ["words"] (defScope s__law_made_rule) := ⟨rfl, rfl, rfl, by decide +kernel, rfl, by decide +kernel, by decide +kernel⟩
theorem b__law_made_rule (x : Fx K mg) : Binds K x.fd__law_made_rule ["words"] [] := x.d__law_made_rule.bindsN fun _ _ _ _ _ _ us hl => match us, hl with | [_], _ => rfl
set_option maxHeartbeats 4000000 in
theorem ft__law_made_rule (x : Fx K mg) : FT P0 w K mg base (He.ga K) (6 + 1) (He.fAd K ("_law_made_rule", none)) x.fd__law_made_rule ["words"] M__law_made_rule := ft_of x.d__law_made_rule sc__law_made_rule rfl rfl fun cdv A outer s H E lv =>
  have nd := sc__law_made_rule.nd
  have tk := ctx_takes (P := P0) (w := w) (K := K) (mg := mg) (base := base) (N := ["words"]) (qual := "_law_made_rule") (scope := defScope s__law_made_rule) (f := He.fAd K ("_law_made_rule", none)) (cdv := cdv) (A := A) (outer := outer) (s := s) (H := H) (E := E)
  have po := ctx_po (P := P0) (w := w) (K := K) (mg := mg) (base := base) (N := ["words"]) (qual := "_law_made_rule") (scope := defScope s__law_made_rule) (f := He.fAd K ("_law_made_rule", none)) (cdv := cdv) (A := A) (outer := outer) (s := s) (H := H) (E := E)
  (sfs_one (sf_ret (pf_frz (of_make x.mk_Rule (fi_Rule_init x) (lv.mono (by decide)) rfl x.g_Rule (b_Rule_init x) .nil CsD.nil tk (af_cons (pf_ix (pf_var (pv 0)) pf_int fun _ _ => rfl) (af_cons (pf_ix (pf_var (pv 0)) pf_int fun _ _ => rfl) (af_cons (pf_ix (pf_var (pv 0)) pf_int fun _ _ => rfl) (af_cons (pf_ix (pf_var (pv 0)) pf_int fun _ _ => rfl) (af_cons (pf_ix (pf_var (pv 0)) pf_int fun _ _ => rfl) af_nil)))))))))
/-! ### _law_caught -/
def M__law_caught : List D → Cm D := mkM 1 3 ((sSeq (sSet 1 (fun _ => pure .non))
  (sSeq (sTry 2 xt_TickError (sExpr (fCall M__law_made_rule [] (aCons (fVar 0) aNil))) (sSet 1 (fVar 2)))
  (sSeq (sIf (fOrT (fB (f2 (gIsN false) (fVar 1) (fun _ => pure .non))) (fNotT (fB (fArgs (a2 (gIsi is_InvalidWord (.own "InvalidWord"))) (aCons (fVar 1) (aCons (fun _ => pure (.glob "InvalidWord")) aNil)))))) (sRet (fVar 1)) sNil)
  (sSeq (sIf (fB (fArgs (a2 (gIsi is_list (.ty "list"))) (aCons (fXf xf_value "value" (fVar 1)) (aCons (fun _ => pure (.ty "list")) aNil)))) (sAppC (fXf xf_value "value" (fVar 1)) (fun _ => pure (.str "more"))) sNil)
  (sRet (fArgs (a1 gRepr) (aCons (fXf xf_value "value" (fVar 1)) aNil))))))))
theorem sc__law_caught : FnScope ["words", "caught", "error"] ["words"] (defScope s__law_caught) := ⟨rfl, rfl, rfl, by decide +kernel, rfl, by decide +kernel, by decide +kernel⟩
theorem b__law_caught (x : Fx K mg) : Binds K x.fd__law_caught ["words"] [] := x.d__law_caught.bindsN fun _ _ _ _ _ _ us hl => match us, hl with | [_], _ => rfl
set_option maxHeartbeats 4000000 in
theorem ft__law_caught (x : Fx K mg) : FT P0 w K mg base (He.ga K) (7 + 1) (He.fAd K ("_law_caught", none)) x.fd__law_caught ["words"] M__law_caught := ft_of x.d__law_caught sc__law_caught rfl rfl fun cdv A outer s H E lv =>
  have nd := sc__law_caught.nd
  have tk := ctx_takes (P := P0) (w := w) (K := K) (mg := mg) (base := base) (N := ["words", "caught", "error"]) (qual := "_law_caught") (scope := defScope s__law_caught) (f := He.fAd K ("_law_caught", none)) (cdv := cdv) (A := A) (outer := outer) (s := s) (H := H) (E := E)
  have po := ctx_po (P := P0) (w := w) (K := K) (mg := mg) (base := base) (N := ["words", "caught", "error"]) (qual := "_law_caught") (scope := defScope s__law_caught) (f := He.fAd K ("_law_caught", none)) (cdv := cdv) (A := A) (outer := outer) (s := s) (H := H) (E := E)
  (sfs_cons (sf_set (i := 1) nd rfl (by first | exact Or.inl rfl | exact Or.inr rfl) pf_non)
  (sfs_cons (sf_try (i := 2) rfl rfl rfl nd rfl rfl ⟨rfl, rfl, .inl x.g_TickError⟩ tk x.xt_TickError (fun W pn xe tk => (sfs_one (sf_expr (pf_call (ft__law_made_rule x) (lv.mono (by decide)) rfl x.g__law_made_rule x.d__law_made_rule.kp (b__law_made_rule x) .nil CsD.nil tk (af_cons (pf_var (pv 0)) af_nil))))) (fun a pn => (sfs_one (sf_set (i := 1) nd rfl (by first | exact Or.inl rfl | exact Or.inr rfl) (pf_var (pv 2))))))
  (sfs_cons (sf_if (tf_pw (twf_or (tf_cmp op_isN ok_gIsN (pf_var (pv 1)) pf_non (nomark _)) (twf_or1 (tf_not (tf_val (pf_callB call_isi2 (ok_gIsi (c := (.own "InvalidWord")) x.is_InvalidWord) rfl x.n_isinstance PyProof.Rows.Boot.«isinstance» (af_cons (pf_var (pv 1)) (af_cons (pf_clsName rfl x.g_InvalidWord) af_nil)))))))) (sfs_one (sf_ret (pf_var (pv 1)))) sfs_nil)
  (sfs_cons (sf_if (tf_val (pf_callB call_isi2 (ok_gIsi (c := (.ty "list")) x.is_list) rfl x.n_isinstance PyProof.Rows.Boot.«isinstance» (af_cons (pf_xf (cs := xf_value) (pf_var (pv 1)) x.xf_value) (af_cons (pf_tyName rfl x.n_list PyProof.Rows.Boot.«list») af_nil)))) (sfs_one (sf_appC (pf_xf (cs := xf_value) (pf_var (pv 1)) x.xf_value) pf_str)) sfs_nil)
  (sfs_one (sf_ret (pf_callB (call_reprD lv) ok_gRepr rfl x.n_repr PyProof.Rows.Boot.«repr» (af_cons (pf_xf (cs := xf_value) (pf_var (pv 1)) x.xf_value) af_nil))))))))
/-! ### _law_cell -/
def M__law_cell : List D → Cm D := mkM 2 2 ((sSeq (sIf (fB (f2 (gOrd (fun i j => decide (i < j))) (fVar 1) (fArgs (a1 gLen) (aCons (fVar 0) aNil)))) (sRet (f2 gIx (fVar 0) (fVar 1))) sNil)
  (sRet (fun _ => pure (.int 0)))))
theorem sc__law_cell : FnScope ["script", "index"] ["script", "index"] (defScope s__law_cell) := ⟨rfl, rfl, rfl, by decide +kernel, rfl, by decide +kernel, by decide +kernel⟩
theorem b__law_cell (x : Fx K mg) : Binds K x.fd__law_cell ["script", "index"] [] := x.d__law_cell.bindsN fun _ _ _ _ _ _ us hl => match us, hl with | [_, _], _ => rfl
set_option maxHeartbeats 4000000 in
theorem ft__law_cell (x : Fx K mg) : FT P0 w K mg base (He.ga K) (3 + 1) (He.fAd K ("_law_cell", none)) x.fd__law_cell ["script", "index"] M__law_cell := ft_of x.d__law_cell sc__law_cell rfl rfl fun cdv A outer s H E lv =>
  have nd := sc__law_cell.nd
  have tk := ctx_takes (P := P0) (w := w) (K := K) (mg := mg) (base := base) (N := ["script", "index"]) (qual := "_law_cell") (scope := defScope s__law_cell) (f := He.fAd K ("_law_cell", none)) (cdv := cdv) (A := A) (outer := outer) (s := s) (H := H) (E := E)
  have po := ctx_po (P := P0) (w := w) (K := K) (mg := mg) (base := base) (N := ["script", "index"]) (qual := "_law_cell") (scope := defScope s__law_cell) (f := He.fAd K ("_law_cell", none)) (cdv := cdv) (A := A) (outer := outer) (s := s) (H := H) (E := E)
  (sfs_cons (sf_if (tf_cmp op_lt (ok_gOrd _) (pf_var (pv 1)) (pf_callB call_len ok_gLen rfl x.n_len PyProof.Rows.Boot.«len» (af_cons (pf_var (pv 0)) af_nil)) (nomark _)) (sfs_one (sf_ret (pf_ix (pf_var (pv 0)) (pf_var (pv 1)) fun _ _ => rfl))) sfs_nil)
  (sfs_one (sf_ret pf_int)))
/-! ### _law_generator -/
def M__law_generator : List D → Cm D := mkM 2 3 ((sSeq (sSet 2 (fCall M__law_cell [] (aCons (fVar 0) (aCons (fVar 1) aNil))))
  (sRet (fCell (oLst (aCons (f2 gMod (fArgs (a1 gInt) (aCons (fArgs (a2 gMax) (aCons (f2 gSub (fVar 2) (f2 gPow (fun _ => pure (.int 10)) (fun _ => pure (.int 18)))) (aCons (fun _ => pure (.int 0)) aNil))) aNil)) (f2 gPow (f2 gPow (fun _ => pure (.int 10)) (fun _ => pure (.int 60))) (fun _ => pure (.int 10)))) (aCons (f2 gMod (fArgs (a1 gInt) (aCons (fVar 2) aNil)) (fun _ => pure (.int 2147483647))) (aCons (f2 gMul2 (fun _ => pure (.int 1000)) (fVar 1)) aNil))))))))
theorem sc__law_generator : FnScope ["script", "index", "seed"] ["script", "index"] (defScope s__law_generator) := ⟨rfl, rfl, rfl, by decide +kernel, rfl, by decide +kernel, by decide +kernel⟩
theorem b__law_generator (x : Fx K mg) : Binds K x.fd__law_generator ["script", "index"] [] := x.d__law_generator.bindsN fun _ _ _ _ _ _ us hl => match us, hl with | [_, _], _ => rfl
set_option maxHeartbeats 4000000 in
theorem ft__law_generator (x : Fx K mg) : FT P0 w K mg base (He.ga K) (4 + 1) (He.fAd K ("_law_generator", none)) x.fd__law_generator ["script", "index"] M__law_generator := ft_of x.d__law_generator sc__law_generator rfl rfl fun cdv A outer s H E lv =>
  have nd := sc__law_generator.nd
  have tk := ctx_takes (P := P0) (w := w) (K := K) (mg := mg) (base := base) (N := ["script", "index", "seed"]) (qual := "_law_generator") (scope := defScope s__law_generator) (f := He.fAd K ("_law_generator", none)) (cdv := cdv) (A := A) (outer := outer) (s := s) (H := H) (E := E)
  have po := ctx_po (P := P0) (w := w) (K := K) (mg := mg) (base := base) (N := ["script", "index", "seed"]) (qual := "_law_generator") (scope := defScope s__law_generator) (f := He.fAd K ("_law_generator", none)) (cdv := cdv) (A := A) (outer := outer) (s := s) (H := H) (E := E)
  (sfs_cons (sf_set (i := 2) nd rfl (by first | exact Or.inl rfl | exact Or.inr rfl) (pf_call (ft__law_cell x) (lv.mono (by decide)) rfl x.g__law_cell x.d__law_cell.kp (b__law_cell x) .nil CsD.nil tk (af_cons (pf_var (pv 0)) (af_cons (pf_var (pv 1)) af_nil))))
  (sfs_one (sf_ret (pf_cell (of_lst (af_cons (pf_bin op_mod ok_gMod (pf_callTy call_int1 ok_gInt rfl x.n_int PyProof.Rows.Boot.«int» (af_cons (pf_callB (call_max2 rfl) ok_gMax rfl x.n_max PyProof.Rows.Boot.«max» (af_cons (pf_bin op_sub ok_gSub (pf_var (pv 2)) (pf_bin op_powW ok_gPow pf_int pf_int)) (af_cons pf_int af_nil))) af_nil)) (pf_bin op_powW ok_gPow (pf_bin op_powW ok_gPow pf_int pf_int) pf_int)) (af_cons (pf_bin op_mod ok_gMod (pf_callTy call_int1 ok_gInt rfl x.n_int PyProof.Rows.Boot.«int» (af_cons (pf_var (pv 2)) af_nil)) pf_int) (af_cons (pf_bin op_mul4 ok_gMul2 pf_int (pf_var (pv 1))) af_nil))))))))
/-! ### _law_hash -/
def M__law_hash : List D → Cm D := mkM 2 3 ((sSeq (sSet 2 (f2 gMod (fArgs (a1 gInt) (aCons (f2 gAdd (f2 gAdd (f2 gAdd (f2 gMul2 (fVar 0) (fun _ => pure (.int 1103515245))) (f2 gMul2 (f2 gMul2 (fun _ => pure (.int 7919)) (fVar 1)) (fVar 1))) (fVar 1)) (fun _ => pure (.int 1))) aNil)) (fun _ => pure (.int 2147483647))))
  (sSeq (sSet 2 (f2 gMod (fArgs (a1 gInt) (aCons (f2 gAdd (f2 gMul2 (fVar 2) (fVar 2)) (fun _ => pure (.int 69621))) aNil)) (fun _ => pure (.int 2147483629))))
  (sRet (f2 gMod (fArgs (a1 gInt) (aCons (f2 gMul2 (fVar 2) (fun _ => pure (.int 48271))) aNil)) (fun _ => pure (.int 2147483587)))))))
theorem sc__law_hash : FnScope ["seed", "index", "mixed"] ["seed", "index"] (defScope s__law_hash) := ⟨rfl, rfl, rfl, by decide +kernel, rfl, by decide +kernel, by decide +kernel⟩
theorem b__law_hash (x : Fx K mg) : Binds K x.fd__law_hash ["seed", "index"] [] := x.d__law_hash.bindsN fun _ _ _ _ _ _ us hl => match us, hl with | [_, _], _ => rfl
set_option maxHeartbeats 4000000 in
theorem ft__law_hash (x : Fx K mg) : FT P0 w K mg base (He.ga K) (3 + 1) (He.fAd K ("_law_hash", none)) x.fd__law_hash ["seed", "index"] M__law_hash := ft_of x.d__law_hash sc__law_hash rfl rfl fun cdv A outer s H E lv =>
  have nd := sc__law_hash.nd
  have tk := ctx_takes (P := P0) (w := w) (K := K) (mg := mg) (base := base) (N := ["seed", "index", "mixed"]) (qual := "_law_hash") (scope := defScope s__law_hash) (f := He.fAd K ("_law_hash", none)) (cdv := cdv) (A := A) (outer := outer) (s := s) (H := H) (E := E)
  have po := ctx_po (P := P0) (w := w) (K := K) (mg := mg) (base := base) (N := ["seed", "index", "mixed"]) (qual := "_law_hash") (scope := defScope s__law_hash) (f := He.fAd K ("_law_hash", none)) (cdv := cdv) (A := A) (outer := outer) (s := s) (H := H) (E := E)
  (sfs_cons (sf_set (i := 2) nd rfl (by first | exact Or.inl rfl | exact Or.inr rfl) (pf_bin op_mod ok_gMod (pf_callTy call_int1 ok_gInt rfl x.n_int PyProof.Rows.Boot.«int» (af_cons (pf_bin op_add4 ok_gAdd (pf_bin op_add4 ok_gAdd (pf_bin op_add4 ok_gAdd (pf_bin op_mul4 ok_gMul2 (pf_var (pv 0)) pf_int) (pf_bin op_mul4 ok_gMul2 (pf_bin op_mul4 ok_gMul2 pf_int (pf_var (pv 1))) (pf_var (pv 1)))) (pf_var (pv 1))) pf_int) af_nil)) pf_int))
  (sfs_cons (sf_set (i := 2) nd rfl (by first | exact Or.inl rfl | exact Or.inr rfl) (pf_bin op_mod ok_gMod (pf_callTy call_int1 ok_gInt rfl x.n_int PyProof.Rows.Boot.«int» (af_cons (pf_bin op_add4 ok_gAdd (pf_bin op_mul4 ok_gMul2 (pf_var (pv 2)) (pf_var (pv 2))) pf_int) af_nil)) pf_int))
  (sfs_one (sf_ret (pf_bin op_mod ok_gMod (pf_callTy call_int1 ok_gInt rfl x.n_int PyProof.Rows.Boot.«int» (af_cons (pf_bin op_mul4 ok_gMul2 (pf_var (pv 2)) pf_int) af_nil)) pf_int)))))
/-! ### _law_random -/
def F__law_random_0 : FS := (sSet 2 (f2 gMod (fArgs (a1 gInt) (aCons (f2 gIx (fVar 0) (fun _ => pure (.int 0))) aNil)) (fVar 1)))
def F__law_random_1 : FS := (sPutC (f2 gDiv (f2 gIx (fVar 0) (fun _ => pure (.int 0))) (fVar 1)) (fVar 0) (fun _ => pure (.int 0)))
def F__law_random_2 : FS := (sRet (fVar 2))
def F__law_random_3 : FS := (sIf (fB (f2 (gOrd (fun i j => decide (j < i))) (f2 gIx (fVar 0) (fun _ => pure (.int 0))) (fun _ => pure (.int 0)))) (sSeq F__law_random_0
  (sSeq F__law_random_1
  F__law_random_2)) sNil)
def F__law_random_4 : FS := (sSet 2 (fun _ => pure (.int 0)))
def F__law_random_5 : FS := (sPutC (f2 gAdd (f2 gIx (fVar 0) (fun _ => pure (.int 2))) (fun _ => pure (.int 1))) (fVar 0) (fun _ => pure (.int 2)))
def F__law_random_6 : FS := (sSet 2 (f2 gAdd (f2 gMul2 (fVar 2) (fun _ => pure (.int 2147483587))) (fCall M__law_hash [] (aCons (f2 gIx (fVar 0) (fun _ => pure (.int 1))) (aCons (f2 gIx (fVar 0) (fun _ => pure (.int 2))) aNil)))))
def B__law_random_7 : FS := (sSeq F__law_random_5
  F__law_random_6)
def F__law_random_8 : FS := (sFor (.one 3) (iRg1 (aCons (f2 gAdd (fun _ => pure (.int 1)) (f2 gDiv (f1 gBits (fVar 1)) (fun _ => pure (.int 30)))) aNil)) B__law_random_7)
def F__law_random_9 : FS := (sRet (f2 gMod (fArgs (a1 gInt) (aCons (fVar 2) aNil)) (fVar 1)))
def M__law_random : List D → Cm D := mkM 2 4 ((sSeq F__law_random_3
  (sSeq F__law_random_4
  (sSeq F__law_random_8
  F__law_random_9))))
theorem sc__law_random : FnScope ["generator", "bound", "drawn", "turn"] ["generator", "bound"] (defScope s__law_random) := ⟨rfl, rfl, rfl, by decide +kernel, rfl, by decide +kernel, by decide +kernel⟩
theorem b__law_random (x : Fx K mg) : Binds K x.fd__law_random ["generator", "bound"] [] := x.d__law_random.bindsN fun _ _ _ _ _ _ us hl => match us, hl with | [_, _], _ => rfl
set_option maxHeartbeats 4000000 in
theorem ft__law_random (x : Fx K mg) : FT P0 w K mg base (He.ga K) (4 + 1) (He.fAd K ("_law_random", none)) x.fd__law_random ["generator", "bound"] M__law_random := ft_of x.d__law_random sc__law_random rfl rfl fun cdv A outer s H E lv =>
  have nd := sc__law_random.nd
  have tk := ctx_takes (P := P0) (w := w) (K := K) (mg := mg) (base := base) (N := ["generator", "bound", "drawn", "turn"]) (qual := "_law_random") (scope := defScope s__law_random) (f := He.fAd K ("_law_random", none)) (cdv := cdv) (A := A) (outer := outer) (s := s) (H := H) (E := E)
  have po := ctx_po (P := P0) (w := w) (K := K) (mg := mg) (base := base) (N := ["generator", "bound", "drawn", "turn"]) (qual := "_law_random") (scope := defScope s__law_random) (f := He.fAd K ("_law_random", none)) (cdv := cdv) (A := A) (outer := outer) (s := s) (H := H) (E := E)
  (sfs_cons (sf_if (tf_cmp op_gt (ok_gOrd _) (pf_ix (pf_var (pv 0)) pf_int fun _ _ => rfl) pf_int (nomark _)) (sfs_cons (sf_set (i := 2) nd rfl (by first | exact Or.inl rfl | exact Or.inr rfl) (pf_bin op_mod ok_gMod (pf_callTy call_int1 ok_gInt rfl x.n_int PyProof.Rows.Boot.«int» (af_cons (pf_ix (pf_var (pv 0)) pf_int fun _ _ => rfl) af_nil)) (pf_var (pv 1))))
  (sfs_cons (sf_putC (pf_bin op_fdivW ok_gDiv (pf_ix (pf_var (pv 0)) pf_int fun _ _ => rfl) (pf_var (pv 1))) (pf_var (pv 0)) pf_int)
  (sfs_one (sf_ret (pf_var (pv 2)))))) sfs_nil)
  (sfs_cons (sf_set (i := 2) nd rfl (by first | exact Or.inl rfl | exact Or.inr rfl) pf_int)
  (sfs_cons (sf_for (b := (.one 3)) po rfl (if_range1 rfl x.n_range (af_cons (pf_bin op_add4 ok_gAdd pf_int (pf_bin op_fdivW ok_gDiv (pf_bits (pf_var (pv 1))) pf_int)) af_nil)) (pg_name nd rfl (by first | exact Or.inl rfl | exact Or.inr rfl)) (sfs_cons (sf_putC (pf_bin op_add4 ok_gAdd (pf_ix (pf_var (pv 0)) pf_int fun _ _ => rfl) pf_int) (pf_var (pv 0)) pf_int)
  (sfs_one (sf_set (i := 2) nd rfl (by first | exact Or.inl rfl | exact Or.inr rfl) (pf_bin op_add4 ok_gAdd (pf_bin op_mul4 ok_gMul2 (pf_var (pv 2)) pf_int) (pf_call (ft__law_hash x) (lv.mono (by decide)) rfl x.g__law_hash x.d__law_hash.kp (b__law_hash x) .nil CsD.nil tk (af_cons (pf_ix (pf_var (pv 0)) pf_int fun _ _ => rfl) (af_cons (pf_ix (pf_var (pv 0)) pf_int fun _ _ => rfl) af_nil))))))))
  (sfs_one (sf_ret (pf_bin op_mod ok_gMod (pf_callTy call_int1 ok_gInt rfl x.n_int PyProof.Rows.Boot.«int» (af_cons (pf_var (pv 2)) af_nil)) (pf_var (pv 1))))))))
/-! ### _law_rule_parts -/
def F__law_rule_parts_0 : FS := (sSet 1 (f2 gIx (fFrz (oLst (aCons (fun _ => pure (.str "keep")) (aCons (fun _ => pure (.str "leave")) (aCons (fun _ => pure (.str "add")) (aCons (fun _ => pure (.str "only")) aNil)))))) (fCall M__law_random [] (aCons (fVar 0) (aCons (fun _ => pure (.int 4)) aNil)))))
def F__law_rule_parts_1 : FS := (sSet 2 (f2 gIx (fFrz (oLst (aCons (fun _ => pure (.str "keep")) (aCons (fun _ => pure (.str "keep")) (aCons (fun _ => pure (.str "leave")) aNil))))) (fCall M__law_random [] (aCons (fVar 0) (aCons (fun _ => pure (.int 3)) aNil)))))
def F__law_rule_parts_2 : FS := (sSet 3 (f2 gIx (fFrz (oLst (aCons (fun _ => pure (.str "things")) (aCons (fun _ => pure (.str "models")) aNil)))) (fCall M__law_random [] (aCons (fVar 0) (aCons (fun _ => pure (.int 2)) aNil)))))
def F__law_rule_parts_3 : FS := (sRet (fTup (aCons (fVar 1) (aCons (fVar 2) (aCons (f2 (gEq false) (fCall M__law_random [] (aCons (fVar 0) (aCons (fun _ => pure (.int 2)) aNil))) (fun _ => pure (.int 0))) (aCons (fVar 3) (aCons (f2 (gEq false) (fCall M__law_random [] (aCons (fVar 0) (aCons (fun _ => pure (.int 3)) aNil))) (fun _ => pure (.int 0))) aNil)))))))
def M__law_rule_parts : List D → Cm D := mkM 1 4 ((sSeq F__law_rule_parts_0
  (sSeq F__law_rule_parts_1
  (sSeq F__law_rule_parts_2
  F__law_rule_parts_3))))
theorem sc__law_rule_parts : FnScope ["generator", "own", "others", "counts"] ["generator"] (defScope s__law_rule_parts) := ⟨rfl, rfl, rfl, by decide +kernel, rfl, by decide +kernel, by decide +kernel⟩
theorem b__law_rule_parts (x : Fx K mg) : Binds K x.fd__law_rule_parts ["generator"] [] := x.d__law_rule_parts.bindsN fun _ _ _ _ _ _ us hl => match us, hl with | [_], _ => rfl
set_option maxHeartbeats 4000000 in
theorem ft__law_rule_parts (x : Fx K mg) : FT P0 w K mg base (He.ga K) (5 + 1) (He.fAd K ("_law_rule_parts", none)) x.fd__law_rule_parts ["generator"] M__law_rule_parts := ft_of x.d__law_rule_parts sc__law_rule_parts rfl rfl fun cdv A outer s H E lv =>
  have nd := sc__law_rule_parts.nd
  have tk := ctx_takes (P := P0) (w := w) (K := K) (mg := mg) (base := base) (N := ["generator", "own", "others", "counts"]) (qual := "_law_rule_parts") (scope := defScope s__law_rule_parts) (f := He.fAd K ("_law_rule_parts", none)) (cdv := cdv) (A := A) (outer := outer) (s := s) (H := H) (E := E)
  have po := ctx_po (P := P0) (w := w) (K := K) (mg := mg) (base := base) (N := ["generator", "own", "others", "counts"]) (qual := "_law_rule_parts") (scope := defScope s__law_rule_parts) (f := He.fAd K ("_law_rule_parts", none)) (cdv := cdv) (A := A) (outer := outer) (s := s) (H := H) (E := E)
  (sfs_cons (sf_set (i := 1) nd rfl (by first | exact Or.inl rfl | exact Or.inr rfl) (pf_ix (pf_frz (of_lst (af_cons pf_str (af_cons pf_str (af_cons pf_str (af_cons pf_str af_nil)))))) (pf_call (ft__law_random x) (lv.mono (by decide)) rfl x.g__law_random x.d__law_random.kp (b__law_random x) .nil CsD.nil tk (af_cons (pf_var (pv 0)) (af_cons pf_int af_nil))) fun _ _ => rfl))
  (sfs_cons (sf_set (i := 2) nd rfl (by first | exact Or.inl rfl | exact Or.inr rfl) (pf_ix (pf_frz (of_lst (af_cons pf_str (af_cons pf_str (af_cons pf_str af_nil))))) (pf_call (ft__law_random x) (lv.mono (by decide)) rfl x.g__law_random x.d__law_random.kp (b__law_random x) .nil CsD.nil tk (af_cons (pf_var (pv 0)) (af_cons pf_int af_nil))) fun _ _ => rfl))
  (sfs_cons (sf_set (i := 3) nd rfl (by first | exact Or.inl rfl | exact Or.inr rfl) (pf_ix (pf_frz (of_lst (af_cons pf_str (af_cons pf_str af_nil)))) (pf_call (ft__law_random x) (lv.mono (by decide)) rfl x.g__law_random x.d__law_random.kp (b__law_random x) .nil CsD.nil tk (af_cons (pf_var (pv 0)) (af_cons pf_int af_nil))) fun _ _ => rfl))
  (sfs_one (sf_ret (pf_tup (af_cons (pf_var (pv 1)) (af_cons (pf_var (pv 2)) (af_cons (pf_cmp (op_eqD lv.room.units) ok_gEq (pf_call (ft__law_random x) (lv.mono (by decide)) rfl x.g__law_random x.d__law_random.kp (b__law_random x) .nil CsD.nil tk (af_cons (pf_var (pv 0)) (af_cons pf_int af_nil))) pf_int (nomark _)) (af_cons (pf_var (pv 3)) (af_cons (pf_cmp (op_eqD lv.room.units) ok_gEq (pf_call (ft__law_random x) (lv.mono (by decide)) rfl x.g__law_random x.d__law_random.kp (b__law_random x) .nil CsD.nil tk (af_cons (pf_var (pv 0)) (af_cons pf_int af_nil))) pf_int (nomark _)) af_nil)))))))))))
/-! ### law -/
def F_law_0 : FS := (sSet 1 (fun _ => M__law_all_rules []))
def F_law_1 : FS := (sSet 2 (fFrz (oLc [7] (.one 7) (iSeq (fVar 1)) (fun _ => pure true) (fCall M__law_made_rule [] (aCons (fVar 7) aNil)))))
def F_law_2 : FS := (sSet 4 (f2 gIx (fVar 2) (fVar 3)))
def F_law_3 : FS := (sRet (fun _ => pure (.bl false)))
def F_law_4 : FS := (sIf (fB (f2 (gEq true) (fArgs (a1 gRepr) (aCons (fTup (aCons (fFld ["Rule"] "own" (vVar 4)) (aCons (fFld ["Rule"] "others" (vVar 4)) (aCons (fFld ["Rule"] "bears" (vVar 4)) (aCons (fFld ["Rule"] "counts" (vVar 4)) (aCons (fFld ["Rule"] "less" (vVar 4)) aNil)))))) aNil)) (fArgs (a1 gRepr) (aCons (f2 gIx (fVar 1) (fVar 3)) aNil)))) F_law_3 sNil)
def F_law_5 : FS := (sSet 5 (fCall M__law_made_rule [] (aCons (f2 gIx (fVar 1) (fVar 3)) aNil)))
def F_law_6 : FS := (sRet (fun _ => pure (.bl false)))
def F_law_7 : FS := (sIf (fB (f2 (gEq true) (fFrz (oLc [11] (.one 11) (iRg1 (aCons (fArgs (a1 gLen) (aCons (fVar 1) aNil)) aNil)) (fB (f2 (gEq true) (f2 (gEqO false "Rule" M_Rule_eq) (f2 gIx (fVar 2) (fVar 11)) (fVar 5)) (f2 (gEq false) (fVar 11) (fVar 3)))) (fVar 11))) (fFrz (oLst aNil)))) F_law_6 sNil)
def F_law_8 : FS := (sRet (fun _ => pure (.bl false)))
def F_law_9 : FS := (sIf (fB (f2 (gEq true) (fFrz (oLc [11] (.one 11) (iSeq (fVar 2)) (fB (f2 (gEq false) (f2 (gEqO true "Rule" M_Rule_eq) (fVar 11) (fVar 5)) (f2 (gEqO false "Rule" M_Rule_eq) (fVar 11) (fVar 5)))) (fVar 11))) (fFrz (oLst aNil)))) F_law_8 sNil)
def B_law_10 : FS := (sSeq F_law_2
  (sSeq F_law_4
  (sSeq F_law_5
  (sSeq F_law_7
  F_law_9))))
def F_law_11 : FS := (sFor (.one 3) (iRg1 (aCons (fArgs (a1 gLen) (aCons (fVar 1) aNil)) aNil)) B_law_10)
def F_law_12 : FS := (sSet 7 (fCall M__law_rule_parts [] (aCons (fCall M__law_generator [] (aCons (fVar 0) (aCons (fVar 6) aNil))) aNil)))
def F_law_13 : FS := (sSet 4 (fCall M__law_made_rule [] (aCons (fVar 7) aNil)))
def F_law_14 : FS := (sRet (fun _ => pure (.bl false)))
def F_law_15 : FS := (sIf (fOrT (fB (f2 (gEqO false "Rule" M_Rule_eq) (fVar 4) (fVar 8))) (fOrT (fB (f2 (gEqO false "Rule" M_Rule_eq) (fVar 8) (fVar 4))) (fNotT (fB (f2 (gEqO true "Rule" M_Rule_eq) (fVar 4) (fVar 8)))))) F_law_14 sNil)
def B_law_16 : FS := F_law_15
def F_law_17 : FS := (sFor (.one 8) (iSeq (fFrz (oLst (aCons (fun _ => pure .non) (aCons (fun _ => pure (.int 0)) (aCons (fVar 7) (aCons (fFrz (oOne gList (aCons (fVar 7) aNil))) (aCons (fun _ => pure (.str "rule")) (aCons (fFrz (fun _ S => .ok (.dK []) S)) (aCons (fun _ => pure (.bl true)) aNil)))))))))) B_law_16)
def F_law_18 : FS := (sSet 9 (fFrz (oLst (aCons (fun _ => pure .non) (aCons (fun _ => pure (.int 3)) (aCons (fun _ => pure (.str "")) (aCons (fun _ => pure (.str "Keep")) (aCons (fun _ => pure (.str "none")) (aCons (fCell (oLst (aCons (fun _ => pure (.str "keep")) aNil))) (aCons (fTup (aCons (fun _ => pure (.str "keep")) aNil)) (aCons (fFrz (fun _ S => .ok (.dK []) S)) (aCons (fun _ => pure (.int 0)) (aCons (fun _ => pure (.int 1)) (aCons (fun _ => pure (.str "True")) (aCons (fCell (oLst aNil)) aNil)))))))))))))))
def F_law_19 : FS := (sSet 9 (f2 gAdd (fVar 9) (fFrz (oLst (aCons (f2 gIx (fFrz (oLst (aCons (fun _ => pure (.str "things")) (aCons (fun _ => pure (.str "add")) (aCons (fun _ => pure (.str "things")) (aCons (fun _ => pure (.str "keep")) (aCons (fun _ => pure (.str "keep")) aNil))))))) (fVar 3)) (aCons (f2 gIx (fFrz (oLst (aCons (fun _ => pure (.bl true)) (aCons (fun _ => pure (.bl false)) (aCons (fun _ => pure (.str "keep")) (aCons (fun _ => pure (.bl true)) (aCons (fun _ => pure (.str "models")) aNil))))))) (fVar 3)) aNil))))))
def F_law_20 : FS := (sRet (fun _ => pure (.bl false)))
def F_law_21 : FS := (sIf (fB (f2 (gEq true) (fCall M__law_caught [] (aCons (f2 gAdd (f2 gAdd (f3 gSlT (fVar 7) pNone (pSome (fVar 3))) (fTup (aCons (fVar 10) aNil))) (f3 gSlT (fVar 7) (pSome (f2 gAdd (fVar 3) (fun _ => pure (.int 1)))) pNone)) aNil)) (fArgs (a1 gRepr) (aCons (fVar 10) aNil)))) F_law_20 sNil)
def F_law_22 : FS := (sRet (fun _ => pure (.bl false)))
def F_law_23 : FS := (sIf (fB (f2 (gEq true) (fCall M__law_caught [] (aCons (f2 gAdd (f2 gAdd (f3 gSlT (fVar 7) pNone (pSome (fVar 3))) (fTup (aCons (fVar 10) aNil))) (f2 gMul2 (fTup (aCons (fun _ => pure .non) aNil)) (f2 gSub (fun _ => pure (.int 4)) (fVar 3)))) aNil)) (fArgs (a1 gRepr) (aCons (fVar 10) aNil)))) F_law_22 sNil)
def B_law_24 : FS := (sSeq F_law_21
  F_law_23)
def F_law_25 : FS := (sFor (.one 10) (iSeq (fVar 9)) B_law_24)
def B_law_26 : FS := (sSeq F_law_18
  (sSeq F_law_19
  F_law_25))
def F_law_27 : FS := (sFor (.one 3) (iRg1 (aCons (fun _ => pure (.int 5)) aNil)) B_law_26)
def B_law_28 : FS := (sSeq F_law_12
  (sSeq F_law_13
  (sSeq F_law_17
  F_law_27)))
def F_law_29 : FS := (sFor (.one 6) (iRg1 (aCons (fun _ => pure (.int 2)) aNil)) B_law_28)
def F_law_30 : FS := (sRet (fun _ => pure (.bl true)))
def M_law : List D → Cm D := mkM 1 12 ((sSeq F_law_0
  (sSeq F_law_1
  (sSeq F_law_11
  (sSeq F_law_29
  F_law_30)))))
theorem sc_law : FnScope ["script", "every", "rules", "at", "rule", "twin", "index", "words", "thing", "odd", "bad", "other"] ["script"] (defScope s_law) := ⟨rfl, rfl, rfl, by decide +kernel, rfl, by decide +kernel, by decide +kernel⟩
theorem b_law (x : Fx K mg) : Binds K x.fd_law ["script"] [] := x.d_law.bindsN fun _ _ _ _ _ _ us hl => match us, hl with | [_], _ => rfl
set_option maxHeartbeats 4000000 in
theorem ft_law (x : Fx K mg) : FT P0 w K mg base (He.ga K) (8 + 1) (He.fAd K ("law", none)) x.fd_law ["script"] M_law := ft_of x.d_law sc_law rfl rfl fun cdv A outer s H E lv =>
  have nd := sc_law.nd
  have tk := ctx_takes (P := P0) (w := w) (K := K) (mg := mg) (base := base) (N := ["script", "every", "rules", "at", "rule", "twin", "index", "words", "thing", "odd", "bad", "other"]) (qual := "law") (scope := defScope s_law) (f := He.fAd K ("law", none)) (cdv := cdv) (A := A) (outer := outer) (s := s) (H := H) (E := E)
  have po := ctx_po (P := P0) (w := w) (K := K) (mg := mg) (base := base) (N := ["script", "every", "rules", "at", "rule", "twin", "index", "words", "thing", "odd", "bad", "other"]) (qual := "law") (scope := defScope s_law) (f := He.fAd K ("law", none)) (cdv := cdv) (A := A) (outer := outer) (s := s) (H := H) (E := E)
  (sfs_cons (sf_set (i := 1) nd rfl (by first | exact Or.inl rfl | exact Or.inr rfl) (pf_call0 (ft__law_all_rules x) (lv.mono (by decide)) rfl x.g__law_all_rules x.d__law_all_rules.kp (b__law_all_rules x) .nil CsD.nil tk))
  (sfs_cons (sf_set (i := 2) nd rfl (by first | exact Or.inl rfl | exact Or.inr rfl) (pf_frz (of_lc (own := [("words", 7)]) (b := (.one 7)) rfl nd (if_seq (pf_var (pv 1))) (blkOk_by (by rfl)) (by decide) (fun _ _ _ _ _ => (pg_name nd rfl (by first | exact Or.inl rfl | exact Or.inr rfl))) (fun _ _ _ _ _ => tsf_nil) (fun _ _ _ _ _ => (pf_call (ft__law_made_rule x) (lv.mono (by decide)) rfl x.g__law_made_rule x.d__law_made_rule.kp (b__law_made_rule x) .nil CsD.nil takesF (af_cons (pf_var (pv 7)) af_nil))))))
  (sfs_cons (sf_for (b := (.one 3)) po rfl (if_range1 rfl x.n_range (af_cons (pf_callB call_len ok_gLen rfl x.n_len PyProof.Rows.Boot.«len» (af_cons (pf_var (pv 1)) af_nil)) af_nil)) (pg_name nd rfl (by first | exact Or.inl rfl | exact Or.inr rfl)) (sfs_cons (sf_set (i := 4) nd rfl (by first | exact Or.inl rfl | exact Or.inr rfl) (pf_ix (pf_var (pv 2)) (pf_var (pv 3)) fun _ _ => rfl))
  (sfs_cons (sf_if (tf_cmp (op_neD lv.room.units) ok_gNe (pf_callB (call_reprD lv) ok_gRepr rfl x.n_repr PyProof.Rows.Boot.«repr» (af_cons (pf_tup (af_cons (pf_fld (cs := ["Rule"]) (vf_var (pv 4)) x.f_own) (af_cons (pf_fld (cs := ["Rule"]) (vf_var (pv 4)) x.f_others) (af_cons (pf_fld (cs := ["Rule"]) (vf_var (pv 4)) x.f_bears) (af_cons (pf_fld (cs := ["Rule"]) (vf_var (pv 4)) x.f_counts) (af_cons (pf_fld (cs := ["Rule"]) (vf_var (pv 4)) x.f_less) af_nil)))))) af_nil)) (pf_callB (call_reprD lv) ok_gRepr rfl x.n_repr PyProof.Rows.Boot.«repr» (af_cons (pf_ix (pf_var (pv 1)) (pf_var (pv 3)) fun _ _ => rfl) af_nil)) (nomark _)) (sfs_one (sf_ret pf_bl)) sfs_nil)
  (sfs_cons (sf_set (i := 5) nd rfl (by first | exact Or.inl rfl | exact Or.inr rfl) (pf_call (ft__law_made_rule x) (lv.mono (by decide)) rfl x.g__law_made_rule x.d__law_made_rule.kp (b__law_made_rule x) .nil CsD.nil tk (af_cons (pf_ix (pf_var (pv 1)) (pf_var (pv 3)) fun _ _ => rfl) af_nil)))
  (sfs_cons (sf_if (tf_cmp (op_neD lv.room.units) ok_gNe (pf_frz (of_lc (own := [("other", 11)]) (b := (.one 11)) rfl nd (if_range1 rfl x.n_range (af_cons (pf_callB call_len ok_gLen rfl x.n_len PyProof.Rows.Boot.«len» (af_cons (pf_var (pv 1)) af_nil)) af_nil)) (blkOk_by (by rfl)) (by decide) (fun _ _ _ _ _ => (pg_name nd rfl (by first | exact Or.inl rfl | exact Or.inr rfl))) (fun _ _ _ _ _ => (tsf_one (tf_cmp (op_neD lv.room.units) ok_gNe (pf_cmp (op2_eqO lv.room.units x.eq_Rule (ft_Rule_eq x) (lv.mono (by decide)) (b_Rule_eq x)) ok_gEqO (pf_ix (pf_var (pv 2)) (pf_var (pv 11)) fun _ _ => rfl) (pf_var (pv 5)) (nomark _)) (pf_cmp (op_eqD lv.room.units) ok_gEq (pf_var (pv 11)) (pf_var (pv 3)) (nomark _)) (nomark _)))) (fun _ _ _ _ _ => (pf_var (pv 11))))) (pf_frz (of_lst af_nil)) (nomark _)) (sfs_one (sf_ret pf_bl)) sfs_nil)
  (sfs_one (sf_if (tf_cmp (op_neD lv.room.units) ok_gNe (pf_frz (of_lc (own := [("other", 11)]) (b := (.one 11)) rfl nd (if_seq (pf_var (pv 2))) (blkOk_by (by rfl)) (by decide) (fun _ _ _ _ _ => (pg_name nd rfl (by first | exact Or.inl rfl | exact Or.inr rfl))) (fun _ _ _ _ _ => (tsf_one (tf_cmp (op_eqD lv.room.units) ok_gEq (pf_cmp (op2_neO lv.room.units x.eq_Rule (ft_Rule_eq x) (lv.mono (by decide)) (b_Rule_eq x)) ok_gNeO (pf_var (pv 11)) (pf_var (pv 5)) (nomark _)) (pf_cmp (op2_eqO lv.room.units x.eq_Rule (ft_Rule_eq x) (lv.mono (by decide)) (b_Rule_eq x)) ok_gEqO (pf_var (pv 11)) (pf_var (pv 5)) (nomark _)) (nomark _)))) (fun _ _ _ _ _ => (pf_var (pv 11))))) (pf_frz (of_lst af_nil)) (nomark _)) (sfs_one (sf_ret pf_bl)) sfs_nil)))))))
  (sfs_cons (sf_for (b := (.one 6)) po rfl (if_range1 rfl x.n_range (af_cons pf_int af_nil)) (pg_name nd rfl (by first | exact Or.inl rfl | exact Or.inr rfl)) (sfs_cons (sf_set (i := 7) nd rfl (by first | exact Or.inl rfl | exact Or.inr rfl) (pf_call (ft__law_rule_parts x) (lv.mono (by decide)) rfl x.g__law_rule_parts x.d__law_rule_parts.kp (b__law_rule_parts x) .nil CsD.nil tk (af_cons (pf_call (ft__law_generator x) (lv.mono (by decide)) rfl x.g__law_generator x.d__law_generator.kp (b__law_generator x) .nil CsD.nil tk (af_cons (pf_var (pv 0)) (af_cons (pf_var (pv 6)) af_nil))) af_nil)))
  (sfs_cons (sf_set (i := 4) nd rfl (by first | exact Or.inl rfl | exact Or.inr rfl) (pf_call (ft__law_made_rule x) (lv.mono (by decide)) rfl x.g__law_made_rule x.d__law_made_rule.kp (b__law_made_rule x) .nil CsD.nil tk (af_cons (pf_var (pv 7)) af_nil)))
  (sfs_cons (sf_for (b := (.one 8)) po rfl (if_seq (pf_frz (of_lst (af_cons pf_non (af_cons pf_int (af_cons (pf_var (pv 7)) (af_cons (pf_frz (of_list rfl x.n_list (af_cons (pf_var (pv 7)) af_nil))) (af_cons pf_str (af_cons (pf_frz of_dict0) (af_cons pf_bl af_nil)))))))))) (pg_name nd rfl (by first | exact Or.inl rfl | exact Or.inr rfl)) (sfs_one (sf_if (tf_pw (twf_or (tf_cmp (op2_eqO lv.room.units x.eq_Rule (ft_Rule_eq x) (lv.mono (by decide)) (b_Rule_eq x)) ok_gEqO (pf_var (pv 4)) (pf_var (pv 8)) (nomark _)) (twf_or (tf_cmp (op2_eqO lv.room.units x.eq_Rule (ft_Rule_eq x) (lv.mono (by decide)) (b_Rule_eq x)) ok_gEqO (pf_var (pv 8)) (pf_var (pv 4)) (nomark _)) (twf_or1 (tf_not (tf_cmp (op2_neO lv.room.units x.eq_Rule (ft_Rule_eq x) (lv.mono (by decide)) (b_Rule_eq x)) ok_gNeO (pf_var (pv 4)) (pf_var (pv 8)) (nomark _))))))) (sfs_one (sf_ret pf_bl)) sfs_nil)))
  (sfs_one (sf_for (b := (.one 3)) po rfl (if_range1 rfl x.n_range (af_cons pf_int af_nil)) (pg_name nd rfl (by first | exact Or.inl rfl | exact Or.inr rfl)) (sfs_cons (sf_set (i := 9) nd rfl (by first | exact Or.inl rfl | exact Or.inr rfl) (pf_frz (of_lst (af_cons pf_non (af_cons pf_int (af_cons pf_str (af_cons pf_str (af_cons pf_str (af_cons (pf_cell (of_lst (af_cons pf_str af_nil))) (af_cons (pf_tup (af_cons pf_str af_nil)) (af_cons (pf_frz of_dict0) (af_cons pf_int (af_cons pf_int (af_cons pf_str (af_cons (pf_cell (of_lst af_nil)) af_nil)))))))))))))))
  (sfs_cons (sf_set (i := 9) nd rfl (by first | exact Or.inl rfl | exact Or.inr rfl) (pf_bin op_add4 ok_gAdd (pf_var (pv 9)) (pf_frz (of_lst (af_cons (pf_ix (pf_frz (of_lst (af_cons pf_str (af_cons pf_str (af_cons pf_str (af_cons pf_str (af_cons pf_str af_nil))))))) (pf_var (pv 3)) fun _ _ => rfl) (af_cons (pf_ix (pf_frz (of_lst (af_cons pf_bl (af_cons pf_bl (af_cons pf_str (af_cons pf_bl (af_cons pf_str af_nil))))))) (pf_var (pv 3)) fun _ _ => rfl) af_nil))))))
  (sfs_one (sf_for (b := (.one 10)) po rfl (if_seq (pf_var (pv 9))) (pg_name nd rfl (by first | exact Or.inl rfl | exact Or.inr rfl)) (sfs_cons (sf_if (tf_cmp (op_neD lv.room.units) ok_gNe (pf_call (ft__law_caught x) (lv.mono (by decide)) rfl x.g__law_caught x.d__law_caught.kp (b__law_caught x) .nil CsD.nil tk (af_cons (pf_bin op_add4 ok_gAdd (pf_bin op_add4 ok_gAdd (pf_slT (pf_var (pv 7)) pof_none (pof_some (pf_var (pv 3)))) (pf_tup (af_cons (pf_var (pv 10)) af_nil))) (pf_slT (pf_var (pv 7)) (pof_some (pf_bin op_add4 ok_gAdd (pf_var (pv 3)) pf_int)) pof_none)) af_nil)) (pf_callB (call_reprD lv) ok_gRepr rfl x.n_repr PyProof.Rows.Boot.«repr» (af_cons (pf_var (pv 10)) af_nil)) (nomark _)) (sfs_one (sf_ret pf_bl)) sfs_nil)
  (sfs_one (sf_if (tf_cmp (op_neD lv.room.units) ok_gNe (pf_call (ft__law_caught x) (lv.mono (by decide)) rfl x.g__law_caught x.d__law_caught.kp (b__law_caught x) .nil CsD.nil tk (af_cons (pf_bin op_add4 ok_gAdd (pf_bin op_add4 ok_gAdd (pf_slT (pf_var (pv 7)) pof_none (pof_some (pf_var (pv 3)))) (pf_tup (af_cons (pf_var (pv 10)) af_nil))) (pf_bin op_mul4 ok_gMul2 (pf_tup (af_cons pf_non af_nil)) (pf_bin op_sub ok_gSub pf_int (pf_var (pv 3))))) af_nil)) (pf_callB (call_reprD lv) ok_gRepr rfl x.n_repr PyProof.Rows.Boot.«repr» (af_cons (pf_var (pv 10)) af_nil)) (nomark _)) (sfs_one (sf_ret pf_bl)) sfs_nil)))))))))))))
  (sfs_one (sf_ret pf_bl))))))
end
end HT.Lk20
set_option Elab.async false
set_option linter.all false
set_option maxRecDepth 100000
set_option maxHeartbeats 4000000
namespace HT.Lk20
open PySem PySem.Spec L2
open PyProof.Rows hiding St
def df_Rule_five : He.DefD := ⟨("Rule", some "five"), "five", "Rule.five", defArgs s_Rule_five, defBody s_Rule_five, defScope s_Rule_five, [], []⟩
def df_Rule_eq : He.DefD := ⟨("Rule", some "__eq__"), "__eq__", "Rule.__eq__", defArgs s_Rule_eq, defBody s_Rule_eq, defScope s_Rule_eq, [], []⟩
def df__law_all_rules : He.DefD := ⟨("_law_all_rules", none), "_law_all_rules", "_law_all_rules", defArgs s__law_all_rules, defBody s__law_all_rules, defScope s__law_all_rules, [], []⟩
def df_check_flag : He.DefD := ⟨("check_flag", none), "check_flag", "check_flag", defArgs s_check_flag, defBody s_check_flag, defScope s_check_flag, [], []⟩
def df_check_word : He.DefD := ⟨("check_word", none), "check_word", "check_word", defArgs s_check_word, defBody s_check_word, defScope s_check_word, [], []⟩
def df_Rule_init : He.DefD := ⟨("Rule", some "__init__"), "__init__", "Rule.__init__", defArgs s_Rule_init, defBody s_Rule_init, defScope s_Rule_init, [], []⟩
def df__law_made_rule : He.DefD := ⟨("_law_made_rule", none), "_law_made_rule", "_law_made_rule", defArgs s__law_made_rule, defBody s__law_made_rule, defScope s__law_made_rule, [], []⟩
def df__law_caught : He.DefD := ⟨("_law_caught", none), "_law_caught", "_law_caught", defArgs s__law_caught, defBody s__law_caught, defScope s__law_caught, [], []⟩
def df__law_cell : He.DefD := ⟨("_law_cell", none), "_law_cell", "_law_cell", defArgs s__law_cell, defBody s__law_cell, defScope s__law_cell, [], []⟩
def df__law_generator : He.DefD := ⟨("_law_generator", none), "_law_generator", "_law_generator", defArgs s__law_generator, defBody s__law_generator, defScope s__law_generator, [], []⟩
def df__law_hash : He.DefD := ⟨("_law_hash", none), "_law_hash", "_law_hash", defArgs s__law_hash, defBody s__law_hash, defScope s__law_hash, [], []⟩
def df__law_random : He.DefD := ⟨("_law_random", none), "_law_random", "_law_random", defArgs s__law_random, defBody s__law_random, defScope s__law_random, [], []⟩
def df__law_rule_parts : He.DefD := ⟨("_law_rule_parts", none), "_law_rule_parts", "_law_rule_parts", defArgs s__law_rule_parts, defBody s__law_rule_parts, defScope s__law_rule_parts, [], []⟩
def df_law : He.DefD := ⟨("law", none), "law", "law", defArgs s_law, defBody s_law, defScope s_law, [], []⟩
def dfs : List He.DefD := [df_Rule_five, df_Rule_eq, df__law_all_rules, df_check_flag, df_check_word, df_Rule_init, df__law_made_rule, df__law_caught, df__law_cell, df__law_generator, df__law_hash, df__law_random, df__law_rule_parts, df_law]
abbrev sx_InvalidWord : Stmt := sub (top 2) 0
def exs : List ExW := [some (("__init__" : Str), ("InvalidWord.__init__" : Str), defArgs sx_InvalidWord, FuncBody.stmts (defBody sx_InvalidWord), defScope sx_InvalidWord, mainGlobals, builtinsNs)]
def fb (K : PySem.W.Frag) : List Bool := [
  (He.Fa.glo "_law_all_rules").ok K,
  (He.Fa.glo "check_flag").ok K,
  (He.Fa.glo "check_word").ok K,
  (He.Fa.glo "_law_made_rule").ok K,
  (He.Fa.glo "_law_caught").ok K,
  (He.Fa.glo "_law_cell").ok K,
  (He.Fa.glo "_law_generator").ok K,
  (He.Fa.glo "_law_hash").ok K,
  (He.Fa.glo "_law_random").ok K,
  (He.Fa.glo "_law_rule_parts").ok K,
  (He.Fa.glo "law").ok K,
  (He.Fa.free "bool").ok K,
  (He.Fa.free "int").ok K,
  (He.Fa.free "isinstance").ok K,
  (He.Fa.free "len").ok K,
  (He.Fa.free "list").ok K,
  (He.Fa.free "max").ok K,
  (He.Fa.free "range").ok K,
  (He.Fa.free "repr").ok K,
  (He.Fa.free "str").ok K,
  (He.Fa.free "super").ok K,
  (He.Fa.glo "InvalidWord").ok K,
  (He.Fa.glo "Rule").ok K,
  (He.Fa.glo "TickError").ok K,
  (He.Fa.mkr "Rule").ok K,
  (He.Fa.cls "Rule").ok K,
  (He.Fa.meth "Rule" "five").ok K,
  eqB K (He.ga K "Rule"),
  ((["InvalidWord"] : List Str).all fun y => excB K (He.ga K y) && decide (PySem.W.kitOne K (.ref (He.ga K y)) (.ref (He.ga K "InvalidWord")) = some (y == "InvalidWord"))),
  obB K (He.ga K "Rule"),
  (ty7.all fun n => decide (PySem.W.kitOne K (.type n) (.ref (He.ga K "Rule")) = some false)),
  decide (PySem.W.kitOne K (.ref (He.ga K "Rule")) (.ref (He.ga K "Rule")) = some true),
  ((["Rule"] : List Str).all fun y => clsB K (He.ga K y) && He.eqO (PySem.W.findIn K (.ref (He.ga K y)) "bears") (some none)),
  ((["Rule"] : List Str).all fun y => clsB K (He.ga K y) && He.eqO (PySem.W.findIn K (.ref (He.ga K y)) "counts") (some none)),
  ((["Rule"] : List Str).all fun y => clsB K (He.ga K y) && He.eqO (PySem.W.findIn K (.ref (He.ga K y)) "less") (some none)),
  ((["Rule"] : List Str).all fun y => clsB K (He.ga K y) && He.eqO (PySem.W.findIn K (.ref (He.ga K y)) "others") (some none)),
  ((["Rule"] : List Str).all fun y => clsB K (He.ga K y) && He.eqO (PySem.W.findIn K (.ref (He.ga K y)) "own") (some none)),
  (xf_value.all fun y => xfB K (He.ga K y) && He.eqO (PySem.W.findIn K (.ref (He.ga K y)) "value") (some none)),
  decide (PySem.W.exmOne K (.ref (He.ga K "InvalidWord")) (.ref (He.ga K "TickError")) = some true),
  (He.Fa.glo "COUNTS").ok K,
  He.lstB K "COUNTS" [.str "things", .str "models"],
  (He.Fa.glo "OTHERS").ok K,
  He.lstB K "OTHERS" [.str "keep", .str "leave"],
  (He.Fa.glo "OWN").ok K,
  He.lstB K "OWN" [.str "keep", .str "leave", .str "add", .str "only"],
  exB P0 K "InvalidWord" "value"]
abbrev AlH : Type := He.AlD × List ExW × Bool
def obsH (K : PySem.W.Frag) : AlH := (He.obsD [] dfs K, [exW K "InvalidWord"], (fb K).all id)
def valH : AlH := (He.valD dfs, exs, true)
theorem facts {K : PySem.W.Frag} {h : Heap} {mg : Str → Option Value} (X : K.In h) (G : h.Ns mainGlobals mg) (c : obsH K = valH) : Nonempty (Fx K mg) := by
  have cd : He.SaysD [] dfs K := congrArg (fun z : AlH => z.1) c
  have ce : [exW K "InvalidWord"] = exs := congrArg (fun z : AlH => z.2.1) c
  have hb : (fb K).all id = true := congrArg (fun z : AlH => z.2.2) c
  obtain ⟨fd_Rule_five, D_Rule_five⟩ := cd.def_ 0 (d := df_Rule_five) rfl
  obtain ⟨fd_Rule_eq, D_Rule_eq⟩ := cd.def_ 1 (d := df_Rule_eq) rfl
  obtain ⟨fd__law_all_rules, D__law_all_rules⟩ := cd.def_ 2 (d := df__law_all_rules) rfl
  obtain ⟨fd_check_flag, D_check_flag⟩ := cd.def_ 3 (d := df_check_flag) rfl
  obtain ⟨fd_check_word, D_check_word⟩ := cd.def_ 4 (d := df_check_word) rfl
  obtain ⟨fd_Rule_init, D_Rule_init⟩ := cd.def_ 5 (d := df_Rule_init) rfl
  obtain ⟨fd__law_made_rule, D__law_made_rule⟩ := cd.def_ 6 (d := df__law_made_rule) rfl
  obtain ⟨fd__law_caught, D__law_caught⟩ := cd.def_ 7 (d := df__law_caught) rfl
  obtain ⟨fd__law_cell, D__law_cell⟩ := cd.def_ 8 (d := df__law_cell) rfl
  obtain ⟨fd__law_generator, D__law_generator⟩ := cd.def_ 9 (d := df__law_generator) rfl
  obtain ⟨fd__law_hash, D__law_hash⟩ := cd.def_ 10 (d := df__law_hash) rfl
  obtain ⟨fd__law_random, D__law_random⟩ := cd.def_ 11 (d := df__law_random) rfl
  obtain ⟨fd__law_rule_parts, D__law_rule_parts⟩ := cd.def_ 12 (d := df__law_rule_parts) rfl
  obtain ⟨fd_law, D_law⟩ := cd.def_ 13 (d := df_law) rfl
  have w_InvalidWord : exW K "InvalidWord" = some (("__init__" : Str), ("InvalidWord.__init__" : Str), defArgs sx_InvalidWord, FuncBody.stmts (defBody sx_InvalidWord), defScope sx_InvalidWord, mainGlobals, builtinsNs) := Option.some.inj (congrArg (fun l : List ExW => l[0]?) ce)
  obtain ⟨fx_InvalidWord, X_InvalidWord, Y_InvalidWord⟩ := exB_ok (nthB hb 45 rfl) w_InvalidWord rfl ⟨_, rfl, rfl⟩ rfl rfl rfl rfl rfl (by decide +kernel) rfl rfl ⟨_, fun env => rfl⟩
  exact ⟨{
    fd_Rule_five := fd_Rule_five, d_Rule_five := D_Rule_five,
    fd_Rule_eq := fd_Rule_eq, d_Rule_eq := D_Rule_eq,
    fd__law_all_rules := fd__law_all_rules, d__law_all_rules := D__law_all_rules,
    g__law_all_rules := He.glo_ok X G (nthB hb 0 rfl),
    fd_check_flag := fd_check_flag, d_check_flag := D_check_flag,
    g_check_flag := He.glo_ok X G (nthB hb 1 rfl),
    fd_check_word := fd_check_word, d_check_word := D_check_word,
    g_check_word := He.glo_ok X G (nthB hb 2 rfl),
    fd_Rule_init := fd_Rule_init, d_Rule_init := D_Rule_init,
    fd__law_made_rule := fd__law_made_rule, d__law_made_rule := D__law_made_rule,
    g__law_made_rule := He.glo_ok X G (nthB hb 3 rfl),
    fd__law_caught := fd__law_caught, d__law_caught := D__law_caught,
    g__law_caught := He.glo_ok X G (nthB hb 4 rfl),
    fd__law_cell := fd__law_cell, d__law_cell := D__law_cell,
    g__law_cell := He.glo_ok X G (nthB hb 5 rfl),
    fd__law_generator := fd__law_generator, d__law_generator := D__law_generator,
    g__law_generator := He.glo_ok X G (nthB hb 6 rfl),
    fd__law_hash := fd__law_hash, d__law_hash := D__law_hash,
    g__law_hash := He.glo_ok X G (nthB hb 7 rfl),
    fd__law_random := fd__law_random, d__law_random := D__law_random,
    g__law_random := He.glo_ok X G (nthB hb 8 rfl),
    fd__law_rule_parts := fd__law_rule_parts, d__law_rule_parts := D__law_rule_parts,
    g__law_rule_parts := He.glo_ok X G (nthB hb 9 rfl),
    fd_law := fd_law, d_law := D_law,
    g_law := He.glo_ok X G (nthB hb 10 rfl),
    n_bool := He.free_ok X G (nthB hb 11 rfl),
    n_int := He.free_ok X G (nthB hb 12 rfl),
    n_isinstance := He.free_ok X G (nthB hb 13 rfl),
    n_len := He.free_ok X G (nthB hb 14 rfl),
    n_list := He.free_ok X G (nthB hb 15 rfl),
    n_max := He.free_ok X G (nthB hb 16 rfl),
    n_range := He.free_ok X G (nthB hb 17 rfl),
    n_repr := He.free_ok X G (nthB hb 18 rfl),
    n_str := He.free_ok X G (nthB hb 19 rfl),
    n_super := He.free_ok X G (nthB hb 20 rfl),
    g_InvalidWord := He.glo_ok X G (nthB hb 21 rfl),
    g_Rule := He.glo_ok X G (nthB hb 22 rfl),
    g_TickError := He.glo_ok X G (nthB hb 23 rfl),
    mk_Rule := He.mkr_ok (nthB hb 24 rfl),
    cls_Rule := He.cls_ok (nthB hb 25 rfl),
    meth_Rule_five := He.meth_ok (nthB hb 26 rfl),
    eq_Rule := eqB_ok (nthB hb 27 rfl),
    is_InvalidWord := isTb_exc (cs := ["InvalidWord"]) (fun C hC => (nthB hb 28 rfl) |> fun h => List.all_eq_true.mp h C hC),
    is_Rule := isTb_own (nthB hb 29 rfl) (nthB hb 30 rfl) (nthB hb 31 rfl),
    is_bool := ⟨(fun n r h => kit_ty h), (fun C r h => nomatch h), (fun C r h => nomatch h)⟩,
    is_list := ⟨(fun n r h => kit_ty h), (fun C r h => nomatch h), (fun C r h => nomatch h)⟩,
    is_str := ⟨(fun n r h => kit_ty h), (fun C r h => nomatch h), (fun C r h => nomatch h)⟩,
    f_bears := fun C hC => (fun h => (He.ba h).imp clsB_ok He.eqO_ok) (List.all_eq_true.mp (nthB hb 32 rfl) C hC),
    f_counts := fun C hC => (fun h => (He.ba h).imp clsB_ok He.eqO_ok) (List.all_eq_true.mp (nthB hb 33 rfl) C hC),
    f_less := fun C hC => (fun h => (He.ba h).imp clsB_ok He.eqO_ok) (List.all_eq_true.mp (nthB hb 34 rfl) C hC),
    f_others := fun C hC => (fun h => (He.ba h).imp clsB_ok He.eqO_ok) (List.all_eq_true.mp (nthB hb 35 rfl) C hC),
    f_own := fun C hC => (fun h => (He.ba h).imp clsB_ok He.eqO_ok) (List.all_eq_true.mp (nthB hb 36 rfl) C hC),
    xf_value := fun C hC => (fun h => (He.ba h).imp xfB_ok He.eqO_ok) (List.all_eq_true.mp (nthB hb 37 rfl) C hC),
    xt_TickError := (fun C b h => by
      unfold xt_TickError at h
      split at h
      · rename_i e
        subst e
        cases h
        exact of_decide_eq_true (nthB hb 38 rfl)
      cases h),
    fx_InvalidWord := fx_InvalidWord, ex_InvalidWord := X_InvalidWord, bx_InvalidWord := (by
      obtain ⟨_, _, _, _, _, _, _, _, hD, e⟩ := Y_InvalidWord
      refine bx_all hD fun t us its et hu hi => ?_
      rw [e, et]
      exact match us, hu, its, hi with | [_, _], _, [_], _ => ⟨_, rfl, rfl⟩),
    a_COUNTS := (He.ga K "COUNTS"), g_COUNTS := He.glo_ok X G (nthB hb 39 rfl), k_COUNTS := fun H => He.lstB_ok (nthB hb 40 rfl) H, r_COUNTS := fun ρ F => (RepL.cons rfl (RepL.cons rfl rfl)),
    a_OTHERS := (He.ga K "OTHERS"), g_OTHERS := He.glo_ok X G (nthB hb 41 rfl), k_OTHERS := fun H => He.lstB_ok (nthB hb 42 rfl) H, r_OTHERS := fun ρ F => (RepL.cons rfl (RepL.cons rfl rfl)),
    a_OWN := (He.ga K "OWN"), g_OWN := He.glo_ok X G (nthB hb 43 rfl), k_OWN := fun H => He.lstB_ok (nthB hb 44 rfl) H, r_OWN := fun ρ F => (RepL.cons rfl (RepL.cons rfl (RepL.cons rfl (RepL.cons rfl rfl)))) }⟩
abbrev R0 : PySem.W.OpenRow := PySem.W.OpenLaw.row PySem.Challenge.rw_tickcounts_k20_rules_made
def asH (g : Addr → Option Obj) : Nat → List Addr
  | 0 => [mainGlobals, cStatics]
  | n + 1 => He.growD g (asH g n)
def obsG (g : Addr → Option Obj) : AlH := obsH (He.frG g (asH g 5))
def hk : PySem.W.Hook where
  α := AlH
  obs := fun s => obsG s.heap.get?
  val := fun _ => valH
  says := fun _ h => ∃ K : PySem.W.Frag, K.In h ∧ obsH K = valH
  of := fun _ _ e => ⟨_, He.frG_in, e⟩
  keeps := fun _ _ _ ⟨K, hK, c⟩ k => ⟨K, PySem.W.Frag.In.keeps hK k, c⟩
def ob (s : PySem.W.SharedT) : AlH := obsG (HandSHeadRun.getT s)
theorem ob_eq (s : PySem.W.SharedT) : ob s = hk.obs s.abs := by
  have e : HandSHeadRun.getT s = s.abs.heap.get? := funext (HandSHeadRun.getT_eq s)
  show obsG (HandSHeadRun.getT s) = obsG s.abs.heap.get?
  rw [e]
set_option maxHeartbeats 0 in
theorem run (w : World) : HandSHeadRun.RunEq R0 (PySem.W.view R0.prog [19]) hk ob 4000 ["TickError", "InvalidWord", "check_word", "check_flag", "Rule", "_law_cell", "_law_hash", "_law_generator", "_law_random", "_law_rule_parts", "_law_made_rule", "_law_all_rules", "_law_caught", "OWN", "OTHERS", "COUNTS"] w := by
  intro os
  kernel_rfl
end HT.Lk20
set_option Elab.async false
set_option linter.all false
set_option maxRecDepth 100000
set_option maxHeartbeats 1000000
namespace HT.Lk20
open PySem PySem.Spec L2
open PyProof.Rows hiding St
theorem pure_ap {α : Type} (a : α) (S : Sto) : (pure a : Cm α) S = .ok a S := rfl
theorem stk_ap {α : Type} (S : Sto) : (stk : Cm α) S = .stuck := rfl
theorem bnd_ok {α β : Type} (a : α) (S : Sto) (f : α → Cm β) : (R.ok a S).bnd f = f a S := rfl
theorem getI (i : Int) (S : Sto) : gInt (.int i) S = .ok (.int i) S := rfl
theorem cell_ok (ns : List Int) (i : Nat) (S : Sto) : M__law_cell [.klst (ns.map .int), .int i] S = .ok (.int (ns.getD i 0)) S := by
  have hl : asQ2 S (.klst (ns.map .int)) = some (ns.map .int) := rfl
  by_cases hi : i < ns.length
  · have h1 : atI (ns.map D.int) (i : Int) = some (.int (ns.getD i 0)) := by
      refine atI_nat ?_
      rw [List.getElem?_map, List.getElem?_eq_getElem hi]
      simp [List.getD, hi]
    simp [M__law_cell, mkM, sSeq, sIf, sRet, sB, fB, f2, fVar, fArgs, a1, aCons, aNil, gOrd, gLen, gIx, toB, pure_ap, bnd_ok, hl, h1, hi]
  · simp [M__law_cell, mkM, sSeq, sIf, sRet, sB, fB, f2, fVar, fArgs, a1, aCons, aNil, gOrd, gLen, gIx, toB, pure_ap, bnd_ok, hl, hi, sNil, List.getD]
theorem mul_ok {a b : Int} (ha : a.natAbs < 2 ^ 100) (hb : b.natAbs < 2 ^ 100) (S : Sto) : gMul2 (.int a) (.int b) S = .ok (.int (a * b)) S := by
  have l : ∀ z : Int, z.natAbs < 2 ^ 100 → z.natAbs.log2 < 101 := fun z h => PySem.Flt.log2_lt_of (by decide) (Nat.lt_trans h (by decide))
  show gMul (.int a) (.int b) S = _
  unfold gMul
  have h1 := l a ha
  have h2 := l b hb
  have hc : a.natAbs.log2 + b.natAbs.log2 < 1000000 := by omega
  simp only [hc, if_true]
theorem mod_ok {a b : Int} (hb : 0 < b) (S : Sto) : gMod (.int a) (.int b) S = .ok (.int (a % b)) S := by
  unfold gMod
  dsimp only
  rw [if_pos hb]
  rfl
theorem add_ok {a b : Int} (S : Sto) : gAdd (.int a) (.int b) S = .ok (.int (a + b)) S := rfl
theorem sub_ok {a b : Int} (S : Sto) : gSub (.int a) (.int b) S = .ok (.int (a - b)) S := rfl
theorem max_ok {a b : Int} (S : Sto) : gMax (.int a) (.int b) S = .ok (.int (if b > a then b else a)) S := rfl
theorem hash_ok {a b : Int} (ha : 0 ≤ a ∧ a < 2147483648) (hb : 0 ≤ b ∧ b ≤ 1000000) (S : Sto) : ∃ h, M__law_hash [.int a, .int b] S = .ok (.int h) S ∧ 0 ≤ h ∧ h < 2147483587 := by
  have ms : ∀ z : Int, 0 ≤ z → z < 2 ^ 90 → z.natAbs < 2 ^ 100 := fun z h1 h2 => by
    have e : (2 : Int) ^ 90 = 1237940039285380274899124224 := by decide
    have e2 : (2 : Nat) ^ 100 = 1267650600228229401496703205376 := by decide
    omega
  have e90 : (2 : Int) ^ 90 = 1237940039285380274899124224 := by decide
  have n1 := ms a ha.1 (by omega)
  have n2 := ms b hb.1 (by omega)
  have k1 : (1103515245 : Int).natAbs < 2 ^ 100 := by decide
  have k2 : (7919 : Int).natAbs < 2 ^ 100 := by decide
  have k3 : (48271 : Int).natAbs < 2 ^ 100 := by decide
  have p1 : (0 : Int) < 2147483647 := by decide
  have p2 : (0 : Int) < 2147483629 := by decide
  have p3 : (0 : Int) < 2147483587 := by decide
  have n3 : (7919 * b).natAbs < 2 ^ 100 := ms _ (by omega) (by omega)
  obtain ⟨m1, hm1⟩ : ∃ m, m = (a * 1103515245 + 7919 * b * b + b + 1) % 2147483647 := ⟨_, rfl⟩
  have b1 : 0 ≤ m1 ∧ m1 < 2147483647 := by
    rw [hm1]
    exact ⟨Int.emod_nonneg _ (by decide), Int.emod_lt_of_pos _ p1⟩
  have n4 := ms m1 b1.1 (by omega)
  obtain ⟨m2, hm2⟩ : ∃ m, m = (m1 * m1 + 69621) % 2147483629 := ⟨_, rfl⟩
  have b2 : 0 ≤ m2 ∧ m2 < 2147483629 := by
    rw [hm2]
    exact ⟨Int.emod_nonneg _ (by decide), Int.emod_lt_of_pos _ p2⟩
  have n5 := ms m2 b2.1 (by omega)
  refine ⟨(m2 * 48271) % 2147483587, ?_, Int.emod_nonneg _ (by decide), Int.emod_lt_of_pos _ p3⟩
  simp [M__law_hash, mkM, sSeq, sRet, sSet, sB, f2, fVar, fArgs, a1, aCons, aNil, pure_ap, bnd_ok, getI, add_ok, mul_ok n1 k1, mul_ok k2 n2, mul_ok n3 n2, mod_ok p1, mod_ok p2, mod_ok p3, ← hm1, mul_ok n4 n4, ← hm2, mul_ok n5 k3]
theorem gen_ok (ns : List Int) (i : Nat) (hi : i < 2) (S : Sto) : ∃ g0 g1, M__law_generator [.klst (ns.map .int), .int i] S = .ok (.cell S.length) (S ++ [.lst [.int g0, .int g1, .int (1000 * i)]]) ∧ 0 ≤ g0 ∧ 0 ≤ g1 ∧ g1 < 2147483647 := by
  have p1 : (0 : Int) < 2147483647 := by decide
  have w1 : gPow (.int 10) (.int 18) S = .ok (.int (10 ^ 18)) S := by kernel_rfl
  have w2 : gPow (.int 10) (.int 60) S = .ok (.int (10 ^ 60)) S := by kernel_rfl
  have w3 : gPow (.int (10 ^ 60)) (.int 10) S = .ok (.int ((10 ^ 60) ^ 10)) S := by kernel_rfl
  have p2 : (0 : Int) < (10 ^ 60) ^ 10 := by decide +kernel
  have k1 : (1000 : Int).natAbs < 2 ^ 100 := by decide
  have k2 : ((i : Nat) : Int).natAbs < 2 ^ 100 := by
    have e2 : (2 : Nat) ^ 100 = 1267650600228229401496703205376 := by decide
    omega
  obtain ⟨z, hz⟩ : ∃ z, z = ns.getD i 0 := ⟨_, rfl⟩
  obtain ⟨B, hB⟩ : ∃ B : Int, B = (10 ^ 60) ^ 10 := ⟨_, rfl⟩
  rw [← hB] at p2 w3
  obtain ⟨t, ht⟩ : ∃ t : Int, t = 10 ^ 18 := ⟨_, rfl⟩
  rw [← ht] at w1
  obtain ⟨u, hu⟩ : ∃ u : Int, u = 10 ^ 60 := ⟨_, rfl⟩
  rw [← hu] at w2 w3
  have sl : (3 : Nat) ≤ sizeLine := by rw [sizeLine_eq]; decide
  refine ⟨(if 0 > z - t then 0 else z - t) % B, z % 2147483647, ?_, Int.emod_nonneg _ (by omega), Int.emod_nonneg _ (by decide), Int.emod_lt_of_pos _ p1⟩
  have c := cell_ok ns i S
  rw [← hz] at c
  simp [M__law_generator, mkM, sSeq, sRet, sSet, sB, f2, fVar, fArgs, a1, a2, aCons, aNil, fCall, fCell, oLst, pure_ap, bnd_ok, getI, c, w1, w2, w3, sub_ok, max_ok, mod_ok p1, mod_ok p2, mul_ok k1 k2, sl]
theorem ix_cell {k : Nat} {S : Sto} {a b c : D} (hk : S[k]? = some (.lst [a, b, c])) : gIx (.cell k) (.int 0) S = .ok a S ∧ gIx (.cell k) (.int 1) S = .ok b S ∧ gIx (.cell k) (.int 2) S = .ok c S := by
  have h : asQ2 S (.cell k) = some [a, b, c] := by
    show (match S[k]? with | some (.lst ds) => some ds | _ => none) = _
    rw [hk]
  have e0 : atI [a, b, c] 0 = some a := rfl
  have e1 : atI [a, b, c] 1 = some b := rfl
  have e2 : atI [a, b, c] 2 = some c := rfl
  refine ⟨?_, ?_, ?_⟩
  · simp [gIx, h, e0]
  · simp [gIx, h, e1]
  · simp [gIx, h, e2]
theorem put_c {k : Nat} {S : Sto} {a b c d : D} {env : Env} (hk : S[k]? = some (.lst [a, b, c])) : putC env d (.cell k) (.int 0) S = .ok (.nx env) (S.set k (.lst [d, b, c])) ∧ putC env d (.cell k) (.int 2) S = .ok (.nx env) (S.set k (.lst [a, b, d])) := by
  have h : lstAt S k = some [a, b, c] := by
    unfold lstAt
    rw [hk]
  have e0 : ixN ([a, b, c] : List D).length 0 = some 0 := rfl
  have e2 : ixN ([a, b, c] : List D).length 2 = some 2 := rfl
  constructor
  · simp only [putC, h, e0]
    rfl
  · simp only [putC, h, e2]
    rfl
end HT.Lk20
set_option linter.all false
set_option maxRecDepth 100000
set_option maxHeartbeats 400000
namespace HT.Lk20
open PySem PySem.Spec L2
open PyProof.Rows hiding St
theorem bits_2 (S : Sto) : gBits (.int 2) S = .ok (.int 2) S := rfl
theorem bits_3 (S : Sto) : gBits (.int 3) S = .ok (.int 2) S := rfl
theorem bits_4 (S : Sto) : gBits (.int 4) S = .ok (.int 3) S := rfl
theorem div_2 (S : Sto) : gDiv (.int 2) (.int 30) S = .ok (.int 0) S := rfl
theorem div_3 (S : Sto) : gDiv (.int 3) (.int 30) S = .ok (.int 0) S := rfl
theorem krg (S : Sto) : kRg1 [.int 1] S = .ok ([.int 0], .fz) S := by
  have h : InRg 1 := by unfold InRg; omega
  unfold kRg1
  simp only [h, if_true]
  rfl
theorem m0z (S : Sto) : gMul2 (.int 0) (.int 2147483587) S = .ok (.int 0) S := mul_ok (a := 0) (b := 2147483587) (by decide) (by decide) S
theorem dvn {g0 n : Int} (hn : n = 2 ∨ n = 3 ∨ n = 4) (S : Sto) : gDiv (.int g0) (.int n) S = .ok (.int (g0 / n)) S := by
  have h : 0 < n ∧ n.natAbs.log2 < 9000 := by rcases hn with rfl | rfl | rfl <;> decide
  unfold gDiv
  dsimp only
  rw [if_pos h]
  rfl
theorem bitsn {n : Int} (hn : n = 2 ∨ n = 3 ∨ n = 4) (S : Sto) : (gBits (.int n) S).bnd (fun x => fun S2 => (R.ok (D.int 30) S2).bnd fun y => gDiv x y) = .ok (.int 0) S := by
  rcases hn with rfl | rfl | rfl
  · rw [bits_2]; exact div_2 S
  · rw [bits_3]; exact div_2 S
  · rw [bits_4]; exact div_3 S
theorem it_n {n : Int} (hn : n = 2 ∨ n = 3 ∨ n = 4) (env : Env) (S : Sto) (he : env[1]? = some (.val (.int n))) : iRg1 (aCons (f2 gAdd (fun _ => pure (.int 1)) (f2 gDiv (f1 gBits (fVar 1)) (fun _ => pure (.int 30)))) aNil) env S = .ok ([.int 0], .fz) S := by
  have v : fVar 1 env S = .ok (.int n) S := by
    unfold fVar
    rw [he]
    rfl
  have d : f2 gDiv (f1 gBits (fVar 1)) (fun _ => pure (.int 30)) env S = .ok (.int 0) S := by
    rcases hn with rfl | rfl | rfl
    · simp only [f2, f1, v, bnd_ok, bits_2, pure_ap]
      exact div_2 S
    · simp only [f2, f1, v, bnd_ok, bits_3, pure_ap]
      exact div_2 S
    · simp only [f2, f1, v, bnd_ok, bits_4, pure_ap]
      exact div_3 S
  have e : f2 gAdd (fun _ => pure (.int 1)) (f2 gDiv (f1 gBits (fVar 1)) (fun _ => pure (.int 30))) env S = .ok (.int 1) S := by
    show ((R.ok (D.int 1) S).bnd fun x S1 => (f2 gDiv (f1 gBits (fVar 1)) (fun _ => pure (.int 30)) env S1).bnd fun y => gAdd x y) = _
    rw [bnd_ok, d]
    exact add_ok S
  unfold iRg1 aCons
  rw [e]
  exact krg S
theorem seq_nx {F G : FS} {env e' : Env} {S S' : Sto} (h : F env S = .ok (.nx e') S') : sSeq F G env S = G e' S' := by
  unfold sSeq
  rw [h]
theorem seq_rt {F G : FS} {env : Env} {S S' : Sto} {d : D} (h : F env S = .ok (.rt d) S') : sSeq F G env S = .ok (.rt d) S' := by
  unfold sSeq
  rw [h]
theorem r5 {k : Nat} {S : Sto} {g0 g1 g2 : Int} {s1 s2 s3 : Sl} (hk : S[k]? = some (.lst [.int g0, .int g1, .int g2])) : F__law_random_5 [.val (.cell k), s1, s2, s3] S = .ok (.nx [.val (.cell k), s1, s2, s3]) (S.set k (.lst [.int g0, .int g1, .int (g2 + 1)])) := by
  have h : f2 gAdd (f2 gIx (fVar 0) (fun _ => pure (.int 2))) (fun _ => pure (.int 1)) [.val (.cell k), s1, s2, s3] S = .ok (.int (g2 + 1)) S := by
    show (((R.ok (D.cell k) S).bnd fun x S1 => (R.ok (D.int 2) S1).bnd fun y => gIx x y).bnd fun x S1 => (R.ok (D.int 1) S1).bnd fun y => gAdd x y) = _
    rw [bnd_ok, bnd_ok, (ix_cell hk).2.2]
    rfl
  show sB _ (f2 gAdd (f2 gIx (fVar 0) (fun _ => pure (.int 2))) (fun _ => pure (.int 1)) [.val (.cell k), s1, s2, s3] S) _ = _
  rw [h]
  exact (put_c hk).2
theorem r6 {k : Nat} {S : Sto} {g0 g1 g2 h : Int} {s1 s3 : Sl} (hk : S[k]? = some (.lst [.int g0, .int g1, .int g2])) (hh : M__law_hash [.int g1, .int g2] S = .ok (.int h) S) : F__law_random_6 [.val (.cell k), s1, .val (.int 0), s3] S = .ok (.nx [.val (.cell k), s1, .val (.int (0 + h)), s3]) S := by
  have a : fCall M__law_hash [] (aCons (f2 gIx (fVar 0) (fun _ => pure (.int 1))) (aCons (f2 gIx (fVar 0) (fun _ => pure (.int 2))) aNil)) [.val (.cell k), s1, .val (.int 0), s3] S = .ok (.int h) S := by
    show ((((R.ok (D.cell k) S).bnd fun x S1 => (R.ok (D.int 1) S1).bnd fun y => gIx x y).bnd fun x S1 => ((((R.ok (D.cell k) S1).bnd fun x S1 => (R.ok (D.int 2) S1).bnd fun y => gIx x y).bnd fun x S1 => (R.ok ([] : List D) S1).bnd fun xs S2 => .ok (x :: xs) S2)).bnd fun xs S2 => .ok (x :: xs) S2).bnd fun xs => M__law_hash (xs ++ [])) = _
    rw [bnd_ok, bnd_ok, (ix_cell hk).2.1, bnd_ok, bnd_ok, bnd_ok, (ix_cell hk).2.2]
    exact hh
  have b : f2 gMul2 (fVar 2) (fun _ => pure (.int 2147483587)) [.val (.cell k), s1, .val (.int 0), s3] S = .ok (.int 0) S := m0z S
  have c : f2 gAdd (f2 gMul2 (fVar 2) (fun _ => pure (.int 2147483587))) (fCall M__law_hash [] (aCons (f2 gIx (fVar 0) (fun _ => pure (.int 1))) (aCons (f2 gIx (fVar 0) (fun _ => pure (.int 2))) aNil))) [.val (.cell k), s1, .val (.int 0), s3] S = .ok (.int (0 + h)) S := by
    unfold f2 at b ⊢
    rw [b, bnd_ok]
    unfold f2 at a
    rw [a]
    rfl
  unfold F__law_random_6 sSet
  rw [c]
  rfl
theorem rnd_ok {k : Nat} {S : Sto} {g0 g1 g2 n : Int} (hk : S[k]? = some (.lst [.int g0, .int g1, .int g2])) (h0 : 0 ≤ g0) (h1 : 0 ≤ g1 ∧ g1 < 2147483647) (h2 : 0 ≤ g2 ∧ g2 ≤ 100000) (hn : n = 2 ∨ n = 3 ∨ n = 4) :
    ∃ r g0' g2', M__law_random [.cell k, .int n] S = .ok (.int r) (S.set k (.lst [.int g0', .int g1, .int g2'])) ∧ (0 ≤ r ∧ r < n) ∧ 0 ≤ g0' ∧ g2 ≤ g2' ∧ g2' ≤ g2 + 1 := by
  have hn0 : 0 < n := by omega
  obtain ⟨i0, i1, i2⟩ := ix_cell hk
  by_cases hg : 0 < g0
  · have dv := dvn (g0 := g0) hn S
    refine ⟨g0 % n, g0 / n, g2, ?_, ⟨Int.emod_nonneg _ (by omega), Int.emod_lt_of_pos _ hn0⟩, Int.ediv_nonneg h0 (by omega), Int.le_refl _, by omega⟩
    simp [M__law_random, F__law_random_0, F__law_random_1, F__law_random_2, F__law_random_3, mkM, sSeq, sIf, sRet, sSet, sPutC, sB, fB, f2, fVar, fArgs, a1, aCons, aNil, gOrd, toB, pure_ap, bnd_ok, getI, i0, hg, mod_ok hn0, dv, (put_c hk).1]
  · obtain ⟨h, hh, b1, b2⟩ := hash_ok (a := g1) (b := g2 + 1) ⟨h1.1, by omega⟩ ⟨by omega, by omega⟩ (S.set k (.lst [.int g0, .int g1, .int (g2 + 1)]))
    have hl : k < S.length := (List.getElem?_eq_some_iff.mp hk).1
    have hk2 : (S.set k (.lst [.int g0, .int g1, .int (g2 + 1)]))[k]? = some (.lst [.int g0, .int g1, .int (g2 + 1)]) := List.getElem?_set_self hl
    have q3 : F__law_random_3 [.val (.cell k), .val (.int n), .un, .un] S = .ok (.nx [.val (.cell k), .val (.int n), .un, .un]) S := by
      simp [F__law_random_3, sIf, sB, fB, f2, fVar, gOrd, toB, pure_ap, bnd_ok, i0, hg, sNil]
    have q4 : F__law_random_4 [.val (.cell k), .val (.int n), .un, .un] S = .ok (.nx [.val (.cell k), .val (.int n), .val (.int 0), .un]) S := rfl
    have q8 : F__law_random_8 [.val (.cell k), .val (.int n), .val (.int 0), .un] S = .ok (.nx [.val (.cell k), .val (.int n), .val (.int (0 + h)), .val (.int 0)]) (S.set k (.lst [.int g0, .int g1, .int (g2 + 1)])) := by
      unfold F__law_random_8 sFor
      rw [it_n hn [.val (.cell k), .val (.int n), .val (.int 0), .un] S rfl]
      have b7 : B__law_random_7 [.val (.cell k), .val (.int n), .val (.int 0), .val (.int 0)] S = .ok (.nx [.val (.cell k), .val (.int n), .val (.int (0 + h)), .val (.int 0)]) (S.set k (.lst [.int g0, .int g1, .int (g2 + 1)])) := by
        unfold B__law_random_7
        rw [seq_nx (r5 hk)]
        exact r6 hk2 hh
      show (match B__law_random_7 [.val (.cell k), .val (.int n), .val (.int 0), .val (.int 0)] S with | .ok (.nx e) S' => loopD (.one 3) .fz B__law_random_7 [] e S' | .ok (.ct e) S' => loopD (.one 3) .fz B__law_random_7 [] e S' | .ok (.bk e) S' => .ok (.nx e) S' | r => r) = _
      rw [b7]
      rfl
    have q9 : F__law_random_9 [.val (.cell k), .val (.int n), .val (.int (0 + h)), .val (.int 0)] (S.set k (.lst [.int g0, .int g1, .int (g2 + 1)])) = .ok (.rt (.int ((0 + h) % n))) (S.set k (.lst [.int g0, .int g1, .int (g2 + 1)])) := by
      show sB _ (gMod (.int (0 + h)) (.int n) (S.set k (.lst [.int g0, .int g1, .int (g2 + 1)]))) _ = _
      rw [mod_ok hn0]
      rfl
    refine ⟨(0 + h) % n, g0, g2 + 1, ?_, ⟨Int.emod_nonneg _ (by omega), Int.emod_lt_of_pos _ hn0⟩, h0, by omega, by omega⟩
    have all : sSeq F__law_random_3 (sSeq F__law_random_4 (sSeq F__law_random_8 F__law_random_9)) [.val (.cell k), .val (.int n), .un, .un] S = .ok (.rt (.int ((0 + h) % n))) (S.set k (.lst [.int g0, .int g1, .int (g2 + 1)])) := by
      rw [seq_nx q3, seq_nx q4, seq_nx q8, q9]
    show (match sSeq F__law_random_3 (sSeq F__law_random_4 (sSeq F__law_random_8 F__law_random_9)) [.val (.cell k), .val (.int n), .un, .un] S with | .ok (.rt d) S' => R.ok d S' | .ok (.nx _) S' => .ok .non S' | .ok (.xc _ C fs) S' => .exc C fs S' | _ => .stuck) = _
    rw [all]
end HT.Lk20
set_option Elab.async false
set_option linter.all false
set_option maxRecDepth 100000
set_option maxHeartbeats 1000000
namespace HT.Lk20
open PySem PySem.Spec L2
open PyProof.Rows hiding St
def owns : List Str := ["keep", "leave", "add", "only"]
def othersL : List Str := ["keep", "leave"]
def countsL : List Str := ["things", "models"]
abbrev rcall (n : Int) : FE := fCall M__law_random [] (aCons (fVar 0) (aCons (fun _ => pure (.int n)) aNil))
theorem pick4 {r : Int} (h : 0 ≤ r ∧ r < 4) (S : Sto) : ∃ z ∈ owns, gIx (.lst [.str "keep", .str "leave", .str "add", .str "only"]) (.int r) S = .ok (.str z) S := by
  have e : r = 0 ∨ r = 1 ∨ r = 2 ∨ r = 3 := by omega
  rcases e with rfl | rfl | rfl | rfl
  · exact ⟨"keep", by decide, rfl⟩
  · exact ⟨"leave", by decide, rfl⟩
  · exact ⟨"add", by decide, rfl⟩
  · exact ⟨"only", by decide, rfl⟩
theorem pick3 {r : Int} (h : 0 ≤ r ∧ r < 3) (S : Sto) : ∃ z ∈ othersL, gIx (.lst [.str "keep", .str "keep", .str "leave"]) (.int r) S = .ok (.str z) S := by
  have e : r = 0 ∨ r = 1 ∨ r = 2 := by omega
  rcases e with rfl | rfl | rfl
  · exact ⟨"keep", by decide, rfl⟩
  · exact ⟨"keep", by decide, rfl⟩
  · exact ⟨"leave", by decide, rfl⟩
theorem pick2 {r : Int} (h : 0 ≤ r ∧ r < 2) (S : Sto) : ∃ z ∈ countsL, gIx (.lst [.str "things", .str "models"]) (.int r) S = .ok (.str z) S := by
  have e : r = 0 ∨ r = 1 := by omega
  rcases e with rfl | rfl
  · exact ⟨"things", by decide, rfl⟩
  · exact ⟨"models", by decide, rfl⟩
theorem sl5 : 5 ≤ sizeLine := by rw [sizeLine_eq]; decide
/-- a gen's cell -/
def isG (S : Sto) (k : Nat) (g1 lo hi : Int) : Prop := ∃ g0 g2, S[k]? = some (.lst [.int g0, .int g1, .int g2]) ∧ 0 ≤ g0 ∧ lo ≤ g2 ∧ g2 ≤ hi
theorem rc {k : Nat} {S : Sto} {g1 lo hi n : Int} (h : isG S k g1 lo hi) (h1 : 0 ≤ g1 ∧ g1 < 2147483647) (hl : 0 ≤ lo) (hh : hi ≤ 90000) (hn : n = 2 ∨ n = 3 ∨ n = 4) (s1 s2 s3 : Sl) :
    ∃ r c, rcall n [.val (.cell k), s1, s2, s3] S = .ok (.int r) (S.set k c) ∧ (0 ≤ r ∧ r < n) ∧ isG (S.set k c) k g1 lo (hi + 1) := by
  obtain ⟨g0, g2, hk, a1, a2, a3⟩ := h
  obtain ⟨r, g0', g2', e, b1, b2, b3, b4⟩ := rnd_ok (n := n) hk a1 h1 ⟨by omega, by omega⟩ hn
  refine ⟨r, _, e, b1, g0', g2', List.getElem?_set_self (List.getElem?_eq_some_iff.mp hk).1, b2, by omega, by omega⟩
theorem lst_ok (l : List D) (hl : l.length ≤ 5) (F : Env → Cm (List D)) (env : Env) (S : Sto) (h : F env S = .ok l S) : fFrz (oLst F) env S = .ok (.lst l) S := by
  unfold fFrz oLst
  rw [h, bnd_ok, if_pos (Nat.le_trans hl sl5)]
  rfl
theorem ixr {F G : FE} {env : Env} {S S' : Sto} {x y : D} (h : F env S = .ok x S) (h2 : G env S = .ok y S') : f2 gIx F G env S = gIx x y S' := by
  unfold f2
  rw [h, bnd_ok, h2, bnd_ok]
theorem parts_ok {k : Nat} {S : Sto} {g1 : Int} {lo hi : Int} (h : isG S k g1 lo hi) (h1 : 0 ≤ g1 ∧ g1 < 2147483647) (hl : 0 ≤ lo) (hh : hi ≤ 80000) :
    ∃ (a b : Str) (x : Bool) (c : Str) (y : Bool) (co : CO), M__law_rule_parts [.cell k] S = .ok (.tup [.str a, .str b, .bl x, .str c, .bl y]) (S.set k co) ∧ a ∈ owns ∧ b ∈ othersL ∧ c ∈ countsL := by
  obtain ⟨r1, c1, e1, l1, i1⟩ := rc (n := 4) h h1 hl (by omega) (by omega) .un .un .un
  obtain ⟨a, ha, p1⟩ := pick4 l1 (S.set k c1)
  obtain ⟨r2, c2, e2, l2, i2⟩ := rc (n := 3) i1 h1 hl (by omega) (by omega) (.val (.str a)) .un .un
  rw [List.set_set] at e2 i2
  obtain ⟨b, hb, p2⟩ := pick3 l2 (S.set k c2)
  obtain ⟨r3, c3, e3, l3, i3⟩ := rc (n := 2) i2 h1 hl (by omega) (by omega) (.val (.str a)) (.val (.str b)) .un
  rw [List.set_set] at e3 i3
  obtain ⟨c, hc, p3⟩ := pick2 l3 (S.set k c3)
  obtain ⟨r4, c4, e4, l4, i4⟩ := rc (n := 2) i3 h1 hl (by omega) (by omega) (.val (.str a)) (.val (.str b)) (.val (.str c))
  rw [List.set_set] at e4 i4
  obtain ⟨r5, c5, e5, l5, i5⟩ := rc (n := 3) i4 h1 hl (by omega) (by omega) (.val (.str a)) (.val (.str b)) (.val (.str c))
  rw [List.set_set] at e5 i5
  refine ⟨a, b, PyData.eqv (.int r4) (.int 0), c, PyData.eqv (.int r5) (.int 0), c5, ?_, ha, hb, hc⟩
  have q0 : F__law_rule_parts_0 [.val (.cell k), .un, .un, .un] S = .ok (.nx [.val (.cell k), .val (.str a), .un, .un]) (S.set k c1) := by
    unfold F__law_rule_parts_0 sSet
    rw [ixr (lst_ok [.str "keep", .str "leave", .str "add", .str "only"] (by decide) _ _ S rfl) e1, p1]
    rfl
  have q1 : F__law_rule_parts_1 [.val (.cell k), .val (.str a), .un, .un] (S.set k c1) = .ok (.nx [.val (.cell k), .val (.str a), .val (.str b), .un]) (S.set k c2) := by
    unfold F__law_rule_parts_1 sSet
    rw [ixr (lst_ok [.str "keep", .str "keep", .str "leave"] (by decide) _ _ (S.set k c1) rfl) e2, p2]
    rfl
  have q2 : F__law_rule_parts_2 [.val (.cell k), .val (.str a), .val (.str b), .un] (S.set k c2) = .ok (.nx [.val (.cell k), .val (.str a), .val (.str b), .val (.str c)]) (S.set k c3) := by
    unfold F__law_rule_parts_2 sSet
    rw [ixr (lst_ok [.str "things", .str "models"] (by decide) _ _ (S.set k c2) rfl) e3, p3]
    rfl
  have t4 : f2 (gEq false) (rcall 2) (fun _ => pure (.int 0)) [.val (.cell k), .val (.str a), .val (.str b), .val (.str c)] (S.set k c3) = .ok (.bl (PyData.eqv (.int r4) (.int 0))) (S.set k c4) := by
    unfold f2
    rw [e4]
    rfl
  have t5 : f2 (gEq false) (rcall 3) (fun _ => pure (.int 0)) [.val (.cell k), .val (.str a), .val (.str b), .val (.str c)] (S.set k c4) = .ok (.bl (PyData.eqv (.int r5) (.int 0))) (S.set k c5) := by
    unfold f2
    rw [e5]
    rfl
  have q3 : F__law_rule_parts_3 [.val (.cell k), .val (.str a), .val (.str b), .val (.str c)] (S.set k c3) = .ok (.rt (.tup [.str a, .str b, .bl (PyData.eqv (.int r4) (.int 0)), .str c, .bl (PyData.eqv (.int r5) (.int 0))])) (S.set k c5) := by
    have u5 : aCons (f2 (gEq false) (rcall 3) (fun _ => pure (.int 0))) aNil [.val (.cell k), .val (.str a), .val (.str b), .val (.str c)] (S.set k c4) = .ok [.bl (PyData.eqv (.int r5) (.int 0))] (S.set k c5) := by
      unfold aCons
      rw [t5]
      rfl
    have u4 : aCons (fVar 3) (aCons (f2 (gEq false) (rcall 3) (fun _ => pure (.int 0))) aNil) [.val (.cell k), .val (.str a), .val (.str b), .val (.str c)] (S.set k c4) = .ok [.str c, .bl (PyData.eqv (.int r5) (.int 0))] (S.set k c5) := by
      show (R.ok (D.str c) (S.set k c4)).bnd (fun x S1 => (aCons (f2 (gEq false) (rcall 3) (fun _ => pure (.int 0))) aNil [.val (.cell k), .val (.str a), .val (.str b), .val (.str c)] S1).bnd fun xs S2 => .ok (x :: xs) S2) = _
      rw [bnd_ok, u5]
      rfl
    have u3 : aCons (f2 (gEq false) (rcall 2) (fun _ => pure (.int 0))) (aCons (fVar 3) (aCons (f2 (gEq false) (rcall 3) (fun _ => pure (.int 0))) aNil)) [.val (.cell k), .val (.str a), .val (.str b), .val (.str c)] (S.set k c3) = .ok [.bl (PyData.eqv (.int r4) (.int 0)), .str c, .bl (PyData.eqv (.int r5) (.int 0))] (S.set k c5) := by
      show (f2 (gEq false) (rcall 2) (fun _ => pure (.int 0)) [.val (.cell k), .val (.str a), .val (.str b), .val (.str c)] (S.set k c3)).bnd (fun x S1 => (aCons (fVar 3) (aCons (f2 (gEq false) (rcall 3) (fun _ => pure (.int 0))) aNil) [.val (.cell k), .val (.str a), .val (.str b), .val (.str c)] S1).bnd fun xs S2 => .ok (x :: xs) S2) = _
      rw [t4, bnd_ok, u4]
      rfl
    have u : aCons (fVar 1) (aCons (fVar 2) (aCons (f2 (gEq false) (rcall 2) (fun _ => pure (.int 0))) (aCons (fVar 3) (aCons (f2 (gEq false) (rcall 3) (fun _ => pure (.int 0))) aNil)))) [.val (.cell k), .val (.str a), .val (.str b), .val (.str c)] (S.set k c3) = .ok [.str a, .str b, .bl (PyData.eqv (.int r4) (.int 0)), .str c, .bl (PyData.eqv (.int r5) (.int 0))] (S.set k c5) := by
      show (R.ok (D.str a) (S.set k c3)).bnd (fun x S1 => ((R.ok (D.str b) S1).bnd fun x S1 => (aCons (f2 (gEq false) (rcall 2) (fun _ => pure (.int 0))) (aCons (fVar 3) (aCons (f2 (gEq false) (rcall 3) (fun _ => pure (.int 0))) aNil)) [.val (.cell k), .val (.str a), .val (.str b), .val (.str c)] S1).bnd fun xs S2 => .ok (x :: xs) S2).bnd fun xs S2 => .ok (x :: xs) S2) = _
      rw [bnd_ok, bnd_ok, u3]
      rfl
    unfold F__law_rule_parts_3 sRet fTup
    show sB _ ((aCons (fVar 1) (aCons (fVar 2) (aCons (f2 (gEq false) (rcall 2) (fun _ => pure (.int 0))) (aCons (fVar 3) (aCons (f2 (gEq false) (rcall 3) (fun _ => pure (.int 0))) aNil)))) [.val (.cell k), .val (.str a), .val (.str b), .val (.str c)] (S.set k c3)).bnd fun xs S1 => if xs.length ≤ sizeLine then R.ok (D.tup xs) S1 else R.stuck) _ = _
    rw [u, bnd_ok]
    have sl : ([D.str a, D.str b, D.bl (PyData.eqv (.int r4) (.int 0)), D.str c, D.bl (PyData.eqv (.int r5) (.int 0))] : List D).length ≤ sizeLine := sl5
    rw [if_pos sl]
    rfl
  have all : sSeq F__law_rule_parts_0 (sSeq F__law_rule_parts_1 (sSeq F__law_rule_parts_2 F__law_rule_parts_3)) [.val (.cell k), .un, .un, .un] S = .ok (.rt (.tup [.str a, .str b, .bl (PyData.eqv (.int r4) (.int 0)), .str c, .bl (PyData.eqv (.int r5) (.int 0))])) (S.set k c5) := by
    rw [seq_nx q0, seq_nx q1, seq_nx q2, q3]
  show (match sSeq F__law_rule_parts_0 (sSeq F__law_rule_parts_1 (sSeq F__law_rule_parts_2 F__law_rule_parts_3)) [.val (.cell k), .un, .un, .un] S with | .ok (.rt d) S' => R.ok d S' | .ok (.nx _) S' => .ok .non S' | .ok (.xc _ C fs) S' => .exc C fs S' | _ => .stuck) = _
  rw [all]
end HT.Lk20
set_option Elab.async false
set_option linter.all false
set_option maxRecDepth 1000000
set_option maxHeartbeats 0
namespace HT.Lk20
open PySem PySem.Spec L2
open PyProof.Rows hiding St
def rL (a b : Str) (x : Bool) (c : Str) (y : Bool) : D := .obj "Rule" [("own", .str a), ("others", .str b), ("bears", .bl x), ("counts", .str c), ("less", .bl y)]
def everyD : D := .lst [.tup [.str "keep", .str "keep", .bl false, .str "things", .bl false],
  .tup [.str "keep", .str "keep", .bl false, .str "things", .bl true],
  .tup [.str "keep", .str "keep", .bl false, .str "models", .bl false],
  .tup [.str "keep", .str "keep", .bl false, .str "models", .bl true],
  .tup [.str "keep", .str "keep", .bl true, .str "things", .bl false],
  .tup [.str "keep", .str "keep", .bl true, .str "things", .bl true],
  .tup [.str "keep", .str "keep", .bl true, .str "models", .bl false],
  .tup [.str "keep", .str "keep", .bl true, .str "models", .bl true],
  .tup [.str "keep", .str "leave", .bl false, .str "things", .bl false],
  .tup [.str "keep", .str "leave", .bl false, .str "things", .bl true],
  .tup [.str "keep", .str "leave", .bl false, .str "models", .bl false],
  .tup [.str "keep", .str "leave", .bl false, .str "models", .bl true],
  .tup [.str "keep", .str "leave", .bl true, .str "things", .bl false],
  .tup [.str "keep", .str "leave", .bl true, .str "things", .bl true],
  .tup [.str "keep", .str "leave", .bl true, .str "models", .bl false],
  .tup [.str "keep", .str "leave", .bl true, .str "models", .bl true],
  .tup [.str "leave", .str "keep", .bl false, .str "things", .bl false],
  .tup [.str "leave", .str "keep", .bl false, .str "things", .bl true],
  .tup [.str "leave", .str "keep", .bl false, .str "models", .bl false],
  .tup [.str "leave", .str "keep", .bl false, .str "models", .bl true],
  .tup [.str "leave", .str "keep", .bl true, .str "things", .bl false],
  .tup [.str "leave", .str "keep", .bl true, .str "things", .bl true],
  .tup [.str "leave", .str "keep", .bl true, .str "models", .bl false],
  .tup [.str "leave", .str "keep", .bl true, .str "models", .bl true],
  .tup [.str "leave", .str "leave", .bl false, .str "things", .bl false],
  .tup [.str "leave", .str "leave", .bl false, .str "things", .bl true],
  .tup [.str "leave", .str "leave", .bl false, .str "models", .bl false],
  .tup [.str "leave", .str "leave", .bl false, .str "models", .bl true],
  .tup [.str "leave", .str "leave", .bl true, .str "things", .bl false],
  .tup [.str "leave", .str "leave", .bl true, .str "things", .bl true],
  .tup [.str "leave", .str "leave", .bl true, .str "models", .bl false],
  .tup [.str "leave", .str "leave", .bl true, .str "models", .bl true],
  .tup [.str "add", .str "keep", .bl false, .str "things", .bl false],
  .tup [.str "add", .str "keep", .bl false, .str "things", .bl true],
  .tup [.str "add", .str "keep", .bl false, .str "models", .bl false],
  .tup [.str "add", .str "keep", .bl false, .str "models", .bl true],
  .tup [.str "add", .str "keep", .bl true, .str "things", .bl false],
  .tup [.str "add", .str "keep", .bl true, .str "things", .bl true],
  .tup [.str "add", .str "keep", .bl true, .str "models", .bl false],
  .tup [.str "add", .str "keep", .bl true, .str "models", .bl true],
  .tup [.str "add", .str "leave", .bl false, .str "things", .bl false],
  .tup [.str "add", .str "leave", .bl false, .str "things", .bl true],
  .tup [.str "add", .str "leave", .bl false, .str "models", .bl false],
  .tup [.str "add", .str "leave", .bl false, .str "models", .bl true],
  .tup [.str "add", .str "leave", .bl true, .str "things", .bl false],
  .tup [.str "add", .str "leave", .bl true, .str "things", .bl true],
  .tup [.str "add", .str "leave", .bl true, .str "models", .bl false],
  .tup [.str "add", .str "leave", .bl true, .str "models", .bl true],
  .tup [.str "only", .str "keep", .bl false, .str "things", .bl false],
  .tup [.str "only", .str "keep", .bl false, .str "things", .bl true],
  .tup [.str "only", .str "keep", .bl false, .str "models", .bl false],
  .tup [.str "only", .str "keep", .bl false, .str "models", .bl true],
  .tup [.str "only", .str "keep", .bl true, .str "things", .bl false],
  .tup [.str "only", .str "keep", .bl true, .str "things", .bl true],
  .tup [.str "only", .str "keep", .bl true, .str "models", .bl false],
  .tup [.str "only", .str "keep", .bl true, .str "models", .bl true],
  .tup [.str "only", .str "leave", .bl false, .str "things", .bl false],
  .tup [.str "only", .str "leave", .bl false, .str "things", .bl true],
  .tup [.str "only", .str "leave", .bl false, .str "models", .bl false],
  .tup [.str "only", .str "leave", .bl false, .str "models", .bl true],
  .tup [.str "only", .str "leave", .bl true, .str "things", .bl false],
  .tup [.str "only", .str "leave", .bl true, .str "things", .bl true],
  .tup [.str "only", .str "leave", .bl true, .str "models", .bl false],
  .tup [.str "only", .str "leave", .bl true, .str "models", .bl true]]
def rulesD : D := .lst [rL "keep" "keep" false "things" false,
  rL "keep" "keep" false "things" true,
  rL "keep" "keep" false "models" false,
  rL "keep" "keep" false "models" true,
  rL "keep" "keep" true "things" false,
  rL "keep" "keep" true "things" true,
  rL "keep" "keep" true "models" false,
  rL "keep" "keep" true "models" true,
  rL "keep" "leave" false "things" false,
  rL "keep" "leave" false "things" true,
  rL "keep" "leave" false "models" false,
  rL "keep" "leave" false "models" true,
  rL "keep" "leave" true "things" false,
  rL "keep" "leave" true "things" true,
  rL "keep" "leave" true "models" false,
  rL "keep" "leave" true "models" true,
  rL "leave" "keep" false "things" false,
  rL "leave" "keep" false "things" true,
  rL "leave" "keep" false "models" false,
  rL "leave" "keep" false "models" true,
  rL "leave" "keep" true "things" false,
  rL "leave" "keep" true "things" true,
  rL "leave" "keep" true "models" false,
  rL "leave" "keep" true "models" true,
  rL "leave" "leave" false "things" false,
  rL "leave" "leave" false "things" true,
  rL "leave" "leave" false "models" false,
  rL "leave" "leave" false "models" true,
  rL "leave" "leave" true "things" false,
  rL "leave" "leave" true "things" true,
  rL "leave" "leave" true "models" false,
  rL "leave" "leave" true "models" true,
  rL "add" "keep" false "things" false,
  rL "add" "keep" false "things" true,
  rL "add" "keep" false "models" false,
  rL "add" "keep" false "models" true,
  rL "add" "keep" true "things" false,
  rL "add" "keep" true "things" true,
  rL "add" "keep" true "models" false,
  rL "add" "keep" true "models" true,
  rL "add" "leave" false "things" false,
  rL "add" "leave" false "things" true,
  rL "add" "leave" false "models" false,
  rL "add" "leave" false "models" true,
  rL "add" "leave" true "things" false,
  rL "add" "leave" true "things" true,
  rL "add" "leave" true "models" false,
  rL "add" "leave" true "models" true,
  rL "only" "keep" false "things" false,
  rL "only" "keep" false "things" true,
  rL "only" "keep" false "models" false,
  rL "only" "keep" false "models" true,
  rL "only" "keep" true "things" false,
  rL "only" "keep" true "things" true,
  rL "only" "keep" true "models" false,
  rL "only" "keep" true "models" true,
  rL "only" "leave" false "things" false,
  rL "only" "leave" false "things" true,
  rL "only" "leave" false "models" false,
  rL "only" "leave" false "models" true,
  rL "only" "leave" true "things" false,
  rL "only" "leave" true "things" true,
  rL "only" "leave" true "models" false,
  rL "only" "leave" true "models" true]
def itemD (d : D) (i : Nat) : D := match d with | .tup l => l.getD i .non | .lst l => l.getD i .non | _ => .non
theorem f0 (s0 : Sl) : F_law_0 [s0, .un, .un, .un, .un, .un, .un, .un, .un, .un, .un, .un] [] = .ok (.nx [s0, .val everyD, .un, .un, .un, .un, .un, .un, .un, .un, .un, .un]) [] := by kernel_rfl
theorem f1_ (s0 : Sl) : F_law_1 [s0, .val everyD, .un, .un, .un, .un, .un, .un, .un, .un, .un, .un] [] = .ok (.nx [s0, .val everyD, .val rulesD, .un, .un, .un, .un, .un, .un, .un, .un, .un]) [] := by kernel_rfl
theorem f11i (s0 : Sl) : iRg1 (aCons (fArgs (a1 gLen) (aCons (fVar 1) aNil)) aNil) [s0, .val everyD, .val rulesD, .un, .un, .un, .un, .un, .un, .un, .un, .un] [] = .ok ([.int 0, .int 1, .int 2, .int 3, .int 4, .int 5, .int 6, .int 7, .int 8, .int 9, .int 10, .int 11, .int 12, .int 13, .int 14, .int 15, .int 16, .int 17, .int 18, .int 19, .int 20, .int 21, .int 22, .int 23, .int 24, .int 25, .int 26, .int 27, .int 28, .int 29, .int 30, .int 31, .int 32, .int 33, .int 34, .int 35, .int 36, .int 37, .int 38, .int 39, .int 40, .int 41, .int 42, .int 43, .int 44, .int 45, .int 46, .int 47, .int 48, .int 49, .int 50, .int 51, .int 52, .int 53, .int 54, .int 55, .int 56, .int 57, .int 58, .int 59, .int 60, .int 61, .int 62, .int 63], .fz) [] := by kernel_rfl
theorem lp_cons {b : Bd} {src : Src} {body : FS} {d : D} {ds : List D} {env env1 e : Env} {S S' : Sto} (hc : chk src S = true) (hb : bindE b d env = some env1) (h : body env1 S = .ok (.nx e) S') : loopD b src body (d :: ds) env S = loopD b src body ds e S' := by
  show (if chk src S = true then _ else _) = _
  rw [if_pos hc, hb]
  dsimp only
  rw [h]
theorem sFor_of {b : Bd} {G : Env → Cm (List D × Src)} {body : FS} {env : Env} {S S1 : Sto} {ds : List D} {src : Src} {r : R Fl} (h : G env S = .ok (ds, src) S1) (hh : src.isHid = false) (hl : loopD b src body ds env S1 = r) : sFor b G body env S = r := by
  unfold sFor
  rw [h]
  show (if src.isHid = true then _ else _) = _
  rw [hh]
  exact hl
theorem q_0 (s0 s4 s5 : Sl) : B_law_10 [s0, .val everyD, .val rulesD, .val (.int 0), s4, s5, .un, .un, .un, .un, .un, .un] [] = .ok (.nx [s0, .val everyD, .val rulesD, .val (.int 0), .val (itemD rulesD 0), .val (itemD rulesD 0), .un, .un, .un, .un, .un, .un]) [] := by kernel_rfl
theorem q_1 (s0 s4 s5 : Sl) : B_law_10 [s0, .val everyD, .val rulesD, .val (.int 1), s4, s5, .un, .un, .un, .un, .un, .un] [] = .ok (.nx [s0, .val everyD, .val rulesD, .val (.int 1), .val (itemD rulesD 1), .val (itemD rulesD 1), .un, .un, .un, .un, .un, .un]) [] := by kernel_rfl
theorem q_2 (s0 s4 s5 : Sl) : B_law_10 [s0, .val everyD, .val rulesD, .val (.int 2), s4, s5, .un, .un, .un, .un, .un, .un] [] = .ok (.nx [s0, .val everyD, .val rulesD, .val (.int 2), .val (itemD rulesD 2), .val (itemD rulesD 2), .un, .un, .un, .un, .un, .un]) [] := by kernel_rfl
theorem q_3 (s0 s4 s5 : Sl) : B_law_10 [s0, .val everyD, .val rulesD, .val (.int 3), s4, s5, .un, .un, .un, .un, .un, .un] [] = .ok (.nx [s0, .val everyD, .val rulesD, .val (.int 3), .val (itemD rulesD 3), .val (itemD rulesD 3), .un, .un, .un, .un, .un, .un]) [] := by kernel_rfl
theorem q_4 (s0 s4 s5 : Sl) : B_law_10 [s0, .val everyD, .val rulesD, .val (.int 4), s4, s5, .un, .un, .un, .un, .un, .un] [] = .ok (.nx [s0, .val everyD, .val rulesD, .val (.int 4), .val (itemD rulesD 4), .val (itemD rulesD 4), .un, .un, .un, .un, .un, .un]) [] := by kernel_rfl
theorem q_5 (s0 s4 s5 : Sl) : B_law_10 [s0, .val everyD, .val rulesD, .val (.int 5), s4, s5, .un, .un, .un, .un, .un, .un] [] = .ok (.nx [s0, .val everyD, .val rulesD, .val (.int 5), .val (itemD rulesD 5), .val (itemD rulesD 5), .un, .un, .un, .un, .un, .un]) [] := by kernel_rfl
theorem q_6 (s0 s4 s5 : Sl) : B_law_10 [s0, .val everyD, .val rulesD, .val (.int 6), s4, s5, .un, .un, .un, .un, .un, .un] [] = .ok (.nx [s0, .val everyD, .val rulesD, .val (.int 6), .val (itemD rulesD 6), .val (itemD rulesD 6), .un, .un, .un, .un, .un, .un]) [] := by kernel_rfl
theorem q_7 (s0 s4 s5 : Sl) : B_law_10 [s0, .val everyD, .val rulesD, .val (.int 7), s4, s5, .un, .un, .un, .un, .un, .un] [] = .ok (.nx [s0, .val everyD, .val rulesD, .val (.int 7), .val (itemD rulesD 7), .val (itemD rulesD 7), .un, .un, .un, .un, .un, .un]) [] := by kernel_rfl
theorem q_8 (s0 s4 s5 : Sl) : B_law_10 [s0, .val everyD, .val rulesD, .val (.int 8), s4, s5, .un, .un, .un, .un, .un, .un] [] = .ok (.nx [s0, .val everyD, .val rulesD, .val (.int 8), .val (itemD rulesD 8), .val (itemD rulesD 8), .un, .un, .un, .un, .un, .un]) [] := by kernel_rfl
theorem q_9 (s0 s4 s5 : Sl) : B_law_10 [s0, .val everyD, .val rulesD, .val (.int 9), s4, s5, .un, .un, .un, .un, .un, .un] [] = .ok (.nx [s0, .val everyD, .val rulesD, .val (.int 9), .val (itemD rulesD 9), .val (itemD rulesD 9), .un, .un, .un, .un, .un, .un]) [] := by kernel_rfl
theorem q_10 (s0 s4 s5 : Sl) : B_law_10 [s0, .val everyD, .val rulesD, .val (.int 10), s4, s5, .un, .un, .un, .un, .un, .un] [] = .ok (.nx [s0, .val everyD, .val rulesD, .val (.int 10), .val (itemD rulesD 10), .val (itemD rulesD 10), .un, .un, .un, .un, .un, .un]) [] := by kernel_rfl
theorem q_11 (s0 s4 s5 : Sl) : B_law_10 [s0, .val everyD, .val rulesD, .val (.int 11), s4, s5, .un, .un, .un, .un, .un, .un] [] = .ok (.nx [s0, .val everyD, .val rulesD, .val (.int 11), .val (itemD rulesD 11), .val (itemD rulesD 11), .un, .un, .un, .un, .un, .un]) [] := by kernel_rfl
theorem q_12 (s0 s4 s5 : Sl) : B_law_10 [s0, .val everyD, .val rulesD, .val (.int 12), s4, s5, .un, .un, .un, .un, .un, .un] [] = .ok (.nx [s0, .val everyD, .val rulesD, .val (.int 12), .val (itemD rulesD 12), .val (itemD rulesD 12), .un, .un, .un, .un, .un, .un]) [] := by kernel_rfl
theorem q_13 (s0 s4 s5 : Sl) : B_law_10 [s0, .val everyD, .val rulesD, .val (.int 13), s4, s5, .un, .un, .un, .un, .un, .un] [] = .ok (.nx [s0, .val everyD, .val rulesD, .val (.int 13), .val (itemD rulesD 13), .val (itemD rulesD 13), .un, .un, .un, .un, .un, .un]) [] := by kernel_rfl
theorem q_14 (s0 s4 s5 : Sl) : B_law_10 [s0, .val everyD, .val rulesD, .val (.int 14), s4, s5, .un, .un, .un, .un, .un, .un] [] = .ok (.nx [s0, .val everyD, .val rulesD, .val (.int 14), .val (itemD rulesD 14), .val (itemD rulesD 14), .un, .un, .un, .un, .un, .un]) [] := by kernel_rfl
theorem q_15 (s0 s4 s5 : Sl) : B_law_10 [s0, .val everyD, .val rulesD, .val (.int 15), s4, s5, .un, .un, .un, .un, .un, .un] [] = .ok (.nx [s0, .val everyD, .val rulesD, .val (.int 15), .val (itemD rulesD 15), .val (itemD rulesD 15), .un, .un, .un, .un, .un, .un]) [] := by kernel_rfl
theorem q_16 (s0 s4 s5 : Sl) : B_law_10 [s0, .val everyD, .val rulesD, .val (.int 16), s4, s5, .un, .un, .un, .un, .un, .un] [] = .ok (.nx [s0, .val everyD, .val rulesD, .val (.int 16), .val (itemD rulesD 16), .val (itemD rulesD 16), .un, .un, .un, .un, .un, .un]) [] := by kernel_rfl
theorem q_17 (s0 s4 s5 : Sl) : B_law_10 [s0, .val everyD, .val rulesD, .val (.int 17), s4, s5, .un, .un, .un, .un, .un, .un] [] = .ok (.nx [s0, .val everyD, .val rulesD, .val (.int 17), .val (itemD rulesD 17), .val (itemD rulesD 17), .un, .un, .un, .un, .un, .un]) [] := by kernel_rfl
theorem q_18 (s0 s4 s5 : Sl) : B_law_10 [s0, .val everyD, .val rulesD, .val (.int 18), s4, s5, .un, .un, .un, .un, .un, .un] [] = .ok (.nx [s0, .val everyD, .val rulesD, .val (.int 18), .val (itemD rulesD 18), .val (itemD rulesD 18), .un, .un, .un, .un, .un, .un]) [] := by kernel_rfl
theorem q_19 (s0 s4 s5 : Sl) : B_law_10 [s0, .val everyD, .val rulesD, .val (.int 19), s4, s5, .un, .un, .un, .un, .un, .un] [] = .ok (.nx [s0, .val everyD, .val rulesD, .val (.int 19), .val (itemD rulesD 19), .val (itemD rulesD 19), .un, .un, .un, .un, .un, .un]) [] := by kernel_rfl
theorem q_20 (s0 s4 s5 : Sl) : B_law_10 [s0, .val everyD, .val rulesD, .val (.int 20), s4, s5, .un, .un, .un, .un, .un, .un] [] = .ok (.nx [s0, .val everyD, .val rulesD, .val (.int 20), .val (itemD rulesD 20), .val (itemD rulesD 20), .un, .un, .un, .un, .un, .un]) [] := by kernel_rfl
theorem q_21 (s0 s4 s5 : Sl) : B_law_10 [s0, .val everyD, .val rulesD, .val (.int 21), s4, s5, .un, .un, .un, .un, .un, .un] [] = .ok (.nx [s0, .val everyD, .val rulesD, .val (.int 21), .val (itemD rulesD 21), .val (itemD rulesD 21), .un, .un, .un, .un, .un, .un]) [] := by kernel_rfl
theorem q_22 (s0 s4 s5 : Sl) : B_law_10 [s0, .val everyD, .val rulesD, .val (.int 22), s4, s5, .un, .un, .un, .un, .un, .un] [] = .ok (.nx [s0, .val everyD, .val rulesD, .val (.int 22), .val (itemD rulesD 22), .val (itemD rulesD 22), .un, .un, .un, .un, .un, .un]) [] := by kernel_rfl
theorem q_23 (s0 s4 s5 : Sl) : B_law_10 [s0, .val everyD, .val rulesD, .val (.int 23), s4, s5, .un, .un, .un, .un, .un, .un] [] = .ok (.nx [s0, .val everyD, .val rulesD, .val (.int 23), .val (itemD rulesD 23), .val (itemD rulesD 23), .un, .un, .un, .un, .un, .un]) [] := by kernel_rfl
theorem q_24 (s0 s4 s5 : Sl) : B_law_10 [s0, .val everyD, .val rulesD, .val (.int 24), s4, s5, .un, .un, .un, .un, .un, .un] [] = .ok (.nx [s0, .val everyD, .val rulesD, .val (.int 24), .val (itemD rulesD 24), .val (itemD rulesD 24), .un, .un, .un, .un, .un, .un]) [] := by kernel_rfl
theorem q_25 (s0 s4 s5 : Sl) : B_law_10 [s0, .val everyD, .val rulesD, .val (.int 25), s4, s5, .un, .un, .un, .un, .un, .un] [] = .ok (.nx [s0, .val everyD, .val rulesD, .val (.int 25), .val (itemD rulesD 25), .val (itemD rulesD 25), .un, .un, .un, .un, .un, .un]) [] := by kernel_rfl
theorem q_26 (s0 s4 s5 : Sl) : B_law_10 [s0, .val everyD, .val rulesD, .val (.int 26), s4, s5, .un, .un, .un, .un, .un, .un] [] = .ok (.nx [s0, .val everyD, .val rulesD, .val (.int 26), .val (itemD rulesD 26), .val (itemD rulesD 26), .un, .un, .un, .un, .un, .un]) [] := by kernel_rfl
theorem q_27 (s0 s4 s5 : Sl) : B_law_10 [s0, .val everyD, .val rulesD, .val (.int 27), s4, s5, .un, .un, .un, .un, .un, .un] [] = .ok (.nx [s0, .val everyD, .val rulesD, .val (.int 27), .val (itemD rulesD 27), .val (itemD rulesD 27), .un, .un, .un, .un, .un, .un]) [] := by kernel_rfl
theorem q_28 (s0 s4 s5 : Sl) : B_law_10 [s0, .val everyD, .val rulesD, .val (.int 28), s4, s5, .un, .un, .un, .un, .un, .un] [] = .ok (.nx [s0, .val everyD, .val rulesD, .val (.int 28), .val (itemD rulesD 28), .val (itemD rulesD 28), .un, .un, .un, .un, .un, .un]) [] := by kernel_rfl
theorem q_29 (s0 s4 s5 : Sl) : B_law_10 [s0, .val everyD, .val rulesD, .val (.int 29), s4, s5, .un, .un, .un, .un, .un, .un] [] = .ok (.nx [s0, .val everyD, .val rulesD, .val (.int 29), .val (itemD rulesD 29), .val (itemD rulesD 29), .un, .un, .un, .un, .un, .un]) [] := by kernel_rfl
theorem q_30 (s0 s4 s5 : Sl) : B_law_10 [s0, .val everyD, .val rulesD, .val (.int 30), s4, s5, .un, .un, .un, .un, .un, .un] [] = .ok (.nx [s0, .val everyD, .val rulesD, .val (.int 30), .val (itemD rulesD 30), .val (itemD rulesD 30), .un, .un, .un, .un, .un, .un]) [] := by kernel_rfl
theorem q_31 (s0 s4 s5 : Sl) : B_law_10 [s0, .val everyD, .val rulesD, .val (.int 31), s4, s5, .un, .un, .un, .un, .un, .un] [] = .ok (.nx [s0, .val everyD, .val rulesD, .val (.int 31), .val (itemD rulesD 31), .val (itemD rulesD 31), .un, .un, .un, .un, .un, .un]) [] := by kernel_rfl
theorem q_32 (s0 s4 s5 : Sl) : B_law_10 [s0, .val everyD, .val rulesD, .val (.int 32), s4, s5, .un, .un, .un, .un, .un, .un] [] = .ok (.nx [s0, .val everyD, .val rulesD, .val (.int 32), .val (itemD rulesD 32), .val (itemD rulesD 32), .un, .un, .un, .un, .un, .un]) [] := by kernel_rfl
theorem q_33 (s0 s4 s5 : Sl) : B_law_10 [s0, .val everyD, .val rulesD, .val (.int 33), s4, s5, .un, .un, .un, .un, .un, .un] [] = .ok (.nx [s0, .val everyD, .val rulesD, .val (.int 33), .val (itemD rulesD 33), .val (itemD rulesD 33), .un, .un, .un, .un, .un, .un]) [] := by kernel_rfl
theorem q_34 (s0 s4 s5 : Sl) : B_law_10 [s0, .val everyD, .val rulesD, .val (.int 34), s4, s5, .un, .un, .un, .un, .un, .un] [] = .ok (.nx [s0, .val everyD, .val rulesD, .val (.int 34), .val (itemD rulesD 34), .val (itemD rulesD 34), .un, .un, .un, .un, .un, .un]) [] := by kernel_rfl
theorem q_35 (s0 s4 s5 : Sl) : B_law_10 [s0, .val everyD, .val rulesD, .val (.int 35), s4, s5, .un, .un, .un, .un, .un, .un] [] = .ok (.nx [s0, .val everyD, .val rulesD, .val (.int 35), .val (itemD rulesD 35), .val (itemD rulesD 35), .un, .un, .un, .un, .un, .un]) [] := by kernel_rfl
theorem q_36 (s0 s4 s5 : Sl) : B_law_10 [s0, .val everyD, .val rulesD, .val (.int 36), s4, s5, .un, .un, .un, .un, .un, .un] [] = .ok (.nx [s0, .val everyD, .val rulesD, .val (.int 36), .val (itemD rulesD 36), .val (itemD rulesD 36), .un, .un, .un, .un, .un, .un]) [] := by kernel_rfl
theorem q_37 (s0 s4 s5 : Sl) : B_law_10 [s0, .val everyD, .val rulesD, .val (.int 37), s4, s5, .un, .un, .un, .un, .un, .un] [] = .ok (.nx [s0, .val everyD, .val rulesD, .val (.int 37), .val (itemD rulesD 37), .val (itemD rulesD 37), .un, .un, .un, .un, .un, .un]) [] := by kernel_rfl
theorem q_38 (s0 s4 s5 : Sl) : B_law_10 [s0, .val everyD, .val rulesD, .val (.int 38), s4, s5, .un, .un, .un, .un, .un, .un] [] = .ok (.nx [s0, .val everyD, .val rulesD, .val (.int 38), .val (itemD rulesD 38), .val (itemD rulesD 38), .un, .un, .un, .un, .un, .un]) [] := by kernel_rfl
theorem q_39 (s0 s4 s5 : Sl) : B_law_10 [s0, .val everyD, .val rulesD, .val (.int 39), s4, s5, .un, .un, .un, .un, .un, .un] [] = .ok (.nx [s0, .val everyD, .val rulesD, .val (.int 39), .val (itemD rulesD 39), .val (itemD rulesD 39), .un, .un, .un, .un, .un, .un]) [] := by kernel_rfl
theorem q_40 (s0 s4 s5 : Sl) : B_law_10 [s0, .val everyD, .val rulesD, .val (.int 40), s4, s5, .un, .un, .un, .un, .un, .un] [] = .ok (.nx [s0, .val everyD, .val rulesD, .val (.int 40), .val (itemD rulesD 40), .val (itemD rulesD 40), .un, .un, .un, .un, .un, .un]) [] := by kernel_rfl
theorem q_41 (s0 s4 s5 : Sl) : B_law_10 [s0, .val everyD, .val rulesD, .val (.int 41), s4, s5, .un, .un, .un, .un, .un, .un] [] = .ok (.nx [s0, .val everyD, .val rulesD, .val (.int 41), .val (itemD rulesD 41), .val (itemD rulesD 41), .un, .un, .un, .un, .un, .un]) [] := by kernel_rfl
theorem q_42 (s0 s4 s5 : Sl) : B_law_10 [s0, .val everyD, .val rulesD, .val (.int 42), s4, s5, .un, .un, .un, .un, .un, .un] [] = .ok (.nx [s0, .val everyD, .val rulesD, .val (.int 42), .val (itemD rulesD 42), .val (itemD rulesD 42), .un, .un, .un, .un, .un, .un]) [] := by kernel_rfl
theorem q_43 (s0 s4 s5 : Sl) : B_law_10 [s0, .val everyD, .val rulesD, .val (.int 43), s4, s5, .un, .un, .un, .un, .un, .un] [] = .ok (.nx [s0, .val everyD, .val rulesD, .val (.int 43), .val (itemD rulesD 43), .val (itemD rulesD 43), .un, .un, .un, .un, .un, .un]) [] := by kernel_rfl
theorem q_44 (s0 s4 s5 : Sl) : B_law_10 [s0, .val everyD, .val rulesD, .val (.int 44), s4, s5, .un, .un, .un, .un, .un, .un] [] = .ok (.nx [s0, .val everyD, .val rulesD, .val (.int 44), .val (itemD rulesD 44), .val (itemD rulesD 44), .un, .un, .un, .un, .un, .un]) [] := by kernel_rfl
theorem q_45 (s0 s4 s5 : Sl) : B_law_10 [s0, .val everyD, .val rulesD, .val (.int 45), s4, s5, .un, .un, .un, .un, .un, .un] [] = .ok (.nx [s0, .val everyD, .val rulesD, .val (.int 45), .val (itemD rulesD 45), .val (itemD rulesD 45), .un, .un, .un, .un, .un, .un]) [] := by kernel_rfl
theorem q_46 (s0 s4 s5 : Sl) : B_law_10 [s0, .val everyD, .val rulesD, .val (.int 46), s4, s5, .un, .un, .un, .un, .un, .un] [] = .ok (.nx [s0, .val everyD, .val rulesD, .val (.int 46), .val (itemD rulesD 46), .val (itemD rulesD 46), .un, .un, .un, .un, .un, .un]) [] := by kernel_rfl
theorem q_47 (s0 s4 s5 : Sl) : B_law_10 [s0, .val everyD, .val rulesD, .val (.int 47), s4, s5, .un, .un, .un, .un, .un, .un] [] = .ok (.nx [s0, .val everyD, .val rulesD, .val (.int 47), .val (itemD rulesD 47), .val (itemD rulesD 47), .un, .un, .un, .un, .un, .un]) [] := by kernel_rfl
theorem q_48 (s0 s4 s5 : Sl) : B_law_10 [s0, .val everyD, .val rulesD, .val (.int 48), s4, s5, .un, .un, .un, .un, .un, .un] [] = .ok (.nx [s0, .val everyD, .val rulesD, .val (.int 48), .val (itemD rulesD 48), .val (itemD rulesD 48), .un, .un, .un, .un, .un, .un]) [] := by kernel_rfl
theorem q_49 (s0 s4 s5 : Sl) : B_law_10 [s0, .val everyD, .val rulesD, .val (.int 49), s4, s5, .un, .un, .un, .un, .un, .un] [] = .ok (.nx [s0, .val everyD, .val rulesD, .val (.int 49), .val (itemD rulesD 49), .val (itemD rulesD 49), .un, .un, .un, .un, .un, .un]) [] := by kernel_rfl
theorem q_50 (s0 s4 s5 : Sl) : B_law_10 [s0, .val everyD, .val rulesD, .val (.int 50), s4, s5, .un, .un, .un, .un, .un, .un] [] = .ok (.nx [s0, .val everyD, .val rulesD, .val (.int 50), .val (itemD rulesD 50), .val (itemD rulesD 50), .un, .un, .un, .un, .un, .un]) [] := by kernel_rfl
theorem q_51 (s0 s4 s5 : Sl) : B_law_10 [s0, .val everyD, .val rulesD, .val (.int 51), s4, s5, .un, .un, .un, .un, .un, .un] [] = .ok (.nx [s0, .val everyD, .val rulesD, .val (.int 51), .val (itemD rulesD 51), .val (itemD rulesD 51), .un, .un, .un, .un, .un, .un]) [] := by kernel_rfl
theorem q_52 (s0 s4 s5 : Sl) : B_law_10 [s0, .val everyD, .val rulesD, .val (.int 52), s4, s5, .un, .un, .un, .un, .un, .un] [] = .ok (.nx [s0, .val everyD, .val rulesD, .val (.int 52), .val (itemD rulesD 52), .val (itemD rulesD 52), .un, .un, .un, .un, .un, .un]) [] := by kernel_rfl
theorem q_53 (s0 s4 s5 : Sl) : B_law_10 [s0, .val everyD, .val rulesD, .val (.int 53), s4, s5, .un, .un, .un, .un, .un, .un] [] = .ok (.nx [s0, .val everyD, .val rulesD, .val (.int 53), .val (itemD rulesD 53), .val (itemD rulesD 53), .un, .un, .un, .un, .un, .un]) [] := by kernel_rfl
theorem q_54 (s0 s4 s5 : Sl) : B_law_10 [s0, .val everyD, .val rulesD, .val (.int 54), s4, s5, .un, .un, .un, .un, .un, .un] [] = .ok (.nx [s0, .val everyD, .val rulesD, .val (.int 54), .val (itemD rulesD 54), .val (itemD rulesD 54), .un, .un, .un, .un, .un, .un]) [] := by kernel_rfl
theorem q_55 (s0 s4 s5 : Sl) : B_law_10 [s0, .val everyD, .val rulesD, .val (.int 55), s4, s5, .un, .un, .un, .un, .un, .un] [] = .ok (.nx [s0, .val everyD, .val rulesD, .val (.int 55), .val (itemD rulesD 55), .val (itemD rulesD 55), .un, .un, .un, .un, .un, .un]) [] := by kernel_rfl
theorem q_56 (s0 s4 s5 : Sl) : B_law_10 [s0, .val everyD, .val rulesD, .val (.int 56), s4, s5, .un, .un, .un, .un, .un, .un] [] = .ok (.nx [s0, .val everyD, .val rulesD, .val (.int 56), .val (itemD rulesD 56), .val (itemD rulesD 56), .un, .un, .un, .un, .un, .un]) [] := by kernel_rfl
theorem q_57 (s0 s4 s5 : Sl) : B_law_10 [s0, .val everyD, .val rulesD, .val (.int 57), s4, s5, .un, .un, .un, .un, .un, .un] [] = .ok (.nx [s0, .val everyD, .val rulesD, .val (.int 57), .val (itemD rulesD 57), .val (itemD rulesD 57), .un, .un, .un, .un, .un, .un]) [] := by kernel_rfl
theorem q_58 (s0 s4 s5 : Sl) : B_law_10 [s0, .val everyD, .val rulesD, .val (.int 58), s4, s5, .un, .un, .un, .un, .un, .un] [] = .ok (.nx [s0, .val everyD, .val rulesD, .val (.int 58), .val (itemD rulesD 58), .val (itemD rulesD 58), .un, .un, .un, .un, .un, .un]) [] := by kernel_rfl
theorem q_59 (s0 s4 s5 : Sl) : B_law_10 [s0, .val everyD, .val rulesD, .val (.int 59), s4, s5, .un, .un, .un, .un, .un, .un] [] = .ok (.nx [s0, .val everyD, .val rulesD, .val (.int 59), .val (itemD rulesD 59), .val (itemD rulesD 59), .un, .un, .un, .un, .un, .un]) [] := by kernel_rfl
theorem q_60 (s0 s4 s5 : Sl) : B_law_10 [s0, .val everyD, .val rulesD, .val (.int 60), s4, s5, .un, .un, .un, .un, .un, .un] [] = .ok (.nx [s0, .val everyD, .val rulesD, .val (.int 60), .val (itemD rulesD 60), .val (itemD rulesD 60), .un, .un, .un, .un, .un, .un]) [] := by kernel_rfl
theorem q_61 (s0 s4 s5 : Sl) : B_law_10 [s0, .val everyD, .val rulesD, .val (.int 61), s4, s5, .un, .un, .un, .un, .un, .un] [] = .ok (.nx [s0, .val everyD, .val rulesD, .val (.int 61), .val (itemD rulesD 61), .val (itemD rulesD 61), .un, .un, .un, .un, .un, .un]) [] := by kernel_rfl
theorem q_62 (s0 s4 s5 : Sl) : B_law_10 [s0, .val everyD, .val rulesD, .val (.int 62), s4, s5, .un, .un, .un, .un, .un, .un] [] = .ok (.nx [s0, .val everyD, .val rulesD, .val (.int 62), .val (itemD rulesD 62), .val (itemD rulesD 62), .un, .un, .un, .un, .un, .un]) [] := by kernel_rfl
theorem q_63 (s0 s4 s5 : Sl) : B_law_10 [s0, .val everyD, .val rulesD, .val (.int 63), s4, s5, .un, .un, .un, .un, .un, .un] [] = .ok (.nx [s0, .val everyD, .val rulesD, .val (.int 63), .val (itemD rulesD 63), .val (itemD rulesD 63), .un, .un, .un, .un, .un, .un]) [] := by kernel_rfl
theorem l_63 (s0 s3 s4 s5 : Sl) : loopD (.one 3) .fz B_law_10 [.int 63] [s0, .val everyD, .val rulesD, s3, s4, s5, .un, .un, .un, .un, .un, .un] [] = .ok (.nx [s0, .val everyD, .val rulesD, .val (.int 63), .val (itemD rulesD 63), .val (itemD rulesD 63), .un, .un, .un, .un, .un, .un]) [] := (lp_cons rfl rfl (q_63 s0 s4 s5)).trans (rfl)
theorem l_62 (s0 s3 s4 s5 : Sl) : loopD (.one 3) .fz B_law_10 [.int 62, .int 63] [s0, .val everyD, .val rulesD, s3, s4, s5, .un, .un, .un, .un, .un, .un] [] = .ok (.nx [s0, .val everyD, .val rulesD, .val (.int 63), .val (itemD rulesD 63), .val (itemD rulesD 63), .un, .un, .un, .un, .un, .un]) [] := (lp_cons rfl rfl (q_62 s0 s4 s5)).trans (l_63 ..)
theorem l_61 (s0 s3 s4 s5 : Sl) : loopD (.one 3) .fz B_law_10 [.int 61, .int 62, .int 63] [s0, .val everyD, .val rulesD, s3, s4, s5, .un, .un, .un, .un, .un, .un] [] = .ok (.nx [s0, .val everyD, .val rulesD, .val (.int 63), .val (itemD rulesD 63), .val (itemD rulesD 63), .un, .un, .un, .un, .un, .un]) [] := (lp_cons rfl rfl (q_61 s0 s4 s5)).trans (l_62 ..)
theorem l_60 (s0 s3 s4 s5 : Sl) : loopD (.one 3) .fz B_law_10 [.int 60, .int 61, .int 62, .int 63] [s0, .val everyD, .val rulesD, s3, s4, s5, .un, .un, .un, .un, .un, .un] [] = .ok (.nx [s0, .val everyD, .val rulesD, .val (.int 63), .val (itemD rulesD 63), .val (itemD rulesD 63), .un, .un, .un, .un, .un, .un]) [] := (lp_cons rfl rfl (q_60 s0 s4 s5)).trans (l_61 ..)
theorem l_59 (s0 s3 s4 s5 : Sl) : loopD (.one 3) .fz B_law_10 [.int 59, .int 60, .int 61, .int 62, .int 63] [s0, .val everyD, .val rulesD, s3, s4, s5, .un, .un, .un, .un, .un, .un] [] = .ok (.nx [s0, .val everyD, .val rulesD, .val (.int 63), .val (itemD rulesD 63), .val (itemD rulesD 63), .un, .un, .un, .un, .un, .un]) [] := (lp_cons rfl rfl (q_59 s0 s4 s5)).trans (l_60 ..)
theorem l_58 (s0 s3 s4 s5 : Sl) : loopD (.one 3) .fz B_law_10 [.int 58, .int 59, .int 60, .int 61, .int 62, .int 63] [s0, .val everyD, .val rulesD, s3, s4, s5, .un, .un, .un, .un, .un, .un] [] = .ok (.nx [s0, .val everyD, .val rulesD, .val (.int 63), .val (itemD rulesD 63), .val (itemD rulesD 63), .un, .un, .un, .un, .un, .un]) [] := (lp_cons rfl rfl (q_58 s0 s4 s5)).trans (l_59 ..)
theorem l_57 (s0 s3 s4 s5 : Sl) : loopD (.one 3) .fz B_law_10 [.int 57, .int 58, .int 59, .int 60, .int 61, .int 62, .int 63] [s0, .val everyD, .val rulesD, s3, s4, s5, .un, .un, .un, .un, .un, .un] [] = .ok (.nx [s0, .val everyD, .val rulesD, .val (.int 63), .val (itemD rulesD 63), .val (itemD rulesD 63), .un, .un, .un, .un, .un, .un]) [] := (lp_cons rfl rfl (q_57 s0 s4 s5)).trans (l_58 ..)
theorem l_56 (s0 s3 s4 s5 : Sl) : loopD (.one 3) .fz B_law_10 [.int 56, .int 57, .int 58, .int 59, .int 60, .int 61, .int 62, .int 63] [s0, .val everyD, .val rulesD, s3, s4, s5, .un, .un, .un, .un, .un, .un] [] = .ok (.nx [s0, .val everyD, .val rulesD, .val (.int 63), .val (itemD rulesD 63), .val (itemD rulesD 63), .un, .un, .un, .un, .un, .un]) [] := (lp_cons rfl rfl (q_56 s0 s4 s5)).trans (l_57 ..)
theorem l_55 (s0 s3 s4 s5 : Sl) : loopD (.one 3) .fz B_law_10 [.int 55, .int 56, .int 57, .int 58, .int 59, .int 60, .int 61, .int 62, .int 63] [s0, .val everyD, .val rulesD, s3, s4, s5, .un, .un, .un, .un, .un, .un] [] = .ok (.nx [s0, .val everyD, .val rulesD, .val (.int 63), .val (itemD rulesD 63), .val (itemD rulesD 63), .un, .un, .un, .un, .un, .un]) [] := (lp_cons rfl rfl (q_55 s0 s4 s5)).trans (l_56 ..)
theorem l_54 (s0 s3 s4 s5 : Sl) : loopD (.one 3) .fz B_law_10 [.int 54, .int 55, .int 56, .int 57, .int 58, .int 59, .int 60, .int 61, .int 62, .int 63] [s0, .val everyD, .val rulesD, s3, s4, s5, .un, .un, .un, .un, .un, .un] [] = .ok (.nx [s0, .val everyD, .val rulesD, .val (.int 63), .val (itemD rulesD 63), .val (itemD rulesD 63), .un, .un, .un, .un, .un, .un]) [] := (lp_cons rfl rfl (q_54 s0 s4 s5)).trans (l_55 ..)
theorem l_53 (s0 s3 s4 s5 : Sl) : loopD (.one 3) .fz B_law_10 [.int 53, .int 54, .int 55, .int 56, .int 57, .int 58, .int 59, .int 60, .int 61, .int 62, .int 63] [s0, .val everyD, .val rulesD, s3, s4, s5, .un, .un, .un, .un, .un, .un] [] = .ok (.nx [s0, .val everyD, .val rulesD, .val (.int 63), .val (itemD rulesD 63), .val (itemD rulesD 63), .un, .un, .un, .un, .un, .un]) [] := (lp_cons rfl rfl (q_53 s0 s4 s5)).trans (l_54 ..)
theorem l_52 (s0 s3 s4 s5 : Sl) : loopD (.one 3) .fz B_law_10 [.int 52, .int 53, .int 54, .int 55, .int 56, .int 57, .int 58, .int 59, .int 60, .int 61, .int 62, .int 63] [s0, .val everyD, .val rulesD, s3, s4, s5, .un, .un, .un, .un, .un, .un] [] = .ok (.nx [s0, .val everyD, .val rulesD, .val (.int 63), .val (itemD rulesD 63), .val (itemD rulesD 63), .un, .un, .un, .un, .un, .un]) [] := (lp_cons rfl rfl (q_52 s0 s4 s5)).trans (l_53 ..)
theorem l_51 (s0 s3 s4 s5 : Sl) : loopD (.one 3) .fz B_law_10 [.int 51, .int 52, .int 53, .int 54, .int 55, .int 56, .int 57, .int 58, .int 59, .int 60, .int 61, .int 62, .int 63] [s0, .val everyD, .val rulesD, s3, s4, s5, .un, .un, .un, .un, .un, .un] [] = .ok (.nx [s0, .val everyD, .val rulesD, .val (.int 63), .val (itemD rulesD 63), .val (itemD rulesD 63), .un, .un, .un, .un, .un, .un]) [] := (lp_cons rfl rfl (q_51 s0 s4 s5)).trans (l_52 ..)
theorem l_50 (s0 s3 s4 s5 : Sl) : loopD (.one 3) .fz B_law_10 [.int 50, .int 51, .int 52, .int 53, .int 54, .int 55, .int 56, .int 57, .int 58, .int 59, .int 60, .int 61, .int 62, .int 63] [s0, .val everyD, .val rulesD, s3, s4, s5, .un, .un, .un, .un, .un, .un] [] = .ok (.nx [s0, .val everyD, .val rulesD, .val (.int 63), .val (itemD rulesD 63), .val (itemD rulesD 63), .un, .un, .un, .un, .un, .un]) [] := (lp_cons rfl rfl (q_50 s0 s4 s5)).trans (l_51 ..)
theorem l_49 (s0 s3 s4 s5 : Sl) : loopD (.one 3) .fz B_law_10 [.int 49, .int 50, .int 51, .int 52, .int 53, .int 54, .int 55, .int 56, .int 57, .int 58, .int 59, .int 60, .int 61, .int 62, .int 63] [s0, .val everyD, .val rulesD, s3, s4, s5, .un, .un, .un, .un, .un, .un] [] = .ok (.nx [s0, .val everyD, .val rulesD, .val (.int 63), .val (itemD rulesD 63), .val (itemD rulesD 63), .un, .un, .un, .un, .un, .un]) [] := (lp_cons rfl rfl (q_49 s0 s4 s5)).trans (l_50 ..)
theorem l_48 (s0 s3 s4 s5 : Sl) : loopD (.one 3) .fz B_law_10 [.int 48, .int 49, .int 50, .int 51, .int 52, .int 53, .int 54, .int 55, .int 56, .int 57, .int 58, .int 59, .int 60, .int 61, .int 62, .int 63] [s0, .val everyD, .val rulesD, s3, s4, s5, .un, .un, .un, .un, .un, .un] [] = .ok (.nx [s0, .val everyD, .val rulesD, .val (.int 63), .val (itemD rulesD 63), .val (itemD rulesD 63), .un, .un, .un, .un, .un, .un]) [] := (lp_cons rfl rfl (q_48 s0 s4 s5)).trans (l_49 ..)
theorem l_47 (s0 s3 s4 s5 : Sl) : loopD (.one 3) .fz B_law_10 [.int 47, .int 48, .int 49, .int 50, .int 51, .int 52, .int 53, .int 54, .int 55, .int 56, .int 57, .int 58, .int 59, .int 60, .int 61, .int 62, .int 63] [s0, .val everyD, .val rulesD, s3, s4, s5, .un, .un, .un, .un, .un, .un] [] = .ok (.nx [s0, .val everyD, .val rulesD, .val (.int 63), .val (itemD rulesD 63), .val (itemD rulesD 63), .un, .un, .un, .un, .un, .un]) [] := (lp_cons rfl rfl (q_47 s0 s4 s5)).trans (l_48 ..)
theorem l_46 (s0 s3 s4 s5 : Sl) : loopD (.one 3) .fz B_law_10 [.int 46, .int 47, .int 48, .int 49, .int 50, .int 51, .int 52, .int 53, .int 54, .int 55, .int 56, .int 57, .int 58, .int 59, .int 60, .int 61, .int 62, .int 63] [s0, .val everyD, .val rulesD, s3, s4, s5, .un, .un, .un, .un, .un, .un] [] = .ok (.nx [s0, .val everyD, .val rulesD, .val (.int 63), .val (itemD rulesD 63), .val (itemD rulesD 63), .un, .un, .un, .un, .un, .un]) [] := (lp_cons rfl rfl (q_46 s0 s4 s5)).trans (l_47 ..)
theorem l_45 (s0 s3 s4 s5 : Sl) : loopD (.one 3) .fz B_law_10 [.int 45, .int 46, .int 47, .int 48, .int 49, .int 50, .int 51, .int 52, .int 53, .int 54, .int 55, .int 56, .int 57, .int 58, .int 59, .int 60, .int 61, .int 62, .int 63] [s0, .val everyD, .val rulesD, s3, s4, s5, .un, .un, .un, .un, .un, .un] [] = .ok (.nx [s0, .val everyD, .val rulesD, .val (.int 63), .val (itemD rulesD 63), .val (itemD rulesD 63), .un, .un, .un, .un, .un, .un]) [] := (lp_cons rfl rfl (q_45 s0 s4 s5)).trans (l_46 ..)
theorem l_44 (s0 s3 s4 s5 : Sl) : loopD (.one 3) .fz B_law_10 [.int 44, .int 45, .int 46, .int 47, .int 48, .int 49, .int 50, .int 51, .int 52, .int 53, .int 54, .int 55, .int 56, .int 57, .int 58, .int 59, .int 60, .int 61, .int 62, .int 63] [s0, .val everyD, .val rulesD, s3, s4, s5, .un, .un, .un, .un, .un, .un] [] = .ok (.nx [s0, .val everyD, .val rulesD, .val (.int 63), .val (itemD rulesD 63), .val (itemD rulesD 63), .un, .un, .un, .un, .un, .un]) [] := (lp_cons rfl rfl (q_44 s0 s4 s5)).trans (l_45 ..)
theorem l_43 (s0 s3 s4 s5 : Sl) : loopD (.one 3) .fz B_law_10 [.int 43, .int 44, .int 45, .int 46, .int 47, .int 48, .int 49, .int 50, .int 51, .int 52, .int 53, .int 54, .int 55, .int 56, .int 57, .int 58, .int 59, .int 60, .int 61, .int 62, .int 63] [s0, .val everyD, .val rulesD, s3, s4, s5, .un, .un, .un, .un, .un, .un] [] = .ok (.nx [s0, .val everyD, .val rulesD, .val (.int 63), .val (itemD rulesD 63), .val (itemD rulesD 63), .un, .un, .un, .un, .un, .un]) [] := (lp_cons rfl rfl (q_43 s0 s4 s5)).trans (l_44 ..)
theorem l_42 (s0 s3 s4 s5 : Sl) : loopD (.one 3) .fz B_law_10 [.int 42, .int 43, .int 44, .int 45, .int 46, .int 47, .int 48, .int 49, .int 50, .int 51, .int 52, .int 53, .int 54, .int 55, .int 56, .int 57, .int 58, .int 59, .int 60, .int 61, .int 62, .int 63] [s0, .val everyD, .val rulesD, s3, s4, s5, .un, .un, .un, .un, .un, .un] [] = .ok (.nx [s0, .val everyD, .val rulesD, .val (.int 63), .val (itemD rulesD 63), .val (itemD rulesD 63), .un, .un, .un, .un, .un, .un]) [] := (lp_cons rfl rfl (q_42 s0 s4 s5)).trans (l_43 ..)
theorem l_41 (s0 s3 s4 s5 : Sl) : loopD (.one 3) .fz B_law_10 [.int 41, .int 42, .int 43, .int 44, .int 45, .int 46, .int 47, .int 48, .int 49, .int 50, .int 51, .int 52, .int 53, .int 54, .int 55, .int 56, .int 57, .int 58, .int 59, .int 60, .int 61, .int 62, .int 63] [s0, .val everyD, .val rulesD, s3, s4, s5, .un, .un, .un, .un, .un, .un] [] = .ok (.nx [s0, .val everyD, .val rulesD, .val (.int 63), .val (itemD rulesD 63), .val (itemD rulesD 63), .un, .un, .un, .un, .un, .un]) [] := (lp_cons rfl rfl (q_41 s0 s4 s5)).trans (l_42 ..)
theorem l_40 (s0 s3 s4 s5 : Sl) : loopD (.one 3) .fz B_law_10 [.int 40, .int 41, .int 42, .int 43, .int 44, .int 45, .int 46, .int 47, .int 48, .int 49, .int 50, .int 51, .int 52, .int 53, .int 54, .int 55, .int 56, .int 57, .int 58, .int 59, .int 60, .int 61, .int 62, .int 63] [s0, .val everyD, .val rulesD, s3, s4, s5, .un, .un, .un, .un, .un, .un] [] = .ok (.nx [s0, .val everyD, .val rulesD, .val (.int 63), .val (itemD rulesD 63), .val (itemD rulesD 63), .un, .un, .un, .un, .un, .un]) [] := (lp_cons rfl rfl (q_40 s0 s4 s5)).trans (l_41 ..)
theorem l_39 (s0 s3 s4 s5 : Sl) : loopD (.one 3) .fz B_law_10 [.int 39, .int 40, .int 41, .int 42, .int 43, .int 44, .int 45, .int 46, .int 47, .int 48, .int 49, .int 50, .int 51, .int 52, .int 53, .int 54, .int 55, .int 56, .int 57, .int 58, .int 59, .int 60, .int 61, .int 62, .int 63] [s0, .val everyD, .val rulesD, s3, s4, s5, .un, .un, .un, .un, .un, .un] [] = .ok (.nx [s0, .val everyD, .val rulesD, .val (.int 63), .val (itemD rulesD 63), .val (itemD rulesD 63), .un, .un, .un, .un, .un, .un]) [] := (lp_cons rfl rfl (q_39 s0 s4 s5)).trans (l_40 ..)
theorem l_38 (s0 s3 s4 s5 : Sl) : loopD (.one 3) .fz B_law_10 [.int 38, .int 39, .int 40, .int 41, .int 42, .int 43, .int 44, .int 45, .int 46, .int 47, .int 48, .int 49, .int 50, .int 51, .int 52, .int 53, .int 54, .int 55, .int 56, .int 57, .int 58, .int 59, .int 60, .int 61, .int 62, .int 63] [s0, .val everyD, .val rulesD, s3, s4, s5, .un, .un, .un, .un, .un, .un] [] = .ok (.nx [s0, .val everyD, .val rulesD, .val (.int 63), .val (itemD rulesD 63), .val (itemD rulesD 63), .un, .un, .un, .un, .un, .un]) [] := (lp_cons rfl rfl (q_38 s0 s4 s5)).trans (l_39 ..)
theorem l_37 (s0 s3 s4 s5 : Sl) : loopD (.one 3) .fz B_law_10 [.int 37, .int 38, .int 39, .int 40, .int 41, .int 42, .int 43, .int 44, .int 45, .int 46, .int 47, .int 48, .int 49, .int 50, .int 51, .int 52, .int 53, .int 54, .int 55, .int 56, .int 57, .int 58, .int 59, .int 60, .int 61, .int 62, .int 63] [s0, .val everyD, .val rulesD, s3, s4, s5, .un, .un, .un, .un, .un, .un] [] = .ok (.nx [s0, .val everyD, .val rulesD, .val (.int 63), .val (itemD rulesD 63), .val (itemD rulesD 63), .un, .un, .un, .un, .un, .un]) [] := (lp_cons rfl rfl (q_37 s0 s4 s5)).trans (l_38 ..)
theorem l_36 (s0 s3 s4 s5 : Sl) : loopD (.one 3) .fz B_law_10 [.int 36, .int 37, .int 38, .int 39, .int 40, .int 41, .int 42, .int 43, .int 44, .int 45, .int 46, .int 47, .int 48, .int 49, .int 50, .int 51, .int 52, .int 53, .int 54, .int 55, .int 56, .int 57, .int 58, .int 59, .int 60, .int 61, .int 62, .int 63] [s0, .val everyD, .val rulesD, s3, s4, s5, .un, .un, .un, .un, .un, .un] [] = .ok (.nx [s0, .val everyD, .val rulesD, .val (.int 63), .val (itemD rulesD 63), .val (itemD rulesD 63), .un, .un, .un, .un, .un, .un]) [] := (lp_cons rfl rfl (q_36 s0 s4 s5)).trans (l_37 ..)
theorem l_35 (s0 s3 s4 s5 : Sl) : loopD (.one 3) .fz B_law_10 [.int 35, .int 36, .int 37, .int 38, .int 39, .int 40, .int 41, .int 42, .int 43, .int 44, .int 45, .int 46, .int 47, .int 48, .int 49, .int 50, .int 51, .int 52, .int 53, .int 54, .int 55, .int 56, .int 57, .int 58, .int 59, .int 60, .int 61, .int 62, .int 63] [s0, .val everyD, .val rulesD, s3, s4, s5, .un, .un, .un, .un, .un, .un] [] = .ok (.nx [s0, .val everyD, .val rulesD, .val (.int 63), .val (itemD rulesD 63), .val (itemD rulesD 63), .un, .un, .un, .un, .un, .un]) [] := (lp_cons rfl rfl (q_35 s0 s4 s5)).trans (l_36 ..)
theorem l_34 (s0 s3 s4 s5 : Sl) : loopD (.one 3) .fz B_law_10 [.int 34, .int 35, .int 36, .int 37, .int 38, .int 39, .int 40, .int 41, .int 42, .int 43, .int 44, .int 45, .int 46, .int 47, .int 48, .int 49, .int 50, .int 51, .int 52, .int 53, .int 54, .int 55, .int 56, .int 57, .int 58, .int 59, .int 60, .int 61, .int 62, .int 63] [s0, .val everyD, .val rulesD, s3, s4, s5, .un, .un, .un, .un, .un, .un] [] = .ok (.nx [s0, .val everyD, .val rulesD, .val (.int 63), .val (itemD rulesD 63), .val (itemD rulesD 63), .un, .un, .un, .un, .un, .un]) [] := (lp_cons rfl rfl (q_34 s0 s4 s5)).trans (l_35 ..)
theorem l_33 (s0 s3 s4 s5 : Sl) : loopD (.one 3) .fz B_law_10 [.int 33, .int 34, .int 35, .int 36, .int 37, .int 38, .int 39, .int 40, .int 41, .int 42, .int 43, .int 44, .int 45, .int 46, .int 47, .int 48, .int 49, .int 50, .int 51, .int 52, .int 53, .int 54, .int 55, .int 56, .int 57, .int 58, .int 59, .int 60, .int 61, .int 62, .int 63] [s0, .val everyD, .val rulesD, s3, s4, s5, .un, .un, .un, .un, .un, .un] [] = .ok (.nx [s0, .val everyD, .val rulesD, .val (.int 63), .val (itemD rulesD 63), .val (itemD rulesD 63), .un, .un, .un, .un, .un, .un]) [] := (lp_cons rfl rfl (q_33 s0 s4 s5)).trans (l_34 ..)
theorem l_32 (s0 s3 s4 s5 : Sl) : loopD (.one 3) .fz B_law_10 [.int 32, .int 33, .int 34, .int 35, .int 36, .int 37, .int 38, .int 39, .int 40, .int 41, .int 42, .int 43, .int 44, .int 45, .int 46, .int 47, .int 48, .int 49, .int 50, .int 51, .int 52, .int 53, .int 54, .int 55, .int 56, .int 57, .int 58, .int 59, .int 60, .int 61, .int 62, .int 63] [s0, .val everyD, .val rulesD, s3, s4, s5, .un, .un, .un, .un, .un, .un] [] = .ok (.nx [s0, .val everyD, .val rulesD, .val (.int 63), .val (itemD rulesD 63), .val (itemD rulesD 63), .un, .un, .un, .un, .un, .un]) [] := (lp_cons rfl rfl (q_32 s0 s4 s5)).trans (l_33 ..)
theorem l_31 (s0 s3 s4 s5 : Sl) : loopD (.one 3) .fz B_law_10 [.int 31, .int 32, .int 33, .int 34, .int 35, .int 36, .int 37, .int 38, .int 39, .int 40, .int 41, .int 42, .int 43, .int 44, .int 45, .int 46, .int 47, .int 48, .int 49, .int 50, .int 51, .int 52, .int 53, .int 54, .int 55, .int 56, .int 57, .int 58, .int 59, .int 60, .int 61, .int 62, .int 63] [s0, .val everyD, .val rulesD, s3, s4, s5, .un, .un, .un, .un, .un, .un] [] = .ok (.nx [s0, .val everyD, .val rulesD, .val (.int 63), .val (itemD rulesD 63), .val (itemD rulesD 63), .un, .un, .un, .un, .un, .un]) [] := (lp_cons rfl rfl (q_31 s0 s4 s5)).trans (l_32 ..)
theorem l_30 (s0 s3 s4 s5 : Sl) : loopD (.one 3) .fz B_law_10 [.int 30, .int 31, .int 32, .int 33, .int 34, .int 35, .int 36, .int 37, .int 38, .int 39, .int 40, .int 41, .int 42, .int 43, .int 44, .int 45, .int 46, .int 47, .int 48, .int 49, .int 50, .int 51, .int 52, .int 53, .int 54, .int 55, .int 56, .int 57, .int 58, .int 59, .int 60, .int 61, .int 62, .int 63] [s0, .val everyD, .val rulesD, s3, s4, s5, .un, .un, .un, .un, .un, .un] [] = .ok (.nx [s0, .val everyD, .val rulesD, .val (.int 63), .val (itemD rulesD 63), .val (itemD rulesD 63), .un, .un, .un, .un, .un, .un]) [] := (lp_cons rfl rfl (q_30 s0 s4 s5)).trans (l_31 ..)
theorem l_29 (s0 s3 s4 s5 : Sl) : loopD (.one 3) .fz B_law_10 [.int 29, .int 30, .int 31, .int 32, .int 33, .int 34, .int 35, .int 36, .int 37, .int 38, .int 39, .int 40, .int 41, .int 42, .int 43, .int 44, .int 45, .int 46, .int 47, .int 48, .int 49, .int 50, .int 51, .int 52, .int 53, .int 54, .int 55, .int 56, .int 57, .int 58, .int 59, .int 60, .int 61, .int 62, .int 63] [s0, .val everyD, .val rulesD, s3, s4, s5, .un, .un, .un, .un, .un, .un] [] = .ok (.nx [s0, .val everyD, .val rulesD, .val (.int 63), .val (itemD rulesD 63), .val (itemD rulesD 63), .un, .un, .un, .un, .un, .un]) [] := (lp_cons rfl rfl (q_29 s0 s4 s5)).trans (l_30 ..)
theorem l_28 (s0 s3 s4 s5 : Sl) : loopD (.one 3) .fz B_law_10 [.int 28, .int 29, .int 30, .int 31, .int 32, .int 33, .int 34, .int 35, .int 36, .int 37, .int 38, .int 39, .int 40, .int 41, .int 42, .int 43, .int 44, .int 45, .int 46, .int 47, .int 48, .int 49, .int 50, .int 51, .int 52, .int 53, .int 54, .int 55, .int 56, .int 57, .int 58, .int 59, .int 60, .int 61, .int 62, .int 63] [s0, .val everyD, .val rulesD, s3, s4, s5, .un, .un, .un, .un, .un, .un] [] = .ok (.nx [s0, .val everyD, .val rulesD, .val (.int 63), .val (itemD rulesD 63), .val (itemD rulesD 63), .un, .un, .un, .un, .un, .un]) [] := (lp_cons rfl rfl (q_28 s0 s4 s5)).trans (l_29 ..)
theorem l_27 (s0 s3 s4 s5 : Sl) : loopD (.one 3) .fz B_law_10 [.int 27, .int 28, .int 29, .int 30, .int 31, .int 32, .int 33, .int 34, .int 35, .int 36, .int 37, .int 38, .int 39, .int 40, .int 41, .int 42, .int 43, .int 44, .int 45, .int 46, .int 47, .int 48, .int 49, .int 50, .int 51, .int 52, .int 53, .int 54, .int 55, .int 56, .int 57, .int 58, .int 59, .int 60, .int 61, .int 62, .int 63] [s0, .val everyD, .val rulesD, s3, s4, s5, .un, .un, .un, .un, .un, .un] [] = .ok (.nx [s0, .val everyD, .val rulesD, .val (.int 63), .val (itemD rulesD 63), .val (itemD rulesD 63), .un, .un, .un, .un, .un, .un]) [] := (lp_cons rfl rfl (q_27 s0 s4 s5)).trans (l_28 ..)
theorem l_26 (s0 s3 s4 s5 : Sl) : loopD (.one 3) .fz B_law_10 [.int 26, .int 27, .int 28, .int 29, .int 30, .int 31, .int 32, .int 33, .int 34, .int 35, .int 36, .int 37, .int 38, .int 39, .int 40, .int 41, .int 42, .int 43, .int 44, .int 45, .int 46, .int 47, .int 48, .int 49, .int 50, .int 51, .int 52, .int 53, .int 54, .int 55, .int 56, .int 57, .int 58, .int 59, .int 60, .int 61, .int 62, .int 63] [s0, .val everyD, .val rulesD, s3, s4, s5, .un, .un, .un, .un, .un, .un] [] = .ok (.nx [s0, .val everyD, .val rulesD, .val (.int 63), .val (itemD rulesD 63), .val (itemD rulesD 63), .un, .un, .un, .un, .un, .un]) [] := (lp_cons rfl rfl (q_26 s0 s4 s5)).trans (l_27 ..)
theorem l_25 (s0 s3 s4 s5 : Sl) : loopD (.one 3) .fz B_law_10 [.int 25, .int 26, .int 27, .int 28, .int 29, .int 30, .int 31, .int 32, .int 33, .int 34, .int 35, .int 36, .int 37, .int 38, .int 39, .int 40, .int 41, .int 42, .int 43, .int 44, .int 45, .int 46, .int 47, .int 48, .int 49, .int 50, .int 51, .int 52, .int 53, .int 54, .int 55, .int 56, .int 57, .int 58, .int 59, .int 60, .int 61, .int 62, .int 63] [s0, .val everyD, .val rulesD, s3, s4, s5, .un, .un, .un, .un, .un, .un] [] = .ok (.nx [s0, .val everyD, .val rulesD, .val (.int 63), .val (itemD rulesD 63), .val (itemD rulesD 63), .un, .un, .un, .un, .un, .un]) [] := (lp_cons rfl rfl (q_25 s0 s4 s5)).trans (l_26 ..)
theorem l_24 (s0 s3 s4 s5 : Sl) : loopD (.one 3) .fz B_law_10 [.int 24, .int 25, .int 26, .int 27, .int 28, .int 29, .int 30, .int 31, .int 32, .int 33, .int 34, .int 35, .int 36, .int 37, .int 38, .int 39, .int 40, .int 41, .int 42, .int 43, .int 44, .int 45, .int 46, .int 47, .int 48, .int 49, .int 50, .int 51, .int 52, .int 53, .int 54, .int 55, .int 56, .int 57, .int 58, .int 59, .int 60, .int 61, .int 62, .int 63] [s0, .val everyD, .val rulesD, s3, s4, s5, .un, .un, .un, .un, .un, .un] [] = .ok (.nx [s0, .val everyD, .val rulesD, .val (.int 63), .val (itemD rulesD 63), .val (itemD rulesD 63), .un, .un, .un, .un, .un, .un]) [] := (lp_cons rfl rfl (q_24 s0 s4 s5)).trans (l_25 ..)
theorem l_23 (s0 s3 s4 s5 : Sl) : loopD (.one 3) .fz B_law_10 [.int 23, .int 24, .int 25, .int 26, .int 27, .int 28, .int 29, .int 30, .int 31, .int 32, .int 33, .int 34, .int 35, .int 36, .int 37, .int 38, .int 39, .int 40, .int 41, .int 42, .int 43, .int 44, .int 45, .int 46, .int 47, .int 48, .int 49, .int 50, .int 51, .int 52, .int 53, .int 54, .int 55, .int 56, .int 57, .int 58, .int 59, .int 60, .int 61, .int 62, .int 63] [s0, .val everyD, .val rulesD, s3, s4, s5, .un, .un, .un, .un, .un, .un] [] = .ok (.nx [s0, .val everyD, .val rulesD, .val (.int 63), .val (itemD rulesD 63), .val (itemD rulesD 63), .un, .un, .un, .un, .un, .un]) [] := (lp_cons rfl rfl (q_23 s0 s4 s5)).trans (l_24 ..)
theorem l_22 (s0 s3 s4 s5 : Sl) : loopD (.one 3) .fz B_law_10 [.int 22, .int 23, .int 24, .int 25, .int 26, .int 27, .int 28, .int 29, .int 30, .int 31, .int 32, .int 33, .int 34, .int 35, .int 36, .int 37, .int 38, .int 39, .int 40, .int 41, .int 42, .int 43, .int 44, .int 45, .int 46, .int 47, .int 48, .int 49, .int 50, .int 51, .int 52, .int 53, .int 54, .int 55, .int 56, .int 57, .int 58, .int 59, .int 60, .int 61, .int 62, .int 63] [s0, .val everyD, .val rulesD, s3, s4, s5, .un, .un, .un, .un, .un, .un] [] = .ok (.nx [s0, .val everyD, .val rulesD, .val (.int 63), .val (itemD rulesD 63), .val (itemD rulesD 63), .un, .un, .un, .un, .un, .un]) [] := (lp_cons rfl rfl (q_22 s0 s4 s5)).trans (l_23 ..)
theorem l_21 (s0 s3 s4 s5 : Sl) : loopD (.one 3) .fz B_law_10 [.int 21, .int 22, .int 23, .int 24, .int 25, .int 26, .int 27, .int 28, .int 29, .int 30, .int 31, .int 32, .int 33, .int 34, .int 35, .int 36, .int 37, .int 38, .int 39, .int 40, .int 41, .int 42, .int 43, .int 44, .int 45, .int 46, .int 47, .int 48, .int 49, .int 50, .int 51, .int 52, .int 53, .int 54, .int 55, .int 56, .int 57, .int 58, .int 59, .int 60, .int 61, .int 62, .int 63] [s0, .val everyD, .val rulesD, s3, s4, s5, .un, .un, .un, .un, .un, .un] [] = .ok (.nx [s0, .val everyD, .val rulesD, .val (.int 63), .val (itemD rulesD 63), .val (itemD rulesD 63), .un, .un, .un, .un, .un, .un]) [] := (lp_cons rfl rfl (q_21 s0 s4 s5)).trans (l_22 ..)
theorem l_20 (s0 s3 s4 s5 : Sl) : loopD (.one 3) .fz B_law_10 [.int 20, .int 21, .int 22, .int 23, .int 24, .int 25, .int 26, .int 27, .int 28, .int 29, .int 30, .int 31, .int 32, .int 33, .int 34, .int 35, .int 36, .int 37, .int 38, .int 39, .int 40, .int 41, .int 42, .int 43, .int 44, .int 45, .int 46, .int 47, .int 48, .int 49, .int 50, .int 51, .int 52, .int 53, .int 54, .int 55, .int 56, .int 57, .int 58, .int 59, .int 60, .int 61, .int 62, .int 63] [s0, .val everyD, .val rulesD, s3, s4, s5, .un, .un, .un, .un, .un, .un] [] = .ok (.nx [s0, .val everyD, .val rulesD, .val (.int 63), .val (itemD rulesD 63), .val (itemD rulesD 63), .un, .un, .un, .un, .un, .un]) [] := (lp_cons rfl rfl (q_20 s0 s4 s5)).trans (l_21 ..)
theorem l_19 (s0 s3 s4 s5 : Sl) : loopD (.one 3) .fz B_law_10 [.int 19, .int 20, .int 21, .int 22, .int 23, .int 24, .int 25, .int 26, .int 27, .int 28, .int 29, .int 30, .int 31, .int 32, .int 33, .int 34, .int 35, .int 36, .int 37, .int 38, .int 39, .int 40, .int 41, .int 42, .int 43, .int 44, .int 45, .int 46, .int 47, .int 48, .int 49, .int 50, .int 51, .int 52, .int 53, .int 54, .int 55, .int 56, .int 57, .int 58, .int 59, .int 60, .int 61, .int 62, .int 63] [s0, .val everyD, .val rulesD, s3, s4, s5, .un, .un, .un, .un, .un, .un] [] = .ok (.nx [s0, .val everyD, .val rulesD, .val (.int 63), .val (itemD rulesD 63), .val (itemD rulesD 63), .un, .un, .un, .un, .un, .un]) [] := (lp_cons rfl rfl (q_19 s0 s4 s5)).trans (l_20 ..)
theorem l_18 (s0 s3 s4 s5 : Sl) : loopD (.one 3) .fz B_law_10 [.int 18, .int 19, .int 20, .int 21, .int 22, .int 23, .int 24, .int 25, .int 26, .int 27, .int 28, .int 29, .int 30, .int 31, .int 32, .int 33, .int 34, .int 35, .int 36, .int 37, .int 38, .int 39, .int 40, .int 41, .int 42, .int 43, .int 44, .int 45, .int 46, .int 47, .int 48, .int 49, .int 50, .int 51, .int 52, .int 53, .int 54, .int 55, .int 56, .int 57, .int 58, .int 59, .int 60, .int 61, .int 62, .int 63] [s0, .val everyD, .val rulesD, s3, s4, s5, .un, .un, .un, .un, .un, .un] [] = .ok (.nx [s0, .val everyD, .val rulesD, .val (.int 63), .val (itemD rulesD 63), .val (itemD rulesD 63), .un, .un, .un, .un, .un, .un]) [] := (lp_cons rfl rfl (q_18 s0 s4 s5)).trans (l_19 ..)
theorem l_17 (s0 s3 s4 s5 : Sl) : loopD (.one 3) .fz B_law_10 [.int 17, .int 18, .int 19, .int 20, .int 21, .int 22, .int 23, .int 24, .int 25, .int 26, .int 27, .int 28, .int 29, .int 30, .int 31, .int 32, .int 33, .int 34, .int 35, .int 36, .int 37, .int 38, .int 39, .int 40, .int 41, .int 42, .int 43, .int 44, .int 45, .int 46, .int 47, .int 48, .int 49, .int 50, .int 51, .int 52, .int 53, .int 54, .int 55, .int 56, .int 57, .int 58, .int 59, .int 60, .int 61, .int 62, .int 63] [s0, .val everyD, .val rulesD, s3, s4, s5, .un, .un, .un, .un, .un, .un] [] = .ok (.nx [s0, .val everyD, .val rulesD, .val (.int 63), .val (itemD rulesD 63), .val (itemD rulesD 63), .un, .un, .un, .un, .un, .un]) [] := (lp_cons rfl rfl (q_17 s0 s4 s5)).trans (l_18 ..)
theorem l_16 (s0 s3 s4 s5 : Sl) : loopD (.one 3) .fz B_law_10 [.int 16, .int 17, .int 18, .int 19, .int 20, .int 21, .int 22, .int 23, .int 24, .int 25, .int 26, .int 27, .int 28, .int 29, .int 30, .int 31, .int 32, .int 33, .int 34, .int 35, .int 36, .int 37, .int 38, .int 39, .int 40, .int 41, .int 42, .int 43, .int 44, .int 45, .int 46, .int 47, .int 48, .int 49, .int 50, .int 51, .int 52, .int 53, .int 54, .int 55, .int 56, .int 57, .int 58, .int 59, .int 60, .int 61, .int 62, .int 63] [s0, .val everyD, .val rulesD, s3, s4, s5, .un, .un, .un, .un, .un, .un] [] = .ok (.nx [s0, .val everyD, .val rulesD, .val (.int 63), .val (itemD rulesD 63), .val (itemD rulesD 63), .un, .un, .un, .un, .un, .un]) [] := (lp_cons rfl rfl (q_16 s0 s4 s5)).trans (l_17 ..)
theorem l_15 (s0 s3 s4 s5 : Sl) : loopD (.one 3) .fz B_law_10 [.int 15, .int 16, .int 17, .int 18, .int 19, .int 20, .int 21, .int 22, .int 23, .int 24, .int 25, .int 26, .int 27, .int 28, .int 29, .int 30, .int 31, .int 32, .int 33, .int 34, .int 35, .int 36, .int 37, .int 38, .int 39, .int 40, .int 41, .int 42, .int 43, .int 44, .int 45, .int 46, .int 47, .int 48, .int 49, .int 50, .int 51, .int 52, .int 53, .int 54, .int 55, .int 56, .int 57, .int 58, .int 59, .int 60, .int 61, .int 62, .int 63] [s0, .val everyD, .val rulesD, s3, s4, s5, .un, .un, .un, .un, .un, .un] [] = .ok (.nx [s0, .val everyD, .val rulesD, .val (.int 63), .val (itemD rulesD 63), .val (itemD rulesD 63), .un, .un, .un, .un, .un, .un]) [] := (lp_cons rfl rfl (q_15 s0 s4 s5)).trans (l_16 ..)
theorem l_14 (s0 s3 s4 s5 : Sl) : loopD (.one 3) .fz B_law_10 [.int 14, .int 15, .int 16, .int 17, .int 18, .int 19, .int 20, .int 21, .int 22, .int 23, .int 24, .int 25, .int 26, .int 27, .int 28, .int 29, .int 30, .int 31, .int 32, .int 33, .int 34, .int 35, .int 36, .int 37, .int 38, .int 39, .int 40, .int 41, .int 42, .int 43, .int 44, .int 45, .int 46, .int 47, .int 48, .int 49, .int 50, .int 51, .int 52, .int 53, .int 54, .int 55, .int 56, .int 57, .int 58, .int 59, .int 60, .int 61, .int 62, .int 63] [s0, .val everyD, .val rulesD, s3, s4, s5, .un, .un, .un, .un, .un, .un] [] = .ok (.nx [s0, .val everyD, .val rulesD, .val (.int 63), .val (itemD rulesD 63), .val (itemD rulesD 63), .un, .un, .un, .un, .un, .un]) [] := (lp_cons rfl rfl (q_14 s0 s4 s5)).trans (l_15 ..)
theorem l_13 (s0 s3 s4 s5 : Sl) : loopD (.one 3) .fz B_law_10 [.int 13, .int 14, .int 15, .int 16, .int 17, .int 18, .int 19, .int 20, .int 21, .int 22, .int 23, .int 24, .int 25, .int 26, .int 27, .int 28, .int 29, .int 30, .int 31, .int 32, .int 33, .int 34, .int 35, .int 36, .int 37, .int 38, .int 39, .int 40, .int 41, .int 42, .int 43, .int 44, .int 45, .int 46, .int 47, .int 48, .int 49, .int 50, .int 51, .int 52, .int 53, .int 54, .int 55, .int 56, .int 57, .int 58, .int 59, .int 60, .int 61, .int 62, .int 63] [s0, .val everyD, .val rulesD, s3, s4, s5, .un, .un, .un, .un, .un, .un] [] = .ok (.nx [s0, .val everyD, .val rulesD, .val (.int 63), .val (itemD rulesD 63), .val (itemD rulesD 63), .un, .un, .un, .un, .un, .un]) [] := (lp_cons rfl rfl (q_13 s0 s4 s5)).trans (l_14 ..)
theorem l_12 (s0 s3 s4 s5 : Sl) : loopD (.one 3) .fz B_law_10 [.int 12, .int 13, .int 14, .int 15, .int 16, .int 17, .int 18, .int 19, .int 20, .int 21, .int 22, .int 23, .int 24, .int 25, .int 26, .int 27, .int 28, .int 29, .int 30, .int 31, .int 32, .int 33, .int 34, .int 35, .int 36, .int 37, .int 38, .int 39, .int 40, .int 41, .int 42, .int 43, .int 44, .int 45, .int 46, .int 47, .int 48, .int 49, .int 50, .int 51, .int 52, .int 53, .int 54, .int 55, .int 56, .int 57, .int 58, .int 59, .int 60, .int 61, .int 62, .int 63] [s0, .val everyD, .val rulesD, s3, s4, s5, .un, .un, .un, .un, .un, .un] [] = .ok (.nx [s0, .val everyD, .val rulesD, .val (.int 63), .val (itemD rulesD 63), .val (itemD rulesD 63), .un, .un, .un, .un, .un, .un]) [] := (lp_cons rfl rfl (q_12 s0 s4 s5)).trans (l_13 ..)
theorem l_11 (s0 s3 s4 s5 : Sl) : loopD (.one 3) .fz B_law_10 [.int 11, .int 12, .int 13, .int 14, .int 15, .int 16, .int 17, .int 18, .int 19, .int 20, .int 21, .int 22, .int 23, .int 24, .int 25, .int 26, .int 27, .int 28, .int 29, .int 30, .int 31, .int 32, .int 33, .int 34, .int 35, .int 36, .int 37, .int 38, .int 39, .int 40, .int 41, .int 42, .int 43, .int 44, .int 45, .int 46, .int 47, .int 48, .int 49, .int 50, .int 51, .int 52, .int 53, .int 54, .int 55, .int 56, .int 57, .int 58, .int 59, .int 60, .int 61, .int 62, .int 63] [s0, .val everyD, .val rulesD, s3, s4, s5, .un, .un, .un, .un, .un, .un] [] = .ok (.nx [s0, .val everyD, .val rulesD, .val (.int 63), .val (itemD rulesD 63), .val (itemD rulesD 63), .un, .un, .un, .un, .un, .un]) [] := (lp_cons rfl rfl (q_11 s0 s4 s5)).trans (l_12 ..)
theorem l_10 (s0 s3 s4 s5 : Sl) : loopD (.one 3) .fz B_law_10 [.int 10, .int 11, .int 12, .int 13, .int 14, .int 15, .int 16, .int 17, .int 18, .int 19, .int 20, .int 21, .int 22, .int 23, .int 24, .int 25, .int 26, .int 27, .int 28, .int 29, .int 30, .int 31, .int 32, .int 33, .int 34, .int 35, .int 36, .int 37, .int 38, .int 39, .int 40, .int 41, .int 42, .int 43, .int 44, .int 45, .int 46, .int 47, .int 48, .int 49, .int 50, .int 51, .int 52, .int 53, .int 54, .int 55, .int 56, .int 57, .int 58, .int 59, .int 60, .int 61, .int 62, .int 63] [s0, .val everyD, .val rulesD, s3, s4, s5, .un, .un, .un, .un, .un, .un] [] = .ok (.nx [s0, .val everyD, .val rulesD, .val (.int 63), .val (itemD rulesD 63), .val (itemD rulesD 63), .un, .un, .un, .un, .un, .un]) [] := (lp_cons rfl rfl (q_10 s0 s4 s5)).trans (l_11 ..)
theorem l_9 (s0 s3 s4 s5 : Sl) : loopD (.one 3) .fz B_law_10 [.int 9, .int 10, .int 11, .int 12, .int 13, .int 14, .int 15, .int 16, .int 17, .int 18, .int 19, .int 20, .int 21, .int 22, .int 23, .int 24, .int 25, .int 26, .int 27, .int 28, .int 29, .int 30, .int 31, .int 32, .int 33, .int 34, .int 35, .int 36, .int 37, .int 38, .int 39, .int 40, .int 41, .int 42, .int 43, .int 44, .int 45, .int 46, .int 47, .int 48, .int 49, .int 50, .int 51, .int 52, .int 53, .int 54, .int 55, .int 56, .int 57, .int 58, .int 59, .int 60, .int 61, .int 62, .int 63] [s0, .val everyD, .val rulesD, s3, s4, s5, .un, .un, .un, .un, .un, .un] [] = .ok (.nx [s0, .val everyD, .val rulesD, .val (.int 63), .val (itemD rulesD 63), .val (itemD rulesD 63), .un, .un, .un, .un, .un, .un]) [] := (lp_cons rfl rfl (q_9 s0 s4 s5)).trans (l_10 ..)
theorem l_8 (s0 s3 s4 s5 : Sl) : loopD (.one 3) .fz B_law_10 [.int 8, .int 9, .int 10, .int 11, .int 12, .int 13, .int 14, .int 15, .int 16, .int 17, .int 18, .int 19, .int 20, .int 21, .int 22, .int 23, .int 24, .int 25, .int 26, .int 27, .int 28, .int 29, .int 30, .int 31, .int 32, .int 33, .int 34, .int 35, .int 36, .int 37, .int 38, .int 39, .int 40, .int 41, .int 42, .int 43, .int 44, .int 45, .int 46, .int 47, .int 48, .int 49, .int 50, .int 51, .int 52, .int 53, .int 54, .int 55, .int 56, .int 57, .int 58, .int 59, .int 60, .int 61, .int 62, .int 63] [s0, .val everyD, .val rulesD, s3, s4, s5, .un, .un, .un, .un, .un, .un] [] = .ok (.nx [s0, .val everyD, .val rulesD, .val (.int 63), .val (itemD rulesD 63), .val (itemD rulesD 63), .un, .un, .un, .un, .un, .un]) [] := (lp_cons rfl rfl (q_8 s0 s4 s5)).trans (l_9 ..)
theorem l_7 (s0 s3 s4 s5 : Sl) : loopD (.one 3) .fz B_law_10 [.int 7, .int 8, .int 9, .int 10, .int 11, .int 12, .int 13, .int 14, .int 15, .int 16, .int 17, .int 18, .int 19, .int 20, .int 21, .int 22, .int 23, .int 24, .int 25, .int 26, .int 27, .int 28, .int 29, .int 30, .int 31, .int 32, .int 33, .int 34, .int 35, .int 36, .int 37, .int 38, .int 39, .int 40, .int 41, .int 42, .int 43, .int 44, .int 45, .int 46, .int 47, .int 48, .int 49, .int 50, .int 51, .int 52, .int 53, .int 54, .int 55, .int 56, .int 57, .int 58, .int 59, .int 60, .int 61, .int 62, .int 63] [s0, .val everyD, .val rulesD, s3, s4, s5, .un, .un, .un, .un, .un, .un] [] = .ok (.nx [s0, .val everyD, .val rulesD, .val (.int 63), .val (itemD rulesD 63), .val (itemD rulesD 63), .un, .un, .un, .un, .un, .un]) [] := (lp_cons rfl rfl (q_7 s0 s4 s5)).trans (l_8 ..)
theorem l_6 (s0 s3 s4 s5 : Sl) : loopD (.one 3) .fz B_law_10 [.int 6, .int 7, .int 8, .int 9, .int 10, .int 11, .int 12, .int 13, .int 14, .int 15, .int 16, .int 17, .int 18, .int 19, .int 20, .int 21, .int 22, .int 23, .int 24, .int 25, .int 26, .int 27, .int 28, .int 29, .int 30, .int 31, .int 32, .int 33, .int 34, .int 35, .int 36, .int 37, .int 38, .int 39, .int 40, .int 41, .int 42, .int 43, .int 44, .int 45, .int 46, .int 47, .int 48, .int 49, .int 50, .int 51, .int 52, .int 53, .int 54, .int 55, .int 56, .int 57, .int 58, .int 59, .int 60, .int 61, .int 62, .int 63] [s0, .val everyD, .val rulesD, s3, s4, s5, .un, .un, .un, .un, .un, .un] [] = .ok (.nx [s0, .val everyD, .val rulesD, .val (.int 63), .val (itemD rulesD 63), .val (itemD rulesD 63), .un, .un, .un, .un, .un, .un]) [] := (lp_cons rfl rfl (q_6 s0 s4 s5)).trans (l_7 ..)
theorem l_5 (s0 s3 s4 s5 : Sl) : loopD (.one 3) .fz B_law_10 [.int 5, .int 6, .int 7, .int 8, .int 9, .int 10, .int 11, .int 12, .int 13, .int 14, .int 15, .int 16, .int 17, .int 18, .int 19, .int 20, .int 21, .int 22, .int 23, .int 24, .int 25, .int 26, .int 27, .int 28, .int 29, .int 30, .int 31, .int 32, .int 33, .int 34, .int 35, .int 36, .int 37, .int 38, .int 39, .int 40, .int 41, .int 42, .int 43, .int 44, .int 45, .int 46, .int 47, .int 48, .int 49, .int 50, .int 51, .int 52, .int 53, .int 54, .int 55, .int 56, .int 57, .int 58, .int 59, .int 60, .int 61, .int 62, .int 63] [s0, .val everyD, .val rulesD, s3, s4, s5, .un, .un, .un, .un, .un, .un] [] = .ok (.nx [s0, .val everyD, .val rulesD, .val (.int 63), .val (itemD rulesD 63), .val (itemD rulesD 63), .un, .un, .un, .un, .un, .un]) [] := (lp_cons rfl rfl (q_5 s0 s4 s5)).trans (l_6 ..)
theorem l_4 (s0 s3 s4 s5 : Sl) : loopD (.one 3) .fz B_law_10 [.int 4, .int 5, .int 6, .int 7, .int 8, .int 9, .int 10, .int 11, .int 12, .int 13, .int 14, .int 15, .int 16, .int 17, .int 18, .int 19, .int 20, .int 21, .int 22, .int 23, .int 24, .int 25, .int 26, .int 27, .int 28, .int 29, .int 30, .int 31, .int 32, .int 33, .int 34, .int 35, .int 36, .int 37, .int 38, .int 39, .int 40, .int 41, .int 42, .int 43, .int 44, .int 45, .int 46, .int 47, .int 48, .int 49, .int 50, .int 51, .int 52, .int 53, .int 54, .int 55, .int 56, .int 57, .int 58, .int 59, .int 60, .int 61, .int 62, .int 63] [s0, .val everyD, .val rulesD, s3, s4, s5, .un, .un, .un, .un, .un, .un] [] = .ok (.nx [s0, .val everyD, .val rulesD, .val (.int 63), .val (itemD rulesD 63), .val (itemD rulesD 63), .un, .un, .un, .un, .un, .un]) [] := (lp_cons rfl rfl (q_4 s0 s4 s5)).trans (l_5 ..)
theorem l_3 (s0 s3 s4 s5 : Sl) : loopD (.one 3) .fz B_law_10 [.int 3, .int 4, .int 5, .int 6, .int 7, .int 8, .int 9, .int 10, .int 11, .int 12, .int 13, .int 14, .int 15, .int 16, .int 17, .int 18, .int 19, .int 20, .int 21, .int 22, .int 23, .int 24, .int 25, .int 26, .int 27, .int 28, .int 29, .int 30, .int 31, .int 32, .int 33, .int 34, .int 35, .int 36, .int 37, .int 38, .int 39, .int 40, .int 41, .int 42, .int 43, .int 44, .int 45, .int 46, .int 47, .int 48, .int 49, .int 50, .int 51, .int 52, .int 53, .int 54, .int 55, .int 56, .int 57, .int 58, .int 59, .int 60, .int 61, .int 62, .int 63] [s0, .val everyD, .val rulesD, s3, s4, s5, .un, .un, .un, .un, .un, .un] [] = .ok (.nx [s0, .val everyD, .val rulesD, .val (.int 63), .val (itemD rulesD 63), .val (itemD rulesD 63), .un, .un, .un, .un, .un, .un]) [] := (lp_cons rfl rfl (q_3 s0 s4 s5)).trans (l_4 ..)
theorem l_2 (s0 s3 s4 s5 : Sl) : loopD (.one 3) .fz B_law_10 [.int 2, .int 3, .int 4, .int 5, .int 6, .int 7, .int 8, .int 9, .int 10, .int 11, .int 12, .int 13, .int 14, .int 15, .int 16, .int 17, .int 18, .int 19, .int 20, .int 21, .int 22, .int 23, .int 24, .int 25, .int 26, .int 27, .int 28, .int 29, .int 30, .int 31, .int 32, .int 33, .int 34, .int 35, .int 36, .int 37, .int 38, .int 39, .int 40, .int 41, .int 42, .int 43, .int 44, .int 45, .int 46, .int 47, .int 48, .int 49, .int 50, .int 51, .int 52, .int 53, .int 54, .int 55, .int 56, .int 57, .int 58, .int 59, .int 60, .int 61, .int 62, .int 63] [s0, .val everyD, .val rulesD, s3, s4, s5, .un, .un, .un, .un, .un, .un] [] = .ok (.nx [s0, .val everyD, .val rulesD, .val (.int 63), .val (itemD rulesD 63), .val (itemD rulesD 63), .un, .un, .un, .un, .un, .un]) [] := (lp_cons rfl rfl (q_2 s0 s4 s5)).trans (l_3 ..)
theorem l_1 (s0 s3 s4 s5 : Sl) : loopD (.one 3) .fz B_law_10 [.int 1, .int 2, .int 3, .int 4, .int 5, .int 6, .int 7, .int 8, .int 9, .int 10, .int 11, .int 12, .int 13, .int 14, .int 15, .int 16, .int 17, .int 18, .int 19, .int 20, .int 21, .int 22, .int 23, .int 24, .int 25, .int 26, .int 27, .int 28, .int 29, .int 30, .int 31, .int 32, .int 33, .int 34, .int 35, .int 36, .int 37, .int 38, .int 39, .int 40, .int 41, .int 42, .int 43, .int 44, .int 45, .int 46, .int 47, .int 48, .int 49, .int 50, .int 51, .int 52, .int 53, .int 54, .int 55, .int 56, .int 57, .int 58, .int 59, .int 60, .int 61, .int 62, .int 63] [s0, .val everyD, .val rulesD, s3, s4, s5, .un, .un, .un, .un, .un, .un] [] = .ok (.nx [s0, .val everyD, .val rulesD, .val (.int 63), .val (itemD rulesD 63), .val (itemD rulesD 63), .un, .un, .un, .un, .un, .un]) [] := (lp_cons rfl rfl (q_1 s0 s4 s5)).trans (l_2 ..)
theorem l_0 (s0 s3 s4 s5 : Sl) : loopD (.one 3) .fz B_law_10 [.int 0, .int 1, .int 2, .int 3, .int 4, .int 5, .int 6, .int 7, .int 8, .int 9, .int 10, .int 11, .int 12, .int 13, .int 14, .int 15, .int 16, .int 17, .int 18, .int 19, .int 20, .int 21, .int 22, .int 23, .int 24, .int 25, .int 26, .int 27, .int 28, .int 29, .int 30, .int 31, .int 32, .int 33, .int 34, .int 35, .int 36, .int 37, .int 38, .int 39, .int 40, .int 41, .int 42, .int 43, .int 44, .int 45, .int 46, .int 47, .int 48, .int 49, .int 50, .int 51, .int 52, .int 53, .int 54, .int 55, .int 56, .int 57, .int 58, .int 59, .int 60, .int 61, .int 62, .int 63] [s0, .val everyD, .val rulesD, s3, s4, s5, .un, .un, .un, .un, .un, .un] [] = .ok (.nx [s0, .val everyD, .val rulesD, .val (.int 63), .val (itemD rulesD 63), .val (itemD rulesD 63), .un, .un, .un, .un, .un, .un]) [] := (lp_cons rfl rfl (q_0 s0 s4 s5)).trans (l_1 ..)
theorem f11 (s0 : Sl) : F_law_11 [s0, .val everyD, .val rulesD, .un, .un, .un, .un, .un, .un, .un, .un, .un] [] = .ok (.nx [s0, .val everyD, .val rulesD, .val (.int 63), .val (itemD rulesD 63), .val (itemD rulesD 63), .un, .un, .un, .un, .un, .un]) [] := by
  unfold F_law_11
  exact sFor_of (f11i s0) rfl (l_0 s0 .un .un .un)
end HT.Lk20
set_option Elab.async false
set_option linter.all false
set_option maxRecDepth 1000000
set_option maxHeartbeats 0
namespace HT.Lk20
open PySem PySem.Spec L2
open PyProof.Rows hiding St
def kc : CO := .lst [.str "keep", .str "more", .str "more"]
def ec : CO := .lst [.str "more", .str "more"]
def oddD (n : Nat) (a b : D) : D := .lst [.non, .int 3, .str "", .str "Keep", .str "none", .cell n, .tup [.str "keep"], .dK [], .int 0, .int 1, .str "True", .cell (n + 1), a, b]
theorem at_1_0 (s0 s1 s2 s4 s5 s6 s8 s9 s10 s11 : Sl) (a : D) (b : D) (x : D) (c : D) (y : D) (c0 : CO) : B_law_26 [s0, s1, s2, .val (.int 0), s4, s5, s6, .val (.tup [a, b, x, c, y]), s8, s9, s10, s11] [c0] =
    .ok (.nx [s0, s1, s2, .val (.int 0), s4, s5, s6, .val (.tup [a, b, x, c, y]), s8, .val (oddD 1 (.str "things") (.bl true)), .val (.bl true), s11]) [c0, kc, ec] := by
  kernel_rfl
theorem at_3_1 (s0 s1 s2 s4 s5 s6 s8 s9 s10 s11 : Sl) (a : Str) (b : D) (x : D) (c : D) (y : D) (c0 c1 c2 : CO) (ha : a ∈ owns) : B_law_26 [s0, s1, s2, .val (.int 1), s4, s5, s6, .val (.tup [.str a, b, x, c, y]), s8, s9, s10, s11] [c0, c1, c2] =
    .ok (.nx [s0, s1, s2, .val (.int 1), s4, s5, s6, .val (.tup [.str a, b, x, c, y]), s8, .val (oddD 3 (.str "add") (.bl false)), .val (.bl false), s11]) [c0, c1, c2, kc, ec] := by
  have ha2 : a = "keep" ∨ a = "leave" ∨ a = "add" ∨ a = "only" := by simpa [owns] using ha
  rcases ha2 with rfl | rfl | rfl | rfl <;> kernel_rfl
theorem at_5_2 (s0 s1 s2 s4 s5 s6 s8 s9 s10 s11 : Sl) (a : Str) (b : Str) (x : D) (c : D) (y : D) (c0 c1 c2 c3 c4 : CO) (ha : a ∈ owns) (hb : b ∈ othersL) : B_law_26 [s0, s1, s2, .val (.int 2), s4, s5, s6, .val (.tup [.str a, .str b, x, c, y]), s8, s9, s10, s11] [c0, c1, c2, c3, c4] =
    .ok (.nx [s0, s1, s2, .val (.int 2), s4, s5, s6, .val (.tup [.str a, .str b, x, c, y]), s8, .val (oddD 5 (.str "things") (.str "keep")), .val (.str "keep"), s11]) [c0, c1, c2, c3, c4, kc, ec] := by
  have ha2 : a = "keep" ∨ a = "leave" ∨ a = "add" ∨ a = "only" := by simpa [owns] using ha
  have hb2 : b = "keep" ∨ b = "leave" := by simpa [othersL] using hb
  rcases ha2 with rfl | rfl | rfl | rfl <;> rcases hb2 with rfl | rfl <;> kernel_rfl
theorem at_7_3 (s0 s1 s2 s4 s5 s6 s8 s9 s10 s11 : Sl) (a : Str) (b : Str) (x : Bool) (c : D) (y : D) (c0 c1 c2 c3 c4 c5 c6 : CO) (ha : a ∈ owns) (hb : b ∈ othersL) : B_law_26 [s0, s1, s2, .val (.int 3), s4, s5, s6, .val (.tup [.str a, .str b, .bl x, c, y]), s8, s9, s10, s11] [c0, c1, c2, c3, c4, c5, c6] =
    .ok (.nx [s0, s1, s2, .val (.int 3), s4, s5, s6, .val (.tup [.str a, .str b, .bl x, c, y]), s8, .val (oddD 7 (.str "keep") (.bl true)), .val (.bl true), s11]) [c0, c1, c2, c3, c4, c5, c6, kc, ec] := by
  have ha2 : a = "keep" ∨ a = "leave" ∨ a = "add" ∨ a = "only" := by simpa [owns] using ha
  have hb2 : b = "keep" ∨ b = "leave" := by simpa [othersL] using hb
  rcases ha2 with rfl | rfl | rfl | rfl <;> rcases hb2 with rfl | rfl <;> cases x <;> kernel_rfl
theorem at_9_4 (s0 s1 s2 s4 s5 s6 s8 s9 s10 s11 : Sl) (a : Str) (b : Str) (x : Bool) (c : Str) (y : D) (c0 c1 c2 c3 c4 c5 c6 c7 c8 : CO) (ha : a ∈ owns) (hb : b ∈ othersL) (hc : c ∈ countsL) : B_law_26 [s0, s1, s2, .val (.int 4), s4, s5, s6, .val (.tup [.str a, .str b, .bl x, .str c, y]), s8, s9, s10, s11] [c0, c1, c2, c3, c4, c5, c6, c7, c8] =
    .ok (.nx [s0, s1, s2, .val (.int 4), s4, s5, s6, .val (.tup [.str a, .str b, .bl x, .str c, y]), s8, .val (oddD 9 (.str "keep") (.str "models")), .val (.str "models"), s11]) [c0, c1, c2, c3, c4, c5, c6, c7, c8, kc, ec] := by
  have ha2 : a = "keep" ∨ a = "leave" ∨ a = "add" ∨ a = "only" := by simpa [owns] using ha
  have hb2 : b = "keep" ∨ b = "leave" := by simpa [othersL] using hb
  have hc2 : c = "things" ∨ c = "models" := by simpa [countsL] using hc
  rcases ha2 with rfl | rfl | rfl | rfl <;> rcases hb2 with rfl | rfl <;> cases x <;> rcases hc2 with rfl | rfl <;> kernel_rfl
theorem at_12_0 (s0 s1 s2 s4 s5 s6 s8 s9 s10 s11 : Sl) (a : D) (b : D) (x : D) (c : D) (y : D) (c0 c1 c2 c3 c4 c5 c6 c7 c8 c9 c10 c11 : CO) : B_law_26 [s0, s1, s2, .val (.int 0), s4, s5, s6, .val (.tup [a, b, x, c, y]), s8, s9, s10, s11] [c0, c1, c2, c3, c4, c5, c6, c7, c8, c9, c10, c11] =
    .ok (.nx [s0, s1, s2, .val (.int 0), s4, s5, s6, .val (.tup [a, b, x, c, y]), s8, .val (oddD 12 (.str "things") (.bl true)), .val (.bl true), s11]) [c0, c1, c2, c3, c4, c5, c6, c7, c8, c9, c10, c11, kc, ec] := by
  kernel_rfl
theorem at_14_1 (s0 s1 s2 s4 s5 s6 s8 s9 s10 s11 : Sl) (a : Str) (b : D) (x : D) (c : D) (y : D) (c0 c1 c2 c3 c4 c5 c6 c7 c8 c9 c10 c11 c12 c13 : CO) (ha : a ∈ owns) : B_law_26 [s0, s1, s2, .val (.int 1), s4, s5, s6, .val (.tup [.str a, b, x, c, y]), s8, s9, s10, s11] [c0, c1, c2, c3, c4, c5, c6, c7, c8, c9, c10, c11, c12, c13] =
    .ok (.nx [s0, s1, s2, .val (.int 1), s4, s5, s6, .val (.tup [.str a, b, x, c, y]), s8, .val (oddD 14 (.str "add") (.bl false)), .val (.bl false), s11]) [c0, c1, c2, c3, c4, c5, c6, c7, c8, c9, c10, c11, c12, c13, kc, ec] := by
  have ha2 : a = "keep" ∨ a = "leave" ∨ a = "add" ∨ a = "only" := by simpa [owns] using ha
  rcases ha2 with rfl | rfl | rfl | rfl <;> kernel_rfl
theorem at_16_2 (s0 s1 s2 s4 s5 s6 s8 s9 s10 s11 : Sl) (a : Str) (b : Str) (x : D) (c : D) (y : D) (c0 c1 c2 c3 c4 c5 c6 c7 c8 c9 c10 c11 c12 c13 c14 c15 : CO) (ha : a ∈ owns) (hb : b ∈ othersL) : B_law_26 [s0, s1, s2, .val (.int 2), s4, s5, s6, .val (.tup [.str a, .str b, x, c, y]), s8, s9, s10, s11] [c0, c1, c2, c3, c4, c5, c6, c7, c8, c9, c10, c11, c12, c13, c14, c15] =
    .ok (.nx [s0, s1, s2, .val (.int 2), s4, s5, s6, .val (.tup [.str a, .str b, x, c, y]), s8, .val (oddD 16 (.str "things") (.str "keep")), .val (.str "keep"), s11]) [c0, c1, c2, c3, c4, c5, c6, c7, c8, c9, c10, c11, c12, c13, c14, c15, kc, ec] := by
  have ha2 : a = "keep" ∨ a = "leave" ∨ a = "add" ∨ a = "only" := by simpa [owns] using ha
  have hb2 : b = "keep" ∨ b = "leave" := by simpa [othersL] using hb
  rcases ha2 with rfl | rfl | rfl | rfl <;> rcases hb2 with rfl | rfl <;> kernel_rfl
theorem at_18_3 (s0 s1 s2 s4 s5 s6 s8 s9 s10 s11 : Sl) (a : Str) (b : Str) (x : Bool) (c : D) (y : D) (c0 c1 c2 c3 c4 c5 c6 c7 c8 c9 c10 c11 c12 c13 c14 c15 c16 c17 : CO) (ha : a ∈ owns) (hb : b ∈ othersL) : B_law_26 [s0, s1, s2, .val (.int 3), s4, s5, s6, .val (.tup [.str a, .str b, .bl x, c, y]), s8, s9, s10, s11] [c0, c1, c2, c3, c4, c5, c6, c7, c8, c9, c10, c11, c12, c13, c14, c15, c16, c17] =
    .ok (.nx [s0, s1, s2, .val (.int 3), s4, s5, s6, .val (.tup [.str a, .str b, .bl x, c, y]), s8, .val (oddD 18 (.str "keep") (.bl true)), .val (.bl true), s11]) [c0, c1, c2, c3, c4, c5, c6, c7, c8, c9, c10, c11, c12, c13, c14, c15, c16, c17, kc, ec] := by
  have ha2 : a = "keep" ∨ a = "leave" ∨ a = "add" ∨ a = "only" := by simpa [owns] using ha
  have hb2 : b = "keep" ∨ b = "leave" := by simpa [othersL] using hb
  rcases ha2 with rfl | rfl | rfl | rfl <;> rcases hb2 with rfl | rfl <;> cases x <;> kernel_rfl
theorem at_20_4 (s0 s1 s2 s4 s5 s6 s8 s9 s10 s11 : Sl) (a : Str) (b : Str) (x : Bool) (c : Str) (y : D) (c0 c1 c2 c3 c4 c5 c6 c7 c8 c9 c10 c11 c12 c13 c14 c15 c16 c17 c18 c19 : CO) (ha : a ∈ owns) (hb : b ∈ othersL) (hc : c ∈ countsL) : B_law_26 [s0, s1, s2, .val (.int 4), s4, s5, s6, .val (.tup [.str a, .str b, .bl x, .str c, y]), s8, s9, s10, s11] [c0, c1, c2, c3, c4, c5, c6, c7, c8, c9, c10, c11, c12, c13, c14, c15, c16, c17, c18, c19] =
    .ok (.nx [s0, s1, s2, .val (.int 4), s4, s5, s6, .val (.tup [.str a, .str b, .bl x, .str c, y]), s8, .val (oddD 20 (.str "keep") (.str "models")), .val (.str "models"), s11]) [c0, c1, c2, c3, c4, c5, c6, c7, c8, c9, c10, c11, c12, c13, c14, c15, c16, c17, c18, c19, kc, ec] := by
  have ha2 : a = "keep" ∨ a = "leave" ∨ a = "add" ∨ a = "only" := by simpa [owns] using ha
  have hb2 : b = "keep" ∨ b = "leave" := by simpa [othersL] using hb
  have hc2 : c = "things" ∨ c = "models" := by simpa [countsL] using hc
  rcases ha2 with rfl | rfl | rfl | rfl <;> rcases hb2 with rfl | rfl <;> cases x <;> rcases hc2 with rfl | rfl <;> kernel_rfl
end HT.Lk20
set_option Elab.async false
set_option linter.all false
set_option maxRecDepth 1000000
set_option maxHeartbeats 0
namespace HT.Lk20
open PySem PySem.Spec L2
open PyProof.Rows hiding St
def ruleD (a b : Str) (x : Bool) (c : Str) (y : Bool) : D := match M__law_made_rule [.tup [.str a, .str b, .bl x, .str c, .bl y]] [] with | .ok d _ => d | _ => .non
theorem r13 (s0 s1 s2 s3 s4 s5 s6 s8 s9 s10 s11 : Sl) (S : Sto) (a : Str) (b : Str) (x : Bool) (c : Str) (y : Bool) (ha : a ∈ owns) (hb : b ∈ othersL) (hc : c ∈ countsL) : F_law_13 [s0, s1, s2, s3, s4, s5, s6, .val (.tup [.str a, .str b, .bl x, .str c, .bl y]), s8, s9, s10, s11] S = .ok (.nx [s0, s1, s2, s3, .val (ruleD a b x c y), s5, s6, .val (.tup [.str a, .str b, .bl x, .str c, .bl y]), s8, s9, s10, s11]) S := by
  have ha2 : a = "keep" ∨ a = "leave" ∨ a = "add" ∨ a = "only" := by simpa [owns] using ha
  have hb2 : b = "keep" ∨ b = "leave" := by simpa [othersL] using hb
  have hc2 : c = "things" ∨ c = "models" := by simpa [countsL] using hc
  rcases ha2 with rfl | rfl | rfl | rfl <;> rcases hb2 with rfl | rfl <;> cases x <;> rcases hc2 with rfl | rfl <;> cases y <;> kernel_rfl
theorem r17 (s0 s1 s2 s3 s5 s6 s8 s9 s10 s11 : Sl) (S : Sto) (a : Str) (b : Str) (x : Bool) (c : Str) (y : Bool) (ha : a ∈ owns) (hb : b ∈ othersL) (hc : c ∈ countsL) : F_law_17 [s0, s1, s2, s3, .val (ruleD a b x c y), s5, s6, .val (.tup [.str a, .str b, .bl x, .str c, .bl y]), s8, s9, s10, s11] S = .ok (.nx [s0, s1, s2, s3, .val (ruleD a b x c y), s5, s6, .val (.tup [.str a, .str b, .bl x, .str c, .bl y]), .val (.bl true), s9, s10, s11]) S := by
  have ha2 : a = "keep" ∨ a = "leave" ∨ a = "add" ∨ a = "only" := by simpa [owns] using ha
  have hb2 : b = "keep" ∨ b = "leave" := by simpa [othersL] using hb
  have hc2 : c = "things" ∨ c = "models" := by simpa [countsL] using hc
  rcases ha2 with rfl | rfl | rfl | rfl <;> rcases hb2 with rfl | rfl <;> cases x <;> rcases hc2 with rfl | rfl <;> cases y <;> kernel_rfl
end HT.Lk20
set_option Elab.async false
set_option linter.all false
set_option maxRecDepth 1000000
set_option maxHeartbeats 0
namespace HT.Lk20
open PySem PySem.Spec L2
open PyProof.Rows hiding St
theorem lp_cons2 {b : Bd} {src : Src} {body : FS} {d : D} {ds : List D} {env env1 e : Env} {S S' : Sto} (hc : chk src S = true) (hb : bindE b d env = some env1) (h : body env1 S = .ok (.nx e) S') : loopD b src body (d :: ds) env S = loopD b src body ds e S' := by
  show (if chk src S = true then _ else _) = _
  rw [if_pos hc, hb]
  dsimp only
  rw [h]
theorem f12 {k i d : D} {n : Nat} {S S1 S2 : Sto} (s1 s2 s3 s4 s5 s7 s8 s9 s10 s11 : Sl) (eg : M__law_generator [k, i] S = .ok (.cell n) S1) (ep : M__law_rule_parts [.cell n] S1 = .ok d S2) : F_law_12 [.val k, s1, s2, s3, s4, s5, .val i, s7, s8, s9, s10, s11] S = .ok (.nx [.val k, s1, s2, s3, s4, s5, .val i, .val d, s8, s9, s10, s11]) S2 := by
  have i1 : fCall M__law_generator [] (aCons (fVar 0) (aCons (fVar 6) aNil)) [.val k, s1, s2, s3, s4, s5, .val i, s7, s8, s9, s10, s11] S = .ok (.cell n) S1 := by
    show (R.ok [k, i] S).bnd (fun xs => M__law_generator (xs ++ [])) = _
    rw [bnd_ok]
    exact eg
  have i2 : fCall M__law_rule_parts [] (aCons (fCall M__law_generator [] (aCons (fVar 0) (aCons (fVar 6) aNil))) aNil) [.val k, s1, s2, s3, s4, s5, .val i, s7, s8, s9, s10, s11] S = .ok d S2 := by
    show ((fCall M__law_generator [] (aCons (fVar 0) (aCons (fVar 6) aNil)) [.val k, s1, s2, s3, s4, s5, .val i, s7, s8, s9, s10, s11] S).bnd fun x S1 => (R.ok ([] : List D) S1).bnd fun xs S2 => R.ok (x :: xs) S2).bnd (fun xs => M__law_rule_parts (xs ++ [])) = _
    rw [i1]
    exact ep
  unfold F_law_12 sSet
  rw [i2]
  rfl
theorem f27_0 (s0 s1 s2 s3 s4 s5 s6 s8 s9 s10 s11 : Sl) (a : Str) (b : Str) (x : Bool) (c : Str) (y : Bool) (ha : a ∈ owns) (hb : b ∈ othersL) (hc : c ∈ countsL) (c0 : CO) : F_law_27 [s0, s1, s2, s3, s4, s5, s6, .val (.tup [.str a, .str b, .bl x, .str c, .bl y]), s8, s9, s10, s11] [c0] =
    .ok (.nx [s0, s1, s2, .val (.int 4), s4, s5, s6, .val (.tup [.str a, .str b, .bl x, .str c, .bl y]), s8, .val (oddD 9 (.str "keep") (.str "models")), .val (.str "models"), s11]) [c0, kc, ec, kc, ec, kc, ec, kc, ec, kc, ec] := by
  have it : iRg1 (aCons (fun _ => pure (.int 5)) aNil) [s0, s1, s2, s3, s4, s5, s6, .val (.tup [.str a, .str b, .bl x, .str c, .bl y]), s8, s9, s10, s11] [c0] = .ok ([.int 0, .int 1, .int 2, .int 3, .int 4], .fz) [c0] := by kernel_rfl
  unfold F_law_27 sFor
  rw [it]
  show loopD (.one 3) .fz B_law_26 [.int 0, .int 1, .int 2, .int 3, .int 4] [s0, s1, s2, s3, s4, s5, s6, .val (.tup [.str a, .str b, .bl x, .str c, .bl y]), s8, s9, s10, s11] [c0] = _
  exact (lp_cons2 rfl rfl (at_1_0 ..)).trans ((lp_cons2 rfl rfl (at_3_1 (ha := ha) ..)).trans ((lp_cons2 rfl rfl (at_5_2 (ha := ha) (hb := hb) ..)).trans ((lp_cons2 rfl rfl (at_7_3 (ha := ha) (hb := hb) ..)).trans ((lp_cons2 rfl rfl (at_9_4 (ha := ha) (hb := hb) (hc := hc) ..)).trans (rfl)))))
theorem turn_0 (ns : List Int) (s1 s2 s3 s4 s5 s7 s8 s9 s10 s11 : Sl) : ∃ (s3' s4' s7' s8' s9' s10' : Sl) (d0 d1 d2 d3 d4 d5 d6 d7 d8 d9 d10 : CO), B_law_28 [.val (.klst (ns.map .int)), s1, s2, s3, s4, s5, .val (.int 0), s7, s8, s9, s10, s11] [] = .ok (.nx [.val (.klst (ns.map .int)), s1, s2, s3', s4', s5, .val (.int 0), s7', s8', s9', s10', s11]) [d0, d1, d2, d3, d4, d5, d6, d7, d8, d9, d10] := by
  obtain ⟨g0, g1, eg, a0, a1, a2⟩ := gen_ok ns 0 (by decide) []
  obtain ⟨a, b, x, c, y, co, ep, ha, hb, hc⟩ := parts_ok (k := 0) (S := [.lst [.int g0, .int g1, .int 0]]) (lo := 0) (hi := 0) ⟨g0, 0, rfl, a0, by decide, by decide⟩ ⟨a1, a2⟩ (by decide) (by decide)
  have ep2 : M__law_rule_parts [.cell 0] [.lst [.int g0, .int g1, .int 0]] = .ok (.tup [.str a, .str b, .bl x, .str c, .bl y]) [co] := ep
  have eg2 : M__law_generator [.klst (ns.map .int), .int 0] [] = .ok (.cell 0) [.lst [.int g0, .int g1, .int 0]] := eg
  refine ⟨.val (.int 4), .val (ruleD a b x c y), .val (.tup [.str a, .str b, .bl x, .str c, .bl y]), .val (.bl true), .val (oddD 9 (.str "keep") (.str "models")), .val (.str "models"), co, kc, ec, kc, ec, kc, ec, kc, ec, kc, ec, ?_⟩
  unfold B_law_28
  rw [seq_nx (f12 s1 s2 s3 s4 s5 s7 s8 s9 s10 s11 eg2 ep2), seq_nx (r13 _ _ _ _ _ _ _ _ _ _ _ _ a b x c y ha hb hc), seq_nx (r17 _ _ _ _ _ _ _ _ _ _ _ a b x c y ha hb hc)]
  exact f27_0 _ _ _ _ _ _ _ _ _ _ _ a b x c y ha hb hc co
theorem f27_1 (s0 s1 s2 s3 s4 s5 s6 s8 s9 s10 s11 : Sl) (a : Str) (b : Str) (x : Bool) (c : Str) (y : Bool) (ha : a ∈ owns) (hb : b ∈ othersL) (hc : c ∈ countsL) (c0 c1 c2 c3 c4 c5 c6 c7 c8 c9 c10 c11 : CO) : F_law_27 [s0, s1, s2, s3, s4, s5, s6, .val (.tup [.str a, .str b, .bl x, .str c, .bl y]), s8, s9, s10, s11] [c0, c1, c2, c3, c4, c5, c6, c7, c8, c9, c10, c11] =
    .ok (.nx [s0, s1, s2, .val (.int 4), s4, s5, s6, .val (.tup [.str a, .str b, .bl x, .str c, .bl y]), s8, .val (oddD 20 (.str "keep") (.str "models")), .val (.str "models"), s11]) [c0, c1, c2, c3, c4, c5, c6, c7, c8, c9, c10, c11, kc, ec, kc, ec, kc, ec, kc, ec, kc, ec] := by
  have it : iRg1 (aCons (fun _ => pure (.int 5)) aNil) [s0, s1, s2, s3, s4, s5, s6, .val (.tup [.str a, .str b, .bl x, .str c, .bl y]), s8, s9, s10, s11] [c0, c1, c2, c3, c4, c5, c6, c7, c8, c9, c10, c11] = .ok ([.int 0, .int 1, .int 2, .int 3, .int 4], .fz) [c0, c1, c2, c3, c4, c5, c6, c7, c8, c9, c10, c11] := by kernel_rfl
  unfold F_law_27 sFor
  rw [it]
  show loopD (.one 3) .fz B_law_26 [.int 0, .int 1, .int 2, .int 3, .int 4] [s0, s1, s2, s3, s4, s5, s6, .val (.tup [.str a, .str b, .bl x, .str c, .bl y]), s8, s9, s10, s11] [c0, c1, c2, c3, c4, c5, c6, c7, c8, c9, c10, c11] = _
  exact (lp_cons2 rfl rfl (at_12_0 ..)).trans ((lp_cons2 rfl rfl (at_14_1 (ha := ha) ..)).trans ((lp_cons2 rfl rfl (at_16_2 (ha := ha) (hb := hb) ..)).trans ((lp_cons2 rfl rfl (at_18_3 (ha := ha) (hb := hb) ..)).trans ((lp_cons2 rfl rfl (at_20_4 (ha := ha) (hb := hb) (hc := hc) ..)).trans (rfl)))))
theorem turn_1 (ns : List Int) (s1 s2 s3 s4 s5 s7 s8 s9 s10 s11 : Sl) (c0 c1 c2 c3 c4 c5 c6 c7 c8 c9 c10 : CO) : ∃ (s3' s4' s7' s8' s9' s10' : Sl) (d0 d1 d2 d3 d4 d5 d6 d7 d8 d9 d10 d11 d12 d13 d14 d15 d16 d17 d18 d19 d20 d21 : CO), B_law_28 [.val (.klst (ns.map .int)), s1, s2, s3, s4, s5, .val (.int 1), s7, s8, s9, s10, s11] [c0, c1, c2, c3, c4, c5, c6, c7, c8, c9, c10] = .ok (.nx [.val (.klst (ns.map .int)), s1, s2, s3', s4', s5, .val (.int 1), s7', s8', s9', s10', s11]) [d0, d1, d2, d3, d4, d5, d6, d7, d8, d9, d10, d11, d12, d13, d14, d15, d16, d17, d18, d19, d20, d21] := by
  obtain ⟨g0, g1, eg, a0, a1, a2⟩ := gen_ok ns 1 (by decide) [c0, c1, c2, c3, c4, c5, c6, c7, c8, c9, c10]
  obtain ⟨a, b, x, c, y, co, ep, ha, hb, hc⟩ := parts_ok (k := 11) (S := [c0, c1, c2, c3, c4, c5, c6, c7, c8, c9, c10, .lst [.int g0, .int g1, .int 1000]]) (lo := 1000) (hi := 1000) ⟨g0, 1000, rfl, a0, by decide, by decide⟩ ⟨a1, a2⟩ (by decide) (by decide)
  have ep2 : M__law_rule_parts [.cell 11] [c0, c1, c2, c3, c4, c5, c6, c7, c8, c9, c10, .lst [.int g0, .int g1, .int 1000]] = .ok (.tup [.str a, .str b, .bl x, .str c, .bl y]) [c0, c1, c2, c3, c4, c5, c6, c7, c8, c9, c10, co] := ep
  have eg2 : M__law_generator [.klst (ns.map .int), .int 1] [c0, c1, c2, c3, c4, c5, c6, c7, c8, c9, c10] = .ok (.cell 11) [c0, c1, c2, c3, c4, c5, c6, c7, c8, c9, c10, .lst [.int g0, .int g1, .int 1000]] := eg
  refine ⟨.val (.int 4), .val (ruleD a b x c y), .val (.tup [.str a, .str b, .bl x, .str c, .bl y]), .val (.bl true), .val (oddD 20 (.str "keep") (.str "models")), .val (.str "models"), c0, c1, c2, c3, c4, c5, c6, c7, c8, c9, c10, co, kc, ec, kc, ec, kc, ec, kc, ec, kc, ec, ?_⟩
  unfold B_law_28
  rw [seq_nx (f12 s1 s2 s3 s4 s5 s7 s8 s9 s10 s11 eg2 ep2), seq_nx (r13 _ _ _ _ _ _ _ _ _ _ _ _ a b x c y ha hb hc), seq_nx (r17 _ _ _ _ _ _ _ _ _ _ _ a b x c y ha hb hc)]
  exact f27_1 _ _ _ _ _ _ _ _ _ _ _ a b x c y ha hb hc c0 c1 c2 c3 c4 c5 c6 c7 c8 c9 c10 co
theorem f29 (ns : List Int) (s1 s2 s3 s4 s5 s6 s7 s8 s9 s10 s11 : Sl) : ∃ e S', F_law_29 [.val (.klst (ns.map .int)), s1, s2, s3, s4, s5, s6, s7, s8, s9, s10, s11] [] = .ok (.nx e) S' := by
  obtain ⟨s3', s4', s7', s8', s9', s10', d0, d1, d2, d3, d4, d5, d6, d7, d8, d9, d10, e0⟩ := turn_0 ns s1 s2 s3 s4 s5 s7 s8 s9 s10 s11
  obtain ⟨t3, t4, t7, t8, t9, t10, e0_, e1_, e2_, e3_, e4_, e5_, e6_, e7_, e8_, e9_, e10_, e11_, e12_, e13_, e14_, e15_, e16_, e17_, e18_, e19_, e20_, e21_, e1⟩ := turn_1 ns s1 s2 s3' s4' s5 s7' s8' s9' s10' s11 d0 d1 d2 d3 d4 d5 d6 d7 d8 d9 d10
  have it : iRg1 (aCons (fun _ => pure (.int 2)) aNil) [.val (.klst (ns.map .int)), s1, s2, s3, s4, s5, s6, s7, s8, s9, s10, s11] [] = .ok ([.int 0, .int 1], .fz) [] := by kernel_rfl
  refine ⟨[.val (.klst (ns.map .int)), s1, s2, t3, t4, s5, .val (.int 1), t7, t8, t9, t10, s11], [e0_, e1_, e2_, e3_, e4_, e5_, e6_, e7_, e8_, e9_, e10_, e11_, e12_, e13_, e14_, e15_, e16_, e17_, e18_, e19_, e20_, e21_], ?_⟩
  unfold F_law_29 sFor
  rw [it]
  show loopD (.one 6) .fz B_law_28 [.int 0, .int 1] [.val (.klst (ns.map .int)), s1, s2, s3, s4, s5, s6, s7, s8, s9, s10, s11] [] = _
  exact (lp_cons2 rfl rfl e0).trans ((lp_cons2 rfl rfl e1).trans rfl)
end HT.Lk20
set_option Elab.async false
set_option linter.all false
set_option maxRecDepth 1000000
set_option maxHeartbeats 0
namespace HT.Lk20
open PySem PySem.Spec L2
open PyProof.Rows hiding St
theorem mkM_rt {np n : Nat} {F : FS} {ds : List D} {env : Env} {S S' : Sto} {d : D} (h : ds.length = np) (he : ds.map .val ++ List.replicate (n - np) .un = env) (hF : F env S = .ok (.rt d) S') : mkM np n F ds S = .ok d S' := by
  subst h
  subst he
  unfold mkM
  simp [hF]
theorem plain (ns : List Int) (h : ns.length ≤ 63) : ∃ S', M_law [.klst (ns.map .int)] [] = .ok (.bl true) S' := by
  obtain ⟨e, S', h29⟩ := f29 ns (.val everyD) (.val rulesD) (.val (.int 63)) (.val (itemD rulesD 63)) (.val (itemD rulesD 63)) .un .un .un .un .un .un
  have h30 : F_law_30 e S' = .ok (.rt (.bl true)) S' := rfl
  have all : sSeq F_law_0 (sSeq F_law_1 (sSeq F_law_11 (sSeq F_law_29 F_law_30))) [.val (.klst (ns.map .int)), .un, .un, .un, .un, .un, .un, .un, .un, .un, .un, .un] [] = .ok (.rt (.bl true)) S' :=
    (seq_nx (f0 _)).trans ((seq_nx (f1_ _)).trans ((seq_nx (f11 _)).trans ((seq_nx h29).trans h30)))
  have he : ([D.klst (ns.map .int)] : List D).map Sl.val ++ List.replicate (12 - 1) Sl.un = [.val (.klst (ns.map .int)), .un, .un, .un, .un, .un, .un, .un, .un, .un, .un, .un] := rfl
  refine ⟨S', ?_⟩
  unfold M_law
  exact mkM_rt rfl he all
end HT.Lk20
set_option Elab.async false
set_option linter.all false
set_option maxRecDepth 100000
set_option maxHeartbeats 4000000
namespace HT.Lk20
open PySem PySem.Spec L2
open PyProof.Rows hiding St
end HT.Lk20
open PySem PySem.W PySem.Calls PyProof.Rows
theorem PySem.Challenge.cw_tickcounts_k20_rules_made_holds : PySem.Challenge.rw_tickcounts_k20_rules_made.Holds := by
  w_on; o_law
  refine HandSHeadRun.head_any (r := HT.Lk20.R0) (q := view HT.Lk20.R0.prog [19]) (H := HT.Lk20.hk) (ob := HT.Lk20.ob) (M := 4000) (loose := ["TickError", "InvalidWord", "check_word", "check_flag", "Rule", "_law_cell", "_law_hash", "_law_generator", "_law_random", "_law_rule_parts", "_law_made_rule", "_law_all_rules", "_law_caught", "OWN", "OTHERS", "COUNTS"]) (d := HandSHeadRun.topDef HT.Lk20.R0.prog 19) (kwd := []) HT.Lk20.ob_eq
    (by kernel_rfl) (fun s => by kernel_rfl) HT.Lk20.run (by kernel_rfl) (by kernel_rfl) (by kernel_rfl) (by rfl) (by first | assumption | decide +kernel) (by decide +kernel) ⟨rfl, rfl, rfl, rfl, rfl, by decide +kernel⟩ ?hw ?hc
  case hw => w_witness2
  case hc =>
    refine HT.walk_T (l := PySem.Challenge.rw_tickcounts_k20_rules_made) (n := 63) (k := 9) (x := "script") rfl (by decide) (by kernel_rfl) ⟨⟨rfl, by decide, by decide⟩, rfl⟩ ?F
    intro w mg fa h Y G hmg0
    obtain ⟨K, KX, c⟩ := Y
    have hmg : mg ("law" : PySem.Str) = some (.ref fa) := by
      have e : (HandSHeadRun.topDef HT.Lk20.R0.prog 19).name = ("law" : PySem.Str) := by kernel_rfl
      rw [← e]
      exact hmg0
    obtain ⟨x⟩ := HT.Lk20.facts KX G c
    have e := hmg.symm.trans x.g_law
    cases e
    exact ⟨K, x.fd_law, He.ga K, HT.Lk20.M_law, KX, fun s u => x.d_law.bindsA (ps := ["script"]) (fun _ _ _ _ _ _ us hl => match us, hl with | [_], _ => rfl) s [u] rfl, HT.Lk20.plain, fun base _ _ => HT.Lk20.ft_law x⟩
