import PyProof.Rows.All
import Wide.All
import OpenK.AllK
import Wide.FinOn
import HandS.ForMost
import HandS.ForExc
import HandS.Wide
import HandS.TupAny
import HandS.TupMul
import HandS.Deep
import HandS.Style
import HandS.SortKw
import HandS.IsInst
import HandS.Strs
import HandS.Flow
import HandS.Defaults
import HandS.Exc
import HandS.ExcOwn
import HandS.Lambda
import KE.KExcSuper
import KE.KExcIs
import HandS.ExcInit
import HandS.ExcValue
import HandS.ExcSuper
import HandS.ExcIs
import HandS.ExcField
import HandS.Ends
import HandS.HeadEnd
import HandS.OwnEq
import PyProof.ReprRoads
import HandS.WideBits
import HandS.HeadHook1
import HandS.HeadHook2
import KE.GoesEnum
import KE.GoesEnumKw
import HandS.Set
import HandS.SetFor
import HandS.More
import HandS.RaiseMore
import HandS.Star
import KE.SortData
import HandS.Comp
import HandS.TupLe
import HandS.Dict
import HandS.NamedTupGet
import HandS.Conv
import HandS.FStr
import HandS.ReplaceLit
import HandS.Head0
import HandS.Head1
import HandS.Head2
import HandS.Words
import PySem.Challenge.RW_tickcounts_k45_shops_written_and_read
import KE.KStateDown
import HandS.ReplaceList
set_option Elab.async false
set_option linter.all false
set_option maxRecDepth 100000
set_option maxHeartbeats 4000000
namespace HT
open PySem PySem.Spec L2
inductive D where
  | non | bl (b : Bool) | int (i : Int) | str (x : Str)
  | lst (xs : List D) | tup (xs : List D) | klst (xs : List D)
  | obj (C : Str) (fs : List (Str × D))
  | exn (C : Str) (fs : List (Str × D))
  | dK (kvs : List (Key × D)) | dT (kvs : List (List Key × D))
  | cell (k : Nat) | glob (x : Str) | ty (n : String)
inductive CO where
  | lst (xs : List D) | dK (kvs : List (Key × D)) | dT (kvs : List (List Key × D)) | ins (C : Str) (fs : List (Str × D))
abbrev Sto := List CO
inductive Sl where
  | un | val (d : D) | own (c : CO) | slf (c : CO)
abbrev Env := List Sl
inductive R (α : Type) where
  | ok (a : α) (S : Sto) | exc (C : Str) (fs : List (Str × D)) (S : Sto) | stuck
abbrev Cm (α : Type) := Sto → R α
def R.bnd {α β : Type} (r : R α) (f : α → Cm β) : R β := match r with
  | .ok a S => f a S
  | .exc C fs S => .exc C fs S
  | .stuck => .stuck
instance : Monad Cm where
  pure a := fun S => .ok a S
  bind m f := fun S => (m S).bnd f
def stk {α : Type} : Cm α := fun _ => .stuck
abbrev FE := Env → Cm D
def EXO (C : Addr) (d : Option Addr) (a : Addr) : HO := .ext fun h => ∃ (oe : Obj) (vs : Array Value), h.get? a = some oe ∧ Zc (.ref C) d oe ∧ oe.data = .fields vs
def XAt (F : Hp) : Option Addr → List (Str × V) → Prop
  | some d, vs => F d = some (.xd vs)
  | none, vs => vs = []
theorem XAt.map {F G : Hp} {d : Option Addr} {vs : List (Str × V)} (h : XAt F d vs) (m : ∀ a, F a = some (.xd vs) → G a = some (.xd vs)) : XAt G d vs := by
  cases d with
  | none => exact h
  | some d => exact m d h
section
variable (T : Str → Addr) (K : PySem.W.Frag) (ρ : Nat → Option Addr) (H : Hp)
mutual
/-- the value v stands for the tree -/
def Rep : D → V → Prop
  | .non, v => v = .non
  | .bl b, v => v = .bl b
  | .int i, v => v = .int i
  | .str x, v => v = .str x
  | .lst ds, v => ∃ a vs, v = .ref a ∧ H a = some (.lst vs) ∧ RepL ds vs
  | .klst ds, v => ∃ a vs, v = .ref a ∧ SqL K H a vs ∧ RepL ds vs
  | .tup ds, v => ∃ a vs, v = .ref a ∧ SqT K H a vs ∧ RepL ds vs
  | .obj C fs, v => ∃ a dx vs, v = .ref a ∧ H a = some (.ins (T C) dx vs) ∧ RepF fs vs
  | .exn C fs, v => ∃ a d vs, v = .ref a ∧ H a = some (EXO (T C) d a) ∧ XAt H d vs ∧ RepF fs vs
  | .dK kvs, v => ∃ a vs, v = .ref a ∧ H a = some (.dK vs) ∧ RepK kvs vs
  | .dT kvs, v => ∃ a vs, v = .ref a ∧ H a = some (.dT vs) ∧ RepT kvs vs
  | .cell k, v => ∃ a, v = .ref a ∧ ρ k = some a
  | .glob x, v => v = .ref (T x)
  | .ty n, v => v = .ty n
def RepL : List D → List V → Prop
  | [], vs => vs = []
  | d :: ds, vs => ∃ v r, vs = v :: r ∧ Rep d v ∧ RepL ds r
def RepF : List (Str × D) → List (Str × V) → Prop
  | [], vs => vs = []
  | p :: ds, vs => ∃ v r, vs = (p.1, v) :: r ∧ Rep p.2 v ∧ RepF ds r
def RepK : List (Key × D) → List (Key × V) → Prop
  | [], vs => vs = []
  | p :: ds, vs => ∃ v r, vs = (p.1, v) :: r ∧ Rep p.2 v ∧ RepK ds r
def RepT : List (List Key × D) → List (List Key × V) → Prop
  | [], vs => vs = []
  | p :: ds, vs => ∃ v r, vs = (p.1, v) :: r ∧ Rep p.2 v ∧ RepT ds r
end
end
end HT
set_option maxRecDepth 100000
set_option maxHeartbeats 4000000
namespace HT
open PySem PySem.Spec L2
abbrev Sub (H H' : Hp) : Prop := ∀ a o, H a = some o → H' a = some o
theorem Sub.seqL {K : PySem.W.Frag} {H H' : Hp} (h : Sub H H') {a : Addr} {xs : List V} (q : SqL K H a xs) : SqL K H' a xs := by
  rcases q with (q | ⟨o, q⟩) | q
  · exact .inl (.inl (h _ _ q))
  · exact .inl (.inr ⟨o, h _ _ q⟩)
  · exact .inr q
theorem Sub.seqT {K : PySem.W.Frag} {H H' : Hp} (h : Sub H H') {a : Addr} {xs : List V} (q : SqT K H a xs) : SqT K H' a xs := by
  rcases q with (q | ⟨o, q⟩) | q
  · exact .inl (.inl (h _ _ q))
  · exact .inl (.inr ⟨o, h _ _ q⟩)
  · exact .inr q
section
variable {T : Str → Addr} {K : PySem.W.Frag} {ρ ρ' : Nat → Option Addr} {H H' : Hp}
mutual
theorem Rep.mono (hr : ∀ k a, ρ k = some a → ρ' k = some a) (hs : Sub H H') : ∀ (d : D) (v : V), Rep T K ρ H d v → Rep T K ρ' H' d v
  | .non, v, h => h
  | .bl b, v, h => h
  | .int i, v, h => h
  | .str x, v, h => h
  | .lst ds, v, h => by
    obtain ⟨a, vs, e, q, r⟩ := h
    exact ⟨a, vs, e, hs _ _ q, RepL.mono hr hs ds vs r⟩
  | .klst ds, v, h => by
    obtain ⟨a, vs, e, q, r⟩ := h
    exact ⟨a, vs, e, hs.seqL q, RepL.mono hr hs ds vs r⟩
  | .tup ds, v, h => by
    obtain ⟨a, vs, e, q, r⟩ := h
    exact ⟨a, vs, e, hs.seqT q, RepL.mono hr hs ds vs r⟩
  | .obj C fs, v, h => by
    obtain ⟨a, dx, vs, e, q, r⟩ := h
    exact ⟨a, dx, vs, e, hs _ _ q, RepF.mono hr hs fs vs r⟩
  | .exn C fs, v, h => by
    obtain ⟨a, d, vs, e, q, q2, r⟩ := h
    exact ⟨a, d, vs, e, hs _ _ q, q2.map fun a z => hs a _ z, RepF.mono hr hs fs vs r⟩
  | .dK kvs, v, h => by
    obtain ⟨a, vs, e, q, r⟩ := h
    exact ⟨a, vs, e, hs _ _ q, RepK.mono hr hs kvs vs r⟩
  | .dT kvs, v, h => by
    obtain ⟨a, vs, e, q, r⟩ := h
    exact ⟨a, vs, e, hs _ _ q, RepT.mono hr hs kvs vs r⟩
  | .cell k, v, h => by
    obtain ⟨a, e, q⟩ := h
    exact ⟨a, e, hr _ _ q⟩
  | .glob x, v, h => h
  | .ty n, v, h => h
theorem RepL.mono (hr : ∀ k a, ρ k = some a → ρ' k = some a) (hs : Sub H H') : ∀ (ds : List D) (vs : List V), RepL T K ρ H ds vs → RepL T K ρ' H' ds vs
  | [], vs, h => h
  | d :: ds, vs, h => by
    obtain ⟨v, r, e, q, q2⟩ := h
    exact ⟨v, r, e, Rep.mono hr hs d v q, RepL.mono hr hs ds r q2⟩
theorem RepF.mono (hr : ∀ k a, ρ k = some a → ρ' k = some a) (hs : Sub H H') : ∀ (ds : List (Str × D)) (vs : List (Str × V)), RepF T K ρ H ds vs → RepF T K ρ' H' ds vs
  | [], vs, h => h
  | (x, d) :: ds, vs, h => by
    obtain ⟨v, r, e, q, q2⟩ := h
    exact ⟨v, r, e, Rep.mono hr hs d v q, RepF.mono hr hs ds r q2⟩
theorem RepK.mono (hr : ∀ k a, ρ k = some a → ρ' k = some a) (hs : Sub H H') : ∀ (ds : List (Key × D)) (vs : List (Key × V)), RepK T K ρ H ds vs → RepK T K ρ' H' ds vs
  | [], vs, h => h
  | (x, d) :: ds, vs, h => by
    obtain ⟨v, r, e, q, q2⟩ := h
    exact ⟨v, r, e, Rep.mono hr hs d v q, RepK.mono hr hs ds r q2⟩
theorem RepT.mono (hr : ∀ k a, ρ k = some a → ρ' k = some a) (hs : Sub H H') : ∀ (ds : List (List Key × D)) (vs : List (List Key × V)), RepT T K ρ H ds vs → RepT T K ρ' H' ds vs
  | [], vs, h => h
  | (x, d) :: ds, vs, h => by
    obtain ⟨v, r, e, q, q2⟩ := h
    exact ⟨v, r, e, Rep.mono hr hs d v q, RepT.mono hr hs ds r q2⟩
end
theorem RepL.len : ∀ {ds : List D} {vs : List V}, RepL T K ρ H ds vs → ds.length = vs.length
  | [], vs, h => by
    have e : vs = [] := h
    rw [e]
    rfl
  | d :: ds, vs, h => by
    obtain ⟨v, r, e, q, q2⟩ := h
    rw [e, List.length_cons, List.length_cons, RepL.len q2]
theorem RepL.get : ∀ {ds : List D} {vs : List V} {i : Nat} {d : D}, RepL T K ρ H ds vs → ds[i]? = some d → ∃ v, vs[i]? = some v ∧ Rep T K ρ H d v
  | [], _, i, d, _, e => by simp at e
  | d :: ds, vs, 0, d', h, e => by
    obtain ⟨v, r, ev, q, _⟩ := h
    subst ev
    simp at e
    subst e
    exact ⟨v, rfl, q⟩
  | d :: ds, vs, i + 1, d', h, e => by
    obtain ⟨v, r, ev, _, q⟩ := h
    subst ev
    obtain ⟨u, h1, h2⟩ := RepL.get (i := i) (d := d') q (by simpa using e)
    exact ⟨u, by simpa using h1, h2⟩
theorem RepL.app : ∀ {ds es : List D} {vs us : List V}, RepL T K ρ H ds vs → RepL T K ρ H es us → RepL T K ρ H (ds ++ es) (vs ++ us)
  | [], es, vs, us, h, h2 => by
    have h' : vs = [] := h
    subst h'
    exact h2
  | d :: ds, es, vs, us, h, h2 => by
    obtain ⟨v, r, ev, q, q2⟩ := h
    subst ev
    exact ⟨v, r ++ us, rfl, q, RepL.app q2 h2⟩
theorem RepL.one {d : D} {v : V} (h : Rep T K ρ H d v) : RepL T K ρ H [d] [v] := ⟨v, [], rfl, h, rfl⟩
theorem RepL.set : ∀ {ds : List D} {vs : List V} (i : Nat) {d : D} {v : V}, RepL T K ρ H ds vs → Rep T K ρ H d v → RepL T K ρ H (ds.set i d) (vs.set i v)
  | [], vs, i, d, v, h, _ => by
    have h' : vs = [] := h
    subst h'
    exact h
  | d :: ds, vs, 0, d', v', h, q => by
    obtain ⟨v, r, ev, _, q2⟩ := h
    subst ev
    exact ⟨v', r, rfl, q, q2⟩
  | d :: ds, vs, i + 1, d', v', h, q => by
    obtain ⟨v, r, ev, q1, q2⟩ := h
    subst ev
    exact ⟨v, r.set i v', rfl, q1, RepL.set i q2 q⟩
theorem RepL.take : ∀ {ds : List D} {vs : List V} (n : Nat), RepL T K ρ H ds vs → RepL T K ρ H (ds.take n) (vs.take n)
  | ds, vs, 0, h => by
    rw [List.take_zero, List.take_zero]
    exact (rfl : ([] : List V) = [])
  | [], vs, n + 1, h => by
    have h' : vs = [] := h
    subst h'
    exact h
  | d :: ds, vs, n + 1, h => by
    obtain ⟨v, r, ev, q1, q2⟩ := h
    subst ev
    exact ⟨v, r.take n, rfl, q1, RepL.take n q2⟩
theorem RepL.drop : ∀ {ds : List D} {vs : List V} (n : Nat), RepL T K ρ H ds vs → RepL T K ρ H (ds.drop n) (vs.drop n)
  | ds, vs, 0, h => by
    rw [List.drop_zero, List.drop_zero]
    exact h
  | [], vs, n + 1, h => by
    have h' : vs = [] := h
    subst h'
    exact h
  | d :: ds, vs, n + 1, h => by
    obtain ⟨v, r, ev, q1, q2⟩ := h
    subst ev
    exact RepL.drop n q2
theorem RepL.of_all : ∀ {ds : List D} {vs : List V}, ds.length = vs.length → (∀ (i : Nat) (d : D) (v : V), ds[i]? = some d → vs[i]? = some v → Rep T K ρ H d v) → RepL T K ρ H ds vs
  | [], [], _, _ => rfl
  | [], _ :: _, e, _ => by simp at e
  | _ :: _, [], e, _ => by simp at e
  | d :: ds, v :: vs, e, h => ⟨v, vs, rfl, h 0 d v rfl rfl, RepL.of_all (by simpa using e) fun i d' v' h1 h2 => h (i + 1) d' v' (by simpa using h1) (by simpa using h2)⟩
theorem RepF.look : ∀ {fs : List (Str × D)} {vs : List (Str × V)} {f : Str} {d : D}, RepF T K ρ H fs vs → fs.lookup f = some d → ∃ v, vs.lookup f = some v ∧ Rep T K ρ H d v
  | [], _, f, d, _, e => by simp at e
  | (x, d) :: fs, vs, f, d', h, e => by
    obtain ⟨v, r, ev, q, q2⟩ := h
    subst ev
    rw [List.lookup_cons] at e
    rw [List.lookup_cons]
    cases hx : (f == x) with
    | true =>
      rw [hx] at e
      cases e
      exact ⟨v, rfl, q⟩
    | false =>
      rw [hx] at e
      exact RepF.look q2 e
theorem RepF.nolook : ∀ {fs : List (Str × D)} {vs : List (Str × V)} {f : Str}, RepF T K ρ H fs vs → fs.lookup f = none → vs.lookup f = none
  | [], vs, f, h, e => by
    have h' : vs = [] := h
    subst h'
    rfl
  | (x, d) :: fs, vs, f, h, e => by
    obtain ⟨v, r, ev, q, q2⟩ := h
    subst ev
    rw [List.lookup_cons] at e
    rw [List.lookup_cons]
    cases hx : (f == x) with
    | true =>
      rw [hx] at e
      cases e
    | false =>
      rw [hx] at e
      exact RepF.nolook q2 e
theorem RepF.len : ∀ {ds : List (Str × D)} {vs : List (Str × V)}, RepF T K ρ H ds vs → ds.length = vs.length
  | [], vs, h => by
    have e : vs = [] := h
    rw [e]
    rfl
  | d :: ds, vs, h => by
    obtain ⟨v, r, e, q, q2⟩ := h
    rw [e, List.length_cons, List.length_cons, RepF.len q2]
def putD (f : Str) (d : D) : List (Str × D) → List (Str × D)
  | [] => [(f, d)]
  | (g, x) :: r => if g = f then (g, d) :: r else (g, x) :: putD f d r
theorem RepF.put {f : Str} {d : D} {v : V} (hv : Rep T K ρ H d v) : ∀ {fs : List (Str × D)} {vs : List (Str × V)}, RepF T K ρ H fs vs → RepF T K ρ H (putD f d fs) (putF f v vs)
  | [], vs, h => by
    have h' : vs = [] := h
    subst h'
    exact ⟨v, [], rfl, hv, rfl⟩
  | (g, x) :: fs, vs, h => by
    obtain ⟨w, r, ev, q, q2⟩ := h
    subst ev
    show RepF T K ρ H (if g = f then (g, d) :: fs else (g, x) :: putD f d fs) (if g = f then (g, v) :: r else (g, w) :: putF f v r)
    by_cases hg : g = f
    · rw [if_pos hg, if_pos hg]
      exact ⟨v, r, rfl, hv, q2⟩
    · rw [if_neg hg, if_neg hg]
      exact ⟨w, putF f v r, rfl, q, RepF.put hv q2⟩
end
structure Hid where
  set : Addr → Prop
  me : Addr
instance : CoeFun Hid (fun _ => Addr → Prop) := ⟨Hid.set⟩
open Classical in
noncomputable def Fz (ρ : Nat → Option Addr) (Z : Hid) (H : Hp) : Hp := fun a => if Z a ∨ ∃ k, ρ k = some a then none else H a
section
variable {ρ ρ' : Nat → Option Addr} {Z : Hid} {H H' : Hp} {a : Addr} {o : HO}
theorem Fz_at (h : Fz ρ Z H a = some o) : H a = some o ∧ ¬ Z a ∧ ∀ k, ρ k ≠ some a := by
  unfold Fz at h
  split at h
  · cases h
  · rename_i hn
    exact ⟨h, fun z => hn (.inl z), fun k z => hn (.inr ⟨k, z⟩)⟩
theorem Fz_mk (h : H a = some o) (hz : ¬ Z a) (hr : ∀ k, ρ k ≠ some a) : Fz ρ Z H a = some o := by
  unfold Fz
  rw [if_neg]
  · exact h
  · rintro (z | ⟨k, z⟩)
    · exact hz z
    · exact hr k z
theorem Fz_sub : Sub (Fz ρ Z H) H := fun a o h => (Fz_at h).1
end
def HObj (T : Str → Addr) (K : PySem.W.Frag) (ρ : Nat → Option Addr) (F : Hp) : CO → HO → Prop
  | .lst ds, o => ∃ vs, o = .lst vs ∧ RepL T K ρ F ds vs
  | .dK kvs, o => ∃ vs, o = .dK vs ∧ RepK T K ρ F kvs vs
  | .dT kvs, o => ∃ vs, o = .dT vs ∧ RepT T K ρ F kvs vs
  | .ins C fs, o => ∃ dx vs, o = .ins (T C) dx vs ∧ RepF T K ρ F fs vs
theorem HObj.mono {T : Str → Addr} {K : PySem.W.Frag} {ρ ρ' : Nat → Option Addr} {H H' : Hp} (hr : ∀ k a, ρ k = some a → ρ' k = some a) (hs : Sub H H') {c : CO} {o : HO} (h : HObj T K ρ H c o) : HObj T K ρ' H' c o := by
  cases c with
  | lst ds =>
    obtain ⟨vs, e, r⟩ := h
    exact ⟨vs, e, RepL.mono hr hs _ _ r⟩
  | dK kvs =>
    obtain ⟨vs, e, r⟩ := h
    exact ⟨vs, e, RepK.mono hr hs _ _ r⟩
  | dT kvs =>
    obtain ⟨vs, e, r⟩ := h
    exact ⟨vs, e, RepT.mono hr hs _ _ r⟩
  | ins C fs =>
    obtain ⟨dx, vs, e, r⟩ := h
    exact ⟨dx, vs, e, RepF.mono hr hs _ _ r⟩
structure Wd (T : Str → Addr) (K : PySem.W.Frag) (ρ : Nat → Option Addr) (S : Sto) (Z : Hid) (H : Hp) : Prop where
  dom : ∀ k a, ρ k = some a → k < S.length
  cells : ∀ (k : Nat) (c : CO), S[k]? = some c → ∃ a o, ρ k = some a ∧ ¬ Z a ∧ H a = some o ∧ HObj T K ρ (Fz ρ Z H) c o
  inj : ∀ j k a, ρ j = some a → ρ k = some a → j = k
  there : ∀ a, Z a → ∃ o, H a = some o
structure Ext (ρ : Nat → Option Addr) (Z : Hid) (H : Hp) (ρ' : Nat → Option Addr) (H' : Hp) : Prop where
  cells : ∀ k a, ρ k = some a → ρ' k = some a
  frz : Sub (Fz ρ Z H) (Fz ρ' Z H')
  hid : ∀ a, Z a → H' a = H a
theorem Ext.refl {ρ : Nat → Option Addr} {Z : Hid} {H : Hp} : Ext ρ Z H ρ H := ⟨fun _ _ h => h, fun _ _ h => h, fun _ _ => rfl⟩
theorem Ext.trans {ρ ρ1 ρ2 : Nat → Option Addr} {Z : Hid} {H H1 H2 : Hp} (a : Ext ρ Z H ρ1 H1) (b : Ext ρ1 Z H1 ρ2 H2) : Ext ρ Z H ρ2 H2 :=
  ⟨fun k x h => b.cells k x (a.cells k x h), fun x o h => b.frz x o (a.frz x o h), fun x h => (b.hid x h).trans (a.hid x h)⟩
theorem Ext.rep {T : Str → Addr} {K : PySem.W.Frag} {ρ ρ1 : Nat → Option Addr} {Z : Hid} {H H1 : Hp} (a : Ext ρ Z H ρ1 H1) {d : D} {v : V} (h : Rep T K ρ (Fz ρ Z H) d v) : Rep T K ρ1 (Fz ρ1 Z H1) d v := Rep.mono a.cells a.frz d v h
theorem Ext.repL {T : Str → Addr} {K : PySem.W.Frag} {ρ ρ1 : Nat → Option Addr} {Z : Hid} {H H1 : Hp} (a : Ext ρ Z H ρ1 H1) {d : List D} {v : List V} (h : RepL T K ρ (Fz ρ Z H) d v) : RepL T K ρ1 (Fz ρ1 Z H1) d v := RepL.mono a.cells a.frz d v h
structure ER (T : Str → Addr) (K : PySem.W.Frag) (ρ : Nat → Option Addr) (Z : Hid) (H : Hp) (σ : St) (env : Env) : Prop where
  val : ∀ (i : Nat) (d : D), env[i]? = some (.val d) → ∃ v, σ[i]? = some (some v) ∧ Rep T K ρ (Fz ρ Z H) d v
  own : ∀ (i : Nat) (c : CO), env[i]? = some (.own c) → ∃ a o, σ[i]? = some (some (V.ref a)) ∧ Z a ∧ H a = some o ∧ HObj T K ρ (Fz ρ Z H) c o
  slf : ∀ (i : Nat) (c : CO), env[i]? = some (.slf c) → ∃ o, σ[i]? = some (some (V.ref Z.me)) ∧ Z Z.me ∧ H Z.me = some o ∧ HObj T K ρ (Fz ρ Z H) c o
  len : env.length = σ.length
theorem ER.ext {T : Str → Addr} {K : PySem.W.Frag} {ρ ρ1 : Nat → Option Addr} {Z : Hid} {H H1 : Hp} {σ : St} {env : Env} (e : ER T K ρ Z H σ env) (x : Ext ρ Z H ρ1 H1) : ER T K ρ1 Z H1 σ env := by
  refine ⟨fun i d h => ?_, fun i c h => ?_, fun i c h => ?_, e.len⟩
  · obtain ⟨v, h1, h2⟩ := e.val i d h
    exact ⟨v, h1, x.rep h2⟩
  · obtain ⟨a, o, h1, h2, h3, h4⟩ := e.own i c h
    exact ⟨a, o, h1, h2, (x.hid a h2).trans h3, h4.mono x.cells x.frz⟩
  · obtain ⟨o, h1, h2, h3, h4⟩ := e.slf i c h
    exact ⟨o, h1, h2, (x.hid _ h2).trans h3, h4.mono x.cells x.frz⟩
abbrev Rl (α β : Type) := (Nat → Option Addr) → Hp → α → β → Prop
abbrev rB : Rl Bool Bool := fun _ _ a b => a = b
section
variable (T : Str → Addr) (K : PySem.W.Frag)
abbrev rD : Rl D V := fun ρ H d v => Rep T K ρ H d v
abbrev rL : Rl (List D) (List V) := fun ρ H d v => RepL T K ρ H d v
def Good {α β : Type} (rel : Rl α β) (W : WX) (σ : St) (Q : β → Hp → Prop) (ρ : Nat → Option Addr) (Z : Hid) (H : Hp) : R α → Prop
  | .ok d S' => ∀ v H' ρ', Ext ρ Z H ρ' H' → Wd T K ρ' S' Z H' → rel ρ' (Fz ρ' Z H') d v → Q v H'
  | .exc C fs S' => ∀ dx vs H' ρ', Ext ρ Z H ρ' H' → Wd T K ρ' S' Z H' → XAt (Fz ρ' Z H') dx vs → RepF T K ρ' (Fz ρ' Z H') fs vs → W (.ref (T C)) dx σ H'
  | .stuck => False
def lift {α β : Type} (rel : Rl α β) (W : WX) (F : Env → Cm α) (σ : St) (H : Hp) (Q : β → Hp → Prop) : Prop := ∃ ρ S Z env, Wd T K ρ S Z H ∧ ER T K ρ Z H σ env ∧ Good T K rel W σ Q ρ Z H (F env S)
end
section
variable {T : Str → Addr} {K : PySem.W.Frag} {W : WX} {σ : St} {ρ ρ1 : Nat → Option Addr} {Z : Hid} {H H1 : Hp} {S : Sto} {env : Env}
variable {α β γ δ : Type} {rel : Rl α β} {rel2 : Rl γ δ} {Q : β → Hp → Prop} {Q2 : δ → Hp → Prop}
theorem Good.later {r : R α} (g : Good T K rel W σ Q ρ Z H r) (x : Ext ρ Z H ρ1 H1) : Good T K rel W σ Q ρ1 Z H1 r := by
  cases r with
  | ok d S' => exact fun v H' ρ' e w q => g v H' ρ' (x.trans e) w q
  | exc C fs S' => exact fun dx vs H' ρ' e w q q2 => g dx vs H' ρ' (x.trans e) w q q2
  | stuck => exact g
def Behind (T : Str → Addr) (K : PySem.W.Frag) (rel : Rl α β) (rel2 : Rl γ δ) (W : WX) (σ : St) (Q : δ → Hp → Prop) (ρ : Nat → Option Addr) (Z : Hid) (H : Hp) (env : Env) (k : α → Cm γ) (v : β) (H' : Hp) : Prop :=
  ∃ ρ' S' d, Ext ρ Z H ρ' H' ∧ Wd T K ρ' S' Z H' ∧ ER T K ρ' Z H' σ env ∧ rel ρ' (Fz ρ' Z H') d v ∧ Good T K rel2 W σ Q ρ' Z H' (k d S')
theorem lift_bnd {F : Env → Cm α} {k : α → Cm γ} (w : Wd T K ρ S Z H) (e : ER T K ρ Z H σ env) (g : Good T K rel2 W σ Q2 ρ Z H ((F env S).bnd k)) : lift T K rel W F σ H (Behind T K rel rel2 W σ Q2 ρ Z H env k) := by
  refine ⟨ρ, S, Z, env, w, e, ?_⟩
  cases h : F env S with
  | ok d S' =>
    rw [h] at g
    exact fun v H' ρ' x w' q => ⟨ρ', S', d, x, w', e.ext x, q, g.later x⟩
  | exc C fs S' =>
    rw [h] at g
    exact g
  | stuck =>
    rw [h] at g
    exact g
end
abbrev PF (T : Str → Addr) (X : Cx) (W : WX) (e : Expr) (F : FE) : Prop := PE X e (lift T X.K (rD T X.K) W F)
abbrev TF (T : Str → Addr) (X : Cx) (W : WX) (e : Expr) (F : Env → Cm Bool) : Prop := PT X e (lift T X.K rB W F)
abbrev TWF (T : Str → Addr) (X : Cx) (W : WX) (e : Expr) (F : Env → Cm Bool) : Prop := PW X e (lift T X.K rB W F)
abbrev AF (T : Str → Addr) (X : Cx) (W : WX) (es : List Expr) (F : Env → Cm (List D)) : Prop := PA X es (lift T X.K (rL T X.K) W F)
theorem pe_imp {X : Cx} {e : Expr} {t t' : TE} (h : PE X e t) (i : ∀ σ H Q, t' σ H Q → t σ H Q) : PE X e t' := ⟨fun pins s σ H Q I q => h.run pins s σ H Q I (i σ H Q q)⟩
theorem pt_imp {X : Cx} {e : Expr} {t t' : TT} (h : PT X e t) (i : ∀ σ H Q, t' σ H Q → t σ H Q) : PT X e t' := ⟨fun pins s σ H Q I q => h.run pins s σ H Q I (i σ H Q q)⟩
theorem pw_imp {X : Cx} {e : Expr} {t t' : TT} (h : PW X e t) (i : ∀ σ H Q, t' σ H Q → t σ H Q) : PW X e t' := ⟨fun wh pins s σ H Q I q => h.run wh pins s σ H Q I (i σ H Q q)⟩
theorem pa_imp {X : Cx} {es : List Expr} {t t' : TA} (h : PA X es t) (i : ∀ σ H Q, t' σ H Q → t σ H Q) : PA X es t' := ⟨fun pos pins s σ H Q I q => h.run pos pins s σ H Q I (i σ H Q q)⟩
section
variable {T : Str → Addr} {X : Cx} {W : WX}
theorem pf_const {e : Expr} {v : V} {d : D} (h : PE X e (tC v)) (r : ∀ ρ H, Rep T X.K ρ H d v) : PF T X W e (fun _ => pure d) := by
  refine pe_imp h fun σ H Q q => ?_
  obtain ⟨ρ, S, Z, env, w, e, g⟩ := q
  exact g v H ρ .refl w (r _ _)
theorem pf_int {i : Int} {j pos} : PF T X W (.Constant (.int i) j pos) (fun _ => pure (.int i)) := pf_const pe_int fun _ _ => rfl
theorem pf_bl {b : Bool} {j pos} : PF T X W (.Constant (.bool b) j pos) (fun _ => pure (.bl b)) := pf_const pe_bl fun _ _ => rfl
theorem pf_non {j pos} : PF T X W (.Constant .none j pos) (fun _ => pure .non) := pf_const pe_non fun _ _ => rfl
theorem pf_str {x : Str} {j pos} : PF T X W (.Constant (.str x) j pos) (fun _ => pure (.str x)) := pf_const pe_str fun _ _ => rfl
def fVar (i : Nat) : FE := fun env => match env[i]? with
  | some (.val d) => pure d
  | _ => stk
theorem pf_var {i : Nat} {x : Str} {pos : Pos} (h : PE X (.Name x pos) (tVar i)) : PF T X W (.Name x pos) (fVar i) := by
  refine pe_imp h fun σ H Q q => ?_
  obtain ⟨ρ, S, Z, env, w, e, g⟩ := q
  unfold fVar at g
  cases hd : env[i]? with
  | none =>
    rw [hd] at g
    exact g.elim
  | some sl =>
    rw [hd] at g
    cases sl with
    | val d =>
      obtain ⟨v, h1, h2⟩ := e.val i d hd
      exact ⟨v, h1, g v H ρ .refl w h2⟩
    | un => exact g.elim
    | own c => exact g.elim
    | slf c => exact g.elim
end
end HT
set_option maxRecDepth 100000
set_option maxHeartbeats 4000000
namespace HT
open PySem PySem.Spec L2
section
variable {T : Str → Addr} {K : PySem.W.Frag} {W : WX} {σ : St} {ρ ρ1 : Nat → Option Addr} {Z : Hid} {H H1 : Hp} {S : Sto} {env : Env}
variable {α β : Type} {rel : Rl α β} {Q Q' : β → Hp → Prop}
theorem Good.imp {r : R α} (g : Good T K rel W σ Q ρ Z H r) (h : ∀ v H', Q v H' → Q' v H') : Good T K rel W σ Q' ρ Z H r := by
  cases r with
  | ok d S' => exact fun v H' ρ' e w q => h v H' (g v H' ρ' e w q)
  | exc C fs S' => exact g
  | stuck => exact g
theorem lift_imp {F : Env → Cm α} (h : lift T K rel W F σ H Q) (i : ∀ v H', Q v H' → Q' v H') : lift T K rel W F σ H Q' := by
  obtain ⟨ρ, S, Z, env, w, e, g⟩ := h
  exact ⟨ρ, S, Z, env, w, e, g.imp i⟩
theorem Good.now {d : α} {v : β} (g : Good T K rel W σ Q ρ Z H (.ok d S)) (w : Wd T K ρ S Z H) (r : rel ρ (Fz ρ Z H) d v) : Q v H := g v H ρ .refl w r
end
section
variable {T : Str → Addr} {K : PySem.W.Frag} {ρ : Nat → Option Addr} {Z : Hid} {H : Hp} {S : Sto} {p : Addr} {o : HO} {c : CO}
theorem fz_new (w : Wd T K ρ S Z H) (hp : H p = none) : ¬ Z p ∧ ∀ k, ρ k ≠ some p := by
  refine ⟨fun z => ?_, fun k z => ?_⟩
  · obtain ⟨o, e⟩ := w.there p z
    rw [hp] at e
    cases e
  · have hk := w.dom k p z
    obtain ⟨a, o, h1, _, h2, _⟩ := w.cells k S[k] (List.getElem?_eq_getElem hk)
    rw [z] at h1
    cases h1
    rw [hp] at h2
    cases h2
theorem new_frz (w : Wd T K ρ S Z H) (hp : H p = none) : Ext ρ Z H ρ (upd H p o) ∧ Wd T K ρ S Z (upd H p o) ∧ Fz ρ Z (upd H p o) p = some o := by
  obtain ⟨nz, nr⟩ := fz_new w hp
  have ne : ∀ a u, H a = some u → a ≠ p := fun a u e z => by
    rw [z, hp] at e
    cases e
  have sub : Sub (Fz ρ Z H) (Fz ρ Z (upd H p o)) := fun a u e => by
    obtain ⟨e1, e2, e3⟩ := Fz_at e
    exact Fz_mk (by rw [upd_ne (ne a u e1)]; exact e1) e2 e3
  have x : Ext ρ Z H ρ (upd H p o) := ⟨fun _ _ h => h, sub, fun a z => upd_ne (fun e => nz (e ▸ z))⟩
  refine ⟨x, ⟨w.dom, fun k c hc => ?_, w.inj, fun a z => ?_⟩, Fz_mk upd_same nz nr⟩
  · obtain ⟨a, u, h1, h2, h3, h4⟩ := w.cells k c hc
    exact ⟨a, u, h1, h2, by rw [upd_ne (ne a u h3)]; exact h3, h4.mono x.cells x.frz⟩
  · obtain ⟨u, e⟩ := w.there a z
    exact ⟨u, by rw [upd_ne (ne a u e)]; exact e⟩
def more (ρ : Nat → Option Addr) (n : Nat) (p : Addr) : Nat → Option Addr := fun k => if k = n then some p else ρ k
theorem put_cell {k : Nat} {a : Addr} {c0 : CO} (w : Wd T K ρ S Z H) (hk : S[k]? = some c0) (ha : ρ k = some a) (h : HObj T K ρ (Fz ρ Z H) c o) : Ext ρ Z H ρ (upd H a o) ∧ Wd T K ρ (S.set k c) Z (upd H a o) := by
  have nz : ¬ Z a := by
    obtain ⟨b, u, h1, h2, _⟩ := w.cells k c0 hk
    rw [ha] at h1
    cases h1
    exact h2
  have sub : Sub (Fz ρ Z H) (Fz ρ Z (upd H a o)) := fun b u e => by
    obtain ⟨e1, e2, e3⟩ := Fz_at e
    have nb : b ≠ a := fun z => e3 k (z ▸ ha)
    exact Fz_mk (by rw [upd_ne nb]; exact e1) e2 e3
  have x : Ext ρ Z H ρ (upd H a o) := ⟨fun _ _ h => h, sub, fun b z => upd_ne (fun e => nz (e ▸ z))⟩
  refine ⟨x, ⟨fun j b e => by rw [List.length_set]; exact w.dom j b e, fun j c' hc => ?_, w.inj, fun b z => ?_⟩⟩
  · by_cases hj : j = k
    · subst hj
      have hl : j < S.length := (List.getElem?_eq_some_iff.mp hk).1
      rw [List.getElem?_set_self hl] at hc
      cases hc
      exact ⟨a, o, ha, nz, upd_same, h.mono x.cells x.frz⟩
    · rw [List.getElem?_set_ne (Ne.symm hj)] at hc
      obtain ⟨b, u, h1, h2, h3, h4⟩ := w.cells j c' hc
      have nb : b ≠ a := fun z => hj (w.inj j k a (z ▸ h1) ha)
      exact ⟨b, u, h1, h2, by rw [upd_ne nb]; exact h3, h4.mono x.cells x.frz⟩
  · obtain ⟨u, e⟩ := w.there b z
    have nb : b ≠ a := fun q => nz (q ▸ z)
    exact ⟨u, by rw [upd_ne nb]; exact e⟩
end
def asL (S : Sto) : D → Option (List D)
  | .lst ds => some ds
  | .klst ds => some ds
  | .cell k => match S[k]? with
    | some (.lst ds) => some ds
    | _ => none
  | _ => none
def asLT (S : Sto) : D → Option (List D)
  | .lst ds => some ds
  | .cell k => match S[k]? with
    | some (.lst ds) => some ds
    | _ => none
  | _ => none
section
variable {T : Str → Addr} {K : PySem.W.Frag} {ρ : Nat → Option Addr} {Z : Hid} {H : Hp} {S : Sto}
theorem asLT_ok (w : Wd T K ρ S Z H) {d : D} {v : V} {ds : List D} (r : Rep T K ρ (Fz ρ Z H) d v) (h : asLT S d = some ds) : ∃ a vs, v = .ref a ∧ H a = some (.lst vs) ∧ RepL T K ρ (Fz ρ Z H) ds vs := by
  unfold asLT at h
  split at h
  · cases h
    obtain ⟨a, vs, e, q, q2⟩ := r
    exact ⟨a, vs, e, Fz_sub _ _ q, q2⟩
  · rename_i k
    obtain ⟨a, e, q⟩ := r
    cases hc : S[k]? with
    | none =>
      rw [hc] at h
      cases h
    | some c =>
      rw [hc] at h
      obtain ⟨b, o, h1, h2, h3, h4⟩ := w.cells k c hc
      rw [q] at h1
      cases h1
      cases c with
      | lst es =>
        cases h
        obtain ⟨vs, e2, q2⟩ := h4
        exact ⟨a, vs, e, by rw [h3, e2], q2⟩
      | _ => cases h
  · cases h
theorem asL_ok (w : Wd T K ρ S Z H) {d : D} {v : V} {ds : List D} (r : Rep T K ρ (Fz ρ Z H) d v) (h : asL S d = some ds) : ∃ a vs, v = .ref a ∧ SqL K H a vs ∧ RepL T K ρ (Fz ρ Z H) ds vs := by
  cases d with
  | klst es =>
    cases h
    obtain ⟨a, vs, e, q, q2⟩ := r
    exact ⟨a, vs, e, Fz_sub.seqL q, q2⟩
  | lst es =>
    obtain ⟨a, vs, e, q, q2⟩ := asLT_ok w r (show asLT S (.lst es) = some ds from h)
    exact ⟨a, vs, e, SqL.of q, q2⟩
  | cell k =>
    obtain ⟨a, vs, e, q, q2⟩ := asLT_ok w r (show asLT S (.cell k) = some ds from h)
    exact ⟨a, vs, e, SqL.of q, q2⟩
  | _ => cases h
end
def f2 (g : D → D → Cm D) (Fa Fb : FE) : FE := fun env S => (Fa env S).bnd fun x S1 => (Fb env S1).bnd fun y => g x y
def f1 (g : D → Cm D) (Fa : FE) : FE := fun env S => (Fa env S).bnd fun x => g x
def Op2 (T : Str → Addr) (X : Cx) (r : R2) (g : D → D → Cm D) : Prop := ∀ (W : WX) (σ : St) (ρ : Nat → Option Addr) (S : Sto) (Z : Hid) (H : Hp) (x y : D) (v u : V) (Q : VK), Wd T X.K ρ S Z H → Rep T X.K ρ (Fz ρ Z H) x v → Rep T X.K ρ (Fz ρ Z H) y u →
  Good T X.K (rD T X.K) W σ Q ρ Z H (g x y S) → r v u H Q
section
variable {T : Str → Addr} {X : Cx} {W : WX} {a b : Expr} {Fa Fb : FE} {pos : Pos}
theorem lift2 {K : PySem.W.Frag} {g : D → D → Cm D} {σ : St} {H : Hp} {Q : VK} {r : V → V → Hp → Prop} (h : lift T K (rD T K) W (f2 g Fa Fb) σ H Q)
    (k : ∀ ρ S Z H x y v u, Wd T K ρ S Z H → Rep T K ρ (Fz ρ Z H) x v → Rep T K ρ (Fz ρ Z H) y u → Good T K (rD T K) W σ Q ρ Z H (g x y S) → r v u H) : lift T K (rD T K) W Fa σ H fun v H1 => lift T K (rD T K) W Fb σ H1 fun u H2 => r v u H2 := by
  obtain ⟨ρ, S, Z, env, w, e, g⟩ := h
  refine lift_imp (lift_bnd w e g) fun v H1 ⟨ρ1, S1, d1, x1, w1, e1, r1, g1⟩ => ?_
  refine lift_imp (lift_bnd w1 e1 g1) fun u H2 ⟨ρ2, S2, d2, x2, w2, e2, r2, g2⟩ => ?_
  exact k ρ2 S2 Z H2 d1 d2 v u w2 (x2.rep r1) r2 g2
theorem lift1 {K : PySem.W.Frag} {g : D → Cm D} {σ : St} {H : Hp} {Q : VK} {r : V → Hp → Prop} (h : lift T K (rD T K) W (f1 g Fa) σ H Q)
    (k : ∀ ρ S Z H x v, Wd T K ρ S Z H → Rep T K ρ (Fz ρ Z H) x v → Good T K (rD T K) W σ Q ρ Z H (g x S) → r v H) : lift T K (rD T K) W Fa σ H r := by
  obtain ⟨ρ, S, Z, env, w, e, g⟩ := h
  exact lift_imp (lift_bnd w e g) fun v H1 ⟨ρ1, S1, d1, x1, w1, e1, r1, g1⟩ => k ρ1 S1 Z H1 d1 v w1 r1 g1
theorem pf_bin {op : Operator} {r : R2} {g : D → D → Cm D} (ho : OpR X (binaryOp op) r) (h2 : Op2 T X r g) (ha : PF T X W a Fa) (hb : PF T X W b Fb) : PF T X W (.BinOp a op b pos) (f2 g Fa Fb) :=
  pe_imp (pe_op ho ha hb) fun σ H Q q => lift2 (r := fun v u H2 => r v u H2 Q) q fun ρ S Z H x y v u w r1 r2 g => h2 W σ ρ S Z H x y v u Q w r1 r2 g
theorem pf_cmp {op : CmpOp} {r : R2} {g : D → D → Cm D} (ho : OpR X (compareOp op) r) (h2 : Op2 T X r g) (ha : PF T X W a Fa) (hb : PF T X W b Fb) (hm : behindInMarks op b = false) : PF T X W (.Compare a [op] [b] pos) (f2 g Fa Fb) :=
  pe_imp (pe_cmpR ho ha hb hm) fun σ H Q q => lift2 (r := fun v u H2 => r v u H2 Q) q fun ρ S Z H x y v u w r1 r2 g => h2 W σ ρ S Z H x y v u Q w r1 r2 g
def toB : D → Cm Bool
  | .bl b => pure b
  | _ => stk
def fB (F : FE) : Env → Cm Bool := fun env S => (F env S).bnd toB
theorem lift_test {K : PySem.W.Frag} {F : FE} {σ : St} {H : Hp} {Q : Bool → Hp → Prop} (h : lift T K rB W (fB F) σ H Q) : lift T K (rD T K) W F σ H fun x H' => ∃ k, x = .bl k ∧ Q k H' := by
  obtain ⟨ρ, S, Z, env, w, e, g⟩ := h
  refine lift_imp (lift_bnd w e g) fun v H1 ⟨ρ1, S1, d1, x1, w1, e1, r1, g1⟩ => ?_
  cases d1 with
  | bl b => exact ⟨b, r1, g1 b H1 ρ1 .refl w1 rfl⟩
  | _ => exact g1.elim
theorem tf_cmp {op : CmpOp} {r : R2} {g : D → D → Cm D} (ho : OpR X (compareOp op) r) (h2 : Op2 T X r g) (ha : PF T X W a Fa) (hb : PF T X W b Fb) (hm : behindInMarks op b = false) : TF T X W (.Compare a [op] [b] pos) (fB (f2 g Fa Fb)) :=
  pt_imp (pt_cmpR ho ha hb hm) fun σ H Q q => lift2 (lift_test q) fun ρ S Z H x y v u w r1 r2 g => h2 W σ ρ S Z H x y v u _ w r1 r2 g
theorem tf_val {e : Expr} {F : FE} (h : PF T X W e F) (he : ∀ whole, isTrue e X.env whole = (do let v ← whole; standAt e.pos; holding [v] (truthy v)) := by intro _; rfl) : TF T X W e (fB F) :=
  pt_imp (pt_val h he) fun σ H Q q => lift_test q
end
end HT
set_option maxRecDepth 100000
set_option maxHeartbeats 4000000
namespace HT
open PySem PySem.Spec L2
def gAdd (x y : D) : Cm D := fun S => match x, y with
  | .int i, .int j => .ok (.int (i + j)) S
  | .str a, .str b => if a.length + b.length ≤ sizeLine then .ok (.str (a ++ b)) S else .stuck
  | .tup a, .tup b => if a.length + b.length ≤ sizeLine then .ok (.tup (a ++ b)) S else .stuck
  | x, y => match asLT S x, asLT S y with
    | some a, some b => if a.length + b.length ≤ sizeLine then .ok (.lst (a ++ b)) S else .stuck
    | _, _ => .stuck
def gSub (x y : D) : Cm D := match x, y with
  | .int i, .int j => pure (.int (i - j))
  | _, _ => stk
def gMul (x y : D) : Cm D := fun S => match x, y with
  | .int i, .int j => if i.natAbs.log2 + j.natAbs.log2 < 1000000 then .ok (.int (i * j)) S else .stuck
  | .tup a, .int k => if a ≠ [] ∧ 2 ≤ k ∧ k ≤ 1000 ∧ a.length ≤ 1000 then .ok (.tup (List.replicate k.toNat a).flatten) S else .stuck
  | x, .int k => match asLT S x with
    | some a => if -(2 ^ 63) ≤ k ∧ k < 2 ^ 63 ∧ a.length * k.toNat ≤ sizeLine then .ok (.lst (List.replicate k.toNat a).flatten) S else .stuck
    | none => .stuck
  | _, _ => .stuck
def gDiv (x y : D) : Cm D := match x, y with
  | .int i, .int j => if 0 < j ∧ j.natAbs.log2 < 9000 then pure (.int (i / j)) else stk
  | _, _ => stk
def gMod (x y : D) : Cm D := match x, y with
  | .int i, .int j => if 0 < j then pure (.int (i % j)) else stk
  | _, _ => stk
def gPow (x y : D) : Cm D := match x, y with
  | .int i, .int j => if 0 ≤ j ∧ (Builtin.Int.intBits i : Int) * j ≤ 2 ^ 27 then pure (.int (i ^ j.toNat)) else stk
  | _, _ => stk
section
variable {T : Str → Addr} {X : Cx}
theorem RepL.flat {T : Str → Addr} {K : PySem.W.Frag} {ρ : Nat → Option Addr} {H : Hp} {ds : List D} {vs : List V} (h : RepL T K ρ H ds vs) : ∀ n : Nat, RepL T K ρ H (List.replicate n ds).flatten (List.replicate n vs).flatten
  | 0 => rfl
  | n + 1 => by
    rw [List.replicate_succ, List.replicate_succ, List.flatten_cons, List.flatten_cons]
    exact h.app (RepL.flat h n)
abbrev rAdd4 (X : Cx) : R2 := fun x y H Q => (fun x y H Q => ∃ i j, x = V.int i ∧ y = .int j ∧ Q (.int (i + j)) H) x y H Q ∨ (fun x y H Q => (fun x y H Q => ∃ i j, x = V.str i ∧ y = .str j ∧ i.length + j.length ≤ sizeLine ∧ Q (.str (i ++ j)) H) x y H Q ∨ (fun x y H Q => rCat x y H Q ∨ rCatA X.K x y H Q) x y H Q) x y H Q
theorem op_add4 : OpR X (binaryOp .Add) (rAdd4 X) := OpR.or op_add (OpR.or op_add_str (OpR.or op_cat op_catA))
theorem repL_nil {T : Str → Addr} {K : PySem.W.Frag} {ρ : Nat → Option Addr} {H : Hp} {ds : List D} {vs : List V} (h : RepL T K ρ H ds vs) : vs = [] ↔ ds = [] := by
  have e := h.len
  cases ds <;> cases vs <;> simp at e ⊢
theorem add_lists {W : WX} {σ : St} {ρ : Nat → Option Addr} {S : Sto} {Z : Hid} {H : Hp} {x y : D} {v u : V} {Q : VK} {a b : List D} (w : Wd T X.K ρ S Z H) (rx : Rep T X.K ρ (Fz ρ Z H) x v) (ry : Rep T X.K ρ (Fz ρ Z H) y u)
    (hx : asLT S x = some a) (hy : asLT S y = some b) (hl : a.length + b.length ≤ sizeLine) (g : Good T X.K (rD T X.K) W σ Q ρ Z H (.ok (.lst (a ++ b)) S)) : rAdd4 X v u H Q := by
  obtain ⟨p, vs, rfl, h1, h2⟩ := asLT_ok w rx hx
  obtain ⟨q, us, rfl, h3, h4⟩ := asLT_ok w ry hy
  refine .inr (.inr (.inl ⟨p, q, vs, us, rfl, rfl, h1, h3, by rw [← h2.len, ← h4.len]; exact hl, fun l hl => ?_⟩))
  obtain ⟨e, w', f⟩ := new_frz (o := .lst (vs ++ us)) w hl
  exact g _ _ ρ e w' ⟨l, _, rfl, f, (e.repL h2).app (e.repL h4)⟩
theorem ok_gAdd : Op2 T X (rAdd4 X) gAdd := by
  intro W σ ρ S Z H x y v u Q w rx ry g
  unfold gAdd at g
  split at g
  · cases rx
    cases ry
    exact .inl ⟨_, _, rfl, rfl, g.now w rfl⟩
  · split at g
    · rename_i hl
      cases rx
      cases ry
      exact .inr (.inl ⟨_, _, rfl, rfl, hl, g.now w rfl⟩)
    · exact g.elim
  · rename_i a b
    split at g
    · rename_i hl
      obtain ⟨p, vs, rfl, h1, h2⟩ := rx
      obtain ⟨q, us, rfl, h3, h4⟩ := ry
      refine .inr (.inr (.inr ⟨p, q, vs, us, rfl, rfl, Fz_sub.seqT h1, Fz_sub.seqT h3, by rw [← h2.len, ← h4.len]; exact hl, fun e => ?_, fun _ e => ?_, fun _ _ l hl => ?_⟩))
      · have ea : a = [] := (repL_nil h2).mp e
        subst ea
        exact g.now w ⟨q, us, rfl, h3, h4⟩
      · have eb : b = [] := (repL_nil h4).mp e
        subst eb
        rw [List.append_nil] at g
        exact g.now w ⟨p, vs, rfl, h1, h2⟩
      · obtain ⟨e, w', f⟩ := new_frz (o := .tup (vs ++ us)) w hl
        exact g _ _ ρ e w' ⟨l, _, rfl, SqT.of f, (e.repL h2).app (e.repL h4)⟩
    · exact g.elim
  · cases hx : asLT S x with
    | none =>
      rw [hx] at g
      exact g.elim
    | some a =>
      cases hy : asLT S y with
      | none =>
        rw [hx, hy] at g
        exact g.elim
      | some b =>
        rw [hx, hy] at g
        dsimp only at g
        split at g
        · rename_i hl
          exact add_lists w rx ry hx hy hl g
        · exact g.elim
theorem ok_gSub : Op2 T X (rI0 fun i j => .int (i - j)) gSub := by
  intro W σ ρ S Z H x y v u Q w rx ry g
  unfold gSub at g
  split at g
  · cases rx
    cases ry
    exact ⟨_, _, rfl, rfl, g.now w rfl⟩
  · exact g.elim
abbrev rMul3 (X : Cx) : R2 := fun x y H Q => rI CMulW (fun i j => .int (i * j)) x y H Q ∨ (fun x y H Q => rRep x y H Q ∨ rRepT X.K x y H Q) x y H Q
theorem op_mul3 : OpR X (binaryOp .Mult) (rMul3 X) := OpR.or op_mulW (OpR.or op_rep op_repT)
theorem ok_gMul : Op2 T X (rMul3 X) gMul := by
  intro W σ ρ S Z H x y v u Q w rx ry g
  unfold gMul at g
  split at g
  · split at g
    · rename_i hl
      cases rx
      cases ry
      exact .inl ⟨_, _, rfl, rfl, hl, g.now w rfl⟩
    · exact g.elim
  · rename_i a k
    split at g
    · rename_i hl
      obtain ⟨h0, h1, h2, h3⟩ := hl
      obtain ⟨p, vs, rfl, q1, q2⟩ := rx
      cases ry
      refine .inr (.inr ⟨p, k, vs, rfl, rfl, Fz_sub.seqT q1, fun e => h0 ((repL_nil q2).mp e), h1, h2, by rw [← q2.len]; exact h3, fun l hl => ?_⟩)
      obtain ⟨e, w', f⟩ := new_frz (o := .tup (List.replicate k.toNat vs).flatten) w hl
      exact g _ _ ρ e w' ⟨l, _, rfl, SqT.of f, (e.repL q2).flat _⟩
    · exact g.elim
  · rename_i k _ _
    cases hx : asLT S x with
    | none =>
      rw [hx] at g
      exact g.elim
    | some a =>
      rw [hx] at g
      dsimp only at g
      split at g
      · rename_i hl
        obtain ⟨h1, h2, h3⟩ := hl
        obtain ⟨p, vs, rfl, q1, q2⟩ := asLT_ok w rx hx
        cases ry
        refine .inr (.inl ⟨p, k, vs, rfl, rfl, q1, h1, h2, by rw [← q2.len]; exact h3, fun l hl => ?_⟩)
        obtain ⟨e, w', f⟩ := new_frz (o := .lst (List.replicate k.toNat vs).flatten) w hl
        exact g _ _ ρ e w' ⟨l, _, rfl, f, (e.repL q2).flat _⟩
      · exact g.elim
  · exact g.elim
theorem ok_gDiv : Op2 T X (rI CDivW fun i j => .int (i / j)) gDiv := by
  intro W σ ρ S Z H x y v u Q w rx ry g
  unfold gDiv at g
  split at g
  · split at g
    · rename_i hl
      cases rx
      cases ry
      exact ⟨_, _, rfl, rfl, hl, g.now w rfl⟩
    · exact g.elim
  · exact g.elim
theorem ok_gMod : Op2 T X (rI (fun _ j => 0 < j) fun i j => .int (i % j)) gMod := by
  intro W σ ρ S Z H x y v u Q w rx ry g
  unfold gMod at g
  split at g
  · split at g
    · rename_i hl
      cases rx
      cases ry
      exact ⟨_, _, rfl, rfl, hl, g.now w rfl⟩
    · exact g.elim
  · exact g.elim
theorem op_powW {X : Cx} : OpR X (binaryOp .Pow) (rI (fun i j => 0 ≤ j ∧ (Builtin.Int.intBits i : Int) * j ≤ 2 ^ 27) fun i j => .int (i ^ j.toNat)) := opI fun _ _ _ _ _ _ _ hc q => PyProof.Rows.pow_int hc.1 hc.2 q
theorem ok_gPow : Op2 T X (rI (fun i j => 0 ≤ j ∧ (Builtin.Int.intBits i : Int) * j ≤ 2 ^ 27) fun i j => .int (i ^ j.toNat)) gPow := by
  intro W σ ρ S Z H x y v u Q w rx ry g
  unfold gPow at g
  split at g
  · split at g
    · rename_i hl
      cases rx
      cases ry
      exact ⟨_, _, rfl, rfl, hl, g.now w rfl⟩
    · exact g.elim
  · exact g.elim
def gOrd (p : Int → Int → Bool) (x y : D) : Cm D := match x, y with
  | .int i, .int j => pure (.bl (p i j))
  | _, _ => stk
theorem ok_gOrd (p : Int → Int → Bool) : Op2 T X (rI0 fun i j => .bl (p i j)) (gOrd p) := by
  intro W σ ρ S Z H x y v u Q w rx ry g
  unfold gOrd at g
  split at g
  · cases rx
    cases ry
    exact ⟨_, _, rfl, rfl, g.now w rfl⟩
  · exact g.elim
end
mutual
/-- the data that a tree tells, f: what the cells tell -/
def deep0 (f : Nat → Option PyData) : D → Option PyData
  | .non => some .none
  | .bl b => some (.bool b)
  | .int i => some (.int i)
  | .str x => some (.str x)
  | .lst ds => (deepL f ds).map .list
  | .klst ds => (deepL f ds).map .list
  | .tup ds => (deepL f ds).map .tuple
  | .cell k => f k
  | .obj _ _ => none
  | .exn _ _ => none
  | .dK _ => none
  | .dT _ => none
  | .glob _ => none
  | .ty _ => none
def deepL (f : Nat → Option PyData) : List D → Option (List PyData)
  | [] => some []
  | d :: ds => match deep0 f d, deepL f ds with
    | some a, some b => some (a :: b)
    | _, _ => none
end
def deepC (S : Sto) : Nat → Nat → Option PyData
  | 0, _ => none
  | n + 1, k => match S[k]? with
    | some (.lst ds) => (deepL (deepC S n) ds).map .list
    | _ => none
def deep (S : Sto) (d : D) : Option PyData := deep0 (deepC S 4) d
section
variable {T : Str → Addr} {K : PySem.W.Frag} {ρ : Nat → Option Addr} {Z : Hid} {H : Hp} {S : Sto}
mutual
theorem deep0_dp {F : Hp} {f : Nat → Option PyData} (hs : Sub F H) (hf : ∀ k pd a, f k = some pd → ρ k = some a → Dp K H (.ref a) pd) : ∀ (d : D) (v : V) (pd : PyData), deep0 f d = some pd → Rep T K ρ F d v → Dp K H v pd
  | .non, v, pd, h, r => by
    cases h
    cases r
    exact .non
  | .bl b, v, pd, h, r => by
    cases h
    cases r
    exact .bl _
  | .int i, v, pd, h, r => by
    cases h
    cases r
    exact .int _
  | .str x, v, pd, h, r => by
    cases h
    cases r
    exact .str _
  | .lst ds, v, pd, h, r => by
    obtain ⟨a, vs, rfl, q, q2⟩ := r
    have h' : (deepL f ds).map PyData.list = some pd := h
    cases e : deepL f ds with
    | none =>
      rw [e] at h'
      cases h'
    | some l =>
      rw [e] at h'
      cases h'
      exact .lst (SqL.of (hs _ _ q)) (deepL_dp hs hf ds vs l e q2)
  | .klst ds, v, pd, h, r => by
    obtain ⟨a, vs, rfl, q, q2⟩ := r
    have h' : (deepL f ds).map PyData.list = some pd := h
    cases e : deepL f ds with
    | none =>
      rw [e] at h'
      cases h'
    | some l =>
      rw [e] at h'
      cases h'
      exact .lst (Sub.seqL hs q) (deepL_dp hs hf ds vs l e q2)
  | .tup ds, v, pd, h, r => by
    obtain ⟨a, vs, rfl, q, q2⟩ := r
    have h' : (deepL f ds).map PyData.tuple = some pd := h
    cases e : deepL f ds with
    | none =>
      rw [e] at h'
      cases h'
    | some l =>
      rw [e] at h'
      cases h'
      exact .tup (Sub.seqT hs q) (deepL_dp hs hf ds vs l e q2)
  | .cell k, v, pd, h, r => by
    obtain ⟨a, rfl, q⟩ := r
    exact hf k pd a h q
  | .obj _ _, _, _, h, _ => by cases h
  | .exn _ _, _, _, h, _ => by cases h
  | .dK _, _, _, h, _ => by cases h
  | .dT _, _, _, h, _ => by cases h
  | .glob _, _, _, h, _ => by cases h
  | .ty _, _, _, h, _ => by cases h
theorem deepL_dp {F : Hp} {f : Nat → Option PyData} (hs : Sub F H) (hf : ∀ k pd a, f k = some pd → ρ k = some a → Dp K H (.ref a) pd) : ∀ (ds : List D) (vs : List V) (l : List PyData), deepL f ds = some l → RepL T K ρ F ds vs → DpAll K H vs l
  | [], vs, l, h, r => by
    have r' : vs = [] := r
    subst r'
    cases h
    exact .nil
  | d :: ds, vs, l, h, r => by
    obtain ⟨v, us, rfl, r1, r2⟩ := r
    have h' : (match deep0 f d, deepL f ds with
      | some a, some b => some (a :: b)
      | _, _ => none) = some l := h
    cases e1 : deep0 f d with
    | none =>
      rw [e1] at h'
      cases h'
    | some a =>
      cases e2 : deepL f ds with
      | none =>
        rw [e1, e2] at h'
        cases h'
      | some b =>
        rw [e1, e2] at h'
        cases h'
        exact .cons (deep0_dp hs hf d v a e1 r1) (deepL_dp hs hf ds us b e2 r2)
end
theorem deepC_dp (w : Wd T K ρ S Z H) : ∀ (n k : Nat) (pd : PyData) (a : Addr), deepC S n k = some pd → ρ k = some a → Dp K H (.ref a) pd
  | 0, k, pd, a, h, _ => by cases h
  | n + 1, k, pd, a, h, e => by
    unfold deepC at h
    cases hc : S[k]? with
    | none =>
      rw [hc] at h
      cases h
    | some c =>
      rw [hc] at h
      obtain ⟨b, o, h1, h2, h3, h4⟩ := w.cells k c hc
      rw [e] at h1
      cases h1
      cases c with
      | lst ds =>
        obtain ⟨vs, rfl, q⟩ := h4
        cases e2 : deepL (deepC S n) ds with
        | none =>
          dsimp only at h
          rw [e2] at h
          cases h
        | some l =>
          dsimp only at h
          rw [e2] at h
          cases h
          exact .lst (SqL.of h3) (deepL_dp Fz_sub (fun k pd a h1 h2 => deepC_dp w n k pd a h1 h2) ds vs l e2 q)
      | _ => cases h
theorem deep_dp (w : Wd T K ρ S Z H) {d : D} {v : V} {pd : PyData} (h : deep S d = some pd) (r : Rep T K ρ (Fz ρ Z H) d v) : Dp K H v pd :=
  deep0_dp Fz_sub (fun k pd a h1 h2 => deepC_dp w 4 k pd a h1 h2) d v pd h r
end
def gEq (neg : Bool) (x y : D) : Cm D := fun S => match deep S x, deep S y with
  | some a, some b => if SeqAt.shaped a = true ∧ SeqAt.shaped b = true then .ok (.bl (if neg then !PyData.eqv a b else PyData.eqv a b)) S else .stuck
  | _, _ => .stuck
section
variable {T : Str → Addr} {X : Cx}
theorem ok_gEq : Op2 T X (rEqD X.K) (gEq false) := by
  intro W σ ρ S Z H x y v u Q w rx ry g
  unfold gEq at g
  split at g
  · rename_i a b h1 h2
    split at g
    · rename_i hs
      exact ⟨a, b, deep_dp w h1 rx, deep_dp w h2 ry, hs.1, hs.2, g.now w rfl⟩
    · exact g.elim
  · exact g.elim
theorem ok_gNe : Op2 T X (rNeD X.K) (gEq true) := by
  intro W σ ρ S Z H x y v u Q w rx ry g
  unfold gEq at g
  split at g
  · rename_i a b h1 h2
    split at g
    · rename_i hs
      exact ⟨a, b, deep_dp w h1 rx, deep_dp w h2 ry, hs.1, hs.2, g.now w rfl⟩
    · exact g.elim
  · exact g.elim
def gInL (neg : Bool) (x y : D) : Cm D := fun S => match deep S x, deep S y with
  | some a, some (.list ds) => if SeqAt.shaped a = true ∧ SeqAt.shaped (.list ds) = true then .ok (.bl (if neg then !(ds.any fun z => PyData.eqv z a) else ds.any fun z => PyData.eqv z a)) S else .stuck
  | _, _ => .stuck
theorem ok_gInL : Op2 T X (rInD X.K) (gInL false) := by
  intro W σ ρ S Z H x y v u Q w rx ry g
  unfold gInL at g
  split at g
  · rename_i a b h1 h2
    split at g
    · rename_i hs
      exact ⟨a, b, deep_dp w h1 rx, deep_dp w h2 ry, hs.1, hs.2, g.now w rfl⟩
    · exact g.elim
  · exact g.elim
theorem ok_gNotInL : Op2 T X (rNotInD X.K) (gInL true) := by
  intro W σ ρ S Z H x y v u Q w rx ry g
  unfold gInL at g
  split at g
  · rename_i a b h1 h2
    split at g
    · rename_i hs
      exact ⟨a, b, deep_dp w h1 rx, deep_dp w h2 ry, hs.1, hs.2, g.now w rfl⟩
    · exact g.elim
  · exact g.elim
def gInS (neg : Bool) (x y : D) : Cm D := match x, y with
  | .str c, .str z => if c.cps.size = 1 then pure (.bl (if neg then !decide (c.cps.getD 0 0 ∈ z.cps.toList) else decide (c.cps.getD 0 0 ∈ z.cps.toList))) else stk
  | _, _ => stk
theorem one_sign {c : Str} (h : c.cps.size = 1) : c = ⟨#[c.cps.getD 0 0]⟩ := by
  obtain ⟨l⟩ := c
  obtain ⟨l⟩ := l
  match l, h with
  | [x], _ => rfl
theorem ok_gInS : Op2 T X (fun x y H Q => ∃ (c : Nat) (z : Str), x = .str ⟨#[c]⟩ ∧ y = .str z ∧ Q (.bl (decide (c ∈ z.cps.toList))) H) (gInS false) := by
  intro W σ ρ S Z H x y v u Q w rx ry g
  unfold gInS at g
  split at g
  · split at g
    · rename_i c z hc
      cases rx
      cases ry
      exact ⟨c.cps.getD 0 0, z, congrArg V.str (one_sign hc), rfl, g.now w rfl⟩
    · exact g.elim
  · exact g.elim
theorem ok_gNotInS : Op2 T X (fun x y H Q => ∃ (c : Nat) (z : Str), x = .str ⟨#[c]⟩ ∧ y = .str z ∧ Q (.bl (!decide (c ∈ z.cps.toList))) H) (gInS true) := by
  intro W σ ρ S Z H x y v u Q w rx ry g
  unfold gInS at g
  split at g
  · split at g
    · rename_i c z hc
      cases rx
      cases ry
      exact ⟨c.cps.getD 0 0, z, congrArg V.str (one_sign hc), rfl, g.now w rfl⟩
    · exact g.elim
  · exact g.elim
def isNon : D → Bool
  | .non => true
  | _ => false
theorem isNon_ok {K : PySem.W.Frag} {ρ : Nat → Option Addr} {F : Hp} {d : D} {v : V} (r : Rep T K ρ F d v) : decide (v = .non) = isNon d := by
  cases d with
  | non => cases r; rfl
  | bl b => cases r; rfl
  | int i => cases r; rfl
  | str x => cases r; rfl
  | lst ds => obtain ⟨a, vs, rfl, _⟩ := r; rfl
  | klst ds => obtain ⟨a, vs, rfl, _⟩ := r; rfl
  | tup ds => obtain ⟨a, vs, rfl, _⟩ := r; rfl
  | obj C fs => obtain ⟨a, dx, vs, rfl, _⟩ := r; rfl
  | exn C fs => obtain ⟨a, dx, vs, rfl, _⟩ := r; rfl
  | dK kvs => obtain ⟨a, vs, rfl, _⟩ := r; rfl
  | dT kvs => obtain ⟨a, vs, rfl, _⟩ := r; rfl
  | cell k => obtain ⟨a, rfl, _⟩ := r; rfl
  | glob x => cases r; rfl
  | ty n => cases r; rfl
def gIsN (neg : Bool) (x y : D) : Cm D := match y with
  | .non => pure (.bl (if neg then !isNon x else isNon x))
  | _ => stk
theorem ok_gIsN : Op2 T X (fun x y H Q => y = .non ∧ Q (.bl (decide (x = .non))) H) (gIsN false) := by
  intro W σ ρ S Z H x y v u Q w rx ry g
  unfold gIsN at g
  split at g
  · cases ry
    exact ⟨rfl, g.now w (by rw [isNon_ok rx]; rfl)⟩
  · exact g.elim
end
end HT
set_option maxRecDepth 100000
set_option maxHeartbeats 4000000
namespace HT
open PySem PySem.Spec L2
def plusZ (Z : Hid) (p : Addr) : Hid := ⟨fun a => Z a ∨ a = p, Z.me⟩
def frzD : CO → D
  | .lst ds => .lst ds
  | .dK kvs => .dK kvs
  | .dT kvs => .dT kvs
  | .ins C fs => .obj C fs
section
variable {T : Str → Addr} {K : PySem.W.Frag} {ρ ρ' : Nat → Option Addr} {Z : Hid} {H H' : Hp} {S : Sto} {p : Addr} {o : HO} {c : CO}
structure Neu (T : Str → Addr) (K : PySem.W.Frag) (ρ : Nat → Option Addr) (Z : Hid) (H : Hp) (ρ' : Nat → Option Addr) (S' : Sto) (H' : Hp) (p : Addr) (c : CO) : Prop where
  cells : ∀ k a, ρ k = some a → ρ' k = some a
  frz : Sub (Fz ρ Z H) (Fz ρ' (plusZ Z p) H')
  hid : ∀ a, Z a → H' a = H a
  w : Wd T K ρ' S' (plusZ Z p) H'
  nz : ¬ Z p
  obj : ∃ o, H' p = some o ∧ HObj T K ρ' (Fz ρ' (plusZ Z p) H') c o
theorem fz_minus : Sub (Fz ρ (plusZ Z p) H) (Fz ρ Z H) := fun a o h => by
  obtain ⟨h1, h2, h3⟩ := Fz_at h
  exact Fz_mk h1 (fun z => h2 (.inl z)) h3
theorem Wd.minus (w : Wd T K ρ S (plusZ Z p) H) : Wd T K ρ S Z H :=
  ⟨w.dom, fun k c hc => by
    obtain ⟨a, o, h1, h2, h3, h4⟩ := w.cells k c hc
    exact ⟨a, o, h1, fun z => h2 (.inl z), h3, h4.mono (fun _ _ h => h) fz_minus⟩, w.inj, fun a z => w.there a (.inl z)⟩
theorem HObj.frzD {F : Hp} {F' : Hp} (h : HObj T K ρ F c o) (hs : Sub F F') (hp : F' p = some o) : Rep T K ρ F' (frzD c) (.ref p) := by
  have h' := HObj.mono (ρ' := ρ) (fun _ _ h => h) hs h
  cases c with
  | lst ds =>
    obtain ⟨vs, rfl, q⟩ := h'
    exact ⟨p, vs, rfl, hp, q⟩
  | dK kvs =>
    obtain ⟨vs, rfl, q⟩ := h'
    exact ⟨p, vs, rfl, hp, q⟩
  | dT kvs =>
    obtain ⟨vs, rfl, q⟩ := h'
    exact ⟨p, vs, rfl, hp, q⟩
  | ins C fs =>
    obtain ⟨dx, vs, rfl, q⟩ := h'
    exact ⟨p, dx, vs, rfl, hp, q⟩
theorem Neu.freeze (n : Neu T K ρ Z H ρ' S H' p c) : Ext ρ Z H ρ' H' ∧ Wd T K ρ' S Z H' ∧ Rep T K ρ' (Fz ρ' Z H') (frzD c) (.ref p) := by
  obtain ⟨o, h1, h2⟩ := n.obj
  have nr : ∀ k, ρ' k ≠ some p := fun k e => by
    have hk := n.w.dom k p e
    obtain ⟨a, u, g1, g2, _⟩ := n.w.cells k S[k] (List.getElem?_eq_getElem hk)
    rw [e] at g1
    cases g1
    exact g2 (.inr rfl)
  exact ⟨⟨n.cells, fun a u h => fz_minus a u (n.frz a u h), n.hid⟩, n.w.minus, h2.frzD fz_minus (Fz_mk h1 n.nz nr)⟩
theorem Neu.cell (n : Neu T K ρ Z H ρ' S H' p c) : Ext ρ Z H (more ρ' S.length p) H' ∧ Wd T K (more ρ' S.length p) (S ++ [c]) Z H' ∧ more ρ' S.length p S.length = some p := by
  obtain ⟨o, h1, h2⟩ := n.obj
  have w := n.w
  have old : ∀ k a, ρ' k = some a → more ρ' S.length p k = some a := fun k a e => by
    unfold more
    rw [if_neg (Nat.ne_of_lt (w.dom k a e))]
    exact e
  have inv : ∀ k a, more ρ' S.length p k = some a → (k = S.length ∧ a = p) ∨ ρ' k = some a := fun k a e => by
    unfold more at e
    split at e
    · rename_i hk
      exact .inl ⟨hk, (Option.some.inj e).symm⟩
    · exact .inr e
  have nr : ∀ k, ρ' k ≠ some p := fun k e => by
    have hk := w.dom k p e
    obtain ⟨a, u, g1, g2, _⟩ := w.cells k S[k] (List.getElem?_eq_getElem hk)
    rw [e] at g1
    cases g1
    exact g2 (.inr rfl)
  have sub : Sub (Fz ρ' (plusZ Z p) H') (Fz (more ρ' S.length p) Z H') := fun a u e => by
    obtain ⟨e1, e2, e3⟩ := Fz_at e
    refine Fz_mk e1 (fun z => e2 (.inl z)) fun k z => ?_
    rcases inv k a z with ⟨_, q⟩ | q
    · exact e2 (.inr q)
    · exact e3 k q
  refine ⟨⟨fun k a h => old k a (n.cells k a h), fun a u h => sub a u (n.frz a u h), n.hid⟩, ⟨fun k a e => ?_, fun k c' hc => ?_, fun j k a e1 e2 => ?_, fun a z => w.there a (.inl z)⟩, by unfold more; rw [if_pos rfl]⟩
  · rw [List.length_append, List.length_singleton]
    rcases inv k a e with ⟨q, _⟩ | q
    · omega
    · have := w.dom k a q
      omega
  · by_cases hk : k < S.length
    · rw [List.getElem?_append_left hk] at hc
      obtain ⟨a, u, g1, g2, g3, g4⟩ := w.cells k c' hc
      exact ⟨a, u, old k a g1, fun z => g2 (.inl z), g3, g4.mono old sub⟩
    · rw [List.getElem?_append_right (by omega)] at hc
      have hk0 : k = S.length := by
        have := (List.getElem?_eq_some_iff.mp hc).1
        rw [List.length_singleton] at this
        omega
      subst hk0
      rw [Nat.sub_self] at hc
      cases hc
      exact ⟨p, o, by unfold more; rw [if_pos rfl], n.nz, h1, h2.mono old sub⟩
  · rcases inv j a e1 with ⟨q1, q2⟩ | q1
    · rcases inv k a e2 with ⟨q3, _⟩ | q3
      · rw [q1, q3]
      · rw [q2] at q3
        exact absurd q3 (nr k)
    · rcases inv k a e2 with ⟨_, q4⟩ | q3
      · rw [q4] at q1
        exact absurd q1 (nr j)
      · exact w.inj j k a q1 q3
theorem new_neu (w : Wd T K ρ S Z H) (hp : H p = none) (h : HObj T K ρ (Fz ρ Z H) c o) : Neu T K ρ Z H ρ S (upd H p o) p c := by
  obtain ⟨nz, nr⟩ := fz_new w hp
  have ne : ∀ a u, H a = some u → a ≠ p := fun a u e z => by
    rw [z, hp] at e
    cases e
  have sub : Sub (Fz ρ Z H) (Fz ρ (plusZ Z p) (upd H p o)) := fun a u e => by
    obtain ⟨e1, e2, e3⟩ := Fz_at e
    refine Fz_mk (by rw [upd_ne (ne a u e1)]; exact e1) (fun z => ?_) e3
    rcases z with z | z
    · exact e2 z
    · exact ne a u e1 z
  refine ⟨fun _ _ h => h, sub, fun a z => upd_ne (fun e => nz (e ▸ z)), ⟨w.dom, fun k c hc => ?_, w.inj, fun a z => ?_⟩, nz, ⟨o, upd_same, h.mono (fun _ _ h => h) sub⟩⟩
  · obtain ⟨a, u, h1, h2, h3, h4⟩ := w.cells k c hc
    refine ⟨a, u, h1, fun z => ?_, by rw [upd_ne (ne a u h3)]; exact h3, h4.mono (fun _ _ h => h) sub⟩
    rcases z with z | z
    · exact h2 z
    · exact ne a u h3 z
  · rcases z with z | z
    · obtain ⟨u, e⟩ := w.there a z
      exact ⟨u, by rw [upd_ne (ne a u e)]; exact e⟩
    · exact ⟨o, by rw [z]; exact upd_same⟩
theorem Neu.after {ρ0 : Nat → Option Addr} {H0 : Hp} (x : Ext ρ0 Z H0 ρ H) (n : Neu T K ρ Z H ρ' S H' p c) : Neu T K ρ0 Z H0 ρ' S H' p c :=
  ⟨fun k a h => n.cells k a (x.cells k a h), fun a u h => n.frz a u (x.frz a u h), fun a z => (n.hid a z).trans (x.hid a z), n.w, n.nz, n.obj⟩
end
section
variable (T : Str → Addr) (K : PySem.W.Frag)
def GoodO (W : WX) (σ : St) (Q : VK) (ρ : Nat → Option Addr) (Z : Hid) (H : Hp) : R CO → Prop
  | .ok c S' => ∀ p H' ρ', Neu T K ρ Z H ρ' S' H' p c → Q (.ref p) H'
  | .exc C fs S' => ∀ dx vs H' ρ', Ext ρ Z H ρ' H' → Wd T K ρ' S' Z H' → XAt (Fz ρ' Z H') dx vs → RepF T K ρ' (Fz ρ' Z H') fs vs → W (.ref (T C)) dx σ H'
  | .stuck => False
def liftO (W : WX) (F : Env → Cm CO) : TE := fun σ H Q => ∃ ρ S Z env, Wd T K ρ S Z H ∧ ER T K ρ Z H σ env ∧ GoodO T K W σ Q ρ Z H (F env S)
end
abbrev OF (T : Str → Addr) (X : Cx) (W : WX) (e : Expr) (F : Env → Cm CO) : Prop := PE X e (liftO T X.K W F)
def fFrz (F : Env → Cm CO) : FE := fun env S => (F env S).bnd fun c S' => .ok (frzD c) S'
def fCell (F : Env → Cm CO) : FE := fun env S => (F env S).bnd fun c S' => .ok (.cell S'.length) (S' ++ [c])
section
variable {T : Str → Addr} {X : Cx} {W : WX} {e : Expr} {F : Env → Cm CO}
theorem pf_frz (h : OF T X W e F) : PF T X W e (fFrz F) := by
  refine pe_imp h fun σ H Q q => ?_
  obtain ⟨ρ, S, Z, env, w, er, g⟩ := q
  refine ⟨ρ, S, Z, env, w, er, ?_⟩
  unfold fFrz at g
  cases hF : F env S with
  | ok c S' =>
    rw [hF] at g
    intro p H' ρ' n
    obtain ⟨x, w', r⟩ := n.freeze
    exact g _ H' ρ' x w' r
  | exc C fs S' =>
    rw [hF] at g
    exact g
  | stuck =>
    rw [hF] at g
    exact g
theorem pf_cell (h : OF T X W e F) : PF T X W e (fCell F) := by
  refine pe_imp h fun σ H Q q => ?_
  obtain ⟨ρ, S, Z, env, w, er, g⟩ := q
  refine ⟨ρ, S, Z, env, w, er, ?_⟩
  unfold fCell at g
  cases hF : F env S with
  | ok c S' =>
    rw [hF] at g
    intro p H' ρ' n
    obtain ⟨x, w', r⟩ := n.cell
    exact g _ H' _ x w' ⟨p, rfl, r⟩
  | exc C fs S' =>
    rw [hF] at g
    exact g
  | stuck =>
    rw [hF] at g
    exact g
end
def aNil : Env → Cm (List D) := fun _ => pure []
def aCons (Fa : FE) (Fr : Env → Cm (List D)) : Env → Cm (List D) := fun env S => (Fa env S).bnd fun x S1 => (Fr env S1).bnd fun xs S2 => .ok (x :: xs) S2
section
variable {T : Str → Addr} {X : Cx} {W : WX} {e : Expr} {es : List Expr} {Fa : FE} {Fr : Env → Cm (List D)} {pos : Pos}
theorem af_nil : AF T X W [] aNil := by
  refine pa_imp pa_nil fun σ H Q q => ?_
  obtain ⟨ρ, S, Z, env, w, er, g⟩ := q
  exact g [] H ρ .refl w rfl
theorem af_cons (ha : PF T X W e Fa) (hr : AF T X W es Fr) (hs : starEach (e :: es) X.env = (false, eval e X.env) :: starEach es X.env := by rfl) : AF T X W (e :: es) (aCons Fa Fr) := by
  refine pa_imp (pa_cons ha hr hs) fun σ H Q q => ?_
  obtain ⟨ρ, S, Z, env, w, er, g⟩ := q
  refine lift_imp (lift_bnd w er g) fun v H1 ⟨ρ1, S1, d1, x1, w1, e1, r1, g1⟩ => ?_
  refine lift_imp (lift_bnd w1 e1 g1) fun vs H2 ⟨ρ2, S2, d2, x2, w2, e2, r2, g2⟩ => ?_
  exact g2 (v :: vs) H2 ρ2 .refl w2 ⟨v, vs, rfl, x2.rep r1, r2⟩
def oLst (Fr : Env → Cm (List D)) : Env → Cm CO := fun env S => (Fr env S).bnd fun xs S1 => if xs.length ≤ sizeLine then .ok (.lst xs) S1 else .stuck
theorem lift_bndO {β α : Type} {rel : Rl α β} {K : PySem.W.Frag} {σ : St} {ρ : Nat → Option Addr} {S : Sto} {Z : Hid} {H : Hp} {env : Env} {Q : VK} {F : Env → Cm α} {k : α → Cm CO} (w : Wd T K ρ S Z H) (e : ER T K ρ Z H σ env) (g : GoodO T K W σ Q ρ Z H ((F env S).bnd k)) :
    lift T K rel W F σ H fun v H' => ∃ ρ' S' d, Ext ρ Z H ρ' H' ∧ Wd T K ρ' S' Z H' ∧ ER T K ρ' Z H' σ env ∧ rel ρ' (Fz ρ' Z H') d v ∧ GoodO T K W σ Q ρ' Z H' (k d S') := by
  refine ⟨ρ, S, Z, env, w, e, ?_⟩
  cases h : F env S with
  | ok d S' =>
    rw [h] at g
    refine fun v H' ρ' x w' q => ⟨ρ', S', d, x, w', e.ext x, q, ?_⟩
    cases hk : k d S' with
    | ok c S2 =>
      rw [show ((R.ok d S').bnd k) = k d S' from rfl, hk] at g
      exact fun p H2 ρ2 n => g p H2 ρ2 (n.after x)
    | exc C fs S2 =>
      rw [show ((R.ok d S').bnd k) = k d S' from rfl, hk] at g
      exact fun dx vs H2 ρ2 x2 => g dx vs H2 ρ2 (x.trans x2)
    | stuck =>
      rw [show ((R.ok d S').bnd k) = k d S' from rfl, hk] at g
      exact g
  | exc C fs S' =>
    rw [h] at g
    exact g
  | stuck =>
    rw [h] at g
    exact g
theorem of_lst (h : AF T X W es Fr) : OF T X W (.List es pos) (oLst Fr) := by
  refine pe_imp (pe_lst h) fun σ H Q q => ?_
  obtain ⟨ρ, S, Z, env, w, er, g⟩ := q
  refine lift_imp (lift_bndO w er g) fun vs H1 ⟨ρ1, S1, d1, x1, w1, e1, r1, g1⟩ => ?_
  change GoodO _ _ _ _ _ _ _ _ (if d1.length ≤ sizeLine then _ else _) at g1
  split at g1
  · rename_i hl
    refine ⟨by rw [← r1.len]; exact hl, fun p hp => g1 p _ ρ1 (new_neu w1 hp ⟨vs, rfl, r1⟩)⟩
  · exact g1.elim
def fTup (Fr : Env → Cm (List D)) : FE := fun env S => (Fr env S).bnd fun xs S1 => if xs.length ≤ sizeLine then .ok (.tup xs) S1 else .stuck
theorem pf_tup {x1 : Nat} (h : AF T X W es Fr) : PF T X W (.Tuple es x1 pos) (fTup Fr) := by
  refine pe_imp (pe_tup h) fun σ H Q q => ?_
  obtain ⟨ρ, S, Z, env, w, er, g⟩ := q
  refine lift_imp (lift_bnd w er g) fun vs H1 ⟨ρ1, S1, d1, x1, w1, e1, r1, g1⟩ => ?_
  change Good _ _ _ _ _ _ _ _ _ (if d1.length ≤ sizeLine then _ else _) at g1
  split at g1
  · rename_i hl
    refine ⟨by rw [← r1.len]; exact hl, fun p hp => ?_⟩
    obtain ⟨x2, w2, f⟩ := new_frz (o := .tup vs) w1 hp
    exact g1 _ _ ρ1 x2 w2 ⟨p, vs, rfl, SqT.of f, x2.repL r1⟩
  · exact g1.elim
end
end HT
set_option maxRecDepth 100000
set_option maxHeartbeats 4000000
namespace HT
open PySem PySem.Spec L2
inductive Fl where
  | nx (env : Env) | rt (d : D) | bk (env : Env) | ct (env : Env) | xc (env : Env) (C : Str) (fs : List (Str × D))
abbrev FS := Env → Cm Fl
structure OW (Z0 Z : Hid) (σ : St) (env : Env) : Prop where
  sub : ∀ a, Z0 a → Z a
  own : ∀ (i : Nat) (c : CO) (a : Addr), env[i]? = some (.own c) → σ[i]? = some (some (V.ref a)) → Z a ∧ ¬ Z0 a
  apart : ∀ (i j : Nat) (c c' : CO) (a : Addr), env[i]? = some (.own c) → env[j]? = some (.own c') → σ[i]? = some (some (V.ref a)) → σ[j]? = some (some (V.ref a)) → i = j
  me : Z.me = Z0.me
  slf : ∀ (i : Nat) (c : CO), env[i]? = some (.slf c) → ¬ Z0 Z.me
  apart2 : ∀ (i j : Nat) (c c' : CO) (a : Addr), env[i]? = some (.own c) → env[j]? = some (.slf c') → σ[i]? = some (some (V.ref a)) → a ≠ Z.me
  one : ∀ (i j : Nat) (c c' : CO), env[i]? = some (.slf c) → env[j]? = some (.slf c') → i = j
structure ExtS (ρ : Nat → Option Addr) (Z0 Z : Hid) (H : Hp) (ρ' : Nat → Option Addr) (Z' : Hid) (H' : Hp) : Prop where
  cells : ∀ k a, ρ k = some a → ρ' k = some a
  frz : Sub (Fz ρ Z H) (Fz ρ' Z' H')
  hid : ∀ a, Z0 a → H' a = H a
theorem ExtS.refl {ρ : Nat → Option Addr} {Z0 Z : Hid} {H : Hp} : ExtS ρ Z0 Z H ρ Z H := ⟨fun _ _ h => h, fun _ _ h => h, fun _ _ => rfl⟩
theorem ExtS.trans {ρ ρ1 ρ2 : Nat → Option Addr} {Z0 Z Z1 Z2 : Hid} {H H1 H2 : Hp} (a : ExtS ρ Z0 Z H ρ1 Z1 H1) (b : ExtS ρ1 Z0 Z1 H1 ρ2 Z2 H2) : ExtS ρ Z0 Z H ρ2 Z2 H2 :=
  ⟨fun k x h => b.cells k x (a.cells k x h), fun x o h => b.frz x o (a.frz x o h), fun x h => (b.hid x h).trans (a.hid x h)⟩
theorem Ext.s {ρ ρ' : Nat → Option Addr} {Z0 Z : Hid} {H H' : Hp} (x : Ext ρ Z H ρ' H') (h : ∀ a, Z0 a → Z a) : ExtS ρ Z0 Z H ρ' Z H' := ⟨x.cells, x.frz, fun a z => x.hid a (h a z)⟩
structure At (T : Str → Addr) (K : PySem.W.Frag) (ρ : Nat → Option Addr) (S : Sto) (Z0 Z : Hid) (H : Hp) (σ : St) (env : Env) : Prop where
  w : Wd T K ρ S Z H
  e : ER T K ρ Z H σ env
  o : OW Z0 Z σ env
theorem At.ext {T : Str → Addr} {K : PySem.W.Frag} {ρ ρ' : Nat → Option Addr} {S S' : Sto} {Z0 Z : Hid} {H H' : Hp} {σ : St} {env : Env} (a : At T K ρ S Z0 Z H σ env) (x : Ext ρ Z H ρ' H') (w : Wd T K ρ' S' Z H') : At T K ρ' S' Z0 Z H' σ env := ⟨w, a.e.ext x, a.o⟩
section
variable (T : Str → Addr) (K : PySem.W.Frag)
def GoodF (W : WX) (B : Ends) (ρ : Nat → Option Addr) (Z0 Z : Hid) (H : Hp) (S' : Sto) : Fl → Prop
  | .nx env' => ∀ σ' H' ρ' Z', ExtS ρ Z0 Z H ρ' Z' H' → At T K ρ' S' Z0 Z' H' σ' env' → B.nx σ' H'
  | .bk env' => ∀ σ' H' ρ' Z', ExtS ρ Z0 Z H ρ' Z' H' → At T K ρ' S' Z0 Z' H' σ' env' → B.bk σ' H'
  | .ct env' => ∀ σ' H' ρ' Z', ExtS ρ Z0 Z H ρ' Z' H' → At T K ρ' S' Z0 Z' H' σ' env' → B.ct σ' H'
  | .rt d => ∀ v H' ρ' Z', ExtS ρ Z0 Z H ρ' Z' H' → (∀ a, Z0 a → Z' a) → Wd T K ρ' S' Z' H' → Rep T K ρ' (Fz ρ' Z' H') d v → B.rt v H'
  | .xc env' C fs => ∀ σ' dx vs H' ρ' Z', ExtS ρ Z0 Z H ρ' Z' H' → At T K ρ' S' Z0 Z' H' σ' env' → XAt (Fz ρ' Z' H') dx vs → RepF T K ρ' (Fz ρ' Z' H') fs vs → W (.ref (T C)) dx σ' H'
def GoodS (W : WX) (B : Ends) (ρ : Nat → Option Addr) (Z0 Z : Hid) (H : Hp) : R Fl → Prop
  | .ok f S' => GoodF T K W B ρ Z0 Z H S' f
  | _ => False
def liftS (W : WX) (F : FS) : TS := fun B σ H => ∃ ρ S Z0 Z env, At T K ρ S Z0 Z H σ env ∧ GoodS T K W B ρ Z0 Z H (F env S)
end
abbrev SF (T : Str → Addr) (X : Cx) (W : WX) (st : Stmt) (F : FS) : Prop := PS X st (liftS T X.K W F)
abbrev SFs (T : Str → Addr) (X : Cx) (W : WX) (st : List Stmt) (F : FS) : Prop := PSs X st (liftS T X.K W F)
theorem ps_imp {X : Cx} {st : Stmt} {t t' : TS} (h : PS X st t) (i : ∀ B σ H, t' B σ H → t B σ H) : PS X st t' := ⟨fun pins s σ H B I q => h.run pins s σ H B I (i B σ H q)⟩
theorem pss_imp {X : Cx} {st : List Stmt} {t t' : TS} (h : PSs X st t) (i : ∀ B σ H, t' B σ H → t B σ H) : PSs X st t' := ⟨fun pins s σ H B I q => h.run pins s σ H B I (i B σ H q)⟩
def sB {α : Type} (env : Env) (r : R α) (k : α → Sto → R Fl) : R Fl := match r with
  | .ok d S => k d S
  | .exc C fs S => .ok (.xc env C fs) S
  | .stuck => .stuck
section
variable {T : Str → Addr} {K : PySem.W.Frag} {W : WX} {B B' : Ends} {ρ ρ1 : Nat → Option Addr} {Z0 Z Z1 : Hid} {H H1 : Hp} {S : Sto} {σ : St} {env : Env}
theorem GoodF.later {f : Fl} {S' : Sto} (g : GoodF T K W B ρ Z0 Z H S' f) (x : ExtS ρ Z0 Z H ρ1 Z1 H1) : GoodF T K W B ρ1 Z0 Z1 H1 S' f := by
  cases f with
  | nx e => exact fun σ' H' ρ' Z' y a => g σ' H' ρ' Z' (x.trans y) a
  | bk e => exact fun σ' H' ρ' Z' y a => g σ' H' ρ' Z' (x.trans y) a
  | ct e => exact fun σ' H' ρ' Z' y a => g σ' H' ρ' Z' (x.trans y) a
  | rt d => exact fun v H' ρ' Z' y a => g v H' ρ' Z' (x.trans y) a
  | xc e C fs => exact fun σ' dx vs H' ρ' Z' y a => g σ' dx vs H' ρ' Z' (x.trans y) a
theorem GoodS.later {r : R Fl} (g : GoodS T K W B ρ Z0 Z H r) (x : ExtS ρ Z0 Z H ρ1 Z1 H1) : GoodS T K W B ρ1 Z0 Z1 H1 r := by
  cases r with
  | ok f S' => exact GoodF.later (show GoodF T K W B ρ Z0 Z H S' f from g) x
  | exc C fs S' => exact g
  | stuck => exact g
theorem lift_sB {α β : Type} {rel : Rl α β} {F : Env → Cm α} {k : α → Sto → R Fl} (a : At T K ρ S Z0 Z H σ env) (g : GoodS T K W B ρ Z0 Z H (sB env (F env S) k)) :
    lift T K rel W F σ H fun v H' => ∃ ρ' S' d, Ext ρ Z H ρ' H' ∧ At T K ρ' S' Z0 Z H' σ env ∧ rel ρ' (Fz ρ' Z H') d v ∧ GoodS T K W B ρ' Z0 Z H' (k d S') := by
  refine ⟨ρ, S, Z, env, a.w, a.e, ?_⟩
  cases h : F env S with
  | ok d S' =>
    rw [h] at g
    exact fun v H' ρ' x w' q => ⟨ρ', S', d, x, a.ext x w', q, GoodS.later (show GoodS T K W B ρ Z0 Z H (k d S') from g) (x.s a.o.sub)⟩
  | exc C fs S' =>
    rw [h] at g
    exact fun dx vs H' ρ' x w' q1 q2 => (show GoodF T K W B ρ Z0 Z H S' (.xc env C fs) from g) σ dx vs H' ρ' Z (x.s a.o.sub) (a.ext x w') q1 q2
  | stuck =>
    rw [h] at g
    exact g
theorem At.set {i : Nat} {d : D} {v : V} (a : At T K ρ S Z0 Z H σ env) (hv : Rep T K ρ (Fz ρ Z H) d v) : At T K ρ S Z0 Z H (σ.set i (some v)) (env.set i (.val d)) := by
  have hl := a.e.len
  have bnd : ∀ {j : Nat} {s : Sl}, (env.set i (.val d))[j]? = some s → i = j → i < env.length := fun {j s} h q => by
    have := (List.getElem?_eq_some_iff.mp h).1
    rw [List.length_set] at this
    omega
  have oldS : ∀ {j : Nat} {c : CO}, (env.set i (.val d))[j]? = some (.slf c) → env[j]? = some (.slf c) ∧ i ≠ j := fun {j c} h => by
    by_cases hj : i = j
    · have hi := bnd h hj
      subst hj
      rw [List.getElem?_set_self hi] at h
      cases h
    · rw [List.getElem?_set_ne hj] at h
      exact ⟨h, hj⟩
  have oldO : ∀ {j : Nat} {c : CO}, (env.set i (.val d))[j]? = some (.own c) → env[j]? = some (.own c) ∧ i ≠ j := fun {j c} h => by
    by_cases hj : i = j
    · have hi := bnd h hj
      subst hj
      rw [List.getElem?_set_self hi] at h
      cases h
    · rw [List.getElem?_set_ne hj] at h
      exact ⟨h, hj⟩
  refine ⟨a.w, ⟨fun j d' h => ?_, fun j c h => ?_, fun j c h => ?_, by rw [List.length_set, List.length_set]; exact hl⟩, ⟨a.o.sub, fun j c b h1 h2 => ?_, fun j k c c' b h1 h2 h3 h4 => ?_, a.o.me, fun j c h => a.o.slf j c (oldS h).1,
    fun j k c c' b h1 h2 h3 => ?_, fun j k c c' h1 h2 => a.o.one j k c c' (oldS h1).1 (oldS h2).1⟩⟩
  · by_cases hj : i = j
    · subst hj
      have hi : i < env.length := by
        have := (List.getElem?_eq_some_iff.mp h).1
        rw [List.length_set] at this
        exact this
      rw [List.getElem?_set_self hi] at h
      cases h
      exact ⟨v, List.getElem?_set_self (by omega), hv⟩
    · rw [List.getElem?_set_ne hj] at h
      obtain ⟨w, h1, h2⟩ := a.e.val j d' h
      exact ⟨w, by rw [List.getElem?_set_ne hj]; exact h1, h2⟩
  · obtain ⟨h', hj⟩ := oldO h
    obtain ⟨b, o, h1, h2⟩ := a.e.own j c h'
    exact ⟨b, o, by rw [List.getElem?_set_ne hj]; exact h1, h2⟩
  · obtain ⟨h', hj⟩ := oldS h
    obtain ⟨o, h1, h2⟩ := a.e.slf j c h'
    exact ⟨o, by rw [List.getElem?_set_ne hj]; exact h1, h2⟩
  · by_cases hj : i = j
    · subst hj
      have hi : i < env.length := by
        have := (List.getElem?_eq_some_iff.mp h1).1
        rw [List.length_set] at this
        exact this
      rw [List.getElem?_set_self hi] at h1
      cases h1
    · rw [List.getElem?_set_ne hj] at h1 h2
      exact a.o.own j c b h1 h2
  · by_cases hj : i = j
    · subst hj
      have hi : i < env.length := by
        have := (List.getElem?_eq_some_iff.mp h1).1
        rw [List.length_set] at this
        exact this
      rw [List.getElem?_set_self hi] at h1
      cases h1
    · by_cases hk : i = k
      · subst hk
        have hi : i < env.length := by
          have := (List.getElem?_eq_some_iff.mp h2).1
          rw [List.length_set] at this
          exact this
        rw [List.getElem?_set_self hi] at h2
        cases h2
      · rw [List.getElem?_set_ne hj] at h1 h3
        rw [List.getElem?_set_ne hk] at h2 h4
        exact a.o.apart j k c c' b h1 h2 h3 h4
  · obtain ⟨h1', hj⟩ := oldO h1
    rw [List.getElem?_set_ne hj] at h3
    exact a.o.apart2 j k c c' b h1' (oldS h2).1 h3
end
def sNil : FS := fun env S => .ok (.nx env) S
def sSeq (F G : FS) : FS := fun env S => match F env S with
  | .ok (.nx env') S' => G env' S'
  | r => r
def sExpr {α : Type} (F : Env → Cm α) : FS := fun env S => sB env (F env S) fun _ S' => .ok (.nx env) S'
def sRet (F : FE) : FS := fun env S => sB env (F env S) fun d S' => .ok (.rt d) S'
def sSet (i : Nat) (F : FE) : FS := fun env S => sB env (F env S) fun d S' => .ok (.nx (env.set i (.val d))) S'
def sIf (C : Env → Cm Bool) (F G : FS) : FS := fun env S => sB env (C env S) fun b S' => if b = true then F env S' else G env S'
section
variable {T : Str → Addr} {X : Cx} {W : WX} {st : Stmt} {rest : List Stmt} {F G : FS} {e : Expr} {Fe : FE} {pos : Pos}
theorem sfs_nil : SFs T X W [] sNil := pss_imp pss_nil fun B σ H q => by
  obtain ⟨ρ, S, Z0, Z, env, a, g⟩ := q
  exact (show GoodF T X.K W B ρ Z0 Z H S (.nx env) from g) σ H ρ Z .refl a
theorem sfs_cons (h1 : SF T X W st F) (h2 : SFs T X W rest G) : SFs T X W (st :: rest) (sSeq F G) := pss_imp (pss_cons h1 h2) fun B σ H q => by
  obtain ⟨ρ, S, Z0, Z, env, a, g⟩ := q
  refine ⟨ρ, S, Z0, Z, env, a, ?_⟩
  unfold sSeq at g
  cases hF : F env S with
  | ok f S' =>
    rw [hF] at g
    cases f with
    | nx env' => exact fun σ' H' ρ' Z' x a' => ⟨ρ', S', Z0, Z', env', a', GoodS.later (show GoodS T X.K W B ρ Z0 Z H (G env' S') from g) x⟩
    | _ => exact g
  | exc C fs S' =>
    rw [hF] at g
    exact g
  | stuck =>
    rw [hF] at g
    exact g
theorem sfs_one (h1 : SF T X W st F) : SFs T X W [st] F := pss_one h1
theorem sf_expr (he : PF T X W e Fe) (hs : swapsWith e none pos.line X.env = pure false := by rfl) : SF T X W (.Expr e pos) (sExpr Fe) := ps_imp (ps_expr he hs) fun B σ H q => by
  obtain ⟨ρ, S, Z0, Z, env, a, g⟩ := q
  exact lift_imp (lift_sB a g) fun v H1 ⟨ρ1, S1, d1, x1, a1, r1, g1⟩ => (show GoodF T X.K W B ρ1 Z0 Z H1 S1 (.nx env) from g1) σ H1 ρ1 Z .refl a1
theorem sf_ret (he : PF T X W e Fe) : SF T X W (.Return (some e) pos) (sRet Fe) := ps_imp (ps_ret he) fun B σ H q => by
  obtain ⟨ρ, S, Z0, Z, env, a, g⟩ := q
  exact lift_imp (lift_sB a g) fun v H1 ⟨ρ1, S1, d1, x1, a1, r1, g1⟩ => (show GoodF T X.K W B ρ1 Z0 Z H1 S1 (.rt d1) from g1) v H1 ρ1 Z .refl a1.o.sub a1.w r1
theorem sf_set {i : Nat} {x : Str} {pos' : Pos} (hN : X.N.Nodup) (hi : X.N[i]? = some x) (hx : Loc X.env.scope x) (he : PF T X W e Fe) (hs : swapsWith e (some (.Name x pos')) pos.line X.env = pure false := by rfl) (hf : X.fn x = true ∨ X.env.scope.names.lookup x = some .local := by first | exact .inl rfl | exact .inr rfl | assumption) :
    SF T X W (.Assign [.Name x pos'] e pos) (sSet i Fe) := ps_imp (ps_set hN hi hx he hs hf) fun B σ H q => by
  obtain ⟨ρ, S, Z0, Z, env, a, g⟩ := q
  exact lift_imp (lift_sB a g) fun v H1 ⟨ρ1, S1, d1, x1, a1, r1, g1⟩ => (show GoodF T X.K W B ρ1 Z0 Z H1 S1 (.nx (env.set i (.val d1))) from g1) _ H1 ρ1 Z .refl (a1.set r1)
theorem sf_if {c : Expr} {sa sb : List Stmt} {Fc : Env → Cm Bool} (hc : TF T X W c Fc) (ha : SFs T X W sa F) (hb : SFs T X W sb G) : SF T X W (.If c sa sb pos) (sIf Fc F G) := ps_imp (ps_if hc ha hb) fun B σ H q => by
  obtain ⟨ρ, S, Z0, Z, env, a, g⟩ := q
  refine lift_imp (lift_sB a g) fun v H1 ⟨ρ1, S1, d1, x1, a1, r1, g1⟩ => ?_
  have e : d1 = v := r1
  subst e
  cases d1 with
  | true => exact iteT ⟨ρ1, S1, Z0, Z, env, a1, g1⟩
  | false => exact iteF ⟨ρ1, S1, Z0, Z, env, a1, g1⟩
end
end HT
set_option maxRecDepth 100000
set_option maxHeartbeats 4000000
namespace HT
open PySem PySem.Spec L2
section
variable {T : Str → Addr} {K : PySem.W.Frag} {ρ : Nat → Option Addr} {S : Sto} {Z0 Z : Hid} {H : Hp} {σ : St} {env : Env} {I : Nat → Bool}
end
end HT
set_option maxRecDepth 100000
set_option maxHeartbeats 4000000
namespace HT
open PySem PySem.Spec L2
mutual
def eqD : D → D → Bool
  | .non => fun y => (match y with | .non => true | _ => false)
  | .bl a => fun y => (match y with | .bl b => a == b | _ => false)
  | .int a => fun y => (match y with | .int b => a == b | _ => false)
  | .str a => fun y => (match y with | .str b => decide (a = b) | _ => false)
  | .lst a => fun y => (match y with | .lst b => eqL a b | _ => false)
  | .klst a => fun y => (match y with | .klst b => eqL a b | _ => false)
  | .tup a => fun y => (match y with | .tup b => eqL a b | _ => false)
  | .obj C a => fun y => (match y with | .obj C' b => decide (C = C') && eqF a b | _ => false)
  | .exn C a => fun y => (match y with | .exn C' b => decide (C = C') && eqF a b | _ => false)
  | .dK a => fun y => (match y with | .dK b => eqK a b | _ => false)
  | .dT a => fun y => (match y with | .dT b => eqT a b | _ => false)
  | .cell a => fun y => (match y with | .cell b => a == b | _ => false)
  | .glob a => fun y => (match y with | .glob b => decide (a = b) | _ => false)
  | .ty a => fun y => (match y with | .ty b => decide (a = b) | _ => false)
termination_by structural x => x
def eqL : List D → List D → Bool
  | [] => fun ys => ys.isEmpty
  | x :: xs => fun ys => (match ys with | y :: r => eqD x y && eqL xs r | [] => false)
termination_by structural x => x
def eqF : List (Str × D) → List (Str × D) → Bool
  | [] => fun ys => ys.isEmpty
  | p :: xs => fun ys => (match ys with | q :: r => decide (p.1 = q.1) && (eqD p.2 q.2 && eqF xs r) | [] => false)
termination_by structural x => x
def eqK : List (Key × D) → List (Key × D) → Bool
  | [] => fun ys => ys.isEmpty
  | p :: xs => fun ys => (match ys with | q :: r => decide (p.1 = q.1) && (eqD p.2 q.2 && eqK xs r) | [] => false)
termination_by structural x => x
def eqT : List (List Key × D) → List (List Key × D) → Bool
  | [] => fun ys => ys.isEmpty
  | p :: xs => fun ys => (match ys with | q :: r => decide (p.1 = q.1) && (eqD p.2 q.2 && eqT xs r) | [] => false)
termination_by structural x => x
end
theorem bAnd {a b : Bool} (h : (a && b) = true) : a = true ∧ b = true := Bool.and_eq_true_iff.mp h
mutual
theorem eqD_eq : ∀ x y : D, eqD x y = true → x = y
  | .non => fun y h => by cases y <;> first | rfl | cases h
  | .bl a => fun y h => by
    cases y with
    | bl b => rw [eq_of_beq (show (a == b) = true from h)]
    | _ => cases h
  | .int a => fun y h => by
    cases y with
    | int b => rw [eq_of_beq (show (a == b) = true from h)]
    | _ => cases h
  | .str a => fun y h => by
    cases y with
    | str b => rw [of_decide_eq_true (show decide (a = b) = true from h)]
    | _ => cases h
  | .lst a => fun y h => by
    cases y with
    | lst b => rw [eqL_eq a b h]
    | _ => cases h
  | .klst a => fun y h => by
    cases y with
    | klst b => rw [eqL_eq a b h]
    | _ => cases h
  | .tup a => fun y h => by
    cases y with
    | tup b => rw [eqL_eq a b h]
    | _ => cases h
  | .obj C a => fun y h => by
    cases y with
    | obj C' b =>
      obtain ⟨h1, h2⟩ := bAnd (show (decide (C = C') && eqF a b) = true from h)
      rw [of_decide_eq_true h1, eqF_eq a b h2]
    | _ => cases h
  | .exn C a => fun y h => by
    cases y with
    | exn C' b =>
      obtain ⟨h1, h2⟩ := bAnd (show (decide (C = C') && eqF a b) = true from h)
      rw [of_decide_eq_true h1, eqF_eq a b h2]
    | _ => cases h
  | .dK a => fun y h => by
    cases y with
    | dK b => rw [eqK_eq a b h]
    | _ => cases h
  | .dT a => fun y h => by
    cases y with
    | dT b => rw [eqT_eq a b h]
    | _ => cases h
  | .cell a => fun y h => by
    cases y with
    | cell b => rw [eq_of_beq (show (a == b) = true from h)]
    | _ => cases h
  | .glob a => fun y h => by
    cases y with
    | glob b => rw [of_decide_eq_true (show decide (a = b) = true from h)]
    | _ => cases h
  | .ty a => fun y h => by
    cases y with
    | ty b => rw [of_decide_eq_true (show decide (a = b) = true from h)]
    | _ => cases h
termination_by structural x => x
theorem eqL_eq : ∀ x y : List D, eqL x y = true → x = y
  | [] => fun y h => by cases y <;> first | rfl | cases h
  | a :: x => fun y h => by
    cases y with
    | nil => cases h
    | cons b y =>
      obtain ⟨h1, h2⟩ := bAnd (show (eqD a b && eqL x y) = true from h)
      rw [eqD_eq a b h1, eqL_eq x y h2]
termination_by structural x => x
theorem eqF_eq : ∀ x y : List (Str × D), eqF x y = true → x = y
  | [] => fun y h => by cases y <;> first | rfl | cases h
  | p :: x => fun y h => by
    cases y with
    | nil => cases h
    | cons q y =>
      obtain ⟨h0, h'⟩ := bAnd (show (decide (p.1 = q.1) && (eqD p.2 q.2 && eqF x y)) = true from h)
      obtain ⟨h1, h2⟩ := bAnd h'
      have e2 := eqD_eq p.2 q.2 h1
      obtain ⟨f, a⟩ := p
      obtain ⟨g, b⟩ := q
      cases of_decide_eq_true h0
      cases e2
      rw [eqF_eq x y h2]
termination_by structural x => x
theorem eqK_eq : ∀ x y : List (Key × D), eqK x y = true → x = y
  | [] => fun y h => by cases y <;> first | rfl | cases h
  | p :: x => fun y h => by
    cases y with
    | nil => cases h
    | cons q y =>
      obtain ⟨h0, h'⟩ := bAnd (show (decide (p.1 = q.1) && (eqD p.2 q.2 && eqK x y)) = true from h)
      obtain ⟨h1, h2⟩ := bAnd h'
      have e2 := eqD_eq p.2 q.2 h1
      obtain ⟨f, a⟩ := p
      obtain ⟨g, b⟩ := q
      cases of_decide_eq_true h0
      cases e2
      rw [eqK_eq x y h2]
termination_by structural x => x
theorem eqT_eq : ∀ x y : List (List Key × D), eqT x y = true → x = y
  | [] => fun y h => by cases y <;> first | rfl | cases h
  | p :: x => fun y h => by
    cases y with
    | nil => cases h
    | cons q y =>
      obtain ⟨h0, h'⟩ := bAnd (show (decide (p.1 = q.1) && (eqD p.2 q.2 && eqT x y)) = true from h)
      obtain ⟨h1, h2⟩ := bAnd h'
      have e2 := eqD_eq p.2 q.2 h1
      obtain ⟨f, a⟩ := p
      obtain ⟨g, b⟩ := q
      cases of_decide_eq_true h0
      cases e2
      rw [eqT_eq x y h2]
termination_by structural x => x
end
mutual
theorem eqD_rfl : ∀ x : D, eqD x x = true
  | .non => rfl
  | .bl a => by show (a == a) = true; exact beq_self_eq_true a
  | .int a => by show (a == a) = true; exact beq_self_eq_true a
  | .str a => by show decide (a = a) = true; exact decide_eq_true rfl
  | .lst a => eqL_rfl a
  | .klst a => eqL_rfl a
  | .tup a => eqL_rfl a
  | .obj C a => by show (decide (C = C) && eqF a a) = true; rw [decide_eq_true rfl, eqF_rfl a]; rfl
  | .exn C a => by show (decide (C = C) && eqF a a) = true; rw [decide_eq_true rfl, eqF_rfl a]; rfl
  | .dK a => eqK_rfl a
  | .dT a => eqT_rfl a
  | .cell a => by show (a == a) = true; exact beq_self_eq_true a
  | .glob a => by show decide (a = a) = true; exact decide_eq_true rfl
  | .ty a => by show decide (a = a) = true; exact decide_eq_true rfl
termination_by structural x => x
theorem eqL_rfl : ∀ x : List D, eqL x x = true
  | [] => rfl
  | a :: x => by show (eqD a a && eqL x x) = true; rw [eqD_rfl a, eqL_rfl x]; rfl
termination_by structural x => x
theorem eqF_rfl : ∀ x : List (Str × D), eqF x x = true
  | [] => rfl
  | p :: x => by show (decide (p.1 = p.1) && (eqD p.2 p.2 && eqF x x)) = true; rw [decide_eq_true rfl, eqD_rfl p.2, eqF_rfl x]; rfl
termination_by structural x => x
theorem eqK_rfl : ∀ x : List (Key × D), eqK x x = true
  | [] => rfl
  | p :: x => by show (decide (p.1 = p.1) && (eqD p.2 p.2 && eqK x x)) = true; rw [decide_eq_true rfl, eqD_rfl p.2, eqK_rfl x]; rfl
termination_by structural x => x
theorem eqT_rfl : ∀ x : List (List Key × D), eqT x x = true
  | [] => rfl
  | p :: x => by show (decide (p.1 = p.1) && (eqD p.2 p.2 && eqT x x)) = true; rw [decide_eq_true rfl, eqD_rfl p.2, eqT_rfl x]; rfl
termination_by structural x => x
end
def eqCO : CO → CO → Bool
  | .lst a, .lst b => eqL a b
  | .dK a, .dK b => eqK a b
  | .dT a, .dT b => eqT a b
  | .ins C a, .ins C' b => decide (C = C') && eqF a b
  | _, _ => false
theorem eqCO_eq {x y : CO} (h : eqCO x y = true) : x = y := by
  cases x with
  | lst a =>
    cases y with
    | lst b => rw [eqL_eq a b h]
    | _ => cases h
  | dK a =>
    cases y with
    | dK b => rw [eqK_eq a b h]
    | _ => cases h
  | dT a =>
    cases y with
    | dT b => rw [eqT_eq a b h]
    | _ => cases h
  | ins C a =>
    cases y with
    | ins C' b =>
      obtain ⟨h1, h2⟩ := bAnd (show (decide (C = C') && eqF a b) = true from h)
      rw [of_decide_eq_true h1, eqF_eq a b h2]
    | _ => cases h
theorem eqCO_rfl (x : CO) : eqCO x x = true := by
  cases x with
  | lst a => exact eqL_rfl a
  | dK a => exact eqK_rfl a
  | dT a => exact eqT_rfl a
  | ins C a => show (decide (C = C) && eqF a a) = true; rw [decide_eq_true rfl, eqF_rfl a]; rfl
def eqS : Sto → Sto → Bool
  | [], [] => true
  | a :: x, b :: y => eqCO a b && eqS x y
  | _, _ => false
@[simp] theorem eqS_rfl : ∀ x : Sto, eqS x x = true
  | [] => rfl
  | a :: x => by show (eqCO a a && eqS x x) = true; rw [eqCO_rfl a, eqS_rfl x]; rfl
end HT
set_option maxRecDepth 100000
set_option maxHeartbeats 4000000
namespace HT
open PySem PySem.Spec L2
section
variable (T : Str → Addr) (K : PySem.W.Frag)
def GoodV (W : WX) (σ : St) (Q : VK) (ρ : Nat → Option Addr) (Z : Hid) (H : Hp) : R CO → Prop
  | .ok c S' => ∀ a o H' ρ', Ext ρ Z H ρ' H' → Wd T K ρ' S' Z H' → H' a = some o → HObj T K ρ' (Fz ρ' Z H') c o → Q (.ref a) H'
  | .exc C fs S' => ∀ dx vs H' ρ', Ext ρ Z H ρ' H' → Wd T K ρ' S' Z H' → XAt (Fz ρ' Z H') dx vs → RepF T K ρ' (Fz ρ' Z H') fs vs → W (.ref (T C)) dx σ H'
  | .stuck => False
def liftV (W : WX) (F : Env → Cm CO) : TE := fun σ H Q => ∃ ρ S Z env, Wd T K ρ S Z H ∧ ER T K ρ Z H σ env ∧ GoodV T K W σ Q ρ Z H (F env S)
end
abbrev VF (T : Str → Addr) (X : Cx) (W : WX) (e : Expr) (F : Env → Cm CO) : Prop := PE X e (liftV T X.K W F)
def asCO (S : Sto) : D → Option CO
  | .lst ds => some (.lst ds)
  | .dK kvs => some (.dK kvs)
  | .dT kvs => some (.dT kvs)
  | .obj C fs => some (.ins C fs)
  | .cell k => S[k]?
  | _ => none
theorem asCO_ok {T : Str → Addr} {K : PySem.W.Frag} {ρ : Nat → Option Addr} {Z : Hid} {H : Hp} {S : Sto} (w : Wd T K ρ S Z H) {d : D} {v : V} {c : CO} (r : Rep T K ρ (Fz ρ Z H) d v) (h : asCO S d = some c) : ∃ a o, v = .ref a ∧ H a = some o ∧ HObj T K ρ (Fz ρ Z H) c o := by
  cases d with
  | lst ds =>
    cases h
    obtain ⟨a, vs, e, q, q2⟩ := r
    exact ⟨a, _, e, Fz_sub _ _ q, vs, rfl, q2⟩
  | dK kvs =>
    cases h
    obtain ⟨a, vs, e, q, q2⟩ := r
    exact ⟨a, _, e, Fz_sub _ _ q, vs, rfl, q2⟩
  | dT kvs =>
    cases h
    obtain ⟨a, vs, e, q, q2⟩ := r
    exact ⟨a, _, e, Fz_sub _ _ q, vs, rfl, q2⟩
  | obj C fs =>
    cases h
    obtain ⟨a, dx, vs, e, q, q2⟩ := r
    exact ⟨a, _, e, Fz_sub _ _ q, dx, vs, rfl, q2⟩
  | cell k =>
    obtain ⟨a, e, q⟩ := r
    obtain ⟨b, o, h1, h2, h3, h4⟩ := w.cells k c h
    rw [q] at h1
    cases h1
    exact ⟨a, o, e, h3, h4⟩
  | _ => cases h
def vVar (i : Nat) : Env → Cm CO := fun env S => match env[i]? with
  | some (.own c) => .ok c S
  | some (.slf c) => .ok c S
  | some (.val d) => (match asCO S d with
    | some c => .ok c S
    | none => .stuck)
  | _ => .stuck
section
variable {T : Str → Addr} {X : Cx} {W : WX}
theorem vf_var {i : Nat} {x : Str} {pos : Pos} (h : PE X (.Name x pos) (tVar i)) : VF T X W (.Name x pos) (vVar i) := by
  refine pe_imp h fun σ H Q q => ?_
  obtain ⟨ρ, S, Z, env, w, e, g⟩ := q
  unfold vVar at g
  cases hd : env[i]? with
  | none =>
    rw [hd] at g
    exact g.elim
  | some sl =>
    rw [hd] at g
    cases sl with
    | val d =>
      obtain ⟨v, h1, h2⟩ := e.val i d hd
      cases hc : asCO S d with
      | none =>
        dsimp only at g
        rw [hc] at g
        exact g.elim
      | some c =>
        dsimp only at g
        rw [hc] at g
        obtain ⟨a, o, rfl, q1, q2⟩ := asCO_ok w h2 hc
        exact ⟨_, h1, g a o H ρ .refl w q1 q2⟩
    | un => exact g.elim
    | own c =>
      obtain ⟨a, o, h1, h2, h3, h4⟩ := e.own i c hd
      exact ⟨_, h1, g a o H ρ .refl w h3 h4⟩
    | slf c =>
      obtain ⟨o, h1, h2, h3, h4⟩ := e.slf i c hd
      exact ⟨_, h1, g _ o H ρ .refl w h3 h4⟩
end
def gNames : List Nat → TGs
  | [] => gNil
  | i :: r => gCons (gName i) (gNames r)
inductive Bd where
  | one (i : Nat) | many (is : List Nat)
def gBd (K : PySem.W.Frag) : Bd → TG
  | .one i => gName i
  | .many is => gTup K is.length (gNames is)
def bindL : List Nat → List D → Env → Env
  | i :: is, d :: ds, env => bindL is ds (env.set i (.val d))
  | _, _, env => env
def bindE (b : Bd) (d : D) (env : Env) : Option Env := match b with
  | .one i => some (env.set i (.val d))
  | .many is => match d with
    | .tup ds => if ds.length = is.length then some (bindL is ds env) else none
    | _ => none
def Bd.slots : Bd → List Nat
  | .one i => [i]
  | .many is => is
section
variable {T : Str → Addr} {K : PySem.W.Frag} {ρ : Nat → Option Addr} {S : Sto} {Z0 Z : Hid} {H : Hp} {σ : St} {env : Env}
theorem ER.set {i : Nat} {d : D} {v : V} (e : ER T K ρ Z H σ env) (hv : Rep T K ρ (Fz ρ Z H) d v) : ER T K ρ Z H (σ.set i (some v)) (env.set i (.val d)) := by
  have hl := e.len
  have bnd : ∀ {j : Nat} {s : Sl}, (env.set i (.val d))[j]? = some s → i = j → i < env.length := fun {j s} h q => by
    have := (List.getElem?_eq_some_iff.mp h).1
    rw [List.length_set] at this
    omega
  refine ⟨fun j d' h => ?_, fun j c h => ?_, fun j c h => ?_, by rw [List.length_set, List.length_set]; exact hl⟩
  · by_cases hj : i = j
    · have hi := bnd h hj
      subst hj
      rw [List.getElem?_set_self hi] at h
      cases h
      exact ⟨v, List.getElem?_set_self (by omega), hv⟩
    · rw [List.getElem?_set_ne hj] at h
      obtain ⟨w, h1, h2⟩ := e.val j d' h
      exact ⟨w, by rw [List.getElem?_set_ne hj]; exact h1, h2⟩
  · by_cases hj : i = j
    · have hi := bnd h hj
      subst hj
      rw [List.getElem?_set_self hi] at h
      cases h
    · rw [List.getElem?_set_ne hj] at h
      obtain ⟨b, o, h1, h2⟩ := e.own j c h
      exact ⟨b, o, by rw [List.getElem?_set_ne hj]; exact h1, h2⟩
  · by_cases hj : i = j
    · have hi := bnd h hj
      subst hj
      rw [List.getElem?_set_self hi] at h
      cases h
    · rw [List.getElem?_set_ne hj] at h
      obtain ⟨o, h1, h2⟩ := e.slf j c h
      exact ⟨o, by rw [List.getElem?_set_ne hj]; exact h1, h2⟩
structure Agree (is : List Nat) (σ σ' : St) : Prop where
  len : σ'.length = σ.length
  same : ∀ j, j ∉ is → σ'[j]? = σ[j]?
theorem Agree.set {i : Nat} {v : V} : Agree [i] σ (σ.set i (some v)) := ⟨List.length_set .., fun j h => List.getElem?_set_ne (fun e => h (by rw [e]; exact List.mem_singleton.mpr rfl))⟩
theorem names_run {Q : St → Hp → Prop} : ∀ (is : List Nat) (ds : List D) (vs : List V) (σ : St) (env : Env), RepL T K ρ (Fz ρ Z H) ds vs → ds.length = is.length → ER T K ρ Z H σ env → (∀ σ', ER T K ρ Z H σ' (bindL is ds env) → Agree is σ σ' → Q σ' H) → gNames is vs σ H Q
  | [], ds, vs, σ, env, r, hl, e, k => by
    have hd : ds = [] := List.eq_nil_of_length_eq_zero hl
    subst hd
    have hv : vs = [] := r
    subst hv
    exact ⟨rfl, k σ e ⟨rfl, fun _ _ => rfl⟩⟩
  | i :: is, ds, vs, σ, env, r, hl, e, k => by
    cases ds with
    | nil => simp at hl
    | cons d ds =>
      obtain ⟨v, us, rfl, r1, r2⟩ := r
      refine ⟨v, us, rfl, names_run is ds us _ _ r2 (by simpa using hl) (e.set r1) fun σ' e' a => k σ' e' ⟨a.len.trans (List.length_set ..), fun j hj => ?_⟩⟩
      rw [a.same j fun z => hj (List.mem_cons_of_mem _ z)]
      exact List.getElem?_set_ne fun z => hj (by rw [z]; exact List.mem_cons_self)
theorem names_runA {Q : St → Hp → Prop} : ∀ (is : List Nat) (ds : List D) (vs : List V) (σ : St) (env : Env), RepL T K ρ (Fz ρ Z H) ds vs → ds.length = is.length → At T K ρ S Z0 Z H σ env → (∀ σ', At T K ρ S Z0 Z H σ' (bindL is ds env) → Q σ' H) → gNames is vs σ H Q
  | [], ds, vs, σ, env, r, hl, e, k => by
    have hd : ds = [] := List.eq_nil_of_length_eq_zero hl
    subst hd
    have hv : vs = [] := r
    subst hv
    exact ⟨rfl, k σ e⟩
  | i :: is, ds, vs, σ, env, r, hl, e, k => by
    cases ds with
    | nil => simp at hl
    | cons d ds =>
      obtain ⟨v, us, rfl, r1, r2⟩ := r
      exact ⟨v, us, rfl, names_runA is ds us _ _ r2 (by simpa using hl) (e.set r1) k⟩
theorem bd_run {Q : St → Hp → Prop} {b : Bd} {d : D} {v : V} {env' : Env} (r : Rep T K ρ (Fz ρ Z H) d v) (e : ER T K ρ Z H σ env) (h : bindE b d env = some env') (k : ∀ σ', ER T K ρ Z H σ' env' → Agree b.slots σ σ' → Q σ' H) : gBd K b v σ H Q := by
  cases b with
  | one i =>
    cases h
    exact k _ (e.set r) .set
  | many is =>
    cases d with
    | tup ds =>
      have h' : (if ds.length = is.length then some (bindL is ds env) else none) = some env' := h
      split at h'
      · rename_i hl
        cases h'
        obtain ⟨a, vs, rfl, q, q2⟩ := r
        exact ⟨a, vs, rfl, Fz_sub.seqT q, by rw [← q2.len]; exact hl, names_run is ds vs σ env q2 hl e k⟩
      · cases h'
    | _ => cases h
theorem bd_runA {Q : St → Hp → Prop} {b : Bd} {d : D} {v : V} {env' : Env} (r : Rep T K ρ (Fz ρ Z H) d v) (e : At T K ρ S Z0 Z H σ env) (h : bindE b d env = some env') (k : ∀ σ', At T K ρ S Z0 Z H σ' env' → Q σ' H) : gBd K b v σ H Q := by
  cases b with
  | one i =>
    cases h
    exact k _ (e.set r)
  | many is =>
    cases d with
    | tup ds =>
      have h' : (if ds.length = is.length then some (bindL is ds env) else none) = some env' := h
      split at h'
      · rename_i hl
        cases h'
        obtain ⟨a, vs, rfl, q, q2⟩ := r
        exact ⟨a, vs, rfl, Fz_sub.seqT q, by rw [← q2.len]; exact hl, names_runA is ds vs σ env q2 hl e k⟩
      · cases h'
    | _ => cases h
theorem Agree.wipe {is vs : List Nat} {σ' : St} (a : Agree is σ σ') (h : ∀ i ∈ is, i ∈ vs) : wipe σ' vs = wipe σ vs := by
  refine List.ext_getElem? fun j => ?_
  have wl : ∀ (l : List Nat) (τ : St), (L2.wipe τ l)[j]? = if j ∈ l then (if j < τ.length then some none else none) else τ[j]? := by
    intro l
    induction l with
    | nil => intro τ; rfl
    | cons x l ih =>
      intro τ
      show ((L2.wipe τ l).set x none)[j]? = _
      by_cases hx : x = j
      · subst hx
        by_cases hl : x < τ.length
        · rw [List.getElem?_set_self (by rw [wipe_length]; exact hl), if_pos List.mem_cons_self, if_pos hl]
        · rw [List.getElem?_eq_none (by rw [List.length_set, wipe_length]; omega), if_pos List.mem_cons_self, if_neg hl]
      · rw [List.getElem?_set_ne hx, ih τ]
        by_cases hm : j ∈ l
        · rw [if_pos hm, if_pos (List.mem_cons_of_mem _ hm)]
        · rw [if_neg hm, if_neg (by intro z; rcases List.mem_cons.mp z with q | q; exact hx q.symm; exact hm q)]
  rw [wl, wl, a.len]
  by_cases hj : j ∈ vs
  · rw [if_pos hj, if_pos hj]
  · rw [if_neg hj, if_neg hj]
    exact a.same j fun z => hj (h j z)
end
inductive Src where
  | fz | cl (k : Nat) (c : CO) | hid
def Src.isHid : Src → Bool
  | .hid => true
  | _ => false
def chk (src : Src) (S : Sto) : Bool := match src with
  | .cl k c => (match S[k]? with
    | some c' => eqCO c c'
    | none => false)
  | _ => true
def ItOk (T : Str → Addr) (K : PySem.W.Frag) (ρ : Nat → Option Addr) (Z : Hid) (H : Hp) (J : It) (ds : List D) (src : Src) : Prop :=
  ∀ ρ2 S2 (Z2 : Hid) H2, (∀ k a, ρ k = some a → ρ2 k = some a) → Sub (Fz ρ Z H) (Fz ρ2 Z2 H2) → (src.isHid = true → ∀ a, Z a → H2 a = H a) → Wd T K ρ2 S2 Z2 H2 → chk src S2 = true → ∀ i,
    (∀ d, ds[i]? = some d → J.go i H2 ∧ ∀ x H3, J.yld i H2 x H3 → Ext ρ2 Z2 H2 ρ2 H3 ∧ Wd T K ρ2 S2 Z2 H3 ∧ Rep T K ρ2 (Fz ρ2 Z2 H3) d x) ∧ (ds.length ≤ i → J.stop i H2)
section
variable (T : Str → Addr) (K : PySem.W.Frag)
def GoodI (W : WX) (σ : St) (Q : It → Hp → Prop) (ρ : Nat → Option Addr) (Z : Hid) (H : Hp) : R (List D × Src) → Prop
  | .ok p S' => ∀ J H' ρ', Ext ρ Z H ρ' H' → Wd T K ρ' S' Z H' → ItOk T K ρ' Z H' J p.1 p.2 → Q J H'
  | .exc C fs S' => ∀ dx vs H' ρ', Ext ρ Z H ρ' H' → Wd T K ρ' S' Z H' → XAt (Fz ρ' Z H') dx vs → RepF T K ρ' (Fz ρ' Z H') fs vs → W (.ref (T C)) dx σ H'
  | .stuck => False
def liftI (W : WX) (F : Env → Cm (List D × Src)) : TI := fun σ H Q => ∃ ρ S Z env, Wd T K ρ S Z H ∧ ER T K ρ Z H σ env ∧ GoodI T K W σ Q ρ Z H (F env S)
end
abbrev IF (T : Str → Addr) (X : Cx) (W : WX) (tg iter : Expr) (F : Env → Cm (List D × Src)) : Prop := PI X tg iter (liftI T X.K W F)
theorem pi_imp {X : Cx} {tg iter : Expr} {t t' : TI} (h : PI X tg iter t) (i : ∀ σ H R, t' σ H R → t σ H R) : PI X tg iter t' := ⟨fun pins s σ H R I q => h.run pins s σ H R I (i σ H R q)⟩
theorem pi_or {X : Cx} {tg iter : Expr} {t t' : TI} (h : PI X tg iter t) (h' : PI X tg iter t') : PI X tg iter (fun σ H R => t σ H R ∨ t' σ H R) := ⟨fun pins s σ H R I q => by
  rcases q with q | q
  · exact h.run pins s σ H R I q
  · exact h'.run pins s σ H R I q⟩
def walkD (S : Sto) (d : D) : Option (List D × Src) := match d with
  | .lst ds => some (ds, .fz)
  | .klst ds => some (ds, .fz)
  | .tup ds => some (ds, .fz)
  | .cell k => (match S[k]? with
    | some (.lst ds) => some (ds, .cl k (.lst ds))
    | _ => none)
  | _ => none
section
variable {T : Str → Addr} {K : PySem.W.Frag} {ρ : Nat → Option Addr} {S : Sto} {Z : Hid} {H : Hp}
theorem it_seqL {a : Addr} {vs : List V} {ds : List D} (h : SqL K (Fz ρ Z H) a vs) (r : RepL T K ρ (Fz ρ Z H) ds vs) : ItOk T K ρ Z H (Itl K a) ds .fz := by
  intro ρ2 S2 Z2 H2 hc hs _ w2 _ i
  have h2 : SqL K H2 a vs := Fz_sub.seqL (hs.seqL h)
  have r2 := RepL.mono hc hs _ _ r
  refine ⟨fun d hd => ?_, fun hl => ⟨vs, h2, by rw [← r.len]; exact hl⟩⟩
  obtain ⟨v, hv, rv⟩ := r2.get hd
  refine ⟨⟨vs, v, h2, hv⟩, fun x H3 y => ?_⟩
  obtain ⟨e, y⟩ := y
  subst e
  have e2 := y vs h2
  rw [hv] at e2
  cases e2
  exact ⟨.refl, w2, rv⟩
theorem it_seqT {a : Addr} {vs : List V} {ds : List D} (h : SqT K (Fz ρ Z H) a vs) (r : RepL T K ρ (Fz ρ Z H) ds vs) : ItOk T K ρ Z H (Itt K a) ds .fz := by
  intro ρ2 S2 Z2 H2 hc hs _ w2 _ i
  have h2 : SqT K H2 a vs := Fz_sub.seqT (hs.seqT h)
  have r2 := RepL.mono hc hs _ _ r
  refine ⟨fun d hd => ?_, fun hl => ⟨vs, h2, by rw [← r.len]; exact hl⟩⟩
  obtain ⟨v, hv, rv⟩ := r2.get hd
  refine ⟨⟨vs, v, h2, hv⟩, fun x H3 y => ?_⟩
  obtain ⟨e, y⟩ := y
  subst e
  have e2 := y vs h2
  rw [hv] at e2
  cases e2
  exact ⟨.refl, w2, rv⟩
end
end HT
set_option maxRecDepth 100000
set_option maxHeartbeats 400000
namespace HT
open PySem PySem.Spec L2
section
variable {T : Str → Addr} {K : PySem.W.Frag} {ρ : Nat → Option Addr} {S : Sto} {Z : Hid} {H : Hp}
theorem it_cell {k : Nat} {a : Addr} {ds : List D} (hk : ρ k = some a) : ItOk T K ρ Z H (Itl K a) ds (.cl k (.lst ds)) := by
  intro ρ2 S2 Z2 H2 hc hs _ w2 hch i
  have hch' : (match S2[k]? with
    | some c' => eqCO (.lst ds) c'
    | none => false) = true := hch
  cases e : S2[k]? with
  | none =>
    rw [e] at hch'
    cases hch'
  | some c' =>
    rw [e] at hch'
    have ec := eqCO_eq hch'
    subst ec
    obtain ⟨b, o, h1, h2, h3, h4⟩ := w2.cells k _ e
    rw [hc k a hk] at h1
    cases h1
    obtain ⟨vs, rfl, r2⟩ := h4
    refine ⟨fun d hd => ?_, fun hl => ⟨vs, SqL.of h3, by rw [← r2.len]; exact hl⟩⟩
    obtain ⟨v, hv, rv⟩ := r2.get hd
    refine ⟨⟨vs, v, SqL.of h3, hv⟩, fun x H3 y => ?_⟩
    obtain ⟨e, y⟩ := y
    subst e
    have e2 := y vs (SqL.of h3)
    rw [hv] at e2
    cases e2
    exact ⟨.refl, w2, rv⟩
theorem it_range {lo : Int} {n : Nat} : ItOk T K ρ Z H (Itr lo n) ((List.range n).map fun i => D.int (lo + (i : Nat))) .fz := by
  intro ρ2 S2 Z2 H2 hc hs _ w2 _ i
  refine ⟨fun d hd => ?_, fun hl => by show n ≤ i; simpa using hl⟩
  have hi : i < n := by
    have := (List.getElem?_eq_some_iff.mp hd).1
    simpa using this
  rw [List.getElem?_map, List.getElem?_range hi] at hd
  cases hd
  exact ⟨hi, fun x H3 y => by
    obtain ⟨e, y⟩ := y
    subst e
    subst y
    exact ⟨.refl, w2, rfl⟩⟩
theorem it_str {z : Str} : ItOk T K ρ Z H (Its z) (z.cps.toList.map fun c => D.str ⟨#[c]⟩) .fz := by
  intro ρ2 S2 Z2 H2 hc hs _ w2 _ i
  have tl : z.cps.toList[i]? = z.cps[i]? := Array.getElem?_toList
  refine ⟨fun d hd => ?_, fun hl => by show z.cps.size ≤ i; simpa using hl⟩
  rw [List.getElem?_map, tl] at hd
  cases e : z.cps[i]? with
  | none =>
    rw [e] at hd
    cases hd
  | some c =>
    rw [e] at hd
    cases hd
    have hi : i < z.cps.size := (Array.getElem?_eq_some_iff.mp e).1
    exact ⟨hi, fun x H3 y => by
      obtain ⟨e1, c', e2, e3⟩ := y
      subst e1
      rw [e] at e2
      cases e2
      subst e3
      exact ⟨.refl, w2, rfl⟩⟩
end
def iSeq (F : FE) : Env → Cm (List D × Src) := fun env S => (F env S).bnd fun d S' => match d with
  | .str z => .ok (z.cps.toList.map (fun c => D.str ⟨#[c]⟩), .fz) S'
  | d => match walkD S' d with
    | some p => .ok p S'
    | none => .stuck
section
variable {T : Str → Addr} {X : Cx} {W : WX} {tg e : Expr} {F : FE} {pos : Pos}
theorem lift_bndI {β α : Type} {rel : Rl α β} {K : PySem.W.Frag} {σ : St} {ρ : Nat → Option Addr} {S : Sto} {Z : Hid} {H : Hp} {env : Env} {Q : It → Hp → Prop} {F : Env → Cm α} {k : α → Cm (List D × Src)} (w : Wd T K ρ S Z H) (e : ER T K ρ Z H σ env) (g : GoodI T K W σ Q ρ Z H ((F env S).bnd k)) :
    lift T K rel W F σ H fun v H' => ∃ ρ' S' d, Ext ρ Z H ρ' H' ∧ Wd T K ρ' S' Z H' ∧ ER T K ρ' Z H' σ env ∧ rel ρ' (Fz ρ' Z H') d v ∧ GoodI T K W σ Q ρ' Z H' (k d S') := by
  refine ⟨ρ, S, Z, env, w, e, ?_⟩
  cases h : F env S with
  | ok d S' =>
    rw [h] at g
    refine fun v H' ρ' x w' q => ⟨ρ', S', d, x, w', e.ext x, q, ?_⟩
    have g' : GoodI T K W σ Q ρ Z H (k d S') := g
    cases hk : k d S' with
    | ok c S2 =>
      rw [hk] at g'
      exact fun J H2 ρ2 x2 => g' J H2 ρ2 (x.trans x2)
    | exc C fs S2 =>
      rw [hk] at g'
      exact fun dx vs H2 ρ2 x2 => g' dx vs H2 ρ2 (x.trans x2)
    | stuck =>
      rw [hk] at g'
      exact g'
  | exc C fs S' =>
    rw [h] at g
    exact g
  | stuck =>
    rw [h] at g
    exact g
theorem if_seq (h : PF T X W e F) : IF T X W tg e (iSeq F) := by
  refine pi_imp (pi_or (pi_list h) (pi_or (pi_tup h) (pi_str h))) fun σ H Qi q => ?_
  obtain ⟨ρ, S, Z, env, w, er, g⟩ := q
  unfold iSeq at g
  cases hF : F env S with
  | stuck =>
    rw [hF] at g
    exact g.elim
  | exc C fs S' =>
    rw [hF] at g
    exact .inl ⟨ρ, S, Z, env, w, er, by rw [hF]; exact g⟩
  | ok d S' =>
    rw [hF] at g
    cases d with
    | str z =>
      refine .inr (.inr ⟨ρ, S, Z, env, w, er, ?_⟩)
      rw [hF]
      intro v H' ρ' x w' r
      exact ⟨z, r, g _ H' ρ' x w' it_str⟩
    | lst ds =>
      refine .inl ⟨ρ, S, Z, env, w, er, ?_⟩
      rw [hF]
      intro v H' ρ' x w' r
      obtain ⟨a, vs, rfl, q, q2⟩ := r
      exact ⟨a, rfl, ⟨vs, SqL.of (Fz_sub _ _ q)⟩, g _ H' ρ' x w' (it_seqL (SqL.of q) q2)⟩
    | klst ds =>
      refine .inl ⟨ρ, S, Z, env, w, er, ?_⟩
      rw [hF]
      intro v H' ρ' x w' r
      obtain ⟨a, vs, rfl, q, q2⟩ := r
      exact ⟨a, rfl, ⟨vs, Fz_sub.seqL q⟩, g _ H' ρ' x w' (it_seqL q q2)⟩
    | tup ds =>
      refine .inr (.inl ⟨ρ, S, Z, env, w, er, ?_⟩)
      rw [hF]
      intro v H' ρ' x w' r
      obtain ⟨a, vs, rfl, q, q2⟩ := r
      exact ⟨a, rfl, ⟨vs, Fz_sub.seqT q⟩, g _ H' ρ' x w' (it_seqT q q2)⟩
    | cell k =>
      cases e : S'[k]? with
      | none =>
        have hw : walkD S' (D.cell k) = none := by simp only [walkD, e]
        change GoodI _ _ _ _ _ _ _ _ (match walkD S' (D.cell k) with | some p => R.ok p S' | none => R.stuck) at g
        rw [hw] at g
        exact g.elim
      | some c =>
        cases c with
        | lst ds =>
          have hw : walkD S' (D.cell k) = some (ds, Src.cl k (.lst ds)) := by simp only [walkD, e]
          change GoodI _ _ _ _ _ _ _ _ (match walkD S' (D.cell k) with | some p => R.ok p S' | none => R.stuck) at g
          rw [hw] at g
          refine .inl ⟨ρ, S, Z, env, w, er, ?_⟩
          rw [hF]
          intro v H' ρ' x w' r
          obtain ⟨a, rfl, q⟩ := r
          obtain ⟨b, o, h1, h2, h3, h4⟩ := w'.cells k _ e
          rw [q] at h1
          cases h1
          obtain ⟨vs, rfl, r2⟩ := h4
          exact ⟨a, rfl, ⟨vs, SqL.of h3⟩, g _ H' ρ' x w' (it_cell q)⟩
        | _ =>
          have hw : walkD S' (D.cell k) = none := by simp only [walkD, e]
          change GoodI _ _ _ _ _ _ _ _ (match walkD S' (D.cell k) with | some p => R.ok p S' | none => R.stuck) at g
          rw [hw] at g
          exact g.elim
    | _ => exact g.elim
def rngD (lo hi : Int) : List D := (List.range (hi - lo).toNat).map fun i => D.int (lo + (i : Nat))
def InRg (j : Int) : Prop := -(2 ^ 62) ≤ j ∧ j < 2 ^ 62
instance (j : Int) : Decidable (InRg j) := by unfold InRg; exact inferInstance
def kRg1 : List D → Cm (List D × Src)
  | [.int j] => if InRg j then pure (rngD 0 j, .fz) else stk
  | _ => stk
def iRg1 (F : Env → Cm (List D)) : Env → Cm (List D × Src) := fun env S => (F env S).bnd kRg1
theorem kRg1_ok {K : PySem.W.Frag} {σ : St} {ρ : Nat → Option Addr} {S : Sto} {Z : Hid} {H : Hp} {Qi : It → Hp → Prop} {ds : List D} {vs : List V} (w : Wd T K ρ S Z H) (r : RepL T K ρ (Fz ρ Z H) ds vs) (g : GoodI T K W σ Qi ρ Z H (kRg1 ds S)) :
    ∃ j : Int, vs = [.int j] ∧ InRg j ∧ Qi (Itr 0 j.toNat) H := by
  unfold kRg1 at g
  split at g
  · rename_i j
    split at g
    · rename_i hj
      obtain ⟨v, us, rfl, r1, r2⟩ := r
      have e : us = [] := r2
      subst e
      have e1 : v = .int j := r1
      subst e1
      refine ⟨j, rfl, hj, g _ H ρ .refl w ?_⟩
      have h := it_range (T := T) (K := K) (ρ := ρ) (Z := Z) (H := H) (lo := 0) (n := j.toNat)
      unfold rngD
      rw [Int.sub_zero]
      exact h
    · exact g.elim
  · exact g.elim
theorem if_range1 {a : Expr} {p : Pos} {Fa : Env → Cm (List D)} (hg : Gl X "range") (hm : X.mg "range" = none) (ha : AF T X W [a] Fa) (hs : starEach [a] X.env = [(false, eval a X.env)] := by rfl) : IF T X W tg (.Call (.Name "range" p) [a] [] pos) (iRg1 Fa) := by
  refine pi_imp (pi_range1 hg hm ha hs) fun σ H Qi q => ?_
  obtain ⟨ρ, S, Z, env, w, er, g⟩ := q
  refine lift_imp (lift_bndI w er g) fun v H1 ⟨ρ1, S1, d1, x1, w1, e1, r1, g1⟩ => ?_
  obtain ⟨j, e, h, q⟩ := kRg1_ok w1 r1 g1
  exact ⟨j, e, h.1, h.2, q⟩
end
end HT
set_option maxRecDepth 100000
set_option maxHeartbeats 400000
namespace HT
open PySem PySem.Spec L2
def loopD (b : Bd) (src : Src) (body : FS) : List D → Env → Sto → R Fl
  | [], env, S => if chk src S = true then .ok (.nx env) S else .stuck
  | d :: ds, env, S => if chk src S = true then (match bindE b d env with
    | none => .stuck
    | some env1 => match body env1 S with
      | .ok (.nx e) S' => loopD b src body ds e S'
      | .ok (.ct e) S' => loopD b src body ds e S'
      | .ok (.bk e) S' => .ok (.nx e) S'
      | r => r) else .stuck
def sFor (b : Bd) (G : Env → Cm (List D × Src)) (body : FS) : FS := fun env S => sB env (G env S) fun p S' => if p.2.isHid = true then .stuck else loopD b p.2 body p.1 env S'
theorem drop_cons {α : Type} {l : List α} {i : Nat} (h : i < l.length) : l.drop i = l[i] :: l.drop (i + 1) := List.drop_eq_getElem_cons h
section
variable {T : Str → Addr} {X : Cx} {W : WX} {tg iter : Expr} {G : Env → Cm (List D × Src)} {body : List Stmt} {F : FS} {b : Bd} {pos : Pos}
def LoopAt (T : Str → Addr) (K : PySem.W.Frag) (W : WX) (B : Ends) (b : Bd) (src : Src) (F : FS) (ρ : Nat → Option Addr) (Z0 Z : Hid) (H : Hp) (ds : List D) (σ' : St) (H' : Hp) : Prop :=
  ∃ ρ2 S2 Z2 env2, ExtS ρ Z0 Z H ρ2 Z2 H' ∧ At T K ρ2 S2 Z0 Z2 H' σ' env2 ∧ GoodS T K W B ρ2 Z0 Z2 H' (loopD b src F ds env2 S2)
theorem sf_for (hp : PassesOwn (model X.prog X.w) X.A X.env X.xe) (hc : X.calm = true) (hi : IF T X W tg iter G) (hg : PG X tg (gBd X.K b)) (hb : SFs T X W body F)
    (hs : ∀ x, foldedSetIterable iter X.env x = pure x := by intro _; rfl) : SF T X W (.For tg iter body [] pos) (sFor b G F) := ps_imp (ps_for hp hc hi hg hb hs) fun B σ H q => by
  obtain ⟨ρ, S, Z0, Z, env, a, g⟩ := q
  refine ⟨ρ, S, Z, env, a.w, a.e, ?_⟩
  unfold sFor at g
  cases hG : G env S with
  | stuck =>
    rw [hG] at g
    exact g
  | exc C fs S' =>
    rw [hG] at g
    exact fun dx vs H' ρ' x w' q1 q2 => (show GoodF T X.K W B ρ Z0 Z H S' (.xc env C fs) from g) σ dx vs H' ρ' Z (x.s a.o.sub) (a.ext x w') q1 q2
  | ok p S' =>
    rw [hG] at g
    obtain ⟨items, src⟩ := p
    intro J H' ρ' x w' it
    have g' : GoodS T X.K W B ρ Z0 Z H (if src.isHid = true then .stuck else loopD b src F items env S') := g
    cases hh : src.isHid with
    | true =>
      rw [hh, if_pos rfl] at g'
      exact g'.elim
    | false =>
      rw [hh, if_neg Bool.false_ne_true] at g'
      refine ⟨fun i m σ' H2 => m = items.length - i ∧ i ≤ items.length ∧ LoopAt T X.K W B b src F ρ' Z0 Z H' (items.drop i) σ' H2,
        ⟨items.length, by simp, Nat.zero_le _, ρ', S', Z, env, .refl, a.ext x w', g'.later (x.s a.o.sub)⟩, ?_⟩
      rintro i m σ' H2 ⟨rfl, hi, ρ2, S2, Z2, env2, x2, a2, g2⟩
      have step := it ρ2 S2 Z2 H2 x2.cells x2.frz (fun z => by rw [hh] at z; cases z) a2.w
      by_cases hlt : i < items.length
      · rw [drop_cons hlt] at g2
        unfold loopD at g2
        split at g2
        · rename_i hch
          obtain ⟨go, yl⟩ := (step hch i).1 _ (List.getElem?_eq_getElem hlt)
          cases hb2 : bindE b items[i] env2 with
          | none =>
            rw [hb2] at g2
            exact g2.elim
          | some env1 =>
            rw [hb2] at g2
            dsimp only at g2
            refine .inr ⟨go, LoopAt T X.K W B b src F ρ' Z0 Z H' (items.drop (i + 1)), fun σ3 H3 n3 => ⟨items.length - (i + 1), by omega, rfl, hlt, n3⟩, fun v H3 y => ?_⟩
            obtain ⟨x3, w3, r3⟩ := yl v H3 y
            refine bd_runA r3 (a2.ext x3 w3) hb2 fun σ3 a3 => ⟨ρ2, S2, Z0, Z2, env1, a3, ?_⟩
            have x23 : ExtS ρ' Z0 Z H' ρ2 Z2 H3 := x2.trans (x3.s a2.o.sub)
            cases hF : F env1 S2 with
            | stuck =>
              rw [hF] at g2
              exact g2
            | exc C fs S3 =>
              rw [hF] at g2
              exact g2
            | ok f S3 =>
              rw [hF] at g2
              cases f with
              | nx e => exact fun σ4 H4 ρ4 Z4 x4 a4 => ⟨ρ4, S3, Z4, e, x23.trans x4, a4, GoodS.later (show GoodS T X.K W B ρ2 Z0 Z2 H2 (loopD b src F (items.drop (i + 1)) e S3) from g2) ((x3.s a2.o.sub).trans x4)⟩
              | ct e => exact fun σ4 H4 ρ4 Z4 x4 a4 => ⟨ρ4, S3, Z4, e, x23.trans x4, a4, GoodS.later (show GoodS T X.K W B ρ2 Z0 Z2 H2 (loopD b src F (items.drop (i + 1)) e S3) from g2) ((x3.s a2.o.sub).trans x4)⟩
              | bk e => exact fun σ4 H4 ρ4 Z4 x4 a4 => (show GoodF T X.K W B ρ2 Z0 Z2 H2 S3 (.nx e) from g2) σ4 H4 ρ4 Z4 ((x3.s a2.o.sub).trans x4) a4
              | rt d => exact fun v H4 ρ4 Z4 x4 => (show GoodF T X.K W B ρ2 Z0 Z2 H2 S3 (.rt d) from g2) v H4 ρ4 Z4 ((x3.s a2.o.sub).trans x4)
              | xc e C fs => exact fun σ4 dx vs H4 ρ4 Z4 x4 => (show GoodF T X.K W B ρ2 Z0 Z2 H2 S3 (.xc e C fs) from g2) σ4 dx vs H4 ρ4 Z4 ((x3.s a2.o.sub).trans x4)
        · exact g2.elim
      · have ei : i = items.length := by omega
        subst ei
        rw [List.drop_length] at g2
        unfold loopD at g2
        split at g2
        · rename_i hch
          exact .inl ⟨(step hch _).2 (Nat.le_refl _), (show GoodF T X.K W B ρ2 Z0 Z2 H2 S2 (.nx env2) from g2) σ' H2 ρ2 Z2 .refl a2⟩
        · exact g2.elim
end
abbrev WF : WX := fun _ _ _ _ => False
def nox {α : Type} (r : R α) : Option (α × Sto) := match r with
  | .ok a S => some (a, S)
  | _ => none
def wipeE (env : Env) : List Nat → Env
  | [] => env
  | v :: vs => (wipeE env vs).set v .un
def compL (b : Bd) (src : Src) (Ft : Env → Cm Bool) (Fe : FE) (env0 : Env) : List D → Sto → Option (List D × Sto)
  | [], S => if chk src S = true then some ([], S) else none
  | d :: ds, S => if chk src S = true then (match bindE b d env0 with
    | none => none
    | some env1 => match nox (Ft env1 S) with
      | none => none
      | some (true, S1) => (match nox (Fe env1 S1) with
        | none => none
        | some (y, S2) => match compL b src Ft Fe env0 ds S2 with
          | none => none
          | some (ys, S3) => some (y :: ys, S3))
      | some (false, S1) => compL b src Ft Fe env0 ds S1) else none
def oFin (acc : List D) : Option (List D × Sto) → R CO
  | none => .stuck
  | some (ys, S) => if (acc ++ ys).length ≤ sizeLine then .ok (.lst (acc ++ ys)) S else .stuck
def oLc (vs : List Nat) (b : Bd) (G : Env → Cm (List D × Src)) (Ft : Env → Cm Bool) (Fe : FE) : Env → Cm CO := fun env S => (G env S).bnd fun p S' => oFin [] (compL b p.2 Ft Fe (wipeE env vs) p.1 S')
abbrev TsF (T : Str → Addr) (X : Cx) (W : WX) (ifs : List Expr) (F : Env → Cm Bool) : Prop := PTs X ifs (lift T X.K rB W F)
section
variable {T : Str → Addr} {X : Cx} {W : WX}
theorem tsf_nil : TsF T X W [] (fun _ => pure true) := ⟨fun pins s σ H Q I h => pts_nil.run pins s σ H Q I (by
  obtain ⟨ρ, S, Z, env, w, er, g⟩ := h
  exact g true H ρ .refl w rfl)⟩
theorem tsf_one {c : Expr} {F : Env → Cm Bool} (h : TF T X W c F) : TsF T X W [c] F := pts_one h
end
section
variable {T : Str → Addr} {K : PySem.W.Frag} {ρ ρ1 ρ2 : Nat → Option Addr} {S S1 S2 : Sto} {Z : Hid} {H H1 H2 : Hp} {σ : St} {env : Env} {p : Addr} {c c' : CO} {o : HO}
theorem fz_hid (hz : Z p) : Fz ρ Z (upd H p o) = Fz ρ Z H := by
  funext a
  unfold Fz
  by_cases hq : Z a ∨ ∃ k, ρ k = some a
  · rw [if_pos hq, if_pos hq]
  · have ne : a ≠ p := fun e => hq (.inl (by rw [e]; exact hz))
    rw [if_neg hq, if_neg hq, upd_ne ne]
theorem Wd.hid (w : Wd T K ρ S Z H) (hz : Z p) : Wd T K ρ S Z (upd H p o) := by
  refine ⟨w.dom, fun k c hc => ?_, w.inj, fun a z => ?_⟩
  · obtain ⟨a, u, h1, h2, h3, h4⟩ := w.cells k c hc
    have ne : a ≠ p := fun e => h2 (by rw [e]; exact hz)
    exact ⟨a, u, h1, h2, by rw [upd_ne ne]; exact h3, by rw [fz_hid hz]; exact h4⟩
  · by_cases e : a = p
    · exact ⟨o, by rw [e]; exact upd_same⟩
    · obtain ⟨u, q⟩ := w.there a z
      exact ⟨u, by rw [upd_ne e]; exact q⟩
theorem Neu.put (n : Neu T K ρ Z H ρ1 S1 H1 p c) (x : Ext ρ1 (plusZ Z p) H1 ρ2 H2) (w : Wd T K ρ2 S2 (plusZ Z p) H2) (h : HObj T K ρ2 (Fz ρ2 (plusZ Z p) H2) c' o) : Neu T K ρ Z H ρ2 S2 (upd H2 p o) p c' := by
  have hp : plusZ Z p p := .inr rfl
  refine ⟨fun k a e => x.cells k a (n.cells k a e), fun a u e => by rw [fz_hid hp]; exact x.frz a u (n.frz a u e), fun a z => ?_, w.hid hp, n.nz, ⟨o, upd_same, by rw [fz_hid hp]; exact h⟩⟩
  have ne : a ≠ p := fun e => n.nz (by rw [← e]; exact z)
  rw [upd_ne ne, x.hid a (.inl z)]
  exact n.hid a z
theorem wipeE_len : ∀ (vs : List Nat), (wipeE env vs).length = env.length
  | [] => rfl
  | v :: vs => by
    unfold wipeE
    rw [List.length_set, wipeE_len vs]
theorem wipeE_get : ∀ {vs : List Nat} {i : Nat} {s : Sl}, (wipeE env vs)[i]? = some s → s = .un ∨ (env[i]? = some s ∧ i ∉ vs)
  | [], i, s, h => .inr ⟨h, by simp⟩
  | v :: vs, i, s, h => by
    unfold wipeE at h
    by_cases hv : v = i
    · subst hv
      have hl : v < (wipeE env vs).length := by
        have := (List.getElem?_eq_some_iff.mp h).1
        rw [List.length_set] at this
        exact this
      rw [List.getElem?_set_self hl] at h
      exact .inl (Option.some.inj h).symm
    · rw [List.getElem?_set_ne hv] at h
      rcases wipeE_get h with q | ⟨q1, q2⟩
      · exact .inl q
      · exact .inr ⟨q1, fun z => by
          rcases List.mem_cons.mp z with e | e
          · exact hv e.symm
          · exact q2 e⟩
theorem wipe_keep : ∀ {vs : List Nat} {i : Nat}, i ∉ vs → (L2.wipe σ vs)[i]? = σ[i]?
  | [], i, _ => rfl
  | v :: vs, i, h => by
    show ((L2.wipe σ vs).set v none)[i]? = σ[i]?
    rw [List.getElem?_set_ne fun e => h (by rw [e]; exact List.mem_cons_self), wipe_keep fun z => h (List.mem_cons_of_mem _ z)]
theorem ER.wiped (e : ER T K ρ Z H σ env) (vs : List Nat) : ER T K ρ Z H (L2.wipe σ vs) (wipeE env vs) := by
  refine ⟨fun i d h => ?_, fun i c h => ?_, fun i c h => ?_, by rw [wipeE_len, wipe_length]; exact e.len⟩
  · rcases wipeE_get h with q | ⟨q1, q2⟩
    · cases q
    · obtain ⟨v, h1, h2⟩ := e.val i d q1
      exact ⟨v, by rw [wipe_keep q2]; exact h1, h2⟩
  · rcases wipeE_get h with q | ⟨q1, q2⟩
    · cases q
    · obtain ⟨a, o, h1, h2⟩ := e.own i c q1
      exact ⟨a, o, by rw [wipe_keep q2]; exact h1, h2⟩
  · rcases wipeE_get h with q | ⟨q1, q2⟩
    · cases q
    · obtain ⟨o, h1, h2⟩ := e.slf i c q1
      exact ⟨o, by rw [wipe_keep q2]; exact h1, h2⟩
theorem wipe_wipe (vs : List Nat) : L2.wipe (L2.wipe σ vs) vs = L2.wipe σ vs := by
  have a : Agree vs σ (L2.wipe σ vs) := ⟨wipe_length σ vs, fun j h => wipe_keep h⟩
  exact a.wipe fun i h => h
theorem ER.neu (e : ER T K ρ Z H σ env) (n : Neu T K ρ Z H ρ1 S1 H1 p c) : ER T K ρ1 (plusZ Z p) H1 σ env := by
  refine ⟨fun i d h => ?_, fun i c h => ?_, fun i c h => ?_, e.len⟩
  · obtain ⟨v, h1, h2⟩ := e.val i d h
    exact ⟨v, h1, Rep.mono n.cells n.frz _ _ h2⟩
  · obtain ⟨a, o, h1, h2, h3, h4⟩ := e.own i c h
    exact ⟨a, o, h1, .inl h2, (n.hid a h2).trans h3, h4.mono n.cells n.frz⟩
  · obtain ⟨o, h1, h2, h3, h4⟩ := e.slf i c h
    exact ⟨o, h1, .inl h2, (n.hid _ h2).trans h3, h4.mono n.cells n.frz⟩
theorem GoodO.later {W : WX} {Q : VK} {r : R CO} (g : GoodO T K W σ Q ρ Z H r) (x : Ext ρ Z H ρ1 H1) : GoodO T K W σ Q ρ1 Z H1 r := by
  cases r with
  | ok d S' => exact fun p H' ρ' n => g p H' ρ' (n.after x)
  | exc C fs S' => exact fun dx vs H' ρ' e w q q2 => g dx vs H' ρ' (x.trans e) w q q2
  | stuck => exact g
end
section
variable {T : Str → Addr} {X : Cx} {W : WX} {elt tg iter : Expr} {ifs : List Expr} {scope : Scope} {own : List (Str × Nat)} {G : Env → Cm (List D × Src)} {Ft : Env → Cm Bool} {Fe : FE} {b : Bd} {pos : Pos}
def CompAt (T : Str → Addr) (K : PySem.W.Frag) (W : WX) (σ : St) (Q : VK) (b : Bd) (src : Src) (Ft : Env → Cm Bool) (Fe : FE) (env0 : Env) (ρ : Nat → Option Addr) (Z : Hid) (H : Hp) (p : Addr) (ds : List D) (H' : Hp) : Prop :=
  ∃ ρ2 S2 acc, Neu T K ρ Z H ρ2 S2 H' p (.lst acc) ∧ GoodO T K W σ Q ρ Z H (oFin acc (compL b src Ft Fe env0 ds S2))
theorem oFin_more {acc ys : List D} {y : D} {S : Sto} : oFin acc (some (y :: ys, S)) = oFin (acc ++ [y]) (some (ys, S)) := by
  unfold oFin
  dsimp only
  rw [List.append_assoc]
  rfl
theorem comp_run {J : It} {items : List D} {src : Src} {ρ : Nat → Option Addr} {S : Sto} {Z : Hid} {H : Hp} {σ : St} {env : Env} {Q : VK} {vs : List Nat} (w : Wd T X.K ρ S Z H) (er : ER T X.K ρ Z H σ env) (it : ItOk T X.K ρ Z H J items src)
    (hv : ∀ i ∈ b.slots, i ∈ vs) (g : GoodO T X.K W σ Q ρ Z H (oFin [] (compL b src Ft Fe (wipeE env vs) items S))) (p : Addr) (hp : H p = none) :
    ∃ V : Nat → Nat → Hp → Prop, (∃ m, V 0 m (upd H p (.lst []))) ∧ ∀ i m H, V i m H → (J.stop i H ∧ Q (.ref p) H) ∨ (J.go i H ∧ ∃ Nx : Hp → Prop, (∀ H', Nx H' → ∃ m', m' < m ∧ V (i + 1) m' H') ∧ ∀ x H', J.yld i H x H' →
      gBd X.K b x (L2.wipe σ vs) H' fun σ2 H2 => L2.wipe σ2 vs = L2.wipe σ vs ∧ lift T X.K rB WF Ft σ2 H2 fun c H3 =>
        if c = true then lift T X.K (rD T X.K) WF Fe σ2 H3 fun y H4 => ∃ acc, H4 p = some (.lst acc) ∧ acc.length < sizeLine ∧ Nx (upd H4 p (.lst (acc ++ [y]))) else Nx H3) := by
  refine ⟨fun i m H2 => m = items.length - i ∧ i ≤ items.length ∧ CompAt T X.K W σ Q b src Ft Fe (wipeE env vs) ρ Z H p (items.drop i) H2,
    ⟨items.length, by simp, Nat.zero_le _, ρ, S, [], new_neu w hp ⟨[], rfl, rfl⟩, g⟩, ?_⟩
  rintro i m H2 ⟨rfl, hi, ρ2, S2, acc, n, g2⟩
  have step := it ρ2 S2 (plusZ Z p) H2 n.cells n.frz (fun _ => n.hid) n.w
  by_cases hlt : i < items.length
  · rw [drop_cons hlt] at g2
    unfold compL at g2
    split at g2
    · rename_i hch
      obtain ⟨go, yl⟩ := (step hch i).1 _ (List.getElem?_eq_getElem hlt)
      cases hb2 : bindE b items[i] (wipeE env vs) with
      | none =>
        rw [hb2] at g2
        exact g2.elim
      | some env1 =>
        rw [hb2] at g2
        dsimp only at g2
        refine .inr ⟨go, CompAt T X.K W σ Q b src Ft Fe (wipeE env vs) ρ Z H p (items.drop (i + 1)), fun H3 n3 => ⟨items.length - (i + 1), by omega, rfl, hlt, n3⟩, fun v H3 y => ?_⟩
        obtain ⟨x3, w3, r3⟩ := yl v H3 y
        have er3 : ER T X.K ρ2 (plusZ Z p) H3 (L2.wipe σ vs) (wipeE env vs) := ((er.neu n).ext x3).wiped vs
        refine bd_run r3 er3 hb2 fun σ3 a3 ag => ⟨by rw [ag.wipe hv, wipe_wipe], ρ2, S2, plusZ Z p, env1, w3, a3, ?_⟩
        cases hF : Ft env1 S2 with
        | stuck =>
          rw [hF] at g2
          exact g2.elim
        | exc C fs S3 =>
          rw [hF] at g2
          exact g2.elim
        | ok c S3 =>
          rw [hF] at g2
          intro c' H4 ρ4 x4 w4 ec
          have ec' : c = c' := ec
          subst ec'
          have x34 := x3.trans x4
          cases c with
          | false =>
            refine iteF ⟨ρ4, S3, acc, ?_, g2⟩
            obtain ⟨o, h1, h2⟩ := n.obj
            have q : H4 p = H2 p := x34.hid p (.inr rfl)
            refine ⟨fun k a e => x34.cells k a (n.cells k a e), fun a u e => x34.frz a u (n.frz a u e), fun a z => (x34.hid a (.inl z)).trans (n.hid a z), w4, n.nz, ⟨o, q.trans h1, h2.mono x34.cells x34.frz⟩⟩
          | true =>
            refine iteT ⟨ρ4, S3, plusZ Z p, env1, w4, a3.ext x4, ?_⟩
            change GoodO _ _ _ _ _ _ _ _ (oFin acc (match nox (Fe env1 S3) with | none => none | some (y, S2) => match compL b src Ft Fe (wipeE env vs) (items.drop (i + 1)) S2 with | none => none | some (ys, S3) => some (y :: ys, S3))) at g2
            cases hE : Fe env1 S3 with
            | stuck =>
              rw [hE] at g2
              exact g2.elim
            | exc C fs S4 =>
              rw [hE] at g2
              exact g2.elim
            | ok d S4 =>
              rw [hE] at g2
              intro u H5 ρ5 x5 w5 ru
              have x35 := x34.trans x5
              obtain ⟨o, h1, h2⟩ := n.obj
              obtain ⟨av, rfl, r2⟩ := h2
              have q : H5 p = some (.lst av) := (x35.hid p (.inr rfl)).trans h1
              change GoodO _ _ _ _ _ _ _ _ (oFin acc (match compL b src Ft Fe (wipeE env vs) (items.drop (i + 1)) S4 with | none => none | some (ys, S3) => some (d :: ys, S3))) at g2
              have r5 : RepL T X.K ρ5 (Fz ρ5 (plusZ Z p) H5) acc av := RepL.mono x35.cells x35.frz _ _ r2
              cases hR : compL b src Ft Fe (wipeE env vs) (items.drop (i + 1)) S4 with
              | none =>
                rw [hR] at g2
                exact g2.elim
              | some pr =>
                obtain ⟨ys, S5⟩ := pr
                rw [hR] at g2
                dsimp only at g2
                have hlen : acc.length < sizeLine := by
                  unfold oFin at g2
                  dsimp only at g2
                  split at g2
                  · rename_i hl
                    rw [List.length_append, List.length_cons] at hl
                    omega
                  · exact g2.elim
                rw [oFin_more] at g2
                refine ⟨av, q, by rw [← r5.len]; exact hlen, ρ5, S4, acc ++ [d], n.put x35 w5 ⟨av ++ [u], rfl, r5.app (RepL.one ru)⟩, ?_⟩
                rw [hR]
                exact g2
    · exact g2.elim
  · have ei : i = items.length := by omega
    subst ei
    rw [List.drop_length] at g2
    unfold compL at g2
    split at g2
    · rename_i hch
      refine .inl ⟨(step hch _).2 (Nat.le_refl _), ?_⟩
      unfold oFin at g2
      dsimp only at g2
      rw [List.append_nil] at g2
      split at g2
      · exact g2 p H2 ρ2 n
      · exact g2.elim
    · exact g2.elim
theorem of_lc (hc : X.calm = true) (hN : X.N.Nodup) (hi : IF T X W tg iter G) (ok : BlkOk X.N X.env.scope scope own) (hv : ∀ i ∈ b.slots, i ∈ own.map (·.2))
    (hg : ∀ (s : Shared) (H : Hp) (C : Addr) (cl : List (Str × Addr)) (fp : List Addr), PG (X.blk s H scope (compEnvC scope cl C X.env) fp) tg (gBd X.K b))
    (ht : ∀ (s : Shared) (H : Hp) (C : Addr) (cl : List (Str × Addr)) (fp : List Addr), TsF T (X.blk s H scope (compEnvC scope cl C X.env) fp) WF ifs Ft)
    (he : ∀ (s : Shared) (H : Hp) (C : Addr) (cl : List (Str × Addr)) (fp : List Addr), PF T (X.blk s H scope (compEnvC scope cl C X.env) fp) WF elt Fe) (hs : ∀ x, foldedSetIterable iter X.env x = pure x := by intro _; rfl) :
    OF T X W (.ListComp elt [⟨tg, iter, ifs, 0⟩] scope pos) (oLc (own.map (·.2)) b G Ft Fe) := pe_imp (pe_lc hc hN hi ok hg ht he hs) fun σ H Q q => by
  obtain ⟨ρ, S, Z, env, w, er, g⟩ := q
  refine ⟨ρ, S, Z, env, w, er, ?_⟩
  unfold oLc at g
  cases hG : G env S with
  | stuck =>
    rw [hG] at g
    exact g
  | exc C fs S' =>
    rw [hG] at g
    exact g
  | ok p S' =>
    rw [hG] at g
    obtain ⟨items, src⟩ := p
    exact fun J H' ρ' x w' it D hD => comp_run w' (er.ext x) it hv (GoodO.later (show GoodO T X.K W σ Q ρ Z H (oFin [] (compL b src Ft Fe (wipeE env (own.map (·.2))) items S')) from g) x) D hD
end
end HT
set_option maxRecDepth 100000
set_option maxHeartbeats 400000
namespace HT
open PySem PySem.Spec L2
open PyProof.Rows hiding St
structure Lv (k : Nat) (A : Around) : Prop where
  room : Room k A
  gd : A.guards = some []
theorem Lv.mono {j k : Nat} {A : Around} (r : Lv k A) (h : j ≤ k) : Lv j A := ⟨r.room.mono h, r.gd⟩
def spT (T : Str → Addr) (K : PySem.W.Frag) (M : List D → Cm D) (vs : List V) (H : Hp) (Q : VK) (E : XK) : Prop := ∃ ρ S Z ds, Wd T K ρ S Z H ∧ RepL T K ρ (Fz ρ Z H) ds vs ∧ Good T K (rD T K) (fun c d _ H' => E c d H') [] Q ρ Z H (M ds S)
structure FT (P : Program) (w : World) (K : PySem.W.Frag) (mg : Str → Option Value) (base : Heap) (T : Str → Addr) (k : Nat) (f : Addr) (fd : FuncData) (ps : List Str) (M : List D → Cm D) : Prop where
  len : ∀ ds S, ds.length ≠ ps.length → M ds S = .stuck
  run : ∀ (A : Around) (outer : List PySem.Env) (s : Shared) (H : Hp) (args : Args) (us : List Value) (vs : List V) (Q : VK) (E : XK), Lv k A → Env0 P w K mg base A outer s H → BindsTo s fd args (ps.zip us) → Vals vs us → vs.length = ps.length → spT T K M vs H Q E →
    codeAny (model P w) A (.call (.ref f) args) (CR (L2.CX P w) outer P w H s Q E) s
def mkM (np n : Nat) (F : FS) (ds : List D) : Cm D := fun S => if ds.length = np then (match F (ds.map .val ++ List.replicate (n - ds.length) .un) S with
  | .ok (.rt d) S' => .ok d S'
  | .ok (.nx _) S' => .ok .non S'
  | .ok (.xc _ C fs) S' => .exc C fs S'
  | _ => .stuck) else .stuck
theorem fz_big {ρ : Nat → Option Addr} {Z Z' : Hid} {H : Hp} (h : ∀ a, Z a → Z' a) : Sub (Fz ρ Z' H) (Fz ρ Z H) := fun a o q => by
  obtain ⟨h1, h2, h3⟩ := Fz_at q
  exact Fz_mk h1 (fun z => h2 (h a z)) h3
theorem Wd.big {T : Str → Addr} {K : PySem.W.Frag} {ρ : Nat → Option Addr} {S : Sto} {Z Z' : Hid} {H : Hp} (w : Wd T K ρ S Z' H) (h : ∀ a, Z a → Z' a) : Wd T K ρ S Z H :=
  ⟨w.dom, fun k c hc => by
    obtain ⟨a, o, h1, h2, h3, h4⟩ := w.cells k c hc
    exact ⟨a, o, h1, fun z => h2 (h a z), h3, h4.mono (fun _ _ h => h) (fz_big h)⟩, w.inj, fun a z => w.there a (h a z)⟩
theorem ExtS.big {ρ ρ' : Nat → Option Addr} {Z Z1 Z' : Hid} {H H' : Hp} (x : ExtS ρ Z Z1 H ρ' Z' H') (h : ∀ a, Z a → Z' a) (h1 : ∀ a, Z1 a → Z a) : Ext ρ Z H ρ' H' := ⟨x.cells, fun a o q => fz_big h a o (x.frz a o (fz_big h1 a o q)), x.hid⟩
theorem no_mapped {ds : List D} {n i : Nat} {s : Sl} (h : (ds.map Sl.val ++ List.replicate n .un)[i]? = some s) : s = .un ∨ ∃ d, s = .val d := by
  have m := List.mem_of_getElem? h
  rcases List.mem_append.mp m with m | m
  · obtain ⟨d, _, e⟩ := List.mem_map.mp m
    exact .inr ⟨d, e.symm⟩
  · exact .inl (List.eq_of_mem_replicate m)
theorem start_er {T : Str → Addr} {K : PySem.W.Frag} {ρ : Nat → Option Addr} {Z : Hid} {H : Hp} {ds : List D} {vs : List V} {N : List Str} (r : RepL T K ρ (Fz ρ Z H) ds vs) (hl : ds.length ≤ N.length) : ER T K ρ Z H (L2.start N vs) (ds.map .val ++ List.replicate (N.length - ds.length) .un) := by
  have hv := r.len
  have pick : ∀ {i : Nat} {s : Sl}, (ds.map Sl.val ++ List.replicate (N.length - ds.length) .un)[i]? = some s → s = .un ∨ ∃ d, s = .val d ∧ ds[i]? = some d := fun {i s} h => by
    by_cases hi : i < ds.length
    · rw [List.getElem?_append_left (by simpa using hi), List.getElem?_map] at h
      cases e : ds[i]? with
      | none =>
        rw [e] at h
        cases h
      | some d =>
        rw [e] at h
        exact .inr ⟨d, (Option.some.inj h).symm, rfl⟩
    · rw [List.getElem?_append_right (by simpa using hi), List.getElem?_replicate] at h
      split at h
      · exact .inl (Option.some.inj h).symm
      · cases h
  refine ⟨fun i d h => ?_, fun i c h => ?_, fun i c h => ?_, ?_⟩
  · rcases pick h with e | ⟨d', e, hd⟩
    · cases e
    · cases e
      obtain ⟨v, h1, h2⟩ := r.get hd
      refine ⟨v, ?_, h2⟩
      unfold L2.start
      have hi : i < vs.length := (List.getElem?_eq_some_iff.mp h1).1
      rw [List.getElem?_append_left (by simpa using hi), List.getElem?_map, h1]
      rfl
  · rcases pick h with e | ⟨d', e, hd⟩ <;> cases e
  · rcases pick h with e | ⟨d', e, hd⟩ <;> cases e
  · unfold L2.start
    rw [List.length_append, List.length_append, List.length_map, List.length_map, List.length_replicate, List.length_replicate, hv]
section
variable {P : Program} {w : World} {K : PySem.W.Frag} {mg : Str → Option Value} {base : Heap} {T : Str → Addr} {x qual : Str} {params : Arguments} {body : List Stmt} {scope : Scope} {dvs : List V} {kws : List (Str × V)} {f : Addr} {fd : FuncData} {N ps : List Str} {k : Nat}
abbrev ctx (P : Program) (w : World) (K : PySem.W.Frag) (mg : Str → Option Value) (base : Heap) (N : List Str) (qual : Str) (scope : Scope) (f : Addr) (cdv : Value) (A : Around) (outer : List PySem.Env) (s : Shared) (H : Hp) (E : XK) : Cx := cxOf (L2.CX P w) P w K mg base N qual scope f cdv A outer s H E
theorem ft_core {sp : List V → Hp → VK → XK → Prop} (F : FunD K x qual params body scope dvs kws f fd) (C : FnScope N ps scope)
    (hbody : ∀ (cdv : Value) (A : Around) (outer : List PySem.Env) (s : Shared) (H : Hp) (vs : List V) (Q : VK) (E : XK), Lv k (A.deeper (envOfC qual scope s.heap.objs.size f cdv)) → sp vs H Q E →
      ∃ t, PSs (ctx P w K mg base N qual scope f cdv A outer s H E) body t ∧ t { nx := fun _ H' => Q .non H', rt := Q } (L2.start N vs) H) :
    ∀ (A : Around) (outer : List PySem.Env) (s : Shared) (H : Hp) (args : Args) (us : List Value) (vs : List V) (Q : VK) (E : XK), Lv (k + 1) A → Env0 P w K mg base A outer s H → BindsTo s fd args (ps.zip us) → Vals vs us → vs.length = ps.length → sp vs H Q E →
    codeAny (model P w) A (.call (.ref f) args) (CR (L2.CX P w) outer P w H s Q E) s := by
  intro A outer s H args us vs Q E lv ev bd rv hl hq
  obtain ⟨oc, od, dV, kV, doc, pm, an, cdv, ct, osl, rfl, look, code, _, _⟩ := F.ex
  have kin : K.In s.heap := ev.mod.kin.keeps fun b o e => (ev.bs b o e).1
  have nol : s.heap.NoLimit := ev.mod.nolimit.keeps fun b o e => (ev.bs b o e).1
  have kinds : ∀ y ∈ ps.zip us, scope.names.lookup y.1 = some .local ∨ (scope.names.lookup y.1 = some .cell ∧ ((cellsFrom (s.heap.objs.size + 1) scope.names []).lookup y.1).isSome = true) := by
    rintro ⟨n, v⟩ hy
    rcases C.par n (List.of_mem_zip hy).1 with q | q
    · exact Or.inl q
    · exact Or.inr ⟨q, PySem.W.cellsFrom_some _ _ _ (Or.inl q)⟩
  refine codeAny_call_function lv.room.depth (kin _ _ look) rfl C.co C.gen rfl (PySem.W.codeRec_of kin code) (bd _ _ _ _ ?_)
  refine wpAny_newFunctionEnv_cells C.kind kinds fun env he s1 st => ?_
  subst he
  refine ⟨nol.keeps st.toInCall.keep, codeAny_func ?_⟩
  obtain ⟨t, ht, hr⟩ := hbody cdv A outer s H vs Q E ⟨lv.room.deeper _, lv.gd⟩ hq
  have I := inv_start (CX := L2.CX P w) (E := E) C lv.room.hd ev hl rv st
  refine wpAny_mono (ht.run [] s1 (L2.start N vs) H _ I hr) (fun fl s' q => ?_) fun e s' q => q
  cases fl with
  | ret u =>
    obtain ⟨v, τ, H', J, r, q⟩ := q
    exact ⟨v, H', J.os, J.bare, J.base, J.hok, r, q⟩
  | next =>
    obtain ⟨τ, H', J, q⟩ := q
    exact ⟨.non, H', J.os, J.bare, J.base, J.hok, rfl, q⟩
  | brk =>
    obtain ⟨_, _, _, q⟩ := q
    exact q.elim
  | cont =>
    obtain ⟨_, _, _, q⟩ := q
    exact q.elim
theorem ft_of {F : FS} (D : FunD K x qual params body scope dvs kws f fd) (C : FnScope N ps scope) {np n : Nat} (hnp : np = ps.length) (hn : n = N.length)
    (h : ∀ (cdv : Value) (A : Around) (outer : List PySem.Env) (s : Shared) (H : Hp) (E : XK), Lv k (A.deeper (envOfC qual scope s.heap.objs.size f cdv)) → SFs T (ctx P w K mg base N qual scope f cdv A outer s H E) (fun c d _ H' => E c d H') body F) :
    FT P w K mg base T (k + 1) f fd ps (mkM np n F) := by
  subst hnp hn
  refine ⟨fun ds S hne => by unfold mkM; rw [if_neg hne], ft_core D C fun cdv A outer s H vs Q E lv hq => ⟨_, h cdv A outer s H E lv, ?_⟩⟩
  obtain ⟨ρ, S, Z, ds, w', r, g⟩ := hq
  unfold mkM at g
  split at g
  · rename_i hd
    have hle : ds.length ≤ N.length := by
      have := congrArg List.length C.pre
      rw [List.length_take] at this
      omega
    have er := start_er (N := N) r hle
    have noO : ∀ {i : Nat} {c : CO}, ¬ (ds.map Sl.val ++ List.replicate (N.length - ds.length) .un)[i]? = some (.own c) := fun {i c} h => by
      rcases no_mapped h with e | ⟨d, e⟩ <;> cases e
    have noS : ∀ {i : Nat} {c : CO}, ¬ (ds.map Sl.val ++ List.replicate (N.length - ds.length) .un)[i]? = some (.slf c) := fun {i c} h => by
      rcases no_mapped h with e | ⟨d, e⟩ <;> cases e
    refine ⟨ρ, S, Z, Z, _, ⟨w', er, ⟨fun _ z => z, fun i c a h1 h2 => (noO h1).elim, fun i j c c' a h1 _ _ _ => (noO h1).elim, rfl, fun i c h1 => (noS h1).elim, fun i j c c' a h1 _ _ => (noO h1).elim, fun i j c c' h1 _ => (noS h1).elim⟩⟩, ?_⟩
    cases hF : F (ds.map Sl.val ++ List.replicate (N.length - ds.length) .un) S with
    | stuck =>
      rw [hF] at g
      exact g.elim
    | exc C' fs S' =>
      rw [hF] at g
      exact g.elim
    | ok fl S' =>
      rw [hF] at g
      cases fl with
      | nx e => exact fun σ' H' ρ' Z' x a => g .non H' ρ' (x.big a.o.sub fun _ z => z) (a.w.big a.o.sub) rfl
      | rt d => exact fun v H' ρ' Z' x hz w2 r2 => g v H' ρ' (x.big hz fun _ z => z) (w2.big hz) (Rep.mono (fun _ _ h => h) (fz_big hz) _ _ r2)
      | bk e => exact g.elim
      | ct e => exact g.elim
      | xc e C' fs => exact fun σ' dx us H' ρ' Z' x a q1 q2 => g dx us H' ρ' (x.big a.o.sub fun _ z => z) (a.w.big a.o.sub) (q1.map fun b z => fz_big a.o.sub b _ z) (RepF.mono (fun _ _ h => h) (fz_big a.o.sub) _ _ q2)
  · exact g.elim
end
end HT
set_option maxRecDepth 100000
set_option maxHeartbeats 400000
namespace HT
open PySem PySem.Spec L2
open PyProof.Rows hiding St
theorem takesF {X : Cx} : Takes X WF := fun _ _ x => by
  obtain ⟨_, _, _, _, _, _, _, _, _, _, _, _, _, _, _, _, z⟩ := x
  exact z.elim
def fCall (M : List D → Cm D) (ds : List D) (Fa : Env → Cm (List D)) : FE := fun env S => (Fa env S).bnd fun xs => M (xs ++ ds)
theorem RepL.cons {T : Str → Addr} {K : PySem.W.Frag} {ρ : Nat → Option Addr} {F : Hp} {d : D} {v : V} {ds : List D} {vs : List V} (h : Rep T K ρ F d v) (r : RepL T K ρ F ds vs) : RepL T K ρ F (d :: ds) (v :: vs) := ⟨v, vs, rfl, h, r⟩
def CsD (T : Str → Addr) (K : PySem.W.Frag) (dds : List D) (dvs : List V) : Prop := ∀ ρ F, RepL T K ρ F dds dvs
theorem CsD.nil {T : Str → Addr} {K : PySem.W.Frag} : CsD T K [] [] := fun _ _ => rfl
section
variable {T : Str → Addr} {X : Cx} {W : WX} {k : Nat} {f : Addr} {fd : FuncData} {ps : List Str} {M : List D → Cm D} {dvs : List V} {dsv : List Value} {dds : List D} {x : Str} {p pos : Pos} {e : Expr} {es : List Expr} {Fa : Env → Cm (List D)}
theorem run_ft {pins : List (Addr × Obj)} {σ : St} {H : Hp} {s : Shared} {Q : VK} {us : List Value} {vs : List V} {ρ : Nat → Option Addr} {S : Sto} {Z : Hid} {ds : List D} (F : FT X.prog X.w X.K X.mg X.base T k f fd ps M) (lv : Lv k X.A) (hb : Binds X.K fd ps dsv) (hd : Vals dvs dsv) (tk : Takes X W)
    (I : Inv X pins σ H s) (r : Vals vs us) (w : Wd T X.K ρ S Z H) (r2 : RepL T X.K ρ (Fz ρ Z H) ds (vs ++ dvs)) (g : Good T X.K (rD T X.K) W σ Q ρ Z H (M ds S)) : wpAny (model X.prog X.w) X.A (call (.ref f) us) (EP X pins σ Q) X.xe s := by
  have hl : ds.length = ps.length := Classical.byContradiction fun hne => by
    rw [F.len ds S hne] at g
    exact g
  have r3 : Vals (vs ++ dvs) (us ++ dsv) := r.append hd
  have hl2 : (us ++ dsv).length = ps.length := by rw [← r3.length, ← r2.len]; exact hl
  refine wpAny_call (codeAny_mono (F.run X.A X.stack s H ⟨us, []⟩ (us ++ dsv) (vs ++ dvs) Q (WE W σ) lv I.env0 (hb s us I.kIn hl2) r3 (by rw [← r2.len]; exact hl) ⟨ρ, S, Z, ds, w, r2, ?_⟩) fun r s' hq => ?_)
  · cases hM : M ds S with
    | ok d S' =>
      rw [hM] at g
      exact g
    | exc C fs S' =>
      rw [hM] at g
      exact g
    | stuck =>
      rw [hM] at g
      exact g
  · cases r with
    | error e => exact passAt tk σ pins H s e s' I hq
    | ok fl =>
      cases fl with
      | ret u => exact I.after hq
      | next => exact False.elim hq
      | brk => exact False.elim hq
      | cont => exact False.elim hq
theorem pf_call (F : FT X.prog X.w X.K X.mg X.base T k f fd ps M) (lv : Lv k X.A) (hg : Gl X x) (hm : X.mg x = some (.ref f)) (hk : PySem.W.keepIn X.K (.ref f) = true) (hb : Binds X.K fd ps dsv) (hd : Vals dvs dsv) (hD : CsD T X.K dds dvs) (tk : Takes X W)
    (ha : AF T X W (e :: es) Fa) (hdb : (x == ("__debug__" : Str)) = false := by decide) (he : starEach (e :: es) X.env = (false, eval e X.env) :: starEach es X.env := by rfl) (hpl : (backTo pos (starEach es X.env)).any (·.1) = false := by rfl) :
    PF T X W (.Call (.Name x p) (e :: es) [] pos) (fCall M dds Fa) := by
  refine ⟨fun pins s σ H Q I h => ?_⟩
  obtain ⟨ρ, S, Z, env, w, er, g⟩ := h
  refine wpAny_Call_Name_kw (ld_glob I hg hm ?_ hdb)
  refine PySem.W.callWith_K (h₀ := X.base) I.ok.mod.kin hk (thn (ha.run pos pins s σ H _ I (lift_bnd w er g)) fun us s1 ⟨vs, H1, I1, r, ρ1, S1, ds, x1, w1, e1, r1, g1⟩ => ⟨I1.kIn, ?_⟩) he hpl
  exact run_ft F lv hb hd tk I1 r w1 (r1.app (hD _ _)) g1
end
abbrev EvM (env : PySem.Env) (o : Expr) (m : Str) (apos : Pos) (es : List Expr) (pos : Pos) (pl : Sem Bool) : Prop :=
  eval (.Call (.Attribute o m apos) es [] pos) env = (eval o env >>= fun ov => standAt apos.atName >>= fun _ => holding [ov] (getMethod ov m pl) >>= fun fx => callWith pos fx.1 fx.2 (backTo pos (starEach es env)) (backToKw pos (keywordEach [] env)))
def fMeth (C m : Str) (M : List D → Cm D) (ds : List D) (Fo : FE) (Fa : Env → Cm (List D)) : FE := fun env S => (Fo env S).bnd fun o S1 => match asCO S1 o with
  | some (.ins C' fs) => if C' = C ∧ fs.lookup m = none then (Fa env S1).bnd fun xs => M (o :: (xs ++ ds)) else .stuck
  | _ => .stuck
section
variable {T : Str → Addr} {X : Cx} {W : WX} {k : Nat} {f : Addr} {fd : FuncData} {ps : List Str} {M : List D → Cm D} {dvs : List V} {dsv : List Value} {dds : List D} {C m : Str} {p pos apos : Pos} {o e : Expr} {es : List Expr} {Fo : FE} {Fa : Env → Cm (List D)}
theorem pf_meth0 {pl : Sem Bool} (ho : PF T X W o Fo) (c : Cls X.K (T C)) (hm : Meth X.K (T C) m f) (F : FT X.prog X.w X.K X.mg X.base T k f fd ps M) (lv : Lv k X.A) (hb : Binds X.K fd ps dsv) (hd : Vals dvs dsv) (hD : CsD T X.K dds dvs) (tk : Takes X W)
    (ht : EvM X.env o m apos [] pos pl := by rfl) :
    PF T X W (.Call (.Attribute o m apos) [] [] pos) (fMeth C m M dds Fo (fun _ => pure [])) := by
  refine ⟨fun pins s σ H Q I h => ?_⟩
  obtain ⟨ρ, S, Z, env, w, er, g⟩ := h
  refine PySem.W.methodCall_KW (pl := pl) (thn (ho.run pins s σ H _ I (lift_bnd w er g)) fun u s1 ⟨v, H1, I1, rx, ρ1, S1, d1, x1, w1, e1, r1, g1⟩ => ?_) ht
  dsimp only at g1
  cases hc : asCO S1 d1 with
  | none =>
    rw [hc] at g1
    exact g1.elim
  | some c1 =>
    rw [hc] at g1
    obtain ⟨a, ob, rfl, h1, h2⟩ := asCO_ok w1 r1 hc
    cases c1 with
    | ins C' fs =>
      dsimp only at g1
      split at g1
      · rename_i hCm
        obtain ⟨rfl, hn⟩ := hCm
        obtain ⟨dx, vf, rfl, rf⟩ := h2
        obtain rfl : u = Value.ref a := rx
        refine getmeth_ok I1 h1 c hm (rf.nolook hn) ?_
        exact PySem.W.callWith_K0 (first := [.ref a]) I1.kIn hm.kp (run_ft (us := [.ref a]) (vs := [.ref a]) F lv hb hd tk I1 (.cons rfl .nil) w1 (RepL.cons r1 (hD _ _)) g1)
      · exact g1.elim
    | _ => exact g1.elim
end
end HT
set_option maxRecDepth 100000
set_option maxHeartbeats 400000
namespace HT
open PySem PySem.Spec L2
open PyProof.Rows hiding St
def fNotT (F : Env → Cm Bool) : Env → Cm Bool := fun env S => (F env S).bnd fun b => pure (!b)
def fAndT (F G : Env → Cm Bool) : Env → Cm Bool := fun env S => (F env S).bnd fun b S1 => if b = true then G env S1 else .ok false S1
def fOrT (F G : Env → Cm Bool) : Env → Cm Bool := fun env S => (F env S).bnd fun b S1 => if b = true then .ok true S1 else G env S1
def fIfT {α : Type} (C : Env → Cm Bool) (F G : Env → Cm α) : Env → Cm α := fun env S => (C env S).bnd fun b S1 => if b = true then F env S1 else G env S1
def fAndV (F G : FE) : FE := fun env S => (F env S).bnd fun x S1 => match x with
  | .bl b => if b = true then G env S1 else .ok (.bl false) S1
  | _ => .stuck
def fOrV (F G : FE) : FE := fun env S => (F env S).bnd fun x S1 => match x with
  | .bl b => if b = true then .ok (.bl true) S1 else G env S1
  | _ => .stuck
section
variable {T : Str → Addr} {X : Cx} {W : WX} {a b c : Expr} {rest : List Expr} {F G : Env → Cm Bool} {Fa Fb : FE} {pos : Pos}
theorem lift_then {α β γ δ : Type} {K : PySem.W.Frag} {rel : Rl α β} {rel2 : Rl γ δ} {F : Env → Cm α} {k : Env → α → Cm γ} {σ : St} {H : Hp} {Q : δ → Hp → Prop} {r : β → Hp → Prop} (h : lift T K rel2 W (fun env S => (F env S).bnd (k env)) σ H Q)
    (i : ∀ ρ S Z env H v d, Wd T K ρ S Z H → ER T K ρ Z H σ env → rel ρ (Fz ρ Z H) d v → Good T K rel2 W σ Q ρ Z H (k env d S) → r v H) : lift T K rel W F σ H r := by
  obtain ⟨ρ, S, Z, env, w, e, g⟩ := h
  exact lift_imp (lift_bnd w e g) fun v H1 ⟨ρ1, S1, d1, x1, w1, e1, r1, g1⟩ => i ρ1 S1 Z env H1 v d1 w1 e1 r1 g1
theorem tf_not (h : TF T X W a F) : TF T X W (.UnaryOp .Not a pos) (fNotT F) := pt_imp (pt_not h) fun σ H Q q =>
  lift_then (rel := rB) (k := fun _ b => pure (!b)) q fun ρ S Z env H v d w e r g => by
    have r' : d = v := r
    subst r'
    exact g _ H ρ .refl w rfl
theorem twf_and1 (h : TF T X W a F) : TWF T X W (.BoolOp .And [a] pos) F := pw_and1 h
theorem twf_or1 (h : TF T X W a F) : TWF T X W (.BoolOp .Or [a] pos) F := pw_or1 h
theorem twf_and (h : TF T X W a F) (h2 : TWF T X W (.BoolOp .And (b :: rest) pos) G) : TWF T X W (.BoolOp .And (a :: b :: rest) pos) (fAndT F G) := pw_imp (pw_and h h2) fun σ H Q q =>
  lift_then (rel := rB) (k := fun env b S1 => if b = true then G env S1 else .ok false S1) q fun ρ S Z env H v d w e r g => by
    have r' : d = v := r
    subst r'
    cases d with
    | true => exact iteT ⟨ρ, S, Z, env, w, e, g⟩
    | false => exact iteF (g _ H ρ .refl w rfl)
theorem twf_or (h : TF T X W a F) (h2 : TWF T X W (.BoolOp .Or (b :: rest) pos) G) : TWF T X W (.BoolOp .Or (a :: b :: rest) pos) (fOrT F G) := pw_imp (pw_or h h2) fun σ H Q q =>
  lift_then (rel := rB) (k := fun env b S1 => if b = true then .ok true S1 else G env S1) q fun ρ S Z env H v d w e r g => by
    have r' : d = v := r
    subst r'
    cases d with
    | true => exact iteT (g _ H ρ .refl w rfl)
    | false => exact iteF ⟨ρ, S, Z, env, w, e, g⟩
theorem tf_pw {e : Expr} (h : TWF T X W e F) : TF T X W e F := h.pt
theorem pf_one {op} (h : PF T X W a Fa) : PF T X W (.BoolOp op [a] pos) Fa := pe_one h
theorem pf_and (h : PF T X W a Fa) (h2 : PF T X W (.BoolOp .And (b :: rest) pos) Fb) : PF T X W (.BoolOp .And (a :: b :: rest) pos) (fAndV Fa Fb) := pe_imp (pe_and h h2) fun σ H Q q =>
  lift_then (rel := rD T X.K) (k := fun env x S1 => match x with | .bl b => if b = true then Fb env S1 else .ok (.bl false) S1 | _ => .stuck) q fun ρ S Z env H v d w e r g => by
    cases d with
    | bl b =>
      have r' : v = .bl b := r
      refine ⟨b, r', ?_⟩
      cases b with
      | true => exact iteT ⟨ρ, S, Z, env, w, e, g⟩
      | false => exact iteF (g _ H ρ .refl w rfl)
    | _ => exact g.elim
theorem pf_if (hc : TF T X W c F) (h : PF T X W a Fa) (h2 : PF T X W b Fb) : PF T X W (.IfExp c a b pos) (fIfT F Fa Fb) := pe_imp (pe_ifExp hc h h2) fun σ H Q q =>
  lift_then (rel := rB) (k := fun env b S1 => if b = true then Fa env S1 else Fb env S1) q fun ρ S Z env H v d w e r g => by
    have r' : d = v := r
    subst r'
    cases d with
    | true => exact iteT ⟨ρ, S, Z, env, w, e, g⟩
    | false => exact iteF ⟨ρ, S, Z, env, w, e, g⟩
end
def a1 (g : D → Cm D) (xs : List D) : Cm D := match xs with
  | [x] => g x
  | _ => stk
def a2 (g : D → D → Cm D) (xs : List D) : Cm D := match xs with
  | [x, y] => g x y
  | _ => stk
def OpN (T : Str → Addr) (X : Cx) (r : List V → Hp → VK → Prop) (g : List D → Cm D) : Prop := ∀ (W : WX) (σ : St) (ρ : Nat → Option Addr) (S : Sto) (Z : Hid) (H : Hp) (xs : List D) (vs : List V) (Q : VK), Wd T X.K ρ S Z H → RepL T X.K ρ (Fz ρ Z H) xs vs →
  Good T X.K (rD T X.K) W σ Q ρ Z H (g xs S) → r vs H Q
def fArgs (g : List D → Cm D) (Fa : Env → Cm (List D)) : FE := fun env S => (Fa env S).bnd fun xs => g xs
section
variable {T : Str → Addr} {X : Cx} {W : WX} {x : Str} {p pos : Pos} {e : Expr} {es : List Expr} {Fa : Env → Cm (List D)} {id : String} {r : List V → Hp → VK → Prop} {g : List D → Cm D}
theorem lift_args {K : PySem.W.Frag} {σ : St} {H : Hp} {Q : VK} {r : List V → Hp → Prop} (h : lift T K (rD T K) W (fArgs g Fa) σ H Q)
    (k : ∀ ρ S Z H xs vs, Wd T K ρ S Z H → RepL T K ρ (Fz ρ Z H) xs vs → Good T K (rD T K) W σ Q ρ Z H (g xs S) → r vs H) : lift T K (rL T K) W Fa σ H r :=
  lift_then (rel := rL T K) (k := fun _ xs => g xs) h fun ρ S Z env H v d w e r g => k ρ S Z H d v w r g
theorem pf_callB (hc : CallR X (.builtin id) r) (hr : OpN T X r g) (hg : Gl X x) (hm : X.mg x = none) (hv : bootBuiltins x = some (.builtin id)) (ha : AF T X W (e :: es) Fa) (hn : x ≠ "__name__" := by decide) (hdb : (x == ("__debug__" : Str)) = false := by decide)
    (he : starEach (e :: es) X.env = (false, eval e X.env) :: starEach es X.env := by rfl) (hpl : (backTo pos (starEach es X.env)).any (·.1) = false := by rfl) : PF T X W (.Call (.Name x p) (e :: es) [] pos) (fArgs g Fa) :=
  pe_imp (pe_callB hc hg hm hv ha hn hdb he hpl) fun σ H Q q => lift_args (r := fun vs H1 => r vs H1 Q) q fun ρ S Z H xs vs w rr g => hr W σ ρ S Z H xs vs Q w rr g
theorem pf_callTy (hc : CallR X (.type id) r) (hr : OpN T X r g) (hg : Gl X x) (hm : X.mg x = none) (hv : bootBuiltins x = some (.type id)) (ha : AF T X W (e :: es) Fa) (hn : x ≠ "__name__" := by decide) (hdb : (x == ("__debug__" : Str)) = false := by decide)
    (he : starEach (e :: es) X.env = (false, eval e X.env) :: starEach es X.env := by rfl) (hpl : (backTo pos (starEach es X.env)).any (·.1) = false := by rfl) : PF T X W (.Call (.Name x p) (e :: es) [] pos) (fArgs g Fa) :=
  pe_imp (pe_callTy hc hg hm hv ha hn hdb he hpl) fun σ H Q q => lift_args (r := fun vs H1 => r vs H1 Q) q fun ρ S Z H xs vs w rr g => hr W σ ρ S Z H xs vs Q w rr g
end
theorem RepL.one_inv {T : Str → Addr} {K : PySem.W.Frag} {ρ : Nat → Option Addr} {F : Hp} {d : D} {vs : List V} (r : RepL T K ρ F [d] vs) : ∃ v, vs = [v] ∧ Rep T K ρ F d v := by
  obtain ⟨v, u, rfl, h, r2⟩ := r
  have e : u = [] := r2
  subst e
  exact ⟨v, rfl, h⟩
theorem RepL.two_inv {T : Str → Addr} {K : PySem.W.Frag} {ρ : Nat → Option Addr} {F : Hp} {d c : D} {vs : List V} (r : RepL T K ρ F [d, c] vs) : ∃ v u, vs = [v, u] ∧ Rep T K ρ F d v ∧ Rep T K ρ F c u := by
  obtain ⟨v, u, rfl, h, r2⟩ := r
  obtain ⟨u', rfl, h2⟩ := r2.one_inv
  exact ⟨v, u', rfl, h, h2⟩
section
variable {T : Str → Addr} {X : Cx}
theorem opN1 {r : List V → Hp → VK → Prop} {g : D → Cm D} (h : ∀ (W : WX) (σ : St) (ρ : Nat → Option Addr) (S : Sto) (Z : Hid) (H : Hp) (x : D) (v : V) (Q : VK), Wd T X.K ρ S Z H → Rep T X.K ρ (Fz ρ Z H) x v → Good T X.K (rD T X.K) W σ Q ρ Z H (g x S) → r [v] H Q) : OpN T X r (a1 g) := by
  intro W σ ρ S Z H xs vs Q w rr g0
  match xs, rr, g0 with
  | [], _, g0 => exact g0.elim
  | [x], rr, g0 =>
    obtain ⟨v, rfl, h1⟩ := rr.one_inv
    exact h W σ ρ S Z H x v Q w h1 g0
  | _ :: _ :: _, _, g0 => exact g0.elim
theorem opN2 {r : List V → Hp → VK → Prop} {g : D → D → Cm D} (h : ∀ (W : WX) (σ : St) (ρ : Nat → Option Addr) (S : Sto) (Z : Hid) (H : Hp) (x y : D) (v u : V) (Q : VK), Wd T X.K ρ S Z H → Rep T X.K ρ (Fz ρ Z H) x v → Rep T X.K ρ (Fz ρ Z H) y u → Good T X.K (rD T X.K) W σ Q ρ Z H (g x y S) → r [v, u] H Q) : OpN T X r (a2 g) := by
  intro W σ ρ S Z H xs vs Q w rr g0
  match xs, rr, g0 with
  | [], _, g0 => exact g0.elim
  | [x], _, g0 => exact g0.elim
  | [x, y], rr, g0 =>
    obtain ⟨v, u, rfl, h1, h2⟩ := rr.two_inv
    exact h W σ ρ S Z H x y v u Q w h1 h2 g0
  | _ :: _ :: _ :: _, _, g0 => exact g0.elim
def asQ2 (S : Sto) : D → Option (List D)
  | .tup ds => some ds
  | d => asL S d
theorem asQ2_ok {K : PySem.W.Frag} {ρ : Nat → Option Addr} {Z : Hid} {H : Hp} {S : Sto} (w : Wd T K ρ S Z H) {d : D} {v : V} {ds : List D} (r : Rep T K ρ (Fz ρ Z H) d v) (h : asQ2 S d = some ds) : ∃ a vs, v = .ref a ∧ (SqL K H a vs ∨ SqT K H a vs) ∧ RepL T K ρ (Fz ρ Z H) ds vs := by
  cases d with
  | tup es =>
    cases h
    obtain ⟨a, vs, e, q, q2⟩ := r
    exact ⟨a, vs, e, .inr (Fz_sub.seqT q), q2⟩
  | klst es =>
    obtain ⟨a, vs, e, q, q2⟩ := asL_ok w r (show asL S (.klst es) = some ds from h)
    exact ⟨a, vs, e, .inl q, q2⟩
  | lst es =>
    obtain ⟨a, vs, e, q, q2⟩ := asL_ok w r (show asL S (.lst es) = some ds from h)
    exact ⟨a, vs, e, .inl q, q2⟩
  | cell k =>
    obtain ⟨a, vs, e, q, q2⟩ := asL_ok w r (show asL S (.cell k) = some ds from h)
    exact ⟨a, vs, e, .inl q, q2⟩
  | _ => cases h
def gLen (x : D) : Cm D := fun S => match x with
  | .str y => if y.length ≤ sizeLine then .ok (.int y.length) S else .stuck
  | x => match asQ2 S x with
    | some ds => .ok (.int ds.length) S
    | none => .stuck
theorem ok_gLen : OpN T X (fun xs H Q => ∃ x n, xs = [x] ∧ LenV X.K x H n ∧ Q (.int n) H) (a1 gLen) := opN1 fun W σ ρ S Z H x v Q w r g => by
  unfold gLen at g
  split at g
  · have e : v = .str _ := r
    subst e
    split at g
    · exact ⟨_, _, rfl, ⟨by assumption, rfl⟩, g _ H ρ .refl w rfl⟩
    · exact g.elim
  · split at g
    · rename_i ds hds
      obtain ⟨a, vs, rfl, q, q2⟩ := asQ2_ok w r hds
      refine ⟨_, vs.length, rfl, ?_, g _ H ρ .refl w (by rw [← q2.len]; exact (rfl : V.int _ = .int _))⟩
      rcases q with q | q
      · exact .inl ⟨vs, q, rfl⟩
      · exact .inr ⟨vs, q, rfl⟩
    · exact g.elim
def gIx (x y : D) : Cm D := fun S => match y with
  | .int i => (match x with
    | .str z => (match atI z.cps.toList i with
      | some c => if z.length ≤ sizeLine then .ok (.str ⟨#[c]⟩) S else .stuck
      | none => .stuck)
    | x => match asQ2 S x with
      | some ds => (match atI ds i with
        | some d => .ok d S
        | none => .stuck)
      | none => .stuck)
  | _ => .stuck
def rIx3 (K : PySem.W.Frag) : R2 := fun x y H Q => (rIxL K x y H Q ∨ rIxT K x y H Q) ∨ rIxS x y H Q
theorem ix_3 : IxR X (rIx3 X.K) := IxR.or (IxR.or ix_list ix_tup) ix_str
theorem atI_rep {K : PySem.W.Frag} {ρ : Nat → Option Addr} {F : Hp} {ds : List D} {vs : List V} {i : Int} {d : D} (r : RepL T K ρ F ds vs) (h : atI ds i = some d) : ∃ v, atI vs i = some v ∧ Rep T K ρ F d v := by
  unfold atI at h ⊢
  rw [← r.len]
  cases e : ixN ds.length i with
  | none =>
    rw [e] at h
    cases h
  | some j =>
    rw [e] at h
    exact r.get h
theorem ok_gIx : Op2 T X (rIx3 X.K) gIx := by
  intro W σ ρ S Z H x y v u Q w r1 r2 g
  unfold gIx at g
  split at g
  · rename_i i
    have e : u = .int i := r2
    subst e
    split at g
    · rename_i z
      have e : v = .str z := r1
      subst e
      split at g
      · rename_i c hc
        split at g
        · exact .inr ⟨z, i, c, rfl, rfl, by assumption, hc, g _ H ρ .refl w rfl⟩
        · exact g.elim
      · exact g.elim
    · split at g
      · rename_i ds hds
        obtain ⟨a, vs, rfl, q, q2⟩ := asQ2_ok w r1 hds
        split at g
        · rename_i d hd
          obtain ⟨v', h1, h2⟩ := atI_rep q2 hd
          have fin : Q v' H := g v' H ρ .refl w h2
          rcases q with q | q
          · exact .inl (.inl ⟨a, vs, i, v', rfl, rfl, q, h1, fin⟩)
          · exact .inl (.inr ⟨a, vs, i, v', rfl, rfl, q, h1, fin⟩)
        · exact g.elim
      · exact g.elim
  · exact g.elim
theorem pf_ix {W : WX} {a b : Expr} {Fa Fb : FE} {pos : Pos} (ha : PF T X W a Fa) (hb : PF T X W b Fb) (hs : PlainIx b) : PF T X W (.Subscript a b pos) (f2 gIx Fa Fb) :=
  pe_imp (pe_ix ix_3 ha hb hs) fun σ H Q q => lift2 (r := fun v u H2 => rIx3 X.K v u H2 Q) q fun ρ S Z H x y v u w r1 r2 g => ok_gIx W σ ρ S Z H x y v u Q w r1 r2 g
end
end HT
set_option maxRecDepth 100000
set_option maxHeartbeats 800000
namespace HT
open PySem PySem.Spec L2
open PyProof.Rows hiding St
open PySem.SeqAt AutoSeq1 MeetsSeq MeetsSeq2 MeetsSeq3 SeqRoads2
theorem tup_once (l : Addr) (items : Array Value) (n : Nat) (sl : Array (Option Value)) (dd : Option Addr) (u : Tok) :
    Meets (Builtin.«tuple.__mul__» ⟨[.ref l, .int 1 u], []⟩) (fun _ R s => s.heap.get? l = some { cls := .type "tuple", dict := dd, data := .seq items n, slots := sl } ∧ R (.ok (.ret (Value.ref l))) s) :=
  .of_wp fun prog w A R s h => by
    obtain ⟨hp, g, d, tk, os⟩ := s
    obtain ⟨hl, h⟩ := h
    have f1 := AutoSeq1.idx_int
    wp_walk using wpAny_loadPart' hl
    exact ⟨_, rfl, h⟩
theorem tup_never (l : Addr) (x : Value) (items : List Value) (n : Nat) (sl : Array (Option Value)) (dd : Option Addr) (u : Tok) :
    Meets (Builtin.«tuple.__mul__» ⟨[.ref l, .int 0 u], []⟩) (fun _ R s => s.heap.get? l = some { cls := .type "tuple", dict := dd, data := .seq (x :: items).toArray n, slots := sl } ∧
      R (.ok (.ret (Value.ref s.heap.objs.size))) { s with heap := s.heap.push { cls := Value.type "tuple", data := Data.seq #[] }, toks := s.toks }) :=
  .of_wp fun prog w A R s h => by
    obtain ⟨hp, g, d, tk, os⟩ := s
    obtain ⟨hl, h⟩ := h
    have f1 := AutoSeq1.idx_int
    have c1 : ((x :: items).toArray.isEmpty || (0 : Int) == 1) = false := rfl
    wp_walk using wpAny_loadPart' hl
    repeat (first
      | (refine wpAny_ite_false (decide_eq_false (by rw [c1]; exact Bool.false_ne_true)) ?_; wp_walk using wpAny_loadPart' hl))
    exact ⟨_, rfl, h⟩
def rRepT01 (K : PySem.W.Frag) : R2 := fun x y H Q => ∃ l k xs, x = .ref l ∧ y = .int k ∧ SqT K H l xs ∧ xs ≠ [] ∧ ((k = 1 ∧ Q (.ref l) H) ∨ (k = 0 ∧ ∀ p, H p = none → Q (.ref p) (upd H p (.tup []))))
theorem op_repT01 {X : Cx} : OpR X (binaryOp .Mult) (rRepT01 X.K) := by
  intro pins s σ H x y v u Q I rx ry h
  obtain ⟨l, k, xs, rfl, rfl, hT, hne, q⟩ := h
  cases rx
  obtain ⟨t, rfl⟩ := ry
  obtain ⟨its, r, ⟨⟨cls, dd, data, sl⟩, ho, hc, n, hd⟩, hs⟩ := I.tuple hT
  simp only at hc hd
  subst hc hd
  refine wpAny_binaryOp_repeat_ref (T := "tuple") (U := "int") (by decide) ⟨_, ho, rfl⟩ (fun s' => typeIs_int s' k t) noFill_tuple_mul F.fills_int_mul F.slot_int_rmul repeat_tuple F.slot_int_index.lookup
    (call_meets F.slot_int_rmul (typeIs_int s k t) F.entry_int_rmul (F.args_int_rmul_2 _ _) (int_rmul_tuple k t l its.toArray n dd sl) ⟨ho, rfl, ⟨_, ho, rfl⟩, ?_⟩)
  rcases q with ⟨rfl, q⟩ | ⟨rfl, q⟩
  · exact call_meets F.slot_tuple_mul ⟨_, ho, rfl⟩ F.entry_tuple_mul (F.args_tuple_mul_2 _ _) (tup_once l its.toArray n sl dd t) ⟨ho, .ref l, H, I, rfl, q⟩
  · cases its with
    | nil =>
      have e := r.length
      exact absurd (List.eq_nil_of_length_eq_zero e) hne
    | cons a b =>
      refine call_meets F.slot_tuple_mul ⟨_, ho, rfl⟩ F.entry_tuple_mul (F.args_tuple_mul_2 _ _) (tup_never l a b n sl dd t) ⟨ho, ?_⟩
      refine ⟨.ref s.heap.objs.size, _, I.laid (t' := s.toks) (o := .tup []) (fun b ob q => Heap.get?_push_of_some _ q) (Nat.le_refl _) ?_, rfl, q _ (I.hok.fresh (Nat.le_refl _))⟩
      exact ⟨Nat.zero_le _, [], .nil, IsTup.new _ _⟩
def gMul2 (x y : D) : Cm D := fun S => match x, y with
  | .tup a, .int k => if a ≠ [] ∧ k = 1 then .ok (.tup a) S else if a ≠ [] ∧ k = 0 then .ok (.tup []) S else gMul (.tup a) (.int k) S
  | x, y => gMul x y S
abbrev rMul4 (X : Cx) : R2 := fun x y H Q => rMul3 X x y H Q ∨ rRepT01 X.K x y H Q
theorem op_mul4 {X : Cx} : OpR X (binaryOp .Mult) (rMul4 X) := OpR.or op_mul3 op_repT01
theorem ok_gMul2 {T : Str → Addr} {X : Cx} : Op2 T X (rMul4 X) gMul2 := by
  intro W σ ρ S Z H x y v u Q w rx ry g
  unfold gMul2 at g
  split at g
  · rename_i a k
    have eu : u = .int k := ry
    split at g
    · rename_i hc
      obtain ⟨h1, rfl⟩ := hc
      obtain ⟨p, vs, rfl, h2, h3⟩ := id rx
      exact .inr ⟨p, 1, vs, rfl, eu, Fz_sub.seqT h2, fun e => h1 ((repL_nil h3).mp e), .inl ⟨rfl, g.now w rx⟩⟩
    · split at g
      · rename_i hc
        obtain ⟨h1, rfl⟩ := hc
        obtain ⟨p, vs, rfl, h2, h3⟩ := rx
        refine .inr ⟨p, 0, vs, rfl, eu, Fz_sub.seqT h2, fun e => h1 ((repL_nil h3).mp e), .inr ⟨rfl, fun l hl => ?_⟩⟩
        obtain ⟨e, w', f⟩ := new_frz (o := .tup []) w hl
        exact g _ _ ρ e w' ⟨l, [], rfl, SqT.of f, rfl⟩
      · exact .inl (ok_gMul W σ ρ S Z H _ _ _ _ Q w rx ry g)
  · exact .inl (ok_gMul W σ ρ S Z H _ _ _ _ Q w rx ry g)
def cutD (xs : List D) (lo hi : Option Int) : List D := (xs.drop (HT.sIx xs.length 0 lo)).take (HT.sIx xs.length xs.length hi - HT.sIx xs.length 0 lo)
abbrev rP : Rl (Option Int) (Option Int) := fun _ _ a b => a = b
abbrev POF (T : Str → Addr) (X : Cx) (W : WX) (e : Option Expr) (F : Env → Cm (Option Int)) : Prop := PO X e (lift T X.K rP W F)
def pNone : Env → Cm (Option Int) := fun _ => pure none
def toP : D → Cm (Option Int)
  | .int i => pure (some i)
  | _ => stk
def pSome (F : FE) : Env → Cm (Option Int) := fun env S => (F env S).bnd toP
theorem po_imp {X : Cx} {e : Option Expr} {t t' : TO} (h : PO X e t) (i : ∀ σ H Q, t' σ H Q → t σ H Q) : PO X e t' := ⟨fun pins s σ H Q I q => h.run pins s σ H Q I (i σ H Q q)⟩
theorem cutD_rep {T : Str → Addr} {K : PySem.W.Frag} {ρ : Nat → Option Addr} {F : Hp} {ds : List D} {vs : List V} {lo hi : Option Int} (r : RepL T K ρ F ds vs) : RepL T K ρ F (cutD ds lo hi) (cutV vs lo hi) := by
  unfold cutD cutV
  rw [r.len]
  exact (r.drop _).take _
def f3 {α : Type} (g : D → Option Int → Option Int → Cm α) (Fe : FE) (Fl Fh : Env → Cm (Option Int)) : Env → Cm α := fun env S => (Fe env S).bnd fun d S1 => (Fl env S1).bnd fun l S2 => (Fh env S2).bnd fun h => g d l h
section
variable {T : Str → Addr} {X : Cx} {W : WX} {e : Expr} {lo hi : Option Expr} {Fe : FE} {Fl Fh : Env → Cm (Option Int)} {pos p2 : Pos}
theorem pof_none : POF T X W none pNone := po_imp po_none fun σ H Q q => by
  obtain ⟨ρ, S, Z, env, w, er, g⟩ := q
  exact g none H ρ .refl w rfl
theorem pof_some (h : PF T X W e Fe) : POF T X W (some e) (pSome Fe) := po_imp (po_some h) fun σ H Q q =>
  lift_then (rel := rD T X.K) (k := fun _ d => toP d) q fun ρ S Z env H v d w er r g => by
    cases d with
    | int i => exact ⟨i, r, g _ H ρ .refl w rfl⟩
    | _ => exact g.elim
end
def oOne (g : D → Cm CO) (Fa : Env → Cm (List D)) : Env → Cm CO := fun env S => (Fa env S).bnd fun xs => match xs with
  | [x] => g x
  | _ => fun _ => .stuck
def gList (x : D) : Cm CO := fun S => match asQ2 S x with
  | some ds => .ok (.lst ds) S
  | none => .stuck
def gTuple (x : D) : Cm D := fun S => match x with
  | .tup ds => .ok (.tup ds) S
  | x => match asL S x with
    | some ds => .ok (.tup ds) S
    | none => .stuck
section
variable {T : Str → Addr} {X : Cx} {W : WX} {e : Expr} {Fa : Env → Cm (List D)} {p pos : Pos}
theorem of_list (hg : Gl X "list") (hm : X.mg "list" = none) (ha : AF T X W [e] Fa) (he : starEach [e] X.env = (false, eval e X.env) :: starEach [] X.env := by rfl) (hpl : (backTo pos (starEach [] X.env)).any (·.1) = false := by rfl) :
    OF T X W (.Call (.Name "list" p) [e] [] pos) (oOne gList Fa) := pe_imp (pe_callTy call_list_of hg hm (by rfl) ha (by decide) (by decide) he hpl) fun σ H Q q => by
  obtain ⟨ρ, S, Z, env, w, er, g⟩ := q
  refine lift_imp (lift_bndO w er g) fun vs H1 ⟨ρ1, S1, d1, x1, w1, e1, r1, g1⟩ => ?_
  match d1, r1, g1 with
  | [], _, g1 => exact g1.elim
  | [d], r1, g1 =>
    obtain ⟨v, rfl, rv⟩ := r1.one_inv
    dsimp only at g1
    unfold gList at g1
    split at g1
    · rename_i ds hds
      obtain ⟨a, us, rfl, h1, h2⟩ := asQ2_ok w1 rv hds
      exact ⟨a, us, rfl, h1, fun l hl => g1 l _ ρ1 (new_neu w1 hl ⟨us, rfl, h2⟩)⟩
    · exact g1.elim
  | _ :: _ :: _, _, g1 => exact g1.elim
theorem ok_gTuple : OpN T X (fun xs H Q => ∃ p ys, xs = [.ref p] ∧ ((SqL X.K H p ys ∧ ∀ l, H l = none → Q (.ref l) (upd H l (.tup ys))) ∨ (SqT X.K H p ys ∧ Q (.ref p) H))) (a1 gTuple) := opN1 fun W σ ρ S Z H x v Q w r g => by
  unfold gTuple at g
  split at g
  · obtain ⟨a, vs, rfl, h1, h2⟩ := id r
    exact ⟨a, vs, rfl, .inr ⟨Fz_sub.seqT h1, g.now w r⟩⟩
  · split at g
    · rename_i ds hds
      obtain ⟨a, vs, rfl, h1, h2⟩ := asL_ok w r hds
      refine ⟨a, vs, rfl, .inl ⟨h1, fun l hl => ?_⟩⟩
      obtain ⟨e, w', f⟩ := new_frz (o := .tup vs) w hl
      exact g _ _ ρ e w' ⟨l, _, rfl, SqT.of f, e.repL h2⟩
    · exact g.elim
end
end HT
set_option maxRecDepth 100000
set_option maxHeartbeats 800000
namespace HT
open PySem PySem.Spec L2
open PyProof.Rows hiding St
open PySem.W (ksFn ksEnv ks_superObj kxs_mw KxsAt)
def exBody (f : Str) (p0 p1 p2 p3 p4 p5 p6 p7 p8 p9 : Pos) : List Stmt :=
  [.Expr (.Call (.Attribute (.Call (.Name "super" p0) [] [] p1) "__init__" p2) [.Name f p3] [] p4) p5,
   .Assign [.Attribute (.Name "self" p6) f p7] (.Name f p8) p9]
def SupEv (f : Str) (p0 p1 p2 p3 p4 : Pos) : Prop := ∃ pl : PySem.Env → Sem Bool, ∀ env : PySem.Env, eval (.Call (.Attribute (.Call (.Name "super" p0) [] [] p1) "__init__" p2) [.Name f p3] [] p4) env =
  (attributeBase (.Call (.Name "super" p0) [] [] p1) "__init__" env (eval (.Call (.Name "super" p0) [] [] p1) env) >>= fun ov => standAt p2.atName >>= fun _ => holding [ov] (getMethod ov "__init__" (pl env)) >>= fun fx => callWith p4 fx.1 fx.2 (backTo p4 (starEach [.Name f p3] env)) [])
structure ExI (P : Program) (K : PySem.W.Frag) (C : Addr) (f : Str) (fI : Addr) (fd : FuncData) : Prop where
  ox : OexC K C
  no : PySem.W.findIn K (.ref C) f = some none
  vb : PySem.W.subIn K (.ref C) (.type "ValueError") = some true
  su : PySem.W.ks_superIn K C C "__init__" = some (some (.builtin "ValueError.__init__"))
  mm : PySem.W.mroIn K C (.ref C) = some true
  op : PySem.W.nsIn K cStatics "thirdparty.any" = some none
  tp : (P.main.scope.names.lookup ("super" : Str)).isSome = false
  iC : PySem.W.findIn K (.ref C) "__init__" = some (some (.ref fI))
  tI : PySem.W.typeIn K (.ref fI) = some (.type "function")
  df : ∃ (oc : Value) (od : Option Addr) (osl : Array (Option Value)) (qual : Str) (params : Arguments) (p0 p1 p2 p3 p4 p5 p6 p7 p8 p9 : Pos) (scope : Scope) (dV kV doc pm ct : Value) (an : Option Addr) (cda cc : Addr),
    fd = ksFn "__init__" qual params (exBody f p0 p1 p2 p3 p4 p5 p6 p7 p8 p9) scope dV kV doc pm an (.ref cda) ct cc ∧ K.lookup fI = some ⟨oc, od, .func fd, osl⟩ ∧ PySem.W.codeIn K (.ref cda) qual = true ∧
    (∃ (ccl : Value) (cdd : Option Addr) (vs : Array Value) (ccs : Array (Option Value)) (file : Str) (tf : Tok), K.lookup cda = some ⟨ccl, cdd, .fields vs, ccs⟩ ∧ vs[2]? = some (.str file tf) ∧ ((P.main.file : Str) == file) = true) ∧
    (∃ (cl : Value) (cld : Option Addr) (csl : Array (Option Value)), K.lookup cc = some ⟨cl, cld, .cell (some (.ref C)), csl⟩) ∧
    (∃ ar, (params.posonlyargs ++ params.args).head? = some ar ∧ ar.arg = "self") ∧
    scope.names.lookup ("super" : Str) = some .globalImplicit ∧ scope.names.lookup ("__class__" : Str) = some .free ∧ scope.names.lookup ("self" : Str) = some .local ∧ scope.names.lookup f = some .local ∧ scope.kind = .function ∧
    (∀ x ∈ scope.names, x.2 ≠ .cell) ∧ scope.isCoroutine = false ∧ scope.isGenerator = false ∧ SupEv f p0 p1 p2 p3 p4
section
variable {prog : Program} {w : World} {A : Around} {E : Value → Shared → Prop} {h : Heap} {g : Array GenState} {d : Drawn} {t : Nat} {os : OsState}
variable {nm q : Str} {C N : Addr} {bs bm : List Value} {hdct : Bool} {sn : List Str} {sub : List Value} {ab : Bool} {col : Option Bool} {dd : Option Addr} {k0 k1 k2 k3 k5 : Option Value}
theorem call_mw {u e t0 : Addr} {rest : List Value} {Q : Value → Shared → Prop}
    (hC : h.get? C = some (excClassObj nm q C N bs bm hdct sn sub ab col dd k0 k1 k2 k3 k5 "ValueError.__new__")) (he : h.get? e = some (PySem.HandSPX.excO C t0)) (hu : h.get? u = some (kxs_mw "ValueError.__init__" e)) (hr : rest.length ≤ sizeLine)
    (hq : ∀ h2 t1, (∀ b o, b ≠ e → h.get? b = some o → h2.get? b = some o) → h2.get? e = some (PySem.HandSPX.excO C t1) → Q .none ⟨h2, g, d, t, os⟩) :
    wpAny (model prog w) A (call (.ref u) rest) Q E ⟨h, g, d, t, os⟩ := by
  have c1 : (Value.type "method-wrapper" == Value.type "method" || Value.type "method-wrapper" == Value.type "builtin_function_or_method" || Value.type "method-wrapper" == Value.type "method-wrapper") = true := by decide
  refine wpAny_call (codeAny_of_tree ?_)
  change wpAny _ A.in1 (callAny (.ref u) ⟨rest, []⟩) _ _ _
  simp only [callAny]
  refine wpAny_bind (wpAny_load hu ?_)
  simp only [kxs_mw, c1, if_true]
  refine PySem.W.KFB.if_so (by decide) (wpAny_bind (PySem.ESX.check_bound F.excBase_ValueError hC he rfl (wpAny_bind (wpAny_pure (wpAny_pure ⟨Code.quiet_builtin _ (by decide +kernel), codeAny_builtin F.excBase_ValueError.initEntry ?_⟩)))))
  rw [Around.under_plainId F.excBase_ValueError.init.plain _]
  wp_walk
  refine hq _ h.objs.size (fun b o hb ho => ?_) ?_
  · exact (Heap.get?_update_other _ _ (Ne.symm hb)).trans (Heap.get?_push_of_some _ ho)
  · rw [Heap.get?_update_self _ (Heap.get?_push_of_some _ he) rfl]
    rfl
end
end HT
set_option maxRecDepth 100000
set_option maxHeartbeats 800000
namespace HT
open PySem PySem.Spec L2
open PyProof.Rows hiding St
open PySem.W (ksFn ksEnv ks_superObj kxs_mw KxsAt ks_newsPush)
section
variable {prog : Program} {w : World} {A : Around} {R : Result → Shared → Prop} {hp : Heap} {g : Array GenState} {d : Drawn} {t : Nat} {os : OsState} {K : PySem.W.Frag} {mg mb : Str → Option Value} {C fI x t0 : Addr} {f : Str} {fd : FuncData} {v : Value} {args : Args}
theorem excO_inst {h : Heap} (hx : h.get? x = some (PySem.HandSPX.excO C t0)) : PySem.W.InstAt h x (PySem.HandSPX.excO C t0) C none := ⟨hx, rfl, rfl, trivial⟩
theorem ex_run (G : ExI prog K C f fI fd) (hself : (f == ("self" : Str)) = false) (hdb : (f == ("__debug__" : Str)) = false) (room : A.depth < recursionLimit) (X : K.In hp) (lim : hp.NoLimit) (gl : hp.Ns mainGlobals mg) (bl : hp.Ns builtinsNs mb) (hbl : ∀ y : Str, y ≠ "__name__" → mb y = bootBuiltins y) (msup : mg "super" = none)
    (hx : hp.get? x = some (PySem.HandSPX.excO C t0)) (hxK : K.lookup x = none) (bd : BindsTo ⟨hp, g, d, t, os⟩ fd args [("self", .ref x), (f, v)])
    (hq : ∀ h2 t2 t1 dx, (∀ b o, b ≠ x → hp.get? b = some o → h2.get? b = some o) → hp.objs.size ≤ dx → dx ≠ x → h2.get? x = some ({ cls := .ref C, dict := some dx, data := .fields #[.ref t1, .none, .none, .none, .bool false, .none] } : Obj) →
      h2.Ns1 dx (fun y => if y = f then some v else none) → R (.ok (.ret .none)) ⟨h2, g, d, t2, os⟩) :
    codeAny (model prog w) A (.call (.ref fI) args) R ⟨hp, g, d, t, os⟩ := by
  obtain ⟨oc, od, osl, qual, params, p0, p1, p2, p3, p4, p5, p6, p7, p8, p9, scope, dV, kV, doc, pm, ct, an, cda, cc, rfl, look, code, ⟨ccl, cdd, vs, ccs, file, tf, lcode, hvs, hfile⟩, ⟨cl, cld, csl, lcell⟩, ⟨ar, har, harg⟩, ssup, scls, sself, sf, skind, snc, sco, sge, pl, hev⟩ := G.df
  obtain ⟨nm, q, N, bs, bm, sn, sub, ab, col, dd, k0, k1, k2, k3, k5, hC, hbm⟩ := G.ox.cls
  have hcl : PySem.W.clsIn K C = some { name := nm, bases := bs, mro := .ref C :: bm, ns := N, qualname := q, hasDict := true, slotNames := sn, subclasses := sub, abstract := ab, collection := col, hasDel := false } := by unfold PySem.W.clsIn; rw [hC] <;> rfl
  refine ks_codeAny_call_defAt (body := exBody f p0 p1 p2 p3 p4 p5 p6 p7 p8 p9) room (X _ _ look) rfl lim (PySem.W.codeRec_of X code) rfl bd snc (fun y hy => ?_) (fun h1 ns1 k1' => ?_) sco sge skind
  · rcases List.mem_cons.mp hy with rfl | hy
    · exact sself
    · rcases List.mem_cons.mp hy with rfl | hy
      · exact sf
      · cases hy
  have F1 : Fr hp hp.objs.size h1 (fun y => ([("self", Value.ref x), (f, v)] : List (Str × Value)).reverse.lookup y) := ⟨ns1, k1', Nat.le_refl _⟩
  have nself : (("self" : Str) == f) = false := by
    cases e : (("self" : Str) == f) with
    | false => rfl
    | true =>
      rw [show ("self" : Str) = f from eq_of_beq e] at hself
      exact absurd hself (by rw [show (f == f) = true from beq_self_eq_true _]; decide)
  have ms : List.lookup ("self" : Str) ([(("self" : Str), Value.ref x), (f, v)] : List (Str × Value)).reverse = some (.ref x) := by
    show List.lookup ("self" : Str) [(f, v), (("self" : Str), Value.ref x)] = _
    rw [List.lookup_cons, nself, List.lookup_cons, show (("self" : Str) == ("self" : Str)) = true from beq_self_eq_true _]
  have mf : List.lookup f ([(("self" : Str), Value.ref x), (f, v)] : List (Str × Value)).reverse = some v := by
    show List.lookup f [(f, v), (("self" : Str), Value.ref x)] = _
    rw [List.lookup_cons, show (f == f) = true from beq_self_eq_true _]
  have xL : x ≠ hp.objs.size := Nat.ne_of_lt (Heap.lt_size hx)
  refine ks_wpAt_execs_cons ?_
  refine ks_wpAt_Expr_any ?_ (by show (scope.kind == ScopeKind.module && _) = false; rw [skind]; rfl)
  refine ks_wpAt_MethodCall ?_ (hev _)
  have X1 : K.In h1 := X.keeps k1'
  have hD1 : h1.get? C = some (excClassObj nm q C N bs bm true sn sub ab col dd k0 k1 k2 k3 k5 "ValueError.__new__") := X1 _ _ hC
  refine ks_wpAt_super_base (file := file) (tf := tf) ssup scls (by decide) rfl (X1 _ _ look) rfl har rfl (X1 _ _ lcode) rfl hvs hfile G.tp ?_
  refine PySem.W.ks_loadName_global skind ssup (PySem.Calls.loadGlobal_builtin (gl.keeps k1') msup (bl.keeps k1') ((hbl _ (by decide +kernel)).trans PyProof.Rows.Boot.«super») ⟨rfl, ?_⟩)
  obtain ⟨ob, es, ep, hob, hrest⟩ := id ns1
  refine wpAny_loadName_free skind scls rfl ⟨_, X1 _ _ lcell, rfl⟩ ?_
  rw [harg]
  refine wpAny_loadName_local skind sself ns1 ms ?_
  refine ks_wpAny_isType_cls hD1 rfl ⟨rfl, ?_⟩
  have hx1 : h1.get? x = some (PySem.HandSPX.excO C t0) := k1' _ _ hx
  refine ks_wpAny_call_super hD1 rfl hx1 rfl (fun c e => by cases e) (PySem.W.looks_mroIn X1 G.mm) (fun h2 e2 k2 => ?_)
  obtain ⟨F2, N2, _⟩ := ks_newsPush (s := ⟨h1, g, d, t + 2, os⟩) (news := []) F1 News.nil rfl e2 k2
  have I2 : PySem.W.InstAt h2 x (PySem.HandSPX.excO C t0) C none := excO_inst (k2 _ _ hx1)
  refine PySem.W.kxs_method PySem.W.kxs_ValueError F2 X N2 List.mem_cons_self I2 G.op G.su G.vb (by decide) (fun qq h3 F3 N3 _ => ?_)
  refine PySem.W.kxs_callWith1 N3 List.mem_cons_self ?_
  show wpAny _ _ (spliced ((false, eval (.Name f p3) _) :: [])) _ _ _
  refine PySem.Calls.spliced_cons (wpAny_Name (wpAny_loadName_local skind sf F3.ns mf ?_) hdb)
  refine PySem.Calls.spliced_nil ⟨PySem.W.kxs_at N3 List.mem_cons_self, ?_⟩
  have hx3 : h3.get? x = some (PySem.HandSPX.excO C t0) := F3.keep _ _ hx
  have X3 : K.In h3 := X.keeps F3.keep
  refine call_mw (X3 _ _ hC) hx3 (PySem.W.kxs_at N3 List.mem_cons_self) (by show 1 ≤ sizeLine; rw [sizeLine_eq]; omega) (fun h4 t1 k4 hx4 => ?_)
  have ns4 : h4.Ns hp.objs.size (fun y => List.lookup y ([(("self" : Str), Value.ref x), (f, v)] : List (Str × Value)).reverse) := by
    obtain ⟨o3, es3, ep3, a3, r3⟩ := F3.ns
    exact ⟨o3, es3, ep3, k4 _ _ (Ne.symm xL) a3, r3⟩
  refine ks_wpAt_execs_cons (wpAt_of_wpAny (plainObj_wpAny_Assign_Attribute ?_))
  refine wpAny_Name (wpAny_loadName_local skind sf ns4 mf ?_) hdb
  refine wpAny_Name (wpAny_loadName_local skind sself ns4 ms ?_)
  have X4 : K.In h4 := fun b o e => by
    have hb : b ≠ x := fun z => by
      rw [z, hxK] at e
      cases e
    exact k4 b o hb (X3 b o e)
  refine PySem.W.set_plain X4 (ox := PySem.HandSPX.excO C t1) (od := none) (excO_inst hx4) G.ox.sa ?_
  refine PySem.HandSPX.exc_osa X4 hx4 hcl (show PySem.HandSPX.refsVE (.ref C :: bm) = true from hbm) rfl G.no (fun h5 tk5 dx k5 dn dne hx5 hn5 => ?_)
  refine wpAt_of_wpAny (wpAny_execs_nil ?_)
  have le4 : hp.objs.size ≤ h4.objs.size := Nat.le_of_lt ns4.lt
  refine hq h5 _ t1 dx (fun b o hb e => k5 b o hb (k4 b o hb (F3.keep b o e))) (Nat.le_trans le4 dn) dne hx5 hn5
end
end HT
set_option maxRecDepth 100000
set_option maxHeartbeats 800000
namespace HT
open PySem PySem.Spec L2
open PyProof.Rows hiding St
section
variable {X : Cx} {pins : List (Addr × Obj)} {σ : St} {H1 : Hp} {s1 : Shared} {C fI : Addr} {f : Str} {fd : FuncData} {dvs : List V} {dsv : List Value} {us : List Value} {vs : List V} {v : V} {Q : XK} {k : Nat}
theorem xmk_run (G : ExI X.prog X.K C f fI fd) (hself : (f == ("self" : Str)) = false) (hdb : (f == ("__debug__" : Str)) = false) (msup : X.mg "super" = none) (lv : Lv (k + 1) X.A) (hb : Binds X.K fd ["self", f] dsv) (hd : Vals dvs dsv)
    (I1 : Inv X pins σ H1 s1) (r1 : Vals vs us) (hv : vs ++ dvs = [v]) (q : ∀ d, H1 d = none → Q (.ref C) (some d) (upd H1 d (.xd [(f, v)]))) : wpAny (model X.prog X.w) X.A (call (.ref C) us) (MkP X pins σ Q) X.xe s1 := by
  obtain ⟨nm, qn, N, bs, bm, sn, sub, ab, col, dd, k0, k1, k2, k3, k5, hC, hbm⟩ := G.ox.cls
  obtain ⟨mb, hbl, hbb⟩ := I1.ok.mod.blt
  obtain ⟨hp, g, dr, tk, os⟩ := s1
  have hsz : hp.objs.size ≤ hp.objs.size + 1 := Nat.le_succ _
  have hn : H1 (hp.objs.size + 1) = none := I1.hok.fresh hsz
  have kk : ∀ b o, hp.get? b = some o → ((hp.push (PySem.W.kdv_tup us)).push (PySem.HandSPX.excO C hp.objs.size)).get? b = some o := fun b o e => Heap.get?_push_of_some _ (Heap.get?_push_of_some _ e)
  have hget : ((hp.push (PySem.W.kdv_tup us)).push (PySem.HandSPX.excO C hp.objs.size)).get? (hp.objs.size + 1) = some (PySem.HandSPX.excO C hp.objs.size) := by heap_get
  have I2 : Inv X pins σ (upd H1 (hp.objs.size + 1) (exo (hp.objs.size + 1) C none)) ⟨(hp.push (PySem.W.kdv_tup us)).push (PySem.HandSPX.excO C hp.objs.size), g, dr, tk, os⟩ :=
    I1.laid (t' := tk) (a := hp.objs.size + 1) (o := exo (hp.objs.size + 1) C none) (h' := (hp.push (PySem.W.kdv_tup us)).push (PySem.HandSPX.excO C hp.objs.size)) kk hsz (exo_ok hget)
  have rr := r1.append hd
  rw [hv] at rr
  obtain ⟨u, eu, ru⟩ : ∃ u, us ++ dsv = [u] ∧ RelV v u := by
    cases hh : us ++ dsv with
    | nil =>
      rw [hh] at rr
      cases rr
    | cons u r =>
      rw [hh] at rr
      cases rr with
      | cons a b =>
        cases b
        exact ⟨u, rfl, a⟩
  have hus : us.length ≤ sizeLine := by
    have : us.length ≤ (us ++ dsv).length := by rw [List.length_append]; omega
    rw [eu] at this
    rw [sizeLine_eq]
    simp at this
    omega
  have hxK : X.K.lookup (hp.objs.size + 1) = none := by
    cases e : X.K.lookup (hp.objs.size + 1) with
    | none => rfl
    | some o =>
      have z := Heap.lt_size (I1.kIn _ _ e)
      exact absurd (show hp.objs.size + 1 < hp.objs.size from z) (by omega)
  have bd : BindsTo ⟨(hp.push (PySem.W.kdv_tup us)).push (PySem.HandSPX.excO C hp.objs.size), g, dr, tk, os⟩ fd ⟨Value.ref (hp.objs.size + 1) :: us, []⟩ [(("self" : Str), Value.ref (hp.objs.size + 1)), (f, u)] := by
    have b := hb ⟨(hp.push (PySem.W.kdv_tup us)).push (PySem.HandSPX.excO C hp.objs.size), g, dr, tk, os⟩ (Value.ref (hp.objs.size + 1) :: us) I2.kIn (by rw [List.cons_append, eu]; rfl)
    rw [List.cons_append, eu] at b
    exact b
  refine wpAny_call (PySem.HandSPX.call_own F.excBase_ValueError (fun Y => PySem.HandSPX.refsVE_contains Y bm hbm) (I1.kIn _ _ hC) (PySem.W.looks_findIn I1.kIn G.iC) (fun self => PySem.W.bind_fn I1.kIn self G.tI) hus
    (ex_run G hself hdb (lv.room.make C us []).depth I2.kIn I2.nolimit (I2.ok.mod.glob.keeps I2.bk) (hbl.keeps I2.bk) hbb msup hget hxK bd fun h2 t2 t1 dx k2 dn dne hx2 hn2 => ?_))
  refine ⟨rfl, ?_⟩
  have hsz2 : hp.objs.size ≤ ((hp.push (PySem.W.kdv_tup us)).push (PySem.HandSPX.excO C hp.objs.size)).objs.size := by
    rw [Heap.size_push, Heap.size_push]
    omega
  have hnd : H1 dx = none := I1.hok.fresh (Nat.le_trans hsz2 dn)
  have hnd2 : upd H1 (hp.objs.size + 1) (exo (hp.objs.size + 1) C none) dx = none := by
    rw [upd_ne dne]
    exact hnd
  have ea : upd H1 (hp.objs.size + 1) (exo (hp.objs.size + 1) C none) (hp.objs.size + 1) = some (exo (hp.objs.size + 1) C none) := upd_same
  have na : ∀ {b : Addr}, upd H1 (hp.objs.size + 1) (exo (hp.objs.size + 1) C none) b = none → b ≠ hp.objs.size + 1 := fun {b} n z => by
    rw [z, upd_same] at n
    cases n
  have nd : ∀ {b : Addr} {o : Obj}, ((hp.push (PySem.W.kdv_tup us)).push (PySem.HandSPX.excO C hp.objs.size)).get? b = some o → b ≠ dx := fun {b o} z => Nat.ne_of_lt (Nat.lt_of_lt_of_le (Heap.lt_size z) dn)
  have un : Un (frs X.stack) [] (upd H1 (hp.objs.size + 1) (exo (hp.objs.size + 1) C none)) (upd (upd (upd H1 (hp.objs.size + 1) (exo (hp.objs.size + 1) C none)) dx (exd dx [(f, v)])) (hp.objs.size + 1) (exo (hp.objs.size + 1) C (some dx)))
      ((hp.push (PySem.W.kdv_tup us)).push (PySem.HandSPX.excO C hp.objs.size)) h2 := {
    keep := fun b o z n _ _ => k2 b o (na n) z
    slot := fun b o z n _ _ => ⟨o.slots, k2 b o (na n) z⟩
    free := fun b o z n _ => by rw [upd_ne (na n), upd_ne (nd z)]; exact n
    there := fun b o z _ => by
      by_cases hb : b = hp.objs.size + 1
      · exact ⟨_, by rw [hb]; exact hx2⟩
      · exact ⟨o, k2 b o hb z⟩
    tups := fun b xs z => by rw [upd_ne (at_ne ea z exo_tup), upd_ne (ne_of_none z hnd2)]; exact z
    frzs := fun b o w z => by rw [upd_ne (at_ne ea z exo_frz), upd_ne (ne_of_none z hnd2)]; exact z
    tbls := fun b ps z => ⟨#[], by rw [upd_ne (at_ne ea z exo_tbl), upd_ne (ne_of_none z hnd2), z]; simp⟩ }
  have hok : HOk X.prog X.w (upd (upd (upd H1 (hp.objs.size + 1) (exo (hp.objs.size + 1) C none)) dx (exd dx [(f, v)])) (hp.objs.size + 1) (exo (hp.objs.size + 1) C (some dx))) h2 := fun b o z => by
    by_cases hb : b = hp.objs.size + 1
    · subst hb
      rw [upd_same] at z
      cases z
      exact exo_ok hx2
    · rw [upd_ne hb] at z
      by_cases hdx : b = dx
      · subst hdx
        rw [upd_same] at z
        cases z
        exact exd_ok hn2 (relO_put (fs := []) ru fun g => True.intro)
      · rw [upd_ne hdx] at z
        exact (I2.hok b o z).stay (fun c w hc y => k2 c w (by
            rcases hc with hc | hc
            · rw [hc]
              exact hb
            · exact at_ne ea hc exo_own) y)
          (fun c hc => by rw [upd_ne (at_ne ea hc exo_own), upd_ne (ne_of_none hc hnd2)]; exact hc) (fun c xs hc => by rw [upd_ne (at_ne ea hc exo_tup), upd_ne (ne_of_none hc hnd2)]; exact hc)
  have e2 : del (upd (upd (upd H1 (hp.objs.size + 1) (exo (hp.objs.size + 1) C none)) dx (exd dx [(f, v)])) (hp.objs.size + 1) (exo (hp.objs.size + 1) C (some dx))) (hp.objs.size + 1) = upd H1 dx (exd dx [(f, v)]) := by
    funext b
    by_cases hb : b = hp.objs.size + 1
    · rw [hb, del_same, upd_ne (Ne.symm dne)]
      exact hn.symm
    · rw [del_ne hb, upd_ne hb]
      by_cases hdx : b = dx
      · rw [hdx, upd_same, upd_same]
      · rw [upd_ne hdx, upd_ne hdx, upd_ne hb]
  refine mk_end (raises_own G.ox.exC G.ox.tyC) I1 hsz kk un hok rfl I2.bare upd_same (by rw [upd_ne dne, upd_same]) hnd ?_
  rw [e2, show upd (upd H1 dx (exd dx [(f, v)])) dx (.xd [(f, v)]) = upd H1 dx (.xd [(f, v)]) from by
    funext b
    by_cases hdx : b = dx
    · rw [hdx, upd_same, upd_same]
    · rw [upd_ne hdx, upd_ne hdx, upd_ne hdx]]
  exact q dx hnd
end
end HT
set_option maxRecDepth 100000
set_option maxHeartbeats 800000
namespace HT
open PySem PySem.Spec L2
open PyProof.Rows hiding St
section
variable (T : Str → Addr) (K : PySem.W.Frag)
def GoodM (W : WX) (σ : St) (Q : XK) (ρ : Nat → Option Addr) (Z : Hid) (H : Hp) : R (Str × List (Str × D)) → Prop
  | .ok p S' => ∀ dx vs H' ρ', Ext ρ Z H ρ' H' → Wd T K ρ' S' Z H' → XAt (Fz ρ' Z H') dx vs → RepF T K ρ' (Fz ρ' Z H') p.2 vs → Q (.ref (T p.1)) dx H'
  | .exc C fs S' => ∀ dx vs H' ρ', Ext ρ Z H ρ' H' → Wd T K ρ' S' Z H' → XAt (Fz ρ' Z H') dx vs → RepF T K ρ' (Fz ρ' Z H') fs vs → W (.ref (T C)) dx σ H'
  | .stuck => False
def liftM (W : WX) (F : Env → Cm (Str × List (Str × D))) : St → Hp → XK → Prop := fun σ H Q => ∃ ρ S Z env, Wd T K ρ S Z H ∧ ER T K ρ Z H σ env ∧ GoodM T K W σ Q ρ Z H (F env S)
end
abbrev MF (T : Str → Addr) (X : Cx) (W : WX) (e : Expr) (F : Env → Cm (Str × List (Str × D))) : Prop := PMk X e (liftM T X.K W F)
section
variable {T : Str → Addr} {X : Cx} {W : WX} {C f x : Str} {fI : Addr} {fd : FuncData} {k : Nat} {dvs : List V} {dsv : List Value} {dds : List D} {e : Expr} {es : List Expr} {Fa : Env → Cm (List D)} {F : Env → Cm (Str × List (Str × D))} {p pos : Pos}
theorem lift_bndM {α β : Type} {rel : Rl α β} {K : PySem.W.Frag} {σ : St} {ρ : Nat → Option Addr} {S : Sto} {Z : Hid} {H : Hp} {env : Env} {Q : XK} {F : Env → Cm α} {k : α → Cm (Str × List (Str × D))} (w : Wd T K ρ S Z H) (e : ER T K ρ Z H σ env) (g : GoodM T K W σ Q ρ Z H ((F env S).bnd k)) :
    lift T K rel W F σ H fun v H' => ∃ ρ' S' d, Ext ρ Z H ρ' H' ∧ Wd T K ρ' S' Z H' ∧ ER T K ρ' Z H' σ env ∧ rel ρ' (Fz ρ' Z H') d v ∧ GoodM T K W σ Q ρ' Z H' (k d S') := by
  refine ⟨ρ, S, Z, env, w, e, ?_⟩
  cases h : F env S with
  | ok d S' =>
    rw [h] at g
    refine fun v H' ρ' x w' q => ⟨ρ', S', d, x, w', e.ext x, q, ?_⟩
    cases hk : k d S' with
    | ok c S2 =>
      rw [show ((R.ok d S').bnd k) = k d S' from rfl, hk] at g
      exact fun dx vs H2 ρ2 x2 => g dx vs H2 ρ2 (x.trans x2)
    | exc C fs S2 =>
      rw [show ((R.ok d S').bnd k) = k d S' from rfl, hk] at g
      exact fun dx vs H2 ρ2 x2 => g dx vs H2 ρ2 (x.trans x2)
    | stuck =>
      rw [show ((R.ok d S').bnd k) = k d S' from rfl, hk] at g
      exact g
  | exc C fs S' =>
    rw [h] at g
    exact g
  | stuck =>
    rw [h] at g
    exact g
def mArg (C f : Str) (dds : List D) (xs : List D) : Cm (Str × List (Str × D)) := fun S => match xs ++ dds with
  | [d] => .ok (C, [(f, d)]) S
  | _ => .stuck
def fMk (C f : Str) (dds : List D) (Fa : Env → Cm (List D)) : Env → Cm (Str × List (Str × D)) := fun env S => (Fa env S).bnd (mArg C f dds)
theorem mk_good {σ : St} {Q : XK} {ρ : Nat → Option Addr} {S : Sto} {Z : Hid} {H : Hp} {xs : List D} {vs : List V} (w : Wd T X.K ρ S Z H) (r : RepL T X.K ρ (Fz ρ Z H) xs vs) (hD : CsD T X.K dds dvs) (g : GoodM T X.K W σ Q ρ Z H (mArg C f dds xs S)) :
    ∃ v, vs ++ dvs = [v] ∧ ∀ d, H d = none → Q (.ref (T C)) (some d) (upd H d (.xd [(f, v)])) := by
  have rr := r.app (hD ρ (Fz ρ Z H))
  unfold mArg at g
  split at g
  · rename_i d hd
    rw [hd] at rr
    obtain ⟨v, hv, rv⟩ := rr.one_inv
    refine ⟨v, hv, fun a ha => ?_⟩
    obtain ⟨x, w', fz⟩ := new_frz (o := .xd [(f, v)]) w ha
    exact g (some a) _ _ ρ x w' fz ⟨v, [], rfl, x.rep rv, rfl⟩
  · exact g.elim
theorem mf_mk (G : ExI X.prog X.K (T C) f fI fd) (hself : (f == ("self" : Str)) = false) (hdf : (f == ("__debug__" : Str)) = false) (msup : X.mg "super" = none) (lv : Lv (k + 1) X.A) (hb : Binds X.K fd ["self", f] dsv) (hd : Vals dvs dsv) (hD : CsD T X.K dds dvs)
    (hg : Gl X x) (hm : X.mg x = some (.ref (T C))) (ha : AF T X W (e :: es) Fa) (hdb : (x == ("__debug__" : Str)) = false := by decide) (he : starEach (e :: es) X.env = (false, eval e X.env) :: starEach es X.env := by rfl) (hpl : (backTo pos (starEach es X.env)).any (·.1) = false := by rfl) :
    MF T X W (.Call (.Name x p) (e :: es) [] pos) (fMk C f dds Fa) := by
  intro pins s σ H Q I h
  obtain ⟨ρ, S, Z, env, w, er, g⟩ := h
  refine wpAny_Call_Name_kw (ld_glob I hg hm ?_ hdb)
  refine PySem.W.callWith_K (h₀ := X.base) I.ok.mod.kin G.ox.kC (thn (ha.run pos pins s σ H _ I (lift_bndM w er g)) fun us s1 ⟨vs, H1, I1, r, ρ1, S1, ds, x1, w1, e1, r1, g1⟩ => ⟨I1.kIn, ?_⟩) he hpl
  obtain ⟨v, hv, q⟩ := mk_good w1 r1 hD g1
  exact xmk_run G hself hdf msup lv hb hd I1 r hv q
theorem exo2_ok {P : Program} {w : World} {H : Hp} {h : Heap} {a C : Addr} {d : Option Addr} {oe : Obj} {vs : Array Value} (e : h.get? a = some oe) (z : Zc (.ref C) d oe) (dd : oe.data = .fields vs) : ObjOk P w H h a (EXO C d a) :=
  ⟨⟨oe, vs, e, z, dd⟩, ⟨oe, e⟩, fun _ _ ⟨o, v, q, r⟩ k => ⟨o, v, k o q, r⟩⟩
def sRaise (F : Env → Cm (Str × List (Str × D))) : FS := fun env S => sB env (F env S) fun p S' => .ok (.xc env p.1 p.2) S'
theorem sf_raise (hc : X.calm = true) (tk : Takes X W) (h : MF T X W e F) : SF T X W (.Raise (some e) none pos) (sRaise F) := ps_imp (ps_raise hc tk h) fun B σ H q => by
  obtain ⟨ρ, S, Z0, Z, env, a, g⟩ := q
  refine ⟨ρ, S, Z, env, a.w, a.e, ?_⟩
  unfold sRaise at g
  cases hF : F env S with
  | ok pr S' =>
    rw [hF] at g
    exact fun dx vs H' ρ' x w' hx hr => (show GoodF T X.K W B ρ Z0 Z H S' (.xc env pr.1 pr.2) from g) σ dx vs H' ρ' Z (x.s a.o.sub) (a.ext x w') hx hr
  | exc C fs S' =>
    rw [hF] at g
    exact fun dx vs H' ρ' x w' hx hr => (show GoodF T X.K W B ρ Z0 Z H S' (.xc env C fs) from g) σ dx vs H' ρ' Z (x.s a.o.sub) (a.ext x w') hx hr
  | stuck =>
    rw [hF] at g
    exact g
end
end HT
set_option maxRecDepth 100000
set_option maxHeartbeats 800000
namespace HT
open PySem PySem.Spec L2
open PyProof.Rows hiding St
def dropN (i : Nat) (D : Ends) : Ends := { nx := fun σ H => D.nx (σ.set i none) H, rt := D.rt, bk := fun σ H => D.bk (σ.set i none) H, ct := fun σ H => D.ct (σ.set i none) H }
def wEx (K : PySem.W.Frag) (c : Value) (i : Nat) (ts : TS) (Wout : WX) (D : Ends) : WX := fun cls d σ H => ∃ b, PySem.W.exmOne K cls c = some b ∧
  (b = true → ∃ C dx, cls = .ref C ∧ dx = d ∧ ∀ a, H a = none → ts (dropN i D) (σ.set i (some (.ref a))) (upd H a (EXO C dx a))) ∧ (b = false → Wout cls d σ H)
section
variable {X : Cx} {pins : List (Addr × Obj)} {σ : St} {H : Hp} {s : Shared}
theorem Inv.suite0 (I : Inv X pins σ H s) (a : Addr) : Inv (X.suite a (X.pn ++ pins)) [] σ H s :=
  ⟨I.ok.suite _ _, I.os, I.bare, I.base, I.loc, I.cell, I.free, I.freeC, fun p hp => I.pin p (by rw [List.append_nil] at hp; exact hp), I.hok, I.len⟩
theorem Inv.unsuite0 {a : Addr} {pn' : List (Addr × Obj)} (I : Inv (X.suite a (X.pn ++ pins)) pn' σ H s) (ok : X.Ok) : Inv X pins σ H s :=
  ⟨ok, I.os, I.bare, I.base, I.loc, I.cell, I.free, I.freeC, fun p hp => I.pin p (List.mem_append_left _ hp), I.hok, I.len⟩
theorem Inv.track {a : Addr} {o : HO} (I : Inv X pins σ H s) (na : H a = none) (n0 : X.s_0.heap.get? a = none) (nL : a ≠ X.env.locals) (nC : ∀ x c, X.env.cells.lookup x = some c → c ≠ a) (nP : ∀ p ∈ X.pn ++ pins, p.1 ≠ a) (new : ObjOk X.prog X.w (upd H a o) s.heap a o) : Inv X pins σ (upd H a o) s := by
  refine ⟨I.ok, I.os, I.bare, ⟨I.base.keep, I.base.slot, fun b u e n hx => ?_, I.base.there, fun b xs e => ?_, fun b u w e => ?_, fun b ps e => ?_⟩, I.loc, I.cell, ?_, fun x c e => ?_, fun p hp => ?_, fun b u e => ?_, I.len⟩
  · rw [upd_ne (fun z => by rw [z, n0] at e; cases e)]
    exact I.base.free b u e n hx
  · have q := I.base.tups b xs e
    rw [upd_ne (ne_of_none q na)]
    exact q
  · have q := I.base.frzs b u w e
    rw [upd_ne (ne_of_none q na)]
    exact q
  · obtain ⟨m, q⟩ := I.base.tbls b ps e
    exact ⟨m, by rw [upd_ne (ne_of_none q na)]; exact q⟩
  · rw [upd_ne (Ne.symm nL)]
    exact I.free
  · rw [upd_ne (nC x c e)]
    exact I.freeC x c e
  · obtain ⟨e, n, ne, nf, d⟩ := I.pin p hp
    exact ⟨e, by rw [upd_ne (nP p hp)]; exact n, ne, nf, d⟩
  · by_cases hb : b = a
    · subst hb
      rw [upd_same] at e
      cases e
      exact new
    · rw [upd_ne hb] at e
      exact (I.hok b u e).stay (fun c w _ q => q) (fun c q => by rw [upd_ne (ne_of_none q na)]; exact q) fun c xs q => by rw [upd_ne (ne_of_none q na)]; exact q
end
section
variable {X : Cx} {x n : Str} {c : Value} {i : Nat} {body suite : List Stmt} {b0 : Stmt} {np pos pos' : Pos} {tb : WX → TS} {ts : TS} {Wout : WX}
theorem ps_try_ex (hs : X.stack = X.env :: X.outer) (hf : X.env.frame = some X.env.locals) (hex : X.ex = []) (hN : X.N.Nodup) (hi : X.N[i]? = some n) (hln : X.env.kindOf n = some .local) (hc : Names X x c) (tk : Takes X Wout)
    (hb : ∀ (W : WX) (pn : List (Addr × Obj)) (xe : Value → Shared → Prop), Takes (X.tr pn xe) W → PassesOwn (model X.prog X.w) X.A X.env xe → PSs (X.tr pn xe) body (tb W))
    (hsu : ∀ (a : Addr) (pn : List (Addr × Obj)), PSs (X.suite a pn) (b0 :: suite) ts) :
    PS X (.Try body [.ExceptHandler (some (.Name x np)) (some n) (b0 :: suite) pos'] [] [] pos) (fun D σ H => tb (wEx X.K c i ts Wout D) D σ H) := by
  refine ⟨fun pins s σ H D I h => ?_⟩
  have ok := I.ok
  have hfr : X.A.frames = some (X.env :: X.outer) := ok.frames.trans (congrArg some hs)
  refine wpAny_Try_except (wpAny_mono ((hb (wEx X.K c i ts Wout D) (X.pn ++ pins) (fun e s₁ => wpAny (model X.prog X.w) X.A (noteFrame e X.env) (fun _ s₂ => wpAny (model X.prog X.w) X.A (setFlight e none) (fun _ s₃ =>
    wpAny (model X.prog X.w) X.A (handleBy e X.env [.ExceptHandler (some (.Name x np)) (some n) (b0 :: suite) pos']) (SP X pins D) X.xe s₃) X.xe s₂) X.xe s₁) (fun u s' xx => ?_) PassesOwn.looking).run [] s σ H D (I.toTry _) h) (fun fl s1 hsp => ?_) (fun e s1 he => he))
  · obtain ⟨a, B, sI, pins', τ, G, cls, d, rfl, J', nb, up, sky, na, os, ag, b, hb1, hyes, hno⟩ := xx
    have J : Inv X pins τ G sI := J'.ofTry ok
    rw [hs] at sky
    change wpAny (model X.prog X.w) X.A (noteFrame (.ref a) X.env) _ _ _
    refine Sky.land Zc.steady hfr hf sky fun h3 fl3 up3 => ?_
    have J3 : Inv X pins τ G { s' with heap := h3 } := J.landed nb fl3.1 (up.trans up3) os ag
    obtain ⟨oe3, vs3, he3, hz3, hd3⟩ := fl3.there
    have nfr : a ∉ frs (X.env :: X.outer) := fun hm => by
      obtain ⟨_, o', e', hnf⟩ := fl3.2.2.1.mem hm
      rw [he3] at e'
      cases e'
      exact hnf _ hd3
    have nL : a ≠ X.env.locals := fun z => nfr (List.mem_filterMap.mpr ⟨X.env, List.mem_cons_self, by rw [hf, z]⟩)
    have nI : sI.heap.get? a = none := by
      cases e : sI.heap.get? a with
      | none => rfl
      | some o =>
        have z := nb a o e (by rw [hs]; exact nfr)
        rw [fl3.2.1] at z
        cases z
    have LT : PySem.W.Looks (model X.prog X.w) h3 (typeOf (.ref a)) cls := fun A Q E s k q => wpAny_typeOf_ref (k _ _ he3) (by rw [hz3.1]; exact q)
    have LM := PySem.W.exm_one (M := model X.prog X.w) (J3.kIn) LT hb1
    have S3 := Inv.suite0 J3 a
    have test : ∀ {Q : Value → Shared → Prop} {E : Value → Shared → Prop}, Q c { s' with heap := h3 } → wpAny (model X.prog X.w) (X.A.mark (some (.ref a))) (eval (.Name x np) X.env) Q E { s' with heap := h3 } := fun {Q E} q => by
      obtain ⟨hg, hdbg, hm | ⟨hm, hv, hnn⟩⟩ := hc
      · exact ld_glob (X := X.suite a (X.pn ++ pins)) S3 hg hm q hdbg
      · exact ld_blt (X := X.suite a (X.pn ++ pins)) S3 hg hm hv q hnn hdbg
    refine wpAny_handleBy_cons (codeAny_handlers_test (test (LM.here ?_))) (by intro q; cases q)
    cases b with
    | true =>
      refine codeAny_handlers_suite_as (HandSPX.lands_againZ fl3 fun h4 fl4 up4 => ?_)
      have J4 : Inv X pins τ G { s' with heap := h4 } := J.landed nb fl4.1 ((up.trans up3).trans up4) os ag
      obtain ⟨oe4, vs4, he4, hz4, hd4⟩ := fl4.there
      obtain ⟨C, dx, rfl, rfl, hgo⟩ := hyes rfl
      have n0 : X.s_0.heap.get? a = none := by
        cases e : X.s_0.heap.get? a with
        | none => rfl
        | some o =>
          obtain ⟨o', z⟩ := J.base.there a o e (by rw [hex]; exact fun y => nomatch y)
          rw [nI] at z
          cases z
      have T4 : Inv X pins τ (upd G a (EXO C dx a)) { s' with heap := h4 } := Inv.track J4 na n0 nL (fun y k e z => by
          obtain ⟨v, o, q1, q2⟩ := J4.cell y k e
          rw [z] at q1
          have q3 := he4.symm.trans q1
          cases q3
          rw [hd4] at q2
          cases q2) (fun p hp z => by
          have q1 := (J.pin p hp).1
          rw [z, nI] at q1
          cases q1) (exo2_ok he4 hz4 hd4)
      refine store_ok (X := X.suite a (X.pn ++ pins)) (v := .ref a) (Inv.suite0 T4 a) hN hi (.inl hln) rfl (fun s5 S5 => ?_) (.inr hln)
      refine wpAny_mono ((hsu a (X.pn ++ pins)).run [] s5 _ _ _ S5 (hgo a na)) (fun fl s6 hsp => ?_) (fun _ _ z => False.elim z)
      have last : ∀ {τ6 : St} {H6 : Hp} {Q : Shared → Prop}, Inv (X.suite a (X.pn ++ pins)) [] τ6 H6 s6 → (∀ s7, Inv X pins (τ6.set i none) H6 s7 → Q s7) →
          wpAny (model X.prog X.w) X.A (do bindName X.env n .none; unbindBehindTheSuite X.env n pos') (fun _ s7 => Q s7) X.xe s6 := fun {τ6 H6 Q} S6 hq => gone_ok (Inv.unsuite0 S6 ok) hN hi hln hq
      cases fl with
      | ret u =>
        obtain ⟨v6, τ6, H6, S6, r6, q6⟩ := hsp
        exact last S6 fun s7 J7 => ⟨_, _, _, J7, r6, q6⟩
      | next =>
        obtain ⟨τ6, H6, S6, q6⟩ := hsp
        exact last S6 fun s7 J7 => ⟨_, _, J7, q6⟩
      | brk =>
        obtain ⟨τ6, H6, S6, q6⟩ := hsp
        exact last S6 fun s7 J7 => ⟨_, _, J7, q6⟩
      | cont =>
        obtain ⟨τ6, H6, S6, q6⟩ := hsp
        exact last S6 fun s7 J7 => ⟨_, _, J7, q6⟩
    | false =>
      show wpAny _ X.A (handleBy (.ref a) X.env []) _ _ _
      refine wpAny_handleBy_nil ?_
      obtain ⟨y1, y2, y3, oe, vs, tb0, oT, ts', he, hz, hd, h1, hr⟩ := id fl3
      have fin : wpAny (model X.prog X.w) X.A (setFlight (.ref a) X.env.frame) (fun _ s4 => wpAny (model X.prog X.w) X.A (throw (.ref a) : Sem Flow) (SP X pins D) X.xe s4) X.xe { s' with heap := h3 } := by
        rw [hf]
        exact HandSPX.setFlight_upZ fl3 fun h4 hh4 up4 => wpAny_throw (tk _ _ ⟨a, B, sI, pins, τ, G, cls, d, rfl, J, nb, (up.trans up3).trans up4, .inr (.inr (by rw [hs]; exact hh4)), na, os, ag, hno rfl⟩)
      unfold PySem.passOn
      refine wpAny_bind (wpAny_field he hd h1 ?_)
      rw [if_neg (show ¬ ((Value.ref tb0 == Value.none) = true) from by simp)]
      first
        | exact wpAny_bind (wpAny_pure (wpAny_bind fin))
        | exact wpAny_bind fin
  · cases fl with
    | ret u =>
      obtain ⟨v, τ, G, J', r, q⟩ := hsp
      exact ⟨v, τ, G, J'.ofTry ok, r, q⟩
    | next =>
      obtain ⟨τ, G, J', q⟩ := hsp
      exact wpAny_execs_nil ⟨τ, G, J'.ofTry ok, q⟩
    | brk =>
      obtain ⟨τ, G, J', q⟩ := hsp
      exact ⟨τ, G, J'.ofTry ok, q⟩
    | cont =>
      obtain ⟨τ, G, J', q⟩ := hsp
      exact ⟨τ, G, J'.ofTry ok, q⟩
end
end HT
set_option maxRecDepth 100000
set_option maxHeartbeats 800000
namespace HT
open PySem PySem.Spec L2
open PyProof.Rows hiding St
section
variable {T : Str → Addr} {K : PySem.W.Frag} {ρ : Nat → Option Addr} {S : Sto} {Z0 Z : Hid} {H : Hp} {σ : St} {env : Env} {i : Nat}
theorem At.unset (a : At T K ρ S Z0 Z H σ env) (i : Nat) : At T K ρ S Z0 Z H (σ.set i none) (env.set i .un) := by
  have old : ∀ {j : Nat} {s : Sl}, s ≠ .un → (env.set i .un)[j]? = some s → env[j]? = some s ∧ i ≠ j := fun {j s} hs h => by
    by_cases hj : i = j
    · subst hj
      have hi : i < env.length := by
        have := (List.getElem?_eq_some_iff.mp h).1
        rw [List.length_set] at this
        exact this
      rw [List.getElem?_set_self hi] at h
      exact absurd (Option.some.inj h).symm hs
    · rw [List.getElem?_set_ne hj] at h
      exact ⟨h, hj⟩
  refine ⟨a.w, a.e.wiped [i], a.o.sub, fun j c b h1 h2 => ?_, fun j k c c' b h1 h2 h3 h4 => ?_, a.o.me, fun j c h1 => ?_, fun j k c c' b h1 h2 h3 => ?_, fun j k c c' h1 h2 => ?_⟩
  · obtain ⟨q, hj⟩ := old (by intro z; cases z) h1
    rw [List.getElem?_set_ne hj] at h2
    exact a.o.own j c b q h2
  · obtain ⟨q, hj⟩ := old (by intro z; cases z) h1
    obtain ⟨q2, hk⟩ := old (by intro z; cases z) h2
    rw [List.getElem?_set_ne hj] at h3
    rw [List.getElem?_set_ne hk] at h4
    exact a.o.apart j k c c' b q q2 h3 h4
  · exact a.o.slf j c (old (by intro z; cases z) h1).1
  · obtain ⟨q, hj⟩ := old (by intro z; cases z) h1
    rw [List.getElem?_set_ne hj] at h3
    exact a.o.apart2 j k c c' b q (old (by intro z; cases z) h2).1 h3
  · exact a.o.one j k c c' (old (by intro z; cases z) h1).1 (old (by intro z; cases z) h2).1
end
abbrev ExTb := Str → Option Bool
def sDrop (i : Nat) (r : R Fl) : R Fl := match r with
  | .ok (.nx e) S => .ok (.nx (e.set i .un)) S
  | .ok (.bk e) S => .ok (.bk (e.set i .un)) S
  | .ok (.ct e) S => .ok (.ct (e.set i .un)) S
  | .ok (.rt d) S => .ok (.rt d) S
  | _ => .stuck
def sTry (i : Nat) (tb : ExTb) (F G : FS) : FS := fun env S => match F env S with
  | .ok (.xc env' C fs) S' => (match tb C with
    | some true => sDrop i (G (env'.set i (.val (.exn C fs))) S')
    | some false => .ok (.xc env' C fs) S'
    | none => .stuck)
  | r => r
section
variable {T : Str → Addr} {X : Cx} {W : WX} {x n : Str} {c : Value} {i : Nat} {body suite : List Stmt} {b0 : Stmt} {np pos pos' : Pos} {F G : FS} {tb : ExTb}
theorem sf_try (hs : X.stack = X.env :: X.outer) (hf : X.env.frame = some X.env.locals) (hex : X.ex = []) (hN : X.N.Nodup) (hi : X.N[i]? = some n) (hln : X.env.kindOf n = some .local) (hc : Names X x c) (tk : Takes X W)
    (ht : ∀ C b, tb C = some b → PySem.W.exmOne X.K (.ref (T C)) c = some b)
    (hb : ∀ (W : WX) (pn : List (Addr × Obj)) (xe : Value → Shared → Prop), Takes (X.tr pn xe) W → SFs T (X.tr pn xe) W body F)
    (hsu : ∀ (a : Addr) (pn : List (Addr × Obj)), SFs T (X.suite a pn) WF (b0 :: suite) G) :
    SF T X W (.Try body [.ExceptHandler (some (.Name x np)) (some n) (b0 :: suite) pos'] [] [] pos) (sTry i tb F G) :=
  ps_imp (ps_try_ex (tb := fun W => liftS T X.K W F) (ts := liftS T X.K WF G) hs hf hex hN hi hln hc tk (fun W pn xe tk _ => hb W pn xe tk) hsu) fun B σ H q => by
    obtain ⟨ρ, S, Z0, Z, env, a, g⟩ := q
    refine ⟨ρ, S, Z0, Z, env, a, ?_⟩
    unfold sTry at g
    cases hF : F env S with
    | stuck =>
      rw [hF] at g
      exact g
    | exc C fs S' =>
      rw [hF] at g
      exact g
    | ok fl S' =>
      rw [hF] at g
      cases fl with
      | nx e => exact (show GoodF T X.K W B ρ Z0 Z H S' (.nx e) from g)
      | bk e => exact (show GoodF T X.K W B ρ Z0 Z H S' (.bk e) from g)
      | ct e => exact (show GoodF T X.K W B ρ Z0 Z H S' (.ct e) from g)
      | rt d => exact (show GoodF T X.K W B ρ Z0 Z H S' (.rt d) from g)
      | xc e C fs =>
        intro σ' dx vs H' ρ' Z' xs a' hx hr
        dsimp only at g
        cases ht' : tb C with
        | none =>
          rw [ht'] at g
          exact g.elim
        | some b =>
          rw [ht'] at g
          refine ⟨b, ht C b ht', fun e1 => ?_, fun e1 => ?_⟩
          · subst e1
            refine ⟨_, dx, rfl, rfl, fun p hp => ?_⟩
            obtain ⟨x2, w2, fz⟩ := new_frz (o := EXO (T C) dx p) a'.w hp
            have a2 := (a'.ext x2 w2).set (i := i) (d := .exn C fs) (v := .ref p) ⟨p, dx, vs, rfl, fz, hx.map fun b z => x2.frz b _ z, RepF.mono x2.cells x2.frz _ _ hr⟩
            refine ⟨ρ', S', Z0, Z', _, a2, ?_⟩
            have xe : ExtS ρ Z0 Z H ρ' Z' (upd H' p (EXO (T C) dx p)) := xs.trans (x2.s a'.o.sub)
            change GoodS T X.K W B ρ Z0 Z H (sDrop i (G (e.set i (.val (.exn C fs))) S')) at g
            cases hG : G (e.set i (.val (.exn C fs))) S' with
            | stuck =>
              rw [hG] at g
              exact g
            | exc C' fs' S2 =>
              rw [hG] at g
              exact g
            | ok fl2 S2 =>
              rw [hG] at g
              cases fl2 with
              | nx e2 => exact fun σ3 H3 ρ3 Z3 x3 a3 => (show GoodF T X.K W B ρ Z0 Z H S2 (.nx (e2.set i .un)) from g) _ H3 ρ3 Z3 (xe.trans x3) (a3.unset i)
              | bk e2 => exact fun σ3 H3 ρ3 Z3 x3 a3 => (show GoodF T X.K W B ρ Z0 Z H S2 (.bk (e2.set i .un)) from g) _ H3 ρ3 Z3 (xe.trans x3) (a3.unset i)
              | ct e2 => exact fun σ3 H3 ρ3 Z3 x3 a3 => (show GoodF T X.K W B ρ Z0 Z H S2 (.ct (e2.set i .un)) from g) _ H3 ρ3 Z3 (xe.trans x3) (a3.unset i)
              | rt d => exact fun v H3 ρ3 Z3 x3 => (show GoodF T X.K W B ρ Z0 Z H S2 (.rt d) from g) v H3 ρ3 Z3 (xe.trans x3)
              | xc e2 C' fs' => exact g.elim
          · subst e1
            exact (show GoodF T X.K W B ρ Z0 Z H S' (.xc e C fs) from g) σ' dx vs H' ρ' Z' xs a' hx hr
end
end HT
set_option maxRecDepth 100000
set_option maxHeartbeats 800000
namespace HT
open PySem PySem.Spec L2
open PyProof.Rows hiding St
inductive Ty where
  | b (n : String) | own (C : Str) | exc (C : Str)
def tyD (S : Sto) : D → Option Ty
  | .non => some (.b "NoneType")
  | .bl _ => some (.b "bool")
  | .int _ => some (.b "int")
  | .str _ => some (.b "str")
  | .lst _ => some (.b "list")
  | .klst _ => some (.b "list")
  | .tup _ => some (.b "tuple")
  | .dK _ => some (.b "dict")
  | .dT _ => some (.b "dict")
  | .obj C _ => some (.own C)
  | .exn C _ => some (.exc C)
  | .cell k => (match S[k]? with
    | some (.lst _) => some (.b "list")
    | some (.dK _) => some (.b "dict")
    | some (.dT _) => some (.b "dict")
    | some (.ins C _) => some (.own C)
    | none => none)
  | _ => none
structure ObC (K : PySem.W.Frag) (C : Addr) : Prop where
  cl : Cls K C
  ha : PySem.W.findIn K (.ref C) "__class__" = some (some (.builtin "object.__class__"))
  hn : PySem.W.specialIn K (.builtin "object.__class__") "__get__" = some (some (.builtin "getset_descriptor.__get__"))
  ht : PySem.W.takesIn K (.builtin "object.__class__") = some true
  hm : PySem.W.mroIn K C (.type "object") = some true
structure IsTb (T : Str → Addr) (K : PySem.W.Frag) (cv : Value) (tb : Ty → Option Bool) : Prop where
  b : ∀ n r, tb (.b n) = some r → PySem.W.kitOne K (.type n) cv = some r
  own : ∀ C r, tb (.own C) = some r → ObC K (T C) ∧ PySem.W.kitOne K (.ref (T C)) cv = some r
  exc : ∀ C r, tb (.exc C) = some r → ExcC K (T C) ∧ PySem.W.kitOne K (.ref (T C)) cv = some r
inductive ClsD where
  | ty (n : String) | own (C : Str)
def ClsD.is (c : ClsD) (d : D) : Bool := match c, d with
  | .ty n, .ty m => n == m
  | .own C, .glob x => C == x
  | _, _ => false
def ClsD.val (T : Str → Addr) : ClsD → Value
  | .ty n => .type n
  | .own C => .ref (T C)
def gIsi (tb : Ty → Option Bool) (c : ClsD) (x y : D) : Cm D := fun S => if c.is y = true then (match tyD S x with
  | some t => (match tb t with
    | some r => .ok (.bl r) S
    | none => .stuck)
  | none => .stuck) else .stuck
section
variable {T : Str → Addr} {X : Cx}
def rIsx (K : PySem.W.Frag) : List V → Hp → VK → Prop := fun xs H Q => ∃ (a : Addr) (dx : Option Addr) (C : Addr) (fs : List (Str × V)) (c : V) (u : Value) (b : Bool), xs = [.ref a, c] ∧ H a = some (EXO C dx a) ∧ XAt H dx fs ∧ ExcC K C ∧ ClsV c u ∧ PySem.W.kitOne K (.ref C) u = some b ∧ Q (.bl b) H
theorem exo_get {pins : List (Addr × Obj)} {σ : St} {H : Hp} {s : Shared} {a C dx : Addr} {fs : List (Str × V)} (I : Inv X pins σ H s) (ha : H a = some (EXO C (some dx) a)) (hx : H dx = some (.xd fs)) :
    ∃ (oe od : Obj) (mA : Str → Option Value), PySem.W.InstAt s.heap a oe C (some od) ∧ (∀ f, PySem.W.lookIn f od = some (mA f)) ∧ ∀ f, RelO (fs.lookup f) (mA f) := by
  obtain ⟨⟨oe, vs, h1, h2, h3⟩, _, _⟩ := (show ObjOk X.prog X.w H s.heap a (EXO C (some dx) a) from I.hok a _ ha)
  have hx2 : ObjOk X.prog X.w H s.heap dx (.xd fs) := I.hok dx _ hx
  obtain ⟨mA, hns, hr⟩ := hx2
  obtain ⟨od, ho, hl⟩ := lookIn_ns hns
  exact ⟨oe, od, mA, ⟨h1, h2.1, by unfold PySem.W.notCls; rw [h3] <;> rfl, by rw [h2.2]; exact ho⟩, hl, hr⟩
theorem exo_inst {pins : List (Addr × Obj)} {σ : St} {H : Hp} {s : Shared} {a C : Addr} {dx : Option Addr} {fs : List (Str × V)} (I : Inv X pins σ H s) (ha : H a = some (EXO C dx a)) (hx : XAt H dx fs) :
    ∃ (oe : Obj) (od : Option Obj), PySem.W.InstAt s.heap a oe C od := by
  cases dx with
  | some dx =>
    obtain ⟨oe, od, _, h, _⟩ := exo_get I ha hx
    exact ⟨oe, some od, h⟩
  | none =>
    obtain ⟨⟨oe, vs, h1, h2, h3⟩, _, _⟩ := (show ObjOk X.prog X.w H s.heap a (EXO C none a) from I.hok a _ ha)
    exact ⟨oe, none, ⟨h1, h2.1, by unfold PySem.W.notCls; rw [h3] <;> rfl, by rw [h2.2]; trivial⟩⟩
theorem call_isx : CallR X (.builtin "isinstance") (rIsx X.K) := by
  intro pins s σ H xs us Q I r h
  obtain ⟨a, dx, C, fs, c, u, b, rfl, ha, hx, hc, k, e, q⟩ := h
  obtain ⟨u1, u2, rfl, r1, r2⟩ := vals2 r
  have e2 := k.eq r2
  subst e2
  cases r1
  obtain ⟨oe, od, J⟩ := exo_inst I ha hx
  obtain ⟨cd, hcd, _⟩ := PySem.W.any_some hc.hd
  exact PySem.W.kia_one (PySem.W.kitx_exc (by rw [hcd]; rfl) hc.hg hc.hk hc.hs hc.ha hc.hn hc.ht hc.hm) I.kIn J e (fun z => nomatch z) fun tk => ⟨.bl b, H, I.tok tk, rfl, q⟩
theorem call_isi2 : CallR X (.builtin "isinstance") (fun xs H Q => rIsi X.K xs H Q ∨ rIsx X.K xs H Q) := by
  intro pins s σ H xs us Q I r h
  rcases h with h | h
  · exact call_isi pins s σ H xs us Q I r h
  · exact call_isx pins s σ H xs us Q I r h
theorem seqL_ty {K : PySem.W.Frag} {H : Hp} {a : Addr} {xs : List V} (h : SqL K H a xs) : TyX K H (.ref a) (.type "list") := by
  rcases h with (h | ⟨o, h⟩) | ⟨o, its, n, h1, h2, _⟩
  · exact .base (.lst h)
  · exact .base (.frz h)
  · exact .kList h1 h2
theorem seqT_ty {K : PySem.W.Frag} {H : Hp} {a : Addr} {xs : List V} (h : SqT K H a xs) : TyX K H (.ref a) (.type "tuple") := by
  rcases h with (h | ⟨o, h⟩) | ⟨o, its, n, h1, h2, _⟩
  · exact .base (.tup h)
  · exact .fTuple h
  · exact .kTuple h1 h2
theorem ok_gIsi {tb : Ty → Option Bool} {c : ClsD} (tbl : IsTb T X.K (c.val T) tb) : OpN T X (fun xs H Q => rIsi X.K xs H Q ∨ rIsx X.K xs H Q) (a2 (gIsi tb c)) := opN2 fun W σ ρ S Z H x y v u Q w r1 r2 g => by
  unfold gIsi at g
  split at g
  · rename_i hc
    have hcv : ClsV u (c.val T) := by
      cases c with
      | ty n =>
        cases y with
        | ty m =>
          have e : n = m := eq_of_beq (show (n == m) = true from hc)
          subst e
          have e2 : u = .ty n := r2
          subst e2
          exact .ty n
        | _ => cases hc
      | own C =>
        cases y with
        | glob m =>
          have e : C = m := eq_of_beq (show (C == m) = true from hc)
          subst e
          have e2 : u = .ref (T C) := r2
          subst e2
          exact .own (T C)
        | _ => cases hc
    cases ht : tyD S x with
    | none =>
      rw [ht] at g
      exact g.elim
    | some t =>
      rw [ht] at g
      dsimp only at g
      cases hb : tb t with
      | none =>
        rw [hb] at g
        exact g.elim
      | some b =>
        rw [hb] at g
        have fin : Q (.bl b) H := g _ H ρ .refl w rfl
        have plain : ∀ (n : String), t = .b n → TyX X.K H v (.type n) → rIsi X.K [v, u] H Q := fun n e ty => by
          subst e
          exact ⟨v, u, _, _, b, rfl, hcv, ty, tbl.b n b hb, fin⟩
        have owned : ∀ (C : Str) (a dx : Addr) (fs : List (Str × V)), t = .own C → v = .ref a → H a = some (.ins (T C) dx fs) → rIsi X.K [v, u] H Q := fun C a dx fs e ev ha => by
          subst e ev
          obtain ⟨o1, o2⟩ := tbl.own C b hb
          exact ⟨_, u, _, _, b, rfl, hcv, .base (.ins ha o1.cl o1.ha o1.hn o1.ht o1.hm), o2, fin⟩
        cases x with
        | non =>
          cases ht
          have e : v = .non := r1
          subst e
          exact .inl (plain _ rfl (.base .non))
        | bl k =>
          cases ht
          have e : v = .bl k := r1
          subst e
          exact .inl (plain _ rfl (.base (.bl k)))
        | int k =>
          cases ht
          have e : v = .int k := r1
          subst e
          exact .inl (plain _ rfl (.base (.int k)))
        | str k =>
          cases ht
          have e : v = .str k := r1
          subst e
          exact .inl (plain _ rfl (.base (.str k)))
        | lst ds =>
          cases ht
          obtain ⟨a, vs, rfl, q, _⟩ := r1
          exact .inl (plain _ rfl (.base (.lst (Fz_sub _ _ q))))
        | klst ds =>
          cases ht
          obtain ⟨a, vs, rfl, q, _⟩ := r1
          exact .inl (plain _ rfl (seqL_ty (Fz_sub.seqL q)))
        | tup ds =>
          cases ht
          obtain ⟨a, vs, rfl, q, _⟩ := r1
          exact .inl (plain _ rfl (seqT_ty (Fz_sub.seqT q)))
        | dK kvs =>
          cases ht
          obtain ⟨a, vs, rfl, q, _⟩ := r1
          exact .inl (plain _ rfl (.base (.dK (Fz_sub _ _ q))))
        | dT kvs =>
          cases ht
          obtain ⟨a, vs, rfl, q, _⟩ := r1
          exact .inl (plain _ rfl (.base (.dT (Fz_sub _ _ q))))
        | obj C fs =>
          cases ht
          obtain ⟨a, dx, vs, rfl, q, _⟩ := r1
          exact .inl (owned C a dx vs rfl rfl (Fz_sub _ _ q))
        | exn C fs =>
          cases ht
          obtain ⟨a, dx, vs, rfl, q, q2, _⟩ := r1
          obtain ⟨o1, o2⟩ := tbl.exc C b hb
          exact .inr ⟨a, dx, T C, vs, u, _, b, rfl, Fz_sub _ _ q, q2.map fun b z => Fz_sub b _ z, o1, hcv, o2, fin⟩
        | cell k =>
          obtain ⟨a, rfl, q⟩ := r1
          cases hk : S[k]? with
          | none =>
            have ht2 : (match S[k]? with | some (.lst _) => some (Ty.b "list") | some (.dK _) => some (.b "dict") | some (.dT _) => some (.b "dict") | some (.ins C _) => some (.own C) | none => none) = some t := ht
            rw [hk] at ht2
            cases ht2
          | some co =>
            have ht2 : (match S[k]? with | some (.lst _) => some (Ty.b "list") | some (.dK _) => some (.b "dict") | some (.dT _) => some (.b "dict") | some (.ins C _) => some (.own C) | none => none) = some t := ht
            rw [hk] at ht2
            obtain ⟨a', o, h1, h2, h3, h4⟩ := w.cells k co hk
            rw [q] at h1
            cases h1
            cases co with
            | lst ds =>
              cases ht2
              obtain ⟨vs, rfl, _⟩ := h4
              exact .inl (plain _ rfl (.base (.lst h3)))
            | dK ds =>
              cases ht2
              obtain ⟨vs, rfl, _⟩ := h4
              exact .inl (plain _ rfl (.base (.dK h3)))
            | dT ds =>
              cases ht2
              obtain ⟨vs, rfl, _⟩ := h4
              exact .inl (plain _ rfl (.base (.dT h3)))
            | ins C fs =>
              cases ht2
              obtain ⟨dx, vs, rfl, _⟩ := h4
              exact .inl (owned C a dx vs rfl rfl h3)
        | glob x => cases ht
        | ty n => cases ht
  · exact g.elim
theorem pf_tyName {W : WX} {x : Str} {n : String} {pos : Pos} (hg : Gl X x) (hm : X.mg x = none) (hv : bootBuiltins x = some (.type n)) (hn : x ≠ "__name__" := by decide) (hd : (x == ("__debug__" : Str)) = false := by decide) : PF T X W (.Name x pos) (fun _ => pure (.ty n)) :=
  pf_const (pe_bltn hg hm hv (show RelV (.ty n) (.type n) from rfl) hn hd) fun _ _ => rfl
theorem pf_clsName {W : WX} {x : Str} {pos : Pos} (hg : Gl X x) (hm : X.mg x = some (.ref (T x))) (hd : (x == ("__debug__" : Str)) = false := by decide) : PF T X W (.Name x pos) (fun _ => pure (.glob x)) :=
  pf_const (pe_glob hg hm (show RelV (.ref (T x)) (.ref (T x)) from rfl) hd) fun _ _ => rfl
def fldOf (cs : List Str) (f : Str) (c : CO) : Cm D := fun S' => match c with
  | .ins C fs => if C ∈ cs then (match fs.lookup f with
    | some d => .ok d S'
    | none => .stuck) else .stuck
  | _ => .stuck
def fFld (cs : List Str) (f : Str) (Fo : Env → Cm CO) : FE := fun env S => (Fo env S).bnd (fldOf cs f)
theorem pf_fld {W : WX} {e : Expr} {f : Str} {Fo : Env → Cm CO} {cs : List Str} {pos : Pos} (he : VF T X W e Fo) (hc : ∀ C ∈ cs, Cls X.K (T C) ∧ NoAttr X.K (T C) f) (hb : attributeBase e f X.env (eval e X.env) = eval e X.env := by rfl) : PF T X W (.Attribute e f pos) (fFld cs f Fo) :=
  pe_imp (pe_fld he hb) fun σ H Q q => by
    obtain ⟨ρ, S, Z, env, w, er, g⟩ := q
    refine ⟨ρ, S, Z, env, w, er, ?_⟩
    unfold fFld at g
    cases hF : Fo env S with
    | stuck =>
      rw [hF] at g
      exact g
    | exc C fs S' =>
      rw [hF] at g
      exact g
    | ok c S' =>
      rw [hF] at g
      change Good T X.K (rD T X.K) W σ Q ρ Z H (fldOf cs f c S') at g
      unfold fldOf at g
      intro a o H' ρ' x w' ha hO
      cases c with
      | ins C fs =>
        dsimp only at g
        split at g
        · rename_i hm
          cases hl : fs.lookup f with
          | none =>
            rw [hl] at g
            exact g.elim
          | some d =>
            rw [hl] at g
            obtain ⟨dx, vs, rfl, rf⟩ := hO
            obtain ⟨v, h1, h2⟩ := rf.look hl
            exact ⟨a, T C, dx, vs, v, rfl, ha, (hc C hm).1, (hc C hm).2, h1, g v H' ρ' x w' h2⟩
        · exact g.elim
      | _ => exact g.elim
def fXf (cs : List Str) (f : Str) (Fo : FE) : FE := fun env S => (Fo env S).bnd fun d S' => match d with
  | .exn C fs => if C ∈ cs then (match fs.lookup f with
    | some d => .ok d S'
    | none => .stuck) else .stuck
  | _ => .stuck
theorem pf_xf {W : WX} {e : Expr} {f : Str} {Fo : FE} {cs : List Str} {pos : Pos} (he : PF T X W e Fo) (hc : ∀ C ∈ cs, XfC X.K (T C) ∧ PySem.W.findIn X.K (.ref (T C)) f = some none) (hb : attributeBase e f X.env (eval e X.env) = eval e X.env := by rfl) : PF T X W (.Attribute e f pos) (fXf cs f Fo) := by
  refine ⟨fun pins s σ H Q I h => ?_⟩
  obtain ⟨ρ, S, Z, env, w, er, g⟩ := h
  refine attr_of hb (thn (he.run pins s σ H _ I (lift_bnd w er g)) fun u s1 ⟨v, H1, I1, rx, ρ1, S1, d1, x1, w1, e1, r1, g1⟩ => ?_)
  cases d1 with
  | exn C fs =>
    dsimp only at g1
    split at g1
    · rename_i hm
      cases hl : fs.lookup f with
      | none =>
        rw [hl] at g1
        exact g1.elim
      | some d =>
        rw [hl] at g1
        obtain ⟨a, dx, vs, rfl, q1, q2, rf⟩ := r1
        obtain rfl : u = Value.ref a := rx
        obtain ⟨y, h1, h2⟩ := rf.look hl
        obtain ⟨dx, rfl⟩ : ∃ d, dx = some d := by
          cases dx with
          | some d => exact ⟨d, rfl⟩
          | none =>
            obtain rfl : vs = [] := q2
            cases h1
        obtain ⟨oe, od, mA, J, hlk, hr⟩ := exo_get I1 (Fz_sub _ _ q1) (Fz_sub _ _ q2)
        obtain ⟨t, hno⟩ := hc C hm
        obtain ⟨u2, hu, ru⟩ := RelO.some_of (v := y) (o := mA f) (by rw [← h1]; exact hr f)
        exact HandSPX.exc_get I1.kIn J t.ga t.gg t.exC (PySem.W.findObj_own t.hdC hno rfl (by rw [hlk, hu])) (handed_of ru) ⟨y, H1, I1.tok _, ru, g1 y H1 ρ1 .refl w1 h2⟩
    · exact g1.elim
  | _ => exact g1.elim
end
end HT
set_option maxRecDepth 100000
set_option maxHeartbeats 800000
namespace HT
open PySem PySem.Spec L2
open PyProof.Rows hiding St
section
variable {T : Str → Addr} {K : PySem.W.Frag} {ρ : Nat → Option Addr} {S : Sto} {Z0 Z : Hid} {H : Hp} {σ : St} {env : Env} {i : Nat} {c0 c : CO} {o : HO}
theorem ER.hid1 {p : Addr} (e : ER T K ρ Z H σ env) (hp : Z p) (hi : i < env.length) {s : Sl} (h1 : ∀ c', s = .own c' → σ[i]? = some (some (V.ref p)) ∧ HObj T K ρ (Fz ρ Z H) c' o) (h2 : ∀ c', s = .slf c' → p = Z.me ∧ σ[i]? = some (some (V.ref p)) ∧ HObj T K ρ (Fz ρ Z H) c' o) (h3 : ∀ d, s ≠ .val d)
    (n1 : ∀ j c', j ≠ i → env[j]? = some (.own c') → σ[j]? ≠ some (some (V.ref p))) (n2 : ∀ j c', j ≠ i → env[j]? = some (.slf c') → p ≠ Z.me) : ER T K ρ Z (upd H p o) σ (env.set i s) := by
  have hF : Fz ρ Z (upd H p o) = Fz ρ Z H := fz_hid hp
  have at_ : ∀ {j : Nat} {x : Sl}, (env.set i s)[j]? = some x → (j = i ∧ x = s) ∨ (j ≠ i ∧ env[j]? = some x) := fun {j x} h => by
    by_cases hj : i = j
    · subst hj
      rw [List.getElem?_set_self hi] at h
      exact .inl ⟨rfl, (Option.some.inj h).symm⟩
    · rw [List.getElem?_set_ne hj] at h
      exact .inr ⟨Ne.symm hj, h⟩
  refine ⟨fun j d h => ?_, fun j c' h => ?_, fun j c' h => ?_, by rw [List.length_set]; exact e.len⟩
  · rcases at_ h with ⟨_, q⟩ | ⟨_, q⟩
    · exact absurd q.symm (h3 d)
    · rw [hF]
      exact e.val j d q
  · rcases at_ h with ⟨rfl, q⟩ | ⟨hj, q⟩
    · obtain ⟨q1, q2⟩ := h1 c' q.symm
      exact ⟨p, o, q1, hp, upd_same, by rw [hF]; exact q2⟩
    · obtain ⟨a, u, q1, q2, q3, q4⟩ := e.own j c' q
      have na : a ≠ p := fun z => n1 j c' hj q (by rw [q1, z])
      exact ⟨a, u, q1, q2, by rw [upd_ne na]; exact q3, by rw [hF]; exact q4⟩
  · rcases at_ h with ⟨rfl, q⟩ | ⟨hj, q⟩
    · obtain ⟨q0, q1, q2⟩ := h2 c' q.symm
      subst q0
      exact ⟨o, q1, hp, upd_same, by rw [hF]; exact q2⟩
    · obtain ⟨u, q1, q2, q3, q4⟩ := e.slf j c' q
      exact ⟨u, q1, q2, by rw [upd_ne (Ne.symm (n2 j c' hj q))]; exact q3, by rw [hF]; exact q4⟩
theorem set_old {s : Sl} {j : Nat} {x : Sl} (h : (env.set i s)[j]? = some x) : (j = i ∧ x = s ∧ i < env.length) ∨ (j ≠ i ∧ env[j]? = some x) := by
  by_cases hj : i = j
  · subst hj
    have hi : i < env.length := by
      have := (List.getElem?_eq_some_iff.mp h).1
      rw [List.length_set] at this
      exact this
    rw [List.getElem?_set_self hi] at h
    exact .inl ⟨rfl, (Option.some.inj h).symm, hi⟩
  · rw [List.getElem?_set_ne hj] at h
    exact .inr ⟨Ne.symm hj, h⟩
theorem At.putSlf (a : At T K ρ S Z0 Z H σ env) (h0 : env[i]? = some (.slf c0)) (h : HObj T K ρ (Fz ρ Z H) c o) : ExtS ρ Z0 Z H ρ Z (upd H Z.me o) ∧ At T K ρ S Z0 Z (upd H Z.me o) σ (env.set i (.slf c)) := by
  obtain ⟨o0, e1, e2, e3, e4⟩ := a.e.slf i c0 h0
  have hi : i < env.length := (List.getElem?_eq_some_iff.mp h0).1
  refine ⟨⟨fun _ _ q => q, fun b u q => by rw [fz_hid e2]; exact q, fun b z => upd_ne fun q => a.o.slf i c0 h0 (q ▸ z)⟩, a.w.hid e2, ?_, a.o.sub, fun j c' b q1 q2 => ?_, fun j k c1 c2 b q1 q2 q3 q4 => ?_, a.o.me, fun j c' q1 => ?_, fun j k c1 c2 b q1 q2 q3 => ?_, fun j k c1 c2 q1 q2 => ?_⟩
  · refine a.e.hid1 e2 hi (fun c' z => nomatch z) (fun c' z => ?_) (fun d z => nomatch z) (fun j c' hj q z => ?_) (fun j c' hj q => ?_)
    · cases z
      exact ⟨rfl, e1, h⟩
    · exact a.o.apart2 j i c' c0 _ q h0 z rfl
    · exact absurd (a.o.one j i c' c0 q h0) hj
  · rcases set_old q1 with ⟨_, q, _⟩ | ⟨_, q⟩
    · cases q
    · exact a.o.own j c' b q q2
  · rcases set_old q1 with ⟨_, q, _⟩ | ⟨_, q⟩
    · cases q
    · rcases set_old q2 with ⟨_, q', _⟩ | ⟨_, q'⟩
      · cases q'
      · exact a.o.apart j k c1 c2 b q q' q3 q4
  · exact a.o.slf i c0 h0
  · rcases set_old q1 with ⟨_, q, _⟩ | ⟨_, q⟩
    · cases q
    · exact a.o.apart2 j i c1 c0 b q h0 q3
  · rcases set_old q1 with ⟨q, _, _⟩ | ⟨q, q'⟩
    · rcases set_old q2 with ⟨r, _, _⟩ | ⟨r, r'⟩
      · rw [q, r]
      · exact absurd (a.o.one k i c2 c0 r' h0) r
    · exact absurd (a.o.one j i c1 c0 q' h0) q
theorem At.putOwn {p : Addr} (a : At T K ρ S Z0 Z H σ env) (h0 : env[i]? = some (.own c0)) (hp : σ[i]? = some (some (V.ref p))) (h : HObj T K ρ (Fz ρ Z H) c o) : ExtS ρ Z0 Z H ρ Z (upd H p o) ∧ At T K ρ S Z0 Z (upd H p o) σ (env.set i (.own c)) := by
  obtain ⟨zp, nz⟩ := a.o.own i c0 p h0 hp
  have hi : i < env.length := (List.getElem?_eq_some_iff.mp h0).1
  have hold : ∀ {j : Nat} {c' : CO}, (env.set i (.own c))[j]? = some (.own c') → ∃ c1, env[j]? = some (.own c1) := fun {j c'} q => by
    rcases set_old q with ⟨rfl, _, _⟩ | ⟨_, q'⟩
    · exact ⟨c0, h0⟩
    · exact ⟨c', q'⟩
  have holdS : ∀ {j : Nat} {c' : CO}, (env.set i (.own c))[j]? = some (.slf c') → env[j]? = some (.slf c') := fun {j c'} q => by
    rcases set_old q with ⟨_, q', _⟩ | ⟨_, q'⟩
    · cases q'
    · exact q'
  refine ⟨⟨fun _ _ q => q, fun b u q => by rw [fz_hid zp]; exact q, fun b z => upd_ne fun q => nz (q ▸ z)⟩, a.w.hid zp, ?_, a.o.sub, fun j c' b q1 q2 => ?_, fun j k c1 c2 b q1 q2 q3 q4 => ?_, a.o.me, fun j c' q1 => a.o.slf j c' (holdS q1), fun j k c1 c2 b q1 q2 q3 => ?_, fun j k c1 c2 q1 q2 => a.o.one j k c1 c2 (holdS q1) (holdS q2)⟩
  · refine a.e.hid1 zp hi (fun c' z => ?_) (fun c' z => nomatch z) (fun d z => nomatch z) (fun j c' hj q z => ?_) (fun j c' hj q => ?_)
    · cases z
      exact ⟨hp, h⟩
    · exact hj (a.o.apart j i c' c0 p q h0 z hp)
    · exact a.o.apart2 i j c0 c' p h0 q hp
  · obtain ⟨c1, q⟩ := hold q1
    exact a.o.own j c1 b q q2
  · obtain ⟨x1, q⟩ := hold q1
    obtain ⟨x2, q'⟩ := hold q2
    exact a.o.apart j k x1 x2 b q q' q3 q4
  · obtain ⟨x1, q⟩ := hold q1
    exact a.o.apart2 j k x1 c2 b q (holdS q2) q3
end
def sFldS (i : Nat) (cs : List Str) (f : Str) (F : FE) : FS := fun env S => sB env (F env S) fun d S' => match env[i]? with
  | some (.slf (.ins C fs)) => if C ∈ cs ∧ fs.length < 1000 then .ok (.nx (env.set i (.slf (.ins C (putD f d fs))))) S' else .stuck
  | _ => .stuck
section
variable {T : Str → Addr} {X : Cx} {W : WX} {x f : Str} {i : Nat} {cs : List Str} {value : Expr} {F : FE} {p pos pos' : Pos}
theorem sf_fldS (hx : PE X (.Name x p) (tVar i)) (hv : PF T X W value F) (hc : ∀ C ∈ cs, Cls X.K (T C) ∧ NoAttr X.K (T C) f) (hs : swapsWith value (some (.Attribute (.Name x p) f pos')) pos.line X.env = pure false := by rfl) :
    SF T X W (.Assign [.Attribute (.Name x p) f pos'] value pos) (sFldS i cs f F) := ps_imp (ps_fld hx hv hs) fun B σ H q => by
  obtain ⟨ρ, S, Z0, Z, env, a, g⟩ := q
  refine lift_imp (lift_sB a g) fun v H1 ⟨ρ1, S1, d, x1, a1, r1, g1⟩ => ?_
  split at g1
  · rename_i C fs h0
    split at g1
    · rename_i hm
      obtain ⟨o, e1, e2, e3, e4⟩ := a1.e.slf i _ h0
      obtain ⟨dx, vs, rfl, rf⟩ := e4
      obtain ⟨xs, as⟩ := a1.putSlf (c := .ins C (putD f d fs)) (o := .ins (T C) dx (putF f v vs)) h0 ⟨dx, _, rfl, rf.put r1⟩
      exact ⟨_, e1, Z.me, T C, dx, vs, rfl, e3, (hc C hm.1).1, (hc C hm.1).2, by rw [← rf.len]; exact hm.2, (show GoodF T X.K W B ρ1 Z0 Z H1 S1 (.nx _) from g1) σ _ ρ1 Z xs as⟩
    · exact g1.elim
  · exact g1.elim
end
def spI (T : Str → Addr) (K : PySem.W.Frag) (C : Str) (M : List D → Cm CO) (vs : List V) (H : Hp) (Q : VK) (E : XK) : Prop := ∃ ρ S Z H0 x dx rest ds, ∃ Qo : VK, vs = .ref x :: rest ∧ H0 x = none ∧ H0 dx = none ∧ dx ≠ x ∧
  H = upd (upd H0 dx (.own x)) x (.ins (T C) dx []) ∧ Wd T K ρ S Z H0 ∧ RepL T K ρ (Fz ρ Z H0) ds rest ∧ GoodO T K (fun c d _ H' => E c d H') [] Qo ρ Z H0 (M ds S) ∧ ∀ H2, Qo (.ref x) H2 → Q .non H2
structure FI (P : Program) (w : World) (K : PySem.W.Frag) (mg : Str → Option Value) (base : Heap) (T : Str → Addr) (k : Nat) (f : Addr) (fd : FuncData) (ps : List Str) (C : Str) (M : List D → Cm CO) : Prop where
  len : ∀ ds S, ds.length + 1 ≠ ps.length → M ds S = .stuck
  run : ∀ (A : Around) (outer : List PySem.Env) (s : Shared) (H : Hp) (args : Args) (us : List Value) (vs : List V) (Q : VK) (E : XK), Lv k A → Env0 P w K mg base A outer s H → BindsTo s fd args (ps.zip us) → Vals vs us → vs.length = ps.length → spI T K C M vs H Q E →
    codeAny (model P w) A (.call (.ref f) args) (CR (L2.CX P w) outer P w H s Q E) s
def selfOf : Env → Option CO
  | .slf c :: _ => some c
  | _ => none
def mkI (np n : Nat) (C : Str) (F : FS) (ds : List D) : Cm CO := fun S => if ds.length + 1 = np then (match F (.slf (.ins C []) :: (ds.map .val ++ List.replicate (n - np) .un)) S with
  | .ok (.nx e) S' => (match selfOf e with
    | some c => .ok c S'
    | none => .stuck)
  | .ok (.xc _ C' fs) S' => .exc C' fs S'
  | _ => .stuck) else .stuck
def Hid.at (Z : Hid) (x : Addr) : Hid := ⟨fun a => Z a ∨ a = x, x⟩
theorem fi_start {T : Str → Addr} {K : PySem.W.Frag} {ρ : Nat → Option Addr} {S : Sto} {Z : Hid} {H0 H : Hp} {x dx : Addr} {C : Str} {ds : List D} {rest : List V} {N : List Str} (w : Wd T K ρ S Z H0) (hx : H0 x = none) (hd : H0 dx = none) (ne : dx ≠ x)
    (eH : H = upd (upd H0 dx (.own x)) x (.ins (T C) dx [])) (r : RepL T K ρ (Fz ρ Z H0) ds rest) (hl : rest.length + 1 ≤ N.length) :
    ExtS ρ Z Z H0 ρ (Z.at x) H ∧ At T K ρ S ⟨Z.set, x⟩ (Z.at x) H (L2.start N (.ref x :: rest)) (.slf (.ins C []) :: (ds.map .val ++ List.replicate (N.length - (ds.length + 1)) .un)) := by
  obtain ⟨x1, w1, f1⟩ := new_frz (o := .own x) w hd
  have hx1 : upd H0 dx (.own x) x = none := by rw [upd_ne (Ne.symm ne)]; exact hx
  have n := new_neu (c := .ins C []) (o := .ins (T C) dx []) w1 hx1 ⟨dx, [], rfl, rfl⟩
  rw [← eH] at n
  have w2 : Wd T K ρ S (Z.at x) H := ⟨n.w.dom, n.w.cells, n.w.inj, n.w.there⟩
  have fz : Fz ρ (Z.at x) H = Fz ρ (plusZ Z x) H := rfl
  have sub : Sub (Fz ρ Z H0) (Fz ρ (Z.at x) H) := fun a o h => n.frz a o (x1.frz a o h)
  have r2 : RepL T K ρ (Fz ρ (Z.at x) H) ds rest := RepL.mono (fun _ _ h => h) sub _ _ r
  have hv := r.len
  obtain ⟨o, ho, hO⟩ := n.obj
  refine ⟨⟨fun _ _ h => h, sub, fun a z => (n.hid a z).trans (x1.hid a z)⟩, w2, ⟨fun i d h => ?_, fun i c h => ?_, fun i c h => ?_, ?_⟩, fun a z => .inl z, fun i c a h => ?_, fun i j c c' a h => ?_, rfl, fun i c h => n.nz, fun i j c c' a h => ?_, fun i j c c' h1 h2 => ?_⟩
  · cases i with
    | zero => cases h
    | succ i =>
      rw [List.getElem?_cons_succ] at h
      by_cases hi : i < ds.length
      · rw [List.getElem?_append_left (by simpa using hi), List.getElem?_map] at h
        cases e : ds[i]? with
        | none =>
          rw [e] at h
          cases h
        | some d' =>
          rw [e] at h
          cases h
          obtain ⟨v, h1, h2⟩ := r2.get e
          refine ⟨v, ?_, h2⟩
          unfold L2.start
          have hi2 : i < rest.length := (List.getElem?_eq_some_iff.mp h1).1
          rw [List.getElem?_append_left (by simp; omega), List.getElem?_map, List.getElem?_cons_succ, h1]
          rfl
      · rw [List.getElem?_append_right (by simpa using hi), List.getElem?_replicate] at h
        split at h
        · cases h
        · cases h
  · cases i with
    | zero => cases h
    | succ i =>
      rw [List.getElem?_cons_succ] at h
      rcases no_mapped h with e | ⟨d, e⟩ <;> cases e
  · cases i with
    | zero =>
      cases h
      refine ⟨o, ?_, .inr rfl, ho, hO⟩
      unfold L2.start
      rfl
    | succ i =>
      rw [List.getElem?_cons_succ] at h
      rcases no_mapped h with e | ⟨d, e⟩ <;> cases e
  · unfold L2.start
    rw [List.length_cons, List.length_append, List.length_append, List.length_map, List.length_map, List.length_replicate, List.length_replicate, List.length_cons, hv]
    omega
  · cases i with
    | zero => cases h
    | succ i =>
      rw [List.getElem?_cons_succ] at h
      rcases no_mapped h with e | ⟨d, e⟩ <;> cases e
  · cases i with
    | zero => cases h
    | succ i =>
      rw [List.getElem?_cons_succ] at h
      rcases no_mapped h with e | ⟨d, e⟩ <;> cases e
  · cases i with
    | zero => cases h
    | succ i =>
      rw [List.getElem?_cons_succ] at h
      rcases no_mapped h with e | ⟨d, e⟩ <;> cases e
  · have z : ∀ {i : Nat} {c : CO}, (Sl.slf (.ins C []) :: (ds.map Sl.val ++ List.replicate (N.length - (ds.length + 1)) .un))[i]? = some (.slf c) → i = 0 := fun {i c} h => by
      cases i with
      | zero => rfl
      | succ i =>
        rw [List.getElem?_cons_succ] at h
        rcases no_mapped h with e | ⟨d, e⟩ <;> cases e
    rw [z h1, z h2]
section
variable {P : Program} {w : World} {K : PySem.W.Frag} {mg : Str → Option Value} {base : Heap} {T : Str → Addr} {x qual : Str} {params : Arguments} {body : List Stmt} {scope : Scope} {dvs : List V} {kws : List (Str × V)} {f : Addr} {fd : FuncData} {N ps : List Str} {k : Nat}
theorem fi_of {F : FS} {C : Str} (D : FunD K x qual params body scope dvs kws f fd) (Sc : FnScope N ps scope) {np n : Nat} (hnp : np = ps.length) (hn : n = N.length)
    (h : ∀ (cdv : Value) (A : Around) (outer : List PySem.Env) (s : Shared) (H : Hp) (E : XK), Lv k (A.deeper (envOfC qual scope s.heap.objs.size f cdv)) → SFs T (ctx P w K mg base N qual scope f cdv A outer s H E) (fun c d _ H' => E c d H') body F) :
    FI P w K mg base T (k + 1) f fd ps C (mkI np n C F) := by
  subst hnp hn
  refine ⟨fun ds S hne => by unfold mkI; rw [if_neg hne], ?_⟩
  intro A outer s H args us vs Q E lv ev bd rv hlen hq
  refine ft_core D Sc (sp := fun vs H Q E => vs.length = ps.length ∧ spI T K C (mkI ps.length N.length C F) vs H Q E) (fun cdv A outer s H vs Q E lv hq => ⟨_, h cdv A outer s H E lv, ?_⟩) A outer s H args us vs Q E lv ev bd rv hlen ⟨hlen, hq⟩
  obtain ⟨hlen, ρ, S, Z, H0, y, dx, rest, ds, Qo, rfl, hx, hd, ne, eH, w', r, g, fin⟩ := hq
  have hds : ds.length + 1 = ps.length := by
    rw [← hlen, List.length_cons, r.len]
  have hle : rest.length + 1 ≤ N.length := by
    have := congrArg List.length Sc.pre
    rw [List.length_take] at this
    rw [← r.len]
    omega
  obtain ⟨xs, a⟩ := fi_start (N := N) w' hx hd ne eH r hle
  rw [hds] at a
  refine ⟨ρ, S, ⟨Z.set, y⟩, Z.at y, _, a, ?_⟩
  unfold mkI at g
  rw [if_pos hds] at g
  cases hF : F (.slf (.ins C []) :: (ds.map Sl.val ++ List.replicate (N.length - ps.length) .un)) S with
  | stuck =>
    rw [hF] at g
    exact g
  | exc C' fs S' =>
    rw [hF] at g
    exact g
  | ok fl S' =>
    rw [hF] at g
    cases fl with
    | nx e =>
      intro σ' H' ρ' Z' x2 a2
      cases e with
      | nil => exact g.elim
      | cons sl er =>
        cases sl with
        | slf c =>
          refine fin H' (g y H' ρ' ?_)
          obtain ⟨o, e1, e2, e3, e4⟩ := a2.e.slf 0 c rfl
          have me : Z'.me = y := a2.o.me
          have big : ∀ b, plusZ Z y b → Z' b := fun b z => by
            rcases z with z | z
            · exact a2.o.sub b z
            · rw [z, ← me]
              exact e2
          rw [me] at e3
          refine ⟨x2.cells, fun b u q => ?_, fun b z => ?_, a2.w.big big, ?_, o, e3, e4.mono (fun _ _ q => q) (fz_big big)⟩
          · exact fz_big big b u (x2.frz b u (xs.frz b u q))
          · exact (x2.hid b z).trans (xs.hid b z)
          · intro z
            obtain ⟨u, q⟩ := w'.there y z
            rw [hx] at q
            cases q
        | _ => exact g.elim
    | rt d => exact g.elim
    | bk e => exact g.elim
    | ct e => exact g.elim
    | xc e C' fs =>
      intro σ' dx' us' H' ρ' Z' x2 a2 q1 q2
      have big : ∀ b, Z b → Z' b := a2.o.sub
      exact g dx' us' H' ρ' ⟨x2.cells, fun b u q => fz_big big b u (x2.frz b u (xs.frz b u q)), fun b z => (x2.hid b z).trans (xs.hid b z)⟩ (a2.w.big big) (q1.map fun b z => fz_big big b _ z) (RepF.mono (fun _ _ q => q) (fz_big big) _ _ q2)
end
end HT
set_option maxRecDepth 100000
set_option maxHeartbeats 800000
namespace HT
open PySem PySem.Spec L2
open PyProof.Rows hiding St
def oMake (M : List D → Cm CO) (dds : List D) (Fa : Env → Cm (List D)) : Env → Cm CO := fun env S => (Fa env S).bnd fun xs => M (xs ++ dds)
section
variable {T : Str → Addr} {X : Cx} {W : WX} {k : Nat} {f : Addr} {fd : FuncData} {ps : List Str} {C : Str} {M : List D → Cm CO} {dvs : List V} {dsv : List Value} {dds : List D} {x : Str} {p pos : Pos} {e : Expr} {es : List Expr} {Fa : Env → Cm (List D)}
theorem Lv.make {k : Nat} {A : Around} (r : Lv (k + 1) A) (C : Addr) (us : List Value) (kw : List (Str × Value)) : Lv k (A.under (.builtin "type.__call__" ⟨.ref C :: us, kw⟩)) :=
  ⟨r.room.make C us kw, by
    have h := r.gd
    first
      | exact h
      | (simpa [Around.under] using h)⟩
theorem run_fi {pins : List (Addr × Obj)} {σ : St} {H : Hp} {s : Shared} {Q : VK} {us : List Value} {vs : List V} {ρ : Nat → Option Addr} {S : Sto} {Z : Hid} {ds : List D} (Mm : Mk X.K (T C) f) (F : FI X.prog X.w X.K X.mg X.base T k f fd ps C M) (lv : Lv (k + 1) X.A) (hb : Binds X.K fd ps dsv) (hd : Vals dvs dsv) (tk : Takes X W)
    (I : Inv X pins σ H s) (r : Vals vs us) (w : Wd T X.K ρ S Z H) (r2 : RepL T X.K ρ (Fz ρ Z H) ds (vs ++ dvs)) (g : GoodO T X.K W σ Q ρ Z H (M ds S)) : wpAny (model X.prog X.w) X.A (call (.ref (T C)) us) (EP X pins σ Q) X.xe s := by
  have hl : ds.length + 1 = ps.length := Classical.byContradiction fun hne => by
    rw [F.len ds S hne] at g
    exact g
  have I2 := Inv.made (C := T C) I
  have r3 : Vals (V.ref (s.heap.objs.size + 1) :: (vs ++ dvs)) (Value.ref (s.heap.objs.size + 1) :: (us ++ dsv)) := .cons rfl (r.append hd)
  have hlv : (V.ref (s.heap.objs.size + 1) :: (vs ++ dvs)).length = ps.length := by rw [List.length_cons, ← r2.len]; exact hl
  have hl2 : (Value.ref (s.heap.objs.size + 1) :: us ++ dsv).length = ps.length := by
    rw [← hlv]
    exact r3.length.symm
  refine wpAny_call (make_map (f := f) I.kIn Mm.makes Mm.init (beq_iff_eq.mp Mm.fn) (codeAny_mono (F.run _ X.stack _ _ ⟨Value.ref (s.heap.objs.size + 1) :: us, []⟩ (Value.ref (s.heap.objs.size + 1) :: (us ++ dsv)) (V.ref (s.heap.objs.size + 1) :: (vs ++ dvs)) (fun v H2 => v = .non ∧ Q (.ref (s.heap.objs.size + 1)) H2) (WE W σ) (lv.make (T C) us [])
    (I2.env0.make (T C) us []) (hb _ (Value.ref (s.heap.objs.size + 1) :: us) I2.kIn hl2) r3 hlv
    ⟨ρ, S, Z, H, s.heap.objs.size + 1, s.heap.objs.size, _, ds, Q, rfl, I.hok.fresh (Nat.le_succ _), I.hok.fresh (Nat.le_refl _), Nat.ne_of_lt (Nat.lt_succ_self _), rfl, w, r2, ?_, fun H2 q => ⟨rfl, q⟩⟩) fun r s' hq' => ?_))
  · cases hM : M ds S with
    | ok d S' =>
      rw [hM] at g
      exact g
    | exc C fs S' =>
      rw [hM] at g
      exact g
    | stuck =>
      rw [hM] at g
      exact g
  · cases r with
    | error e => exact passAt tk σ pins _ _ e s' I2 hq'
    | ok fl =>
      cases fl with
      | ret u =>
        obtain ⟨v, H', I3, rv, ev, q3⟩ := I2.after hq'
        subst ev
        exact ⟨rv, ⟨V.ref (s.heap.objs.size + 1), H', I3, rfl, q3⟩⟩
      | next => exact False.elim hq'
      | brk => exact False.elim hq'
      | cont => exact False.elim hq'
theorem of_make (Mm : Mk X.K (T C) f) (F : FI X.prog X.w X.K X.mg X.base T k f fd ps C M) (lv : Lv (k + 1) X.A) (hg : Gl X x) (hm : X.mg x = some (.ref (T C))) (hb : Binds X.K fd ps dsv) (hd : Vals dvs dsv) (hD : CsD T X.K dds dvs) (tk : Takes X W)
    (ha : AF T X W (e :: es) Fa) (hdb : (x == ("__debug__" : Str)) = false := by decide) (he : starEach (e :: es) X.env = (false, eval e X.env) :: starEach es X.env := by rfl) (hpl : (backTo pos (starEach es X.env)).any (·.1) = false := by rfl) :
    OF T X W (.Call (.Name x p) (e :: es) [] pos) (oMake M dds Fa) := by
  refine ⟨fun pins s σ H Q I h => ?_⟩
  obtain ⟨ρ, S, Z, env, w, er, g⟩ := h
  refine wpAny_Call_Name_kw (ld_glob I hg hm ?_ hdb)
  refine PySem.W.callWith_K (h₀ := X.base) I.ok.mod.kin Mm.kp (thn (ha.run pos pins s σ H _ I (lift_bndO w er g)) fun us s1 ⟨vs, H1, I1, r, ρ1, S1, ds, x1, w1, e1, r1, g1⟩ => ⟨I1.kIn, ?_⟩) he hpl
  exact run_fi Mm F lv hb hd tk I1 r w1 (r1.app (hD _ _)) g1
end
def lstAt (S : Sto) (k : Nat) : Option (List D) := match S[k]? with
  | some (.lst ds) => some ds
  | _ => none
def appC (env : Env) (k : Nat) (d : D) (S : Sto) : R Fl := match lstAt S k with
  | some ds => if ds.length < sizeLine then .ok (.nx env) (S.set k (.lst (ds ++ [d]))) else .stuck
  | none => .stuck
def sApp (i : Nat) (F : FE) : FS := fun env S => match env[i]? with
  | some (.own (.lst ds)) => sB env (F env S) fun d S' => if ds.length < sizeLine then .ok (.nx (env.set i (.own (.lst (ds ++ [d]))))) S' else .stuck
  | some (.val (.cell k)) => if (lstAt S k).isSome = true then sB env (F env S) fun d S' => appC env k d S' else .stuck
  | _ => .stuck
def sAppC (Fo F : FE) : FS := fun env S => sB env (Fo env S) fun o S1 => match o with
  | .cell k => if (lstAt S1 k).isSome = true then sB env (F env S1) fun d S2 => appC env k d S2 else .stuck
  | _ => .stuck
def putC (env : Env) (d o i : D) : Sto → R Fl := fun S => match o, i with
  | .cell k, .int j => (match lstAt S k with
    | some ds => (match ixN ds.length j with
      | some n => .ok (.nx env) (S.set k (.lst (ds.set n d)))
      | none => .stuck)
    | none => .stuck)
  | _, _ => .stuck
def sPutC (Fe Fo Fi : FE) : FS := fun env S => sB env (Fe env S) fun d S1 => sB env (Fo env S1) fun o S2 => sB env (Fi env S2) fun i S3 => putC env d o i S3
section
variable {T : Str → Addr} {K : PySem.W.Frag} {ρ : Nat → Option Addr} {S : Sto} {Z0 Z : Hid} {H : Hp} {σ : St} {env : Env} {W : WX} {B : Ends}
theorem lstAt_ok (w : Wd T K ρ S Z H) {k : Nat} {ds : List D} (h : lstAt S k = some ds) : S[k]? = some (.lst ds) ∧ ∃ a vs, ρ k = some a ∧ H a = some (.lst vs) ∧ RepL T K ρ (Fz ρ Z H) ds vs := by
  unfold lstAt at h
  cases hk : S[k]? with
  | none =>
    rw [hk] at h
    cases h
  | some c =>
    rw [hk] at h
    cases c with
    | lst es =>
      cases h
      obtain ⟨a, o, h1, h2, h3, h4⟩ := w.cells k _ hk
      obtain ⟨vs, rfl, r⟩ := h4
      exact ⟨rfl, a, vs, h1, h3, r⟩
    | _ => cases h
theorem At.putCell (a : At T K ρ S Z0 Z H σ env) {k : Nat} {p : Addr} {c0 c : CO} {o : HO} (hk : S[k]? = some c0) (hp : ρ k = some p) (h : HObj T K ρ (Fz ρ Z H) c o) : ExtS ρ Z0 Z H ρ Z (upd H p o) ∧ At T K ρ (S.set k c) Z0 Z (upd H p o) σ env := by
  obtain ⟨x, w⟩ := put_cell a.w hk hp h
  exact ⟨x.s a.o.sub, a.ext x w⟩
theorem appC_ok {k : Nat} {d : D} {v : V} {p : Addr} {σ : St} (a : At T K ρ S Z0 Z H σ env) (hp : ρ k = some p) (r : Rep T K ρ (Fz ρ Z H) d v) (g : GoodS T K W B ρ Z0 Z H (appC env k d S)) : rAppend (.ref p) [v] H (fun _ H' => B.nx σ H') := by
  unfold appC at g
  split at g
  · rename_i ds hds
    split at g
    · rename_i hl
      obtain ⟨hk, q, vs, h1, h2, h3⟩ := lstAt_ok a.w hds
      rw [hp] at h1
      cases h1
      obtain ⟨x, a2⟩ := a.putCell (c := .lst (ds ++ [d])) (o := .lst (vs ++ [v])) hk hp ⟨_, rfl, h3.app (RepL.one r)⟩
      exact ⟨p, vs, v, rfl, rfl, h2, by rw [← h3.len]; exact hl, (show GoodF T K W B ρ Z0 Z H _ (.nx env) from g) σ _ ρ Z x a2⟩
    · exact g.elim
  · exact g.elim
end
section
variable {T : Str → Addr} {X : Cx} {W : WX} {x : Str} {i : Nat} {o e : Expr} {Fe Fo Fi : FE} {p apos cpos pos : Pos}
theorem ty_append : typeOf (.builtin "list.append") = pure (.type "method_descriptor") := by
  show builtinType _ = _
  rw [builtinType_eq_fast]
  kernel_rfl
abbrev AppEv (X : Cx) (o e : Expr) (apos cpos pos : Pos) : Prop := attributeBase o "append" X.env (eval o X.env) = eval o X.env ∧
  ((backTo cpos (starEach [e] X.env)).all (fun x => !x.1) && (backToKw cpos (keywordEach [] X.env)).all (fun x => x.1.isSome) && decide ([e].length + ([] : List Keyword).length + (if ([] : List Keyword).isEmpty then 0 else 1) < 30)) = true ∧
  (apos.endLine == cpos.line) = true ∧ starEach [e] X.env = (false, eval e X.env) :: starEach [] X.env ∧ (backTo cpos (starEach [] X.env)).any (·.1) = false ∧
  swapsWith (.Call (.Attribute o "append" apos) [e] [] cpos) none pos.line X.env = pure false
theorem sf_app (hx : PE X (.Name x p) (tVar i)) (he : PF T X W e Fe) (hv : AppEv X (.Name x p) e apos cpos pos := by exact ⟨rfl, rfl, rfl, rfl, rfl, rfl⟩) :
    SF T X W (.Expr (.Call (.Attribute (.Name x p) "append" apos) [e] [] cpos) pos) (sApp i Fe) :=
  ps_imp (ps_expr (pe_bm PySem.F.plainAttrs_list PySem.F.slot_list_append ty_append mt_append hx (pa_cons he pa_nil hv.2.2.2.1) hv.1 hv.2.1 hv.2.2.1 hv.2.2.2.1 hv.2.2.2.2.1) hv.2.2.2.2.2) fun B σ H q => by
    obtain ⟨ρ, S, Z0, Z, env, a, g⟩ := q
    unfold sApp at g
    split at g
    · rename_i ds h0
      obtain ⟨q, ob, h1, h2, h3, vs, rfl, h4⟩ := a.e.own i _ h0
      refine ⟨_, h1, .inl ⟨rfl, vs, SqL.of h3⟩, lift_imp (lift_sB a g) fun v H1 ⟨ρ1, S1, d, x1, a1, r1, g1⟩ => ?_⟩
      split at g1
      · rename_i hl
        obtain ⟨q', ob', h1', h2', h3', vs', rfl, h4'⟩ := a1.e.own i _ h0
        rw [h1] at h1'
        cases h1'
        obtain ⟨xs, as⟩ := a1.putOwn (c := .lst (ds ++ [d])) (o := .lst (vs' ++ [v])) h0 h1 ⟨_, rfl, h4'.app (RepL.one r1)⟩
        exact ⟨q, vs', v, rfl, rfl, h3', by rw [← h4'.len]; exact hl, (show GoodF T X.K W B ρ1 Z0 Z H1 S1 (.nx _) from g1) σ _ ρ1 Z xs as⟩
      · exact g1.elim
    · rename_i k h0
      split at g
      · rename_i hs
        obtain ⟨v0, h1, q, rfl, hq⟩ := a.e.val i _ h0
        obtain ⟨ds, hds⟩ := Option.isSome_iff_exists.mp hs
        obtain ⟨hk, q', vs, e1, e2, e3⟩ := lstAt_ok a.w hds
        rw [hq] at e1
        cases e1
        refine ⟨_, h1, .inl ⟨rfl, vs, SqL.of e2⟩, lift_imp (lift_sB a g) fun v H1 ⟨ρ1, S1, d, x1, a1, r1, g1⟩ => ?_⟩
        exact appC_ok a1 (x1.cells _ _ hq) r1 g1
      · exact g.elim
    · exact g.elim
theorem sf_appC (ho : PF T X W o Fo) (he : PF T X W e Fe) (hv : AppEv X o e apos cpos pos := by exact ⟨rfl, rfl, rfl, rfl, rfl, rfl⟩) :
    SF T X W (.Expr (.Call (.Attribute o "append" apos) [e] [] cpos) pos) (sAppC Fo Fe) :=
  ps_imp (ps_expr (pe_bm PySem.F.plainAttrs_list PySem.F.slot_list_append ty_append mt_append ho (pa_cons he pa_nil hv.2.2.2.1) hv.1 hv.2.1 hv.2.2.1 hv.2.2.2.1 hv.2.2.2.2.1) hv.2.2.2.2.2) fun B σ H q => by
    obtain ⟨ρ, S, Z0, Z, env, a, g⟩ := q
    unfold sAppC at g
    refine lift_imp (lift_sB a g) fun u H1 ⟨ρ1, S1, d1, x1, a1, r1, g1⟩ => ?_
    split at g1
    · rename_i k
      split at g1
      · rename_i hs
        obtain ⟨q, rfl, hq⟩ := r1
        obtain ⟨ds, hds⟩ := Option.isSome_iff_exists.mp hs
        obtain ⟨hk, q', vs, e1, e2, e3⟩ := lstAt_ok a1.w hds
        rw [hq] at e1
        cases e1
        refine ⟨.inl ⟨rfl, vs, SqL.of e2⟩, lift_imp (lift_sB a1 g1) fun v H2 ⟨ρ2, S2, d2, x2, a2, r2, g2⟩ => ?_⟩
        exact appC_ok a2 (x2.cells _ _ hq) r2 g2
      · exact g1.elim
    · exact g1.elim
theorem sf_putC (he : PF T X W e Fe) (ho : PF T X W o Fo) {ie : Expr} (hi : PF T X W ie Fi) {tpos : Pos}
    (ha : ∀ v, assign (.Subscript o ie tpos) X.env v = (holding [v] (eval o X.env) >>= fun ov => holding [v, ov] (eval ie X.env) >>= fun iv => standAt tpos >>= fun _ => holding [v, ov, iv] (setItem ov iv v) >>= fun _ => release [v, ov, iv] []) := by intro _; rfl)
    (hs : swapsWithSole [.Subscript o ie tpos] e pos.line X.env = pure false := by rfl) (hw : swappedStores [.Subscript o ie tpos] e X.env = pure none := by rfl) (h1 : (assignEach [.Subscript o ie tpos] X.env).map (·.2) = [assign (.Subscript o ie tpos) X.env] := by rfl) :
    SF T X W (.Assign [.Subscript o ie tpos] e pos) (sPutC Fe Fo Fi) := ps_imp (ps_asg he (pg_sub ho hi set_list ha) hs hw h1) fun B σ H q => by
  obtain ⟨ρ, S, Z0, Z, env, a, g⟩ := q
  unfold sPutC at g
  refine lift_imp (lift_sB a g) fun v H1 ⟨ρ1, S1, d1, x1, a1, r1, g1⟩ => ?_
  refine lift_imp (lift_sB a1 g1) fun u H2 ⟨ρ2, S2, d2, x2, a2, r2, g2⟩ => ?_
  refine lift_imp (lift_sB a2 g2) fun y H3 ⟨ρ3, S3, d3, x3, a3, r3, g3⟩ => ?_
  have rv := (x2.trans x3).rep r1
  have ru := x3.rep r2
  cases d2 with
  | cell k =>
    cases d3 with
    | int j =>
      unfold putC at g3
      dsimp only at g3
      obtain ⟨p, rfl, hp⟩ := ru
      have ey : y = .int j := r3
      subst ey
      split at g3
      · rename_i ds hds
        split at g3
        · rename_i n hn
          obtain ⟨hk, q', vs, e1, e2, e3⟩ := lstAt_ok a3.w hds
          rw [hp] at e1
          cases e1
          obtain ⟨x4, a4⟩ := a3.putCell (c := .lst (ds.set n d1)) (o := .lst (vs.set n v)) hk hp ⟨_, rfl, e3.set n rv⟩
          exact ⟨p, vs, j, n, rfl, rfl, e2, by rw [← e3.len]; exact hn, (show GoodF T X.K W B ρ3 Z0 Z H3 _ (.nx env) from g3) σ _ ρ3 Z x4 a4⟩
        · exact g3.elim
      · exact g3.elim
    | _ => exact g3.elim
  | _ => exact g3.elim
end
end HT
set_option maxRecDepth 100000
set_option maxHeartbeats 800000
namespace HT
open PySem PySem.Spec L2
open PyProof.Rows hiding St
section
variable {P : Program} {w : World} {K : PySem.W.Frag} {mg mb : Str → Option Value} {T : Str → Addr} {k : Nat} {fa a : Addr} {fd : FuncData} {x : Str} {M : List D → Cm D} {s1 : Shared} {vs : List Value} {ns : List Int}
theorem law_core (H : Hp) (KX : K.In s1.heap) (hns : s1.heap.Ns mainGlobals mg) (hb : s1.heap.Ns builtinsNs mb) (hbb : ∀ y : Str, y ≠ "__name__" → mb y = bootBuiltins y) (hlim : s1.heap.NoLimit) (hg : s1.gens = #[])
    (ha : s1.heap.get? a = some { cls := .type "list", data := .seq vs.toArray }) (lv : Lv k callerA) (F : ∀ base : Heap, K.In base → base.Ns mainGlobals mg → FT P w K mg base T k fa fd [x] M) (hbind : ∀ (s : Shared) (u : Value), BindsTo s fd ⟨[u], []⟩ [(x, u)])
    (hO : Only H) (hS : SqL K H a (ns.map V.int)) (hok : HOk P w H s1.heap) (hA : ∀ b, H b ≠ none → b = a) (hK : H a ≠ none → K.lookup a = none) (hM : ∃ S', M [.klst (ns.map .int)] [] = .ok (.bl true) S') :
    codeAny (model P w) callerA (.call (.ref fa) ⟨[.ref a], []⟩) (fun r s' => r = .ok (.ret (.bool true)) ∧ OldK s1.heap s'.heap ∧ s'.os = s1.os ∧ AllBare s'.gens) s1 := by
  have at_a : ∀ {b : Addr} {u : HO}, H b = some u → b = a := fun {b u} q => hA b (by rw [q]; exact fun z => nomatch z)
  have noA : ∀ {b : Addr} {o : Obj} {es : Array DictEntry} {ep : Nat}, s1.heap.get? b = some o → o.data = .dict es ep → H b = none := fun {b o es ep} e d => by
    cases q : H b with
    | none => rfl
    | some u =>
      rw [at_a q, ha] at e
      have e2 := Option.some.inj e
      rw [← e2] at d
      cases d
  have nsK : ∀ {b : Addr} {m : Str → Option Value}, s1.heap.Ns b m → (hidT s1.heap H).Ns b m := fun {b m} z => by
    obtain ⟨o, es, ep, e, d, r⟩ := z
    exact ⟨o, es, ep, hidT_get e (noA e d), d, r⟩
  have hKb : K.In (hidT s1.heap H) := fun b o e => hidT_get (KX b o e) (by
    cases q : H b with
    | none => rfl
    | some u =>
      have e2 := at_a q
      rw [e2] at q e
      rw [hK (by rw [q]; exact fun z => nomatch z)] at e
      cases e)
  obtain ⟨mc, l1, l2⟩ := hlim
  have e0 : Env0 P w K mg (hidT s1.heap H) callerA [] s1 H := ⟨rfl, ⟨hKb, nsK hns, ⟨mb, nsK hb, hbb⟩, ⟨mc, nsK l1, l2⟩⟩, fun b o e => of_hidT e, Nat.le_of_eq (hidT_size _ _), trivial, fun b z => absurd (show b ∈ ([] : List Addr) from z) (by simp), hok, .of_eq hg⟩
  obtain ⟨S', hM⟩ := hM
  have rep : ∀ ρ Z, (∀ b, ¬ Z b) → (∀ j, ρ j = none) → RepL T K ρ (Fz ρ Z H) [.klst (ns.map .int)] [.ref a] := fun ρ Z z r => by
    refine RepL.one ⟨a, ns.map V.int, rfl, ?_, ?_⟩
    · have e : Fz ρ Z H = H := by
        funext b
        unfold Fz
        rw [if_neg]
        rintro (q | ⟨j, q⟩)
        · exact z b q
        · rw [r j] at q
          cases q
      rw [e]
      exact hS
    · refine RepL.of_all (by simp) fun i d v h1 h2 => ?_
      rw [List.getElem?_map] at h1 h2
      cases e : ns[i]? with
      | none =>
        rw [e] at h1
        cases h1
      | some n =>
        rw [e] at h1 h2
        cases h1
        cases h2
        exact rfl
  have w0 : Wd T K (fun _ => none) [] ⟨fun _ => False, 0⟩ H := by
    refine ⟨?_, ?_, ?_, ?_⟩
    · intro j b q
      cases q
    · intro j c q
      cases q
    · intro i j b q _
      cases q
    · intro b z
      exact False.elim z
  have sp : spT T K M [.ref a] H (fun v _ => v = .bl true) (fun _ _ _ => False) := by
    refine ⟨fun _ => none, [], ⟨fun _ => False, 0⟩, [.klst (ns.map .int)], w0, rep _ _ (fun b z => z) (fun j => rfl), ?_⟩
    rw [hM]
    exact fun v H' ρ' _ _ q => q
  refine codeAny_mono ((F _ hKb (nsK hns)).run callerA [] s1 H ⟨[.ref a], []⟩ [.ref a] [.ref a] (fun v _ => v = .bl true) (fun _ _ _ => False) lv e0 (hbind s1 (.ref a)) (.cons rfl .nil) rfl sp) fun r s' h => ?_
  cases r with
  | error e =>
    obtain ⟨_, _, _, _, _, _, _, _, _, _, _, _, z⟩ := h
    exact z.elim
  | ok fl =>
    cases fl with
    | next => exact False.elim h
    | brk => exact False.elim h
    | cont => exact False.elim h
    | ret u =>
      obtain ⟨v, H', os, bare, un, hok', r', q⟩ := h
      have q' : v = .bl true := q
      subst q'
      have eu : u = Value.bool true := r'
      subst eu
      refine ⟨rfl, OldK.of_keep fun b o e => ?_, os, bare⟩
      cases q : H b with
      | none => exact un.keep b o e q (by intro z; exact absurd (show b ∈ ([] : List Addr) from z) (by simp)) (by simp)
      | some u =>
        rcases hO b with z | ⟨ob, xs, z⟩
        · rw [q] at z
          cases z
        · obtain ⟨e1, _⟩ := hok b _ z
          obtain ⟨e2, _⟩ := hok' b _ (un.frzs b ob _ z)
          rw [e] at e1
          rw [Option.some.inj e1]
          exact e2
theorem law_callT (KX : K.In s1.heap) (hns : s1.heap.Ns mainGlobals mg) (hb : s1.heap.Ns builtinsNs mb) (hbb : ∀ y : Str, y ≠ "__name__" → mb y = bootBuiltins y) (hlim : s1.heap.NoLimit) (hg : s1.gens = #[])
    (ha : s1.heap.get? a = some { cls := .type "list", data := .seq vs.toArray }) (hi : IntsAre vs ns) (hl : ns.length ≤ sizeLine) (lv : Lv k callerA) (F : ∀ base : Heap, K.In base → base.Ns mainGlobals mg → FT P w K mg base T k fa fd [x] M)
    (hbind : ∀ (s : Shared) (u : Value), BindsTo s fd ⟨[u], []⟩ [(x, u)]) (hM : ∃ S', M [.klst (ns.map .int)] [] = .ok (.bl true) S') :
    codeAny (model P w) callerA (.call (.ref fa) ⟨[.ref a], []⟩) (fun r s' => r = .ok (.ret (.bool true)) ∧ OldK s1.heap s'.heap ∧ s'.os = s1.os ∧ AllBare s'.gens) s1 := by
  have rv := vals_ints hi
  cases hk : K.lookup a with
  | some o =>
    have e := KX a o hk
    rw [ha] at e
    have e2 := Option.some.inj e
    subst e2
    exact law_core (ns := ns) (fun _ => none) KX hns hb hbb hlim hg ha lv F hbind (fun _ => .inl rfl) (.inr ⟨_, vs.toArray, _, hk, rfl, rfl, rfl, by rw [List.size_toArray, hi.length]; exact hl, by simpa using rv⟩) (fun b u z => nomatch z) (fun b z => absurd rfl z) (fun z => absurd rfl z) hM
  | none =>
    have at1 : ∀ b u, (if b = a then some (HO.frz { cls := .type "list", data := .seq vs.toArray } (.lst (ns.map V.int))) else none) = some u → b = a ∧ u = HO.frz { cls := .type "list", data := .seq vs.toArray } (.lst (ns.map V.int)) := fun b u z => by
      split at z
      · exact ⟨by assumption, (Option.some.inj z).symm⟩
      · cases z
    refine law_core (ns := ns) (fun b => if b = a then some (.frz { cls := .type "list", data := .seq vs.toArray } (.lst (ns.map V.int))) else none) KX hns hb hbb hlim hg ha lv F hbind (fun b => ?_) (.inl (.inr ⟨{ cls := .type "list", data := .seq vs.toArray }, if_pos rfl⟩)) (fun b u z => ?_) (fun b z => ?_) (fun _ => hk) hM
    · by_cases hb : b = a
      · exact .inr ⟨_, _, if_pos hb⟩
      · exact .inl (if_neg hb)
    · obtain ⟨rfl, rfl⟩ := at1 b u z
      exact ⟨ha, by rw [List.length_map]; exact hl, vs, _, rv, ha⟩
    · by_cases hb : b = a
      · exact hb
      · exact absurd (if_neg hb) z
end
theorem walk_T {l : PySem.W.OpenLaw} {n k : Nat} {q : Program} {loose : List Str} {XP : (Str → Option Value) → Heap → Prop} {YP : World → Heap → Prop} {d : DefRec} {x : Str} (hn : l.most = some n) (hn2 : n ≤ sizeLine) (hdf : d.params.defaults = []) (lv : Lv k callerA)
    (F : ∀ (w : World) (mg : Str → Option Value) (fa : Addr) (h : Heap), YP w h → h.Ns mainGlobals mg → mg d.name = some (.ref fa) →
      ∃ (K : PySem.W.Frag) (fd : FuncData) (T : Str → Addr) (M : List D → Cm D), K.In h ∧ (∀ (s : Shared) (u : Value), BindsTo s fd ⟨[u], []⟩ [(x, u)]) ∧ (∀ ns : List Int, ns.length ≤ n → ∃ S', M [.klst (ns.map .int)] [] = .ok (.bl true) S') ∧
        ∀ base : Heap, K.In base → base.Ns mainGlobals mg → FT l.prog w K mg base T k fa fd [x] M) : PySem.W.WalkO q loose XP YP l.row.toRowW d [] (fun f vs => PySem.call f vs) :=
  Att.attach_call hn hdf fun w s0 s1 mg mb fa o pm cd doc a vs ns G Y ho hd hcd hmg hobj hints hlen hg => by
    obtain ⟨K, fd, T, M, KX, hb, hM, hF⟩ := F w mg fa _ Y G.T.g hmg
    exact law_callT KX G.T.g G.T.b G.T.builtins G.T.nolimit hg hobj hints (Nat.le_trans hlen hn2) lv hF hb (hM ns hlen)
end HT
set_option maxRecDepth 100000
set_option maxHeartbeats 800000
namespace HT
open PySem PySem.Spec L2
open PyProof.Rows hiding St
open PySem.SeqAt AutoSeq1 MeetsSeq MeetsSeq2 MeetsSeq3 SeqRoads2
section
variable {prog : Program} {w : World} {A : Around} {E : Value → Shared → Prop} {s : Shared} {K : PySem.W.Frag} {y C : Addr} {oy : Obj} {od : Option Obj} {Q : Value → Shared → Prop}
theorem own_isn (X : K.In s.heap) (I : PySem.W.InstAt s.heap y oy C od) {Tn : String} (h : PySem.W.subIn K (.ref C) (.type Tn) = some false) : PySem.W.Looks (model prog w) s.heap (isInstance (.ref y) (.type Tn)) false := I.type.andThen (PySem.W.looks_subIn X h)
abbrev DecQ (s : Shared) : Fin → Shared → Prop := fun f s' => f = .done (.ret .notImplemented) ∧ s' = s
theorem dec_none : wpAny (model prog w) A (Builtin.«NoneType.__eq__» ⟨[.none, .ref y], []⟩) (DecQ s) E s := by
  obtain ⟨hp, g, d, tk, os⟩ := s
  wp_walk
  exact ⟨rfl, rfl⟩
theorem dec_int {i : Int} {t : Tok} {dx : Addr} (hy : s.heap.get? y = some (PySem.W.instObj C dx)) : wpAny (model prog w) A (Builtin.«int.__eq__» ⟨[.int i t, .ref y], []⟩) (DecQ s) E s := by
  obtain ⟨hp, g, d, tk, os⟩ := s
  wp_walk using wpAny_load hy
  exact ⟨rfl, rfl⟩
theorem dec_bool {b : Bool} {dx : Addr} (hy : s.heap.get? y = some (PySem.W.instObj C dx)) : wpAny (model prog w) A (Builtin.«int.__eq__» ⟨[.bool b, .ref y], []⟩) (DecQ s) E s := by
  obtain ⟨hp, g, d, tk, os⟩ := s
  wp_walk using wpAny_load hy
  exact ⟨rfl, rfl⟩
theorem dec_str {x : Str} {t : Tok} {dx : Addr} (hy : s.heap.get? y = some (PySem.W.instObj C dx)) : wpAny (model prog w) A (Builtin.«str.__eq__» ⟨[.str x t, .ref y], []⟩) (DecQ s) E s := by
  obtain ⟨hp, g, d, tk, os⟩ := s
  wp_walk using wpAny_load hy
  exact ⟨rfl, rfl⟩
theorem dec_list {l : Addr} (hin : PySem.W.Looks (model prog w) s.heap (isInstance (.ref y) (.type "list")) false) : wpAny (model prog w) A (Builtin.«list.__eq__» ⟨[.ref l, .ref y], []⟩) (DecQ s) E s := by
  obtain ⟨hp, g, d, tk, os⟩ := s
  wp_walk using hin.at
  exact ⟨rfl, rfl⟩
theorem dec_tuple {l : Addr} (hin : PySem.W.Looks (model prog w) s.heap (isInstance (.ref y) (.type "tuple")) false) : wpAny (model prog w) A (Builtin.«tuple.__eq__» ⟨[.ref l, .ref y], []⟩) (DecQ s) E s := by
  obtain ⟨hp, g, d, tk, os⟩ := s
  wp_walk using hin.at
  exact ⟨rfl, rfl⟩
theorem dec_dict {l : Addr} (hin : PySem.W.Looks (model prog w) s.heap (isInstance (.ref y) (.type "dict")) false) : wpAny (model prog w) A (Builtin.«dict.__eq__» ⟨[.ref l, .ref y], []⟩) (DecQ s) E s := by
  obtain ⟨hp, g, d, tk, os⟩ := s
  wp_walk using hin.at
  exact ⟨rfl, rfl⟩
end
section
variable {prog : Program} {w : World} {A : Around} {E : Value → Shared → Prop} {s : Shared} {K : PySem.W.Frag} {y x C f : Addr} {oy ox : Obj} {od odx : Option Obj} {Q : Value → Shared → Prop}
theorem try_own (X : K.In s.heap) (I : PySem.W.InstAt s.heap y oy C od) (hs : PySem.W.findIn K (.ref C) "__eq__" = some (some (.ref f))) (hf : PySem.W.isFn K (.ref f) = true) {b : Value} {Q : Option Value → Shared → Prop}
    (h : wpAny (model prog w) A (call (.ref f) [.ref y, b]) (fun v s' => ∃ r, v = .bool r ∧ Q (some (.bool r)) s') E s) : wpAny (model prog w) A (tryCompare (.ref y) "__eq__" b) Q E s := by
  unfold tryCompare
  refine wpAny_bind (PySem.W.ifBound_K X I hs hf (wpAny_mono h (fun v s' hv => ?_) fun _ _ e => e))
  obtain ⟨r, rfl, q⟩ := hv
  exact wpAny_pure q
theorem rc_refl {a : Value} {Ta ida : String} {B : Builtin} (hu : A.units < cLine) (X : K.In s.heap) (I : PySem.W.InstAt s.heap y oy C od) (ha : s.TypeIs a Ta) (hsub : PySem.W.subIn K (.ref C) (.type Ta) = some false) (h1 : Slot Ta (cmpInfo .Eq).2.1 ida) (entry : entryFor table ida = some B) (args : argsOk ida ⟨[a, .ref y], []⟩)
    (hdec : wpAny (model prog w) A.in1 (B ⟨[a, .ref y], []⟩) (DecQ s) (fun e s' => E e s') s) (hs : PySem.W.findIn K (.ref C) "__eq__" = some (some (.ref f))) (hf : PySem.W.isFn K (.ref f) = true)
    (h : wpAny (model prog w) A (call (.ref f) [.ref y, a]) (fun v s' => ∃ r, v = .bool r ∧ Q (.bool r) s') E s) : wpAny (model prog w) A (richCompare .Eq a (.ref y)) Q E s := by
  rcases hi : cmpInfo CmpOp.Eq with ⟨sym, fn, rn⟩
  have e1 : fn = "__eq__" := by
    have := congrArg (fun z => z.2.1) hi
    exact this.symm
  have e2 : rn = "__eq__" := by
    have := congrArg (fun z => z.2.2) hi
    exact this.symm
  rw [hi] at h1
  simp only [richCompare, hi, ha.oneThing_none]
  refine wpAny_holding (wpAny_bind (wpAny_cRoomFor hu ?_))
  refine wpAny_bind (wpAny_typeOf ha (wpAny_bind (I.type.here ?_)))
  have hne : (Value.type Ta != Value.ref C) = true := rfl
  simp only [hne, if_true]
  refine wpAny_bind ((PySem.W.looks_subIn X hsub).here ?_)
  simp only [Bool.false_eq_true, if_false, Bool.not_false, if_true]
  refine wpAny_bind (m := tryCompare a _ (.ref y)) (wpAny_tryCompare_declines ha h1 (GQ.call_here h1 ha entry args (wpAny_mono hdec (fun fl s' q => ?_) fun _ _ e => e)))
  obtain ⟨rfl, rfl⟩ := q
  refine ⟨rfl, ?_⟩
  subst e2
  refine wpAny_bind (m := tryCompare (.ref y) _ a) (try_own X I hs hf (wpAny_mono h (fun v s' q => ?_) fun _ _ e => e))
  obtain ⟨r, rfl, q⟩ := q
  exact ⟨r, rfl, wpAny_pure q⟩
theorem rc_ne (hu : A.units + 1 < cLine) (X : K.In s.heap) (I : PySem.W.InstAt s.heap x ox C odx) {b tb : Value} (hb : PySem.W.Looks (model prog w) s.heap (typeOf b) tb) (hn : PySem.W.notFirst K C tb = true) (hne : PySem.W.findIn K (.ref C) "__ne__" = some (some (.builtin "object.__ne__"))) (hob : PySem.W.mroIn K C (.type "object") = some true)
    (hs : PySem.W.findIn K (.ref C) "__eq__" = some (some (.ref f))) (hf : PySem.W.isFn K (.ref f) = true) (h : wpAny (model prog w) A.in1 (call (.ref f) [.ref x, b]) (fun v s' => ∃ r, v = .bool r ∧ Q (.bool (!r)) s') E s) : wpAny (model prog w) A (richCompare .NotEq (.ref x) b) Q E s := by
  have one : wpAny (model prog w) A (tryCompare (.ref x) "__ne__" b) (fun r s' => ∃ v, r = some v ∧ Q v s') E s := by
    have SF := F.cmp_object.ne
    have sub : PySem.W.Looks (model prog w) s.heap (isInstance (.ref x) (.type "object")) true := I.type.andThen (PySem.W.looks_mroIn X hob)
    have run : wpAny (model prog w) A (call (.builtin "object.__ne__") [.ref x, b]) (fun v s' => ∃ r, v = .bool r ∧ Q (.bool r) s') E s := by
      refine wpAny_call (codeAny_call_builtin SF.plain F.cmpEntry_ne (PySem.W.check_slot F.cmpKind_ne F.cmpSplit_ne sub (F.cmpArgs_ne _ _) ?_))
      unfold Builtin.«object.__ne__»
      repeat (first
        | with_reducible refine wpAny_cRoomFor (show A.in1.units < cLine from hu) ?_
        | (refine wpAny_bind (m := callSpecialIfBound? (.ref x) (Str.ofString "__eq__") [b]) (PySem.W.ifBound_K X I hs hf (wpAny_mono h (fun v s' hv => ?_) fun _ _ e => e)))
        | wp_step)
      obtain ⟨r, rfl, q⟩ := hv
      repeat (first | exact ⟨_, rfl, q⟩ | exact wpAny_truthy_bool q | (refine wpAny_bind (m := truthy (.bool _)) (wpAny_truthy_bool ?_)) | wp_step)
    unfold tryCompare
    refine wpAny_bind ?_
    simp only [callSpecialIfBound?, bindSpecialIfBound?]
    refine wpAny_holding (wpAny_bind (wpAny_bind (wpAny_bind (I.type.here ((PySem.W.looks_findIn X hne).here ?_)))))
    refine wpAny_bind (wpAny_askSetting (wpAny_ite ?_))
    have fin : wpAny (model prog w) A (call (.builtin "object.__ne__") ([.ref x] ++ [b]) >>= fun v => pure (some v)) (fun a s' => wpAny (model prog w) A (match a with | some .notImplemented | none => pure none | some v => pure (some v)) (fun r s' => ∃ v, r = some v ∧ Q v s') E s') E s := wpAny_bind (wpAny_mono run (fun v s' h' => wpAny_pure (by
      obtain ⟨r, rfl, q⟩ := h'
      exact wpAny_pure ⟨_, rfl, q⟩)) fun _ _ h' => h')
    split
    · exact wpAny_bind (wpAny_of_eq (SF.bind (.ref x)) (wpAny_pure (by exact fin)))
    · exact wpAny_tryCatch (wpAny_bind (wpAny_of_eq (SF.bind (.ref x)) (wpAny_pure (by exact fin))))
  unfold richCompare
  simp only [oneThing_ref]
  refine wpAny_holding (wpAny_bind (wpAny_cRoomFor (Nat.lt_of_succ_lt hu) ?_))
  refine wpAny_bind (I.type.here (wpAny_bind (hb.here ?_)))
  split
  · rename_i q
    have e : PySem.W.subIn K tb (.ref C) = some false := by
      rcases Bool.or_eq_true_iff.mp hn with e | e
      · rw [beq_iff_eq.mp e] at q
        simp at q
      · exact beq_iff_eq.mp e
    refine wpAny_bind ((PySem.W.looks_subIn X e).here ?_)
    simp only [Bool.false_eq_true, if_false]
    refine wpAny_bind (wpAny_mono one (fun r s' z => ?_) fun _ _ e => e)
    obtain ⟨v, rfl, hq⟩ := z
    exact wpAny_pure hq
  · refine wpAny_bind (wpAny_pure ?_)
    simp only [Bool.false_eq_true, if_false]
    refine wpAny_bind (wpAny_mono one (fun r s' z => ?_) fun _ _ e => e)
    obtain ⟨v, rfl, hq⟩ := z
    exact wpAny_pure hq
end
end HT
set_option maxRecDepth 100000
set_option maxHeartbeats 800000
namespace HT
open PySem PySem.Spec L2
open PyProof.Rows hiding St
structure EqC (K : PySem.W.Frag) (C f : Addr) : Prop where
  hs : PySem.W.findIn K (.ref C) "__eq__" = some (some (.ref f))
  hf : PySem.W.isFn K (.ref f) = true
  ne : PySem.W.findIn K (.ref C) "__ne__" = some (some (.builtin "object.__ne__"))
  ob : PySem.W.mroIn K C (.type "object") = some true
  sub : ∀ n ∈ ["NoneType", "bool", "int", "str", "list", "tuple", "dict"], PySem.W.subIn K (.ref C) (.type n) = some false
  nf : ∀ n ∈ ["NoneType", "bool", "int", "str", "list", "tuple", "dict"], PySem.W.notFirst K C (.type n) = true
def Rn (T : Str → Addr) (K : PySem.W.Frag) (M : List D → Cm D) (vs : List V) (H : Hp) (Q : VK) : Prop := spT T K M vs H Q (fun _ _ _ => False)
inductive Side (K : PySem.W.Frag) (H : Hp) (C : Addr) : V → Prop where
  | b {x : V} {n : String} (h : TyX K H x (.type n)) (hn : n ∈ ["NoneType", "bool", "int", "str", "list", "tuple", "dict"]) : Side K H C x
  | own {a dx : Addr} {fs : List (Str × V)} (h : H a = some (.ins C dx fs)) : Side K H C (.ref a)
def rEqO (T : Str → Addr) (K : PySem.W.Frag) (C : Addr) (M : List D → Cm D) : R2 := fun x y H Q => ∃ a dx fs, x = .ref a ∧ H a = some (.ins C dx fs) ∧ Side K H C y ∧ Rn T K M [x, y] H (fun v H' => ∃ b, v = .bl b ∧ Q (.bl b) H')
def rNeO (T : Str → Addr) (K : PySem.W.Frag) (C : Addr) (M : List D → Cm D) : R2 := fun x y H Q => ∃ a dx fs, x = .ref a ∧ H a = some (.ins C dx fs) ∧ Side K H C y ∧ Rn T K M [x, y] H (fun v H' => ∃ b, v = .bl b ∧ Q (.bl (!b)) H')
def rEqR (T : Str → Addr) (K : PySem.W.Frag) (C : Addr) (M : List D → Cm D) : R2 := fun x y H Q => ∃ a dx fs n, y = .ref a ∧ H a = some (.ins C dx fs) ∧ TyX K H x (.type n) ∧ n ∈ ["NoneType", "bool", "int", "str", "list", "tuple", "dict"] ∧ Rn T K M [y, x] H (fun v H' => ∃ b, v = .bl b ∧ Q (.bl b) H')
section
variable {T : Str → Addr} {X : Cx} {C f : Addr} {fd : FuncData} {ps : List Str} {M : List D → Cm D} {k : Nat} {pins : List (Addr × Obj)} {σ : St} {H : Hp} {s : Shared}
theorem Lv.in1 {k : Nat} {A : Around} (r : Lv (k + 1) A) : Lv k A.in1 := ⟨r.room.in1, r.gd⟩
theorem run_eq {A : Around} {Q : VK} {us : List Value} {vs : List V} {R : Value → Shared → Prop} (F : FT X.prog X.w X.K X.mg X.base T k f fd ps M) (lv : Lv k A) (hb : Binds X.K fd ps []) (I : Inv X pins σ H s) (e0 : Env0 X.prog X.w X.K X.mg X.base A X.stack s H) (r : Vals vs us) (sp : Rn T X.K M vs H Q)
    (hR : ∀ u s', EP X pins σ Q u s' → R u s') : wpAny (model X.prog X.w) A (call (.ref f) us) R X.xe s := by
  have hl : vs.length = ps.length := Classical.byContradiction fun hne => by
    obtain ⟨ρ, S, Z, ds, w, r2, g⟩ := sp
    rw [F.len ds S (by rw [r2.len]; exact hne)] at g
    exact g
  have hb2 := hb s us I.kIn (by rw [List.append_nil, ← r.length]; exact hl)
  rw [List.append_nil] at hb2
  refine wpAny_call (codeAny_mono (F.run A X.stack s H ⟨us, []⟩ us vs Q (fun _ _ _ => False) lv e0 hb2 r hl sp) fun rr s' hq => ?_)
  cases rr with
  | error e =>
    obtain ⟨_, _, _, _, _, _, _, _, _, _, _, _, z⟩ := hq
    exact z.elim
  | ok fl =>
    cases fl with
    | ret u => exact hR u s' (I.after hq)
    | next => exact False.elim hq
    | brk => exact False.elim hq
    | cont => exact False.elim hq
theorem side_ty (ec : EqC X.K C f) (I : Inv X pins σ H s) {x : V} {u : Value} (r : RelV x u) (h : Side X.K H C x) : ∃ t, PySem.W.Looks (model X.prog X.w) s.heap (typeOf u) t ∧ PySem.W.notFirst X.K C t = true := by
  cases h with
  | b ty hn =>
    obtain ⟨P, Z, p, _⟩ := kit_of I r ty
    exact ⟨_, Z.ty _ _ I.kIn p, ec.nf _ hn⟩
  | own h =>
    obtain ⟨mA, O, _⟩ := ins_get I.hok h
    obtain ⟨od, J, _⟩ := O.look
    cases r
    exact ⟨_, J.type, by simp [PySem.W.notFirst]⟩
theorem op_eqO (ec : EqC X.K C f) (F : FT X.prog X.w X.K X.mg X.base T k f fd ps M) (lv : Lv k X.A) (hb : Binds X.K fd ps []) : OpR X (compareOp .Eq) (rEqO T X.K C M) := by
  intro pins s σ H x y v u Q I rx ry h
  obtain ⟨a, dx, fs, rfl, ha, sd, sp⟩ := h
  cases rx
  obtain ⟨mA, O, _⟩ := ins_get I.hok ha
  obtain ⟨od, J, _⟩ := O.look
  obtain ⟨m, hF⟩ := I.fr
  obtain ⟨t, Lt, nf⟩ := side_ty ec I ry sd
  refine PySem.W.cmp_K (op := .Eq) lv.room.units0 hF I.ok.mod.kin J Lt nf ec.hs ec.hf ?_
  refine run_eq F lv hb I I.env0 (.cons (show RelV (.ref a) (.ref a) from rfl) (.cons ry .nil)) sp fun w s' hw => ?_
  obtain ⟨z, H', I', rz, b, rfl, q⟩ := hw
  cases rz
  exact ⟨.bl b, H', I', rfl, q⟩
theorem op_neO (ec : EqC X.K C f) (F : FT X.prog X.w X.K X.mg X.base T k f fd ps M) (lv : Lv (k + 1) X.A) (hb : Binds X.K fd ps []) : OpR X (compareOp .NotEq) (rNeO T X.K C M) := by
  intro pins s σ H x y v u Q I rx ry h
  obtain ⟨a, dx, fs, rfl, ha, sd, sp⟩ := h
  cases rx
  obtain ⟨mA, O, _⟩ := ins_get I.hok ha
  obtain ⟨od, J, _⟩ := O.look
  obtain ⟨t, Lt, nf⟩ := side_ty ec I ry sd
  refine rc_ne (by have := lv.room.un; omega) I.kIn J Lt nf ec.ne ec.ob ec.hs ec.hf ?_
  refine run_eq F lv.in1 hb I I.env0.in1 (.cons (show RelV (.ref a) (.ref a) from rfl) (.cons ry .nil)) sp fun w s' hw => ?_
  obtain ⟨z, H', I', rz, b, rfl, q⟩ := hw
  cases rz
  exact ⟨b, rfl, .bl (!b), H', I', rfl, q⟩
theorem ty_is (I : Inv X pins σ H s) {x : V} {u : Value} {n : String} (r : RelV x u) (ty : TyX X.K H x (.type n)) : s.TypeIs u n := by
  obtain ⟨P, Z, p, _⟩ := kit_of I r ty
  generalize ht : Value.type n = t at ty
  cases ty with
  | base b =>
    cases b with
    | non =>
      cases ht
      have e : u = .none := r
      subst e
      exact (rfl : typeOf _ = _)
    | bl y =>
      cases ht
      have e : u = .bool y := r
      subst e
      exact (rfl : typeOf _ = _)
    | int i =>
      cases ht
      obtain ⟨t, rfl⟩ := r
      exact typeIs_int s i t
    | str i =>
      cases ht
      obtain ⟨t, rfl⟩ := r
      exact typeIs_str s i t
    | flt i =>
      cases ht
      obtain ⟨t, rfl⟩ := r
      exact (rfl : typeOf _ = _)
    | @lst a xs e =>
      cases ht
      cases r
      obtain ⟨_, _, n, _, h1⟩ := (show ObjOk X.prog X.w H s.heap a (.lst xs) from I.hok a _ e)
      exact ⟨_, h1, rfl⟩
    | @frz a ob xs e =>
      cases ht
      cases r
      obtain ⟨_, _, _, n, _, h1⟩ := (show ObjOk X.prog X.w H s.heap a (.frz ob (.lst xs)) from I.hok a _ e)
      exact ⟨_, h1, rfl⟩
    | @tup a xs e =>
      cases ht
      cases r
      obtain ⟨_, _, _, o, h1, h2, _⟩ := (show ObjOk X.prog X.w H s.heap a (.tup xs) from I.hok a _ e)
      exact ⟨o, h1, h2⟩
    | @dK a kvs e =>
      cases ht
      cases r
      obtain ⟨_, _, vs, _, o, es, ep, h1, h2, _⟩ := (show ObjOk X.prog X.w H s.heap a (.dK kvs) from I.hok a _ e)
      exact ⟨o, h1, h2.1⟩
    | @dT a kvs e =>
      cases ht
      cases r
      obtain ⟨_, _, xs, _, o, es, ep, h1, h2, _⟩ := (show ObjOk X.prog X.w H s.heap a (.dT kvs) from I.hok a _ e)
      exact ⟨o, h1, h2.1⟩
    | ins e cl ha hn htk hm => cases ht
  | byt b =>
    cases ht
    obtain ⟨t, rfl⟩ := r
    exact (rfl : typeOf _ = _)
  | @set a S m e =>
    cases ht
    cases r
    obtain ⟨o, _, _, _, h1, ex, _⟩ := I.hok a _ e
    exact ⟨o, h1, ex.1⟩
  | @kList a o e c =>
    cases ht
    cases r
    exact ⟨o, I.kIn a o e, c⟩
  | @kTuple a o e c =>
    cases ht
    cases r
    exact ⟨o, I.kIn a o e, c⟩
  | @kDict a o e c =>
    cases ht
    cases r
    exact ⟨o, I.kIn a o e, c⟩
  | @fTuple a ob xs e =>
    cases ht
    cases r
    obtain ⟨_, _, _, _, o, h1, h2, _⟩ := (show ObjOk X.prog X.w H s.heap a (.frz ob (.tup xs)) from I.hok a _ e)
    exact ⟨o, h1, h2⟩
  | @fDict a ob kvs e =>
    cases ht
    cases r
    obtain ⟨_, _, _, vs, _, o, es, ep, h1, h2, _⟩ := (show ObjOk X.prog X.w H s.heap a (.frz ob (.dK kvs)) from I.hok a _ e)
    exact ⟨o, h1, h2.1⟩
end
end HT
set_option maxRecDepth 100000
set_option maxHeartbeats 800000
namespace HT
open PySem PySem.Spec L2
open PyProof.Rows hiding St
section
variable {T : Str → Addr} {X : Cx} {C f : Addr} {fd : FuncData} {ps : List Str} {M : List D → Cm D} {k : Nat}
theorem tyRef {K : PySem.W.Frag} {H : Hp} {a : Addr} {n : String} (h : TyX K H (.ref a) (.type n)) (hn : n ∈ ["NoneType", "bool", "int", "str", "list", "tuple", "dict"]) : n = "list" ∨ n = "tuple" ∨ n = "dict" := by
  generalize ht : Value.type n = t at h
  generalize hv : V.ref a = v at h
  cases h with
  | base b =>
    cases b with
    | non => cases hv
    | bl y => cases hv
    | int i => cases hv
    | str i => cases hv
    | flt i => cases hv
    | lst e =>
      cases ht
      exact .inl rfl
    | frz e =>
      cases ht
      exact .inl rfl
    | tup e =>
      cases ht
      exact .inr (.inl rfl)
    | dK e =>
      cases ht
      exact .inr (.inr rfl)
    | dT e =>
      cases ht
      exact .inr (.inr rfl)
    | ins e cl ha hn htk hm => cases ht
  | byt b => cases hv
  | set e =>
    cases ht
    simp at hn
  | kList e c =>
    cases ht
    exact .inl rfl
  | kTuple e c =>
    cases ht
    exact .inr (.inl rfl)
  | kDict e c =>
    cases ht
    exact .inr (.inr rfl)
  | fTuple e =>
    cases ht
    exact .inr (.inl rfl)
  | fDict e =>
    cases ht
    exact .inr (.inr rfl)
theorem op_eqR (ec : EqC X.K C f) (G0 : FT X.prog X.w X.K X.mg X.base T k f fd ps M) (lv : Lv k X.A) (hb : Binds X.K fd ps []) : OpR X (compareOp .Eq) (rEqR T X.K C M) := by
  intro pins s σ H x y v u Q I rx ry h
  obtain ⟨a, dx, fs, n, rfl, ha, ty, hn, sp⟩ := h
  cases ry
  obtain ⟨mA, O, _⟩ := ins_get I.hok ha
  obtain ⟨od, J, _⟩ := O.look
  have hu := lv.room.units0
  have X0 := I.kIn
  have hget : s.heap.get? a = some (PySem.W.instObj C dx) := J.at_
  have go : wpAny (model X.prog X.w) X.A (call (.ref f) [.ref a, v]) (fun w s' => ∃ r, w = .bool r ∧ EP X pins σ Q (.bool r) s') X.xe s := by
    refine run_eq G0 lv hb I I.env0 (.cons (show RelV (.ref a) (.ref a) from rfl) (.cons rx .nil)) sp fun w s' hw => ?_
    obtain ⟨z, H', I', rz, b, rfl, q⟩ := hw
    cases rz
    exact ⟨b, rfl, .bl b, H', I', rfl, q⟩
  have hT := ty_is I rx ty
  have sub := ec.sub n hn
  have isn : PySem.W.Looks (model X.prog X.w) s.heap (isInstance (.ref a) (.type n)) false := own_isn X0 J sub
  cases x with
  | non =>
    cases ty with
    | base b =>
      cases b
      have e : v = .none := rx
      subst e
      exact rc_refl hu X0 J hT sub F.slot_NoneType_eq F.entry_NoneType_eq (F.args_NoneType_eq_2 _ _) dec_none ec.hs ec.hf go
  | bl y =>
    cases ty with
    | base b =>
      cases b
      have e : v = .bool y := rx
      subst e
      exact rc_refl hu X0 J hT sub F.slot_bool_eq F.entry_int_eq (F.args_int_eq_2 _ _) (dec_bool hget) ec.hs ec.hf go
  | int i =>
    cases ty with
    | base b =>
      cases b
      obtain ⟨t, rfl⟩ := rx
      exact rc_refl hu X0 J hT sub F.slot_int_eq F.entry_int_eq (F.args_int_eq_2 _ _) (dec_int hget) ec.hs ec.hf go
  | str i =>
    cases ty with
    | base b =>
      cases b
      obtain ⟨t, rfl⟩ := rx
      exact rc_refl hu X0 J hT sub F.slot_str_eq F.entry_str_eq (F.args_str_eq_2 _ _) (dec_str hget) ec.hs ec.hf go
  | ref p =>
    cases rx
    rcases tyRef ty hn with rfl | rfl | rfl
    · exact rc_refl hu X0 J hT sub F.slot_list_eq F.entry_list_eq (F.args_list_eq_2 _ _) (dec_list isn) ec.hs ec.hf go
    · exact rc_refl hu X0 J hT sub F.slot_tuple_eq F.entry_tuple_eq (F.args_tuple_eq_2 _ _) (dec_tuple isn) ec.hs ec.hf go
    · exact rc_refl hu X0 J hT sub F.slot_dict_eq F.entry_dict_eq (F.args_dict_eq_2 _ _) (dec_dict isn) ec.hs ec.hf go
  | byt b =>
    cases ty with
    | base b => cases b
    | byt b => simp at hn
  | flt b =>
    cases ty with
    | base b =>
      cases b
      simp at hn
  | ty m =>
    cases ty with
    | base b => cases b
def bTy (S : Sto) (d : D) : Option String := match tyD S d with
  | some (.b n) => some n
  | _ => none
theorem bTy_ok {K : PySem.W.Frag} {ρ : Nat → Option Addr} {Z : Hid} {H : Hp} {S : Sto} (w : Wd T K ρ S Z H) {d : D} {v : V} {n : String} (r : Rep T K ρ (Fz ρ Z H) d v) (h : bTy S d = some n) : TyX K H v (.type n) ∧ n ∈ ["NoneType", "bool", "int", "str", "list", "tuple", "dict"] := by
  unfold bTy at h
  cases d with
  | non =>
    cases h
    cases r
    exact ⟨.base .non, by decide⟩
  | bl b =>
    cases h
    cases r
    exact ⟨.base (.bl _), by decide⟩
  | int i =>
    cases h
    cases r
    exact ⟨.base (.int _), by decide⟩
  | str x =>
    cases h
    cases r
    exact ⟨.base (.str _), by decide⟩
  | lst ds =>
    cases h
    obtain ⟨a, vs, rfl, q, _⟩ := r
    exact ⟨.base (.lst (Fz_sub _ _ q)), by decide⟩
  | klst ds =>
    cases h
    obtain ⟨a, vs, rfl, q, _⟩ := r
    exact ⟨seqL_ty (Fz_sub.seqL q), by decide⟩
  | tup ds =>
    cases h
    obtain ⟨a, vs, rfl, q, _⟩ := r
    exact ⟨seqT_ty (Fz_sub.seqT q), by decide⟩
  | dK ds =>
    cases h
    obtain ⟨a, vs, rfl, q, _⟩ := r
    exact ⟨.base (.dK (Fz_sub _ _ q)), by decide⟩
  | dT ds =>
    cases h
    obtain ⟨a, vs, rfl, q, _⟩ := r
    exact ⟨.base (.dT (Fz_sub _ _ q)), by decide⟩
  | obj C fs => cases h
  | exn C fs => cases h
  | glob x => cases h
  | ty n => cases h
  | cell k =>
    obtain ⟨a, rfl, q⟩ := r
    cases hk : S[k]? with
    | none =>
      have h2 : (match (match S[k]? with | some (.lst _) => some (Ty.b "list") | some (.dK _) => some (.b "dict") | some (.dT _) => some (.b "dict") | some (.ins C _) => some (.own C) | none => none) with | some (.b n) => some n | _ => none) = some n := h
      rw [hk] at h2
      cases h2
    | some co =>
      have h2 : (match (match S[k]? with | some (.lst _) => some (Ty.b "list") | some (.dK _) => some (.b "dict") | some (.dT _) => some (.b "dict") | some (.ins C _) => some (.own C) | none => none) with | some (.b n) => some n | _ => none) = some n := h
      rw [hk] at h2
      obtain ⟨a', o, h1, _, h3, h4⟩ := w.cells k co hk
      rw [q] at h1
      cases h1
      cases co with
      | lst ds =>
        cases h2
        obtain ⟨vs, rfl, _⟩ := h4
        exact ⟨.base (.lst h3), by decide⟩
      | dK ds =>
        cases h2
        obtain ⟨vs, rfl, _⟩ := h4
        exact ⟨.base (.dK h3), by decide⟩
      | dT ds =>
        cases h2
        obtain ⟨vs, rfl, _⟩ := h4
        exact ⟨.base (.dT h3), by decide⟩
      | ins C fs => cases h2
def isOb (C : Str) (S : Sto) (d : D) : Bool := match asCO S d with
  | some (.ins C' _) => C' == C
  | _ => false
theorem isOb_ok {K : PySem.W.Frag} {ρ : Nat → Option Addr} {Z : Hid} {H : Hp} {S : Sto} {Cn : Str} (w : Wd T K ρ S Z H) {d : D} {v : V} (r : Rep T K ρ (Fz ρ Z H) d v) (h : isOb Cn S d = true) : ∃ a dx fs, v = .ref a ∧ H a = some (.ins (T Cn) dx fs) := by
  unfold isOb at h
  cases hc : asCO S d with
  | none =>
    rw [hc] at h
    cases h
  | some c =>
    rw [hc] at h
    obtain ⟨a, o, rfl, h1, h2⟩ := asCO_ok w r hc
    cases c with
    | ins C' fs =>
      have e : C' = Cn := eq_of_beq h
      subst e
      obtain ⟨dx, vs, rfl, _⟩ := h2
      exact ⟨a, dx, vs, rfl, h1⟩
    | _ => cases h
def boolR (neg : Bool) (r : R D) : R D := match r with
  | .ok (.bl b) S => .ok (.bl (neg ^^ b)) S
  | _ => .stuck
def gEqO (neg : Bool) (C : Str) (M : List D → Cm D) (x y : D) : Cm D := fun S =>
  if isOb C S x = true then (if isOb C S y = true ∨ (bTy S y).isSome = true then boolR neg (M [x, y] S) else .stuck)
  else if isOb C S y = true then (if neg = false ∧ (bTy S x).isSome = true then boolR neg (M [y, x] S) else .stuck)
  else gEq neg x y S
theorem rn_of {W : WX} {σ : St} {ρ : Nat → Option Addr} {S : Sto} {Z : Hid} {H : Hp} {x y : D} {v u : V} {Q : VK} {neg : Bool} (w : Wd T X.K ρ S Z H) (r1 : Rep T X.K ρ (Fz ρ Z H) x v) (r2 : Rep T X.K ρ (Fz ρ Z H) y u) (g : Good T X.K (rD T X.K) W σ Q ρ Z H (boolR neg (M [x, y] S))) :
    Rn T X.K M [v, u] H (fun z H' => ∃ b, z = .bl b ∧ Q (.bl (neg ^^ b)) H') := by
  refine ⟨ρ, S, Z, [x, y], w, RepL.cons r1 (RepL.one r2), ?_⟩
  cases hM : M [x, y] S with
  | stuck =>
    rw [hM] at g
    exact g
  | exc C fs S' =>
    rw [hM] at g
    exact g.elim
  | ok d S' =>
    rw [hM] at g
    cases d with
    | bl b => exact fun z H' ρ' e w' q => ⟨b, q, g _ H' ρ' e w' rfl⟩
    | _ => exact g.elim
theorem op2_eqO {Cn : Str} (hu : X.A.units + 64 < cLine) (ec : EqC X.K (T Cn) f) (G0 : FT X.prog X.w X.K X.mg X.base T k f fd ps M) (lv : Lv k X.A) (hb : Binds X.K fd ps []) :
    OpR X (compareOp .Eq) (fun x y H Q => rEqO T X.K (T Cn) M x y H Q ∨ (fun x y H Q => rEqR T X.K (T Cn) M x y H Q ∨ rEqD X.K x y H Q) x y H Q) := OpR.or (op_eqO ec G0 lv hb) (OpR.or (op_eqR ec G0 lv hb) (op_eqD hu))
theorem ok_gEqO {Cn : Str} : Op2 T X (fun x y H Q => rEqO T X.K (T Cn) M x y H Q ∨ (fun x y H Q => rEqR T X.K (T Cn) M x y H Q ∨ rEqD X.K x y H Q) x y H Q) (gEqO false Cn M) := by
  intro W σ ρ S Z H x y v u Q w r1 r2 g
  unfold gEqO at g
  split at g
  · rename_i hx
    split at g
    · rename_i hy
      obtain ⟨a, dx, fs, rfl, ha⟩ := isOb_ok w r1 hx
      have rn := rn_of (neg := false) w r1 r2 g
      simp only [Bool.false_xor] at rn
      refine .inl ⟨a, dx, fs, rfl, ha, ?_, rn⟩
      rcases hy with hy | hy
      · obtain ⟨b, dy, gs, rfl, hb⟩ := isOb_ok w r2 hy
        exact .own hb
      · obtain ⟨n, hn⟩ := Option.isSome_iff_exists.mp hy
        obtain ⟨q1, q2⟩ := bTy_ok w r2 hn
        exact .b q1 q2
    · exact g.elim
  · split at g
    · rename_i hy
      split at g
      · rename_i hc
        obtain ⟨a, dx, fs, rfl, ha⟩ := isOb_ok w r2 hy
        have rn := rn_of (neg := false) w r2 r1 g
        simp only [Bool.false_xor] at rn
        obtain ⟨n, hn⟩ := Option.isSome_iff_exists.mp hc.2
        obtain ⟨q1, q2⟩ := bTy_ok w r1 hn
        exact .inr (.inl ⟨a, dx, fs, n, rfl, ha, q1, q2, rn⟩)
      · exact g.elim
    · exact .inr (.inr (ok_gEq W σ ρ S Z H x y v u Q w r1 r2 g))
theorem op2_neO {Cn : Str} (hu : X.A.units + 64 < cLine) (ec : EqC X.K (T Cn) f) (G0 : FT X.prog X.w X.K X.mg X.base T k f fd ps M) (lv : Lv (k + 1) X.A) (hb : Binds X.K fd ps []) :
    OpR X (compareOp .NotEq) (fun x y H Q => rNeO T X.K (T Cn) M x y H Q ∨ rNeD X.K x y H Q) := OpR.or (op_neO ec G0 lv hb) (op_neD hu)
theorem ok_gNeO {Cn : Str} : Op2 T X (fun x y H Q => rNeO T X.K (T Cn) M x y H Q ∨ rNeD X.K x y H Q) (gEqO true Cn M) := by
  intro W σ ρ S Z H x y v u Q w r1 r2 g
  unfold gEqO at g
  split at g
  · rename_i hx
    split at g
    · rename_i hy
      obtain ⟨a, dx, fs, rfl, ha⟩ := isOb_ok w r1 hx
      have rn := rn_of (neg := true) w r1 r2 g
      simp only [Bool.true_xor] at rn
      refine .inl ⟨a, dx, fs, rfl, ha, ?_, rn⟩
      rcases hy with hy | hy
      · obtain ⟨b, dy, gs, rfl, hb⟩ := isOb_ok w r2 hy
        exact .own hb
      · obtain ⟨n, hn⟩ := Option.isSome_iff_exists.mp hy
        obtain ⟨q1, q2⟩ := bTy_ok w r2 hn
        exact .b q1 q2
    · exact g.elim
  · split at g
    · rename_i hy
      split at g
      · rename_i hc
        cases hc.1
      · exact g.elim
    · exact .inr (ok_gNe W σ ρ S Z H x y v u Q w r1 r2 g)
end
end HT
set_option maxRecDepth 100000
set_option maxHeartbeats 800000
namespace HT
open PySem PySem.Spec L2
open PyProof.Rows hiding St
section
variable {T : Str → Addr} {X : Cx} {k : Nat}
theorem of_dict0 {W : WX} {pos : Pos} : OF T X W (.Dict [] [] pos) (fun _ S => .ok (.dK []) S) := pe_imp pe_dnewK fun σ H Q q => by
  obtain ⟨ρ, S, Z, env, w, er, g⟩ := q
  exact fun p hp => g p _ ρ (new_neu w hp ⟨[], rfl, rfl⟩)
def gInt : D → Cm D
  | .int i => pure (.int i)
  | .bl b => pure (.int (if b then 1 else 0))
  | _ => stk
theorem ok_gInt : OpN T X (fun xs H Q => (∃ i, xs = [.int i] ∧ Q (.int i) H) ∨ ∃ k, xs = [.bl k] ∧ Q (.int (if k then 1 else 0)) H) (a1 gInt) := opN1 fun W σ ρ S Z H x v Q w r g => by
  cases x with
  | int i =>
    cases r
    exact .inl ⟨i, rfl, g.now w rfl⟩
  | bl b =>
    cases r
    exact .inr ⟨_, rfl, g.now w rfl⟩
  | _ => exact g.elim
def gMax (x y : D) : Cm D := match x, y with
  | .int i, .int j => pure (.int (if j > i then j else i))
  | _, _ => stk
theorem ok_gMax : OpN T X (fun xs H Q => ∃ i j, xs = [.int i, .int j] ∧ Q (.int (if j > i then j else i)) H) (a2 gMax) := opN2 fun W σ ρ S Z H x y v u Q w r1 r2 g => by
  cases x with
  | int i =>
    cases y with
    | int j =>
      cases r1
      cases r2
      exact ⟨i, j, rfl, g.now w rfl⟩
    | _ => exact g.elim
  | _ => exact g.elim
def gBits : D → Cm D
  | .int i => pure (.int (Builtin.Int.intBits i : Nat))
  | _ => stk
theorem pf_bits {W : WX} {o : Expr} {Fo : FE} {apos pos : Pos} (ho : PF T X W o Fo) (hbase : attributeBase o "bit_length" X.env (eval o X.env) = eval o X.env := by rfl) (hline : (apos.endLine == pos.line) = true := by rfl) : PF T X W (.Call (.Attribute o "bit_length" apos) [] [] pos) (f1 gBits Fo) :=
  pe_imp (pe_bits ho hbase hline) fun σ H Q q => lift1 (r := fun x H1 => ∃ i, x = .int i ∧ Q (.int (Builtin.Int.intBits i : Nat)) H1) q fun ρ S Z H x v w r g => by
    cases x with
    | int i => exact ⟨i, r, g _ H ρ .refl w rfl⟩
    | _ => exact g.elim
end
end HT
set_option maxRecDepth 100000
set_option maxHeartbeats 800000
namespace HT
open PySem PySem.Spec L2
open PyProof.Rows hiding St
section
variable {P : Program} {w : World} {K : PySem.W.Frag} {mg : Str → Option Value} {base : Heap} {N : List Str} {qual : Str} {scope : Scope} {f : Addr} {cdv : Value} {A : Around} {outer : List PySem.Env} {s : Shared} {H : Hp} {E : XK}
theorem ctx_takes : Takes (ctx P w K mg base N qual scope f cdv A outer s H E) (fun c d _ H' => E c d H') := takes_of rfl rfl rfl rfl
theorem ctx_po : PassesOwn (model P w) (ctx P w K mg base N qual scope f cdv A outer s H E).A (ctx P w K mg base N qual scope f cdv A outer s H E).env (ctx P w K mg base N qual scope f cdv A outer s H E).xe := passes_of (X := ctx P w K mg base N qual scope f cdv A outer s H E) rfl
end
theorem Lv.u65 {k : Nat} {A : Around} (lv : Lv k A) : A.units + 65 < cLine := by
  have := lv.room.un
  omega
end HT
set_option maxRecDepth 100000
set_option maxHeartbeats 800000
namespace HT
open PySem PySem.Spec L2
open PyProof.Rows hiding St
open He (ga ma fAd eqO eqO_ok ba)
section
variable {K : PySem.W.Frag} {C : Addr}
def ty7 : List String := ["NoneType", "bool", "int", "str", "list", "tuple", "dict"]
def eqB (K : PySem.W.Frag) (C : Addr) : Bool := eqO (PySem.W.findIn K (.ref C) "__eq__") (some (some (.ref (ma K C "__eq__")))) && (PySem.W.isFn K (.ref (ma K C "__eq__")) && (eqO (PySem.W.findIn K (.ref C) "__ne__") (some (some (.builtin "object.__ne__"))) &&
  (decide (PySem.W.mroIn K C (.type "object") = some true) && (ty7.all (fun n => decide (PySem.W.subIn K (.ref C) (.type n) = some false)) && ty7.all fun n => PySem.W.notFirst K C (.type n)))))
theorem eqB_ok (h : eqB K C = true) : EqC K C (ma K C "__eq__") := by
  obtain ⟨h1, h⟩ := ba h
  obtain ⟨h2, h⟩ := ba h
  obtain ⟨h3, h⟩ := ba h
  obtain ⟨h4, h⟩ := ba h
  obtain ⟨h5, h6⟩ := ba h
  exact ⟨eqO_ok h1, h2, eqO_ok h3, of_decide_eq_true h4, fun n hn => of_decide_eq_true (List.all_eq_true.mp h5 n hn), fun n hn => List.all_eq_true.mp h6 n hn⟩
def clsB (K : PySem.W.Frag) (C : Addr) : Bool := PySem.W.plainGet K C Str.empty && (PySem.W.hasDictIn K C && (PySem.W.plainOver K C && eqO (PySem.W.findIn K (.ref C) "__setattr__") (some (some (.builtin "object.__setattr__")))))
theorem clsB_ok (h : clsB K C = true) : Cls K C := by
  obtain ⟨h1, h⟩ := ba h
  obtain ⟨h2, h⟩ := ba h
  obtain ⟨h3, h4⟩ := ba h
  exact ⟨h1, h2, h3, eqO_ok h4⟩
def clB (K : PySem.W.Frag) (C : Addr) : Bool := eqO (PySem.W.findIn K (.ref C) "__class__") (some (some (.builtin "object.__class__"))) && (decide (PySem.W.specialIn K (.builtin "object.__class__") "__get__" = some (some (.builtin "getset_descriptor.__get__"))) &&
  (decide (PySem.W.takesIn K (.builtin "object.__class__") = some true) && decide (PySem.W.mroIn K C (.type "object") = some true)))
def obB (K : PySem.W.Frag) (C : Addr) : Bool := clsB K C && clB K C
theorem obB_ok (h : obB K C = true) : ObC K C := by
  obtain ⟨h0, h⟩ := ba h
  obtain ⟨h1, h⟩ := ba h
  obtain ⟨h2, h⟩ := ba h
  obtain ⟨h3, h4⟩ := ba h
  exact ⟨clsB_ok h0, eqO_ok h1, of_decide_eq_true h2, of_decide_eq_true h3, of_decide_eq_true h4⟩
def oexB (K : PySem.W.Frag) (C : Addr) : Bool := match K.lookup C with
  | some ⟨.type "type", _, .cls cd, sl⟩ => (match cd.mro, sl.toList with
    | .ref C' :: bm, [_, _, _, _, some (.builtin n), _] => C' == C && (n == "ValueError.__new__" && (!cd.hasDel && (cd.hasDict && PySem.HandSPX.refsVE bm)))
    | _, _ => false)
  | _ => false
theorem oexB_ok (h : oexB K C = true) : ∃ nm q N bs bm sn sub ab col dd k0 k1 k2 k3 k5, K.lookup C = some (excClassObj nm q C N bs bm true sn sub ab col dd k0 k1 k2 k3 k5 "ValueError.__new__") ∧ PySem.HandSPX.refsVE bm = true := by
  unfold oexB at h
  split at h
  · rename_i dd cd sl ho
    split at h
    · rename_i C' bm k0 k1 k2 k3 n k5 hm hs
      obtain ⟨h1, h⟩ := ba h
      obtain ⟨h2, h⟩ := ba h
      obtain ⟨h3, h⟩ := ba h
      obtain ⟨h4, h5⟩ := ba h
      have e1 : C' = C := eq_of_beq h1
      have e2 : n = "ValueError.__new__" := eq_of_beq h2
      subst e1 e2
      obtain ⟨nm, bs, mro, ns, qn, hd, sn, sub, ab, col, hdel⟩ := cd
      dsimp only at hm h3 h4
      subst hm h4
      have e3 : hdel = false := by simpa using h3
      subst e3
      have hsl : sl = #[k0, k1, k2, k3, some (.builtin "ValueError.__new__"), k5] := by
        obtain ⟨l⟩ := sl
        simp only at hs
        rw [hs]
      subst hsl
      exact ⟨nm, qn, ns, bs, bm, sn, sub, ab, col, dd, k0, k1, k2, k3, k5, ho, h5⟩
    · cases h
  · cases h
abbrev ExW : Type := Option (Str × Str × Arguments × FuncBody × Scope × Addr × Addr)
def exW (K : PySem.W.Frag) (c : Str) : ExW := match K.lookup (ma K (ga K c) "__init__") with
  | some ⟨_, _, .func fd, _⟩ => some (fd.name, fd.qualname, fd.params, fd.body, fd.scope, fd.globals, fd.builtins)
  | _ => none
def exCl (P : Program) (K : PySem.W.Frag) (C : Addr) : Bool := match K.lookup (ma K C "__init__") with
  | some ⟨_, _, .func fd, _⟩ => (match fd.closure, fd.code with
    | [(n, cc)], .ref cda => n == ("__class__" : Str) && (He.dflB K fd.defaults [V.non] && (PySem.W.codeIn K (.ref cda) fd.qualname && ((match K.lookup cc with
        | some ⟨_, _, .cell (some (.ref D)), _⟩ => D == C
        | _ => false) && (match K.lookup cda with
        | some ⟨_, _, .fields vs, _⟩ => (match vs[2]? with
          | some (Value.str file _) => ((P.main.file : Str) == file)
          | _ => false)
        | _ => false))))
    | _, _ => false)
  | _ => false
def exB (P : Program) (K : PySem.W.Frag) (c f : Str) : Bool := oexB K (ga K c) && (eqO (PySem.W.findIn K (.ref (ga K c)) "__setattr__") (some (some (.builtin "object.__setattr__"))) && (decide (PySem.W.subIn K (.ref (ga K c)) (.type "BaseException") = some true) &&
  (decide (PySem.W.typeIn K (.ref (ga K c)) = some (.type "type")) && (PySem.W.keepIn K (.ref (ga K c)) && (eqO (PySem.W.findIn K (.ref (ga K c)) f) (some none) && (decide (PySem.W.subIn K (.ref (ga K c)) (.type "ValueError") = some true) &&
  (eqO (PySem.W.ks_superIn K (ga K c) (ga K c) "__init__") (some (some (.builtin "ValueError.__init__"))) && (decide (PySem.W.mroIn K (ga K c) (.ref (ga K c)) = some true) && (eqO (PySem.W.nsIn K cStatics "thirdparty.any") (some none) &&
  (eqO (PySem.W.findIn K (.ref (ga K c)) "__init__") (some (some (.ref (ma K (ga K c) "__init__")))) && (decide (PySem.W.typeIn K (.ref (ma K (ga K c) "__init__")) = some (.type "function")) && exCl P K (ga K c))))))))))))
theorem exB_ok {P : Program} {c f qual : Str} {params : Arguments} {p0 p1 p2 p3 p4 p5 p6 p7 p8 p9 : Pos} {scope : Scope} (h : exB P K c f = true) (hw : exW K c = some (("__init__" : Str), qual, params, FuncBody.stmts (exBody f p0 p1 p2 p3 p4 p5 p6 p7 p8 p9), scope, mainGlobals, builtinsNs))
    (tp : (P.main.scope.names.lookup ("super" : Str)).isSome = false) (har : ∃ ar, (params.posonlyargs ++ params.args).head? = some ar ∧ ar.arg = "self")
    (s1 : scope.names.lookup ("super" : Str) = some .globalImplicit) (s2 : scope.names.lookup ("__class__" : Str) = some .free) (s3 : scope.names.lookup ("self" : Str) = some .local) (s4 : scope.names.lookup f = some .local) (s5 : scope.kind = .function)
    (s6 : ∀ x ∈ scope.names, x.2 ≠ .cell) (s7 : scope.isCoroutine = false) (s8 : scope.isGenerator = false) (hev : SupEv f p0 p1 p2 p3 p4) : ∃ fd, ExI P K (ga K c) f (fAd K (c, some "__init__")) fd ∧
      ∃ (dV kV doc pm ct : Value) (an : Option Addr) (cda cc : Addr), DflV K dV [V.non] ∧ fd = PySem.W.ksFn "__init__" qual params (exBody f p0 p1 p2 p3 p4 p5 p6 p7 p8 p9) scope dV kV doc pm an (.ref cda) ct cc := by
  obtain ⟨a1, h⟩ := ba h
  obtain ⟨a2, h⟩ := ba h
  obtain ⟨a3, h⟩ := ba h
  obtain ⟨a4, h⟩ := ba h
  obtain ⟨a5, h⟩ := ba h
  obtain ⟨a6, h⟩ := ba h
  obtain ⟨a7, h⟩ := ba h
  obtain ⟨a8, h⟩ := ba h
  obtain ⟨a9, h⟩ := ba h
  obtain ⟨a10, h⟩ := ba h
  obtain ⟨a11, h⟩ := ba h
  obtain ⟨a12, h⟩ := ba h
  unfold exCl at h
  unfold exW at hw
  cases q : K.lookup (ma K (ga K c) "__init__") with
  | none =>
    rw [q] at h
    cases h
  | some o =>
    obtain ⟨oc, od, dt, osl⟩ := o
    rw [q] at h hw
    cases dt with
    | func fd =>
      obtain ⟨n1, n2, n3, n4, n5, n6, n7, n8, n9, n10, n11, n12, n13, n14, n15⟩ := fd
      have e2 : (some (n1, n2, n3, n4, n5, n6, n15) : ExW) = some (("__init__" : Str), qual, params, FuncBody.stmts (exBody f p0 p1 p2 p3 p4 p5 p6 p7 p8 p9), scope, mainGlobals, builtinsNs) := hw
      simp only [Option.some.injEq, Prod.mk.injEq] at e2
      obtain ⟨g1, g2, g3, g4, g5, g6, g7⟩ := e2
      subst g1 g2 g3 g4 g5 g6 g7
      dsimp only at h
      split at h
      · rename_i n cc cda
        obtain ⟨b1, h⟩ := ba h
        obtain ⟨b0, h⟩ := ba h
        obtain ⟨b2, h⟩ := ba h
        obtain ⟨b3, b4⟩ := ba h
        have en : n = ("__class__" : Str) := eq_of_beq b1
        subst en
        refine ⟨_, ⟨⟨oexB_ok a1, eqO_ok a2, of_decide_eq_true a3, of_decide_eq_true a4, a5⟩, eqO_ok a6, of_decide_eq_true a7, eqO_ok a8, of_decide_eq_true a9, eqO_ok a10, tp, eqO_ok a11, of_decide_eq_true a12,
          oc, od, osl, _, _, p0, p1, p2, p3, p4, p5, p6, p7, p8, p9, _, n8, n9, n10, n11, n14, n12, cda, cc, rfl, q, b2, ?_, ?_, har, s1, s2, s3, s4, s5, s6, s7, s8, hev⟩, n8, n9, n10, n11, n14, n12, cda, cc, He.dflB_ok b0, rfl⟩
        · split at b4
          · rename_i ccl cdd vs ccs hl
            split at b4
            · rename_i file tf hf
              exact ⟨ccl, cdd, vs, ccs, file, tf, hl, hf, b4⟩
            · cases b4
          · cases b4
        · split at b3
          · rename_i cl cld D csl hl
            have eD : D = ga K c := eq_of_beq b3
            subst eD
            exact ⟨cl, cld, csl, hl⟩
          · cases b3
      · cases h
    | _ => cases h
end
end HT
namespace HT
open PySem PySem.Spec L2
theorem nthB {l : List Bool} (h : l.all id = true) (i : Nat) {b : Bool} (hi : l[i]? = some b) : b = true := List.all_eq_true.mp h b (List.mem_of_getElem? hi)
theorem isTb_own {T : Str → Addr} {K : PySem.W.Frag} {c : Str} (h1 : obB K (T c) = true) (h2 : (ty7.all fun n => decide (PySem.W.kitOne K (.type n) (.ref (T c)) = some false)) = true) (h3 : decide (PySem.W.kitOne K (.ref (T c)) (.ref (T c)) = some true) = true) :
    IsTb T K (.ref (T c)) (fun t => match t with | .b n => if n ∈ ty7 then some false else none | .own C => if C = c then some true else none | _ => none) := by
  refine ⟨fun n r h => ?_, fun C r h => ?_, (fun C r h => nomatch h)⟩
  · dsimp only at h
    split at h
    · rename_i hn
      cases h
      exact of_decide_eq_true (List.all_eq_true.mp h2 n hn)
    · cases h
  · dsimp only at h
    split at h
    · rename_i e
      subst e
      cases h
      exact ⟨obB_ok h1, of_decide_eq_true h3⟩
    · cases h
end HT
namespace HT
open PySem PySem.Spec L2
theorem bx_all {K : PySem.W.Frag} {fd : FuncData} {ps : List Str} {dV : Value} (hD : DflV K dV [V.non]) (h : ∀ (t : Addr) (us its : List Value), dV = .ref t → us.length = ps.length → its.length = 1 → ∃ k, bindArgs fd ⟨us, []⟩ = seqItems? (.ref t) >>= k ∧ k (some its.toArray) = pure (ps.zip us)) : Binds K fd ps [] := by
  rcases hD with ⟨e, _⟩ | ⟨_, t, o, its, m, e, lT, oT, rT⟩
  · cases e
  · intro s us X hlen
    rw [List.append_nil] at hlen ⊢
    obtain ⟨k, e1, e2⟩ := h t us its e hlen rT.length.symm
    refine BindsTo.of_looks fun M => ?_
    rw [e1]
    exact looks_items X lT oT (.of_pure e2)
end HT
set_option maxRecDepth 100000
set_option maxHeartbeats 800000
namespace HT
open PySem PySem.Spec L2
open PyProof.Rows hiding St
def sPar (i j : Nat) (Fa : Env → Cm (List D)) : FS := fun env S => sB env (Fa env S) fun ds S' => match ds with
  | [d, e] => .ok (.nx ((env.set i (.val d)).set j (.val e))) S'
  | _ => .stuck
def sPar3 (i j l : Nat) (Fa : Env → Cm (List D)) : FS := fun env S => sB env (Fa env S) fun ds S' => match ds with
  | [d, e, f] => .ok (.nx (((env.set i (.val d)).set j (.val e)).set l (.val f))) S'
  | _ => .stuck
section
variable {T : Str → Addr} {X : Cx} {W : WX} {Fa : Env → Cm (List D)} {a b c : Expr} {pos : Pos}
theorem sf_par {i j : Nat} {x y : Str} {px py pt : Pos} {kt k2 pt2} (hc : X.calm = true) (hN : X.N.Nodup) (hi : X.N[i]? = some x) (hj : X.N[j]? = some y) (hij : i ≠ j)
    (hx : X.env.scope.names.lookup x = some .local) (hy : X.env.scope.names.lookup y = some .local) (ha : AF T X W [a, b] Fa)
    (hw : swappedStores [.Tuple [.Name x px, .Name y py] kt pt] (.Tuple [a, b] k2 pt2) X.env = pure (some [x, y]))
    (hs : swapsWithSole [.Tuple [.Name x px, .Name y py] kt pt] (.Tuple [a, b] k2 pt2) pos.line X.env = pure false := by rfl) :
    SF T X W (.Assign [.Tuple [.Name x px, .Name y py] kt pt] (.Tuple [a, b] k2 pt2) pos) (sPar i j Fa) := ps_imp (ps_par hc hN hi hj hij hx hy ha hw hs) fun B σ H q => by
  obtain ⟨ρ, S, Z0, Z, env, a, g⟩ := q
  refine lift_imp (lift_sB a g) fun vs H1 ⟨ρ1, S1, ds, x1, a1, r1, g1⟩ => ?_
  match ds, r1, g1 with
  | [d, e], ⟨v, us, e1, r2, w, us2, e2, r3, e3⟩, g1 =>
    subst e3 e2 e1
    exact ⟨v, w, rfl, (show GoodF T X.K W B ρ1 Z0 Z H1 S1 (.nx ((env.set i (.val d)).set j (.val e))) from g1) _ H1 ρ1 Z .refl ((a1.set r2).set r3)⟩
  | [], _, g1 => exact g1.elim
  | [_], _, g1 => exact g1.elim
  | _ :: _ :: _ :: _, _, g1 => exact g1.elim
end
end HT
set_option maxRecDepth 100000
set_option maxHeartbeats 800000
namespace HT
open PySem PySem.Spec L2
open PyProof.Rows hiding St
def fChain (g g' : D → D → Cm D) (Fa Fb Fc : FE) : FE := fun env S => (Fa env S).bnd fun x S1 => (Fb env S1).bnd fun y S2 => (g x y S2).bnd fun z S3 => match z with
  | .bl true => (Fc env S3).bnd fun w S4 => g' y w S4
  | .bl false => .ok (.bl false) S3
  | _ => .stuck
section
variable {T : Str → Addr} {X : Cx} {W : WX} {a b c : Expr} {Fa Fb Fc : FE} {pos : Pos} {op op' : CmpOp} {r r' : R2} {g g' : D → D → Cm D}
theorem chain_lift {σ : St} {H : Hp} {Q : VK} (h2 : Op2 T X r g) (h2' : Op2 T X r' g') (q : lift T X.K (rD T X.K) W (fChain g g' Fa Fb Fc) σ H Q) :
    tChain r r' (lift T X.K (rD T X.K) W Fa) (lift T X.K (rD T X.K) W Fb) (lift T X.K (rD T X.K) W Fc) σ H Q := by
  obtain ⟨ρ, S, Z, env, w, er, q⟩ := q
  refine lift_imp (lift_bnd w er q) fun v H1 ⟨ρ1, S1, d1, x1, w1, e1, r1, g1⟩ => ?_
  refine lift_imp (lift_bnd w1 e1 g1) fun u H2 ⟨ρ2, S2, d2, x2, w2, e2, r2, g2⟩ => ?_
  refine h2 W σ ρ2 S2 Z H2 d1 d2 v u _ w2 (x2.rep r1) r2 ?_
  change Good T X.K (rD T X.K) W σ Q ρ2 Z H2 ((g d1 d2 S2).bnd fun z S3 => _) at g2
  cases hg : g d1 d2 S2 with
  | exc C fs S' =>
    rw [hg] at g2
    exact g2
  | stuck =>
    rw [hg] at g2
    exact g2
  | ok z S3 =>
    rw [hg] at g2
    intro zv H3 ρ3 x3 w3 r3
    cases z with
    | bl k =>
      refine ⟨k, r3, ?_⟩
      cases k with
      | false => exact (show Good T X.K (rD T X.K) W σ Q ρ2 Z H2 (.ok (.bl false) S3) from g2) _ H3 ρ3 x3 w3 rfl
      | true =>
        have g3 : Good T X.K (rD T X.K) W σ Q ρ3 Z H3 ((Fc env S3).bnd fun w S4 => g' d2 w S4) := Good.later (show Good T X.K (rD T X.K) W σ Q ρ2 Z H2 ((Fc env S3).bnd fun w S4 => g' d2 w S4) from g2) x3
        exact lift_imp (lift_bnd w3 (e2.ext x3) g3) fun y H4 ⟨ρ4, S4, d4, x4, w4, e4, r4, g4⟩ => h2' W σ ρ4 S4 Z H4 d2 d4 u y Q w4 (x4.rep (x3.rep r2)) r4 g4
    | _ => exact g2.elim
theorem pf_chain (ho : OpR X (compareOp op) r) (h2 : Op2 T X r g) (ho' : OpR X (compareOp op') r') (h2' : Op2 T X r' g') (ha : PF T X W a Fa) (hb : PF T X W b Fb) (hc : PF T X W c Fc)
    (hm : lastMarks [op, op'] [b, c] = false := by with_unfolding_all rfl) : PF T X W (.Compare a [op, op'] [b, c] pos) (fChain g g' Fa Fb Fc) :=
  pe_imp (pe_chain ho ho' ha hb hc hm) fun σ H Q q => chain_lift h2 h2' q
theorem tf_chain (ho : OpR X (compareOp op) r) (h2 : Op2 T X r g) (ho' : OpR X (compareOp op') r') (h2' : Op2 T X r' g') (ha : PF T X W a Fa) (hb : PF T X W b Fb) (hc : PF T X W c Fc)
    (hm : lastMarks [op, op'] [b, c] = false := by with_unfolding_all rfl) : TF T X W (.Compare a [op, op'] [b, c] pos) (fB (fChain g g' Fa Fb Fc)) :=
  pt_imp (pt_chain ho ho' ha hb hc hm) fun σ H Q q => chain_lift h2 h2' (lift_test q)
end
end HT
set_option maxRecDepth 100000
set_option maxHeartbeats 800000
namespace HT
open PySem PySem.Spec L2
open PyProof.Rows hiding St
def gNeg : D → Cm D
  | .int i => pure (.int (-i))
  | _ => stk
def sAsg (b : Bd) (F : FE) : FS := fun env S => sB env (F env S) fun d S' => match bindE b d env with
  | some e => .ok (.nx e) S'
  | none => .stuck
section
variable {T : Str → Addr} {X : Cx} {W : WX} {a e tg : Expr} {Fa Fe : FE} {pos : Pos} {b : Bd}
theorem pf_neg (ha : PF T X W a Fa) : PF T X W (.UnaryOp .USub a pos) (f1 gNeg Fa) :=
  pe_imp (pe_un un_neg ha) fun σ H Q q => lift1 (r := fun x H1 => rU (fun i => .int (-i)) x H1 Q) q fun ρ S Z H x v w r g => by
    cases x with
    | int i => exact ⟨i, r, g _ H ρ .refl w rfl⟩
    | _ => exact g.elim
end
end HT
set_option maxRecDepth 100000
set_option maxHeartbeats 800000
namespace HT
open PySem PySem.Spec L2
open PyProof.Rows hiding St
def enumD (ds : List D) : List D := ds.mapIdx fun i d => .tup [.int (i : Nat), d]
section
variable {T : Str → Addr} {K : PySem.W.Frag} {ρ : Nat → Option Addr} {S : Sto} {Z : Hid} {H : Hp}
end
section
variable {T : Str → Addr} {X : Cx} {W : WX} {e : Expr} {pos tpos : Pos} {elts : List Expr} {kk : Nat}
end
end HT
set_option maxRecDepth 100000
set_option maxHeartbeats 800000
namespace HT
open PySem PySem.Spec L2
open PyProof.Rows hiding St
section
variable {T : Str → Addr} {X : Cx} {W : WX} {pos : Pos}
theorem pf_kint {x : Str} {i : Int} {u : Value} (hg : Gl X x) (hm : X.mg x = some u) (hu : RelV (.int i) u) (hd : (x == ("__debug__" : Str)) = false := by decide) : PF T X W (.Name x pos) (fun _ => pure (.int i)) :=
  pf_const (pe_glob hg hm hu hd) fun ρ H => rfl
theorem pf_kstr {x : Str} {z : Str} {u : Value} (hg : Gl X x) (hm : X.mg x = some u) (hu : RelV (.str z) u) (hd : (x == ("__debug__" : Str)) = false := by decide) : PF T X W (.Name x pos) (fun _ => pure (.str z)) :=
  pf_const (pe_glob hg hm hu hd) fun ρ H => rfl
end
end HT
set_option maxRecDepth 100000
set_option maxHeartbeats 800000
namespace HT
open PySem PySem.Spec L2
open PyProof.Rows hiding St
def addT (l : List Str) (z : Str) : List Str := if l.any (· == z) then l else l ++ [z]
def metT (l : List Str) : List Str := l.foldl addT []
theorem addT_any (l : List Str) (z k : Str) : (addT l z).any (· == k) = (l.any (· == k) || decide (k = z)) := by
  unfold addT
  split
  · rename_i h
    by_cases e : k = z
    · subst e; simp only [h, decide_true, Bool.or_true]
    · simp only [e, decide_false, Bool.or_false]
  · rw [List.any_append]
    by_cases e : k = z
    · subst e; simp
    · have q : (z == k) = false := by simpa using fun h : z = k => e h.symm
      simp [e, q]
theorem addT_len (l : List Str) (z : Str) : (addT l z).length = if l.any (· == z) = true then l.length else l.length + 1 := by
  unfold addT
  split <;> simp
theorem metT_take {l : List Str} {i : Nat} (h : i < l.length) : metT (l.take (i + 1)) = addT (metT (l.take i)) (l.getD i Str.empty) := by
  have e : l.getD i Str.empty = l[i] := by simp [List.getD, h]
  unfold metT
  rw [e, List.take_add_one, List.getElem?_eq_getElem h, Option.toList_some, List.foldl_append]
  rfl
theorem metT_len : ∀ (l a : List Str), (l.foldl addT a).length ≤ a.length + l.length
  | [], a => Nat.le_refl _
  | z :: l, a => by
    have h := metT_len l (addT a z)
    have h2 := addT_len a z
    simp only [List.foldl_cons, List.length_cons]
    split at h2 <;> omega
section
variable {prog : Program} {w : World} {A : Around} {R : Result → Shared → Prop} {I : Addr} {fp wr : List Addr} {G : Array GenState → Array GenState → Prop} {n : Nat} {P : Nat → Value → Prop} {St : Nat → Shared → Prop}
theorem loopT (wk : WalksS prog w A.in1 I fp wr G n P St) (B : Addr) (hB : B ∉ fp) (zs : List Str) (hz : zs.length = n) (hb : n + 1 < scanBound) (hv : ∀ i v, P i v → ∃ t, v = .str (zs.getD i Str.empty) t) :
    ∀ (k i : Nat) (s : Shared), n - i = k → i ≤ n → St i s → s.heap.SetOf (PySem.strKind prog w) B (fun x => (metT (zs.take i)).any (· == x)) (metT (zs.take i)).length →
      (∀ s', Moved (B :: wr) G s s' → s'.heap.SetOf (PySem.strKind prog w) B (fun x => (metT (zs.take n)).any (· == x)) (metT (zs.take n)).length → R (.ok (.ret .none)) s') →
      codeAny (model prog w) A (.builtin "set.update.loop" ⟨[.ref B, .ref I], []⟩) R s := by
  have nB : B ∉ wr := fun h => hB (wk.sub _ h)
  have up : ∀ b ∈ wr, b ∈ B :: wr := fun b q => List.mem_cons_of_mem _ q
  intro k
  induction k with
  | zero =>
    intro i s e0 e1 h0 h1 fin
    obtain rfl : i = n := by omega
    refine codeAny_builtin PyProof.Rows.F.entry_set_update_loop ((Around.under_plainId PyProof.Rows.F.plain_set_update_loop _).symm ▸ ?_)
    refine wpAny_bind (wk.done s _ _ h0 fun s1 mv => wpAny_pure (fin s1 (mv.mono up) ?_))
    obtain ⟨o, es, ep, t, ho, rest⟩ := h1
    exact ⟨o, es, ep, t, mv.heap B _ nB ho, rest⟩
  | succ k ih =>
    intro i s e0 e1 h0 h1 fin
    have lt : i < n := by omega
    refine codeAny_builtin PyProof.Rows.F.entry_set_update_loop ((Around.under_plainId PyProof.Rows.F.plain_set_update_loop _).symm ▸ ?_)
    refine wpAny_bind (wk.item i s _ _ lt h0 fun v s1 hp h2 mv => ?_)
    obtain ⟨t, rfl⟩ := hv i v hp
    have h3 : s1.heap.SetOf (PySem.strKind prog w) B (fun x => (metT (zs.take i)).any (· == x)) (metT (zs.take i)).length := by
      obtain ⟨o, es, ep, tb, ho, rest⟩ := h1
      exact ⟨o, es, ep, tb, mv.heap B _ nB ho, rest⟩
    refine wpAny_bind (wpAny_holding ?_)
    unfold setAdd
    refine wpAny_holding (wpAny_bind ((PySem.strKind prog w).pyHash (k := zs.getD i Str.empty) (strKind_is _ _ _ _) ?_))
    have room : (metT (zs.take i)).length + 1 < scanBound := by
      have q := metT_len (zs.take i) []
      rw [List.length_take] at q
      have q2 : (metT (zs.take i)).length ≤ 0 + min i zs.length := q
      omega
    refine wpAny_setAddHashed_of (knd := PySem.strKind prog w) (s := { s1 with toks := s1.toks + 1 }) (strKind_is _ _ _ _) rfl h3 room fun h' sb h4 => ?_
    have h5 : h'.SetOf (PySem.strKind prog w) B (fun x => (metT (zs.take (i + 1))).any (· == x)) (metT (zs.take (i + 1))).length :=
      SetOf_congr h4 (fun x => by rw [metT_take (by omega), addT_any]) (by rw [metT_take (by omega), addT_len])
    refine wpAny_pure ⟨plainId_quiet PyProof.Rows.F.plain_set_update_loop _, ih (i + 1) _ (by omega) lt (wk.frame _ s1 _ _ h2 (Nat.le_succ _) fun b q o e => ?_) h5 fun s2 mv2 h6 => fin s2 (Moved.trans wk.gtrans ((mv.mono up).then_heap (Nat.le_succ _) fun b o q e => ?_) mv2) h6⟩
    · exact (sb.2 b (fun h : b = B => hB (h ▸ q))).trans e
    · exact (sb.2 b (fun h : b = B => q (h ▸ List.mem_cons_self))).trans e
end
end HT
set_option maxRecDepth 100000
set_option maxHeartbeats 3200000
namespace HT
open PySem PySem.Spec L2
open PyProof.Rows hiding St
section
variable {prog : Program} {w : World} {A : Around} {E : Value → Shared → Prop} {s : Shared}
abbrev newSet (led : Bool) : Obj := { cls := .type "set", dict := none, data := .set #[] 0 (.fresh 0 0 led) }
abbrev SetLeft (prog : Program) (w : World) (s : Shared) (zs : List Str) (h' : Heap) : Prop :=
  h'.SetOf (PySem.strKind prog w) s.heap.objs.size (fun x => (metT zs).any (· == x)) (metT zs).length ∧ ∀ b o, b < s.heap.objs.size → s.heap.get? b = some o → h'.get? b = some o
theorem call_setT {l : Addr} {its : Array Value} {zs : List Str} {Q : Value → Shared → Prop} (hh : A.handled = none) (hl : s.heap.IsList l its) (hi : PyProof.Rows.StrsAre its.toList zs) (hb : zs.length + 1 < scanBound)
    (k : ∀ (h' : Heap) (tk : Nat), SetLeft prog w s zs h' → Q (.ref s.heap.objs.size) { s with heap := h', toks := tk }) : wpAny (model prog w) A (call (.type "set") [.ref l]) Q E s := by
  obtain ⟨c, tl, mro⟩ := PySem.F.called_set.mro
  have made := PySem.F.called_set.made; have sub := PySem.F.called_set.sub
  refine wpAny_call (codeAny_of_tree (show wpAny _ _ (callAny (.type "set") _) _ _ _ from ?_))
  refine wpAny_pure ⟨Code.quiet_builtin _ (by decide +kernel), codeAny_builtin PySem.F.entry_type_call ((Around.under_plain (weight_type_call_type "set" [.ref l] []) rfl).symm ▸ ?_)⟩
  have a1 := PySem.F.called_set.notType; have a2 := PySem.F.called_set.canCreate; have a3 := PySem.F.typeCall_set_1 (.ref l)
  repeat (any_goals (first | assumption | wp_step))
  refine codeAny_mono (code_set_new_1 (.ref l) (E := E) (Q₁ := fun v s1 => ∃ led, v = .ref s.heap.objs.size ∧ s1 = { s with heap := s.heap.push (newSet led) }) fun led => ⟨led, rfl, rfl⟩) fun r s1 hr => ?_
  match r, hr with
  | .ok (.ret v), hr =>
    obtain ⟨led, rfl, rfl⟩ := hr
    have g0 : (s.heap.push (newSet led)).get? s.heap.objs.size = some (newSet led) := Heap.get?_push_size _ rfl
    have ty : Shared.TypeIs { s with heap := s.heap.push (newSet led) } (.ref s.heap.objs.size) "set" := ⟨_, g0, rfl⟩
    have b1 := PySem.F.called_set.init.lookup; have b2 := PySem.F.called_set.init.bind (.ref s.heap.objs.size)
    repeat (any_goals (first | assumption | wp_step))
    refine codeAny_mono (codeAny_call_builtin (R := wants (fun r s2 => r = .none ∧ ∃ h' tk, s2 = { s with heap := h', toks := tk } ∧ SetLeft prog w s zs h') E) PySem.F.called_set.init.plain PySem.F.entry_set_init (check_set_init_1 ty ?_)) fun r2 s2 hr2 => ?_
    · obtain ⟨⟨_, od, _, os⟩, ho, rfl, nl, rfl⟩ := hl
      have lt : l < s.heap.objs.size := Heap.lt_size ho
      have ho2 : (s.heap.push (newSet led)).get? l = some { cls := .type "list", dict := od, data := .seq its nl, slots := os } := Heap.get?_push_of_some _ ho
      have c1 := PySem.F.sub_list_set; have c2 := PySem.F.sub_list_frozenset
      have c3 : (Value.type "list" == Value.type "dict") = false := by decide
      have hl1 : (s.heap.push (newSet led)).IsList l its := ⟨_, ho2, rfl, nl, rfl⟩
      unfold Builtin.«set.__init__» noKeywords Builtin.Frozenset.updateFrom
      generalize hP : pyIter = PI
      wp_walk
      subst hP
      refine wpAny_pyIter_list hl1 (wpAny_bind (wpAny_runValue ?_))
      have hd3 : A.in1.in1.in1.handled = none := by simp [hh]
      have sz : (s.heap.push (newSet led)).objs.size = s.heap.objs.size + 1 := Heap.size_push ..
      have ne1 : l ≠ (s.heap.push (newSet led)).objs.size := sz.symm ▸ Nat.ne_of_lt (Nat.lt_succ_of_lt lt)
      have ne2 : s.heap.objs.size ∉ [(s.heap.push (newSet led)).objs.size, l] := fun q => by
        rcases List.mem_cons.mp q with e | q
        · exact absurd (e.trans sz) (Nat.ne_of_lt (Nat.lt_succ_self _))
        · exact absurd (List.mem_singleton.mp q) (Nat.ne_of_gt lt)
      have len : zs.length = its.size := by rw [← StrsAre.len_eq hi, Array.length_toList]
      have tk1 : zs.take its.size = zs := by rw [← len, List.take_length]
      refine loopT ((Walks.list hd3 _ l ne1 its).toS) s.heap.objs.size ne2 zs len (by omega) (fun i v hv => SS.strs_at hi i v ((Array.getElem?_toList).trans hv)) (its.size - 0) 0 _ (by omega) (Nat.zero_le _) ⟨⟨_, Heap.get?_push_size _ rfl, rfl, rfl⟩, hl1.push _⟩ ?start ?fin
      case start =>
        exact SetOf_congr ((PyProof.Rows.setObjOf_fresh (knd := PySem.strKind prog w) led).setOf (Heap.get?_push_of_some _ g0) (by unfold scanBound; omega)) (fun _ => rfl) rfl
      case fin =>
        intro s3 mv h3
        rw [tk1] at h3
        obtain ⟨h', g', d', tk', os'⟩ := s3
        obtain rfl : g' = s.gens := mv.gens
        obtain rfl : d' = s.drawn := mv.drawn
        obtain rfl : os' = s.os := mv.os
        refine wpAny_pure (show wpAny _ _ (ret Value.none) _ _ _ from wpAny_pure ⟨rfl, h', tk', rfl, h3, fun b o q e => ?_⟩)
        exact mv.heap b o (fun m => by
          rcases List.mem_cons.mp m with e | m
          · exact absurd e (Nat.ne_of_lt q)
          · exact absurd ((List.mem_singleton.mp m).trans sz) (Nat.ne_of_lt (Nat.lt_succ_of_lt q))) (Heap.get?_push_of_some _ (Heap.get?_push_of_some _ e))
    · match r2, hr2 with
      | .ok (.ret r), hr2 =>
        obtain ⟨rfl, h', tk, rfl, left⟩ := hr2
        repeat (any_goals (first | assumption | wp_step))
        exact k _ _ left
      | .error e, hr2 => exact hr2
  | .error e, hr => exact hr
end
end HT
set_option maxRecDepth 100000
set_option maxHeartbeats 800000
namespace HT
open PySem PySem.Spec L2
open PyProof.Rows hiding St
def tLenT (K : PySem.W.Frag) (ta : TE) : TE := fun σ H Q => ta σ H fun x H1 => ∃ l, ∃ zs : List Str, x = .ref l ∧ SqL K H1 l (zs.map V.str) ∧ zs.length < 4000 ∧ Q (.int (metT zs).length) H1
section
variable {X : Cx} {a : Expr} {ta : TE} {p p2 q pos : Pos}
theorem pe_lenT (hc : X.calm = true) (hg : Gl X "len") (hm : X.mg "len" = none) (hg2 : Gl X "set") (hm2 : X.mg "set" = none) (ha : PE X a ta)
    (na : starEach [a] X.env = (false, eval a X.env) :: starEach [] X.env := by rfl) : PE X (.Call (.Name "len" p) [.Call (.Name "set" p2) [a] [] q] [] pos) (tLenT X.K ta) := ⟨fun pins s σ H Q I h => by
  refine Call_ (ld_blt I hg hm boot_len (PyProof.Rows.callWith_builtin1 (PyProof.Rows.args_cons ?_ rfl) rfl rfl))
  refine Call_ (ld_blt I hg2 hm2 boot_set (PyProof.Rows.callWith_type1 (PyProof.Rows.args_cons (thn (ha.run pins s σ H _ I h) fun v s1 ⟨x, H1, I1, r1, q1⟩ => PyProof.Rows.args_nil ?_) na) na rfl))
  obtain ⟨l, zs, rfl, hq, hn, q1⟩ := q1
  cases r1
  obtain ⟨its, r, pl, _⟩ := I1.list hq
  have b0 : zs.length + 1 < scanBound := by unfold scanBound; omega
  have b1 : (metT zs).length ≤ 0 + zs.length := metT_len zs []
  refine call_setT (I1.ok.hd hc) pl.isList (by simpa using L2.strsAre_of r) b0 fun h' tk left => PyProof.Rows.args_nil ?_
  obtain ⟨⟨o, es, ep, t, ho, hex, hd, _, _, _, hf, hn2⟩, keep⟩ := left
  have I2 : Inv X pins σ H1 { s1 with heap := h', toks := tk } := I1.kept fun b o e => keep b o (Heap.lt_size e) e
  exact call_len_set ho hex hd hf (by rw [hn2]; unfold scanBound at b0; omega) ⟨.int (metT zs).length, H1, I2.tok _, ⟨_, by rw [hn2]⟩, q1⟩⟩
end
end HT
set_option maxRecDepth 100000
set_option maxHeartbeats 800000
namespace HT
open PySem PySem.Spec L2
open PyProof.Rows hiding St
def strsD : List D → Option (List Str)
  | [] => some []
  | .str z :: r => (strsD r).map (z :: ·)
  | _ => none
def lstD (S : Sto) : D → Option (List D)
  | .lst ds => some ds
  | .klst ds => some ds
  | .cell k => (match S[k]? with
    | some (.lst ds) => some ds
    | _ => none)
  | _ => none
def gLenSet (x : D) : Cm D := fun S => match (lstD S x).bind strsD with
  | some zs => if zs.length < 4000 then .ok (.int (metT zs).length) S else .stuck
  | none => .stuck
section
variable {T : Str → Addr} {K : PySem.W.Frag} {ρ : Nat → Option Addr} {S : Sto} {Z : Hid} {H : Hp}
theorem strsD_ok : ∀ {ds : List D} {zs : List Str} {vs : List V}, RepL T K ρ (Fz ρ Z H) ds vs → strsD ds = some zs → vs = zs.map V.str
  | [], zs, vs, r, h => by
    cases h
    exact r
  | d :: ds, zs, vs, r, h => by
    obtain ⟨v, us, rfl, r1, r2⟩ := r
    cases d with
    | str z =>
      unfold strsD at h
      cases e : strsD ds with
      | none =>
        rw [e] at h
        cases h
      | some ys =>
        rw [e] at h
        cases h
        rw [strsD_ok r2 e, show v = V.str z from r1]
        rfl
    | _ => cases h
theorem lstD_ok {d : D} {v : V} {ds : List D} (w : Wd T K ρ S Z H) (r : Rep T K ρ (Fz ρ Z H) d v) (hw : lstD S d = some ds) : ∃ a vs, v = .ref a ∧ SqL K H a vs ∧ RepL T K ρ (Fz ρ Z H) ds vs := by
  cases d with
  | lst ds =>
    cases hw
    obtain ⟨a, vs, rfl, q, q2⟩ := r
    exact ⟨a, vs, rfl, SqL.of (Fz_sub _ _ q), q2⟩
  | klst ds =>
    cases hw
    obtain ⟨a, vs, rfl, q, q2⟩ := r
    exact ⟨a, vs, rfl, Fz_sub.seqL q, q2⟩
  | cell k =>
    cases e : S[k]? with
    | none =>
      have : lstD S (D.cell k) = none := by simp only [lstD, e]
      rw [this] at hw
      cases hw
    | some c =>
      cases c with
      | lst es =>
        have h2 : lstD S (D.cell k) = some es := by simp only [lstD, e]
        rw [h2] at hw
        cases hw
        obtain ⟨a, rfl, q⟩ := r
        obtain ⟨b, o, h1, h2, h3, h4⟩ := w.cells k _ e
        rw [q] at h1
        cases h1
        obtain ⟨vs, rfl, r2⟩ := h4
        exact ⟨a, vs, rfl, SqL.of h3, r2⟩
      | _ =>
        have : lstD S (D.cell k) = none := by simp only [lstD, e]
        rw [this] at hw
        cases hw
  | _ => cases hw
end
section
variable {T : Str → Addr} {X : Cx} {W : WX} {a : Expr} {Fa : FE} {p p2 q pos : Pos}
theorem pf_lenSet (hc : X.calm = true) (hg : Gl X "len") (hm : X.mg "len" = none) (hg2 : Gl X "set") (hm2 : X.mg "set" = none) (ha : PF T X W a Fa)
    (na : starEach [a] X.env = (false, eval a X.env) :: starEach [] X.env := by rfl) : PF T X W (.Call (.Name "len" p) [.Call (.Name "set" p2) [a] [] q] [] pos) (f1 gLenSet Fa) :=
  pe_imp (pe_lenT hc hg hm hg2 hm2 ha na) fun σ H Q q => lift1 (r := fun x H1 => ∃ l, ∃ zs : List Str, x = .ref l ∧ SqL X.K H1 l (zs.map V.str) ∧ zs.length < 4000 ∧ Q (.int (metT zs).length) H1) q fun ρ S Z H x v w r g => by
    unfold gLenSet at g
    cases e : lstD S x with
    | none =>
      rw [e] at g
      exact g.elim
    | some ds =>
      rw [e] at g
      cases e2 : strsD ds with
      | none =>
        simp only [Option.bind_some, e2] at g
        exact g.elim
      | some zs =>
        simp only [Option.bind_some, e2] at g
        obtain ⟨l, vs, rfl, q1, q2⟩ := lstD_ok w r e
        rw [strsD_ok q2 e2] at q1
        split at g
        · rename_i hn
          exact ⟨l, zs, rfl, q1, hn, g _ H ρ .refl w rfl⟩
        · exact g.elim
end
end HT
set_option maxRecDepth 100000
set_option maxHeartbeats 800000
namespace HT
open PySem PySem.Spec L2
mutual
def melt0 (f : Nat → Option D) : D → Option D
  | .non => some .non
  | .bl b => some (.bl b)
  | .int i => some (.int i)
  | .str x => some (.str x)
  | .lst ds => (meltL f ds).map .lst
  | .klst ds => (meltL f ds).map .klst
  | .tup ds => (meltL f ds).map .tup
  | .obj C fs => (meltF f fs).map (.obj C)
  | .exn C fs => (meltF f fs).map (.exn C)
  | .dK kvs => (meltK f kvs).map .dK
  | .dT kvs => (meltT f kvs).map .dT
  | .cell k => f k
  | .glob x => some (.glob x)
  | .ty n => some (.ty n)
def meltL (f : Nat → Option D) : List D → Option (List D)
  | [] => some []
  | d :: ds => match melt0 f d, meltL f ds with
    | some a, some b => some (a :: b)
    | _, _ => none
def meltF (f : Nat → Option D) : List (Str × D) → Option (List (Str × D))
  | [] => some []
  | p :: ds => match melt0 f p.2, meltF f ds with
    | some a, some b => some ((p.1, a) :: b)
    | _, _ => none
def meltK (f : Nat → Option D) : List (Key × D) → Option (List (Key × D))
  | [] => some []
  | p :: ds => match melt0 f p.2, meltK f ds with
    | some a, some b => some ((p.1, a) :: b)
    | _, _ => none
def meltT (f : Nat → Option D) : List (List Key × D) → Option (List (List Key × D))
  | [] => some []
  | p :: ds => match melt0 f p.2, meltT f ds with
    | some a, some b => some ((p.1, a) :: b)
    | _, _ => none
end
def meltCO (f : Nat → Option D) : CO → Option CO
  | .lst ds => (meltL f ds).map .lst
  | .dK kvs => (meltK f kvs).map .dK
  | .dT kvs => (meltT f kvs).map .dT
  | .ins C fs => (meltF f fs).map (.ins C)
def meltC (S : Sto) (n : Nat) : Nat → Nat → Option D
  | 0, _ => none
  | m + 1, k => if k < n then some (.cell k) else match S[k]? with
    | some c => (meltCO (meltC S n m) c).map frzD
    | none => none
def mkeep (f : Nat → Option D) : List CO → List CO → Option (List CO)
  | [], _ => some []
  | c :: r, c' :: r' => match (if eqCO c c' = true then some c else meltCO f c'), mkeep f r r' with
    | some a, some b => some (a :: b)
    | _, _ => none
  | _ :: _, [] => none
mutual
def lowD (n : Nat) : D → Prop
  | .lst ds => lowL n ds
  | .klst ds => lowL n ds
  | .tup ds => lowL n ds
  | .obj _ fs => lowF n fs
  | .exn _ fs => lowF n fs
  | .dK kvs => lowK n kvs
  | .dT kvs => lowT n kvs
  | .cell k => k < n
  | .non => True
  | .bl _ => True
  | .int _ => True
  | .str _ => True
  | .glob _ => True
  | .ty _ => True
def lowL (n : Nat) : List D → Prop
  | [] => True
  | d :: ds => lowD n d ∧ lowL n ds
def lowF (n : Nat) : List (Str × D) → Prop
  | [] => True
  | p :: ds => lowD n p.2 ∧ lowF n ds
def lowK (n : Nat) : List (Key × D) → Prop
  | [] => True
  | p :: ds => lowD n p.2 ∧ lowK n ds
def lowT (n : Nat) : List (List Key × D) → Prop
  | [] => True
  | p :: ds => lowD n p.2 ∧ lowT n ds
end
def lowCO (n : Nat) : CO → Prop
  | .lst ds => lowL n ds
  | .dK kvs => lowK n kvs
  | .dT kvs => lowT n kvs
  | .ins _ fs => lowF n fs
def cutR (ρ : Nat → Option Addr) (n : Nat) : Nat → Option Addr := fun k => if k < n then ρ k else none
section
variable {T : Str → Addr} {K : PySem.W.Frag} {ρ ρ' : Nat → Option Addr} {F F' : Hp} {n : Nat} {f : Nat → Option D}
mutual
theorem Rep.low (hd : ∀ k a, ρ k = some a → k < n) : ∀ (d : D) (v : V), Rep T K ρ F d v → lowD n d
  | .lst ds, v, h => by obtain ⟨_, vs, _, _, r⟩ := h; exact RepL.low hd ds vs r
  | .klst ds, v, h => by obtain ⟨_, vs, _, _, r⟩ := h; exact RepL.low hd ds vs r
  | .tup ds, v, h => by obtain ⟨_, vs, _, _, r⟩ := h; exact RepL.low hd ds vs r
  | .obj C fs, v, h => by obtain ⟨_, _, vs, _, _, r⟩ := h; exact RepF.low hd fs vs r
  | .exn C fs, v, h => by obtain ⟨_, _, vs, _, _, _, r⟩ := h; exact RepF.low hd fs vs r
  | .dK kvs, v, h => by obtain ⟨_, vs, _, _, r⟩ := h; exact RepK.low hd kvs vs r
  | .dT kvs, v, h => by obtain ⟨_, vs, _, _, r⟩ := h; exact RepT.low hd kvs vs r
  | .cell k, v, h => by obtain ⟨a, _, q⟩ := h; exact hd k a q
  | .non, _, _ => trivial
  | .bl _, _, _ => trivial
  | .int _, _, _ => trivial
  | .str _, _, _ => trivial
  | .glob _, _, _ => trivial
  | .ty _, _, _ => trivial
theorem RepL.low (hd : ∀ k a, ρ k = some a → k < n) : ∀ (ds : List D) (vs : List V), RepL T K ρ F ds vs → lowL n ds
  | [], _, _ => trivial
  | d :: ds, vs, h => by obtain ⟨v, r, _, q, q2⟩ := h; exact ⟨Rep.low hd d v q, RepL.low hd ds r q2⟩
theorem RepF.low (hd : ∀ k a, ρ k = some a → k < n) : ∀ (ds : List (Str × D)) (vs : List (Str × V)), RepF T K ρ F ds vs → lowF n ds
  | [], _, _ => trivial
  | (x, d) :: ds, vs, h => by obtain ⟨v, r, _, q, q2⟩ := h; exact ⟨Rep.low hd d v q, RepF.low hd ds r q2⟩
theorem RepK.low (hd : ∀ k a, ρ k = some a → k < n) : ∀ (ds : List (Key × D)) (vs : List (Key × V)), RepK T K ρ F ds vs → lowK n ds
  | [], _, _ => trivial
  | (x, d) :: ds, vs, h => by obtain ⟨v, r, _, q, q2⟩ := h; exact ⟨Rep.low hd d v q, RepK.low hd ds r q2⟩
theorem RepT.low (hd : ∀ k a, ρ k = some a → k < n) : ∀ (ds : List (List Key × D)) (vs : List (List Key × V)), RepT T K ρ F ds vs → lowT n ds
  | [], _, _ => trivial
  | (x, d) :: ds, vs, h => by obtain ⟨v, r, _, q, q2⟩ := h; exact ⟨Rep.low hd d v q, RepT.low hd ds r q2⟩
end
theorem HObj.low (hd : ∀ k a, ρ k = some a → k < n) {c : CO} {o : HO} (h : HObj T K ρ F c o) : lowCO n c := by
  cases c with
  | lst ds => obtain ⟨vs, _, r⟩ := h; exact RepL.low hd _ _ r
  | dK kvs => obtain ⟨vs, _, r⟩ := h; exact RepK.low hd _ _ r
  | dT kvs => obtain ⟨vs, _, r⟩ := h; exact RepT.low hd _ _ r
  | ins C fs => obtain ⟨_, vs, _, r⟩ := h; exact RepF.low hd _ _ r
mutual
theorem Rep.cut (hs : Sub F F') : ∀ (d : D) (v : V), lowD n d → Rep T K ρ F d v → Rep T K (cutR ρ n) F' d v
  | .lst ds, v, l, h => by obtain ⟨a, vs, e, q, r⟩ := h; exact ⟨a, vs, e, hs _ _ q, RepL.cut hs ds vs l r⟩
  | .klst ds, v, l, h => by obtain ⟨a, vs, e, q, r⟩ := h; exact ⟨a, vs, e, hs.seqL q, RepL.cut hs ds vs l r⟩
  | .tup ds, v, l, h => by obtain ⟨a, vs, e, q, r⟩ := h; exact ⟨a, vs, e, hs.seqT q, RepL.cut hs ds vs l r⟩
  | .obj C fs, v, l, h => by obtain ⟨a, dx, vs, e, q, r⟩ := h; exact ⟨a, dx, vs, e, hs _ _ q, RepF.cut hs fs vs l r⟩
  | .exn C fs, v, l, h => by obtain ⟨a, d, vs, e, q, q2, r⟩ := h; exact ⟨a, d, vs, e, hs _ _ q, q2.map fun b z => hs b _ z, RepF.cut hs fs vs l r⟩
  | .dK kvs, v, l, h => by obtain ⟨a, vs, e, q, r⟩ := h; exact ⟨a, vs, e, hs _ _ q, RepK.cut hs kvs vs l r⟩
  | .dT kvs, v, l, h => by obtain ⟨a, vs, e, q, r⟩ := h; exact ⟨a, vs, e, hs _ _ q, RepT.cut hs kvs vs l r⟩
  | .cell k, v, l, h => by
    obtain ⟨a, e, q⟩ := h
    exact ⟨a, e, by show (if k < n then ρ k else none) = _; rw [if_pos (show k < n from l)]; exact q⟩
  | .non, _, _, h => h
  | .bl _, _, _, h => h
  | .int _, _, _, h => h
  | .str _, _, _, h => h
  | .glob _, _, _, h => h
  | .ty _, _, _, h => h
theorem RepL.cut (hs : Sub F F') : ∀ (ds : List D) (vs : List V), lowL n ds → RepL T K ρ F ds vs → RepL T K (cutR ρ n) F' ds vs
  | [], _, _, h => h
  | d :: ds, vs, l, h => by obtain ⟨v, r, e, q, q2⟩ := h; exact ⟨v, r, e, Rep.cut hs d v l.1 q, RepL.cut hs ds r l.2 q2⟩
theorem RepF.cut (hs : Sub F F') : ∀ (ds : List (Str × D)) (vs : List (Str × V)), lowF n ds → RepF T K ρ F ds vs → RepF T K (cutR ρ n) F' ds vs
  | [], _, _, h => h
  | (x, d) :: ds, vs, l, h => by obtain ⟨v, r, e, q, q2⟩ := h; exact ⟨v, r, e, Rep.cut hs d v l.1 q, RepF.cut hs ds r l.2 q2⟩
theorem RepK.cut (hs : Sub F F') : ∀ (ds : List (Key × D)) (vs : List (Key × V)), lowK n ds → RepK T K ρ F ds vs → RepK T K (cutR ρ n) F' ds vs
  | [], _, _, h => h
  | (x, d) :: ds, vs, l, h => by obtain ⟨v, r, e, q, q2⟩ := h; exact ⟨v, r, e, Rep.cut hs d v l.1 q, RepK.cut hs ds r l.2 q2⟩
theorem RepT.cut (hs : Sub F F') : ∀ (ds : List (List Key × D)) (vs : List (List Key × V)), lowT n ds → RepT T K ρ F ds vs → RepT T K (cutR ρ n) F' ds vs
  | [], _, _, h => h
  | (x, d) :: ds, vs, l, h => by obtain ⟨v, r, e, q, q2⟩ := h; exact ⟨v, r, e, Rep.cut hs d v l.1 q, RepT.cut hs ds r l.2 q2⟩
end
theorem HObj.cut (hs : Sub F F') {c : CO} {o : HO} (l : lowCO n c) (h : HObj T K ρ F c o) : HObj T K (cutR ρ n) F' c o := by
  cases c with
  | lst ds => obtain ⟨vs, e, r⟩ := h; exact ⟨vs, e, RepL.cut hs _ _ l r⟩
  | dK kvs => obtain ⟨vs, e, r⟩ := h; exact ⟨vs, e, RepK.cut hs _ _ l r⟩
  | dT kvs => obtain ⟨vs, e, r⟩ := h; exact ⟨vs, e, RepT.cut hs _ _ l r⟩
  | ins C fs => obtain ⟨dx, vs, e, r⟩ := h; exact ⟨dx, vs, e, RepF.cut hs _ _ l r⟩
mutual
theorem Rep.melt (hs : Sub F F') (hf : ∀ k d a, f k = some d → ρ k = some a → Rep T K ρ' F' d (.ref a)) : ∀ (d : D) (v : V) (d' : D), melt0 f d = some d' → Rep T K ρ F d v → Rep T K ρ' F' d' v
  | .lst ds, v, d', m, h => by
    obtain ⟨a, vs, e, q, r⟩ := h
    obtain ⟨es, m1, rfl⟩ := Option.map_eq_some_iff.mp m
    exact ⟨a, vs, e, hs _ _ q, RepL.melt hs hf ds vs es m1 r⟩
  | .klst ds, v, d', m, h => by
    obtain ⟨a, vs, e, q, r⟩ := h
    obtain ⟨es, m1, rfl⟩ := Option.map_eq_some_iff.mp m
    exact ⟨a, vs, e, hs.seqL q, RepL.melt hs hf ds vs es m1 r⟩
  | .tup ds, v, d', m, h => by
    obtain ⟨a, vs, e, q, r⟩ := h
    obtain ⟨es, m1, rfl⟩ := Option.map_eq_some_iff.mp m
    exact ⟨a, vs, e, hs.seqT q, RepL.melt hs hf ds vs es m1 r⟩
  | .obj C fs, v, d', m, h => by
    obtain ⟨a, dx, vs, e, q, r⟩ := h
    obtain ⟨es, m1, rfl⟩ := Option.map_eq_some_iff.mp m
    exact ⟨a, dx, vs, e, hs _ _ q, RepF.melt hs hf fs vs es m1 r⟩
  | .exn C fs, v, d', m, h => by
    obtain ⟨a, d, vs, e, q, q2, r⟩ := h
    obtain ⟨es, m1, rfl⟩ := Option.map_eq_some_iff.mp m
    exact ⟨a, d, vs, e, hs _ _ q, q2.map fun b z => hs b _ z, RepF.melt hs hf fs vs es m1 r⟩
  | .dK kvs, v, d', m, h => by
    obtain ⟨a, vs, e, q, r⟩ := h
    obtain ⟨es, m1, rfl⟩ := Option.map_eq_some_iff.mp m
    exact ⟨a, vs, e, hs _ _ q, RepK.melt hs hf kvs vs es m1 r⟩
  | .dT kvs, v, d', m, h => by
    obtain ⟨a, vs, e, q, r⟩ := h
    obtain ⟨es, m1, rfl⟩ := Option.map_eq_some_iff.mp m
    exact ⟨a, vs, e, hs _ _ q, RepT.melt hs hf kvs vs es m1 r⟩
  | .cell k, v, d', m, h => by
    obtain ⟨a, e, q⟩ := h
    rw [e]
    exact hf k d' a m q
  | .non, v, d', m, h => by cases m; exact h
  | .bl _, v, d', m, h => by cases m; exact h
  | .int _, v, d', m, h => by cases m; exact h
  | .str _, v, d', m, h => by cases m; exact h
  | .glob _, v, d', m, h => by cases m; exact h
  | .ty _, v, d', m, h => by cases m; exact h
theorem RepL.melt (hs : Sub F F') (hf : ∀ k d a, f k = some d → ρ k = some a → Rep T K ρ' F' d (.ref a)) : ∀ (ds : List D) (vs : List V) (es : List D), meltL f ds = some es → RepL T K ρ F ds vs → RepL T K ρ' F' es vs
  | [], vs, es, m, h => by cases m; exact h
  | d :: ds, vs, es, m, h => by
    obtain ⟨v, r, e, q, q2⟩ := h
    unfold meltL at m
    cases h1 : melt0 f d with
    | none => rw [h1] at m; cases m
    | some a =>
      cases h2 : meltL f ds with
      | none => rw [h1, h2] at m; cases m
      | some b =>
        rw [h1, h2] at m
        cases m
        exact ⟨v, r, e, Rep.melt hs hf d v a h1 q, RepL.melt hs hf ds r b h2 q2⟩
theorem RepF.melt (hs : Sub F F') (hf : ∀ k d a, f k = some d → ρ k = some a → Rep T K ρ' F' d (.ref a)) : ∀ (ds : List (Str × D)) (vs : List (Str × V)) (es : List (Str × D)), meltF f ds = some es → RepF T K ρ F ds vs → RepF T K ρ' F' es vs
  | [], vs, es, m, h => by cases m; exact h
  | (x, d) :: ds, vs, es, m, h => by
    obtain ⟨v, r, e, q, q2⟩ := h
    unfold meltF at m
    dsimp only at m
    cases h1 : melt0 f d with
    | none => rw [h1] at m; cases m
    | some a =>
      cases h2 : meltF f ds with
      | none => rw [h1, h2] at m; cases m
      | some b =>
        rw [h1, h2] at m
        cases m
        exact ⟨v, r, e, Rep.melt hs hf d v a h1 q, RepF.melt hs hf ds r b h2 q2⟩
theorem RepK.melt (hs : Sub F F') (hf : ∀ k d a, f k = some d → ρ k = some a → Rep T K ρ' F' d (.ref a)) : ∀ (ds : List (Key × D)) (vs : List (Key × V)) (es : List (Key × D)), meltK f ds = some es → RepK T K ρ F ds vs → RepK T K ρ' F' es vs
  | [], vs, es, m, h => by cases m; exact h
  | (x, d) :: ds, vs, es, m, h => by
    obtain ⟨v, r, e, q, q2⟩ := h
    unfold meltK at m
    dsimp only at m
    cases h1 : melt0 f d with
    | none => rw [h1] at m; cases m
    | some a =>
      cases h2 : meltK f ds with
      | none => rw [h1, h2] at m; cases m
      | some b =>
        rw [h1, h2] at m
        cases m
        exact ⟨v, r, e, Rep.melt hs hf d v a h1 q, RepK.melt hs hf ds r b h2 q2⟩
theorem RepT.melt (hs : Sub F F') (hf : ∀ k d a, f k = some d → ρ k = some a → Rep T K ρ' F' d (.ref a)) : ∀ (ds : List (List Key × D)) (vs : List (List Key × V)) (es : List (List Key × D)), meltT f ds = some es → RepT T K ρ F ds vs → RepT T K ρ' F' es vs
  | [], vs, es, m, h => by cases m; exact h
  | (x, d) :: ds, vs, es, m, h => by
    obtain ⟨v, r, e, q, q2⟩ := h
    unfold meltT at m
    dsimp only at m
    cases h1 : melt0 f d with
    | none => rw [h1] at m; cases m
    | some a =>
      cases h2 : meltT f ds with
      | none => rw [h1, h2] at m; cases m
      | some b =>
        rw [h1, h2] at m
        cases m
        exact ⟨v, r, e, Rep.melt hs hf d v a h1 q, RepT.melt hs hf ds r b h2 q2⟩
end
theorem HObj.melt (hs : Sub F F') (hf : ∀ k d a, f k = some d → ρ k = some a → Rep T K ρ' F' d (.ref a)) {c c' : CO} {o : HO} (m : meltCO f c = some c') (h : HObj T K ρ F c o) : HObj T K ρ' F' c' o := by
  cases c with
  | lst ds =>
    obtain ⟨vs, e, r⟩ := h
    obtain ⟨es, m1, rfl⟩ := Option.map_eq_some_iff.mp m
    exact ⟨vs, e, RepL.melt hs hf _ _ _ m1 r⟩
  | dK kvs =>
    obtain ⟨vs, e, r⟩ := h
    obtain ⟨es, m1, rfl⟩ := Option.map_eq_some_iff.mp m
    exact ⟨vs, e, RepK.melt hs hf _ _ _ m1 r⟩
  | dT kvs =>
    obtain ⟨vs, e, r⟩ := h
    obtain ⟨es, m1, rfl⟩ := Option.map_eq_some_iff.mp m
    exact ⟨vs, e, RepT.melt hs hf _ _ _ m1 r⟩
  | ins C fs =>
    obtain ⟨dx, vs, e, r⟩ := h
    obtain ⟨es, m1, rfl⟩ := Option.map_eq_some_iff.mp m
    exact ⟨dx, vs, e, RepF.melt hs hf _ _ _ m1 r⟩
end
section
variable {T : Str → Addr} {K : PySem.W.Frag} {ρ ρ' : Nat → Option Addr} {Z : Hid} {H' : Hp} {n : Nat} {S S' S'' : Sto}
theorem fz_cut : Sub (Fz ρ' Z H') (Fz (cutR ρ' n) Z H') := fun a o h => by
  obtain ⟨h1, h2, h3⟩ := Fz_at h
  refine Fz_mk h1 h2 fun k e => ?_
  unfold cutR at e
  split at e
  · exact h3 k e
  · cases e
theorem meltC_ok (w : Wd T K ρ' S' Z H') : ∀ (m : Nat) (k : Nat) (d : D) (a : Addr), meltC S' n m k = some d → ρ' k = some a → Rep T K (cutR ρ' n) (Fz (cutR ρ' n) Z H') d (.ref a)
  | 0, k, d, a, h, _ => by cases h
  | m + 1, k, d, a, h, e => by
    unfold meltC at h
    split at h
    · rename_i hk
      cases h
      exact ⟨a, rfl, by unfold cutR; rw [if_pos hk]; exact e⟩
    · rename_i hk
      cases hc : S'[k]? with
      | none => rw [hc] at h; cases h
      | some c =>
        rw [hc] at h
        obtain ⟨c', m1, rfl⟩ := Option.map_eq_some_iff.mp h
        obtain ⟨b, o, h1, h2, h3, h4⟩ := w.cells k c hc
        rw [e] at h1
        cases h1
        have h5 := HObj.melt fz_cut (fun k d a => meltC_ok w m k d a) m1 h4
        refine h5.frzD (fun _ _ h => h) (Fz_mk h3 h2 fun j q => ?_)
        unfold cutR at q
        split at q
        · rename_i hj
          have := w.inj j k a q e
          omega
        · cases q
theorem mkeep_len {f : Nat → Option D} : ∀ {A B C : List CO}, mkeep f A B = some C → C.length = A.length
  | [], _, C, h => by cases h; rfl
  | c :: r, c' :: r', C, h => by
    unfold mkeep at h
    split at h
    · rename_i a b h1 h2
      cases h
      rw [List.length_cons, List.length_cons, mkeep_len h2]
    · cases h
  | _ :: _, [], C, h => by cases h
theorem mkeep_get {f : Nat → Option D} : ∀ {A B C : List CO} {k : Nat} {c : CO}, mkeep f A B = some C → C[k]? = some c → (A[k]? = some c ∧ B[k]? = some c) ∨ ∃ b, B[k]? = some b ∧ meltCO f b = some c
  | [], _, C, k, c, h, g => by cases h; cases g
  | c0 :: r, c' :: r', C, k, c, h, g => by
    unfold mkeep at h
    split at h
    · rename_i a b h1 h2
      cases h
      cases k with
      | zero =>
        simp at g
        subst g
        split at h1
        · rename_i he
          cases h1
          have := eqCO_eq he
          subst this
          exact .inl ⟨rfl, rfl⟩
        · exact .inr ⟨c', rfl, h1⟩
      | succ k =>
        have := mkeep_get (k := k) (c := c) h2 (by simpa using g)
        simpa using this
    · cases h
  | _ :: _, [], C, _, _, h, _ => by cases h
theorem world_melt (hd : ∀ k a, ρ k = some a → k < S.length) (h0 : ∀ (k : Nat) (c : CO), S[k]? = some c → ∃ F o, HObj T K ρ F c o) (w : Wd T K ρ' S' Z H') {m : Nat} (hm : mkeep (meltC S' S.length m) S S' = some S'') :
    Wd T K (cutR ρ' S.length) S'' Z H' := by
  have hl := mkeep_len hm
  refine ⟨fun k a h => ?_, fun k c h => ?_, fun j k a h1 h2 => ?_, w.there⟩
  · unfold cutR at h
    split at h
    · omega
    · cases h
  · have hk : k < S.length := by
      have := (List.getElem?_eq_some_iff.mp h).1
      omega
    have hc : cutR ρ' S.length k = ρ' k := by unfold cutR; rw [if_pos hk]
    rcases mkeep_get hm h with ⟨h1, h2⟩ | ⟨b, h1, h2⟩
    · obtain ⟨a, o, g1, g2, g3, g4⟩ := w.cells k c h2
      obtain ⟨F, o0, g5⟩ := h0 k c h1
      exact ⟨a, o, hc.trans g1, g2, g3, g4.cut fz_cut (g5.low hd)⟩
    · obtain ⟨a, o, g1, g2, g3, g4⟩ := w.cells k b h1
      exact ⟨a, o, hc.trans g1, g2, g3, HObj.melt fz_cut (fun k d a => meltC_ok w m k d a) h2 g4⟩
  · unfold cutR at h1 h2
    split at h1
    · split at h2
      · exact w.inj j k a h1 h2
      · cases h2
    · cases h1
end
theorem Wd.objs {T : Str → Addr} {K : PySem.W.Frag} {ρ : Nat → Option Addr} {S : Sto} {Z : Hid} {H : Hp} (w : Wd T K ρ S Z H) : ∀ (k : Nat) (c : CO), S[k]? = some c → ∃ F o, HObj T K ρ F c o := fun k c h => by
  obtain ⟨_, o, _, _, _, q⟩ := w.cells k c h
  exact ⟨_, o, q⟩
theorem cut_keep {ρ ρ' : Nat → Option Addr} {n : Nat} (hd : ∀ k a, ρ k = some a → k < n) (hc : ∀ k a, ρ k = some a → ρ' k = some a) : ∀ k a, ρ k = some a → cutR ρ' n k = some a := fun k a h => by
  unfold cutR
  rw [if_pos (hd k a h)]
  exact hc k a h
def mltR (S : Sto) : R D → R D
  | .ok d S' => if S'.length = S.length then .ok d S' else match melt0 (meltC S' S.length 6) d, mkeep (meltC S' S.length 6) S S' with
    | some d', some S'' => .ok d' S''
    | _, _ => .stuck
  | .exc C fs S' => if S'.length = S.length then .exc C fs S' else match meltF (meltC S' S.length 6) fs, mkeep (meltC S' S.length 6) S S' with
    | some fs', some S'' => .exc C fs' S''
    | _, _ => .stuck
  | .stuck => .stuck
def mlt (M : List D → Cm D) : List D → Cm D := fun ds S => mltR S (M ds S)
section
variable {T : Str → Addr} {K : PySem.W.Frag} {W : WX} {σ : St} {ρ : Nat → Option Addr} {Z : Hid} {H : Hp} {S : Sto} {Q : VK}
theorem Good.melt (w : Wd T K ρ S Z H) {r : R D} (g : Good T K (rD T K) W σ Q ρ Z H (mltR S r)) : Good T K (rD T K) W σ Q ρ Z H r := by
  cases r with
  | ok d S' =>
    by_cases hl : S'.length = S.length
    · have e : mltR S (.ok d S') = .ok d S' := if_pos hl
      rw [e] at g
      exact g
    · have e : mltR S (.ok d S') = (match melt0 (meltC S' S.length 6) d, mkeep (meltC S' S.length 6) S S' with
        | some d', some S'' => .ok d' S''
        | _, _ => .stuck) := if_neg hl
      rw [e] at g
      cases h1 : melt0 (meltC S' S.length 6) d with
      | none =>
        rw [h1] at g
        exact g.elim
      | some d' =>
        cases h2 : mkeep (meltC S' S.length 6) S S' with
        | none =>
          rw [h1, h2] at g
          exact g.elim
        | some S'' =>
          rw [h1, h2] at g
          intro v H' ρ' x w' q
          refine g v H' (cutR ρ' S.length) ⟨cut_keep w.dom x.cells, fun a o h => fz_cut a o (x.frz a o h), x.hid⟩ (world_melt w.dom w.objs w' h2) ?_
          exact Rep.melt fz_cut (fun k d a => meltC_ok w' 6 k d a) d v d' h1 q
  | exc C fs S' =>
    by_cases hl : S'.length = S.length
    · have e : mltR S (.exc C fs S') = .exc C fs S' := if_pos hl
      rw [e] at g
      exact g
    · have e : mltR S (.exc C fs S') = (match meltF (meltC S' S.length 6) fs, mkeep (meltC S' S.length 6) S S' with
        | some fs', some S'' => .exc C fs' S''
        | _, _ => .stuck) := if_neg hl
      rw [e] at g
      cases h1 : meltF (meltC S' S.length 6) fs with
      | none =>
        rw [h1] at g
        exact g.elim
      | some fs' =>
        cases h2 : mkeep (meltC S' S.length 6) S S' with
        | none =>
          rw [h1, h2] at g
          exact g.elim
        | some S'' =>
          rw [h1, h2] at g
          intro dx vs H' ρ' x w' q1 q2
          refine g dx vs H' (cutR ρ' S.length) ⟨cut_keep w.dom x.cells, fun a o h => fz_cut a o (x.frz a o h), x.hid⟩ (world_melt w.dom w.objs w' h2) (q1.map fun b z => fz_cut b _ z) ?_
          exact RepF.melt fz_cut (fun k d a => meltC_ok w' 6 k d a) fs vs fs' h1 q2
  | stuck => exact g
end
theorem ft_melt {P : Program} {w : World} {K : PySem.W.Frag} {mg : Str → Option Value} {base : Heap} {T : Str → Addr} {k : Nat} {f : Addr} {fd : FuncData} {ps : List Str} {M : List D → Cm D} (F : FT P w K mg base T k f fd ps M) : FT P w K mg base T k f fd ps (mlt M) := by
  refine ⟨fun ds S h => ?_, fun A outer s H args us vs Q E lv e0 b r hl sp => ?_⟩
  · show mltR S (M ds S) = .stuck
    rw [F.len ds S h]
    rfl
  · obtain ⟨ρ, S, Z, ds, w, r2, g⟩ := sp
    exact F.run A outer s H args us vs Q E lv e0 b r hl ⟨ρ, S, Z, ds, w, r2, Good.melt w g⟩
end HT
set_option maxRecDepth 100000
set_option maxHeartbeats 800000
namespace HT
open PySem PySem.Spec L2
def mltO (S : Sto) : R CO → R CO
  | .ok c S' => if S'.length = S.length then .ok c S' else match meltCO (meltC S' S.length 6) c, mkeep (meltC S' S.length 6) S S' with
    | some c', some S'' => .ok c' S''
    | _, _ => .stuck
  | .exc C fs S' => if S'.length = S.length then .exc C fs S' else match meltF (meltC S' S.length 6) fs, mkeep (meltC S' S.length 6) S S' with
    | some fs', some S'' => .exc C fs' S''
    | _, _ => .stuck
  | .stuck => .stuck
section
variable {T : Str → Addr} {K : PySem.W.Frag} {W : WX} {σ : St} {ρ : Nat → Option Addr} {Z : Hid} {H : Hp} {S : Sto} {Q : VK}
theorem GoodO.melt (w : Wd T K ρ S Z H) {r : R CO} (g : GoodO T K W σ Q ρ Z H (mltO S r)) : GoodO T K W σ Q ρ Z H r := by
  cases r with
  | ok c S' =>
    by_cases hl : S'.length = S.length
    · have e : mltO S (.ok c S') = .ok c S' := if_pos hl
      rw [e] at g
      exact g
    · have e : mltO S (.ok c S') = (match meltCO (meltC S' S.length 6) c, mkeep (meltC S' S.length 6) S S' with
        | some d', some S'' => .ok d' S''
        | _, _ => .stuck) := if_neg hl
      rw [e] at g
      cases h1 : meltCO (meltC S' S.length 6) c with
      | none =>
        rw [h1] at g
        exact g.elim
      | some d' =>
        cases h2 : mkeep (meltC S' S.length 6) S S' with
        | none =>
          rw [h1, h2] at g
          exact g.elim
        | some S'' =>
          rw [h1, h2] at g
          intro p H' ρ' n
          refine g p H' (cutR ρ' S.length) ⟨cut_keep w.dom n.cells, fun a o h => fz_cut a o (n.frz a o h), n.hid, world_melt w.dom w.objs n.w h2, n.nz, ?_⟩
          obtain ⟨o, q1, q2⟩ := n.obj
          exact ⟨o, q1, HObj.melt fz_cut (fun k d a => meltC_ok n.w 6 k d a) h1 q2⟩
  | exc C fs S' =>
    by_cases hl : S'.length = S.length
    · have e : mltO S (.exc C fs S') = .exc C fs S' := if_pos hl
      rw [e] at g
      exact g
    · have e : mltO S (.exc C fs S') = (match meltF (meltC S' S.length 6) fs, mkeep (meltC S' S.length 6) S S' with
        | some fs', some S'' => .exc C fs' S''
        | _, _ => .stuck) := if_neg hl
      rw [e] at g
      cases h1 : meltF (meltC S' S.length 6) fs with
      | none =>
        rw [h1] at g
        exact g.elim
      | some fs' =>
        cases h2 : mkeep (meltC S' S.length 6) S S' with
        | none =>
          rw [h1, h2] at g
          exact g.elim
        | some S'' =>
          rw [h1, h2] at g
          intro dx vs H' ρ' x w' q1 q2
          refine g dx vs H' (cutR ρ' S.length) ⟨cut_keep w.dom x.cells, fun a o h => fz_cut a o (x.frz a o h), x.hid⟩ (world_melt w.dom w.objs w' h2) (q1.map fun b z => fz_cut b _ z) ?_
          exact RepF.melt fz_cut (fun k d a => meltC_ok w' 6 k d a) fs vs fs' h1 q2
  | stuck => exact g
end
def meltSl (f : Nat → Option D) : Sl → Option Sl
  | .un => some .un
  | .val d => (melt0 f d).map .val
  | .own c => (meltCO f c).map .own
  | .slf c => (meltCO f c).map .slf
def meltE (f : Nat → Option D) : Env → Option Env
  | [] => some []
  | s :: r => match meltSl f s, meltE f r with
    | some a, some b => some (a :: b)
    | _, _ => none
def meltFl (f : Nat → Option D) : Fl → Option Fl
  | .nx e => (meltE f e).map .nx
  | .bk e => (meltE f e).map .bk
  | .ct e => (meltE f e).map .ct
  | .rt d => (melt0 f d).map .rt
  | .xc e C fs => match meltE f e, meltF f fs with
    | some e', some fs' => some (.xc e' C fs')
    | _, _ => none
def mltF (S : Sto) : R Fl → R Fl
  | .ok d S' => if S'.length = S.length then .ok d S' else match meltFl (meltC S' S.length 6) d, mkeep (meltC S' S.length 6) S S' with
    | some d', some S'' => .ok d' S''
    | _, _ => .stuck
  | .exc C fs S' => .exc C fs S'
  | .stuck => .stuck
def sMelt (F : FS) : FS := fun env S => mltF S (F env S)
section
variable {T : Str → Addr} {K : PySem.W.Frag} {W : WX} {B : Ends} {σ : St} {ρ ρ' : Nat → Option Addr} {Z0 Z Z' : Hid} {H H' : Hp} {S S' S'' : Sto} {env env' : Env} {f : Nat → Option D}
theorem meltE_len : ∀ {e e' : Env}, meltE f e = some e' → e'.length = e.length
  | [], e', h => by cases h; rfl
  | s :: r, e', h => by
    unfold meltE at h
    split at h
    · rename_i a b h1 h2
      cases h
      rw [List.length_cons, List.length_cons, meltE_len h2]
    · cases h
theorem meltE_get : ∀ {e e' : Env} {i : Nat} {s : Sl}, meltE f e = some e' → e'[i]? = some s → ∃ s0, e[i]? = some s0 ∧ meltSl f s0 = some s
  | [], e', i, s, h, g => by cases h; cases g
  | s0 :: r, e', i, s, h, g => by
    unfold meltE at h
    split at h
    · rename_i a b h1 h2
      cases h
      cases i with
      | zero =>
        simp at g
        subst g
        exact ⟨s0, rfl, h1⟩
      | succ i =>
        obtain ⟨s1, q1, q2⟩ := meltE_get (i := i) h2 (by simpa using g)
        exact ⟨s1, by simpa using q1, q2⟩
    · cases h
theorem sl_val {s0 : Sl} {d : D} (h : meltSl f s0 = some (.val d)) : ∃ d0, s0 = .val d0 ∧ melt0 f d0 = some d := by
  cases s0 with
  | un => cases h
  | val d0 =>
    obtain ⟨a, h1, h2⟩ := Option.map_eq_some_iff.mp h
    cases h2
    exact ⟨d0, rfl, h1⟩
  | own c => obtain ⟨a, h1, h2⟩ := Option.map_eq_some_iff.mp h; cases h2
  | slf c => obtain ⟨a, h1, h2⟩ := Option.map_eq_some_iff.mp h; cases h2
theorem sl_own {s0 : Sl} {c : CO} (h : meltSl f s0 = some (.own c)) : ∃ c0, s0 = .own c0 ∧ meltCO f c0 = some c := by
  cases s0 with
  | un => cases h
  | val d0 => obtain ⟨a, h1, h2⟩ := Option.map_eq_some_iff.mp h; cases h2
  | own c0 =>
    obtain ⟨a, h1, h2⟩ := Option.map_eq_some_iff.mp h
    cases h2
    exact ⟨c0, rfl, h1⟩
  | slf c => obtain ⟨a, h1, h2⟩ := Option.map_eq_some_iff.mp h; cases h2
theorem sl_slf {s0 : Sl} {c : CO} (h : meltSl f s0 = some (.slf c)) : ∃ c0, s0 = .slf c0 ∧ meltCO f c0 = some c := by
  cases s0 with
  | un => cases h
  | val d0 => obtain ⟨a, h1, h2⟩ := Option.map_eq_some_iff.mp h; cases h2
  | own c => obtain ⟨a, h1, h2⟩ := Option.map_eq_some_iff.mp h; cases h2
  | slf c0 =>
    obtain ⟨a, h1, h2⟩ := Option.map_eq_some_iff.mp h
    cases h2
    exact ⟨c0, rfl, h1⟩
theorem At.melt (a : At T K ρ' S' Z0 Z' H' σ env) (hm : mkeep (meltC S' S.length 6) S S' = some S'') (he : meltE (meltC S' S.length 6) env = some env') (w0 : Wd T K ρ S Z H) : At T K (cutR ρ' S.length) S'' Z0 Z' H' σ env' := by
  refine ⟨world_melt w0.dom w0.objs a.w hm, ⟨fun i d h => ?_, fun i c h => ?_, fun i c h => ?_, by rw [meltE_len he]; exact a.e.len⟩, ⟨a.o.sub, fun i c b h1 h2 => ?_, fun i j c c' b h1 h2 h3 h4 => ?_, a.o.me, fun i c h => ?_, fun i j c c' b h1 h2 h3 => ?_, fun i j c c' h1 h2 => ?_⟩⟩
  · obtain ⟨s0, q1, q2⟩ := meltE_get he h
    obtain ⟨d0, rfl, q3⟩ := sl_val q2
    obtain ⟨v, q4, q5⟩ := a.e.val i d0 q1
    exact ⟨v, q4, Rep.melt fz_cut (fun k d b => meltC_ok a.w 6 k d b) d0 v d q3 q5⟩
  · obtain ⟨s0, q1, q2⟩ := meltE_get he h
    obtain ⟨c0, rfl, q3⟩ := sl_own q2
    obtain ⟨b, o, q4, q5, q6, q7⟩ := a.e.own i c0 q1
    exact ⟨b, o, q4, q5, q6, HObj.melt fz_cut (fun k d b => meltC_ok a.w 6 k d b) q3 q7⟩
  · obtain ⟨s0, q1, q2⟩ := meltE_get he h
    obtain ⟨c0, rfl, q3⟩ := sl_slf q2
    obtain ⟨o, q4, q5, q6, q7⟩ := a.e.slf i c0 q1
    exact ⟨o, q4, q5, q6, HObj.melt fz_cut (fun k d b => meltC_ok a.w 6 k d b) q3 q7⟩
  · obtain ⟨s0, q1, q2⟩ := meltE_get he h1
    obtain ⟨c0, rfl, q3⟩ := sl_own q2
    exact a.o.own i c0 b q1 h2
  · obtain ⟨s0, q1, q2⟩ := meltE_get he h1
    obtain ⟨c0, rfl, q3⟩ := sl_own q2
    obtain ⟨s1, p1, p2⟩ := meltE_get he h2
    obtain ⟨c1, rfl, p3⟩ := sl_own p2
    exact a.o.apart i j c0 c1 b q1 p1 h3 h4
  · obtain ⟨s0, q1, q2⟩ := meltE_get he h
    obtain ⟨c0, rfl, q3⟩ := sl_slf q2
    exact a.o.slf i c0 q1
  · obtain ⟨s0, q1, q2⟩ := meltE_get he h1
    obtain ⟨c0, rfl, q3⟩ := sl_own q2
    obtain ⟨s1, p1, p2⟩ := meltE_get he h2
    obtain ⟨c1, rfl, p3⟩ := sl_slf p2
    exact a.o.apart2 i j c0 c1 b q1 p1 h3
  · obtain ⟨s0, q1, q2⟩ := meltE_get he h1
    obtain ⟨c0, rfl, q3⟩ := sl_slf q2
    obtain ⟨s1, p1, p2⟩ := meltE_get he h2
    obtain ⟨c1, rfl, p3⟩ := sl_slf p2
    exact a.o.one i j c0 c1 q1 p1
theorem ExtS.cut (w0 : Wd T K ρ S Z H) (x : ExtS ρ Z0 Z H ρ' Z' H') : ExtS ρ Z0 Z H (cutR ρ' S.length) Z' H' := ⟨cut_keep w0.dom x.cells, fun a o h => fz_cut a o (x.frz a o h), x.hid⟩
theorem GoodS.melt (w0 : Wd T K ρ S Z H) {r : R Fl} (g : GoodS T K W B ρ Z0 Z H (mltF S r)) : GoodS T K W B ρ Z0 Z H r := by
  cases r with
  | ok d S' =>
    by_cases hl : S'.length = S.length
    · have e : mltF S (.ok d S') = .ok d S' := if_pos hl
      rw [e] at g
      exact g
    · have e : mltF S (.ok d S') = (match meltFl (meltC S' S.length 6) d, mkeep (meltC S' S.length 6) S S' with
        | some d', some S'' => .ok d' S''
        | _, _ => .stuck) := if_neg hl
      rw [e] at g
      cases h1 : meltFl (meltC S' S.length 6) d with
      | none =>
        rw [h1] at g
        exact g.elim
      | some d' =>
        cases h2 : mkeep (meltC S' S.length 6) S S' with
        | none =>
          rw [h1, h2] at g
          exact g.elim
        | some S'' =>
          rw [h1, h2] at g
          cases d with
          | nx e =>
            obtain ⟨e', m, rfl⟩ := Option.map_eq_some_iff.mp h1
            exact fun σ' H' ρ' Z' x a => g σ' H' _ Z' (x.cut w0) (At.melt a h2 m w0)
          | bk e =>
            obtain ⟨e', m, rfl⟩ := Option.map_eq_some_iff.mp h1
            exact fun σ' H' ρ' Z' x a => g σ' H' _ Z' (x.cut w0) (At.melt a h2 m w0)
          | ct e =>
            obtain ⟨e', m, rfl⟩ := Option.map_eq_some_iff.mp h1
            exact fun σ' H' ρ' Z' x a => g σ' H' _ Z' (x.cut w0) (At.melt a h2 m w0)
          | rt d =>
            obtain ⟨e', m, rfl⟩ := Option.map_eq_some_iff.mp h1
            exact fun v H' ρ' Z' x z w q => g v H' _ Z' (x.cut w0) z (world_melt w0.dom w0.objs w h2) (Rep.melt fz_cut (fun k d b => meltC_ok w 6 k d b) d v e' m q)
          | xc en C fs =>
            cases m1 : meltE (meltC S' S.length 6) en with
            | none =>
              have : meltFl (meltC S' S.length 6) (.xc en C fs) = none := by simp only [meltFl, m1]
              rw [this] at h1
              cases h1
            | some e' =>
              cases m2 : meltF (meltC S' S.length 6) fs with
              | none =>
                have : meltFl (meltC S' S.length 6) (.xc en C fs) = none := by simp only [meltFl, m1, m2]
                rw [this] at h1
                cases h1
              | some fs' =>
                have : meltFl (meltC S' S.length 6) (.xc en C fs) = some (.xc e' C fs') := by simp only [meltFl, m1, m2]
                rw [this] at h1
                cases h1
                exact fun σ' dx vs H' ρ' Z' x a q1 q2 => g σ' dx vs H' _ Z' (x.cut w0) (At.melt a h2 m1 w0) (q1.map fun b z => fz_cut b _ z) (RepF.melt fz_cut (fun k d b => meltC_ok a.w 6 k d b) fs vs fs' m2 q2)
  | exc C fs S' => exact g
  | stuck => exact g
end
theorem sfs_melt {T : Str → Addr} {X : Cx} {W : WX} {st : List Stmt} {F : FS} (h : SFs T X W st F) : SFs T X W st (sMelt F) := pss_imp h fun B σ H q => by
  obtain ⟨ρ, S, Z0, Z, env, a, g⟩ := q
  exact ⟨ρ, S, Z0, Z, env, a, GoodS.melt a.w g⟩
end HT
set_option maxRecDepth 100000
set_option maxHeartbeats 800000
namespace HT
open PySem PySem.Spec L2
open PyProof.Rows hiding St
section
variable {T : Str → Addr} {X : Cx} {W : WX} {a b : Expr} {Fa Fb : FE} {pos : Pos}
end
end HT
set_option maxRecDepth 100000
set_option maxHeartbeats 800000
namespace HT
open PySem PySem.Spec L2
open PyProof.Rows hiding St
def gSl (d : D) (l h : Option Int) : Cm D := fun S => match d with
  | .tup ds => if HT.sIx ds.length 0 l = 0 ∧ HT.sIx ds.length ds.length h = ds.length then .ok (.tup ds) S else .ok (.tup (cutD ds l h)) S
  | .str z => if z.length ≤ sizeLine then .ok (.str (cutS z l h)) S else .stuck
  | d => match asL S d with
    | some ds => .ok (.lst (cutD ds l h)) S
    | none => .stuck
section
variable {T : Str → Addr} {X : Cx} {W : WX} {e : Expr} {lo hi : Option Expr} {Fe : FE} {Fl Fh : Env → Cm (Option Int)} {pos p2 : Pos}
theorem pf_sl (he : PF T X W e Fe) (hl : POF T X W lo Fl) (hh : POF T X W hi Fh) : PF T X W (.Subscript e (.Slice lo hi none p2) pos) (f3 gSl Fe Fl Fh) := pe_imp (pe_slice (SlR.or sl_list (SlR.or sl_tupA sl_str)) he hl hh) fun σ H Q q => by
  obtain ⟨ρ, S, Z, env, w, er, g⟩ := q
  refine lift_imp (lift_bnd w er g) fun v H1 ⟨ρ1, S1, d1, x1, w1, e1, r1, g1⟩ => ?_
  refine lift_imp (lift_bnd w1 e1 g1) fun l H2 ⟨ρ2, S2, d2, x2, w2, e2, r2, g2⟩ => ?_
  refine lift_imp (lift_bnd w2 e2 g2) fun u H3 ⟨ρ3, S3, d3, x3, w3, e3, r3, g3⟩ => ?_
  have r2' : d2 = l := r2
  have r3' : d3 = u := r3
  subst r2' r3'
  have rv := (x2.trans x3).rep r1
  unfold gSl at g3
  dsimp only at g3
  split at g3
  · rename_i ds
    obtain ⟨a, vs, rfl, h1, h2⟩ := id rv
    refine .inr (.inl ⟨a, vs, rfl, Fz_sub.seqT h1, fun hc => ?_, fun hc p hp => ?_⟩)
    · rw [← h2.len] at hc
      rw [if_pos hc] at g3
      exact g3.now w3 rv
    · rw [← h2.len] at hc
      rw [if_neg hc] at g3
      obtain ⟨x4, w4, f⟩ := new_frz (o := .tup (cutV vs d2 d3)) w3 hp
      exact g3 _ _ ρ3 x4 w4 ⟨p, _, rfl, SqT.of f, x4.repL (cutD_rep h2)⟩
  · split at g3
    · rename_i hz
      cases rv
      exact .inr (.inr ⟨_, rfl, hz, g3.now w3 rfl⟩)
    · exact g3.elim
  · split at g3
    · rename_i ds hds
      obtain ⟨a, vs, rfl, h1, h2⟩ := asL_ok w3 rv hds
      refine .inl ⟨a, vs, rfl, h1, fun p hp => ?_⟩
      obtain ⟨x4, w4, f⟩ := new_frz (o := .lst (cutV vs d2 d3)) w3 hp
      exact g3 _ _ ρ3 x4 w4 ⟨p, _, rfl, f, x4.repL (cutD_rep h2)⟩
    · exact g3.elim
end
end HT
set_option maxRecDepth 100000
set_option maxHeartbeats 800000
namespace HT
open PySem PySem.Spec L2
open PyProof.Rows hiding St
def keyPD : Key → PyData
  | .inl i => .int i
  | .inr x => .str x
mutual
def dq0 (f : Nat → Option PyData) : D → Option PyData
  | .non => some .none
  | .bl b => some (.bool b)
  | .int i => some (.int i)
  | .str x => some (.str x)
  | .lst ds => (dqL f ds).map .list
  | .klst ds => (dqL f ds).map .list
  | .tup ds => (dqL f ds).map .tuple
  | .dK kvs => (dqK f kvs).map .dict
  | .cell k => f k
  | .obj _ _ => none
  | .exn _ _ => none
  | .dT _ => none
  | .glob _ => none
  | .ty _ => none
def dqL (f : Nat → Option PyData) : List D → Option (List PyData)
  | [] => some []
  | d :: ds => match dq0 f d, dqL f ds with
    | some a, some b => some (a :: b)
    | _, _ => none
def dqK (f : Nat → Option PyData) : List (Key × D) → Option (List (PyData × PyData))
  | [] => some []
  | p :: ds => match dq0 f p.2, dqK f ds with
    | some a, some b => some ((keyPD p.1, a) :: b)
    | _, _ => none
end
def dqC (S : Sto) : Nat → Nat → Option PyData
  | 0, _ => none
  | n + 1, k => match S[k]? with
    | some (.lst ds) => (dqL (dqC S n) ds).map .list
    | some (.dK kvs) => (dqK (dqC S n) kvs).map .dict
    | _ => none
def deepq (S : Sto) (d : D) : Option PyData := dq0 (dqC S 4) d
mutual
def Dq (K : PySem.W.Frag) (H : Hp) : PyData → V → Prop
  | .none, v => v = .non
  | .bool b, v => v = .bl b
  | .int i, v => v = .int i
  | .str x, v => v = .str x
  | .list ds, v => ∃ a xs, v = .ref a ∧ SqL K H a xs ∧ DqL K H ds xs
  | .tuple ds, v => ∃ a xs, v = .ref a ∧ SqT K H a xs ∧ DqL K H ds xs
  | .dict ks, v => ∃ a xs, v = .ref a ∧ H a = some (.dK xs) ∧ DqK K H ks xs
def DqL (K : PySem.W.Frag) (H : Hp) : List PyData → List V → Prop
  | [], vs => vs = []
  | d :: ds, vs => ∃ v r, vs = v :: r ∧ Dq K H d v ∧ DqL K H ds r
def DqK (K : PySem.W.Frag) (H : Hp) : List (PyData × PyData) → List (Key × V) → Prop
  | [], vs => vs = []
  | p :: ds, vs => ∃ k v r, vs = (k, v) :: r ∧ p.1 = keyPD k ∧ Dq K H p.2 v ∧ DqK K H ds r
end
section
variable {T : Str → Addr} {K : PySem.W.Frag} {ρ : Nat → Option Addr} {S : Sto} {Z : Hid} {H F : Hp}
mutual
theorem dq0_ok {f : Nat → Option PyData} (hs : Sub F H) (hf : ∀ k pd a, f k = some pd → ρ k = some a → Dq K H pd (.ref a)) : ∀ (d : D) (v : V) (pd : PyData), dq0 f d = some pd → Rep T K ρ F d v → Dq K H pd v
  | .non, v, pd, h, r => by cases h; exact r
  | .bl b, v, pd, h, r => by cases h; exact r
  | .int i, v, pd, h, r => by cases h; exact r
  | .str x, v, pd, h, r => by cases h; exact r
  | .lst ds, v, pd, h, r => by
    obtain ⟨a, vs, e, q, r⟩ := r
    obtain ⟨l, m, rfl⟩ := Option.map_eq_some_iff.mp h
    exact ⟨a, vs, e, SqL.of (hs _ _ q), dqL_ok hs hf ds vs l m r⟩
  | .klst ds, v, pd, h, r => by
    obtain ⟨a, vs, e, q, r⟩ := r
    obtain ⟨l, m, rfl⟩ := Option.map_eq_some_iff.mp h
    exact ⟨a, vs, e, hs.seqL q, dqL_ok hs hf ds vs l m r⟩
  | .tup ds, v, pd, h, r => by
    obtain ⟨a, vs, e, q, r⟩ := r
    obtain ⟨l, m, rfl⟩ := Option.map_eq_some_iff.mp h
    exact ⟨a, vs, e, hs.seqT q, dqL_ok hs hf ds vs l m r⟩
  | .dK kvs, v, pd, h, r => by
    obtain ⟨a, vs, e, q, r⟩ := r
    obtain ⟨l, m, rfl⟩ := Option.map_eq_some_iff.mp h
    exact ⟨a, vs, e, hs _ _ q, dqK_ok hs hf kvs vs l m r⟩
  | .cell k, v, pd, h, r => by
    obtain ⟨a, e, q⟩ := r
    rw [e]
    exact hf k pd a h q
  | .obj _ _, _, _, h, _ => by cases h
  | .exn _ _, _, _, h, _ => by cases h
  | .dT _, _, _, h, _ => by cases h
  | .glob _, _, _, h, _ => by cases h
  | .ty _, _, _, h, _ => by cases h
theorem dqL_ok {f : Nat → Option PyData} (hs : Sub F H) (hf : ∀ k pd a, f k = some pd → ρ k = some a → Dq K H pd (.ref a)) : ∀ (ds : List D) (vs : List V) (l : List PyData), dqL f ds = some l → RepL T K ρ F ds vs → DqL K H l vs
  | [], vs, l, h, r => by cases h; exact r
  | d :: ds, vs, l, h, r => by
    obtain ⟨v, u, e, q, q2⟩ := r
    unfold dqL at h
    cases h1 : dq0 f d with
    | none => rw [h1] at h; cases h
    | some a =>
      cases h2 : dqL f ds with
      | none => rw [h1, h2] at h; cases h
      | some b =>
        rw [h1, h2] at h
        cases h
        exact ⟨v, u, e, dq0_ok hs hf d v a h1 q, dqL_ok hs hf ds u b h2 q2⟩
theorem dqK_ok {f : Nat → Option PyData} (hs : Sub F H) (hf : ∀ k pd a, f k = some pd → ρ k = some a → Dq K H pd (.ref a)) : ∀ (ds : List (Key × D)) (vs : List (Key × V)) (l : List (PyData × PyData)), dqK f ds = some l → RepK T K ρ F ds vs → DqK K H l vs
  | [], vs, l, h, r => by cases h; exact r
  | (k, d) :: ds, vs, l, h, r => by
    obtain ⟨v, u, e, q, q2⟩ := r
    unfold dqK at h
    dsimp only at h
    cases h1 : dq0 f d with
    | none => rw [h1] at h; cases h
    | some a =>
      cases h2 : dqK f ds with
      | none => rw [h1, h2] at h; cases h
      | some b =>
        rw [h1, h2] at h
        cases h
        exact ⟨k, v, u, e, rfl, dq0_ok hs hf d v a h1 q, dqK_ok hs hf ds u b h2 q2⟩
end
theorem dqC_ok (w : Wd T K ρ S Z H) : ∀ (n k : Nat) (pd : PyData) (a : Addr), dqC S n k = some pd → ρ k = some a → Dq K H pd (.ref a)
  | 0, k, pd, a, h, _ => by cases h
  | n + 1, k, pd, a, h, e => by
    unfold dqC at h
    cases hc : S[k]? with
    | none => rw [hc] at h; cases h
    | some c =>
      rw [hc] at h
      obtain ⟨b, o, h1, h2, h3, h4⟩ := w.cells k c hc
      rw [e] at h1
      cases h1
      cases c with
      | lst ds =>
        obtain ⟨vs, rfl, r⟩ := h4
        obtain ⟨l, m, rfl⟩ := Option.map_eq_some_iff.mp h
        exact ⟨a, vs, rfl, SqL.of h3, dqL_ok Fz_sub (fun k pd a => dqC_ok w n k pd a) ds vs l m r⟩
      | dK kvs =>
        obtain ⟨vs, rfl, r⟩ := h4
        obtain ⟨l, m, rfl⟩ := Option.map_eq_some_iff.mp h
        exact ⟨a, vs, rfl, h3, dqK_ok Fz_sub (fun k pd a => dqC_ok w n k pd a) kvs vs l m r⟩
      | dT kvs => cases h
      | ins C fs => cases h
theorem deepq_ok (w : Wd T K ρ S Z H) {d : D} {v : V} {pd : PyData} (h : deepq S d = some pd) (r : Rep T K ρ (Fz ρ Z H) d v) : Dq K H pd v :=
  dq0_ok Fz_sub (fun k pd a => dqC_ok w 4 k pd a) d v pd h r
end
mutual
def Dr (h : Heap) : PyData → Value → Prop
  | .none, v => v = .none
  | .bool b, v => v = .bool b
  | .int i, v => ∃ t, v = .int i t
  | .str x, v => ∃ t, v = .str x t
  | .list ds, v => ∃ a o vs n, v = .ref a ∧ h.get? a = some o ∧ o.cls = .type "list" ∧ o.data = .seq vs n ∧ DrL h ds vs.toList
  | .tuple ds, v => ∃ a o vs n, v = .ref a ∧ h.get? a = some o ∧ o.cls = .type "tuple" ∧ o.data = .seq vs n ∧ DrL h ds vs.toList
  | .dict ks, v => ∃ a o es n, v = .ref a ∧ h.get? a = some o ∧ o.cls = .type "dict" ∧ o.data = .dict es n ∧ (a == sysModules) = false ∧ DrK h ks es.toList
def DrL (h : Heap) : List PyData → List Value → Prop
  | [], vs => vs = []
  | d :: ds, vs => ∃ v r, vs = v :: r ∧ Dr h d v ∧ DrL h ds r
def DrK (h : Heap) : List (PyData × PyData) → List DictEntry → Prop
  | [], es => es = []
  | p :: ds, es => ∃ e r, es = e :: r ∧ Dr h p.1 e.key ∧ Dr h p.2 e.val ∧ DrK h ds r
end
section
variable {X : Cx} {pins : List (Addr × Obj)} {σ : St} {H : Hp} {s : Shared}
theorem dr_key {k : Key} {v : Value} {h : Heap} (e : keyIs k v = true) : Dr h (keyPD k) v := by
  rcases keyIs_shape e with ⟨i, t, rfl, rfl⟩ | ⟨x, t, rfl, rfl⟩
  · exact ⟨t, rfl⟩
  · exact ⟨t, rfl⟩
mutual
theorem Dq.dr (I : Inv X pins σ H s) : ∀ (d : PyData) (v : V) (u : Value), Dq X.K H d v → RelV v u → Dr s.heap d u
  | .none, v, u, h, r => by cases h; exact r
  | .bool b, v, u, h, r => by cases h; exact r
  | .int i, v, u, h, r => by cases h; exact r
  | .str x, v, u, h, r => by cases h; exact r
  | .list ds, v, u, h, r => by
    obtain ⟨a, xs, rfl, hs, ha⟩ := h
    cases r
    obtain ⟨its, rv, ⟨o, n, ho, hc, _, hd⟩, _⟩ := I.list hs
    exact ⟨a, o, _, _, rfl, ho, hc, hd, DqL.dr I ds xs its ha rv⟩
  | .tuple ds, v, u, h, r => by
    obtain ⟨a, xs, rfl, hs, ha⟩ := h
    cases r
    obtain ⟨its, rv, ⟨o, ho, hc, n, hd⟩, _⟩ := I.tuple hs
    exact ⟨a, o, _, n, rfl, ho, hc, hd, DqL.dr I ds xs its ha rv⟩
  | .dict ks, v, u, h, r => by
    obtain ⟨a, xs, rfl, hs, ha⟩ := h
    cases r
    obtain ⟨_, hS, vs, kv, o, es, ep, e1, e2, e3, e4, e5, e6⟩ := dk_of I.hok hs
    exact ⟨a, o, es, ep, rfl, e1, e2.1, e3, hS, DqK.dr I ks xs vs es.toList ha kv e5⟩
theorem DqL.dr (I : Inv X pins σ H s) : ∀ (ds : List PyData) (vs : List V) (us : List Value), DqL X.K H ds vs → Vals vs us → DrL s.heap ds us
  | [], vs, us, h, r => by
    have e : vs = [] := h
    subst e
    cases r
    exact rfl
  | d :: ds, vs, us, h, r => by
    obtain ⟨v, rest, rfl, q1, q2⟩ := h
    cases r with
    | cons r1 r2 => exact ⟨_, _, rfl, Dq.dr I d v _ q1 r1, DqL.dr I ds rest _ q2 r2⟩
theorem DqK.dr (I : Inv X pins σ H s) : ∀ (ds : List (PyData × PyData)) (vs : List (Key × V)) (ws : List (Key × Value)) (es : List DictEntry), DqK X.K H ds vs → KV vs ws → Pairs (mixKind X.prog X.w) es ws → DrK s.heap ds es
  | [], vs, ws, es, h, r, p => by
    have e : vs = [] := h
    subst e
    cases r
    cases p
    exact rfl
  | d :: ds, vs, ws, es, h, r, p => by
    obtain ⟨k, v, rest, rfl, q0, q1, q2⟩ := h
    cases r with
    | cons r1 r2 =>
      cases p with
      | cons p1 p2 p3 =>
        refine ⟨_, _, rfl, ?_, ?_, DqK.dr I ds rest _ _ q2 r2 p3⟩
        · rw [q0]
          refine dr_key ?_
          have e : k = _ := r1.1
          rw [e]
          exact p1
        · rw [p2]
          exact Dq.dr I d.2 v _ q1 r1.2
end
end
end HT
set_option maxRecDepth 100000
set_option maxHeartbeats 1600000
namespace HT
open PySem PySem.Spec L2
open PyProof.Rows hiding St
section
variable {h : Heap}
mutual
theorem Dr.reads : ∀ (d : PyData) (v : Value), Dr h d v → ∃ as, Reads h v d as
  | .none, v, r => by cases r; exact ⟨_, .none⟩
  | .bool b, v, r => by cases r; exact ⟨_, .bool b⟩
  | .int i, v, r => by obtain ⟨t, rfl⟩ := r; exact ⟨_, .int i t⟩
  | .str x, v, r => by obtain ⟨t, rfl⟩ := r; exact ⟨_, .str x t⟩
  | .list ds, v, r => by
    obtain ⟨a, o, vs, n, rfl, h1, h2, h3, h4⟩ := r
    obtain ⟨as, q⟩ := DrL.reads ds vs.toList h4
    exact ⟨_, .list h1 h2 h3 q⟩
  | .tuple ds, v, r => by
    obtain ⟨a, o, vs, n, rfl, h1, h2, h3, h4⟩ := r
    obtain ⟨as, q⟩ := DrL.reads ds vs.toList h4
    exact ⟨_, .tuple h1 h2 h3 q⟩
  | .dict ks, v, r => by
    obtain ⟨a, o, es, n, rfl, h1, h2, h3, _, h4⟩ := r
    obtain ⟨as, bs, q1, q2⟩ := DrK.reads ks es.toList h4
    exact ⟨_, .dict h1 h2 h3 q1 q2⟩
theorem DrL.reads : ∀ (ds : List PyData) (vs : List Value), DrL h ds vs → ∃ as, ReadsAll h vs ds as
  | [], vs, r => by
    have e : vs = [] := r
    subst e
    exact ⟨_, .nil⟩
  | d :: ds, vs, r => by
    obtain ⟨v, rest, rfl, q1, q2⟩ := r
    obtain ⟨as, r1⟩ := Dr.reads d v q1
    obtain ⟨bs, r2⟩ := DrL.reads ds rest q2
    exact ⟨_, .cons r1 r2⟩
theorem DrK.reads : ∀ (ds : List (PyData × PyData)) (es : List DictEntry), DrK h ds es → ∃ as bs, ReadsAll h (es.map (·.key)) (ds.map (·.1)) as ∧ ReadsAll h (es.map (·.val)) (ds.map (·.2)) bs
  | [], es, r => by
    have e : es = [] := r
    subst e
    exact ⟨_, _, .nil, .nil⟩
  | (k, d) :: ds, es, r => by
    obtain ⟨e, rest, rfl, q0, q1, q2⟩ := r
    obtain ⟨as, r1⟩ := Dr.reads k e.key q0
    obtain ⟨bs, r2⟩ := Dr.reads d e.val q1
    obtain ⟨cs, es, r3, r4⟩ := DrK.reads ds rest q2
    exact ⟨_, _, .cons r1 r3, .cons r2 r4⟩
end
variable {prog : Program} {w : World}
theorem rm_two {x y : Nat} {b1 b2 : List Addr} (hb1 : ReadAtMost h x b1) (hb2 : ReadAtMost h y b2) : ReadAtMost h (max x y) (b1 ++ b2) := by
  intro b hm
  rcases List.mem_append.mp hm with hm | hm
  · obtain ⟨d', as', r', hd'⟩ := hb1 b hm
    exact ⟨d', as', r', Nat.le_trans hd' (Nat.le_max_left _ _)⟩
  · obtain ⟨d', as', r', hd'⟩ := hb2 b hm
    exact ⟨d', as', r', Nat.le_trans hd' (Nat.le_max_right _ _)⟩
mutual
theorem rk_dr : ∀ (d : PyData) (v : Value), Dr h d v → d.showable = true → d.shown.length ≤ sizeLine → ∃ bs, ReadAtMost h d.depth bs ∧ ReprK prog w bs h d.depth v d.shown
  | .none, v, r, _, _ => by cases r; exact ⟨[], (fun _ h => nomatch h), by simp only [PyData.shown]; exact .of_is ReprIs.none _ _ _⟩
  | .bool b, v, r, _, _ => by cases r; exact ⟨[], (fun _ h => nomatch h), by simp only [PyData.shown]; exact .of_is (ReprIs.bool b) _ _ _⟩
  | .int i, v, r, hs, _ => by obtain ⟨t, rfl⟩ := r; exact ⟨[], (fun _ h => nomatch h), by simp only [PyData.shown]; exact .of_is (ReprIs.int t (by simpa [PyData.showable] using hs)) _ _ _⟩
  | .str x, v, r, _, hz => by obtain ⟨t, rfl⟩ := r; exact ⟨[], (fun _ h => nomatch h), by simp only [PyData.shown]; exact .of_is (ReprIs.str x t (by simpa only [PyData.shown] using hz)) _ _ _⟩
  | .list xs, v, rr, hs, hz => by
    have r0 := Dr.reads (.list xs) v rr
    obtain ⟨a, o, vs, n, rfl, h1, h2, h3, h4⟩ := rr
    have hz' : (listText (PyData.shownAll xs)).length ≤ sizeLine := by simpa only [PyData.shown] using hz
    obtain ⟨bs, hb, hk⟩ := rkL_dr xs vs.toList h4 (by simpa [PyData.showable] using hs) (fun t ht => Nat.le_trans (listText_mem_le ht) hz')
    obtain ⟨as, r⟩ := r0
    have hna : a ∉ bs := not_mem_of_deeper r (by simp only [PyData.depth]; omega) hb
    refine ⟨a :: bs, ReadAtMost.cons r (by simp only [PyData.depth]; omega) hb, ?_⟩
    simp only [PyData.depth, PyData.shown]
    obtain ⟨l⟩ := vs
    cases l with
    | nil =>
      have e : xs = [] := by
        cases xs with
        | nil => rfl
        | cons x r =>
          obtain ⟨_, _, e, _⟩ := h4
          cases e
      subst e
      simp only [PyData.shownAll, listText_nil]
      exact ReprK.listEmpty h1 h2 h3
    | cons x l => exact ReprK.list h1 h2 h3 hna (by simpa using hk.length_eq) (fun i y e => hk.item i y (by simpa using e))
  | .tuple xs, v, rr, hs, hz => by
    have r0 := Dr.reads (.tuple xs) v rr
    obtain ⟨a, o, vs, n, rfl, h1, h2, h3, h4⟩ := rr
    have hz' : (tupleText (PyData.shownAll xs)).length ≤ sizeLine := by simpa only [PyData.shown] using hz
    obtain ⟨bs, hb, hk⟩ := rkL_dr xs vs.toList h4 (by simpa [PyData.showable] using hs) (fun t ht => Nat.le_trans (tupleText_mem_le ht) hz')
    obtain ⟨as, r⟩ := r0
    have hna : a ∉ bs := not_mem_of_deeper r (by simp only [PyData.depth]; omega) hb
    refine ⟨a :: bs, ReadAtMost.cons r (by simp only [PyData.depth]; omega) hb, ?_⟩
    simp only [PyData.depth, PyData.shown]
    exact ReprK.tuple h1 h2 h3 hna hk
  | .dict kvs, v, rr, hs, hz => by
    have r0 := Dr.reads (.dict kvs) v rr
    obtain ⟨a, o, es, n, rfl, h1, h2, h3, hsys, h4⟩ := rr
    have hz' : (dictText (PyData.shownKv kvs)).length ≤ sizeLine := by simpa only [PyData.shown] using hz
    obtain ⟨hs1, hs2⟩ := PyData.showableKv_split kvs (by simpa [PyData.showable] using hs)
    obtain ⟨⟨b1, hb1, k1⟩, ⟨b2, hb2, k2⟩⟩ := rkK_dr kvs es.toList h4 hs1 hs2 (fun t ht => let ⟨p, hp, hl⟩ := PyData.shownKv_key_le kvs t ht; Nat.le_trans hl (Nat.le_trans (dictText_mem_le hp) hz')) (fun t ht => let ⟨p, hp, hl⟩ := PyData.shownKv_val_le kvs t ht; Nat.le_trans hl (Nat.le_trans (dictText_mem_le hp) hz'))
    obtain ⟨as, r⟩ := r0
    have hb : ReadAtMost h (PyData.depthKv kvs) (b1 ++ b2) := (hb1.mono (PyData.depthAll_keys_le kvs)).append (hb2.mono (PyData.depthAll_vals_le kvs))
    have hna : a ∉ b1 ++ b2 := not_mem_of_deeper r (by simp only [PyData.depth]; omega) hb
    refine ⟨a :: (b1 ++ b2), ReadAtMost.cons r (by simp only [PyData.depth]; omega) hb, ?_⟩
    simp only [PyData.depth, PyData.shown, PyData.shownKv_eq]
    exact ReprK.dict h1 h2 h3 hsys hna (ReprEntriesK.of_two es.toList _ _
      (k1.more_le (fun b hb => List.mem_append_left _ hb) (PyData.depthAll_keys_le kvs)) (k2.more_le (fun b hb => List.mem_append_right _ hb) (PyData.depthAll_vals_le kvs)))
theorem rkL_dr : ∀ (ds : List PyData) (vs : List Value), DrL h ds vs → PyData.showableAll ds = true → (∀ t ∈ PyData.shownAll ds, t.length ≤ sizeLine) →
    ∃ bs, ReadAtMost h (PyData.depthAll ds) bs ∧ ReprAllK prog w bs h (PyData.depthAll ds) vs (PyData.shownAll ds)
  | [], vs, r, _, _ => by
    have e : vs = [] := r
    subst e
    exact ⟨[], (fun _ h => nomatch h), by simp only [PyData.shownAll]; exact .nil⟩
  | d :: ds, vs, r, hs, hz => by
    obtain ⟨v, rest, rfl, q1, q2⟩ := r
    have hs' : d.showable = true ∧ PyData.showableAll ds = true := by simpa [PyData.showableAll] using hs
    obtain ⟨b1, hb1, k1⟩ := rk_dr d v q1 hs'.1 (hz _ (by simp only [PyData.shownAll]; exact List.mem_cons_self ..))
    obtain ⟨b2, hb2, k2⟩ := rkL_dr ds rest q2 hs'.2 (fun t ht => hz t (by simp only [PyData.shownAll]; exact List.mem_cons_of_mem _ ht))
    refine ⟨b1 ++ b2, ?_, ?_⟩
    · simp only [PyData.depthAll]
      exact rm_two hb1 hb2
    · simp only [PyData.depthAll, PyData.shownAll]
      exact .cons ((k1.more fun b hb => List.mem_append_left _ hb).level_le (Nat.le_max_left _ _)) (k2.more_le (fun b hb => List.mem_append_right _ hb) (Nat.le_max_right _ _))
theorem rkK_dr : ∀ (ds : List (PyData × PyData)) (es : List DictEntry), DrK h ds es → PyData.showableAll (ds.map (·.1)) = true → PyData.showableAll (ds.map (·.2)) = true → (∀ t ∈ PyData.shownAll (ds.map (·.1)), t.length ≤ sizeLine) → (∀ t ∈ PyData.shownAll (ds.map (·.2)), t.length ≤ sizeLine) →
    (∃ bs, ReadAtMost h (PyData.depthAll (ds.map (·.1))) bs ∧ ReprAllK prog w bs h (PyData.depthAll (ds.map (·.1))) (es.map (·.key)) (PyData.shownAll (ds.map (·.1)))) ∧
    (∃ bs, ReadAtMost h (PyData.depthAll (ds.map (·.2))) bs ∧ ReprAllK prog w bs h (PyData.depthAll (ds.map (·.2))) (es.map (·.val)) (PyData.shownAll (ds.map (·.2))))
  | [], es, r, _, _, _, _ => by
    have e : es = [] := r
    subst e
    exact ⟨⟨[], (fun _ h => nomatch h), by simp only [List.map_nil, PyData.shownAll]; exact .nil⟩, ⟨[], (fun _ h => nomatch h), by simp only [List.map_nil, PyData.shownAll]; exact .nil⟩⟩
  | (k, d) :: ds, es, r, hs1, hs2, hz1, hz2 => by
    obtain ⟨e, rest, rfl, q0, q1, q2⟩ := r
    have hs1' : k.showable = true ∧ PyData.showableAll (ds.map (·.1)) = true := by simpa [PyData.showableAll] using hs1
    have hs2' : d.showable = true ∧ PyData.showableAll (ds.map (·.2)) = true := by simpa [PyData.showableAll] using hs2
    simp only [List.map_cons, PyData.shownAll] at hz1 hz2
    obtain ⟨b1, hb1, k1⟩ := rk_dr k e.key q0 hs1'.1 (hz1 _ (List.mem_cons_self ..))
    obtain ⟨b2, hb2, k2⟩ := rk_dr d e.val q1 hs2'.1 (hz2 _ (List.mem_cons_self ..))
    obtain ⟨⟨b3, hb3, k3⟩, ⟨b4, hb4, k4⟩⟩ := rkK_dr ds rest q2 hs1'.2 hs2'.2 (fun t ht => hz1 t (List.mem_cons_of_mem _ ht)) (fun t ht => hz2 t (List.mem_cons_of_mem _ ht))
    refine ⟨⟨b1 ++ b3, ?_, ?_⟩, ⟨b2 ++ b4, ?_, ?_⟩⟩
    · simp only [List.map_cons, PyData.depthAll]
      exact rm_two hb1 hb3
    · simp only [List.map_cons, PyData.depthAll, PyData.shownAll]
      exact .cons ((k1.more fun b hb => List.mem_append_left _ hb).level_le (Nat.le_max_left _ _)) (k3.more_le (fun b hb => List.mem_append_right _ hb) (Nat.le_max_right _ _))
    · simp only [List.map_cons, PyData.depthAll]
      exact rm_two hb2 hb4
    · simp only [List.map_cons, PyData.depthAll, PyData.shownAll]
      exact .cons ((k2.more fun b hb => List.mem_append_left _ hb).level_le (Nat.le_max_left _ _)) (k4.more_le (fun b hb => List.mem_append_right _ hb) (Nat.le_max_right _ _))
end
theorem shows_dr (d : PyData) (a : Addr) (rr : Dr h d (.ref a)) (hs : d.showable = true) (hsz : d.shown.length ≤ sizeLine) : ∃ T idr, ShowsBy prog w h a d T idr := by
  have r0 := Dr.reads d (.ref a) rr
  cases d with
  | none => cases rr
  | bool b => cases rr
  | int i => obtain ⟨t, e⟩ := rr; cases e
  | str x => obtain ⟨t, e⟩ := rr; cases e
  | list xs =>
    obtain ⟨a', o, vs, n, ea, h1, h2, h3, h4⟩ := rr
    cases ea
    have hz' : (listText (PyData.shownAll xs)).length ≤ sizeLine := by simpa only [PyData.shown] using hsz
    obtain ⟨bs, hb, hk⟩ := rkL_dr (prog := prog) (w := w) xs vs.toList h4 (by simpa [PyData.showable] using hs) (fun t ht => Nat.le_trans (listText_mem_le ht) hz')
    obtain ⟨as, r⟩ := r0
    have hna : a ∉ bs := not_mem_of_deeper r (by simp only [PyData.depth]; omega) hb
    refine ⟨"list", "list.__repr__", F.slot_list_repr.toG, F.slot_list_str, F.slot_list_format, fun s hk0 => ⟨o, hk0 _ _ h1, h2⟩, fun A E s Q hg hu hk0 hQ => ?_⟩
    simp only [PyData.depth] at hu
    simp only [PyData.shown] at hQ
    obtain ⟨l⟩ := vs
    cases l with
    | nil =>
      have e : xs = [] := by
        cases xs with
        | nil => rfl
        | cons x r =>
          obtain ⟨_, _, e, _⟩ := h4
          cases e
      subst e
      simp only [PyData.shownAll, listText_nil] at hQ
      exact call_list_repr_empty ⟨o, hk0 _ _ h1, h2⟩ (hk0 _ _ h1) h3 (hQ s.heap _ _ fun _ _ e => e)
    | cons x l =>
      exact call_list_reprK h1 h2 h3 hna (by simpa using hk.length_eq) (fun i y e => hk.item i y (by simpa using e)) hg (fun b _ => Clear.nil b) hu hk0 hQ hz'
  | tuple xs =>
    obtain ⟨a', o, vs, n, ea, h1, h2, h3, h4⟩ := rr
    cases ea
    have hz' : (tupleText (PyData.shownAll xs)).length ≤ sizeLine := by simpa only [PyData.shown] using hsz
    obtain ⟨bs, hb, hk⟩ := rkL_dr (prog := prog) (w := w) xs vs.toList h4 (by simpa [PyData.showable] using hs) (fun t ht => Nat.le_trans (tupleText_mem_le ht) hz')
    obtain ⟨as, r⟩ := r0
    have hna : a ∉ bs := not_mem_of_deeper r (by simp only [PyData.depth]; omega) hb
    refine ⟨"tuple", "tuple.__repr__", F.slot_tuple_repr, F.slot_tuple_str, F.slot_tuple_format, fun s hk0 => ⟨o, hk0 _ _ h1, h2⟩, fun A E s Q hg hu hk0 hQ => ?_⟩
    simp only [PyData.depth] at hu
    simp only [PyData.shown] at hQ
    exact call_tuple_reprK h1 h2 h3 hna hk hg (fun b _ => Clear.nil b) hu hk0 hQ hz'
  | dict kvs =>
    obtain ⟨a', o, es, n, ea, h1, h2, h3, hsys, h4⟩ := rr
    cases ea
    have hz' : (dictText (PyData.shownKv kvs)).length ≤ sizeLine := by simpa only [PyData.shown] using hsz
    obtain ⟨hs1, hs2⟩ := PyData.showableKv_split kvs (by simpa [PyData.showable] using hs)
    obtain ⟨⟨b1, hb1, k1⟩, ⟨b2, hb2, k2⟩⟩ := rkK_dr (prog := prog) (w := w) kvs es.toList h4 hs1 hs2 (fun t ht => let ⟨p, hp, hl⟩ := PyData.shownKv_key_le kvs t ht; Nat.le_trans hl (Nat.le_trans (dictText_mem_le hp) hz')) (fun t ht => let ⟨p, hp, hl⟩ := PyData.shownKv_val_le kvs t ht; Nat.le_trans hl (Nat.le_trans (dictText_mem_le hp) hz'))
    obtain ⟨as, r⟩ := r0
    have hb : ReadAtMost h (PyData.depthKv kvs) (b1 ++ b2) := (hb1.mono (PyData.depthAll_keys_le kvs)).append (hb2.mono (PyData.depthAll_vals_le kvs))
    have hna : a ∉ b1 ++ b2 := not_mem_of_deeper r (by simp only [PyData.depth]; omega) hb
    refine ⟨"dict", "dict.__repr__", F.slot_dict_repr, F.slot_dict_str, F.slot_dict_format, fun s hk0 => ⟨o, hk0 _ _ h1, h2⟩, fun A E s Q hg hu hk0 hQ => ?_⟩
    simp only [PyData.depth] at hu
    simp only [PyData.shown, PyData.shownKv_eq] at hQ
    exact call_dict_reprK h1 h2 h3 hsys hna (ReprEntriesK.of_two es.toList _ _
      (k1.more_le (fun b hb => List.mem_append_left _ hb) (PyData.depthAll_keys_le kvs)) (k2.more_le (fun b hb => List.mem_append_right _ hb) (PyData.depthAll_vals_le kvs))) hg (fun b _ => Clear.nil b) hu hk0 hQ (by rw [← PyData.shownKv_eq]; exact hz')
end
def gReprQ (x : D) : Cm D := fun S => match deepq S x with
  | some p => if p.showable = true ∧ p.depth ≤ 50 ∧ p.shown.length ≤ sizeLine then .ok (.str p.shown) S else .stuck
  | none => .stuck
def rReprQ (K : PySem.W.Frag) : List V → Hp → VK → Prop := fun xs H Q => ∃ x p, xs = [x] ∧ Dq K H p x ∧ (p.showable = true ∧ p.depth ≤ 50 ∧ p.shown.length ≤ sizeLine) ∧ Q (.str p.shown) H
section
variable {T : Str → Addr} {X : Cx} {k : Nat}
theorem call_reprQ (lv : Lv k X.A) : CallR X (.builtin "repr") (rReprQ X.K) := by
  intro pins s σ H xs us Q I r h
  obtain ⟨x, p, rfl, hp, ⟨h1, h3, h4⟩, q⟩ := h
  obtain ⟨u, rfl, ru⟩ := vals1 r
  have hu := lv.room.un
  have fin : ∀ (z : Str) (h' : Heap) (tu tk : Tok), (∀ b o, s.heap.get? b = some o → h'.get? b = some o) → Q (.str z) H → EP X pins σ Q (.str z tu) { s with heap := h', toks := tk } := fun z h' tu tk k q => ⟨.str z, H, I.kept (t' := tk) k, ⟨_, rfl⟩, q⟩
  have rd := Dq.dr I p x u hp ru
  have big : ∀ a, u = .ref a → wpAny (model X.prog X.w) X.A (call (.builtin "repr") [u]) (EP X pins σ Q) X.xe s := fun a e => by
    subst e
    obtain ⟨Tn, idr, S⟩ := shows_dr (prog := X.prog) (w := X.w) p a rd h1 h4
    exact call_repr_slot (by omega) (S.typeIs s fun b o e => e) S.slotRepr (S.call X.A.in1 _ s _ lv.gd (by show X.A.units + 1 + p.depth < cLine; omega) (fun b o e => e) fun h' u tk hk => ⟨_, _, rfl, fin _ h' u tk hk q⟩)
  cases p with
  | none => cases rd; exact PySem.P.repr_of_none (fin _ _ _ _ (fun _ _ e => e) q)
  | bool b => cases rd; exact PySem.P.repr_of_bool (fin _ _ _ _ (fun _ _ e => e) q)
  | int i => obtain ⟨t, rfl⟩ := rd; exact PySem.P.repr_of_int (of_decide_eq_true h1) (fin _ _ _ _ (fun _ _ e => e) q)
  | str y => obtain ⟨t, rfl⟩ := rd; exact PySem.P.repr_of_str (fin _ _ _ _ (fun _ _ e => e) q) h4
  | list ds => exact big _ rd.choose_spec.choose_spec.choose_spec.choose_spec.1
  | tuple ds => exact big _ rd.choose_spec.choose_spec.choose_spec.choose_spec.1
  | dict ks => exact big _ rd.choose_spec.choose_spec.choose_spec.choose_spec.1
theorem ok_gReprQ : OpN T X (rReprQ X.K) (a1 gReprQ) := opN1 fun W σ ρ S Z H x v Q w r g => by
  unfold gReprQ at g
  split at g
  · rename_i p hp
    split at g
    · rename_i hc
      exact ⟨v, p, rfl, deepq_ok w hp r, hc, g.now w rfl⟩
    · exact g.elim
  · exact g.elim
end
end HT
set_option maxRecDepth 100000
set_option maxHeartbeats 800000
namespace HT
open PySem PySem.Spec L2
open PyProof.Rows hiding St
open PySem.SeqAt AutoSeq1 MeetsSeq MeetsSeq2 MeetsSeq3 SeqRoads2
section
variable {prog : Program} {w : World} {A : Around} {E : Value → Shared → Prop} {s : Shared} {y : Addr} {oy : Obj}
theorem dec_strD {x : Str} {t : Tok} (hy : s.heap.get? y = some oy) (hc : oy.cls = .type "dict") {es : Array DictEntry} {n : Nat} (hd : oy.data = .dict es n) : wpAny (model prog w) A (Builtin.«str.__eq__» ⟨[.str x t, .ref y], []⟩) (DecQ s) E s := by
  obtain ⟨hp, g, d, tk, os⟩ := s
  obtain ⟨cls, dd, data, sl⟩ := oy
  simp only at hc hd
  subst hc hd
  wp_walk using wpAny_load hy
  exact ⟨rfl, rfl⟩
theorem dec_dictS {x : Str} {t : Tok} (hy : s.heap.get? y = some oy) (hc : oy.cls = .type "dict") {es : Array DictEntry} {n : Nat} (hd : oy.data = .dict es n) : wpAny (model prog w) A (Builtin.«dict.__eq__» ⟨[.ref y, .str x t], []⟩) (DecQ s) E s := by
  have f1 := PySem.F.sub_str_dict
  obtain ⟨hp, g, d, tk, os⟩ := s
  obtain ⟨cls, dd, data, sl⟩ := oy
  simp only at hc hd
  subst hc hd
  wp_walk using wpAny_load hy
  exact ⟨rfl, rfl⟩
end
theorem rc_strD {A : Around} {s : Shared} {y : Addr} {oy : Obj} {x : Str} {t : Tok} (hy : s.heap.get? y = some oy) (hc : oy.cls = .type "dict") {es : Array DictEntry} {n : Nat} (hd : oy.data = .dict es n) (hu : A.units < cLine) : RcAt A s (.str x t) (.ref y) false := fun prog w E Q h => by
  refine rc_eq_decline_or (k := false) (typeIs_str s x t) ⟨_, hy, hc⟩ (by decide) F.sub_dict_str F.slot_str_eq F.slot_dict_eq_refl
    (fun _ hq => GQ.call_here F.slot_str_eq (typeIs_str s x t) F.entry_str_eq (F.args_str_eq_2 _ _) (wpAny_mono (dec_strD hy hc hd) (fun fl s' q => ?_) fun _ _ e => e))
    (fun _ hq => GQ.call_here F.slot_dict_eq_refl ⟨_, hy, hc⟩ F.entry_dict_eq (F.args_dict_eq_2 _ _) (wpAny_mono (dec_dictS hy hc hd) (fun fl s' q => ?_) fun _ _ e => e))
    (fun _ hq => wpAny_of_eq (rfl : isSame (.str x t) (.ref y) = pure false) hq) (.inr hu) h
  · obtain ⟨rfl, rfl⟩ := q
    exact hq
  · obtain ⟨rfl, rfl⟩ := q
    exact hq
theorem eq_strD {A : Around} {s : Shared} {y : Addr} {oy : Obj} {x : Str} {t : Tok} (hy : s.heap.get? y = some oy) (hc : oy.cls = .type "dict") {es : Array DictEntry} {n : Nat} (hd : oy.data = .dict es n) (hu : A.units < cLine) : EqAt A s (.str x t) (.ref y) false := fun prog w E Q h => by
  unfold eqBool
  refine wpAny_holding ?_
  refine wpAny_ite_split (fun hab => absurd (eq_of_beq hab) nofun) (fun _ => ?_)
  exact wpAny_bind (rc_strD hy hc hd hu prog w E _ (wpAny_truthy_bool h))
def rInDk (K : PySem.W.Frag) (neg : Bool) : R2 := fun x y H Q => ∃ a kvs l, ∃ zs : List Str, x = .ref a ∧ H a = some (.dK kvs) ∧ y = .ref l ∧ SqL K H l (zs.map V.str) ∧ Q (.bl neg) H
theorem strs_items {zs : List Str} {us : List Value} (r : Vals (zs.map V.str) us) : ∀ u ∈ us, ∃ x t, u = .str x t := by
  induction zs generalizing us with
  | nil => cases r; intro u h; cases h
  | cons z zs ih =>
    cases r with
    | cons r1 r2 =>
      intro u h
      rcases List.mem_cons.mp h with rfl | h
      · exact ⟨_, r1⟩
      · exact ih r2 u h
section
variable {X : Cx}
theorem dk_items {pins : List (Addr × Obj)} {σ : St} {H : Hp} {s : Shared} {a l : Addr} {kvs : List (Key × V)} {zs : List Str} (hu : X.A.units + 65 < cLine) (I : Inv X pins σ H s) (ha : H a = some (.dK kvs)) (hl : SqL X.K H l (zs.map V.str)) :
    ∃ its : Array Value, s.heap.IsList l its ∧ (∀ y, y ∈ its → EqAt X.A.in1 s y (.ref a) false) := by
  obtain ⟨its, rv, ⟨o, n, ho, hc, hn, hd⟩, _⟩ := I.list hl
  obtain ⟨_, hS, vs, kv, o2, es, ep, e1, e2, e3, e4, e5, e6⟩ := dk_of I.hok ha
  refine ⟨_, ⟨o, ho, hc, _, hd⟩, fun y hy => ?_⟩
  obtain ⟨x, t, rfl⟩ := strs_items rv y (by simpa using hy)
  exact eq_strD e1 e2.1 e3 (by show X.A.units + 1 < cLine; omega)
theorem op_inDk (hu : X.A.units + 65 < cLine) : OpR X (compareOp .In) (rInDk X.K false) := by
  intro pins s σ H x y v u Q I rx ry h
  obtain ⟨a, kvs, l, zs, rfl, ha, rfl, hl, q⟩ := h
  cases rx
  cases ry
  obtain ⟨its, h1, h2⟩ := dk_items hu I ha hl
  refine in_listAt (fun _ => false) h1 h2 ?_
  have e : (its.any fun _ => false) = false := by simp
  rw [e]
  exact ⟨.bl false, H, I, rfl, q⟩
theorem op_notInDk (hu : X.A.units + 65 < cLine) : OpR X (compareOp .NotIn) (rInDk X.K true) := by
  intro pins s σ H x y v u Q I rx ry h
  obtain ⟨a, kvs, l, zs, rfl, ha, rfl, hl, q⟩ := h
  cases rx
  cases ry
  obtain ⟨its, h1, h2⟩ := dk_items hu I ha hl
  refine notIn_listAt (fun _ => false) h1 h2 ?_
  have e : (its.any fun _ => false) = false := by simp
  rw [e]
  exact ⟨.bl true, H, I, rfl, q⟩
end
def isDk (S : Sto) (d : D) : Bool := match asCO S d with
  | some (.dK _) => true
  | _ => false
def gInX (neg : Bool) (x y : D) : Cm D := fun S => if isDk S x = true then (match (lstD S y).bind strsD with
    | some _ => .ok (.bl neg) S
    | none => .stuck)
  else gInL neg x y S
section
variable {T : Str → Addr} {X : Cx}
theorem isDk_ok {ρ : Nat → Option Addr} {S : Sto} {Z : Hid} {H : Hp} {x : D} {v : V} (w : Wd T X.K ρ S Z H) (rx : Rep T X.K ρ (Fz ρ Z H) x v) (h : isDk S x = true) : ∃ a kvs, v = .ref a ∧ H a = some (.dK kvs) := by
  unfold isDk at h
  cases hc : asCO S x with
  | none => rw [hc] at h; cases h
  | some c =>
    rw [hc] at h
    obtain ⟨a, o, rfl, h1, h2⟩ := asCO_ok w rx hc
    cases c with
    | dK kvs =>
      obtain ⟨vs, rfl, _⟩ := h2
      exact ⟨a, vs, rfl, h1⟩
    | _ => cases h
theorem inX_dict {W : WX} {σ : St} {ρ : Nat → Option Addr} {S : Sto} {Z : Hid} {H : Hp} {x y : D} {v u : V} {Q : VK} {neg : Bool} (w : Wd T X.K ρ S Z H) (rx : Rep T X.K ρ (Fz ρ Z H) x v) (ry : Rep T X.K ρ (Fz ρ Z H) y u) (hx : isDk S x = true)
    (g : Good T X.K (rD T X.K) W σ Q ρ Z H (gInX neg x y S)) : rInDk X.K neg v u H Q := by
  unfold gInX at g
  rw [if_pos hx] at g
  obtain ⟨a, kvs, rfl, ha⟩ := isDk_ok w rx hx
  cases hl : lstD S y with
  | none => rw [hl] at g; exact g.elim
  | some ds =>
    cases hz : strsD ds with
    | none =>
      rw [hl] at g
      simp only [Option.bind, hz] at g
      exact g.elim
    | some zs =>
      rw [hl] at g
      simp only [Option.bind, hz] at g
      obtain ⟨l, vs, rfl, h1, h2⟩ := lstD_ok w ry hl
      have e : vs = zs.map V.str := strsD_ok h2 hz
      subst e
      exact ⟨a, kvs, l, zs, rfl, ha, rfl, h1, g.now w rfl⟩
theorem ok_gInX : Op2 T X (fun x y H Q => rInD X.K x y H Q ∨ rInDk X.K false x y H Q) (gInX false) := by
  intro W σ ρ S Z H x y v u Q w rx ry g
  cases hx : isDk S x with
  | true => exact .inr (inX_dict w rx ry hx g)
  | false =>
    have e : gInX false x y S = gInL false x y S := if_neg (by rw [hx]; exact Bool.false_ne_true)
    rw [e] at g
    exact .inl (ok_gInL W σ ρ S Z H x y v u Q w rx ry g)
theorem ok_gNotInX : Op2 T X (fun x y H Q => rNotInD X.K x y H Q ∨ rInDk X.K true x y H Q) (gInX true) := by
  intro W σ ρ S Z H x y v u Q w rx ry g
  cases hx : isDk S x with
  | true => exact .inr (inX_dict w rx ry hx g)
  | false =>
    have e : gInX true x y S = gInL true x y S := if_neg (by rw [hx]; exact Bool.false_ne_true)
    rw [e] at g
    exact .inl (ok_gNotInL W σ ρ S Z H x y v u Q w rx ry g)
theorem op_inX (hu : X.A.units + 65 < cLine) : OpR X (compareOp .In) (fun x y H Q => rInD X.K x y H Q ∨ rInDk X.K false x y H Q) := OpR.or (op_inD hu) (op_inDk hu)
theorem op_notInX (hu : X.A.units + 65 < cLine) : OpR X (compareOp .NotIn) (fun x y H Q => rNotInD X.K x y H Q ∨ rInDk X.K true x y H Q) := OpR.or (op_notInD hu) (op_notInDk hu)
end
end HT
set_option maxRecDepth 100000
set_option maxHeartbeats 1600000
namespace HT
open PySem PySem.Spec L2
open PyProof.Rows hiding St
theorem Draws.past {prog : Program} {w : World} {A : Around} (hh : A.handled = none) (it t : Addr) (items : Array Value) (i : Nat) (hi : items.size ≤ i) :
    Draws prog w A it [it, t] i (fun _ _ => False) (fun j h => j = i ∧ h.IsTupleIter it t j ∧ h.IsTuple t items) where
  live := fun _ _ st => let ⟨o, ho, _⟩ := st.2.1; ⟨o, ho⟩
  frame := fun _ _ _ st hk => ⟨st.1, st.2.1.at fun o e => hk it (by simp) o e, st.2.2.at fun o e => hk t (by simp) o e⟩
  item := fun j s Q E hj st hQ => absurd st.1 (Nat.ne_of_lt hj)
  done := fun s Q E st hE => wpAny_nextOf_tuple_end hh st.2.1 st.2.2 (by simp; omega) hE
section
variable {T : Str → Addr} {K : PySem.W.Frag} {ρ : Nat → Option Addr} {S : Sto} {Z : Hid} {H : Hp}
end
def kEnumA : List D → Cm (List D × Src)
  | [d] => fun S => match walkD S d with
    | some p => .ok (enumD p.1, p.2) S
    | none => .stuck
  | _ => stk
def iEnumA (F : Env → Cm (List D)) : Env → Cm (List D × Src) := fun env S => (F env S).bnd kEnumA
end HT
set_option maxRecDepth 100000
set_option maxHeartbeats 1600000
namespace HT
open PySem PySem.Spec L2
open PyProof.Rows hiding St
mutual
def clD : D → Bool
  | .lst ds => clL ds
  | .klst ds => clL ds
  | .tup ds => clL ds
  | .obj _ fs => clF fs
  | .exn _ fs => clF fs
  | .dK kvs => clK kvs
  | .dT kvs => clT kvs
  | .cell _ => false
  | .non => true
  | .bl _ => true
  | .int _ => true
  | .str _ => true
  | .glob _ => true
  | .ty _ => true
def clL : List D → Bool
  | [] => true
  | d :: ds => clD d && clL ds
def clF : List (Str × D) → Bool
  | [] => true
  | p :: ds => clD p.2 && clF ds
def clK : List (Key × D) → Bool
  | [] => true
  | p :: ds => clD p.2 && clK ds
def clT : List (List Key × D) → Bool
  | [] => true
  | p :: ds => clD p.2 && clT ds
end
mutual
def lfD : D → Bool
  | .tup ds => lfL ds
  | .non => true
  | .bl _ => true
  | .int _ => true
  | .str _ => true
  | .glob _ => true
  | .ty _ => true
  | .lst _ => false
  | .klst _ => false
  | .obj _ _ => false
  | .exn _ _ => false
  | .dK _ => false
  | .dT _ => false
  | .cell _ => false
def lfL : List D → Bool
  | [] => true
  | d :: ds => lfD d && lfL ds
end
def lfF : List (Str × D) → Bool
  | [] => true
  | p :: ds => lfD p.2 && lfF ds
def lfCO : CO → Bool
  | .ins _ fs => lfF fs
  | _ => false
def noRho : Nat → Option Addr := fun _ => none
section
variable {T : Str → Addr} {K : PySem.W.Frag} {ρ : Nat → Option Addr} {F F' : Hp}
mutual
theorem clD_low : ∀ d : D, clD d = true → lowD 0 d
  | .lst ds, h => clL_low ds h
  | .klst ds, h => clL_low ds h
  | .tup ds, h => clL_low ds h
  | .obj _ fs, h => clF_low fs h
  | .exn _ fs, h => clF_low fs h
  | .dK kvs, h => clK_low kvs h
  | .dT kvs, h => clT_low kvs h
  | .cell _, h => by cases h
  | .non, _ => trivial
  | .bl _, _ => trivial
  | .int _, _ => trivial
  | .str _, _ => trivial
  | .glob _, _ => trivial
  | .ty _, _ => trivial
theorem clL_low : ∀ d : List D, clL d = true → lowL 0 d
  | [], _ => trivial
  | d :: ds, h => ⟨clD_low d (bAnd h).1, clL_low ds (bAnd h).2⟩
theorem clF_low : ∀ d : List (Str × D), clF d = true → lowF 0 d
  | [], _ => trivial
  | (x, d) :: ds, h => ⟨clD_low d (bAnd h).1, clF_low ds (bAnd h).2⟩
theorem clK_low : ∀ d : List (Key × D), clK d = true → lowK 0 d
  | [], _ => trivial
  | (x, d) :: ds, h => ⟨clD_low d (bAnd h).1, clK_low ds (bAnd h).2⟩
theorem clT_low : ∀ d : List (List Key × D), clT d = true → lowT 0 d
  | [], _ => trivial
  | (x, d) :: ds, h => ⟨clD_low d (bAnd h).1, clT_low ds (bAnd h).2⟩
end
theorem cut0 : cutR ρ 0 = noRho := funext fun k => if_neg (Nat.not_lt_zero k)
theorem hobj_is {c : CO} {o : HO} (h : HObj T K ρ F c o) : (∃ vs, o = .lst vs) ∨ (∃ vs, o = .dK vs) ∨ (∃ vs, o = .dT vs) ∨ ∃ C dx vs, o = .ins C dx vs := by
  cases c with
  | lst ds => obtain ⟨vs, e, _⟩ := h; exact .inl ⟨vs, e⟩
  | dK ds => obtain ⟨vs, e, _⟩ := h; exact .inr (.inl ⟨vs, e⟩)
  | dT ds => obtain ⟨vs, e, _⟩ := h; exact .inr (.inr (.inl ⟨vs, e⟩))
  | ins C fs => obtain ⟨dx, vs, e, _⟩ := h; exact .inr (.inr (.inr ⟨_, dx, vs, e⟩))
theorem tup_no {c : CO} {vs : List V} (h : HObj T K ρ F c (.tup vs)) : False := by
  rcases hobj_is h with ⟨_, e⟩ | ⟨_, e⟩ | ⟨_, e⟩ | ⟨_, _, _, e⟩ <;> cases e
theorem frz_no {c : CO} {ob : Obj} {u : HO} (h : HObj T K ρ F c (.frz ob u)) : False := by
  rcases hobj_is h with ⟨_, e⟩ | ⟨_, e⟩ | ⟨_, e⟩ | ⟨_, _, _, e⟩ <;> cases e
theorem xd_not {c : CO} {vs : List (Str × V)} (h : HObj T K ρ F c (.xd vs)) : False := by
  rcases hobj_is h with ⟨_, e⟩ | ⟨_, e⟩ | ⟨_, e⟩ | ⟨_, _, _, e⟩ <;> cases e
theorem tup_not {Z : Hid} {H : Hp} {S : Sto} (w : Wd T K ρ S Z H) {a : Addr} {o : HO} (h : Fz noRho Z H a = some o) (hn : ∀ c F, ¬ HObj T K ρ F c o) : Fz ρ Z H a = some o := by
  obtain ⟨h1, h2, _⟩ := Fz_at h
  refine Fz_mk h1 h2 fun k e => ?_
  have hk := w.dom k a e
  obtain ⟨b, u, g1, g2, g3, g4⟩ := w.cells k S[k] (List.getElem?_eq_getElem hk)
  rw [e] at g1
  cases g1
  rw [h1] at g3
  cases g3
  exact hn _ _ g4
mutual
theorem Rep.lf {Z : Hid} {H : Hp} {S : Sto} (w : Wd T K ρ S Z H) : ∀ (d : D) (v : V), lfD d = true → Rep T K noRho (Fz noRho Z H) d v → Rep T K ρ (Fz ρ Z H) d v
  | .tup ds, v, l, h => by
    obtain ⟨a, vs, e, q, r⟩ := h
    refine ⟨a, vs, e, ?_, RepL.lf w ds vs l r⟩
    rcases q with (q | ⟨o, q⟩) | q
    · exact .inl (.inl (tup_not w q fun c F z => tup_no z))
    · exact .inl (.inr ⟨o, tup_not w q fun c F z => frz_no z⟩)
    · exact .inr q
  | .non, _, _, h => h
  | .bl _, _, _, h => h
  | .int _, _, _, h => h
  | .str _, _, _, h => h
  | .glob _, _, _, h => h
  | .ty _, _, _, h => h
  | .lst _, _, l, _ => by cases l
  | .klst _, _, l, _ => by cases l
  | .obj _ _, _, l, _ => by cases l
  | .exn _ _, _, l, _ => by cases l
  | .dK _, _, l, _ => by cases l
  | .dT _, _, l, _ => by cases l
  | .cell _, _, l, _ => by cases l
theorem RepL.lf {Z : Hid} {H : Hp} {S : Sto} (w : Wd T K ρ S Z H) : ∀ (ds : List D) (vs : List V), lfL ds = true → RepL T K noRho (Fz noRho Z H) ds vs → RepL T K ρ (Fz ρ Z H) ds vs
  | [], _, _, h => h
  | d :: ds, vs, l, h => by
    obtain ⟨v, r, e, q, q2⟩ := h
    exact ⟨v, r, e, Rep.lf w d v (bAnd l).1 q, RepL.lf w ds r (bAnd l).2 q2⟩
end
theorem RepF.lf {Z : Hid} {H : Hp} {S : Sto} (w : Wd T K ρ S Z H) : ∀ (ds : List (Str × D)) (vs : List (Str × V)), lfF ds = true → RepF T K noRho (Fz noRho Z H) ds vs → RepF T K ρ (Fz ρ Z H) ds vs
  | [], _, _, h => h
  | (x, d) :: ds, vs, l, h => by
    obtain ⟨v, r, e, q, q2⟩ := h
    exact ⟨v, r, e, Rep.lf w d v (bAnd l).1 q, RepF.lf w ds r (bAnd l).2 q2⟩
end
def allZ (ρ : Nat → Option Addr) (Z : Hid) : Hid := ⟨fun a => Z a ∨ ∃ k, ρ k = some a, Z.me⟩
section
variable {T : Str → Addr} {K : PySem.W.Frag} {W : WX} {σ : St} {ρ ρ' : Nat → Option Addr} {Z : Hid} {H H' : Hp} {S : Sto} {Q : VK}
theorem fz_all : Fz noRho (allZ ρ Z) H = Fz ρ Z H := by
  funext a
  unfold Fz
  by_cases h : Z a ∨ ∃ k, ρ k = some a
  · rw [if_pos h, if_pos (show (allZ ρ Z) a ∨ ∃ k, noRho k = some a from .inl h)]
  · rw [if_neg h, if_neg]
    rintro (z | ⟨k, z⟩)
    · exact h z
    · cases z
theorem no_rho {ρ' : Nat → Option Addr} {Z : Hid} {H : Hp} (w : Wd T K ρ' [] Z H) : ρ' = noRho := funext fun k => by
  cases e : ρ' k with
  | none => rfl
  | some a => exact absurd (w.dom k a e) (Nat.not_lt_zero k)
theorem wd_all (w : Wd T K ρ S Z H) : Wd T K noRho [] (allZ ρ Z) H := ⟨fun k a h => (by cases h), fun k c h => (by cases h), fun j k a h _ => (by cases h), fun a h => by
  rcases h with h | ⟨k, h⟩
  · exact w.there a h
  · have hk := w.dom k a h
    obtain ⟨b, o, g1, _, g3, _⟩ := w.cells k S[k] (List.getElem?_eq_getElem hk)
    rw [h] at g1
    cases g1
    exact ⟨o, g3⟩⟩
theorem wd_non (w : Wd T K ρ S Z H) : Wd T K noRho [] Z H := ⟨fun k a h => (by cases h), fun k c h => (by cases h), fun j k a h _ => (by cases h), w.there⟩
theorem back_all (w : Wd T K ρ S Z H) (x : Ext noRho (allZ ρ Z) H noRho H') : Ext ρ Z H ρ H' ∧ Wd T K ρ S Z H' := by
  have hf : Sub (Fz ρ Z H) (Fz ρ Z H') := fun a o h => by
    have := x.frz a o (by rw [fz_all]; exact h)
    rw [fz_all] at this
    exact this
  refine ⟨⟨fun _ _ h => h, hf, fun a z => x.hid a (.inl z)⟩, ⟨w.dom, fun k c hc => ?_, w.inj, fun a z => ?_⟩⟩
  · obtain ⟨a, o, g1, g2, g3, g4⟩ := w.cells k c hc
    exact ⟨a, o, g1, g2, (x.hid a (.inr ⟨k, g1⟩)).trans g3, g4.mono (fun _ _ h => h) hf⟩
  · obtain ⟨o, ho⟩ := w.there a z
    exact ⟨o, (x.hid a (.inl z)).trans ho⟩
theorem back_non (w : Wd T K ρ S Z H) (x : Ext noRho Z H noRho H') : Ext ρ Z H ρ H' ∧ Wd T K ρ S Z H' := by
  have keep : ∀ a o, ¬ Z a → H a = some o → H' a = some o := fun a o z h => (Fz_at (x.frz a o (Fz_mk h z fun k e => by cases e))).1
  have hf : Sub (Fz ρ Z H) (Fz ρ Z H') := fun a o h => by
    obtain ⟨h1, h2, h3⟩ := Fz_at h
    exact Fz_mk (keep a o h2 h1) h2 h3
  refine ⟨⟨fun _ _ h => h, hf, x.hid⟩, ⟨w.dom, fun k c hc => ?_, w.inj, fun a z => ?_⟩⟩
  · obtain ⟨a, o, g1, g2, g3, g4⟩ := w.cells k c hc
    exact ⟨a, o, g1, g2, keep a o g2 g3, g4.mono (fun _ _ h => h) hf⟩
  · obtain ⟨o, ho⟩ := w.there a z
    exact ⟨o, (x.hid a z).trans ho⟩
end
def R.inS {α : Type} (S : Sto) : R α → R α
  | .ok d _ => .ok d S
  | .exc C fs _ => .exc C fs S
  | .stuck => .stuck
def R.inSl (S : Sto) : R D → R D
  | .ok d _ => if lfD d = true then .ok d S else .stuck
  | .exc C fs _ => if lfF fs = true then .exc C fs S else .stuck
  | .stuck => .stuck
def R.inSo (S : Sto) : R CO → R CO
  | .ok d _ => if lfCO d = true then .ok d S else .stuck
  | .exc C fs _ => if lfF fs = true then .exc C fs S else .stuck
  | .stuck => .stuck
def frm (M : List D → Cm D) : List D → Cm D := fun ds S => if clL ds = true then R.inS S (mltR [] (M ds [])) else match meltL (meltC S 0 6) ds with
  | some es => R.inSl S (mltR [] (M es []))
  | none => .stuck
def frmI (M : List D → Cm CO) : List D → Cm CO := fun ds S => if clL ds = true then R.inS S (mltO [] (M ds [])) else match meltL (meltC S 0 6) ds with
  | some es => R.inSo S (mltO [] (M es []))
  | none => .stuck
section
variable {T : Str → Addr} {K : PySem.W.Frag} {W : WX} {σ : St} {ρ : Nat → Option Addr} {Z : Hid} {H : Hp} {S : Sto} {Q : VK}
theorem sto_nil {r : R D} {d : D} {S1 : Sto} (h : mltR [] r = .ok d S1) : S1 = [] := by
  cases r with
  | ok d0 S' =>
    by_cases hl : S'.length = ([] : Sto).length
    · have e : mltR [] (.ok d0 S') = .ok d0 S' := if_pos hl
      rw [e] at h
      cases h
      exact List.eq_nil_of_length_eq_zero hl
    · have e : mltR [] (.ok d0 S') = (match melt0 (meltC S' 0 6) d0, mkeep (meltC S' 0 6) [] S' with
        | some d', some S'' => .ok d' S''
        | _, _ => .stuck) := if_neg hl
      rw [e] at h
      cases h1 : melt0 (meltC S' 0 6) d0 with
      | none => rw [h1] at h; cases h
      | some d' =>
        rw [h1, show mkeep (meltC S' 0 6) [] S' = some [] from rfl] at h
        cases h
        rfl
  | exc C fs S' =>
    by_cases hl : S'.length = ([] : Sto).length
    · have e : mltR [] (.exc C fs S') = .exc C fs S' := if_pos hl
      rw [e] at h
      cases h
    · have e : mltR [] (.exc C fs S') = (match meltF (meltC S' 0 6) fs, mkeep (meltC S' 0 6) [] S' with
        | some d', some S'' => .exc C d' S''
        | _, _ => .stuck) := if_neg hl
      rw [e] at h
      cases h1 : meltF (meltC S' 0 6) fs with
      | none => rw [h1] at h; cases h
      | some d' =>
        rw [h1, show mkeep (meltC S' 0 6) [] S' = some [] from rfl] at h
        cases h
  | stuck => cases h
theorem sto_nilX {r : R D} {C : Str} {fs : List (Str × D)} {S1 : Sto} (h : mltR [] r = .exc C fs S1) : S1 = [] := by
  cases r with
  | exc C0 d0 S' =>
    by_cases hl : S'.length = ([] : Sto).length
    · have e : mltR [] (.exc C0 d0 S') = .exc C0 d0 S' := if_pos hl
      rw [e] at h
      cases h
      exact List.eq_nil_of_length_eq_zero hl
    · have e : mltR [] (.exc C0 d0 S') = (match meltF (meltC S' 0 6) d0, mkeep (meltC S' 0 6) [] S' with
        | some d', some S'' => .exc C0 d' S''
        | _, _ => .stuck) := if_neg hl
      rw [e] at h
      cases h1 : meltF (meltC S' 0 6) d0 with
      | none => rw [h1] at h; cases h
      | some d' =>
        rw [h1, show mkeep (meltC S' 0 6) [] S' = some [] from rfl] at h
        cases h
        rfl
  | ok d0 S' =>
    by_cases hl : S'.length = ([] : Sto).length
    · have e : mltR [] (.ok d0 S') = .ok d0 S' := if_pos hl
      rw [e] at h
      cases h
    · have e : mltR [] (.ok d0 S') = (match melt0 (meltC S' 0 6) d0, mkeep (meltC S' 0 6) [] S' with
        | some d', some S'' => .ok d' S''
        | _, _ => .stuck) := if_neg hl
      rw [e] at h
      cases h1 : melt0 (meltC S' 0 6) d0 with
      | none => rw [h1] at h; cases h
      | some d' =>
        rw [h1, show mkeep (meltC S' 0 6) [] S' = some [] from rfl] at h
        cases h
  | stuck => cases h
theorem Good.all (w : Wd T K ρ S Z H) {r : R D} (g : Good T K (rD T K) W σ Q ρ Z H (R.inS S (mltR [] r))) : Good T K (rD T K) W σ Q noRho (allZ ρ Z) H r := by
  refine Good.melt (wd_all w) ?_
  cases h : mltR [] r with
  | ok d S1 =>
    rw [h] at g
    have e := sto_nil h
    subst e
    intro v H' ρ' x w' q
    have e := no_rho w'
    subst e
    obtain ⟨x2, w2⟩ := back_all w x
    refine g v H' ρ x2 w2 ?_
    have q' : Rep T K noRho (Fz noRho (allZ ρ Z) H') d v := q
    rw [fz_all] at q'
    exact Rep.mono (fun k a h => by cases h) (fun _ _ h => h) d v q'
  | exc C fs S1 =>
    rw [h] at g
    have e := sto_nilX h
    subst e
    intro dx vs H' ρ' x w' q q2
    have e := no_rho w'
    subst e
    obtain ⟨x2, w2⟩ := back_all w x
    rw [fz_all] at q q2
    exact g dx vs H' ρ x2 w2 q (RepF.mono (fun k a h => by cases h) (fun _ _ h => h) fs vs q2)
  | stuck =>
    rw [h] at g
    exact g
theorem Good.non (w : Wd T K ρ S Z H) {r : R D} (g : Good T K (rD T K) W σ Q ρ Z H (R.inSl S (mltR [] r))) : Good T K (rD T K) W σ Q noRho Z H r := by
  refine Good.melt (wd_non w) ?_
  cases h : mltR [] r with
  | ok d S1 =>
    rw [h] at g
    have e := sto_nil h
    subst e
    by_cases hl : lfD d = true
    · have e2 : R.inSl S (.ok d []) = .ok d S := if_pos hl
      rw [e2] at g
      intro v H' ρ' x w' q
      have e := no_rho w'
      subst e
      obtain ⟨x2, w2⟩ := back_non w x
      exact g v H' ρ x2 w2 (Rep.lf w2 d v hl q)
    · have e2 : R.inSl S (.ok d []) = .stuck := if_neg hl
      rw [e2] at g
      exact g.elim
  | exc C fs S1 =>
    rw [h] at g
    have e := sto_nilX h
    subst e
    by_cases hl : lfF fs = true
    · have e2 : R.inSl S (.exc C fs []) = .exc C fs S := if_pos hl
      rw [e2] at g
      intro dx vs H' ρ' x w' q q2
      have e := no_rho w'
      subst e
      obtain ⟨x2, w2⟩ := back_non w x
      exact g dx vs H' ρ x2 w2 (q.map fun b z => tup_not w2 z fun c F y => xd_not y) (RepF.lf w2 fs vs hl q2)
    · have e2 : R.inSl S (.exc C fs []) = .stuck := if_neg hl
      rw [e2] at g
      exact g.elim
  | stuck =>
    rw [h] at g
    exact g
theorem rep_all (w : Wd T K ρ S Z H) {ds : List D} {vs : List V} (hc : clL ds = true) (r : RepL T K ρ (Fz ρ Z H) ds vs) : RepL T K noRho (Fz noRho (allZ ρ Z) H) ds vs := by
  rw [fz_all]
  have q := RepL.cut (n := 0) (F' := Fz ρ Z H) (fun _ _ h => h) ds vs (clL_low ds hc) r
  rw [cut0] at q
  exact q
theorem rep_non (w : Wd T K ρ S Z H) {ds es : List D} {vs : List V} (hm : meltL (meltC S 0 6) ds = some es) (r : RepL T K ρ (Fz ρ Z H) ds vs) : RepL T K noRho (Fz noRho Z H) es vs := by
  have q := RepL.melt (F' := Fz (cutR ρ 0) Z H) (ρ' := cutR ρ 0) fz_cut (fun k d a => meltC_ok w 6 k d a) ds vs es hm r
  rw [cut0] at q
  exact q
end
theorem ft_frm {P : Program} {w : World} {K : PySem.W.Frag} {mg : Str → Option Value} {base : Heap} {T : Str → Addr} {k : Nat} {f : Addr} {fd : FuncData} {ps : List Str} {M : List D → Cm D} (F : FT P w K mg base T k f fd ps M) : FT P w K mg base T k f fd ps (frm M) := by
  have ml : ∀ {f : Nat → Option D} {ds es : List D}, meltL f ds = some es → es.length = ds.length := fun {f ds} => by
    induction ds with
    | nil => intro es h; cases h; rfl
    | cons d ds ih =>
      intro es h
      unfold meltL at h
      cases h1 : melt0 f d with
      | none => rw [h1] at h; cases h
      | some a =>
        cases h2 : meltL f ds with
        | none => rw [h1, h2] at h; cases h
        | some b =>
          rw [h1, h2] at h
          cases h
          rw [List.length_cons, List.length_cons, ih h2]
  refine ⟨fun ds S h => ?_, fun A outer s H args us vs Q E lv e0 b r hl sp => ?_⟩
  · by_cases hc : clL ds = true
    · show (if clL ds = true then _ else _) = _
      rw [if_pos hc, F.len ds [] h]
      rfl
    · show (if clL ds = true then _ else _) = _
      rw [if_neg hc]
      cases hm : meltL (meltC S 0 6) ds with
      | none => rfl
      | some es =>
        dsimp only
        rw [F.len es [] (by rw [ml hm]; exact h)]
        rfl
  · obtain ⟨ρ, S, Z, ds, w, r2, g⟩ := sp
    by_cases hc : clL ds = true
    · have e : frm M ds S = R.inS S (mltR [] (M ds [])) := if_pos hc
      rw [e] at g
      exact F.run A outer s H args us vs Q E lv e0 b r hl ⟨noRho, [], allZ ρ Z, ds, wd_all w, rep_all w hc r2, Good.all w g⟩
    · have e : frm M ds S = (match meltL (meltC S 0 6) ds with
        | some es => R.inSl S (mltR [] (M es []))
        | none => .stuck) := if_neg hc
      rw [e] at g
      cases hm : meltL (meltC S 0 6) ds with
      | none => rw [hm] at g; exact g.elim
      | some es =>
        rw [hm] at g
        exact F.run A outer s H args us vs Q E lv e0 b r hl ⟨noRho, [], Z, es, wd_non w, rep_non w hm r2, Good.non w g⟩
end HT
set_option maxRecDepth 100000
set_option maxHeartbeats 1600000
namespace HT
open PySem PySem.Spec L2
open PyProof.Rows hiding St
section
variable {T : Str → Addr} {K : PySem.W.Frag} {W : WX} {σ : St} {ρ ρ' : Nat → Option Addr} {Z : Hid} {H H' : Hp} {S : Sto} {Q : VK} {p : Addr} {c : CO}
theorem fz_allP : Fz noRho (plusZ (allZ ρ Z) p) H = Fz ρ (plusZ Z p) H := by
  funext a
  unfold Fz
  by_cases h : (plusZ Z p) a ∨ ∃ k, ρ k = some a
  · rw [if_pos h, if_pos]
    rcases h with (h | h) | h
    · exact .inl (.inl (.inl h))
    · exact .inl (.inr h)
    · exact .inl (.inl (.inr h))
  · rw [if_neg h, if_neg]
    rintro (((z | z) | z) | ⟨k, z⟩)
    · exact h (.inl (.inl z))
    · exact h (.inr z)
    · exact h (.inl (.inr z))
    · cases z
theorem neu_all (w : Wd T K ρ S Z H) (n : Neu T K noRho (allZ ρ Z) H noRho [] H' p c) : Neu T K ρ Z H ρ S H' p c := by
  have hf : Sub (Fz ρ Z H) (Fz ρ (plusZ Z p) H') := fun a o h => by
    have q := n.frz a o (by rw [fz_all]; exact h)
    rw [fz_allP] at q
    exact q
  refine ⟨fun _ _ h => h, hf, fun a z => n.hid a (.inl z), ⟨w.dom, fun k c0 hc => ?_, w.inj, fun a z => ?_⟩, fun z => n.nz (.inl z), ?_⟩
  · obtain ⟨a, o, g1, g2, g3, g4⟩ := w.cells k c0 hc
    refine ⟨a, o, g1, fun z => ?_, (n.hid a (.inr ⟨k, g1⟩)).trans g3, g4.mono (fun _ _ h => h) hf⟩
    rcases z with z | z
    · exact g2 z
    · rw [z] at g1
      exact n.nz (.inr ⟨k, g1⟩)
  · rcases z with z | z
    · obtain ⟨o, ho⟩ := w.there a z
      exact ⟨o, (n.hid a (.inl z)).trans ho⟩
    · obtain ⟨o, ho, _⟩ := n.obj
      exact ⟨o, by rw [z]; exact ho⟩
  · obtain ⟨o, h1, h2⟩ := n.obj
    rw [fz_allP] at h2
    exact ⟨o, h1, h2.mono (fun k a h => by cases h) (fun _ _ h => h)⟩
theorem neu_non (w : Wd T K ρ S Z H) (n : Neu T K noRho Z H noRho [] H' p c) (hl : lfCO c = true) : Neu T K ρ Z H ρ S H' p c := by
  have keep : ∀ a o, ¬ Z a → H a = some o → ¬ (plusZ Z p) a ∧ H' a = some o := fun a o z h => by
    obtain ⟨q1, q2, _⟩ := Fz_at (n.frz a o (Fz_mk h z fun k e => by cases e))
    exact ⟨q2, q1⟩
  have hf : Sub (Fz ρ Z H) (Fz ρ (plusZ Z p) H') := fun a o h => by
    obtain ⟨h1, h2, h3⟩ := Fz_at h
    exact Fz_mk (keep a o h2 h1).2 (keep a o h2 h1).1 h3
  have w' : Wd T K ρ S (plusZ Z p) H' := ⟨w.dom, fun k c0 hc => by
    obtain ⟨a, o, g1, g2, g3, g4⟩ := w.cells k c0 hc
    exact ⟨a, o, g1, (keep a o g2 g3).1, (keep a o g2 g3).2, g4.mono (fun _ _ h => h) hf⟩, w.inj, fun a z => by
    rcases z with z | z
    · obtain ⟨o, ho⟩ := w.there a z
      exact ⟨o, (n.hid a z).trans ho⟩
    · obtain ⟨o, ho, _⟩ := n.obj
      exact ⟨o, by rw [z]; exact ho⟩⟩
  refine ⟨fun _ _ h => h, hf, n.hid, w', n.nz, ?_⟩
  obtain ⟨o, h1, h2⟩ := n.obj
  refine ⟨o, h1, ?_⟩
  cases c with
  | ins C fs =>
    obtain ⟨dx, vs, e, r⟩ := h2
    exact ⟨dx, vs, e, RepF.lf w' fs vs hl r⟩
  | lst _ => cases hl
  | dK _ => cases hl
  | dT _ => cases hl
theorem stoO_nil {r : R CO} {d : CO} {S1 : Sto} (h : mltO [] r = .ok d S1) : S1 = [] := by
  cases r with
  | ok d0 S' =>
    by_cases hl : S'.length = ([] : Sto).length
    · have e : mltO [] (.ok d0 S') = .ok d0 S' := if_pos hl
      rw [e] at h
      cases h
      exact List.eq_nil_of_length_eq_zero hl
    · have e : mltO [] (.ok d0 S') = (match meltCO (meltC S' 0 6) d0, mkeep (meltC S' 0 6) [] S' with
        | some d', some S'' => .ok d' S''
        | _, _ => .stuck) := if_neg hl
      rw [e] at h
      cases h1 : meltCO (meltC S' 0 6) d0 with
      | none => rw [h1] at h; cases h
      | some d' =>
        rw [h1, show mkeep (meltC S' 0 6) [] S' = some [] from rfl] at h
        cases h
        rfl
  | exc C fs S' =>
    by_cases hl : S'.length = ([] : Sto).length
    · have e : mltO [] (.exc C fs S') = .exc C fs S' := if_pos hl
      rw [e] at h
      cases h
    · have e : mltO [] (.exc C fs S') = (match meltF (meltC S' 0 6) fs, mkeep (meltC S' 0 6) [] S' with
        | some d', some S'' => .exc C d' S''
        | _, _ => .stuck) := if_neg hl
      rw [e] at h
      cases h1 : meltF (meltC S' 0 6) fs with
      | none => rw [h1] at h; cases h
      | some d' =>
        rw [h1, show mkeep (meltC S' 0 6) [] S' = some [] from rfl] at h
        cases h
  | stuck => cases h
theorem stoO_nilX {r : R CO} {C : Str} {fs : List (Str × D)} {S1 : Sto} (h : mltO [] r = .exc C fs S1) : S1 = [] := by
  cases r with
  | exc C0 d0 S' =>
    by_cases hl : S'.length = ([] : Sto).length
    · have e : mltO [] (.exc C0 d0 S') = .exc C0 d0 S' := if_pos hl
      rw [e] at h
      cases h
      exact List.eq_nil_of_length_eq_zero hl
    · have e : mltO [] (.exc C0 d0 S') = (match meltF (meltC S' 0 6) d0, mkeep (meltC S' 0 6) [] S' with
        | some d', some S'' => .exc C0 d' S''
        | _, _ => .stuck) := if_neg hl
      rw [e] at h
      cases h1 : meltF (meltC S' 0 6) d0 with
      | none => rw [h1] at h; cases h
      | some d' =>
        rw [h1, show mkeep (meltC S' 0 6) [] S' = some [] from rfl] at h
        cases h
        rfl
  | ok d0 S' =>
    by_cases hl : S'.length = ([] : Sto).length
    · have e : mltO [] (.ok d0 S') = .ok d0 S' := if_pos hl
      rw [e] at h
      cases h
    · have e : mltO [] (.ok d0 S') = (match meltCO (meltC S' 0 6) d0, mkeep (meltC S' 0 6) [] S' with
        | some d', some S'' => .ok d' S''
        | _, _ => .stuck) := if_neg hl
      rw [e] at h
      cases h1 : meltCO (meltC S' 0 6) d0 with
      | none => rw [h1] at h; cases h
      | some d' =>
        rw [h1, show mkeep (meltC S' 0 6) [] S' = some [] from rfl] at h
        cases h
  | stuck => cases h
theorem GoodO.all (w : Wd T K ρ S Z H) {r : R CO} (g : GoodO T K W σ Q ρ Z H (R.inS S (mltO [] r))) : GoodO T K W σ Q noRho (allZ ρ Z) H r := by
  refine GoodO.melt (wd_all w) ?_
  cases h : mltO [] r with
  | ok d S1 =>
    rw [h] at g
    have e := stoO_nil h
    subst e
    intro p H' ρ' n
    have e := no_rho n.w
    subst e
    exact g p H' ρ (neu_all w n)
  | exc C fs S1 =>
    rw [h] at g
    have e := stoO_nilX h
    subst e
    intro dx vs H' ρ' x w' q q2
    have e := no_rho w'
    subst e
    obtain ⟨x2, w2⟩ := back_all w x
    rw [fz_all] at q q2
    exact g dx vs H' ρ x2 w2 q (RepF.mono (fun k a h => by cases h) (fun _ _ h => h) fs vs q2)
  | stuck =>
    rw [h] at g
    exact g
theorem GoodO.non (w : Wd T K ρ S Z H) {r : R CO} (g : GoodO T K W σ Q ρ Z H (R.inSo S (mltO [] r))) : GoodO T K W σ Q noRho Z H r := by
  refine GoodO.melt (wd_non w) ?_
  cases h : mltO [] r with
  | ok d S1 =>
    rw [h] at g
    have e := stoO_nil h
    subst e
    by_cases hl : lfCO d = true
    · have e2 : R.inSo S (.ok d []) = .ok d S := if_pos hl
      rw [e2] at g
      intro p H' ρ' n
      have e := no_rho n.w
      subst e
      exact g p H' ρ (neu_non w n hl)
    · have e2 : R.inSo S (.ok d []) = .stuck := if_neg hl
      rw [e2] at g
      exact g.elim
  | exc C fs S1 =>
    rw [h] at g
    have e := stoO_nilX h
    subst e
    by_cases hl : lfF fs = true
    · have e2 : R.inSo S (.exc C fs []) = .exc C fs S := if_pos hl
      rw [e2] at g
      intro dx vs H' ρ' x w' q q2
      have e := no_rho w'
      subst e
      obtain ⟨x2, w2⟩ := back_non w x
      exact g dx vs H' ρ x2 w2 (q.map fun b z => tup_not w2 z fun c F y => xd_not y) (RepF.lf w2 fs vs hl q2)
    · have e2 : R.inSo S (.exc C fs []) = .stuck := if_neg hl
      rw [e2] at g
      exact g.elim
  | stuck =>
    rw [h] at g
    exact g
end
theorem meltL_len {f : Nat → Option D} : ∀ {ds es : List D}, meltL f ds = some es → es.length = ds.length
  | [], es, h => by cases h; rfl
  | d :: ds, es, h => by
    unfold meltL at h
    cases h1 : melt0 f d with
    | none => rw [h1] at h; cases h
    | some a =>
      cases h2 : meltL f ds with
      | none => rw [h1, h2] at h; cases h
      | some b =>
        rw [h1, h2] at h
        cases h
        rw [List.length_cons, List.length_cons, meltL_len h2]
theorem fi_frm {P : Program} {w : World} {K : PySem.W.Frag} {mg : Str → Option Value} {base : Heap} {T : Str → Addr} {k : Nat} {f : Addr} {fd : FuncData} {ps : List Str} {C : Str} {M : List D → Cm CO} (F : FI P w K mg base T k f fd ps C M) : FI P w K mg base T k f fd ps C (frmI M) := by
  refine ⟨fun ds S h => ?_, fun A outer s H args us vs Q E lv e0 b r hl sp => ?_⟩
  · by_cases hc : clL ds = true
    · show (if clL ds = true then _ else _) = _
      rw [if_pos hc, F.len ds [] h]
      rfl
    · show (if clL ds = true then _ else _) = _
      rw [if_neg hc]
      cases hm : meltL (meltC S 0 6) ds with
      | none => rfl
      | some es =>
        dsimp only
        rw [F.len es [] (by rw [meltL_len hm]; exact h)]
        rfl
  · obtain ⟨ρ, S, Z, H0, x, dx, rest, ds, Qo, q1, q2, q3, q4, q5, w, r2, g, q6⟩ := sp
    by_cases hc : clL ds = true
    · have e : frmI M ds S = R.inS S (mltO [] (M ds [])) := if_pos hc
      rw [e] at g
      exact F.run A outer s H args us vs Q E lv e0 b r hl ⟨noRho, [], allZ ρ Z, H0, x, dx, rest, ds, Qo, q1, q2, q3, q4, q5, wd_all w, rep_all w hc r2, GoodO.all w g, q6⟩
    · have e : frmI M ds S = (match meltL (meltC S 0 6) ds with
        | some es => R.inSo S (mltO [] (M es []))
        | none => .stuck) := if_neg hc
      rw [e] at g
      cases hm : meltL (meltC S 0 6) ds with
      | none => rw [hm] at g; exact g.elim
      | some es =>
        rw [hm] at g
        exact F.run A outer s H args us vs Q E lv e0 b r hl ⟨noRho, [], Z, H0, x, dx, rest, es, Qo, q1, q2, q3, q4, q5, wd_non w, rep_non w hm r2, GoodO.non w g, q6⟩
end HT
set_option maxRecDepth 100000
set_option maxHeartbeats 1600000
namespace HT
open PySem PySem.Spec L2
open PyProof.Rows hiding St
def ItAt (t : Bool) (h : Heap) (it a : Addr) (i : Nat) : Prop := match t with
  | true => h.IsTupleIter it a i
  | false => h.IsListIter it a i
def SqAt (t : Bool) (h : Heap) (a : Addr) (items : Array Value) : Prop := match t with
  | true => h.IsTuple a items
  | false => h.IsList a items
theorem ItAt.ext {t : Bool} {h h' : Heap} {it a x : Addr} {i : Nat} (p : ItAt t h it a i) (e : Heap.ExtBut x h h') (n : it ≠ x) : ItAt t h' it a i := by
  cases t with
  | true => exact Heap.IsTupleIter.extBut p e n
  | false => exact Heap.IsListIter.extBut p e n
theorem SqAt.ext {t : Bool} {h h' : Heap} {a x : Addr} {items : Array Value} (p : SqAt t h a items) (e : Heap.ExtBut x h h') (n : a ≠ x) : SqAt t h' a items := by
  cases t with
  | true => exact Heap.IsTuple.extBut p e n
  | false => exact Heap.IsList.extBut p e n
section
variable {prog : Program} {w : World} {A : Around} {E : Value → Shared → Prop} {s : Shared}
end
structure ZAp2 (zp ti ow j1 j2 a1 a2 : Addr) : Prop where
  d_zp_ti : zp ≠ ti
  d_zp_ow : zp ≠ ow
  d_zp_j1 : zp ≠ j1
  d_zp_j2 : zp ≠ j2
  d_ti_zp : ti ≠ zp
  d_ti_ow : ti ≠ ow
  d_ti_j1 : ti ≠ j1
  d_ti_j2 : ti ≠ j2
  d_ow_zp : ow ≠ zp
  d_ow_ti : ow ≠ ti
  d_ow_j1 : ow ≠ j1
  d_ow_j2 : ow ≠ j2
  d_j1_zp : j1 ≠ zp
  d_j1_ti : j1 ≠ ti
  d_j1_ow : j1 ≠ ow
  d_j1_j2 : j1 ≠ j2
  d_j2_zp : j2 ≠ zp
  d_j2_ti : j2 ≠ ti
  d_j2_ow : j2 ≠ ow
  d_j2_j1 : j2 ≠ j1
  d_a1_zp : a1 ≠ zp
  d_a1_ti : a1 ≠ ti
  d_a1_ow : a1 ≠ ow
  d_a1_j1 : a1 ≠ j1
  d_a1_j2 : a1 ≠ j2
  d_a2_zp : a2 ≠ zp
  d_a2_ti : a2 ≠ ti
  d_a2_ow : a2 ≠ ow
  d_a2_j1 : a2 ≠ j1
  d_a2_j2 : a2 ≠ j2
section
variable {prog : Program} {w : World} {A : Around} {E : Value → Shared → Prop} {s : Shared} {zp ti ow j1 j2 a1 a2 : Addr} {t1 t2 : Bool} {k : Nat} {xs1 xs2 : Array Value} {x1 y1 x2 y2 : Value}
end
structure ZAp3 (zp ti ow j1 j2 j3 a1 a2 a3 : Addr) : Prop where
  d_zp_ti : zp ≠ ti
  d_zp_ow : zp ≠ ow
  d_zp_j1 : zp ≠ j1
  d_zp_j2 : zp ≠ j2
  d_zp_j3 : zp ≠ j3
  d_ti_zp : ti ≠ zp
  d_ti_ow : ti ≠ ow
  d_ti_j1 : ti ≠ j1
  d_ti_j2 : ti ≠ j2
  d_ti_j3 : ti ≠ j3
  d_ow_zp : ow ≠ zp
  d_ow_ti : ow ≠ ti
  d_ow_j1 : ow ≠ j1
  d_ow_j2 : ow ≠ j2
  d_ow_j3 : ow ≠ j3
  d_j1_zp : j1 ≠ zp
  d_j1_ti : j1 ≠ ti
  d_j1_ow : j1 ≠ ow
  d_j1_j2 : j1 ≠ j2
  d_j1_j3 : j1 ≠ j3
  d_j2_zp : j2 ≠ zp
  d_j2_ti : j2 ≠ ti
  d_j2_ow : j2 ≠ ow
  d_j2_j1 : j2 ≠ j1
  d_j2_j3 : j2 ≠ j3
  d_j3_zp : j3 ≠ zp
  d_j3_ti : j3 ≠ ti
  d_j3_ow : j3 ≠ ow
  d_j3_j1 : j3 ≠ j1
  d_j3_j2 : j3 ≠ j2
  d_a1_zp : a1 ≠ zp
  d_a1_ti : a1 ≠ ti
  d_a1_ow : a1 ≠ ow
  d_a1_j1 : a1 ≠ j1
  d_a1_j2 : a1 ≠ j2
  d_a1_j3 : a1 ≠ j3
  d_a2_zp : a2 ≠ zp
  d_a2_ti : a2 ≠ ti
  d_a2_ow : a2 ≠ ow
  d_a2_j1 : a2 ≠ j1
  d_a2_j2 : a2 ≠ j2
  d_a2_j3 : a2 ≠ j3
  d_a3_zp : a3 ≠ zp
  d_a3_ti : a3 ≠ ti
  d_a3_ow : a3 ≠ ow
  d_a3_j1 : a3 ≠ j1
  d_a3_j2 : a3 ≠ j2
  d_a3_j3 : a3 ≠ j3
section
variable {prog : Program} {w : World} {A : Around} {E : Value → Shared → Prop} {s : Shared} {zp ti ow j1 j2 j3 a1 a2 a3 : Addr} {t1 t2 t3 : Bool} {k : Nat} {xs1 xs2 xs3 : Array Value} {x1 y1 x2 y2 x3 y3 : Value}
end
end HT
set_option maxRecDepth 100000
set_option maxHeartbeats 1600000
namespace HT
open PySem PySem.Spec L2
open PyProof.Rows hiding St
section
variable {M : Model} {A : Around} {E : Value → Shared → Prop} {s : Shared}
end
section
variable {prog : Program} {w : World} {A : Around} {E : Value → Shared → Prop} {s : Shared}
end
section
variable {prog : Program} {w : World} {A : Around} {E : Value → Shared → Prop} {s : Shared}
end
end HT
set_option maxRecDepth 100000
set_option maxHeartbeats 1600000
namespace HT
open PySem PySem.Spec L2
open PyProof.Rows hiding St
theorem ItAt.obj {t : Bool} {h : Heap} {it a : Addr} {i : Nat} (p : ItAt t h it a i) : ∃ o, h.get? it = some o ∧ ∀ v, o.data ≠ .cell v := by
  cases t with
  | true => obtain ⟨o, e, _, d⟩ := p; exact ⟨o, e, fun v q => by rw [d] at q; cases q⟩
  | false => obtain ⟨o, e, _, d⟩ := p; exact ⟨o, e, fun v q => by rw [d] at q; cases q⟩
theorem ItAt.lt {t : Bool} {h : Heap} {it a : Addr} {i : Nat} (p : ItAt t h it a i) : it < h.objs.size := by
  obtain ⟨o, e, _⟩ := p.obj
  exact Heap.lt_size e
theorem SqAt.lt {t : Bool} {h : Heap} {a : Addr} {its : Array Value} (p : SqAt t h a its) : a < h.objs.size := by
  cases t with
  | true => obtain ⟨o, e, _⟩ := p; exact Heap.lt_size e
  | false => obtain ⟨o, e, _⟩ := p; exact Heap.lt_size e
section
variable {prog : Program} {w : World} {A : Around} {E : Value → Shared → Prop} {s : Shared}
end
section
variable {prog : Program} {w : World} {A : Around} {E : Value → Shared → Prop} {s : Shared} {zp ti ow j1 j2 a1 a2 : Addr} {t1 t2 : Bool} {k : Nat} {xs1 xs2 : Array Value} {x1 y1 x2 y2 : Value}
end
section
variable {prog : Program} {w : World} {A : Around} {E : Value → Shared → Prop} {s : Shared} {zp ti ow j1 j2 j3 a1 a2 a3 : Addr} {t1 t2 t3 : Bool} {k : Nat} {xs1 xs2 xs3 : Array Value} {x1 y1 x2 y2 x3 y3 : Value}
end
end HT
set_option maxRecDepth 100000
set_option maxHeartbeats 1600000
namespace HT
open PySem PySem.Spec L2
open PyProof.Rows hiding St
section
variable {T : Str → Addr} {K : PySem.W.Frag} {ρ : Nat → Option Addr} {S : Sto} {Z : Hid} {H : Hp}
end
def zipD2 (ds1 ds2 : List D) : List D := (ds1.zip ds2).map fun p => .tup [p.1, p.2]
section
variable {T : Str → Addr} {K : PySem.W.Frag} {ρ : Nat → Option Addr} {S : Sto} {Z : Hid} {H : Hp}
end
def kZipS2 : List D → Cm (List D × Src)
  | [d1, d2] => fun S => match walkD S d1, walkD S d2 with
    | some (ds1, .fz), some (ds2, .fz) => if ds2.length = ds1.length then .ok (zipD2 ds1 ds2, .fz) S else .stuck
    | _, _ => .stuck
  | _ => stk
def iZipS2F (F : Env → Cm (List D)) : Env → Cm (List D × Src) := fun env S => (F env S).bnd kZipS2
def zipD3 (ds1 ds2 ds3 : List D) : List D := (ds1.zip (ds2.zip ds3)).map fun p => .tup [p.1, p.2.1, p.2.2]
section
variable {T : Str → Addr} {K : PySem.W.Frag} {ρ : Nat → Option Addr} {S : Sto} {Z : Hid} {H : Hp}
end
def kZipS3 : List D → Cm (List D × Src)
  | [d1, d2, d3] => fun S => match walkD S d1, walkD S d2, walkD S d3 with
    | some (ds1, .fz), some (ds2, .fz), some (ds3, .fz) => if ds2.length = ds1.length ∧ ds3.length = ds1.length then .ok (zipD3 ds1 ds2 ds3, .fz) S else .stuck
    | _, _, _ => .stuck
  | _ => stk
def iZipS3F (F : Env → Cm (List D)) : Env → Cm (List D × Src) := fun env S => (F env S).bnd kZipS3
end HT
set_option maxRecDepth 100000
set_option maxHeartbeats 1600000
namespace HT
open PySem PySem.Spec L2
open PyProof.Rows hiding St
section
variable {T : Str → Addr} {X : Cx} {W : WX} {o e : Expr} {Fo Fe : FE} {apos cpos : Pos}
end
end HT
set_option maxRecDepth 100000
set_option maxHeartbeats 1600000
namespace HT
open PySem PySem.Spec L2
open PyProof.Rows hiding St
section
variable {T : Str → Addr} {X : Cx} {W : WX} {σ : St} {H : Hp} {Q : VK}
variable {b : Bd} {G : Env → Cm (List D × Src)} {Ft : Env → Cm Bool} {Fe : FE} {vs : List Nat} {iter elt tg : Expr} {ifs : List Expr} {scope : Scope} {own : List (Str × Nat)} {pos spos py : Pos} {y : Str} {i : Nat}
end
end HT
set_option maxRecDepth 100000
set_option maxHeartbeats 1600000
namespace HT
open PySem PySem.Spec L2
open PyProof.Rows hiding St
section
variable {T : Str → Addr} {X : Cx} {W : WX} {σ : St} {H : Hp} {Q : VK}
variable {b : Bd} {G : Env → Cm (List D × Src)} {Ft : Env → Cm Bool} {Fe : FE} {vs : List Nat} {iter elt tg : Expr} {ifs : List Expr} {scope : Scope} {own : List (Str × Nat)} {pos spos py : Pos} {y : Str} {i : Nat}
end
end HT
set_option maxRecDepth 100000
set_option maxHeartbeats 3200000
namespace HT
open PySem PySem.Spec L2
open PyProof.Rows hiding St
def zOf (e : Int × Value) : Str := strOf e.2
def TxE (P : Program) (w : World) (e : Int × Value) : Prop := ∃ z t, e.2 = Value.str z t ∧ e.1 = (PySem.strKind P w).hash z
def TxSet (P : Program) (w : World) (h : Heap) (a : Addr) (L : List Str) : Prop :=
  ∃ o es ep t, h.get? a = some o ∧ (o.ExactSet ∧ o.data = .set es ep t) ∧ (∀ e ∈ es.toList, TxE P w e) ∧ ((es.toList.map zOf).Perm L ∧ L.Nodup) ∧ (es.size < scanBound ∧ t.fits es.size = true) ∧ Ris t.place.toList ∧ (w.params.followText "set-order" = true ∨ t.led = true)
section
variable {P : Program} {w : World} {A : Around} {E : Value → Shared → Prop} {s : Shared} {a : Addr} {L : List Str}
theorem TxSet.kept {h h' : Heap} (R : TxSet P w h a L) (k : ∀ o, h.get? a = some o → h'.get? a = some o) : TxSet P w h' a L := by
  obtain ⟨o, es, ep, t, q, r⟩ := R
  exact ⟨o, es, ep, t, k o q, r⟩
end
end HT
set_option maxRecDepth 100000
set_option maxHeartbeats 1600000
namespace HT
open PySem PySem.Spec L2
open PyProof.Rows hiding St
section
variable {X : Cx} {a : Expr} {ta : TE} {p p2 q pos : Pos}
end
section
variable {T : Str → Addr} {K : PySem.W.Frag} {ρ : Nat → Option Addr} {H : Hp}
end
section
variable {T : Str → Addr} {X : Cx} {W : WX} {a : Expr} {Fa : FE} {p p2 q pos : Pos}
end
end HT
set_option maxRecDepth 100000
set_option maxHeartbeats 1600000
namespace HT
open PySem PySem.Spec L2
open PyProof.Rows hiding St
end HT
set_option maxRecDepth 100000
set_option maxHeartbeats 1600000
namespace HT
open PySem PySem.Spec L2
open PyProof.Rows hiding St
section
variable {T : Str → Addr} {X : Cx} {W : WX} {e : Expr} {es : List Expr} {Fe : FE} {Fr : Env → Cm (List D)} {p : Pos}
end
section
variable {T : Str → Addr} {X : Cx}
end
end HT
set_option maxRecDepth 100000
set_option maxHeartbeats 1600000
namespace HT
open PySem PySem.Spec L2
open PyProof.Rows hiding St
section
variable {α : Type} (le : α → α → Bool)
end
section
variable {T : Str → Addr} {K : PySem.W.Frag} {ρ : Nat → Option Addr} {S : Sto} {Z : Hid} {H : Hp}
end
section
variable {T : Str → Addr} {X : Cx} {W : WX} {e : Expr} {Fa : Env → Cm (List D)} {p pos : Pos}
end
end HT
set_option maxRecDepth 100000
set_option maxHeartbeats 3200000
namespace HT
open PySem PySem.Spec L2
open PyProof.Rows hiding St
def noOwn (env : Env) : Bool := env.all fun s => match s with
  | .own _ => false
  | .slf _ => false
  | _ => true
section
variable {T : Str → Addr} {K : PySem.W.Frag} {ρ ρ1 ρ2 : Nat → Option Addr} {S S1 S2 : Sto} {Z Z' : Hid} {H H1 H2 : Hp} {σ : St} {env : Env} {p : Addr}
theorem ER.plain (e : ER T K ρ Z H σ env) (h : noOwn env = true) (hr : ∀ k a, ρ k = some a → ρ1 k = some a) (hs : Sub (Fz ρ Z H) (Fz ρ1 Z' H1)) : ER T K ρ1 Z' H1 σ env := by
  refine ⟨fun i d hd => ?_, fun i c hc => ?_, fun i c hc => ?_, e.len⟩
  · obtain ⟨v, h1, h2⟩ := e.val i d hd
    exact ⟨v, h1, Rep.mono hr hs _ _ h2⟩
  · have := List.all_eq_true.mp h _ (List.mem_of_getElem? hc)
    cases this
  · have := List.all_eq_true.mp h _ (List.mem_of_getElem? hc)
    cases this
end
section
variable {T : Str → Addr} {X : Cx} {W : WX} {b b1 : Bd} {G1 : Env → Cm (List D × Src)} {Ft Ft1 : Env → Cm Bool} {Fe : FE} {vs1 : List Nat}
end
section
variable {T : Str → Addr} {X : Cx} {W : WX} {elt tg iter tg1 iter1 : Expr} {ifs ifs1 : List Expr} {scope : Scope} {own : List (Str × Nat)} {G G1 : Env → Cm (List D × Src)} {Ft Ft1 : Env → Cm Bool} {Fe : FE} {b b1 : Bd} {vs1 : List Nat} {pos spos py : Pos} {y : Str} {i : Nat} {σ : St} {H : Hp} {Q : VK}
end
end HT
set_option maxRecDepth 100000
namespace HT
open PySem PySem.Spec L2
open PyProof.Rows hiding St
section
variable {T : Str → Addr} {X : Cx}
end
end HT
set_option maxRecDepth 100000
set_option maxHeartbeats 1600000
namespace HT
open PySem PySem.Spec L2
open PyProof.Rows hiding St
section
variable {T : Str → Addr} {K : PySem.W.Frag} {ρ : Nat → Option Addr} {S : Sto} {Z : Hid} {H : Hp}
end
end HT
set_option maxRecDepth 100000
namespace HT
open PySem PySem.Spec L2
open PyProof.Rows hiding St
section
variable {T : Str → Addr} {X : Cx} {W : WX} {a b c : Expr} {C F G : Env → Cm Bool} {pos : Pos} {tA ta tb : TT}
end
end HT
set_option maxRecDepth 100000
namespace HT
open PySem PySem.Spec L2
open PyProof.Rows hiding St
end HT
set_option maxRecDepth 100000
set_option maxHeartbeats 2000000
namespace HT
open PySem PySem.Spec L2
open PySem.HandSPX (excO)
section
variable {M : Model} {A : Around} {E : Value → Shared → Prop} {h : Heap} {g : Array GenState} {d : Drawn} {t : Nat} {os : OsState}
variable {nm q : Str} {C N : Addr} {bs bm bmB : List Value} {hdct : Bool} {sn : List Str} {sub : List Value} {ab : Bool} {col : Option Bool} {dd : Option Addr} {k0 k1 k2 k3 k5 : Option Value} {B newId initId : String}
end
section
variable {prog : Program} {w : World} {A : Around} {E : Value → Shared → Prop} {R : Result → Shared → Prop} {h : Heap} {g : Array GenState} {d : Drawn} {t : Nat} {os : OsState}
variable {nm q : Str} {C N : Addr} {bs bm bmB : List Value} {hdct : Bool} {sn : List Str} {sub : List Value} {ab : Bool} {col : Option Bool} {dd : Option Addr} {k0 k1 k2 k3 k5 : Option Value} {B newId initId : String}
end
end HT
set_option maxRecDepth 100000
set_option maxHeartbeats 2000000
namespace HT
open PySem PySem.Spec L2
open PyProof.Rows hiding St
section
variable {X : Cx} {pins : List (Addr × Obj)} {σ : St} {H1 : Hp} {s1 : Shared} {C fI : Addr} {f : Str} {fd : FuncData} {v : V} {Q : XK} {k : Nat}
end
section
variable {T : Str → Addr} {X : Cx} {W : WX} {C f x : Str} {fI : Addr} {fd : FuncData} {k : Nat} {e : Expr} {Fe : FE} {kws : List Keyword} {Fr : Env → Cm (List D)} {p pos kpos : Pos} {nm : Option Str}
structure ExN (K : PySem.W.Frag) (C : Addr) : Prop where
  ex : PySem.W.excIn K C PySem.HandSPX.veTail "ValueError.__new__" = true
  exC : PySem.W.subIn K (.ref C) (.type "BaseException") = some true
  tyC : PySem.W.typeIn K (.ref C) = some (.type "type")
  kC : PySem.W.keepIn K (.ref C) = true
end
end HT
set_option maxRecDepth 100000
set_option maxHeartbeats 2000000
namespace HT
open PySem PySem.Spec L2
open PyProof.Rows hiding St
def putKD {κ : Type} [DecidableEq κ] (kvs : List (κ × D)) (k : κ) (d : D) : List (κ × D) :=
  if (kvs.any fun kv => decide (kv.1 = k)) = true then kvs.map (fun kv => if kv.1 = k then (kv.1, d) else kv) else kvs ++ [(k, d)]
def valD {κ : Type} [DecidableEq κ] (kvs : List (κ × D)) (k : κ) : Option D := (kvs.find? fun kv => decide (kv.1 = k)).map (·.2)
section
variable {T : Str → Addr} {K : PySem.W.Frag} {ρ ρ' : Nat → Option Addr} {F : Hp}
theorem RepK.any (k : Key) : ∀ {kvs : List (Key × D)} {vs : List (Key × V)}, RepK T K ρ F kvs vs → (vs.any fun kv => decide (kv.1 = k)) = kvs.any fun kv => decide (kv.1 = k)
  | [], vs, h => by
    have e : vs = [] := h
    rw [e]
    rfl
  | (j, d) :: r, vs, h => by
    obtain ⟨v, vr, e, _, q⟩ := h
    subst e
    rw [List.any_cons, List.any_cons, RepK.any k q]
theorem RepK.repl (k : Key) {d : D} {v : V} (hv : Rep T K ρ F d v) : ∀ {kvs : List (Key × D)} {vs : List (Key × V)}, RepK T K ρ F kvs vs → RepK T K ρ F (kvs.map fun kv => if kv.1 = k then (kv.1, d) else kv) (vs.map fun kv => if kv.1 = k then (kv.1, v) else kv)
  | [], vs, h => by
    have e : vs = [] := h
    rw [e]
    rfl
  | (j, x) :: r, vs, h => by
    obtain ⟨u, vr, e, q1, q⟩ := h
    subst e
    rw [List.map_cons, List.map_cons]
    by_cases hj : j = k
    · simp only [hj, if_true]
      exact ⟨v, _, rfl, hv, RepK.repl k hv q⟩
    · simp only [hj, if_false]
      exact ⟨u, _, rfl, q1, RepK.repl k hv q⟩
theorem RepK.app : ∀ {kvs more : List (Key × D)} {vs us : List (Key × V)}, RepK T K ρ F kvs vs → RepK T K ρ F more us → RepK T K ρ F (kvs ++ more) (vs ++ us)
  | [], more, vs, us, h, h2 => by
    have e : vs = [] := h
    subst e
    exact h2
  | (j, x) :: r, more, vs, us, h, h2 => by
    obtain ⟨u, vr, e, q1, q⟩ := h
    subst e
    exact ⟨u, vr ++ us, rfl, q1, RepK.app q h2⟩
theorem RepK.put {kvs : List (Key × D)} {vs : List (Key × V)} (h : RepK T K ρ F kvs vs) (k : Key) {d : D} {v : V} (hv : Rep T K ρ F d v) : RepK T K ρ F (putKD kvs k d) (putK vs k v) := by
  unfold putKD putK
  rw [RepK.any k h]
  split
  · exact RepK.repl k hv h
  · exact RepK.app h ⟨v, [], rfl, hv, rfl⟩
theorem RepK.len : ∀ {kvs : List (Key × D)} {vs : List (Key × V)}, RepK T K ρ F kvs vs → kvs.length = vs.length
  | [], vs, h => by
    have e : vs = [] := h
    rw [e]
    rfl
  | (j, x) :: r, vs, h => by
    obtain ⟨u, vr, e, q1, q⟩ := h
    subst e
    rw [List.length_cons, List.length_cons, RepK.len q]
theorem RepK.val (k : Key) : ∀ {kvs : List (Key × D)} {vs : List (Key × V)}, RepK T K ρ F kvs vs → (valD kvs k = none ∧ valV vs k = none) ∨ ∃ d v, valD kvs k = some d ∧ valV vs k = some v ∧ Rep T K ρ F d v
  | [], vs, h => by
    have e : vs = [] := h
    subst e
    exact .inl ⟨rfl, rfl⟩
  | (j, x) :: r, vs, h => by
    obtain ⟨u, vr, e, q1, q⟩ := h
    subst e
    by_cases hj : j = k
    · exact .inr ⟨x, u, by simp [valD, hj], by simp [valV, hj], q1⟩
    · have e1 : valD ((j, x) :: r) k = valD r k := by simp [valD, hj]
      have e2 : valV ((j, u) :: vr) k = valV vr k := by simp [valV, hj]
      rw [e1, e2]
      exact RepK.val k q
end
section
variable {T : Str → Addr} {X : Cx} {W : WX} {ke ve : Expr} {keys : List (Option Expr)} {values : List Expr} {Fk Fv : FE} {fs : List (FE × FE)} {pos : Pos}
end
end HT
set_option maxRecDepth 100000
set_option maxHeartbeats 2000000
namespace HT
open PySem PySem.Spec L2
open PyProof.Rows hiding St
section
variable {T : Str → Addr} {X : Cx} {W : WX} {x f : Str} {i : Nat} {cs : List Str} {value o e : Expr} {F Fo Fe : FE} {p pos pos' apos cpos : Pos}
theorem RepL.dropLast {K : PySem.W.Frag} {ρ : Nat → Option Addr} {F : Hp} {ds : List D} {vs : List V} (h : RepL T K ρ F ds vs) : RepL T K ρ F ds.dropLast vs.dropLast := by
  rw [List.dropLast_eq_take, List.dropLast_eq_take, h.len]
  exact h.take _
abbrev GT := D → Env → Sto → Option (Env × Sto)
structure GF (T : Str → Addr) (X : Cx) (tg : Expr) (G : GT) : Prop where
  ex : ∃ t : TG, PG X tg t ∧ ∀ (ρ : Nat → Option Addr) (S S' : Sto) (Z0 Z : Hid) (H : Hp) (σ : St) (env env' : Env) (d : D) (v : V) (Q : St → Hp → Prop), Rep T X.K ρ (Fz ρ Z H) d v → At T X.K ρ S Z0 Z H σ env → G d env S = some (env', S') →
    (∀ σ' H' ρ' Z', ExtS ρ Z0 Z H ρ' Z' H' → At T X.K ρ' S' Z0 Z' H' σ' env' → Q σ' H') → t v σ H Q
abbrev GTs := List D → Env → Sto → Option (Env × Sto)
structure GFs (T : Str → Addr) (X : Cx) (tgs : List Expr) (G : GTs) : Prop where
  ex : ∃ t : TGs, PGs X tgs t ∧ ∀ (ρ : Nat → Option Addr) (S S' : Sto) (Z0 Z : Hid) (H : Hp) (σ : St) (env env' : Env) (ds : List D) (vs : List V) (Q : St → Hp → Prop), RepL T X.K ρ (Fz ρ Z H) ds vs → At T X.K ρ S Z0 Z H σ env → G ds env S = some (env', S') →
    (∀ σ' H' ρ' Z', ExtS ρ Z0 Z H ρ' Z' H' → At T X.K ρ' S' Z0 Z' H' σ' env' → Q σ' H') → t vs σ H Q
end
end HT
set_option maxRecDepth 100000
set_option maxHeartbeats 2000000
namespace HT
open PySem PySem.Spec L2
open PyProof.Rows hiding St
structure LenC (K : PySem.W.Frag) (C f : Addr) : Prop where
  hs : PySem.W.findIn K (.ref C) "__len__" = some (some (.ref f))
  tf : PySem.W.typeIn K (.ref f) = some (.type "function")
section
variable {T : Str → Addr} {X : Cx} {C f : Addr} {fd : FuncData} {ps : List Str} {M : List D → Cm D} {k : Nat}
end
end HT
set_option maxRecDepth 100000
set_option maxHeartbeats 2000000
namespace HT
open PySem PySem.Spec L2
open PyProof.Rows hiding St
section
variable {T : Str → Addr} {X : Cx} {W : WX} {a : Expr} {Fa : FE} {p q pos qos : Pos}
end
end HT
set_option maxRecDepth 100000
set_option maxHeartbeats 1600000
namespace HT
open PySem PySem.Spec L2
open PyProof.Rows hiding St
def gJoin (a : Str) (x : D) : Cm D := fun S => match (asQ2 S x).bind strsD with
  | some ys => if (ys.map (·.length)).sum + ys.length * a.length ≤ 16777216 then .ok (.str (Txt.join a ys)) S else .stuck
  | none => .stuck
def fJoin (Fo Fe : FE) : FE := fun env S => (Fo env S).bnd fun o S1 => match o with
  | .str a => (Fe env S1).bnd (gJoin a)
  | _ => .stuck
def fFmt (F : FE) : FE := fun env S => (F env S).bnd fun x S1 => match x with
  | .str y => if y.length ≤ sizeLine then .ok (.str y) S1 else .stuck
  | _ => .stuck
def fJs : List FE → Str → FE
  | [], acc => fun _ S => .ok (.str acc) S
  | F :: Fs, acc => fun env S => (F env S).bnd fun x S1 => match x with
    | .str y => if (acc ++ y).length ≤ sizeLine then fJs Fs (acc ++ y) env S1 else .stuck
    | _ => .stuck
def sThru (F : FS) : FS := fun env S => match F env S with
  | .ok (.xc _ _ _) _ => .stuck
  | .exc _ _ _ => .stuck
  | r => r
section
variable {T : Str → Addr} {X : Cx} {W : WX} {tg o e : Expr} {Fo Fe F : FE} {apos pos : Pos}
theorem pf_join (ho : PF T X W o Fo) (he : PF T X W e Fe) (hv : starEach [e] X.env = [(false, eval e X.env)] ∧ attributeBase o "join" X.env (eval o X.env) = eval o X.env ∧ (apos.endLine == pos.line) = true := by exact ⟨rfl, rfl, rfl⟩) :
    PF T X W (.Call (.Attribute o "join" apos) [e] [] pos) (fJoin Fo Fe) :=
  pe_imp (pe_join ho he hv.1 hv.2.1 hv.2.2) fun σ H Q q => by
    obtain ⟨ρ, S, Z, env, w, er, g⟩ := q
    refine lift_imp (lift_bnd w er g) fun v H1 ⟨ρ1, S1, x, x1, w1, e1, r1, g1⟩ => ?_
    cases x with
    | str a =>
      have ev : v = .str a := r1
      subst ev
      refine ⟨⟨a, rfl⟩, lift_imp (lift_bnd w1 e1 g1) fun u H2 ⟨ρ2, S2, y, x2, w2, e2, r2, g2⟩ => ?_⟩
      have g3 : Good T X.K (rD T X.K) W σ Q ρ2 Z H2 (gJoin a y S2) := g2
      clear g2
      unfold gJoin at g3
      split at g3
      · rename_i ys hy
        obtain ⟨ds, h1, h2⟩ := Option.bind_eq_some_iff.mp hy
        split at g3
        · rename_i hz
          obtain ⟨p, vs, ep, hq, hr⟩ := asQ2_ok w2 r2 h1
          have ev2 := strsD_ok hr h2
          subst ev2
          exact ⟨a, p, ys, rfl, by rw [ep], hq, hz, g3.now w2 rfl⟩
        · exact g3.elim
      · exact g3.elim
    | _ => exact g1.elim
theorem pf_fmt (he : PF T X W e Fe) : PF T X W (.FormattedValue e (-1) none pos) (fFmt Fe) :=
  pe_imp (pe_fmt he) fun σ H Q q => by
    obtain ⟨ρ, S, Z, env, w, er, g⟩ := q
    refine lift_imp (lift_bnd w er g) fun v H1 ⟨ρ1, S1, x, x1, w1, e1, r1, g1⟩ => ?_
    cases x with
    | str a =>
      have ev : v = .str a := r1
      subst ev
      dsimp only at g1
      split at g1
      · rename_i hz
        exact .inl ⟨a, rfl, hz, Good.now g1 w1 rfl⟩
      · exact g1.elim
    | _ => exact g1.elim
inductive JF (T : Str → Addr) (X : Cx) (W : WX) : List Expr → List FE → Prop where
  | nil : JF T X W [] []
  | cons {e : Expr} {F : FE} {es : List Expr} {Fs : List FE} (h : PF T X W e F) (r : JF T X W es Fs) : JF T X W (e :: es) (F :: Fs)
theorem JF.pj : ∀ {es : List Expr} {Fs : List FE}, JF T X W es Fs → PJ X es (Fs.map fun F => lift T X.K (rD T X.K) W F)
  | _, _, .nil => .nil
  | _, _, .cons h r => .cons h r.pj
theorem js_run : ∀ (Fs : List FE) (acc : Str) {σ : St} {H : Hp} {Q : V → Hp → Prop} {ρ : Nat → Option Addr} {S : Sto} {Z : Hid} {env : Env}, Wd T X.K ρ S Z H → ER T X.K ρ Z H σ env → Good T X.K (rD T X.K) W σ Q ρ Z H (fJs Fs acc env S) →
    tJs (Fs.map fun F => lift T X.K (rD T X.K) W F) acc σ H fun out H1 => Q (.str out) H1
  | [], acc, σ, H, Q, ρ, S, Z, env, w, er, g => (show Q (.str acc) H from Good.now (show Good T X.K (rD T X.K) W σ Q ρ Z H (.ok (.str acc) S) from g) w rfl)
  | F :: Fs, acc, σ, H, Q, ρ, S, Z, env, w, er, g => by
    show lift T X.K (rD T X.K) W F σ H _
    refine lift_imp (lift_bnd w er g) fun v H1 ⟨ρ1, S1, x, x1, w1, e1, r1, g1⟩ => ?_
    cases x with
    | str y =>
      have ev : v = .str y := r1
      subst ev
      dsimp only at g1
      split at g1
      · rename_i hz
        exact ⟨y, rfl, hz, js_run Fs (acc ++ y) w1 e1 g1⟩
      · exact g1.elim
    | _ => exact g1.elim
theorem pf_js {v1 v2 : Expr} {rest : List Expr} {Fs : List FE} (h : JF T X W (v1 :: v2 :: rest) Fs) : PF T X W (.JoinedStr (v1 :: v2 :: rest) pos) (fJs Fs Str.empty) :=
  pe_imp (pe_joined h.pj) fun σ H Q q => by
    obtain ⟨ρ, S, Z, env, w, er, g⟩ := q
    exact js_run Fs Str.empty w er g
theorem sf_thru {body : List Stmt} {h0 : ExceptHandler} {hs : List ExceptHandler} {F : FS} (hb : SFs T X.nox WF body F) : SF T X W (.Try body (h0 :: hs) [] [] pos) (sThru F) :=
  ps_imp (ps_try_thru0 hb) fun B σ H q => by
    obtain ⟨ρ, S, Z0, Z, env, a, g⟩ := q
    refine ⟨ρ, S, Z0, Z, env, a, ?_⟩
    unfold sThru at g
    cases hF : F env S with
    | stuck =>
      rw [hF] at g
      exact g
    | exc C fs S' =>
      rw [hF] at g
      exact g
    | ok fl S' =>
      rw [hF] at g
      cases fl with
      | nx e => exact (show GoodF T X.K W B ρ Z0 Z H S' (.nx e) from g)
      | bk e => exact (show GoodF T X.K W B ρ Z0 Z H S' (.bk e) from g)
      | ct e => exact (show GoodF T X.K W B ρ Z0 Z H S' (.ct e) from g)
      | rt d => exact (show GoodF T X.K W B ρ Z0 Z H S' (.rt d) from g)
      | xc e C fs => exact g.elim
end
end HT
set_option maxRecDepth 100000
set_option maxHeartbeats 2000000
namespace HT
open PySem PySem.Spec L2
open PyProof.Rows hiding St
section
variable {T : Str → Addr} {X : Cx}
end
end HT
set_option maxRecDepth 100000
set_option maxHeartbeats 2000000
namespace HT
open PySem PySem.Spec L2 CwR
open PyProof.Rows hiding St
section
variable {X : Cx}
theorem pet_imp {e : Expr} {t t' : TE} (h : PET X e t) (i : ∀ σ H Q, t' σ H Q → t σ H Q) : PET X e t' := fun pins s σ H Q h0 I q => h pins s σ H Q h0 I (i σ H Q q)
theorem pat_imp {es : List Expr} {t t' : TA} (h : PAT X es t) (i : ∀ σ H Q, t' σ H Q → t σ H Q) : PAT X es t' := fun pos pins s σ H Q h0 I q => h pos pins s σ H Q h0 I (i σ H Q q)
theorem pit_imp {tg iter : Expr} {t t' : TI} (h : PIT X tg iter t) (i : ∀ σ H Q, t' σ H Q → t σ H Q) : PIT X tg iter t' := fun pins s σ H Q h0 I q => h pins s σ H Q h0 I (i σ H Q q)
theorem pst_imp {st : Stmt} {t t' : TS} (h : PST X st t) (i : ∀ B σ H, t' B σ H → t B σ H) : PST X st t' := fun pins s σ H B h0 I q => h pins s σ H B h0 I (i B σ H q)
theorem psst_imp {st : List Stmt} {t t' : TS} (h : PSsT X st t) (i : ∀ B σ H, t' B σ H → t B σ H) : PSsT X st t' := fun pins s σ H B h0 I q => h pins s σ H B h0 I (i B σ H q)
def PAK (X : Cx) (es : List Expr) (t : TA) : Prop :=
  ∀ (pos : Pos) (pins : List (Addr × Obj)) (s : Shared) (σ : St) (H : Hp) (Q : List V → Hp → Prop), Inv X pins σ H s → t σ H Q → wpAny (model X.prog X.w) X.A (spliced (backTo pos (starEach es X.env))) (fun us s' => 1 ≤ s'.toks ∧ AP X pins σ Q us s') X.xe s
def PEK (X : Cx) (e : Expr) (t : TE) : Prop :=
  ∀ (pins : List (Addr × Obj)) (s : Shared) (σ : St) (H : Hp) (Q : VK), Inv X pins σ H s → t σ H Q → wpAny (model X.prog X.w) X.A (eval e X.env) (fun v s' => 1 ≤ s'.toks ∧ EP X pins σ Q v s') X.xe s
theorem pak_imp {es : List Expr} {t t' : TA} (h : PAK X es t) (i : ∀ σ H Q, t' σ H Q → t σ H Q) : PAK X es t' := fun pos pins s σ H Q I q => h pos pins s σ H Q I (i σ H Q q)
theorem pak_int {i : Int} {j : Nat} {p : Pos} (hs : starEach [.Constant (.int i) j p] X.env = [(false, eval (.Constant (.int i) j p) X.env)] := by rfl) : PAK X [.Constant (.int i) j p] (tCons (tC (.int i)) tNil) := by
  intro pos pins s σ H Q I h
  rw [hs]
  show wpAny _ _ (spliced [(false, eval (.Constant (.int i) j p) X.env)]) _ _ s
  refine Calls.spliced_cons (wpAny_Constant_int (Calls.spliced_nil ⟨?_, [.int i], H, I.tok _, .cons ⟨_, rfl⟩ .nil, h⟩))
  show 1 ≤ s.toks + 1
  omega
theorem pak_cons {e : Expr} {es : List Expr} {te : TE} {t : TA} (ha : PE X e te) (hr : PAK X es t) (hs : starEach (e :: es) X.env = (false, eval e X.env) :: starEach es X.env := by rfl) : PAK X (e :: es) (tCons te t) := by
  intro pos pins s σ H Q I h
  rw [hs]
  show wpAny _ _ (spliced ((false, eval e X.env) :: backTo pos (starEach es X.env))) _ _ s
  refine Calls.spliced_cons (thn (ha.run pins s σ H _ I h) fun u s1 ⟨x, H1, I1, r1, q1⟩ => ?_)
  exact thn (hr pos pins s1 σ H1 _ I1 q1) fun us s2 ⟨k, xs, H2, I2, r2, q2⟩ => ⟨k, x :: xs, H2, I2, .cons r1 r2, q2⟩
theorem pss_setK {i : Nat} {x : Str} {e : Expr} {te : TE} {rest : List Stmt} {u : TS} {pos' pos : Pos} (hN : X.N.Nodup) (hi : X.N[i]? = some x) (hx : Loc X.env.scope x) (he : PEK X e te) (h2 : PSsT X rest u)
    (hs : swapsWith e (some (.Name x pos')) pos.line X.env = pure false := by rfl) (hf : X.fn x = true ∨ X.env.scope.names.lookup x = some .local := by first | exact .inl rfl | exact .inr rfl | assumption) :
    PSs X (.Assign [.Name x pos'] e pos :: rest) (tSeq (tAsg te (gName i)) u) := by
  refine ⟨fun pins s σ H D I h => ?_⟩
  refine wpAny_execs_cons (wpAny_Assign_Name (thn (he pins s σ H _ I h) fun v s1 ⟨hk, y, H1, I1, r1, q1⟩ => ?_) hs)
  refine wpAny_mono (PySem.wpAny_toks_of hk (store_ok (Q := fun _ s2 => Inv X pins (σ.set i (some y)) H1 s2) I1 hN hi hx r1 (fun _ I2 => I2) hf)) (fun _ s2 q => ?_) fun _ _ z => z.2
  exact h2 pins s2 _ H1 D q.1 q.2 q1
end
abbrev PFT (T : Str → Addr) (X : Cx) (W : WX) (e : Expr) (F : FE) : Prop := PET X e (lift T X.K (rD T X.K) W F)
abbrev OFT (T : Str → Addr) (X : Cx) (W : WX) (e : Expr) (F : Env → Cm CO) : Prop := PET X e (liftO T X.K W F)
abbrev AFT (T : Str → Addr) (X : Cx) (W : WX) (es : List Expr) (F : Env → Cm (List D)) : Prop := PAT X es (lift T X.K (rL T X.K) W F)
abbrev AFK (T : Str → Addr) (X : Cx) (W : WX) (es : List Expr) (F : Env → Cm (List D)) : Prop := PAK X es (lift T X.K (rL T X.K) W F)
abbrev PFK (T : Str → Addr) (X : Cx) (W : WX) (e : Expr) (F : FE) : Prop := PEK X e (lift T X.K (rD T X.K) W F)
abbrev IFT (T : Str → Addr) (X : Cx) (W : WX) (tg iter : Expr) (F : Env → Cm (List D × Src)) : Prop := PIT X tg iter (liftI T X.K W F)
abbrev SFT (T : Str → Addr) (X : Cx) (W : WX) (st : Stmt) (F : FS) : Prop := PST X st (liftS T X.K W F)
abbrev SFsT (T : Str → Addr) (X : Cx) (W : WX) (st : List Stmt) (F : FS) : Prop := PSsT X st (liftS T X.K W F)
def gRepl (y z : Str) (x : D) : Cm D := fun S => match x with
  | .str x => if x.length + (x.length + 1) * z.length ≤ 16777216 then .ok (.str (Txt.replace x y z)) S else .stuck
  | _ => .stuck
def iSeqL (F : FE) : Env → Cm (List D × Src) := fun env S => (F env S).bnd fun d S' => match d with
  | .lst ds => .ok (ds, .fz) S'
  | _ => .stuck
section
variable {T : Str → Addr} {X : Cx} {W : WX} {e o : Expr} {es : List Expr} {F G : FS} {Fa : FE} {Fr : Env → Cm (List D)} {st : Stmt} {rest body : List Stmt} {pos : Pos}
theorem pft_repl {Fo : FE} {y z : Str} {j k : Nat} {c0 c1 apos : Pos} (ho : PF T X W o Fo) (hyz : (y == z) = false := by decide)
    (hst : starEach [.Constant (.str y) j c0, .Constant (.str z) k c1] X.env = [(false, eval (.Constant (.str y) j c0) X.env), (false, eval (.Constant (.str z) k c1) X.env)] := by rfl)
    (hbase : attributeBase o "replace" X.env (eval o X.env) = eval o X.env := by rfl) (hline : (apos.endLine == pos.line) = true := by rfl) :
    PFT T X W (.Call (.Attribute o "replace" apos) [.Constant (.str y) j c0, .Constant (.str z) k c1] [] pos) (f1 (gRepl y z) Fo) :=
  pet_imp (pet_replC ho hyz hst hbase hline) fun σ H Q q => lift1 (r := fun v H1 => ∃ x, v = .str x ∧ x.length + (x.length + 1) * z.length ≤ 16777216 ∧ Q (.str (Txt.replace x y z)) H1) q fun ρ S Z H x v w r g => by
    unfold gRepl at g
    split at g
    · rename_i x
      have e : v = .str x := r
      subst e
      split at g
      · exact ⟨x, rfl, by assumption, g _ H ρ .refl w rfl⟩
      · exact g.elim
    · exact g.elim
theorem pft_of (h : PF T X W e Fa) : PFT T X W e Fa := PET.of h
theorem aft_nil : AFT T X W [] aNil := by
  refine pat_imp pat_nil fun σ H Q q => ?_
  obtain ⟨ρ, S, Z, env, w, er, g⟩ := q
  exact g [] H ρ .refl w rfl
theorem aft_cons (ha : PFT T X W e Fa) (hr : AFT T X W es Fr) (hs : starEach (e :: es) X.env = (false, eval e X.env) :: starEach es X.env := by rfl) : AFT T X W (e :: es) (aCons Fa Fr) := by
  refine pat_imp (pat_cons ha hr hs) fun σ H Q q => ?_
  obtain ⟨ρ, S, Z, env, w, er, g⟩ := q
  refine lift_imp (lift_bnd w er g) fun v H1 ⟨ρ1, S1, d1, x1, w1, e1, r1, g1⟩ => ?_
  refine lift_imp (lift_bnd w1 e1 g1) fun vs H2 ⟨ρ2, S2, d2, x2, w2, e2, r2, g2⟩ => ?_
  exact g2 (v :: vs) H2 ρ2 .refl w2 ⟨v, vs, rfl, x2.rep r1, r2⟩
theorem afk_cons (ha : PF T X W e Fa) (hr : AFK T X W es Fr) (hs : starEach (e :: es) X.env = (false, eval e X.env) :: starEach es X.env := by rfl) : AFK T X W (e :: es) (aCons Fa Fr) := by
  refine pak_imp (pak_cons ha hr hs) fun σ H Q q => ?_
  obtain ⟨ρ, S, Z, env, w, er, g⟩ := q
  refine lift_imp (lift_bnd w er g) fun v H1 ⟨ρ1, S1, d1, x1, w1, e1, r1, g1⟩ => ?_
  refine lift_imp (lift_bnd w1 e1 g1) fun vs H2 ⟨ρ2, S2, d2, x2, w2, e2, r2, g2⟩ => ?_
  exact g2 (v :: vs) H2 ρ2 .refl w2 ⟨v, vs, rfl, x2.rep r1, r2⟩
theorem afk_int {i : Int} {j : Nat} {p : Pos} (hs : starEach [.Constant (.int i) j p] X.env = [(false, eval (.Constant (.int i) j p) X.env)] := by rfl) : AFK T X W [.Constant (.int i) j p] (aCons (fun _ => pure (.int i)) aNil) := by
  refine pak_imp (pak_int hs) fun σ H Q q => ?_
  obtain ⟨ρ, S, Z, env, w, er, g⟩ := q
  exact g [.int i] H ρ .refl w ⟨.int i, [], rfl, rfl, rfl⟩
theorem oft_lst (h : AFT T X W es Fr) : OFT T X W (.List es pos) (oLst Fr) := by
  refine pet_imp (pet_lst h) fun σ H Q q => ?_
  obtain ⟨ρ, S, Z, env, w, er, g⟩ := q
  refine lift_imp (lift_bndO w er g) fun vs H1 ⟨ρ1, S1, d1, x1, w1, e1, r1, g1⟩ => ?_
  change GoodO _ _ _ _ _ _ _ _ (if d1.length ≤ sizeLine then _ else _) at g1
  split at g1
  · rename_i hl
    refine ⟨by rw [← r1.len]; exact hl, fun p hp => g1 p _ ρ1 (new_neu w1 hp ⟨vs, rfl, r1⟩)⟩
  · exact g1.elim
theorem pft_frz {F : Env → Cm CO} (h : OFT T X W e F) : PFT T X W e (fFrz F) := by
  refine pet_imp h fun σ H Q q => ?_
  obtain ⟨ρ, S, Z, env, w, er, g⟩ := q
  refine ⟨ρ, S, Z, env, w, er, ?_⟩
  unfold fFrz at g
  cases hF : F env S with
  | ok c S' =>
    rw [hF] at g
    intro p H' ρ' n
    obtain ⟨x, w', r⟩ := n.freeze
    exact g _ H' ρ' x w' r
  | exc C fs S' =>
    rw [hF] at g
    exact g
  | stuck =>
    rw [hF] at g
    exact g
end
section
variable {T : Str → Addr} {X : Cx} {W : WX} {e : Expr} {es : List Expr} {F G : FS} {Fr : Env → Cm (List D)} {st : Stmt} {rest body : List Stmt} {pos : Pos}
theorem sfst_cons (h1 : SFT T X W st F) (h2 : SFsT T X W rest G) : SFsT T X W (st :: rest) (sSeq F G) := psst_imp (psst_cons h1 h2) fun B σ H q => by
  obtain ⟨ρ, S, Z0, Z, env, a, g⟩ := q
  refine ⟨ρ, S, Z0, Z, env, a, ?_⟩
  unfold sSeq at g
  cases hF : F env S with
  | ok f S' =>
    rw [hF] at g
    cases f with
    | nx env' => exact fun σ' H' ρ' Z' x a' => ⟨ρ', S', Z0, Z', env', a', GoodS.later (show GoodS T X.K W B ρ Z0 Z H (G env' S') from g) x⟩
    | _ => exact g
  | exc C fs S' =>
    rw [hF] at g
    exact g
  | stuck =>
    rw [hF] at g
    exact g
theorem sfs_consK {st : Stmt} {t0 : TS} (hk : ∀ u : TS, PSsT X rest u → PSs X (st :: rest) (tSeq t0 u)) (hi : ∀ B σ H, liftS T X.K W F B σ H → t0 B σ H) (h2 : SFsT T X W rest G) : SFs T X W (st :: rest) (sSeq F G) := pss_imp (hk _ h2) fun B σ H q => hi _ _ _ (by
  obtain ⟨ρ, S, Z0, Z, env, a, g⟩ := q
  refine ⟨ρ, S, Z0, Z, env, a, ?_⟩
  unfold sSeq at g
  cases hF : F env S with
  | ok f S' =>
    rw [hF] at g
    cases f with
    | nx env' => exact fun σ' H' ρ' Z' x a' => ⟨ρ', S', Z0, Z', env', a', GoodS.later (show GoodS T X.K W B ρ Z0 Z H (G env' S') from g) x⟩
    | _ => exact g
  | exc C fs S' =>
    rw [hF] at g
    exact g
  | stuck =>
    rw [hF] at g
    exact g)
theorem sfs_setK {i : Nat} {x : Str} {Fe : FE} {pos' : Pos} (hN : X.N.Nodup) (hi : X.N[i]? = some x) (hx : Loc X.env.scope x) (he : PFK T X W e Fe) (h2 : SFsT T X W rest G)
    (hs : swapsWith e (some (.Name x pos')) pos.line X.env = pure false := by rfl) (hf : X.fn x = true ∨ X.env.scope.names.lookup x = some .local := by first | exact .inl rfl | exact .inr rfl | assumption) :
    SFs T X W (.Assign [.Name x pos'] e pos :: rest) (sSeq (sSet i Fe) G) :=
  sfs_consK (fun u hu => pss_setK hN hi hx he hu hs hf) (fun B σ H q => by
    obtain ⟨ρ, S, Z0, Z, env, a, g⟩ := q
    exact lift_imp (lift_sB a g) fun v H1 ⟨ρ1, S1, d1, x1, a1, r1, g1⟩ => (show GoodF T X.K W B ρ1 Z0 Z H1 S1 (.nx (env.set i (.val d1))) from g1) _ H1 ρ1 Z .refl (a1.set r1)) h2
theorem sft_of (h : SF T X W st F) : SFT T X W st F := PST.of h
theorem sfst_of (h : SFs T X W rest F) : SFsT T X W rest F := PSsT.of h
end
section
variable {T : Str → Addr} {X : Cx} {W : WX} {k : Nat} {f : Addr} {fd : FuncData} {ps : List Str} {M : List D → Cm D} {dvs : List V} {dsv : List Value} {dds : List D} {x : Str} {p pos : Pos} {e : Expr} {es : List Expr} {Fa : Env → Cm (List D)}
theorem pfk_call (F : FT X.prog X.w X.K X.mg X.base T k f fd ps M) (lv : Lv k X.A) (hg : Gl X x) (hm : X.mg x = some (.ref f)) (hk : PySem.W.keepIn X.K (.ref f) = true) (hb : Binds X.K fd ps dsv) (hd : Vals dvs dsv) (hD : CsD T X.K dds dvs) (tk : Takes X W)
    (ha : AFK T X W (e :: es) Fa) (hdb : (x == ("__debug__" : Str)) = false := by decide) (he : starEach (e :: es) X.env = (false, eval e X.env) :: starEach es X.env := by rfl) (hpl : (backTo pos (starEach es X.env)).any (·.1) = false := by rfl) :
    PFK T X W (.Call (.Name x p) (e :: es) [] pos) (fCall M dds Fa) := by
  intro pins s σ H Q I h
  obtain ⟨ρ, S, Z, env, w, er, g⟩ := h
  refine wpAny_Call_Name_kw (ld_glob I hg hm ?_ hdb)
  refine PySem.W.callWith_K (h₀ := X.base) I.ok.mod.kin hk (thn (ha pos pins s σ H _ I (lift_bnd w er g)) fun us s1 ⟨k1, vs, H1, I1, r, ρ1, S1, ds, x1, w1, e1, r1, g1⟩ => ⟨I1.kIn, ?_⟩) he hpl
  exact wpAny_mono (PySem.wpAny_toks_of k1 (run_ft F lv hb hd tk I1 r w1 (r1.app (hD _ _)) g1)) (fun _ _ q => q) fun _ _ z => z.2
end
section
variable {T : Str → Addr} {X : Cx} {W : WX} {tg iter : Expr} {G : Env → Cm (List D × Src)} {body : List Stmt} {F : FS} {b : Bd} {pos : Pos} {e : Expr} {Fl : FE}
theorem ift_seqL (h : PFT T X W e Fl) : IFT T X W tg e (iSeqL Fl) := by
  refine pit_imp (pit_list h) fun σ H Qi q => ?_
  obtain ⟨ρ, S, Z, env, w, er, g⟩ := q
  unfold iSeqL at g
  cases hF : Fl env S with
  | stuck =>
    rw [hF] at g
    exact g.elim
  | exc C fs S' =>
    rw [hF] at g
    exact ⟨ρ, S, Z, env, w, er, by rw [hF]; exact g⟩
  | ok d S' =>
    rw [hF] at g
    cases d with
    | lst ds =>
      refine ⟨ρ, S, Z, env, w, er, ?_⟩
      rw [hF]
      intro v H' ρ' x w' r
      obtain ⟨a, vs, rfl, q, q2⟩ := r
      exact ⟨a, rfl, ⟨vs, SqL.of (Fz_sub _ _ q)⟩, g _ H' ρ' x w' (it_seqL (SqL.of q) q2)⟩
    | _ => exact g.elim
theorem sft_for (hp : PassesOwn (model X.prog X.w) X.A X.env X.xe) (hc : X.calm = true) (hi : IFT T X W tg iter G) (hg : PG X tg (gBd X.K b)) (hb : SFs T X W body F)
    (hs : ∀ x, foldedSetIterable iter X.env x = pure x := by intro _; rfl) : SFT T X W (.For tg iter body [] pos) (sFor b G F) := pst_imp (pst_for hp hc hi hg hb hs) fun B σ H q => by
  obtain ⟨ρ, S, Z0, Z, env, a, g⟩ := q
  refine ⟨ρ, S, Z, env, a.w, a.e, ?_⟩
  unfold sFor at g
  cases hG : G env S with
  | stuck =>
    rw [hG] at g
    exact g
  | exc C fs S' =>
    rw [hG] at g
    exact fun dx vs H' ρ' x w' q1 q2 => (show GoodF T X.K W B ρ Z0 Z H S' (.xc env C fs) from g) σ dx vs H' ρ' Z (x.s a.o.sub) (a.ext x w') q1 q2
  | ok p S' =>
    rw [hG] at g
    obtain ⟨items, src⟩ := p
    intro J H' ρ' x w' it
    have g' : GoodS T X.K W B ρ Z0 Z H (if src.isHid = true then .stuck else loopD b src F items env S') := g
    cases hh : src.isHid with
    | true =>
      rw [hh, if_pos rfl] at g'
      exact g'.elim
    | false =>
      rw [hh, if_neg Bool.false_ne_true] at g'
      refine ⟨fun i m σ' H2 => m = items.length - i ∧ i ≤ items.length ∧ LoopAt T X.K W B b src F ρ' Z0 Z H' (items.drop i) σ' H2,
        ⟨items.length, by simp, Nat.zero_le _, ρ', S', Z, env, .refl, a.ext x w', g'.later (x.s a.o.sub)⟩, ?_⟩
      rintro i m σ' H2 ⟨rfl, hi, ρ2, S2, Z2, env2, x2, a2, g2⟩
      have step := it ρ2 S2 Z2 H2 x2.cells x2.frz (fun z => by rw [hh] at z; cases z) a2.w
      by_cases hlt : i < items.length
      · rw [drop_cons hlt] at g2
        unfold loopD at g2
        split at g2
        · rename_i hch
          obtain ⟨go, yl⟩ := (step hch i).1 _ (List.getElem?_eq_getElem hlt)
          cases hb2 : bindE b items[i] env2 with
          | none =>
            rw [hb2] at g2
            exact g2.elim
          | some env1 =>
            rw [hb2] at g2
            dsimp only at g2
            refine .inr ⟨go, LoopAt T X.K W B b src F ρ' Z0 Z H' (items.drop (i + 1)), fun σ3 H3 n3 => ⟨items.length - (i + 1), by omega, rfl, hlt, n3⟩, fun v H3 y => ?_⟩
            obtain ⟨x3, w3, r3⟩ := yl v H3 y
            refine bd_runA r3 (a2.ext x3 w3) hb2 fun σ3 a3 => ⟨ρ2, S2, Z0, Z2, env1, a3, ?_⟩
            have x23 : ExtS ρ' Z0 Z H' ρ2 Z2 H3 := x2.trans (x3.s a2.o.sub)
            cases hF : F env1 S2 with
            | stuck =>
              rw [hF] at g2
              exact g2
            | exc C fs S3 =>
              rw [hF] at g2
              exact g2
            | ok f S3 =>
              rw [hF] at g2
              cases f with
              | nx e => exact fun σ4 H4 ρ4 Z4 x4 a4 => ⟨ρ4, S3, Z4, e, x23.trans x4, a4, GoodS.later (show GoodS T X.K W B ρ2 Z0 Z2 H2 (loopD b src F (items.drop (i + 1)) e S3) from g2) ((x3.s a2.o.sub).trans x4)⟩
              | ct e => exact fun σ4 H4 ρ4 Z4 x4 a4 => ⟨ρ4, S3, Z4, e, x23.trans x4, a4, GoodS.later (show GoodS T X.K W B ρ2 Z0 Z2 H2 (loopD b src F (items.drop (i + 1)) e S3) from g2) ((x3.s a2.o.sub).trans x4)⟩
              | bk e => exact fun σ4 H4 ρ4 Z4 x4 a4 => (show GoodF T X.K W B ρ2 Z0 Z2 H2 S3 (.nx e) from g2) σ4 H4 ρ4 Z4 ((x3.s a2.o.sub).trans x4) a4
              | rt d => exact fun v H4 ρ4 Z4 x4 => (show GoodF T X.K W B ρ2 Z0 Z2 H2 S3 (.rt d) from g2) v H4 ρ4 Z4 ((x3.s a2.o.sub).trans x4)
              | xc e C fs => exact fun σ4 dx vs H4 ρ4 Z4 x4 => (show GoodF T X.K W B ρ2 Z0 Z2 H2 S3 (.xc e C fs) from g2) σ4 dx vs H4 ρ4 Z4 ((x3.s a2.o.sub).trans x4)
        · exact g2.elim
      · have ei : i = items.length := by omega
        subst ei
        rw [List.drop_length] at g2
        unfold loopD at g2
        split at g2
        · rename_i hch
          exact .inl ⟨(step hch _).2 (Nat.le_refl _), (show GoodF T X.K W B ρ2 Z0 Z2 H2 S2 (.nx env2) from g2) σ' H2 ρ2 Z2 .refl a2⟩
        · exact g2.elim
end
def gMulS (x y : D) : Cm D := fun S => match x, y with
  | .str a, .int n => if 1 ≤ n ∧ n ≤ 5000 ∧ a.length ≤ 100 then .ok (.str (Txt.mul a n)) S else .stuck
  | _, _ => .stuck
abbrev rMulS : R2 := fun x y H Q => ∃ a n, x = .str a ∧ y = .int n ∧ MulOk a n ∧ Q (.str (Txt.mul a n)) H
section
variable {T : Str → Addr} {X : Cx}
theorem op_mulS : OpR X (binaryOp .Mult) rMulS := by
  intro pins s σ H x y v u Q I rx ry h
  obtain ⟨a, n, rfl, rfl, hok, q⟩ := h
  obtain ⟨t, rfl⟩ := rx
  obtain ⟨t2, rfl⟩ := ry
  exact PySem.SB.mul hok fun t' k => ⟨.str (Txt.mul a n), H, I.tok k, ⟨t', rfl⟩, q⟩
theorem ok_gMulS : Op2 T X rMulS gMulS := by
  intro W σ ρ S Z H x y v u Q w rx ry g
  unfold gMulS at g
  split at g
  · rename_i a n
    split at g
    · rename_i hb
      obtain ⟨h1, h2, h3⟩ := hb
      cases rx
      cases ry
      have h4 : a.length * n.toNat ≤ 100 * 5000 := Nat.mul_le_mul h3 (by omega)
      refine ⟨a, n, rfl, rfl, ⟨?_, fun _ _ => ?_, fun _ _ => ?_⟩, g.now w rfl⟩
      · rw [Bool.or_eq_false_iff]
        exact ⟨decide_eq_false (by omega), decide_eq_false (by omega)⟩
      · have h5 : ((a.length : Nat) : Int) ≤ 100 := by omega
        have h6 : (100 : Int) ≤ (2 ^ 63 - 1) / n := by
          refine Int.le_ediv_of_mul_le (by omega) ?_
          omega
        omega
      · show Builtin.Str.tooLong (a.length * n.toNat) = false
        unfold Builtin.Str.tooLong
        exact decide_eq_false (by rw [sizeLine_eq]; omega)
    · exact g.elim
  · exact g.elim
end
end HT
set_option maxRecDepth 100000
set_option maxHeartbeats 1000000
namespace HT.C
open PySem PySem.Spec L2
open PyProof.Rows hiding St
def is_str : Ty → Option Bool
  | .b n => kitB n "str"
  | _ => none
def is_list : Ty → Option Bool
  | .b n => kitB n "list"
  | _ => none
def is_tuple : Ty → Option Bool
  | .b n => kitB n "tuple"
  | _ => none
def is_Shop : Ty → Option Bool := fun t => match t with
  | .b n => if n ∈ ty7 then some false else none
  | .own C => if C = "Shop" then some true else none
  | _ => none
end HT.C
set_option maxRecDepth 100000
set_option maxHeartbeats 1000000
namespace HT.C
open PySem PySem.Spec L2
open PyProof.Rows hiding St
def M_Shop_eq : List D → Cm D := mkM 2 2 ((sRet (fAndV (fArgs (a2 (gIsi is_Shop (.own "Shop"))) (aCons (fVar 1) (aCons (fun _ => pure (.glob "Shop")) aNil))) (f2 (gEq false) (fFld ["Shop"] "rows" (vVar 0)) (fFld ["Shop"] "rows" (vVar 1))))))
def N_Shop_eq : List D → Cm D := frm M_Shop_eq
def M_Shop_groups : List D → Cm D := mkM 1 5 ((sRet (fCell (oLc [1, 2, 3, 4] (.many [1, 2, 3, 4]) (iSeq (fFld ["Shop"] "rows" (vVar 0))) (fun _ => pure true) (fTup (aCons (fVar 1) (aCons (fVar 2) (aCons (fVar 3) (aCons (fCell (oOne gList (aCons (fVar 4) aNil))) aNil)))))))))
def N_Shop_groups : List D → Cm D := frm M_Shop_groups
def M_is_name : List D → Cm D := mkM 1 2 ((sSeq (sIf (fOrT (fNotT (fB (fArgs (a2 (gIsi is_str (.ty "str"))) (aCons (fVar 0) (aCons (fun _ => pure (.ty "str")) aNil))))) (fNotT (fB (fChain (gOrd (fun i j => decide (i ≤ j))) (gOrd (fun i j => decide (i ≤ j))) (fun _ => pure (.int 1)) (fArgs (a1 gLen) (aCons (fVar 0) aNil)) (fun _ => pure (.int 8)))))) (sRet (fun _ => pure (.bl false))) sNil)
  (sRet (f2 (gEq false) (fFrz (oLc [1] (.one 1) (iSeq (fVar 0)) (fB (f2 (gInS true) (fVar 1) (fun _ => pure (.str "abcdefghijklmnopqrstuvwxyz")))) (fVar 1))) (fFrz (oLst aNil))))))
def N_is_name : List D → Cm D := frm M_is_name
def M_are_names : List D → Cm D := mkM 1 2 ((sSeq (sIf (fOrT (fNotT (fB (fArgs (a2 (gIsi is_list (.ty "list"))) (aCons (fVar 0) (aCons (fun _ => pure (.ty "list")) aNil))))) (fB (f2 (gEq true) (fFrz (oLc [1] (.one 1) (iSeq (fVar 0)) (fNotT (fB (fCall N_is_name [] (aCons (fVar 1) aNil)))) (fVar 1))) (fFrz (oLst aNil))))) (sRet (fun _ => pure (.bl false))) sNil)
  (sRet (f2 (gEq false) (f1 gLenSet (fVar 0)) (fArgs (a1 gLen) (aCons (fVar 0) aNil))))))
def N_are_names : List D → Cm D := frm M_are_names
def M_is_group : List D → Cm D := mkM 1 1 ((sSeq (sIf (fOrT (fNotT (fB (fArgs (a2 (gIsi is_tuple (.ty "tuple"))) (aCons (fVar 0) (aCons (fun _ => pure (.ty "tuple")) aNil))))) (fOrT (fB (f2 (gEq true) (fArgs (a1 gLen) (aCons (fVar 0) aNil)) (fun _ => pure (.int 4)))) (fNotT (fB (fCall N_is_name [] (aCons (f2 gIx (fVar 0) (fun _ => pure (.int 0))) aNil)))))) (sRet (fun _ => pure (.bl false))) sNil)
  (sSeq (sIf (fOrT (fB (f2 (gInX true) (f2 gIx (fVar 0) (fun _ => pure (.int 1))) (fFrz (oLst (aCons (fun _ => pure (.str "or")) (aCons (fun _ => pure (.str "and")) aNil)))))) (fB (f2 (gInX true) (f2 gIx (fVar 0) (fun _ => pure (.int 2))) (fFrz (oLst (aCons (fun _ => pure (.str "one")) (aCons (fun _ => pure (.str "many")) aNil))))))) (sRet (fun _ => pure (.bl false))) sNil)
  (sRet (fAndV (fCall N_are_names [] (aCons (f2 gIx (fVar 0) (fun _ => pure (.int 3))) aNil)) (fChain (gOrd (fun i j => decide (i ≤ j))) (gOrd (fun i j => decide (i ≤ j))) (fun _ => pure (.int 1)) (fArgs (a1 gLen) (aCons (f2 gIx (fVar 0) (fun _ => pure (.int 3))) aNil)) (fun _ => pure (.int 5))))))))
def N_is_group : List D → Cm D := frm M_is_group
def M_Shop_init : List D → Cm CO := mkI 2 5 "Shop" ((sSeq (sIf (fOrT (fNotT (fB (fArgs (a2 (gIsi is_list (.ty "list"))) (aCons (fVar 1) (aCons (fun _ => pure (.ty "list")) aNil))))) (fNotT (fB (fChain (gOrd (fun i j => decide (i ≤ j))) (gOrd (fun i j => decide (i ≤ j))) (fun _ => pure (.int 1)) (fArgs (a1 gLen) (aCons (fVar 1) aNil)) (fun _ => pure (.int 4)))))) (sRaise (fMk "InvalidList" "value" [] (aCons (fVar 1) aNil))) sNil)
  (sSeq (sSet 2 (fCell (oLst aNil)))
  (sSeq (sFor (.one 3) (iSeq (fVar 1)) (sSeq (sIf (fOrT (fNotT (fB (fCall N_is_group [] (aCons (fVar 3) aNil)))) (fB (f2 (gInX false) (f2 gIx (fVar 3) (fun _ => pure (.int 0))) (fFrz (oLc [4] (.one 4) (iSeq (fVar 2)) (fun _ => pure true) (f2 gIx (fVar 4) (fun _ => pure (.int 0)))))))) (sRaise (fMk "InvalidItem" "value" [] (aCons (fVar 3) aNil))) sNil)
  (sApp 2 (fTup (aCons (f2 gIx (fVar 3) (fun _ => pure (.int 0))) (aCons (f2 gIx (fVar 3) (fun _ => pure (.int 1))) (aCons (f2 gIx (fVar 3) (fun _ => pure (.int 2))) (aCons (fArgs (a1 gTuple) (aCons (f2 gIx (fVar 3) (fun _ => pure (.int 3))) aNil)) aNil))))))))
  (sFldS 0 ["Shop"] "rows" (fArgs (a1 gTuple) (aCons (fVar 2) aNil)))))))
def N_Shop_init : List D → Cm CO := frmI M_Shop_init
def M__law_copied : List D → Cm D := mkM 1 5 ((sRet (fCell (oLc [1, 2, 3, 4] (.many [1, 2, 3, 4]) (iSeq (fVar 0)) (fun _ => pure true) (fTup (aCons (fVar 1) (aCons (fVar 2) (aCons (fVar 3) (aCons (fCell (oOne gList (aCons (fVar 4) aNil))) aNil)))))))))
def N__law_copied : List D → Cm D := frm M__law_copied
def M__law_cell : List D → Cm D := mkM 2 2 ((sSeq (sIf (fB (f2 (gOrd (fun i j => decide (i < j))) (fVar 1) (fArgs (a1 gLen) (aCons (fVar 0) aNil)))) (sRet (f2 gIx (fVar 0) (fVar 1))) sNil)
  (sRet (fun _ => pure (.int 0)))))
def N__law_cell : List D → Cm D := frm M__law_cell
def M__law_generator : List D → Cm D := mkM 2 3 ((sSeq (sSet 2 (fCall N__law_cell [] (aCons (fVar 0) (aCons (fVar 1) aNil))))
  (sRet (fCell (oLst (aCons (f2 gMod (fArgs (a1 gInt) (aCons (fArgs (a2 gMax) (aCons (f2 gSub (fVar 2) (f2 gPow (fun _ => pure (.int 10)) (fun _ => pure (.int 18)))) (aCons (fun _ => pure (.int 0)) aNil))) aNil)) (f2 gPow (f2 gPow (fun _ => pure (.int 10)) (fun _ => pure (.int 60))) (fun _ => pure (.int 10)))) (aCons (f2 gMod (fArgs (a1 gInt) (aCons (fVar 2) aNil)) (fun _ => pure (.int 2147483647))) (aCons (f2 gMul2 (fun _ => pure (.int 1000)) (fVar 1)) aNil))))))))
def M__law_hash : List D → Cm D := mkM 2 3 ((sSeq (sSet 2 (f2 gMod (fArgs (a1 gInt) (aCons (f2 gAdd (f2 gAdd (f2 gAdd (f2 gMul2 (fVar 0) (fun _ => pure (.int 1103515245))) (f2 gMul2 (f2 gMul2 (fun _ => pure (.int 7919)) (fVar 1)) (fVar 1))) (fVar 1)) (fun _ => pure (.int 1))) aNil)) (fun _ => pure (.int 2147483647))))
  (sSeq (sSet 2 (f2 gMod (fArgs (a1 gInt) (aCons (f2 gAdd (f2 gMul2 (fVar 2) (fVar 2)) (fun _ => pure (.int 69621))) aNil)) (fun _ => pure (.int 2147483629))))
  (sRet (f2 gMod (fArgs (a1 gInt) (aCons (f2 gMul2 (fVar 2) (fun _ => pure (.int 48271))) aNil)) (fun _ => pure (.int 2147483587)))))))
def N__law_hash : List D → Cm D := frm M__law_hash
def F__law_random_0 : FS := (sSet 2 (f2 gMod (fArgs (a1 gInt) (aCons (f2 gIx (fVar 0) (fun _ => pure (.int 0))) aNil)) (fVar 1)))
def F__law_random_1 : FS := (sPutC (f2 gDiv (f2 gIx (fVar 0) (fun _ => pure (.int 0))) (fVar 1)) (fVar 0) (fun _ => pure (.int 0)))
def F__law_random_2 : FS := (sRet (fVar 2))
def F__law_random_3 : FS := (sIf (fB (f2 (gOrd (fun i j => decide (j < i))) (f2 gIx (fVar 0) (fun _ => pure (.int 0))) (fun _ => pure (.int 0)))) (sSeq F__law_random_0
  (sSeq F__law_random_1
  F__law_random_2)) sNil)
def F__law_random_4 : FS := (sSet 2 (fun _ => pure (.int 0)))
def F__law_random_5 : FS := (sPutC (f2 gAdd (f2 gIx (fVar 0) (fun _ => pure (.int 2))) (fun _ => pure (.int 1))) (fVar 0) (fun _ => pure (.int 2)))
def F__law_random_6 : FS := (sSet 2 (f2 gAdd (f2 gMul2 (fVar 2) (fun _ => pure (.int 2147483587))) (fCall N__law_hash [] (aCons (f2 gIx (fVar 0) (fun _ => pure (.int 1))) (aCons (f2 gIx (fVar 0) (fun _ => pure (.int 2))) aNil)))))
def B__law_random_7 : FS := (sSeq F__law_random_5
  F__law_random_6)
def F__law_random_8 : FS := (sFor (.one 3) (iRg1 (aCons (f2 gAdd (fun _ => pure (.int 1)) (f2 gDiv (f1 gBits (fVar 1)) (fun _ => pure (.int 30)))) aNil)) B__law_random_7)
def F__law_random_9 : FS := (sRet (f2 gMod (fArgs (a1 gInt) (aCons (fVar 2) aNil)) (fVar 1)))
def M__law_random : List D → Cm D := mkM 2 4 ((sSeq F__law_random_3
  (sSeq F__law_random_4
  (sSeq F__law_random_8
  F__law_random_9))))
def N__law_random : List D → Cm D := mlt M__law_random
def F__law_parts_0 : FS := (sSet 3 (fCell (oLst (aCons (fFrz (oLst (aCons (fun _ => pure (.str "red")) (aCons (fun _ => pure (.str "blue")) (aCons (fun _ => pure (.str "tan")) (aCons (fun _ => pure (.str "grey")) (aCons (fun _ => pure (.str "s")) aNil))))))) (aCons (fFrz (oLst (aCons (fun _ => pure (.str "s")) (aCons (fun _ => pure (.str "m")) (aCons (fun _ => pure (.str "l")) (aCons (fun _ => pure (.str "xl")) (aCons (fun _ => pure (.str "hue")) aNil))))))) (aCons (fFrz (oLst (aCons (fun _ => pure (.str "ada")) (aCons (fun _ => pure (.str "bo")) (aCons (fun _ => pure (.str "cy")) (aCons (fun _ => pure (.str "m")) (aCons (fun _ => pure (.str "ed")) aNil))))))) aNil))))))
def F__law_parts_1 : FS := (sApp 3 (fFrz (oLst (aCons (fun _ => pure (.str "a")) (aCons (fun _ => pure (.str "b")) (aCons (fun _ => pure (.str "red")) (aCons (fun _ => pure (.str "d")) (aCons (fun _ => pure (.str "abcdefgh")) aNil))))))))
def F__law_parts_2 : FS := (sPar 4 5 (aCons (fCell (oLst aNil)) (aCons (fun _ => pure (.int 1)) aNil)))
def F__law_parts_3 : FS := (sPar 7 8 (aCons (f2 gIx (fFrz (oLst (aCons (fun _ => pure (.str "or")) (aCons (fun _ => pure (.str "and")) aNil)))) (fCall N__law_random [] (aCons (fVar 0) (aCons (fun _ => pure (.int 2)) aNil)))) (aCons (f2 gIx (fFrz (oLst (aCons (fun _ => pure (.str "one")) (aCons (fun _ => pure (.str "many")) aNil)))) (fCall N__law_random [] (aCons (fVar 0) (aCons (fun _ => pure (.int 2)) aNil)))) aNil)))
def F__law_parts_4 : FS := (sSet 9 (f3 gSl (f2 gIx (fVar 3) (fVar 6)) pNone (pSome (f2 gAdd (fun _ => pure (.int 1)) (fCall N__law_random [] (aCons (fVar 0) (aCons (fVar 2) aNil)))))))
def F__law_parts_5 : FS := (sSet 5 (f2 gMul2 (fVar 5) (fIfT (fAndT (fB (f2 (gEq false) (fVar 8) (fun _ => pure (.str "one")))) (fB (f2 (gOrd (fun i j => decide (j < i))) (fVar 6) (fun _ => pure (.int 0))))) (fArgs (a1 gLen) (aCons (fVar 9) aNil)) (f2 gIx (fFrz (oLst (aCons (fun _ => pure (.int 1)) (aCons (fun _ => pure (.int 2)) (aCons (fun _ => pure (.int 4)) (aCons (fun _ => pure (.int 8)) (aCons (fun _ => pure (.int 16)) (aCons (fun _ => pure (.int 32)) aNil)))))))) (fArgs (a1 gLen) (aCons (fVar 9) aNil))))))
def F__law_parts_6 : FS := (sApp 4 (fTup (aCons (f2 gIx (fFrz (oLst (aCons (fun _ => pure (.str "hue")) (aCons (fun _ => pure (.str "size")) (aCons (fun _ => pure (.str "make")) (aCons (fun _ => pure (.str "x")) aNil)))))) (fVar 6)) (aCons (fVar 7) (aCons (fVar 8) (aCons (fVar 9) aNil))))))
def F__law_parts_7 : FS := (sIf (fB (f2 (gOrd (fun i j => decide (i ≤ j))) (fVar 5) (fun _ => pure (.int 1024)))) F__law_parts_6 sNil)
def B__law_parts_8 : FS := (sSeq F__law_parts_3
  (sSeq F__law_parts_4
  (sSeq F__law_parts_5
  F__law_parts_7)))
def F__law_parts_9 : FS := (sFor (.one 6) (iRg1 (aCons (fVar 1) aNil)) B__law_parts_8)
def F__law_parts_10 : FS := (sRet (fVar 4))
def M__law_parts : List D → Cm D := mkM 3 10 ((sSeq F__law_parts_0
  (sSeq F__law_parts_1
  (sSeq F__law_parts_2
  (sSeq F__law_parts_9
  F__law_parts_10)))))
def N__law_parts : List D → Cm D := mlt M__law_parts
end HT.C
set_option maxRecDepth 100000
set_option maxHeartbeats 1000000
namespace HT.C
open PySem PySem.Spec L2
open PyProof.Rows hiding St
def M_check_shop : List D → Cm D := mkM 1 1 ((sIf (fNotT (fB (fArgs (a2 (gIsi is_Shop (.own "Shop"))) (aCons (fVar 0) (aCons (fun _ => pure (.glob "Shop")) aNil))))) (sRaise (fMk "InvalidShop" "value" [] (aCons (fVar 0) aNil))) sNil))
def N_check_shop : List D → Cm D := frm M_check_shop
def M_are_ticks : List D → Cm D := mkM 2 5 ((sSeq (sIf (fOrT (fNotT (fB (fArgs (a2 (gIsi is_list (.ty "list"))) (aCons (fVar 1) (aCons (fun _ => pure (.ty "list")) aNil))))) (fB (f2 (gEq true) (fArgs (a1 gLen) (aCons (fVar 1) aNil)) (fArgs (a1 gLen) (aCons (fFld ["Shop"] "rows" (vVar 0)) aNil))))) (sRet (fun _ => pure (.bl false))) sNil)
  (sSeq (sFor (.many [2, 3]) (iZipS2F (aCons (fVar 1) (aCons (fFld ["Shop"] "rows" (vVar 0)) aNil))) (sIf (fOrT (fNotT (fB (fCall N_are_names [] (aCons (fVar 2) aNil)))) (fB (f2 (gEq true) (fVar 2) (fFrz (oLc [4] (.one 4) (iSeq (f2 gIx (fVar 3) (fun _ => pure (.int 3)))) (fB (f2 (gInX false) (fVar 4) (fVar 2))) (fVar 4)))))) (sRet (fun _ => pure (.bl false))) sNil))
  (sRet (fun _ => pure (.bl true))))))
def N_are_ticks : List D → Cm D := frm M_are_ticks
def M_fits : List D → Cm D := mkM 2 4 ((sSeq (sIf (fNotT (fB (fCall N_are_ticks [] (aCons (fVar 0) (aCons (fVar 1) aNil))))) (sRet (fun _ => pure (.bl false))) sNil)
  (sRet (f2 (gEq false) (fFrz (oLc [2, 3] (.many [2, 3]) (iEnumA (aCons (fFld ["Shop"] "rows" (vVar 0)) aNil)) (fAndT (fB (f2 (gEq false) (f2 gIx (fVar 3) (fun _ => pure (.int 2))) (fun _ => pure (.str "one")))) (fB (f2 (gEq true) (fArgs (a1 gLen) (aCons (f2 gIx (fVar 1) (fVar 2)) aNil)) (fun _ => pure (.int 1))))) (fVar 2))) (fFrz (oLst aNil))))))
def N_fits : List D → Cm D := frm M_fits
end HT.C
set_option maxRecDepth 100000
set_option maxHeartbeats 1000000
namespace HT.C
open PySem PySem.Spec L2
open PyProof.Rows hiding St
end HT.C
set_option maxRecDepth 100000
set_option maxHeartbeats 1000000
namespace HT.C
open PySem PySem.Spec L2
open PyProof.Rows hiding St
end HT.C
set_option maxRecDepth 100000
set_option maxHeartbeats 1000000
namespace HT.C
open PySem PySem.Spec L2
open PyProof.Rows hiding St
end HT.C
set_option maxRecDepth 100000
set_option maxHeartbeats 1000000
namespace HT.C
open PySem PySem.Spec L2
open PyProof.Rows hiding St
def M__law_mixed : List D → Cm D := mkM 2 3 ((sSeq (sSet 2 (f2 gMod (f2 gAdd (f2 gAdd (f2 gAdd (f2 gMul2 (fVar 0) (fun _ => pure (.int 1103515245))) (f2 gMul2 (f2 gMul2 (fun _ => pure (.int 7919)) (fVar 1)) (fVar 1))) (fVar 1)) (fun _ => pure (.int 1))) (fun _ => pure (.int 2147483647))))
  (sSeq (sSet 2 (f2 gMod (f2 gAdd (f2 gMul2 (fVar 2) (fVar 2)) (fun _ => pure (.int 69621))) (fun _ => pure (.int 2147483629))))
  (sRet (f2 gMod (f2 gMul2 (fVar 2) (fun _ => pure (.int 48271))) (fun _ => pure (.int 2147483587)))))))
def N__law_mixed : List D → Cm D := frm M__law_mixed
def F__law_draw_0 : FS := (sSet 2 (f2 gMod (f2 gIx (fVar 0) (fun _ => pure (.int 0))) (fVar 1)))
def F__law_draw_1 : FS := (sPutC (f2 gDiv (f2 gIx (fVar 0) (fun _ => pure (.int 0))) (fVar 1)) (fVar 0) (fun _ => pure (.int 0)))
def F__law_draw_2 : FS := (sRet (fVar 2))
def F__law_draw_3 : FS := (sIf (fB (f2 (gOrd (fun i j => decide (j < i))) (f2 gIx (fVar 0) (fun _ => pure (.int 0))) (fun _ => pure (.int 0)))) (sSeq F__law_draw_0
  (sSeq F__law_draw_1
  F__law_draw_2)) sNil)
def F__law_draw_4 : FS := (sSet 3 (fun _ => pure (.int 0)))
def F__law_draw_5 : FS := (sPutC (f2 gAdd (f2 gIx (fVar 0) (fun _ => pure (.int 2))) (fun _ => pure (.int 1))) (fVar 0) (fun _ => pure (.int 2)))
def F__law_draw_6 : FS := (sSet 3 (f2 gAdd (f2 gMul2 (fVar 3) (fun _ => pure (.int 2147483587))) (fCall N__law_mixed [] (aCons (f2 gIx (fVar 0) (fun _ => pure (.int 1))) (aCons (f2 gIx (fVar 0) (fun _ => pure (.int 2))) aNil)))))
def B__law_draw_7 : FS := (sSeq F__law_draw_5
  F__law_draw_6)
def F__law_draw_8 : FS := (sFor (.one 4) (iRg1 (aCons (f2 gAdd (fun _ => pure (.int 1)) (f2 gDiv (f1 gBits (fVar 1)) (fun _ => pure (.int 30)))) aNil)) B__law_draw_7)
def F__law_draw_9 : FS := (sRet (f2 gMod (fVar 3) (fVar 1)))
def M__law_draw : List D → Cm D := mkM 2 5 ((sSeq F__law_draw_3
  (sSeq F__law_draw_4
  (sSeq F__law_draw_8
  F__law_draw_9))))
def N__law_draw : List D → Cm D := mlt M__law_draw
def F__law_groups_2 : FS := (sPar 6 7 (aCons (f2 gIx (fFrz (oLst (aCons (fun _ => pure (.str "or")) (aCons (fun _ => pure (.str "and")) aNil)))) (fCall N__law_draw [] (aCons (fVar 0) (aCons (fun _ => pure (.int 2)) aNil)))) (aCons (f2 gIx (fFrz (oLst (aCons (fun _ => pure (.str "one")) (aCons (fun _ => pure (.str "many")) (aCons (fun _ => pure (.str "many")) aNil))))) (fCall N__law_draw [] (aCons (fVar 0) (aCons (fun _ => pure (.int 3)) aNil)))) aNil)))
def F__law_groups_3 : FS := (sApp 4 (fTup (aCons (f2 gIx (fFrz (oLst (aCons (fun _ => pure (.str "hue")) (aCons (fun _ => pure (.str "size")) (aCons (fun _ => pure (.str "make")) aNil))))) (fVar 5)) (aCons (fVar 6) (aCons (fVar 7) (aCons (f3 gSl (f2 gIx (fVar 3) (fVar 5)) pNone (pSome (f2 gAdd (fun _ => pure (.int 1)) (fCall N__law_draw [] (aCons (fVar 0) (aCons (fVar 2) aNil)))))) aNil))))))
def B__law_groups_4 : FS := (sSeq F__law_groups_2
  F__law_groups_3)
end HT.C
set_option maxRecDepth 100000
set_option maxHeartbeats 1000000
namespace HT.C
open PySem PySem.Spec L2
open PyProof.Rows hiding St
end HT.C
set_option maxRecDepth 100000
set_option maxHeartbeats 1000000
namespace HT.C
open PySem PySem.Spec L2
open PyProof.Rows hiding St
def F_group_of_0 : FS := (sRet (fun _ => pure .non))
def F_group_of_1 : FS := (sIf (fOrT (fB (f2 (gOrd (fun i j => decide (i < j))) (fArgs (a1 gLen) (aCons (fVar 0) aNil)) (fun _ => pure (.int 5)))) (fOrT (fB (f2 (gEq true) (f2 gIx (fVar 0) (fun _ => pure (.int 3))) (fun _ => pure (.str ":")))) (fOrT (fB (f2 (gInX false) (fun _ => pure (.str ":")) (f3 gSl (fVar 0) pNone (pSome (fun _ => pure (.int 3)))))) (fB (f2 (gInX false) (fun _ => pure (.str ":")) (f3 gSl (fVar 0) (pSome (fun _ => pure (.int 4))) pNone)))))) F_group_of_0 sNil)
def F_group_of_2 : FS := (sRet (fun _ => pure .non))
def F_group_of_3 : FS := (sIf (fB (f2 (gEq true) (fFrz (oLc [1] (.one 1) (iSeq (fVar 0)) (fB (f2 (gOrd (fun i j => decide (j < i))) (fArgs (a1 gLen) (aCons (fVar 1) aNil)) (fun _ => pure (.int 8)))) (fVar 1))) (fFrz (oLst aNil)))) F_group_of_2 sNil)
def F_group_of_4 : FS := (sRet (fTup (aCons (f2 gIx (fVar 0) (fun _ => pure (.int 0))) (aCons (f2 gIx (fVar 0) (fun _ => pure (.int 1))) (aCons (f2 gIx (fVar 0) (fun _ => pure (.int 2))) (aCons (f3 gSl (fVar 0) (pSome (fun _ => pure (.int 4))) pNone) aNil))))))
def M_group_of : List D → Cm D := mkM 1 2 ((sSeq F_group_of_1
  (sSeq F_group_of_3
  F_group_of_4)))
def N_group_of : List D → Cm D := mlt M_group_of
def F_tokens_of_0 : FS := (sPar 1 2 (aCons (fCell (oLst aNil)) (aCons (fun _ => pure (.str " ")) aNil)))
def F_tokens_of_1 : FS := (sPutC (f2 gAdd (f2 gIx (fVar 1) (f1 gNeg (fun _ => pure (.int 1)))) (fVar 3)) (fVar 1) (f1 gNeg (fun _ => pure (.int 1))))
def F_tokens_of_2 : FS := (sApp 1 (fVar 3))
def F_tokens_of_3 : FS := (sRet (fun _ => pure .non))
def F_tokens_of_4 : FS := (sIf (fB (f2 (gInS true) (fVar 3) (fun _ => pure (.str " \n")))) F_tokens_of_3 sNil)
def F_tokens_of_5 : FS := (sIf (fOrT (fB (f2 (gInS false) (fVar 3) (fun _ => pure (.str "abcdefghijklmnopqrstuvwxyz")))) (fB (f2 (gInS false) (fVar 3) (fun _ => pure (.str ":/"))))) F_tokens_of_2 F_tokens_of_4)
def F_tokens_of_6 : FS := (sIf (fAndT (fB (f2 (gInS false) (fVar 3) (fun _ => pure (.str "abcdefghijklmnopqrstuvwxyz")))) (fB (f2 (gInS false) (fVar 2) (fun _ => pure (.str "abcdefghijklmnopqrstuvwxyz"))))) F_tokens_of_1 F_tokens_of_5)
def F_tokens_of_7 : FS := (sSet 2 (fVar 3))
def B_tokens_of_8 : FS := (sSeq F_tokens_of_6
  F_tokens_of_7)
def F_tokens_of_9 : FS := (sFor (.one 3) (iSeq (fVar 0)) B_tokens_of_8)
def F_tokens_of_10 : FS := (sRet (fVar 1))
def M_tokens_of : List D → Cm D := mkM 1 4 ((sSeq F_tokens_of_0
  (sSeq F_tokens_of_9
  F_tokens_of_10)))
def N_tokens_of : List D → Cm D := frm M_tokens_of
def F_read_shop_0 : FS := (sSet 1 (fIfT (fB (fArgs (a2 (gIsi is_str (.ty "str"))) (aCons (fVar 0) (aCons (fun _ => pure (.ty "str")) aNil)))) (fCall N_tokens_of [] (aCons (fVar 0) aNil)) (fun _ => pure .non)))
def F_read_shop_1 : FS := (sRaise (fMk "InvalidText" "value" [] (aCons (fVar 0) aNil)))
def F_read_shop_2 : FS := (sIf (fB (f2 (gIsN false) (fVar 1) (fun _ => pure .non))) F_read_shop_1 sNil)
def F_read_shop_3 : FS := (sSet 2 (fCell (oLst (aCons (fCell (oLst aNil)) aNil))))
def F_read_shop_4 : FS := (sApp 2 (fCell (oLst aNil)))
def F_read_shop_5 : FS := (sAppC (f2 gIx (fVar 2) (f1 gNeg (fun _ => pure (.int 1)))) (fVar 3))
def F_read_shop_6 : FS := (sIf (fB (f2 (gEq false) (fVar 3) (fun _ => pure (.str "/")))) F_read_shop_4 F_read_shop_5)
def B_read_shop_7 : FS := F_read_shop_6
def F_read_shop_8 : FS := (sFor (.one 3) (iSeq (fVar 1)) B_read_shop_7)
def F_read_shop_9 : FS := (sPar 4 5 (aCons (fFrz (oLc [6] (.one 6) (iSeq (fVar 2)) (fun _ => pure true) (fCall N_group_of [] (aCons (fVar 6) aNil)))) (aCons (fun _ => pure .non) aNil)))
def F_read_shop_10 : FS := (sSet 5 (fFrz (oMake N_Shop_init [] (aCons (fVar 4) aNil))))
def F_read_shop_11 : FS := (sThru F_read_shop_10)
def F_read_shop_12 : FS := (sRaise (fMk "InvalidText" "value" [] (aCons (fVar 0) aNil)))
def F_read_shop_13 : FS := (sIf (fB (f2 (gIsN false) (fVar 5) (fun _ => pure .non))) F_read_shop_12 sNil)
def F_read_shop_14 : FS := (sRet (fVar 5))
def M_read_shop : List D → Cm D := mkM 1 7 ((sSeq F_read_shop_0
  (sSeq F_read_shop_2
  (sSeq F_read_shop_3
  (sSeq F_read_shop_8
  (sSeq F_read_shop_9
  (sSeq F_read_shop_11
  (sSeq F_read_shop_13
  F_read_shop_14))))))))
def N_read_shop : List D → Cm D := frm M_read_shop
def F_text_of_0 : FS := (sExpr (fCall N_check_shop [] (aCons (fVar 0) aNil)))
def F_text_of_1 : FS := (sRet (fJoin (fun _ => pure (.str " / ")) (fFrz (oLc [1, 2, 3, 4] (.many [1, 2, 3, 4]) (iSeq (fMeth "Shop" "groups" N_Shop_groups [] (fVar 0) (fun _ => pure []))) (fun _ => pure true) (fJs [(fFmt (fVar 1)), (fun _ => pure (.str " ")), (fFmt (fVar 2)), (fun _ => pure (.str " ")), (fFmt (fVar 3)), (fun _ => pure (.str ": ")), (fFmt (fJoin (fun _ => pure (.str " ")) (fVar 4)))] Str.empty)))))
def M_text_of : List D → Cm D := mkM 1 5 ((sSeq F_text_of_0
  F_text_of_1))
def N_text_of : List D → Cm D := frm M_text_of
end HT.C
set_option maxRecDepth 100000
set_option maxHeartbeats 1000000
namespace HT.Lk45
open PySem PySem.Spec L2 HT.C
open PyProof.Rows hiding St
abbrev P0 : Program := PySem.Challenge.pw_tickcounts_k45_shops_written_and_read
def top (i : Nat) : Stmt := P0.main.body.getD i (.Pass ⟨0, 0, 0, 0⟩)
def sub (st : Stmt) (j : Nat) : Stmt := match st with
  | .ClassDef _ _ _ b _ _ _ _ _ _ _ => b.getD j st
  | _ => st
abbrev s_Shop_eq : Stmt := sub (top 16) 4
abbrev s_Shop_groups : Stmt := sub (top 16) 1
abbrev s_is_name : Stmt := top 10
abbrev s_are_names : Stmt := top 11
abbrev s_is_group : Stmt := top 15
abbrev s_Shop_init : Stmt := sub (top 16) 0
abbrev s__law_copied : Stmt := top 32
abbrev s__law_cell : Stmt := top 27
abbrev s__law_generator : Stmt := top 29
abbrev s__law_hash : Stmt := top 28
abbrev s__law_random : Stmt := top 30
abbrev s__law_parts : Stmt := top 31
abbrev s__law_spaced : Stmt := top 34
abbrev s__law_written : Stmt := top 33
abbrev s_group_of : Stmt := top 24
abbrev s_tokens_of : Stmt := top 23
abbrev s_read_shop : Stmt := top 25
abbrev s_check_shop : Stmt := top 18
abbrev s_text_of : Stmt := top 22
abbrev s_law : Stmt := top 35
def xt_InvalidShop : ExTb := fun C => if C = "InvalidItem" then some false else if C = "InvalidList" then some false else if C = "InvalidShop" then some true else if C = "InvalidText" then some false else none
def xf_value : List Str := ["InvalidItem", "InvalidList", "InvalidShop", "InvalidText"]
structure Fx (K : PySem.W.Frag) (mg : Str → Option Value) where
  fd_Shop_eq : FuncData
  d_Shop_eq : FunD K "__eq__" "Shop.__eq__" (defArgs s_Shop_eq) (defBody s_Shop_eq) (defScope s_Shop_eq) [] [] (He.fAd K ("Shop", some "__eq__")) fd_Shop_eq
  fd_Shop_groups : FuncData
  d_Shop_groups : FunD K "groups" "Shop.groups" (defArgs s_Shop_groups) (defBody s_Shop_groups) (defScope s_Shop_groups) [] [] (He.fAd K ("Shop", some "groups")) fd_Shop_groups
  fd_is_name : FuncData
  d_is_name : FunD K "is_name" "is_name" (defArgs s_is_name) (defBody s_is_name) (defScope s_is_name) [] [] (He.fAd K ("is_name", none)) fd_is_name
  g_is_name : mg "is_name" = some (.ref (He.fAd K ("is_name", none)))
  fd_are_names : FuncData
  d_are_names : FunD K "are_names" "are_names" (defArgs s_are_names) (defBody s_are_names) (defScope s_are_names) [] [] (He.fAd K ("are_names", none)) fd_are_names
  g_are_names : mg "are_names" = some (.ref (He.fAd K ("are_names", none)))
  fd_is_group : FuncData
  d_is_group : FunD K "is_group" "is_group" (defArgs s_is_group) (defBody s_is_group) (defScope s_is_group) [] [] (He.fAd K ("is_group", none)) fd_is_group
  g_is_group : mg "is_group" = some (.ref (He.fAd K ("is_group", none)))
  fd_Shop_init : FuncData
  d_Shop_init : FunD K "__init__" "Shop.__init__" (defArgs s_Shop_init) (defBody s_Shop_init) (defScope s_Shop_init) [] [] (He.fAd K ("Shop", some "__init__")) fd_Shop_init
  fd__law_copied : FuncData
  d__law_copied : FunD K "_law_copied" "_law_copied" (defArgs s__law_copied) (defBody s__law_copied) (defScope s__law_copied) [] [] (He.fAd K ("_law_copied", none)) fd__law_copied
  g__law_copied : mg "_law_copied" = some (.ref (He.fAd K ("_law_copied", none)))
  fd__law_cell : FuncData
  d__law_cell : FunD K "_law_cell" "_law_cell" (defArgs s__law_cell) (defBody s__law_cell) (defScope s__law_cell) [] [] (He.fAd K ("_law_cell", none)) fd__law_cell
  g__law_cell : mg "_law_cell" = some (.ref (He.fAd K ("_law_cell", none)))
  fd__law_generator : FuncData
  d__law_generator : FunD K "_law_generator" "_law_generator" (defArgs s__law_generator) (defBody s__law_generator) (defScope s__law_generator) [] [] (He.fAd K ("_law_generator", none)) fd__law_generator
  g__law_generator : mg "_law_generator" = some (.ref (He.fAd K ("_law_generator", none)))
  fd__law_hash : FuncData
  d__law_hash : FunD K "_law_hash" "_law_hash" (defArgs s__law_hash) (defBody s__law_hash) (defScope s__law_hash) [] [] (He.fAd K ("_law_hash", none)) fd__law_hash
  g__law_hash : mg "_law_hash" = some (.ref (He.fAd K ("_law_hash", none)))
  fd__law_random : FuncData
  d__law_random : FunD K "_law_random" "_law_random" (defArgs s__law_random) (defBody s__law_random) (defScope s__law_random) [] [] (He.fAd K ("_law_random", none)) fd__law_random
  g__law_random : mg "_law_random" = some (.ref (He.fAd K ("_law_random", none)))
  fd__law_parts : FuncData
  d__law_parts : FunD K "_law_parts" "_law_parts" (defArgs s__law_parts) (defBody s__law_parts) (defScope s__law_parts) [] [] (He.fAd K ("_law_parts", none)) fd__law_parts
  g__law_parts : mg "_law_parts" = some (.ref (He.fAd K ("_law_parts", none)))
  fd__law_spaced : FuncData
  d__law_spaced : FunD K "_law_spaced" "_law_spaced" (defArgs s__law_spaced) (defBody s__law_spaced) (defScope s__law_spaced) [] [] (He.fAd K ("_law_spaced", none)) fd__law_spaced
  g__law_spaced : mg "_law_spaced" = some (.ref (He.fAd K ("_law_spaced", none)))
  fd__law_written : FuncData
  d__law_written : FunD K "_law_written" "_law_written" (defArgs s__law_written) (defBody s__law_written) (defScope s__law_written) [] [] (He.fAd K ("_law_written", none)) fd__law_written
  g__law_written : mg "_law_written" = some (.ref (He.fAd K ("_law_written", none)))
  fd_group_of : FuncData
  d_group_of : FunD K "group_of" "group_of" (defArgs s_group_of) (defBody s_group_of) (defScope s_group_of) [] [] (He.fAd K ("group_of", none)) fd_group_of
  g_group_of : mg "group_of" = some (.ref (He.fAd K ("group_of", none)))
  fd_tokens_of : FuncData
  d_tokens_of : FunD K "tokens_of" "tokens_of" (defArgs s_tokens_of) (defBody s_tokens_of) (defScope s_tokens_of) [] [] (He.fAd K ("tokens_of", none)) fd_tokens_of
  g_tokens_of : mg "tokens_of" = some (.ref (He.fAd K ("tokens_of", none)))
  fd_read_shop : FuncData
  d_read_shop : FunD K "read_shop" "read_shop" (defArgs s_read_shop) (defBody s_read_shop) (defScope s_read_shop) [] [] (He.fAd K ("read_shop", none)) fd_read_shop
  g_read_shop : mg "read_shop" = some (.ref (He.fAd K ("read_shop", none)))
  fd_check_shop : FuncData
  d_check_shop : FunD K "check_shop" "check_shop" (defArgs s_check_shop) (defBody s_check_shop) (defScope s_check_shop) [] [] (He.fAd K ("check_shop", none)) fd_check_shop
  g_check_shop : mg "check_shop" = some (.ref (He.fAd K ("check_shop", none)))
  fd_text_of : FuncData
  d_text_of : FunD K "text_of" "text_of" (defArgs s_text_of) (defBody s_text_of) (defScope s_text_of) [] [] (He.fAd K ("text_of", none)) fd_text_of
  g_text_of : mg "text_of" = some (.ref (He.fAd K ("text_of", none)))
  fd_law : FuncData
  d_law : FunD K "law" "law" (defArgs s_law) (defBody s_law) (defScope s_law) [] [] (He.fAd K ("law", none)) fd_law
  g_law : mg "law" = some (.ref (He.fAd K ("law", none)))
  n_int : mg "int" = none
  n_isinstance : mg "isinstance" = none
  n_len : mg "len" = none
  n_list : mg "list" = none
  n_max : mg "max" = none
  n_range : mg "range" = none
  n_repr : mg "repr" = none
  n_set : mg "set" = none
  n_str : mg "str" = none
  n_super : mg "super" = none
  n_tuple : mg "tuple" = none
  g_InvalidItem : mg "InvalidItem" = some (.ref (He.ga K "InvalidItem"))
  g_InvalidList : mg "InvalidList" = some (.ref (He.ga K "InvalidList"))
  g_InvalidShop : mg "InvalidShop" = some (.ref (He.ga K "InvalidShop"))
  g_InvalidText : mg "InvalidText" = some (.ref (He.ga K "InvalidText"))
  g_Shop : mg "Shop" = some (.ref (He.ga K "Shop"))
  mk_Shop : Mk K (He.ga K "Shop") (He.fAd K ("Shop", some "__init__"))
  cls_Shop : Cls K (He.ga K "Shop")
  meth_Shop_groups : Meth K (He.ga K "Shop") "groups" (He.fAd K ("Shop", some "groups"))
  eq_Shop : EqC K (He.ga K "Shop") (He.fAd K ("Shop", some "__eq__"))
  is_Shop : IsTb (He.ga K) K (.ref (He.ga K "Shop")) is_Shop
  is_list : IsTb (He.ga K) K (.type "list") is_list
  is_str : IsTb (He.ga K) K (.type "str") is_str
  is_tuple : IsTb (He.ga K) K (.type "tuple") is_tuple
  f_rows : ∀ C ∈ (["Shop"] : List Str), Cls K (He.ga K C) ∧ NoAttr K (He.ga K C) "rows"
  xf_value : ∀ C ∈ xf_value, XfC K (He.ga K C) ∧ PySem.W.findIn K (.ref (He.ga K C)) "value" = some none
  xt_InvalidShop : ∀ C b, xt_InvalidShop C = some b → PySem.W.exmOne K (.ref (He.ga K C)) (.ref (He.ga K "InvalidShop")) = some b
  fx_InvalidItem : FuncData
  ex_InvalidItem : ExI P0 K (He.ga K "InvalidItem") "value" (He.fAd K ("InvalidItem", some "__init__")) fx_InvalidItem
  bx_InvalidItem : Binds K fx_InvalidItem ["self", "value"] []
  fx_InvalidList : FuncData
  ex_InvalidList : ExI P0 K (He.ga K "InvalidList") "value" (He.fAd K ("InvalidList", some "__init__")) fx_InvalidList
  bx_InvalidList : Binds K fx_InvalidList ["self", "value"] []
  fx_InvalidShop : FuncData
  ex_InvalidShop : ExI P0 K (He.ga K "InvalidShop") "value" (He.fAd K ("InvalidShop", some "__init__")) fx_InvalidShop
  bx_InvalidShop : Binds K fx_InvalidShop ["self", "value"] []
  fx_InvalidText : FuncData
  ex_InvalidText : ExI P0 K (He.ga K "InvalidText") "value" (He.fAd K ("InvalidText", some "__init__")) fx_InvalidText
  bx_InvalidText : Binds K fx_InvalidText ["self", "value"] []
  k_BLANKS : ∃ u, mg "BLANKS" = some u ∧ RelV (.str " \n") u
  k_LETTERS : ∃ u, mg "LETTERS" = some u ∧ RelV (.str "abcdefghijklmnopqrstuvwxyz") u
  k_MOST_BOXES : ∃ u, mg "MOST_BOXES" = some u ∧ RelV (.int 5) u
  k_MOST_GROUPS : ∃ u, mg "MOST_GROUPS" = some u ∧ RelV (.int 4) u
  k_MOST_LETTERS : ∃ u, mg "MOST_LETTERS" = some u ∧ RelV (.int 8) u
  k_SIGNS : ∃ u, mg "SIGNS" = some u ∧ RelV (.str ":/") u
section
variable {w : World} {K : PySem.W.Frag} {mg : Str → Option Value} {base : Heap}
theorem bx_InvalidItem (x : Fx K mg) : Binds K x.fx_InvalidItem ["self", "value"] [] := x.bx_InvalidItem
theorem bx_InvalidList (x : Fx K mg) : Binds K x.fx_InvalidList ["self", "value"] [] := x.bx_InvalidList
theorem bx_InvalidShop (x : Fx K mg) : Binds K x.fx_InvalidShop ["self", "value"] [] := x.bx_InvalidShop
theorem bx_InvalidText (x : Fx K mg) : Binds K x.fx_InvalidText ["self", "value"] [] := x.bx_InvalidText
theorem sc_Shop_eq : FnScope ["self", "other"] ["self", "other"] (defScope s_Shop_eq) := ⟨rfl, rfl, rfl, by decide +kernel, rfl, by decide +kernel, by decide +kernel⟩
theorem b_Shop_eq (x : Fx K mg) : Binds K x.fd_Shop_eq ["self", "other"] [] := x.d_Shop_eq.bindsN fun _ _ _ _ _ _ us hl => match us, hl with | [_, _], _ => rfl
set_option maxHeartbeats 4000000 in
theorem ft_Shop_eq (x : Fx K mg) : FT P0 w K mg base (He.ga K) (3 + 1) (He.fAd K ("Shop", some "__eq__")) x.fd_Shop_eq ["self", "other"] M_Shop_eq := ft_of x.d_Shop_eq sc_Shop_eq rfl rfl fun cdv A outer s H E lv =>
  have nd := sc_Shop_eq.nd
  have tk := ctx_takes (P := P0) (w := w) (K := K) (mg := mg) (base := base) (N := ["self", "other"]) (qual := "Shop.__eq__") (scope := defScope s_Shop_eq) (f := He.fAd K ("Shop", some "__eq__")) (cdv := cdv) (A := A) (outer := outer) (s := s) (H := H) (E := E)
  have po := ctx_po (P := P0) (w := w) (K := K) (mg := mg) (base := base) (N := ["self", "other"]) (qual := "Shop.__eq__") (scope := defScope s_Shop_eq) (f := He.fAd K ("Shop", some "__eq__")) (cdv := cdv) (A := A) (outer := outer) (s := s) (H := H) (E := E)
  (sfs_one (sf_ret (pf_and (pf_callB call_isi2 (ok_gIsi (c := (.own "Shop")) x.is_Shop) rfl x.n_isinstance PyProof.Rows.Boot.«isinstance» (af_cons (pf_var (pv 1)) (af_cons (pf_clsName rfl x.g_Shop) af_nil))) (pf_one (pf_cmp (op_eqD lv.room.units) ok_gEq (pf_fld (cs := ["Shop"]) (vf_var (pv 0)) x.f_rows) (pf_fld (cs := ["Shop"]) (vf_var (pv 1)) x.f_rows) (nomark _))))))
theorem fn_Shop_eq (x : Fx K mg) : FT P0 w K mg base (He.ga K) (3 + 1) (He.fAd K ("Shop", some "__eq__")) x.fd_Shop_eq ["self", "other"] N_Shop_eq := ft_frm (ft_Shop_eq x)
theorem sc_Shop_groups : FnScope ["self", "name", "mode", "bears", "boxes"] ["self"] (defScope s_Shop_groups) := ⟨rfl, rfl, rfl, by decide +kernel, rfl, by decide +kernel, by decide +kernel⟩
theorem b_Shop_groups (x : Fx K mg) : Binds K x.fd_Shop_groups ["self"] [] := x.d_Shop_groups.bindsN fun _ _ _ _ _ _ us hl => match us, hl with | [_], _ => rfl
set_option maxHeartbeats 4000000 in
theorem ft_Shop_groups (x : Fx K mg) : FT P0 w K mg base (He.ga K) (3 + 1) (He.fAd K ("Shop", some "groups")) x.fd_Shop_groups ["self"] M_Shop_groups := ft_of x.d_Shop_groups sc_Shop_groups rfl rfl fun cdv A outer s H E lv =>
  have nd := sc_Shop_groups.nd
  have tk := ctx_takes (P := P0) (w := w) (K := K) (mg := mg) (base := base) (N := ["self", "name", "mode", "bears", "boxes"]) (qual := "Shop.groups") (scope := defScope s_Shop_groups) (f := He.fAd K ("Shop", some "groups")) (cdv := cdv) (A := A) (outer := outer) (s := s) (H := H) (E := E)
  have po := ctx_po (P := P0) (w := w) (K := K) (mg := mg) (base := base) (N := ["self", "name", "mode", "bears", "boxes"]) (qual := "Shop.groups") (scope := defScope s_Shop_groups) (f := He.fAd K ("Shop", some "groups")) (cdv := cdv) (A := A) (outer := outer) (s := s) (H := H) (E := E)
  (sfs_one (sf_ret (pf_cell (of_lc (own := [("name", 1), ("mode", 2), ("bears", 3), ("boxes", 4)]) (b := (.many [1, 2, 3, 4])) rfl nd (if_seq (pf_fld (cs := ["Shop"]) (vf_var (pv 0)) x.f_rows)) (blkOk_by (by rfl)) (by decide) (fun _ _ _ _ _ => (pg_tup rfl (pgs_cons (pg_name nd rfl (by first | exact Or.inl rfl | exact Or.inr rfl)) (pgs_cons (pg_name nd rfl (by first | exact Or.inl rfl | exact Or.inr rfl)) (pgs_cons (pg_name nd rfl (by first | exact Or.inl rfl | exact Or.inr rfl)) (pgs_cons (pg_name nd rfl (by first | exact Or.inl rfl | exact Or.inr rfl)) pgs_nil)))))) (fun _ _ _ _ _ => tsf_nil) (fun _ _ _ _ _ => (pf_tup (af_cons (pf_var (pv 1)) (af_cons (pf_var (pv 2)) (af_cons (pf_var (pv 3)) (af_cons (pf_cell (of_list rfl x.n_list (af_cons (pf_var (pv 4)) af_nil))) af_nil))))))))))
theorem fn_Shop_groups (x : Fx K mg) : FT P0 w K mg base (He.ga K) (3 + 1) (He.fAd K ("Shop", some "groups")) x.fd_Shop_groups ["self"] N_Shop_groups := ft_frm (ft_Shop_groups x)
theorem sc_is_name : FnScope ["value", "letter"] ["value"] (defScope s_is_name) := ⟨rfl, rfl, rfl, by decide +kernel, rfl, by decide +kernel, by decide +kernel⟩
theorem b_is_name (x : Fx K mg) : Binds K x.fd_is_name ["value"] [] := x.d_is_name.bindsN fun _ _ _ _ _ _ us hl => match us, hl with | [_], _ => rfl
set_option maxHeartbeats 4000000 in
theorem ft_is_name (x : Fx K mg) : FT P0 w K mg base (He.ga K) (3 + 1) (He.fAd K ("is_name", none)) x.fd_is_name ["value"] M_is_name := ft_of x.d_is_name sc_is_name rfl rfl fun cdv A outer s H E lv =>
  have nd := sc_is_name.nd
  have tk := ctx_takes (P := P0) (w := w) (K := K) (mg := mg) (base := base) (N := ["value", "letter"]) (qual := "is_name") (scope := defScope s_is_name) (f := He.fAd K ("is_name", none)) (cdv := cdv) (A := A) (outer := outer) (s := s) (H := H) (E := E)
  have po := ctx_po (P := P0) (w := w) (K := K) (mg := mg) (base := base) (N := ["value", "letter"]) (qual := "is_name") (scope := defScope s_is_name) (f := He.fAd K ("is_name", none)) (cdv := cdv) (A := A) (outer := outer) (s := s) (H := H) (E := E)
  (sfs_cons (sf_if (tf_pw (twf_or (tf_not (tf_val (pf_callB call_isi2 (ok_gIsi (c := (.ty "str")) x.is_str) rfl x.n_isinstance PyProof.Rows.Boot.«isinstance» (af_cons (pf_var (pv 0)) (af_cons (pf_tyName rfl x.n_str PyProof.Rows.Boot.«str») af_nil))))) (twf_or1 (tf_not (tf_chain op_le (ok_gOrd _) op_le (ok_gOrd _) pf_int (pf_callB call_len ok_gLen rfl x.n_len PyProof.Rows.Boot.«len» (af_cons (pf_var (pv 0)) af_nil)) (pf_kint rfl x.k_MOST_LETTERS.choose_spec.1 x.k_MOST_LETTERS.choose_spec.2)))))) (sfs_one (sf_ret pf_bl)) sfs_nil)
  (sfs_one (sf_ret (pf_cmp (op_eqD lv.room.units) ok_gEq (pf_frz (of_lc (own := [("letter", 1)]) (b := (.one 1)) rfl nd (if_seq (pf_var (pv 0))) (blkOk_by (by rfl)) (by decide) (fun _ _ _ _ _ => (pg_name nd rfl (by first | exact Or.inl rfl | exact Or.inr rfl))) (fun _ _ _ _ _ => (tsf_one (tf_cmp op_notIn_sign ok_gNotInS (pf_var (pv 1)) (pf_kstr rfl x.k_LETTERS.choose_spec.1 x.k_LETTERS.choose_spec.2) rfl))) (fun _ _ _ _ _ => (pf_var (pv 1))))) (pf_frz (of_lst af_nil)) (nomark _)))))
theorem fn_is_name (x : Fx K mg) : FT P0 w K mg base (He.ga K) (3 + 1) (He.fAd K ("is_name", none)) x.fd_is_name ["value"] N_is_name := ft_frm (ft_is_name x)
theorem sc_are_names : FnScope ["value", "name"] ["value"] (defScope s_are_names) := ⟨rfl, rfl, rfl, by decide +kernel, rfl, by decide +kernel, by decide +kernel⟩
theorem b_are_names (x : Fx K mg) : Binds K x.fd_are_names ["value"] [] := x.d_are_names.bindsN fun _ _ _ _ _ _ us hl => match us, hl with | [_], _ => rfl
set_option maxHeartbeats 4000000 in
theorem ft_are_names (x : Fx K mg) : FT P0 w K mg base (He.ga K) (4 + 1) (He.fAd K ("are_names", none)) x.fd_are_names ["value"] M_are_names := ft_of x.d_are_names sc_are_names rfl rfl fun cdv A outer s H E lv =>
  have nd := sc_are_names.nd
  have tk := ctx_takes (P := P0) (w := w) (K := K) (mg := mg) (base := base) (N := ["value", "name"]) (qual := "are_names") (scope := defScope s_are_names) (f := He.fAd K ("are_names", none)) (cdv := cdv) (A := A) (outer := outer) (s := s) (H := H) (E := E)
  have po := ctx_po (P := P0) (w := w) (K := K) (mg := mg) (base := base) (N := ["value", "name"]) (qual := "are_names") (scope := defScope s_are_names) (f := He.fAd K ("are_names", none)) (cdv := cdv) (A := A) (outer := outer) (s := s) (H := H) (E := E)
  (sfs_cons (sf_if (tf_pw (twf_or (tf_not (tf_val (pf_callB call_isi2 (ok_gIsi (c := (.ty "list")) x.is_list) rfl x.n_isinstance PyProof.Rows.Boot.«isinstance» (af_cons (pf_var (pv 0)) (af_cons (pf_tyName rfl x.n_list PyProof.Rows.Boot.«list») af_nil))))) (twf_or1 (tf_cmp (op_neD lv.room.units) ok_gNe (pf_frz (of_lc (own := [("name", 1)]) (b := (.one 1)) rfl nd (if_seq (pf_var (pv 0))) (blkOk_by (by rfl)) (by decide) (fun _ _ _ _ _ => (pg_name nd rfl (by first | exact Or.inl rfl | exact Or.inr rfl))) (fun _ _ _ _ _ => (tsf_one (tf_not (tf_val (pf_call (fn_is_name x) (lv.mono (by decide)) rfl x.g_is_name x.d_is_name.kp (b_is_name x) .nil CsD.nil takesF (af_cons (pf_var (pv 1)) af_nil)))))) (fun _ _ _ _ _ => (pf_var (pv 1))))) (pf_frz (of_lst af_nil)) (nomark _))))) (sfs_one (sf_ret pf_bl)) sfs_nil)
  (sfs_one (sf_ret (pf_cmp (op_eqD lv.room.units) ok_gEq (pf_lenSet rfl rfl x.n_len rfl x.n_set (pf_var (pv 0))) (pf_callB call_len ok_gLen rfl x.n_len PyProof.Rows.Boot.«len» (af_cons (pf_var (pv 0)) af_nil)) (nomark _)))))
theorem fn_are_names (x : Fx K mg) : FT P0 w K mg base (He.ga K) (4 + 1) (He.fAd K ("are_names", none)) x.fd_are_names ["value"] N_are_names := ft_frm (ft_are_names x)
theorem sc_is_group : FnScope ["value"] ["value"] (defScope s_is_group) := ⟨rfl, rfl, rfl, by decide +kernel, rfl, by decide +kernel, by decide +kernel⟩
theorem b_is_group (x : Fx K mg) : Binds K x.fd_is_group ["value"] [] := x.d_is_group.bindsN fun _ _ _ _ _ _ us hl => match us, hl with | [_], _ => rfl
set_option maxHeartbeats 4000000 in
theorem ft_is_group (x : Fx K mg) : FT P0 w K mg base (He.ga K) (5 + 1) (He.fAd K ("is_group", none)) x.fd_is_group ["value"] M_is_group := ft_of x.d_is_group sc_is_group rfl rfl fun cdv A outer s H E lv =>
  have nd := sc_is_group.nd
  have tk := ctx_takes (P := P0) (w := w) (K := K) (mg := mg) (base := base) (N := ["value"]) (qual := "is_group") (scope := defScope s_is_group) (f := He.fAd K ("is_group", none)) (cdv := cdv) (A := A) (outer := outer) (s := s) (H := H) (E := E)
  have po := ctx_po (P := P0) (w := w) (K := K) (mg := mg) (base := base) (N := ["value"]) (qual := "is_group") (scope := defScope s_is_group) (f := He.fAd K ("is_group", none)) (cdv := cdv) (A := A) (outer := outer) (s := s) (H := H) (E := E)
  (sfs_cons (sf_if (tf_pw (twf_or (tf_not (tf_val (pf_callB call_isi2 (ok_gIsi (c := (.ty "tuple")) x.is_tuple) rfl x.n_isinstance PyProof.Rows.Boot.«isinstance» (af_cons (pf_var (pv 0)) (af_cons (pf_tyName rfl x.n_tuple PyProof.Rows.Boot.«tuple») af_nil))))) (twf_or (tf_cmp (op_neD lv.room.units) ok_gNe (pf_callB call_len ok_gLen rfl x.n_len PyProof.Rows.Boot.«len» (af_cons (pf_var (pv 0)) af_nil)) pf_int (nomark _)) (twf_or1 (tf_not (tf_val (pf_call (fn_is_name x) (lv.mono (by decide)) rfl x.g_is_name x.d_is_name.kp (b_is_name x) .nil CsD.nil tk (af_cons (pf_ix (pf_var (pv 0)) pf_int fun _ _ => rfl) af_nil)))))))) (sfs_one (sf_ret pf_bl)) sfs_nil)
  (sfs_cons (sf_if (tf_pw (twf_or (tf_cmp (op_notInX lv.u65) ok_gNotInX (pf_ix (pf_var (pv 0)) pf_int fun _ _ => rfl) (pf_frz (of_lst (af_cons pf_str (af_cons pf_str af_nil)))) rfl) (twf_or1 (tf_cmp (op_notInX lv.u65) ok_gNotInX (pf_ix (pf_var (pv 0)) pf_int fun _ _ => rfl) (pf_frz (of_lst (af_cons pf_str (af_cons pf_str af_nil)))) rfl)))) (sfs_one (sf_ret pf_bl)) sfs_nil)
  (sfs_one (sf_ret (pf_and (pf_call (fn_are_names x) (lv.mono (by decide)) rfl x.g_are_names x.d_are_names.kp (b_are_names x) .nil CsD.nil tk (af_cons (pf_ix (pf_var (pv 0)) pf_int fun _ _ => rfl) af_nil)) (pf_one (pf_chain op_le (ok_gOrd _) op_le (ok_gOrd _) pf_int (pf_callB call_len ok_gLen rfl x.n_len PyProof.Rows.Boot.«len» (af_cons (pf_ix (pf_var (pv 0)) pf_int fun _ _ => rfl) af_nil)) (pf_kint rfl x.k_MOST_BOXES.choose_spec.1 x.k_MOST_BOXES.choose_spec.2))))))))
theorem fn_is_group (x : Fx K mg) : FT P0 w K mg base (He.ga K) (5 + 1) (He.fAd K ("is_group", none)) x.fd_is_group ["value"] N_is_group := ft_frm (ft_is_group x)
theorem sc_Shop_init : FnScope ["self", "groups", "found", "group", "one"] ["self", "groups"] (defScope s_Shop_init) := ⟨rfl, rfl, rfl, by decide +kernel, rfl, by decide +kernel, by decide +kernel⟩
theorem b_Shop_init (x : Fx K mg) : Binds K x.fd_Shop_init ["self", "groups"] [] := x.d_Shop_init.bindsN fun _ _ _ _ _ _ us hl => match us, hl with | [_, _], _ => rfl
set_option maxHeartbeats 4000000 in
theorem fi_Shop_init (x : Fx K mg) : FI P0 w K mg base (He.ga K) (6 + 1) (He.fAd K ("Shop", some "__init__")) x.fd_Shop_init ["self", "groups"] "Shop" M_Shop_init := fi_of x.d_Shop_init sc_Shop_init rfl rfl fun cdv A outer s H E lv =>
  have nd := sc_Shop_init.nd
  have tk := ctx_takes (P := P0) (w := w) (K := K) (mg := mg) (base := base) (N := ["self", "groups", "found", "group", "one"]) (qual := "Shop.__init__") (scope := defScope s_Shop_init) (f := He.fAd K ("Shop", some "__init__")) (cdv := cdv) (A := A) (outer := outer) (s := s) (H := H) (E := E)
  have po := ctx_po (P := P0) (w := w) (K := K) (mg := mg) (base := base) (N := ["self", "groups", "found", "group", "one"]) (qual := "Shop.__init__") (scope := defScope s_Shop_init) (f := He.fAd K ("Shop", some "__init__")) (cdv := cdv) (A := A) (outer := outer) (s := s) (H := H) (E := E)
  (sfs_cons (sf_if (tf_pw (twf_or (tf_not (tf_val (pf_callB call_isi2 (ok_gIsi (c := (.ty "list")) x.is_list) rfl x.n_isinstance PyProof.Rows.Boot.«isinstance» (af_cons (pf_var (pv 1)) (af_cons (pf_tyName rfl x.n_list PyProof.Rows.Boot.«list») af_nil))))) (twf_or1 (tf_not (tf_chain op_le (ok_gOrd _) op_le (ok_gOrd _) pf_int (pf_callB call_len ok_gLen rfl x.n_len PyProof.Rows.Boot.«len» (af_cons (pf_var (pv 1)) af_nil)) (pf_kint rfl x.k_MOST_GROUPS.choose_spec.1 x.k_MOST_GROUPS.choose_spec.2)))))) (sfs_one (sf_raise rfl tk (mf_mk (C := "InvalidList") (f := "value") x.ex_InvalidList rfl rfl x.n_super (lv.mono (by decide : 1 ≤ _)) (bx_InvalidList x) .nil CsD.nil rfl x.g_InvalidList (af_cons (pf_var (pv 1)) af_nil)))) sfs_nil)
  (sfs_cons (sf_set (i := 2) nd rfl (by first | exact Or.inl rfl | exact Or.inr rfl) (pf_cell (of_lst af_nil)))
  (sfs_cons (sf_for (b := (.one 3)) po rfl (if_seq (pf_var (pv 1))) (pg_name nd rfl (by first | exact Or.inl rfl | exact Or.inr rfl)) (sfs_cons (sf_if (tf_pw (twf_or (tf_not (tf_val (pf_call (fn_is_group x) (lv.mono (by decide)) rfl x.g_is_group x.d_is_group.kp (b_is_group x) .nil CsD.nil tk (af_cons (pf_var (pv 3)) af_nil)))) (twf_or1 (tf_cmp (op_inX lv.u65) ok_gInX (pf_ix (pf_var (pv 3)) pf_int fun _ _ => rfl) (pf_frz (of_lc (own := [("one", 4)]) (b := (.one 4)) rfl nd (if_seq (pf_var (pv 2))) (blkOk_by (by rfl)) (by decide) (fun _ _ _ _ _ => (pg_name nd rfl (by first | exact Or.inl rfl | exact Or.inr rfl))) (fun _ _ _ _ _ => tsf_nil) (fun _ _ _ _ _ => (pf_ix (pf_var (pv 4)) pf_int fun _ _ => rfl)))) rfl)))) (sfs_one (sf_raise rfl tk (mf_mk (C := "InvalidItem") (f := "value") x.ex_InvalidItem rfl rfl x.n_super (lv.mono (by decide : 1 ≤ _)) (bx_InvalidItem x) .nil CsD.nil rfl x.g_InvalidItem (af_cons (pf_var (pv 3)) af_nil)))) sfs_nil)
  (sfs_one (sf_app (i := 2) (pv 2) (pf_tup (af_cons (pf_ix (pf_var (pv 3)) pf_int fun _ _ => rfl) (af_cons (pf_ix (pf_var (pv 3)) pf_int fun _ _ => rfl) (af_cons (pf_ix (pf_var (pv 3)) pf_int fun _ _ => rfl) (af_cons (pf_callTy call_tuple_of ok_gTuple rfl x.n_tuple PyProof.Rows.Boot.«tuple» (af_cons (pf_ix (pf_var (pv 3)) pf_int fun _ _ => rfl) af_nil)) af_nil)))))))))
  (sfs_one (sf_fldS (cs := ["Shop"]) (pv 0) (pf_callTy call_tuple_of ok_gTuple rfl x.n_tuple PyProof.Rows.Boot.«tuple» (af_cons (pf_var (pv 2)) af_nil)) x.f_rows)))))
theorem fin_Shop_init (x : Fx K mg) : FI P0 w K mg base (He.ga K) (6 + 1) (He.fAd K ("Shop", some "__init__")) x.fd_Shop_init ["self", "groups"] "Shop" N_Shop_init := fi_frm (fi_Shop_init x)
theorem sc__law_copied : FnScope ["parts", "name", "mode", "bears", "boxes"] ["parts"] (defScope s__law_copied) := ⟨rfl, rfl, rfl, by decide +kernel, rfl, by decide +kernel, by decide +kernel⟩
theorem b__law_copied (x : Fx K mg) : Binds K x.fd__law_copied ["parts"] [] := x.d__law_copied.bindsN fun _ _ _ _ _ _ us hl => match us, hl with | [_], _ => rfl
set_option maxHeartbeats 4000000 in
theorem ft__law_copied (x : Fx K mg) : FT P0 w K mg base (He.ga K) (3 + 1) (He.fAd K ("_law_copied", none)) x.fd__law_copied ["parts"] M__law_copied := ft_of x.d__law_copied sc__law_copied rfl rfl fun cdv A outer s H E lv =>
  have nd := sc__law_copied.nd
  have tk := ctx_takes (P := P0) (w := w) (K := K) (mg := mg) (base := base) (N := ["parts", "name", "mode", "bears", "boxes"]) (qual := "_law_copied") (scope := defScope s__law_copied) (f := He.fAd K ("_law_copied", none)) (cdv := cdv) (A := A) (outer := outer) (s := s) (H := H) (E := E)
  have po := ctx_po (P := P0) (w := w) (K := K) (mg := mg) (base := base) (N := ["parts", "name", "mode", "bears", "boxes"]) (qual := "_law_copied") (scope := defScope s__law_copied) (f := He.fAd K ("_law_copied", none)) (cdv := cdv) (A := A) (outer := outer) (s := s) (H := H) (E := E)
  (sfs_one (sf_ret (pf_cell (of_lc (own := [("name", 1), ("mode", 2), ("bears", 3), ("boxes", 4)]) (b := (.many [1, 2, 3, 4])) rfl nd (if_seq (pf_var (pv 0))) (blkOk_by (by rfl)) (by decide) (fun _ _ _ _ _ => (pg_tup rfl (pgs_cons (pg_name nd rfl (by first | exact Or.inl rfl | exact Or.inr rfl)) (pgs_cons (pg_name nd rfl (by first | exact Or.inl rfl | exact Or.inr rfl)) (pgs_cons (pg_name nd rfl (by first | exact Or.inl rfl | exact Or.inr rfl)) (pgs_cons (pg_name nd rfl (by first | exact Or.inl rfl | exact Or.inr rfl)) pgs_nil)))))) (fun _ _ _ _ _ => tsf_nil) (fun _ _ _ _ _ => (pf_tup (af_cons (pf_var (pv 1)) (af_cons (pf_var (pv 2)) (af_cons (pf_var (pv 3)) (af_cons (pf_cell (of_list rfl x.n_list (af_cons (pf_var (pv 4)) af_nil))) af_nil))))))))))
theorem fn__law_copied (x : Fx K mg) : FT P0 w K mg base (He.ga K) (3 + 1) (He.fAd K ("_law_copied", none)) x.fd__law_copied ["parts"] N__law_copied := ft_frm (ft__law_copied x)
theorem sc__law_cell : FnScope ["script", "index"] ["script", "index"] (defScope s__law_cell) := ⟨rfl, rfl, rfl, by decide +kernel, rfl, by decide +kernel, by decide +kernel⟩
theorem b__law_cell (x : Fx K mg) : Binds K x.fd__law_cell ["script", "index"] [] := x.d__law_cell.bindsN fun _ _ _ _ _ _ us hl => match us, hl with | [_, _], _ => rfl
set_option maxHeartbeats 4000000 in
theorem ft__law_cell (x : Fx K mg) : FT P0 w K mg base (He.ga K) (3 + 1) (He.fAd K ("_law_cell", none)) x.fd__law_cell ["script", "index"] M__law_cell := ft_of x.d__law_cell sc__law_cell rfl rfl fun cdv A outer s H E lv =>
  have nd := sc__law_cell.nd
  have tk := ctx_takes (P := P0) (w := w) (K := K) (mg := mg) (base := base) (N := ["script", "index"]) (qual := "_law_cell") (scope := defScope s__law_cell) (f := He.fAd K ("_law_cell", none)) (cdv := cdv) (A := A) (outer := outer) (s := s) (H := H) (E := E)
  have po := ctx_po (P := P0) (w := w) (K := K) (mg := mg) (base := base) (N := ["script", "index"]) (qual := "_law_cell") (scope := defScope s__law_cell) (f := He.fAd K ("_law_cell", none)) (cdv := cdv) (A := A) (outer := outer) (s := s) (H := H) (E := E)
  (sfs_cons (sf_if (tf_cmp op_lt (ok_gOrd _) (pf_var (pv 1)) (pf_callB call_len ok_gLen rfl x.n_len PyProof.Rows.Boot.«len» (af_cons (pf_var (pv 0)) af_nil)) (nomark _)) (sfs_one (sf_ret (pf_ix (pf_var (pv 0)) (pf_var (pv 1)) fun _ _ => rfl))) sfs_nil)
  (sfs_one (sf_ret pf_int)))
theorem fn__law_cell (x : Fx K mg) : FT P0 w K mg base (He.ga K) (3 + 1) (He.fAd K ("_law_cell", none)) x.fd__law_cell ["script", "index"] N__law_cell := ft_frm (ft__law_cell x)
theorem sc__law_generator : FnScope ["script", "index", "seed"] ["script", "index"] (defScope s__law_generator) := ⟨rfl, rfl, rfl, by decide +kernel, rfl, by decide +kernel, by decide +kernel⟩
theorem b__law_generator (x : Fx K mg) : Binds K x.fd__law_generator ["script", "index"] [] := x.d__law_generator.bindsN fun _ _ _ _ _ _ us hl => match us, hl with | [_, _], _ => rfl
set_option maxHeartbeats 4000000 in
theorem ft__law_generator (x : Fx K mg) : FT P0 w K mg base (He.ga K) (4 + 1) (He.fAd K ("_law_generator", none)) x.fd__law_generator ["script", "index"] M__law_generator := ft_of x.d__law_generator sc__law_generator rfl rfl fun cdv A outer s H E lv =>
  have nd := sc__law_generator.nd
  have tk := ctx_takes (P := P0) (w := w) (K := K) (mg := mg) (base := base) (N := ["script", "index", "seed"]) (qual := "_law_generator") (scope := defScope s__law_generator) (f := He.fAd K ("_law_generator", none)) (cdv := cdv) (A := A) (outer := outer) (s := s) (H := H) (E := E)
  have po := ctx_po (P := P0) (w := w) (K := K) (mg := mg) (base := base) (N := ["script", "index", "seed"]) (qual := "_law_generator") (scope := defScope s__law_generator) (f := He.fAd K ("_law_generator", none)) (cdv := cdv) (A := A) (outer := outer) (s := s) (H := H) (E := E)
  (sfs_cons (sf_set (i := 2) nd rfl (by first | exact Or.inl rfl | exact Or.inr rfl) (pf_call (fn__law_cell x) (lv.mono (by decide)) rfl x.g__law_cell x.d__law_cell.kp (b__law_cell x) .nil CsD.nil tk (af_cons (pf_var (pv 0)) (af_cons (pf_var (pv 1)) af_nil))))
  (sfs_one (sf_ret (pf_cell (of_lst (af_cons (pf_bin op_mod ok_gMod (pf_callTy call_int1 ok_gInt rfl x.n_int PyProof.Rows.Boot.«int» (af_cons (pf_callB (call_max2 rfl) ok_gMax rfl x.n_max PyProof.Rows.Boot.«max» (af_cons (pf_bin op_sub ok_gSub (pf_var (pv 2)) (pf_bin op_powW ok_gPow pf_int pf_int)) (af_cons pf_int af_nil))) af_nil)) (pf_bin op_powW ok_gPow (pf_bin op_powW ok_gPow pf_int pf_int) pf_int)) (af_cons (pf_bin op_mod ok_gMod (pf_callTy call_int1 ok_gInt rfl x.n_int PyProof.Rows.Boot.«int» (af_cons (pf_var (pv 2)) af_nil)) pf_int) (af_cons (pf_bin op_mul4 ok_gMul2 pf_int (pf_var (pv 1))) af_nil))))))))
theorem sc__law_hash : FnScope ["seed", "index", "mixed"] ["seed", "index"] (defScope s__law_hash) := ⟨rfl, rfl, rfl, by decide +kernel, rfl, by decide +kernel, by decide +kernel⟩
theorem b__law_hash (x : Fx K mg) : Binds K x.fd__law_hash ["seed", "index"] [] := x.d__law_hash.bindsN fun _ _ _ _ _ _ us hl => match us, hl with | [_, _], _ => rfl
set_option maxHeartbeats 4000000 in
theorem ft__law_hash (x : Fx K mg) : FT P0 w K mg base (He.ga K) (3 + 1) (He.fAd K ("_law_hash", none)) x.fd__law_hash ["seed", "index"] M__law_hash := ft_of x.d__law_hash sc__law_hash rfl rfl fun cdv A outer s H E lv =>
  have nd := sc__law_hash.nd
  have tk := ctx_takes (P := P0) (w := w) (K := K) (mg := mg) (base := base) (N := ["seed", "index", "mixed"]) (qual := "_law_hash") (scope := defScope s__law_hash) (f := He.fAd K ("_law_hash", none)) (cdv := cdv) (A := A) (outer := outer) (s := s) (H := H) (E := E)
  have po := ctx_po (P := P0) (w := w) (K := K) (mg := mg) (base := base) (N := ["seed", "index", "mixed"]) (qual := "_law_hash") (scope := defScope s__law_hash) (f := He.fAd K ("_law_hash", none)) (cdv := cdv) (A := A) (outer := outer) (s := s) (H := H) (E := E)
  (sfs_cons (sf_set (i := 2) nd rfl (by first | exact Or.inl rfl | exact Or.inr rfl) (pf_bin op_mod ok_gMod (pf_callTy call_int1 ok_gInt rfl x.n_int PyProof.Rows.Boot.«int» (af_cons (pf_bin op_add4 ok_gAdd (pf_bin op_add4 ok_gAdd (pf_bin op_add4 ok_gAdd (pf_bin op_mul4 ok_gMul2 (pf_var (pv 0)) pf_int) (pf_bin op_mul4 ok_gMul2 (pf_bin op_mul4 ok_gMul2 pf_int (pf_var (pv 1))) (pf_var (pv 1)))) (pf_var (pv 1))) pf_int) af_nil)) pf_int))
  (sfs_cons (sf_set (i := 2) nd rfl (by first | exact Or.inl rfl | exact Or.inr rfl) (pf_bin op_mod ok_gMod (pf_callTy call_int1 ok_gInt rfl x.n_int PyProof.Rows.Boot.«int» (af_cons (pf_bin op_add4 ok_gAdd (pf_bin op_mul4 ok_gMul2 (pf_var (pv 2)) (pf_var (pv 2))) pf_int) af_nil)) pf_int))
  (sfs_one (sf_ret (pf_bin op_mod ok_gMod (pf_callTy call_int1 ok_gInt rfl x.n_int PyProof.Rows.Boot.«int» (af_cons (pf_bin op_mul4 ok_gMul2 (pf_var (pv 2)) pf_int) af_nil)) pf_int)))))
theorem fn__law_hash (x : Fx K mg) : FT P0 w K mg base (He.ga K) (3 + 1) (He.fAd K ("_law_hash", none)) x.fd__law_hash ["seed", "index"] N__law_hash := ft_frm (ft__law_hash x)
theorem sc__law_random : FnScope ["generator", "bound", "drawn", "turn"] ["generator", "bound"] (defScope s__law_random) := ⟨rfl, rfl, rfl, by decide +kernel, rfl, by decide +kernel, by decide +kernel⟩
theorem b__law_random (x : Fx K mg) : Binds K x.fd__law_random ["generator", "bound"] [] := x.d__law_random.bindsN fun _ _ _ _ _ _ us hl => match us, hl with | [_, _], _ => rfl
set_option maxHeartbeats 4000000 in
theorem ft__law_random (x : Fx K mg) : FT P0 w K mg base (He.ga K) (4 + 1) (He.fAd K ("_law_random", none)) x.fd__law_random ["generator", "bound"] M__law_random := ft_of x.d__law_random sc__law_random rfl rfl fun cdv A outer s H E lv =>
  have nd := sc__law_random.nd
  have tk := ctx_takes (P := P0) (w := w) (K := K) (mg := mg) (base := base) (N := ["generator", "bound", "drawn", "turn"]) (qual := "_law_random") (scope := defScope s__law_random) (f := He.fAd K ("_law_random", none)) (cdv := cdv) (A := A) (outer := outer) (s := s) (H := H) (E := E)
  have po := ctx_po (P := P0) (w := w) (K := K) (mg := mg) (base := base) (N := ["generator", "bound", "drawn", "turn"]) (qual := "_law_random") (scope := defScope s__law_random) (f := He.fAd K ("_law_random", none)) (cdv := cdv) (A := A) (outer := outer) (s := s) (H := H) (E := E)
  (sfs_cons (sf_if (tf_cmp op_gt (ok_gOrd _) (pf_ix (pf_var (pv 0)) pf_int fun _ _ => rfl) pf_int (nomark _)) (sfs_cons (sf_set (i := 2) nd rfl (by first | exact Or.inl rfl | exact Or.inr rfl) (pf_bin op_mod ok_gMod (pf_callTy call_int1 ok_gInt rfl x.n_int PyProof.Rows.Boot.«int» (af_cons (pf_ix (pf_var (pv 0)) pf_int fun _ _ => rfl) af_nil)) (pf_var (pv 1))))
  (sfs_cons (sf_putC (pf_bin op_fdivW ok_gDiv (pf_ix (pf_var (pv 0)) pf_int fun _ _ => rfl) (pf_var (pv 1))) (pf_var (pv 0)) pf_int)
  (sfs_one (sf_ret (pf_var (pv 2)))))) sfs_nil)
  (sfs_cons (sf_set (i := 2) nd rfl (by first | exact Or.inl rfl | exact Or.inr rfl) pf_int)
  (sfs_cons (sf_for (b := (.one 3)) po rfl (if_range1 rfl x.n_range (af_cons (pf_bin op_add4 ok_gAdd pf_int (pf_bin op_fdivW ok_gDiv (pf_bits (pf_var (pv 1))) pf_int)) af_nil)) (pg_name nd rfl (by first | exact Or.inl rfl | exact Or.inr rfl)) (sfs_cons (sf_putC (pf_bin op_add4 ok_gAdd (pf_ix (pf_var (pv 0)) pf_int fun _ _ => rfl) pf_int) (pf_var (pv 0)) pf_int)
  (sfs_one (sf_set (i := 2) nd rfl (by first | exact Or.inl rfl | exact Or.inr rfl) (pf_bin op_add4 ok_gAdd (pf_bin op_mul4 ok_gMul2 (pf_var (pv 2)) pf_int) (pf_call (fn__law_hash x) (lv.mono (by decide)) rfl x.g__law_hash x.d__law_hash.kp (b__law_hash x) .nil CsD.nil tk (af_cons (pf_ix (pf_var (pv 0)) pf_int fun _ _ => rfl) (af_cons (pf_ix (pf_var (pv 0)) pf_int fun _ _ => rfl) af_nil))))))))
  (sfs_one (sf_ret (pf_bin op_mod ok_gMod (pf_callTy call_int1 ok_gInt rfl x.n_int PyProof.Rows.Boot.«int» (af_cons (pf_var (pv 2)) af_nil)) (pf_var (pv 1))))))))
theorem fn__law_random (x : Fx K mg) : FT P0 w K mg base (He.ga K) (4 + 1) (He.fAd K ("_law_random", none)) x.fd__law_random ["generator", "bound"] N__law_random := ft_melt (ft__law_random x)
theorem sc__law_parts : FnScope ["generator", "many", "most", "names", "found", "total", "at", "mode", "bears", "boxes"] ["generator", "many", "most"] (defScope s__law_parts) := ⟨rfl, rfl, rfl, by decide +kernel, rfl, by decide +kernel, by decide +kernel⟩
theorem b__law_parts (x : Fx K mg) : Binds K x.fd__law_parts ["generator", "many", "most"] [] := x.d__law_parts.bindsN fun _ _ _ _ _ _ us hl => match us, hl with | [_, _, _], _ => rfl
set_option maxHeartbeats 4000000 in
theorem ft__law_parts (x : Fx K mg) : FT P0 w K mg base (He.ga K) (5 + 1) (He.fAd K ("_law_parts", none)) x.fd__law_parts ["generator", "many", "most"] M__law_parts := ft_of x.d__law_parts sc__law_parts rfl rfl fun cdv A outer s H E lv =>
  have nd := sc__law_parts.nd
  have tk := ctx_takes (P := P0) (w := w) (K := K) (mg := mg) (base := base) (N := ["generator", "many", "most", "names", "found", "total", "at", "mode", "bears", "boxes"]) (qual := "_law_parts") (scope := defScope s__law_parts) (f := He.fAd K ("_law_parts", none)) (cdv := cdv) (A := A) (outer := outer) (s := s) (H := H) (E := E)
  have po := ctx_po (P := P0) (w := w) (K := K) (mg := mg) (base := base) (N := ["generator", "many", "most", "names", "found", "total", "at", "mode", "bears", "boxes"]) (qual := "_law_parts") (scope := defScope s__law_parts) (f := He.fAd K ("_law_parts", none)) (cdv := cdv) (A := A) (outer := outer) (s := s) (H := H) (E := E)
  (sfs_cons (sf_set (i := 3) nd rfl (by first | exact Or.inl rfl | exact Or.inr rfl) (pf_cell (of_lst (af_cons (pf_frz (of_lst (af_cons pf_str (af_cons pf_str (af_cons pf_str (af_cons pf_str (af_cons pf_str af_nil))))))) (af_cons (pf_frz (of_lst (af_cons pf_str (af_cons pf_str (af_cons pf_str (af_cons pf_str (af_cons pf_str af_nil))))))) (af_cons (pf_frz (of_lst (af_cons pf_str (af_cons pf_str (af_cons pf_str (af_cons pf_str (af_cons pf_str af_nil))))))) af_nil))))))
  (sfs_cons (sf_app (i := 3) (pv 3) (pf_frz (of_lst (af_cons pf_str (af_cons pf_str (af_cons pf_str (af_cons pf_str (af_cons pf_str af_nil))))))))
  (sfs_cons (sf_par (i := 4) (j := 5) rfl nd rfl rfl (by decide) rfl rfl (af_cons (pf_cell (of_lst af_nil)) (af_cons pf_int af_nil)) rfl)
  (sfs_cons (sf_for (b := (.one 6)) po rfl (if_range1 rfl x.n_range (af_cons (pf_var (pv 1)) af_nil)) (pg_name nd rfl (by first | exact Or.inl rfl | exact Or.inr rfl)) (sfs_cons (sf_par (i := 7) (j := 8) rfl nd rfl rfl (by decide) rfl rfl (af_cons (pf_ix (pf_frz (of_lst (af_cons pf_str (af_cons pf_str af_nil)))) (pf_call (fn__law_random x) (lv.mono (by decide)) rfl x.g__law_random x.d__law_random.kp (b__law_random x) .nil CsD.nil tk (af_cons (pf_var (pv 0)) (af_cons pf_int af_nil))) fun _ _ => rfl) (af_cons (pf_ix (pf_frz (of_lst (af_cons pf_str (af_cons pf_str af_nil)))) (pf_call (fn__law_random x) (lv.mono (by decide)) rfl x.g__law_random x.d__law_random.kp (b__law_random x) .nil CsD.nil tk (af_cons (pf_var (pv 0)) (af_cons pf_int af_nil))) fun _ _ => rfl) af_nil)) rfl)
  (sfs_cons (sf_set (i := 9) nd rfl (by first | exact Or.inl rfl | exact Or.inr rfl) (pf_sl (pf_ix (pf_var (pv 3)) (pf_var (pv 6)) fun _ _ => rfl) pof_none (pof_some (pf_bin op_add4 ok_gAdd pf_int (pf_call (fn__law_random x) (lv.mono (by decide)) rfl x.g__law_random x.d__law_random.kp (b__law_random x) .nil CsD.nil tk (af_cons (pf_var (pv 0)) (af_cons (pf_var (pv 2)) af_nil)))))))
  (sfs_cons (sf_set (i := 5) nd rfl (by first | exact Or.inl rfl | exact Or.inr rfl) (pf_bin op_mul4 ok_gMul2 (pf_var (pv 5)) (pf_if (tf_pw (twf_and (tf_cmp (op_eqD lv.room.units) ok_gEq (pf_var (pv 8)) pf_str (nomark _)) (twf_and1 (tf_cmp op_gt (ok_gOrd _) (pf_var (pv 6)) pf_int (nomark _))))) (pf_callB call_len ok_gLen rfl x.n_len PyProof.Rows.Boot.«len» (af_cons (pf_var (pv 9)) af_nil)) (pf_ix (pf_frz (of_lst (af_cons pf_int (af_cons pf_int (af_cons pf_int (af_cons pf_int (af_cons pf_int (af_cons pf_int af_nil)))))))) (pf_callB call_len ok_gLen rfl x.n_len PyProof.Rows.Boot.«len» (af_cons (pf_var (pv 9)) af_nil)) fun _ _ => rfl))))
  (sfs_one (sf_if (tf_cmp op_le (ok_gOrd _) (pf_var (pv 5)) pf_int (nomark _)) (sfs_one (sf_app (i := 4) (pv 4) (pf_tup (af_cons (pf_ix (pf_frz (of_lst (af_cons pf_str (af_cons pf_str (af_cons pf_str (af_cons pf_str af_nil)))))) (pf_var (pv 6)) fun _ _ => rfl) (af_cons (pf_var (pv 7)) (af_cons (pf_var (pv 8)) (af_cons (pf_var (pv 9)) af_nil))))))) sfs_nil))))))
  (sfs_one (sf_ret (pf_var (pv 4))))))))
theorem fn__law_parts (x : Fx K mg) : FT P0 w K mg base (He.ga K) (5 + 1) (He.fAd K ("_law_parts", none)) x.fd__law_parts ["generator", "many", "most"] N__law_parts := ft_melt (ft__law_parts x)
def F__law_spaced_0 : FS := (sPar 2 3 (aCons (fFrz (oLst (aCons (fun _ => pure (.str "")) (aCons (fun _ => pure (.str " ")) (aCons (fun _ => pure (.str "\n")) (aCons (fun _ => pure (.str "  ")) (aCons (fun _ => pure (.str " \n\n")) aNil))))))) (aCons (fun _ => pure (.str "")) aNil)))
def F__law_spaced_1 : FS := (sSet 3 (f2 gAdd (fVar 3) (f2 gIx (fVar 2) (fCall N__law_random [] (aCons (fVar 0) (aCons (fun _ => pure (.int 5)) aNil))))))
def F__law_spaced_2 : FS := (sSet 3 (f2 gAdd (f2 gAdd (fVar 3) (fVar 8)) (f2 gIx (fVar 2) (f2 gAdd (fun _ => pure (.int 1)) (fCall N__law_random [] (aCons (fVar 0) (aCons (fun _ => pure (.int 4)) aNil)))))))
def B__law_spaced_3 : FS := F__law_spaced_2
def F__law_spaced_4 : FS := (sFor (.one 8) (iSeq (fFrz (oLst (aCons (fVar 4) (aCons (fVar 5) aNil))))) B__law_spaced_3)
def F__law_spaced_5 : FS := (sSet 3 (f2 gAdd (f2 gAdd (f2 gAdd (f2 gAdd (fVar 3) (fVar 6)) (f2 gIx (fVar 2) (fCall N__law_random [] (aCons (fVar 0) (aCons (fun _ => pure (.int 5)) aNil))))) (fun _ => pure (.str ":"))) (f2 gIx (fVar 2) (fCall N__law_random [] (aCons (fVar 0) (aCons (fun _ => pure (.int 5)) aNil))))))
def F__law_spaced_6 : FS := (sSet 3 (f2 gAdd (f2 gAdd (fVar 3) (fVar 9)) (f2 gIx (fVar 2) (f2 gAdd (fun _ => pure (.int 1)) (fCall N__law_random [] (aCons (fVar 0) (aCons (fun _ => pure (.int 4)) aNil)))))))
def B__law_spaced_7 : FS := F__law_spaced_6
def F__law_spaced_8 : FS := (sFor (.one 9) (iSeq (f3 gSl (fVar 7) pNone (pSome (f1 gNeg (fun _ => pure (.int 1)))))) B__law_spaced_7)
def F__law_spaced_9 : FS := (sSet 3 (f2 gAdd (f2 gAdd (f2 gAdd (fVar 3) (f2 gIx (fVar 7) (f1 gNeg (fun _ => pure (.int 1))))) (f2 gIx (fVar 2) (fCall N__law_random [] (aCons (fVar 0) (aCons (fun _ => pure (.int 5)) aNil))))) (fun _ => pure (.str "/"))))
def B__law_spaced_10 : FS := (sSeq F__law_spaced_1
  (sSeq F__law_spaced_4
  (sSeq F__law_spaced_5
  (sSeq F__law_spaced_8
  F__law_spaced_9))))
def F__law_spaced_11 : FS := (sFor (.many [4, 5, 6, 7]) (iSeq (fVar 1)) B__law_spaced_10)
def F__law_spaced_12 : FS := (sRet (f2 gAdd (f3 gSl (fVar 3) pNone (pSome (f1 gNeg (fun _ => pure (.int 1))))) (f2 gIx (fVar 2) (fCall N__law_random [] (aCons (fVar 0) (aCons (fun _ => pure (.int 5)) aNil))))))
def M__law_spaced : List D → Cm D := mkM 2 10 ((sSeq F__law_spaced_0
  (sSeq F__law_spaced_11
  F__law_spaced_12)))
def N__law_spaced : List D → Cm D := mlt M__law_spaced
theorem sc__law_spaced : FnScope ["generator", "parts", "blanks", "found", "name", "mode", "bears", "boxes", "word", "box"] ["generator", "parts"] (defScope s__law_spaced) := ⟨rfl, rfl, rfl, by decide +kernel, rfl, by decide +kernel, by decide +kernel⟩
theorem b__law_spaced (x : Fx K mg) : Binds K x.fd__law_spaced ["generator", "parts"] [] := x.d__law_spaced.bindsN fun _ _ _ _ _ _ us hl => match us, hl with | [_, _], _ => rfl
set_option maxHeartbeats 4000000 in
theorem ft__law_spaced (x : Fx K mg) : FT P0 w K mg base (He.ga K) (5 + 1) (He.fAd K ("_law_spaced", none)) x.fd__law_spaced ["generator", "parts"] M__law_spaced := ft_of x.d__law_spaced sc__law_spaced rfl rfl fun cdv A outer s H E lv =>
  have nd := sc__law_spaced.nd
  have tk := ctx_takes (P := P0) (w := w) (K := K) (mg := mg) (base := base) (N := ["generator", "parts", "blanks", "found", "name", "mode", "bears", "boxes", "word", "box"]) (qual := "_law_spaced") (scope := defScope s__law_spaced) (f := He.fAd K ("_law_spaced", none)) (cdv := cdv) (A := A) (outer := outer) (s := s) (H := H) (E := E)
  have po := ctx_po (P := P0) (w := w) (K := K) (mg := mg) (base := base) (N := ["generator", "parts", "blanks", "found", "name", "mode", "bears", "boxes", "word", "box"]) (qual := "_law_spaced") (scope := defScope s__law_spaced) (f := He.fAd K ("_law_spaced", none)) (cdv := cdv) (A := A) (outer := outer) (s := s) (H := H) (E := E)
  (sfs_cons (sf_par (i := 2) (j := 3) rfl nd rfl rfl (by decide) rfl rfl (af_cons (pf_frz (of_lst (af_cons pf_str (af_cons pf_str (af_cons pf_str (af_cons pf_str (af_cons pf_str af_nil))))))) (af_cons pf_str af_nil)) rfl)
  (sfs_cons (sf_for (b := (.many [4, 5, 6, 7])) po rfl (if_seq (pf_var (pv 1))) (pg_tup rfl (pgs_cons (pg_name nd rfl (by first | exact Or.inl rfl | exact Or.inr rfl)) (pgs_cons (pg_name nd rfl (by first | exact Or.inl rfl | exact Or.inr rfl)) (pgs_cons (pg_name nd rfl (by first | exact Or.inl rfl | exact Or.inr rfl)) (pgs_cons (pg_name nd rfl (by first | exact Or.inl rfl | exact Or.inr rfl)) pgs_nil))))) (sfs_cons (sf_set (i := 3) nd rfl (by first | exact Or.inl rfl | exact Or.inr rfl) (pf_bin op_add4 ok_gAdd (pf_var (pv 3)) (pf_ix (pf_var (pv 2)) (pf_call (fn__law_random x) (lv.mono (by decide)) rfl x.g__law_random x.d__law_random.kp (b__law_random x) .nil CsD.nil tk (af_cons (pf_var (pv 0)) (af_cons pf_int af_nil))) fun _ _ => rfl)))
  (sfs_cons (sf_for (b := (.one 8)) po rfl (if_seq (pf_frz (of_lst (af_cons (pf_var (pv 4)) (af_cons (pf_var (pv 5)) af_nil))))) (pg_name nd rfl (by first | exact Or.inl rfl | exact Or.inr rfl)) (sfs_one (sf_set (i := 3) nd rfl (by first | exact Or.inl rfl | exact Or.inr rfl) (pf_bin op_add4 ok_gAdd (pf_bin op_add4 ok_gAdd (pf_var (pv 3)) (pf_var (pv 8))) (pf_ix (pf_var (pv 2)) (pf_bin op_add4 ok_gAdd pf_int (pf_call (fn__law_random x) (lv.mono (by decide)) rfl x.g__law_random x.d__law_random.kp (b__law_random x) .nil CsD.nil tk (af_cons (pf_var (pv 0)) (af_cons pf_int af_nil)))) fun _ _ => rfl)))))
  (sfs_cons (sf_set (i := 3) nd rfl (by first | exact Or.inl rfl | exact Or.inr rfl) (pf_bin op_add4 ok_gAdd (pf_bin op_add4 ok_gAdd (pf_bin op_add4 ok_gAdd (pf_bin op_add4 ok_gAdd (pf_var (pv 3)) (pf_var (pv 6))) (pf_ix (pf_var (pv 2)) (pf_call (fn__law_random x) (lv.mono (by decide)) rfl x.g__law_random x.d__law_random.kp (b__law_random x) .nil CsD.nil tk (af_cons (pf_var (pv 0)) (af_cons pf_int af_nil))) fun _ _ => rfl)) pf_str) (pf_ix (pf_var (pv 2)) (pf_call (fn__law_random x) (lv.mono (by decide)) rfl x.g__law_random x.d__law_random.kp (b__law_random x) .nil CsD.nil tk (af_cons (pf_var (pv 0)) (af_cons pf_int af_nil))) fun _ _ => rfl)))
  (sfs_cons (sf_for (b := (.one 9)) po rfl (if_seq (pf_sl (pf_var (pv 7)) pof_none (pof_some (pf_neg pf_int)))) (pg_name nd rfl (by first | exact Or.inl rfl | exact Or.inr rfl)) (sfs_one (sf_set (i := 3) nd rfl (by first | exact Or.inl rfl | exact Or.inr rfl) (pf_bin op_add4 ok_gAdd (pf_bin op_add4 ok_gAdd (pf_var (pv 3)) (pf_var (pv 9))) (pf_ix (pf_var (pv 2)) (pf_bin op_add4 ok_gAdd pf_int (pf_call (fn__law_random x) (lv.mono (by decide)) rfl x.g__law_random x.d__law_random.kp (b__law_random x) .nil CsD.nil tk (af_cons (pf_var (pv 0)) (af_cons pf_int af_nil)))) fun _ _ => rfl)))))
  (sfs_one (sf_set (i := 3) nd rfl (by first | exact Or.inl rfl | exact Or.inr rfl) (pf_bin op_add4 ok_gAdd (pf_bin op_add4 ok_gAdd (pf_bin op_add4 ok_gAdd (pf_var (pv 3)) (pf_ix (pf_var (pv 7)) (pf_neg pf_int) fun _ _ => rfl)) (pf_ix (pf_var (pv 2)) (pf_call (fn__law_random x) (lv.mono (by decide)) rfl x.g__law_random x.d__law_random.kp (b__law_random x) .nil CsD.nil tk (af_cons (pf_var (pv 0)) (af_cons pf_int af_nil))) fun _ _ => rfl)) pf_str))))))))
  (sfs_one (sf_ret (pf_bin op_add4 ok_gAdd (pf_sl (pf_var (pv 3)) pof_none (pof_some (pf_neg pf_int))) (pf_ix (pf_var (pv 2)) (pf_call (fn__law_random x) (lv.mono (by decide)) rfl x.g__law_random x.d__law_random.kp (b__law_random x) .nil CsD.nil tk (af_cons (pf_var (pv 0)) (af_cons pf_int af_nil))) fun _ _ => rfl))))))
theorem fn__law_spaced (x : Fx K mg) : FT P0 w K mg base (He.ga K) (5 + 1) (He.fAd K ("_law_spaced", none)) x.fd__law_spaced ["generator", "parts"] N__law_spaced := ft_melt (ft__law_spaced x)
def F__law_written_0 : FS := (sRet (fJoin (fun _ => pure (.str " / ")) (fFrz (oLc [1, 2, 3, 4] (.many [1, 2, 3, 4]) (iSeq (fVar 0)) (fun _ => pure true) (f2 gAdd (f2 gAdd (f2 gAdd (f2 gAdd (f2 gAdd (f2 gAdd (fVar 1) (fun _ => pure (.str " "))) (fVar 2)) (fun _ => pure (.str " "))) (fVar 3)) (fun _ => pure (.str ": "))) (fJoin (fun _ => pure (.str " ")) (fVar 4)))))))
def M__law_written : List D → Cm D := mkM 1 5 (F__law_written_0)
def N__law_written : List D → Cm D := frm M__law_written
theorem sc__law_written : FnScope ["parts", "name", "mode", "bears", "boxes"] ["parts"] (defScope s__law_written) := ⟨rfl, rfl, rfl, by decide +kernel, rfl, by decide +kernel, by decide +kernel⟩
theorem b__law_written (x : Fx K mg) : Binds K x.fd__law_written ["parts"] [] := x.d__law_written.bindsN fun _ _ _ _ _ _ us hl => match us, hl with | [_], _ => rfl
set_option maxHeartbeats 4000000 in
theorem ft__law_written (x : Fx K mg) : FT P0 w K mg base (He.ga K) (3 + 1) (He.fAd K ("_law_written", none)) x.fd__law_written ["parts"] M__law_written := ft_of x.d__law_written sc__law_written rfl rfl fun cdv A outer s H E lv =>
  have nd := sc__law_written.nd
  have tk := ctx_takes (P := P0) (w := w) (K := K) (mg := mg) (base := base) (N := ["parts", "name", "mode", "bears", "boxes"]) (qual := "_law_written") (scope := defScope s__law_written) (f := He.fAd K ("_law_written", none)) (cdv := cdv) (A := A) (outer := outer) (s := s) (H := H) (E := E)
  have po := ctx_po (P := P0) (w := w) (K := K) (mg := mg) (base := base) (N := ["parts", "name", "mode", "bears", "boxes"]) (qual := "_law_written") (scope := defScope s__law_written) (f := He.fAd K ("_law_written", none)) (cdv := cdv) (A := A) (outer := outer) (s := s) (H := H) (E := E)
  (sfs_one (sf_ret (pf_join pf_str (pf_frz (of_lc (own := [("name", 1), ("mode", 2), ("bears", 3), ("boxes", 4)]) (b := (.many [1, 2, 3, 4])) rfl nd (if_seq (pf_var (pv 0))) (blkOk_by (by rfl)) (by decide) (fun _ _ _ _ _ => (pg_tup rfl (pgs_cons (pg_name nd rfl (by first | exact Or.inl rfl | exact Or.inr rfl)) (pgs_cons (pg_name nd rfl (by first | exact Or.inl rfl | exact Or.inr rfl)) (pgs_cons (pg_name nd rfl (by first | exact Or.inl rfl | exact Or.inr rfl)) (pgs_cons (pg_name nd rfl (by first | exact Or.inl rfl | exact Or.inr rfl)) pgs_nil)))))) (fun _ _ _ _ _ => tsf_nil) (fun _ _ _ _ _ => (pf_bin op_add4 ok_gAdd (pf_bin op_add4 ok_gAdd (pf_bin op_add4 ok_gAdd (pf_bin op_add4 ok_gAdd (pf_bin op_add4 ok_gAdd (pf_bin op_add4 ok_gAdd (pf_var (pv 1)) pf_str) (pf_var (pv 2))) pf_str) (pf_var (pv 3))) pf_str) (pf_join pf_str (pf_var (pv 4))))))))))
theorem fn__law_written (x : Fx K mg) : FT P0 w K mg base (He.ga K) (3 + 1) (He.fAd K ("_law_written", none)) x.fd__law_written ["parts"] N__law_written := ft_frm (ft__law_written x)
theorem sc_group_of : FnScope ["tokens", "token"] ["tokens"] (defScope s_group_of) := ⟨rfl, rfl, rfl, by decide +kernel, rfl, by decide +kernel, by decide +kernel⟩
theorem b_group_of (x : Fx K mg) : Binds K x.fd_group_of ["tokens"] [] := x.d_group_of.bindsN fun _ _ _ _ _ _ us hl => match us, hl with | [_], _ => rfl
set_option maxHeartbeats 4000000 in
theorem ft_group_of (x : Fx K mg) : FT P0 w K mg base (He.ga K) (3 + 1) (He.fAd K ("group_of", none)) x.fd_group_of ["tokens"] M_group_of := ft_of x.d_group_of sc_group_of rfl rfl fun cdv A outer s H E lv =>
  have nd := sc_group_of.nd
  have tk := ctx_takes (P := P0) (w := w) (K := K) (mg := mg) (base := base) (N := ["tokens", "token"]) (qual := "group_of") (scope := defScope s_group_of) (f := He.fAd K ("group_of", none)) (cdv := cdv) (A := A) (outer := outer) (s := s) (H := H) (E := E)
  have po := ctx_po (P := P0) (w := w) (K := K) (mg := mg) (base := base) (N := ["tokens", "token"]) (qual := "group_of") (scope := defScope s_group_of) (f := He.fAd K ("group_of", none)) (cdv := cdv) (A := A) (outer := outer) (s := s) (H := H) (E := E)
  (sfs_cons (sf_if (tf_pw (twf_or (tf_cmp op_lt (ok_gOrd _) (pf_callB call_len ok_gLen rfl x.n_len PyProof.Rows.Boot.«len» (af_cons (pf_var (pv 0)) af_nil)) pf_int (nomark _)) (twf_or (tf_cmp (op_neD lv.room.units) ok_gNe (pf_ix (pf_var (pv 0)) pf_int fun _ _ => rfl) pf_str (nomark _)) (twf_or (tf_cmp (op_inX lv.u65) ok_gInX pf_str (pf_sl (pf_var (pv 0)) pof_none (pof_some pf_int)) rfl) (twf_or1 (tf_cmp (op_inX lv.u65) ok_gInX pf_str (pf_sl (pf_var (pv 0)) (pof_some pf_int) pof_none) rfl)))))) (sfs_one (sf_ret pf_non)) sfs_nil)
  (sfs_cons (sf_if (tf_cmp (op_neD lv.room.units) ok_gNe (pf_frz (of_lc (own := [("token", 1)]) (b := (.one 1)) rfl nd (if_seq (pf_var (pv 0))) (blkOk_by (by rfl)) (by decide) (fun _ _ _ _ _ => (pg_name nd rfl (by first | exact Or.inl rfl | exact Or.inr rfl))) (fun _ _ _ _ _ => (tsf_one (tf_cmp op_gt (ok_gOrd _) (pf_callB call_len ok_gLen rfl x.n_len PyProof.Rows.Boot.«len» (af_cons (pf_var (pv 1)) af_nil)) (pf_kint rfl x.k_MOST_LETTERS.choose_spec.1 x.k_MOST_LETTERS.choose_spec.2) (nomark _)))) (fun _ _ _ _ _ => (pf_var (pv 1))))) (pf_frz (of_lst af_nil)) (nomark _)) (sfs_one (sf_ret pf_non)) sfs_nil)
  (sfs_one (sf_ret (pf_tup (af_cons (pf_ix (pf_var (pv 0)) pf_int fun _ _ => rfl) (af_cons (pf_ix (pf_var (pv 0)) pf_int fun _ _ => rfl) (af_cons (pf_ix (pf_var (pv 0)) pf_int fun _ _ => rfl) (af_cons (pf_sl (pf_var (pv 0)) (pof_some pf_int) pof_none) af_nil)))))))))
theorem fn_group_of (x : Fx K mg) : FT P0 w K mg base (He.ga K) (3 + 1) (He.fAd K ("group_of", none)) x.fd_group_of ["tokens"] N_group_of := ft_melt (ft_group_of x)
theorem sc_tokens_of : FnScope ["text", "found", "last", "sign"] ["text"] (defScope s_tokens_of) := ⟨rfl, rfl, rfl, by decide +kernel, rfl, by decide +kernel, by decide +kernel⟩
theorem b_tokens_of (x : Fx K mg) : Binds K x.fd_tokens_of ["text"] [] := x.d_tokens_of.bindsN fun _ _ _ _ _ _ us hl => match us, hl with | [_], _ => rfl
set_option maxHeartbeats 4000000 in
theorem ft_tokens_of (x : Fx K mg) : FT P0 w K mg base (He.ga K) (3 + 1) (He.fAd K ("tokens_of", none)) x.fd_tokens_of ["text"] M_tokens_of := ft_of x.d_tokens_of sc_tokens_of rfl rfl fun cdv A outer s H E lv =>
  have nd := sc_tokens_of.nd
  have tk := ctx_takes (P := P0) (w := w) (K := K) (mg := mg) (base := base) (N := ["text", "found", "last", "sign"]) (qual := "tokens_of") (scope := defScope s_tokens_of) (f := He.fAd K ("tokens_of", none)) (cdv := cdv) (A := A) (outer := outer) (s := s) (H := H) (E := E)
  have po := ctx_po (P := P0) (w := w) (K := K) (mg := mg) (base := base) (N := ["text", "found", "last", "sign"]) (qual := "tokens_of") (scope := defScope s_tokens_of) (f := He.fAd K ("tokens_of", none)) (cdv := cdv) (A := A) (outer := outer) (s := s) (H := H) (E := E)
  (sfs_cons (sf_par (i := 1) (j := 2) rfl nd rfl rfl (by decide) rfl rfl (af_cons (pf_cell (of_lst af_nil)) (af_cons pf_str af_nil)) rfl)
  (sfs_cons (sf_for (b := (.one 3)) po rfl (if_seq (pf_var (pv 0))) (pg_name nd rfl (by first | exact Or.inl rfl | exact Or.inr rfl)) (sfs_cons (sf_if (tf_pw (twf_and (tf_cmp op_in_sign ok_gInS (pf_var (pv 3)) (pf_kstr rfl x.k_LETTERS.choose_spec.1 x.k_LETTERS.choose_spec.2) rfl) (twf_and1 (tf_cmp op_in_sign ok_gInS (pf_var (pv 2)) (pf_kstr rfl x.k_LETTERS.choose_spec.1 x.k_LETTERS.choose_spec.2) rfl)))) (sfs_one (sf_putC (pf_bin op_add4 ok_gAdd (pf_ix (pf_var (pv 1)) (pf_neg pf_int) fun _ _ => rfl) (pf_var (pv 3))) (pf_var (pv 1)) (pf_neg pf_int))) (sfs_one (sf_if (tf_pw (twf_or (tf_cmp op_in_sign ok_gInS (pf_var (pv 3)) (pf_kstr rfl x.k_LETTERS.choose_spec.1 x.k_LETTERS.choose_spec.2) rfl) (twf_or1 (tf_cmp op_in_sign ok_gInS (pf_var (pv 3)) (pf_kstr rfl x.k_SIGNS.choose_spec.1 x.k_SIGNS.choose_spec.2) rfl)))) (sfs_one (sf_app (i := 1) (pv 1) (pf_var (pv 3)))) (sfs_one (sf_if (tf_cmp op_notIn_sign ok_gNotInS (pf_var (pv 3)) (pf_kstr rfl x.k_BLANKS.choose_spec.1 x.k_BLANKS.choose_spec.2) rfl) (sfs_one (sf_ret pf_non)) sfs_nil)))))
  (sfs_one (sf_set (i := 2) nd rfl (by first | exact Or.inl rfl | exact Or.inr rfl) (pf_var (pv 3))))))
  (sfs_one (sf_ret (pf_var (pv 1))))))
theorem fn_tokens_of (x : Fx K mg) : FT P0 w K mg base (He.ga K) (3 + 1) (He.fAd K ("tokens_of", none)) x.fd_tokens_of ["text"] N_tokens_of := ft_frm (ft_tokens_of x)
theorem sc_read_shop : FnScope ["text", "tokens", "rows", "token", "groups", "shop", "row"] ["text"] (defScope s_read_shop) := ⟨rfl, rfl, rfl, by decide +kernel, rfl, by decide +kernel, by decide +kernel⟩
theorem b_read_shop (x : Fx K mg) : Binds K x.fd_read_shop ["text"] [] := x.d_read_shop.bindsN fun _ _ _ _ _ _ us hl => match us, hl with | [_], _ => rfl
set_option maxHeartbeats 4000000 in
theorem ft_read_shop (x : Fx K mg) : FT P0 w K mg base (He.ga K) (8 + 1) (He.fAd K ("read_shop", none)) x.fd_read_shop ["text"] M_read_shop := ft_of x.d_read_shop sc_read_shop rfl rfl fun cdv A outer s H E lv =>
  have nd := sc_read_shop.nd
  have tk := ctx_takes (P := P0) (w := w) (K := K) (mg := mg) (base := base) (N := ["text", "tokens", "rows", "token", "groups", "shop", "row"]) (qual := "read_shop") (scope := defScope s_read_shop) (f := He.fAd K ("read_shop", none)) (cdv := cdv) (A := A) (outer := outer) (s := s) (H := H) (E := E)
  have po := ctx_po (P := P0) (w := w) (K := K) (mg := mg) (base := base) (N := ["text", "tokens", "rows", "token", "groups", "shop", "row"]) (qual := "read_shop") (scope := defScope s_read_shop) (f := He.fAd K ("read_shop", none)) (cdv := cdv) (A := A) (outer := outer) (s := s) (H := H) (E := E)
  (sfs_cons (sf_set (i := 1) nd rfl (by first | exact Or.inl rfl | exact Or.inr rfl) (pf_if (tf_val (pf_callB call_isi2 (ok_gIsi (c := (.ty "str")) x.is_str) rfl x.n_isinstance PyProof.Rows.Boot.«isinstance» (af_cons (pf_var (pv 0)) (af_cons (pf_tyName rfl x.n_str PyProof.Rows.Boot.«str») af_nil)))) (pf_call (fn_tokens_of x) (lv.mono (by decide)) rfl x.g_tokens_of x.d_tokens_of.kp (b_tokens_of x) .nil CsD.nil tk (af_cons (pf_var (pv 0)) af_nil)) pf_non))
  (sfs_cons (sf_if (tf_cmp op_isN ok_gIsN (pf_var (pv 1)) pf_non (nomark _)) (sfs_one (sf_raise rfl tk (mf_mk (C := "InvalidText") (f := "value") x.ex_InvalidText rfl rfl x.n_super (lv.mono (by decide : 1 ≤ _)) (bx_InvalidText x) .nil CsD.nil rfl x.g_InvalidText (af_cons (pf_var (pv 0)) af_nil)))) sfs_nil)
  (sfs_cons (sf_set (i := 2) nd rfl (by first | exact Or.inl rfl | exact Or.inr rfl) (pf_cell (of_lst (af_cons (pf_cell (of_lst af_nil)) af_nil))))
  (sfs_cons (sf_for (b := (.one 3)) po rfl (if_seq (pf_var (pv 1))) (pg_name nd rfl (by first | exact Or.inl rfl | exact Or.inr rfl)) (sfs_one (sf_if (tf_cmp (op_eqD lv.room.units) ok_gEq (pf_var (pv 3)) pf_str (nomark _)) (sfs_one (sf_app (i := 2) (pv 2) (pf_cell (of_lst af_nil)))) (sfs_one (sf_appC (pf_ix (pf_var (pv 2)) (pf_neg pf_int) fun _ _ => rfl) (pf_var (pv 3)))))))
  (sfs_cons (sf_par (i := 4) (j := 5) rfl nd rfl rfl (by decide) rfl rfl (af_cons (pf_frz (of_lc (own := [("row", 6)]) (b := (.one 6)) rfl nd (if_seq (pf_var (pv 2))) (blkOk_by (by rfl)) (by decide) (fun _ _ _ _ _ => (pg_name nd rfl (by first | exact Or.inl rfl | exact Or.inr rfl))) (fun _ _ _ _ _ => tsf_nil) (fun _ _ _ _ _ => (pf_call (fn_group_of x) (lv.mono (by decide)) rfl x.g_group_of x.d_group_of.kp (b_group_of x) .nil CsD.nil takesF (af_cons (pf_var (pv 6)) af_nil))))) (af_cons pf_non af_nil)) rfl)
  (sfs_cons (sf_thru (sfs_one (sf_set (i := 5) nd rfl (by first | exact Or.inl rfl | exact Or.inr rfl) (pf_frz (of_make x.mk_Shop (fin_Shop_init x) (lv.mono (by decide)) rfl x.g_Shop (b_Shop_init x) .nil CsD.nil takesF (af_cons (pf_var (pv 4)) af_nil))))))
  (sfs_cons (sf_if (tf_cmp op_isN ok_gIsN (pf_var (pv 5)) pf_non (nomark _)) (sfs_one (sf_raise rfl tk (mf_mk (C := "InvalidText") (f := "value") x.ex_InvalidText rfl rfl x.n_super (lv.mono (by decide : 1 ≤ _)) (bx_InvalidText x) .nil CsD.nil rfl x.g_InvalidText (af_cons (pf_var (pv 0)) af_nil)))) sfs_nil)
  (sfs_one (sf_ret (pf_var (pv 5)))))))))))
theorem fn_read_shop (x : Fx K mg) : FT P0 w K mg base (He.ga K) (8 + 1) (He.fAd K ("read_shop", none)) x.fd_read_shop ["text"] N_read_shop := ft_frm (ft_read_shop x)
theorem sc_check_shop : FnScope ["value"] ["value"] (defScope s_check_shop) := ⟨rfl, rfl, rfl, by decide +kernel, rfl, by decide +kernel, by decide +kernel⟩
theorem b_check_shop (x : Fx K mg) : Binds K x.fd_check_shop ["value"] [] := x.d_check_shop.bindsN fun _ _ _ _ _ _ us hl => match us, hl with | [_], _ => rfl
set_option maxHeartbeats 4000000 in
theorem ft_check_shop (x : Fx K mg) : FT P0 w K mg base (He.ga K) (3 + 1) (He.fAd K ("check_shop", none)) x.fd_check_shop ["value"] M_check_shop := ft_of x.d_check_shop sc_check_shop rfl rfl fun cdv A outer s H E lv =>
  have nd := sc_check_shop.nd
  have tk := ctx_takes (P := P0) (w := w) (K := K) (mg := mg) (base := base) (N := ["value"]) (qual := "check_shop") (scope := defScope s_check_shop) (f := He.fAd K ("check_shop", none)) (cdv := cdv) (A := A) (outer := outer) (s := s) (H := H) (E := E)
  have po := ctx_po (P := P0) (w := w) (K := K) (mg := mg) (base := base) (N := ["value"]) (qual := "check_shop") (scope := defScope s_check_shop) (f := He.fAd K ("check_shop", none)) (cdv := cdv) (A := A) (outer := outer) (s := s) (H := H) (E := E)
  (sfs_one (sf_if (tf_not (tf_val (pf_callB call_isi2 (ok_gIsi (c := (.own "Shop")) x.is_Shop) rfl x.n_isinstance PyProof.Rows.Boot.«isinstance» (af_cons (pf_var (pv 0)) (af_cons (pf_clsName rfl x.g_Shop) af_nil))))) (sfs_one (sf_raise rfl tk (mf_mk (C := "InvalidShop") (f := "value") x.ex_InvalidShop rfl rfl x.n_super (lv.mono (by decide : 1 ≤ _)) (bx_InvalidShop x) .nil CsD.nil rfl x.g_InvalidShop (af_cons (pf_var (pv 0)) af_nil)))) sfs_nil))
theorem fn_check_shop (x : Fx K mg) : FT P0 w K mg base (He.ga K) (3 + 1) (He.fAd K ("check_shop", none)) x.fd_check_shop ["value"] N_check_shop := ft_frm (ft_check_shop x)
theorem sc_text_of : FnScope ["shop", "name", "mode", "bears", "boxes"] ["shop"] (defScope s_text_of) := ⟨rfl, rfl, rfl, by decide +kernel, rfl, by decide +kernel, by decide +kernel⟩
theorem b_text_of (x : Fx K mg) : Binds K x.fd_text_of ["shop"] [] := x.d_text_of.bindsN fun _ _ _ _ _ _ us hl => match us, hl with | [_], _ => rfl
set_option maxHeartbeats 4000000 in
theorem ft_text_of (x : Fx K mg) : FT P0 w K mg base (He.ga K) (4 + 1) (He.fAd K ("text_of", none)) x.fd_text_of ["shop"] M_text_of := ft_of x.d_text_of sc_text_of rfl rfl fun cdv A outer s H E lv =>
  have nd := sc_text_of.nd
  have tk := ctx_takes (P := P0) (w := w) (K := K) (mg := mg) (base := base) (N := ["shop", "name", "mode", "bears", "boxes"]) (qual := "text_of") (scope := defScope s_text_of) (f := He.fAd K ("text_of", none)) (cdv := cdv) (A := A) (outer := outer) (s := s) (H := H) (E := E)
  have po := ctx_po (P := P0) (w := w) (K := K) (mg := mg) (base := base) (N := ["shop", "name", "mode", "bears", "boxes"]) (qual := "text_of") (scope := defScope s_text_of) (f := He.fAd K ("text_of", none)) (cdv := cdv) (A := A) (outer := outer) (s := s) (H := H) (E := E)
  (sfs_cons (sf_expr (pf_call (fn_check_shop x) (lv.mono (by decide)) rfl x.g_check_shop x.d_check_shop.kp (b_check_shop x) .nil CsD.nil tk (af_cons (pf_var (pv 0)) af_nil)))
  (sfs_one (sf_ret (pf_join pf_str (pf_frz (of_lc (own := [("name", 1), ("mode", 2), ("bears", 3), ("boxes", 4)]) (b := (.many [1, 2, 3, 4])) rfl nd (if_seq (pf_meth0 (C := "Shop") (m := "groups") (pf_var (pv 0)) x.cls_Shop x.meth_Shop_groups (fn_Shop_groups x) (lv.mono (by decide)) (b_Shop_groups x) .nil CsD.nil tk)) (blkOk_by (by rfl)) (by decide) (fun _ _ _ _ _ => (pg_tup rfl (pgs_cons (pg_name nd rfl (by first | exact Or.inl rfl | exact Or.inr rfl)) (pgs_cons (pg_name nd rfl (by first | exact Or.inl rfl | exact Or.inr rfl)) (pgs_cons (pg_name nd rfl (by first | exact Or.inl rfl | exact Or.inr rfl)) (pgs_cons (pg_name nd rfl (by first | exact Or.inl rfl | exact Or.inr rfl)) pgs_nil)))))) (fun _ _ _ _ _ => tsf_nil) (fun _ _ _ _ _ => (pf_js (.cons (pf_fmt (pf_var (pv 1))) (.cons pf_str (.cons (pf_fmt (pf_var (pv 2))) (.cons pf_str (.cons (pf_fmt (pf_var (pv 3))) (.cons pf_str (.cons (pf_fmt (pf_join pf_str (pf_var (pv 4)))) .nil)))))))))))))))
theorem fn_text_of (x : Fx K mg) : FT P0 w K mg base (He.ga K) (4 + 1) (He.fAd K ("text_of", none)) x.fd_text_of ["shop"] N_text_of := ft_frm (ft_text_of x)
def F_law_0 : FS := (sSet 2 (fCall M__law_generator [] (aCons (fVar 0) (aCons (fVar 1) aNil))))
def F_law_1 : FS := (sSet 3 (fCall N__law_parts [] (aCons (fVar 2) (aCons (f2 gAdd (fun _ => pure (.int 1)) (fCall N__law_random [] (aCons (fVar 2) (aCons (fun _ => pure (.int 4)) aNil)))) (aCons (fun _ => pure (.int 5)) aNil)))))
def F_law_2 : FS := (sPar 4 5 (aCons (fFrz (oMake N_Shop_init [] (aCons (fCall N__law_copied [] (aCons (fVar 3) aNil)) aNil))) (aCons (fCall N__law_written [] (aCons (fVar 3) aNil)) aNil)))
def F_law_3 : FS := (sRet (fun _ => pure (.bl false)))
def F_law_4 : FS := (sIf (fOrT (fB (f2 (gEq true) (fCall N_text_of [] (aCons (fVar 4) aNil)) (fVar 5))) (fB (f2 (gEq true) (fCall N_text_of [] (aCons (fFrz (oMake N_Shop_init [] (aCons (fCall N__law_copied [] (aCons (fVar 3) aNil)) aNil))) aNil)) (fVar 5)))) F_law_3 sNil)
def F_law_5 : FS := (sSet 7 (fCall N_read_shop [] (aCons (fVar 6) aNil)))
def F_law_6 : FS := (sRet (fun _ => pure (.bl false)))
def F_law_7 : FS := (sIf (fOrT (fNotT (fB (fArgs (a2 (gIsi is_Shop (.own "Shop"))) (aCons (fVar 7) (aCons (fun _ => pure (.glob "Shop")) aNil))))) (fOrT (fB (f2 (gEqO true "Shop" N_Shop_eq) (fVar 7) (fVar 4))) (fB (f2 (gEq true) (fCall N_text_of [] (aCons (fVar 7) aNil)) (fVar 5))))) F_law_6 sNil)
def B_law_8 : FS := (sSeq F_law_5
  F_law_7)
def F_law_9 : FS := (sFor (.one 6) (iSeqL (fFrz (oLst (aCons (fVar 5) (aCons (fCall N__law_spaced [] (aCons (fVar 2) (aCons (fVar 3) aNil))) (aCons (fCall N__law_spaced [] (aCons (fVar 2) (aCons (fVar 3) aNil))) (aCons (f1 (gRepl " / " "/") (fVar 5)) aNil))))))) B_law_8)
def F_law_10 : FS := (sSet 9 (fun _ => pure .non))
def F_law_11 : FS := (sExpr (fCall N_text_of [] (aCons (fVar 8) aNil)))
def F_law_12 : FS := (sSet 9 (fVar 10))
def F_law_13 : FS := (sTry 10 xt_InvalidShop F_law_11 F_law_12)
def F_law_14 : FS := (sRet (fun _ => pure (.bl false)))
def F_law_15 : FS := (sIf (fOrT (fB (f2 (gIsN false) (fVar 9) (fun _ => pure .non))) (fB (f2 (gEq true) (fArgs (a1 gReprQ) (aCons (fXf xf_value "value" (fVar 9)) aNil)) (fArgs (a1 gReprQ) (aCons (fVar 8) aNil))))) F_law_14 sNil)
def B_law_16 : FS := (sSeq F_law_10
  (sSeq F_law_13
  F_law_15))
def F_law_17 : FS := (sFor (.one 8) (iSeq (fFrz (oLst (aCons (fun _ => pure .non) (aCons (fun _ => pure (.int 3)) (aCons (fFrz (oLst aNil)) (aCons (fCall N__law_copied [] (aCons (fVar 3) aNil)) (aCons (fun _ => pure (.str "hue or one: a")) (aCons (fFrz (fun _ S => .ok (.dK []) S)) (aCons (fun _ => pure (.bl true)) (aCons (fMeth "Shop" "groups" N_Shop_groups [] (fVar 4) (fun _ => pure [])) aNil))))))))))) B_law_16)
def B_law_18 : FS := (sMelt (sSeq F_law_0
  (sSeq F_law_1
  (sSeq F_law_2
  (sSeq F_law_4
  (sSeq F_law_9
  F_law_17))))))
def F_law_19 : FS := (sFor (.one 1) (iRg1 (aCons (fun _ => pure (.int 5)) aNil)) B_law_18)
def F_law_20 : FS := (sSet 11 (fCall N_read_shop [] (aCons (fun _ => pure (.str "or and one:one many / and or many:or and one many abcdefgh")) aNil)))
def F_law_21 : FS := (sSet 5 (fFrz (oLst (aCons (fTup (aCons (fun _ => pure (.str "or")) (aCons (fun _ => pure (.str "and")) (aCons (fun _ => pure (.str "one")) (aCons (fFrz (oLst (aCons (fun _ => pure (.str "one")) (aCons (fun _ => pure (.str "many")) aNil)))) aNil))))) (aCons (fTup (aCons (fun _ => pure (.str "and")) (aCons (fun _ => pure (.str "or")) (aCons (fun _ => pure (.str "many")) (aCons (fFrz (oLst (aCons (fun _ => pure (.str "or")) (aCons (fun _ => pure (.str "and")) (aCons (fun _ => pure (.str "one")) (aCons (fun _ => pure (.str "many")) (aCons (fun _ => pure (.str "abcdefgh")) aNil))))))) aNil))))) aNil)))))
def F_law_22 : FS := (sRet (fun _ => pure (.bl false)))
def F_law_23 : FS := (sIf (fB (f2 (gEqO true "Shop" N_Shop_eq) (fVar 11) (fFrz (oMake N_Shop_init [] (aCons (fVar 5) aNil))))) F_law_22 sNil)
def F_law_24 : FS := (sRet (f2 (gEqO false "Shop" N_Shop_eq) (fCall N_read_shop [] (aCons (f2 gAdd (f2 gMulS (fun _ => pure (.str " ")) (fun _ => pure (.int 1900))) (fun _ => pure (.str "\na or one :\n b\n"))) aNil)) (fFrz (oMake N_Shop_init [] (aCons (fFrz (oLst (aCons (fTup (aCons (fun _ => pure (.str "a")) (aCons (fun _ => pure (.str "or")) (aCons (fun _ => pure (.str "one")) (aCons (fFrz (oLst (aCons (fun _ => pure (.str "b")) aNil))) aNil))))) aNil))) aNil)))))
def M_law : List D → Cm D := mkM 1 12 ((sSeq F_law_19
  (sSeq F_law_20
  (sSeq F_law_21
  (sSeq F_law_23
  F_law_24)))))
theorem sc_law : FnScope ["script", "index", "generator", "parts", "shop", "due", "text", "told", "bad", "caught", "error", "words"] ["script"] (defScope s_law) := ⟨rfl, rfl, rfl, by decide +kernel, rfl, by decide +kernel, by decide +kernel⟩
set_option maxHeartbeats 4000000 in
theorem ft_law (x : Fx K mg) : FT P0 w K mg base (He.ga K) (9 + 1) (He.fAd K ("law", none)) x.fd_law ["script"] M_law := ft_of x.d_law sc_law rfl rfl fun cdv A outer s H E lv =>
  have nd := sc_law.nd
  have tk := ctx_takes (P := P0) (w := w) (K := K) (mg := mg) (base := base) (N := ["script", "index", "generator", "parts", "shop", "due", "text", "told", "bad", "caught", "error", "words"]) (qual := "law") (scope := defScope s_law) (f := He.fAd K ("law", none)) (cdv := cdv) (A := A) (outer := outer) (s := s) (H := H) (E := E)
  have po := ctx_po (P := P0) (w := w) (K := K) (mg := mg) (base := base) (N := ["script", "index", "generator", "parts", "shop", "due", "text", "told", "bad", "caught", "error", "words"]) (qual := "law") (scope := defScope s_law) (f := He.fAd K ("law", none)) (cdv := cdv) (A := A) (outer := outer) (s := s) (H := H) (E := E)
  (sfs_cons (sf_for (b := (.one 1)) po rfl (if_range1 rfl x.n_range (af_cons pf_int af_nil)) (pg_name nd rfl (by first | exact Or.inl rfl | exact Or.inr rfl)) (sfs_melt (sfs_cons (sf_set (i := 2) nd rfl (by first | exact Or.inl rfl | exact Or.inr rfl) (pf_call (ft__law_generator x) (lv.mono (by decide)) rfl x.g__law_generator x.d__law_generator.kp (b__law_generator x) .nil CsD.nil tk (af_cons (pf_var (pv 0)) (af_cons (pf_var (pv 1)) af_nil))))
  (sfs_setK (i := 3) nd rfl (by first | exact Or.inl rfl | exact Or.inr rfl) (pfk_call (fn__law_parts x) (lv.mono (by decide)) rfl x.g__law_parts x.d__law_parts.kp (b__law_parts x) .nil CsD.nil tk (afk_cons (pf_var (pv 2)) (afk_cons (pf_bin op_add4 ok_gAdd pf_int (pf_call (fn__law_random x) (lv.mono (by decide)) rfl x.g__law_random x.d__law_random.kp (b__law_random x) .nil CsD.nil tk (af_cons (pf_var (pv 2)) (af_cons pf_int af_nil)))) afk_int)))
  (sfst_cons (sft_of (sf_par (i := 4) (j := 5) rfl nd rfl rfl (by decide) rfl rfl (af_cons (pf_frz (of_make x.mk_Shop (fin_Shop_init x) (lv.mono (by decide)) rfl x.g_Shop (b_Shop_init x) .nil CsD.nil tk (af_cons (pf_call (fn__law_copied x) (lv.mono (by decide)) rfl x.g__law_copied x.d__law_copied.kp (b__law_copied x) .nil CsD.nil tk (af_cons (pf_var (pv 3)) af_nil)) af_nil))) (af_cons (pf_call (fn__law_written x) (lv.mono (by decide)) rfl x.g__law_written x.d__law_written.kp (b__law_written x) .nil CsD.nil tk (af_cons (pf_var (pv 3)) af_nil)) af_nil)) rfl))
  (sfst_cons (sft_of (sf_if (tf_pw (twf_or (tf_cmp (op_neD lv.room.units) ok_gNe (pf_call (fn_text_of x) (lv.mono (by decide)) rfl x.g_text_of x.d_text_of.kp (b_text_of x) .nil CsD.nil tk (af_cons (pf_var (pv 4)) af_nil)) (pf_var (pv 5)) (nomark _)) (twf_or1 (tf_cmp (op_neD lv.room.units) ok_gNe (pf_call (fn_text_of x) (lv.mono (by decide)) rfl x.g_text_of x.d_text_of.kp (b_text_of x) .nil CsD.nil tk (af_cons (pf_frz (of_make x.mk_Shop (fin_Shop_init x) (lv.mono (by decide)) rfl x.g_Shop (b_Shop_init x) .nil CsD.nil tk (af_cons (pf_call (fn__law_copied x) (lv.mono (by decide)) rfl x.g__law_copied x.d__law_copied.kp (b__law_copied x) .nil CsD.nil tk (af_cons (pf_var (pv 3)) af_nil)) af_nil))) af_nil)) (pf_var (pv 5)) (nomark _))))) (sfs_one (sf_ret pf_bl)) sfs_nil))
  (sfst_cons (sft_for (b := (.one 6)) po rfl (ift_seqL (pft_frz (oft_lst (aft_cons (pft_of (pf_var (pv 5))) (aft_cons (pft_of (pf_call (fn__law_spaced x) (lv.mono (by decide)) rfl x.g__law_spaced x.d__law_spaced.kp (b__law_spaced x) .nil CsD.nil tk (af_cons (pf_var (pv 2)) (af_cons (pf_var (pv 3)) af_nil)))) (aft_cons (pft_of (pf_call (fn__law_spaced x) (lv.mono (by decide)) rfl x.g__law_spaced x.d__law_spaced.kp (b__law_spaced x) .nil CsD.nil tk (af_cons (pf_var (pv 2)) (af_cons (pf_var (pv 3)) af_nil)))) (aft_cons (pft_repl (pf_var (pv 5))) aft_nil))))))) (pg_name nd rfl (by first | exact Or.inl rfl | exact Or.inr rfl)) (sfs_cons (sf_set (i := 7) nd rfl (by first | exact Or.inl rfl | exact Or.inr rfl) (pf_call (fn_read_shop x) (lv.mono (by decide)) rfl x.g_read_shop x.d_read_shop.kp (b_read_shop x) .nil CsD.nil tk (af_cons (pf_var (pv 6)) af_nil)))
  (sfs_one (sf_if (tf_pw (twf_or (tf_not (tf_val (pf_callB call_isi2 (ok_gIsi (c := (.own "Shop")) x.is_Shop) rfl x.n_isinstance PyProof.Rows.Boot.«isinstance» (af_cons (pf_var (pv 7)) (af_cons (pf_clsName rfl x.g_Shop) af_nil))))) (twf_or (tf_cmp (op2_neO lv.room.units x.eq_Shop (fn_Shop_eq x) (lv.mono (by decide)) (b_Shop_eq x)) ok_gNeO (pf_var (pv 7)) (pf_var (pv 4)) (nomark _)) (twf_or1 (tf_cmp (op_neD lv.room.units) ok_gNe (pf_call (fn_text_of x) (lv.mono (by decide)) rfl x.g_text_of x.d_text_of.kp (b_text_of x) .nil CsD.nil tk (af_cons (pf_var (pv 7)) af_nil)) (pf_var (pv 5)) (nomark _)))))) (sfs_one (sf_ret pf_bl)) sfs_nil))))
  (sfst_of (sfs_one (sf_for (b := (.one 8)) po rfl (if_seq (pf_frz (of_lst (af_cons pf_non (af_cons pf_int (af_cons (pf_frz (of_lst af_nil)) (af_cons (pf_call (fn__law_copied x) (lv.mono (by decide)) rfl x.g__law_copied x.d__law_copied.kp (b__law_copied x) .nil CsD.nil tk (af_cons (pf_var (pv 3)) af_nil)) (af_cons pf_str (af_cons (pf_frz of_dict0) (af_cons pf_bl (af_cons (pf_meth0 (C := "Shop") (m := "groups") (pf_var (pv 4)) x.cls_Shop x.meth_Shop_groups (fn_Shop_groups x) (lv.mono (by decide)) (b_Shop_groups x) .nil CsD.nil tk) af_nil))))))))))) (pg_name nd rfl (by first | exact Or.inl rfl | exact Or.inr rfl)) (sfs_cons (sf_set (i := 9) nd rfl (by first | exact Or.inl rfl | exact Or.inr rfl) pf_non)
  (sfs_cons (sf_try (i := 10) rfl rfl rfl nd rfl rfl ⟨rfl, rfl, .inl x.g_InvalidShop⟩ tk x.xt_InvalidShop (fun W pn xe tk => (sfs_one (sf_expr (pf_call (fn_text_of x) (lv.mono (by decide)) rfl x.g_text_of x.d_text_of.kp (b_text_of x) .nil CsD.nil tk (af_cons (pf_var (pv 8)) af_nil))))) (fun a pn => (sfs_one (sf_set (i := 9) nd rfl (by first | exact Or.inl rfl | exact Or.inr rfl) (pf_var (pv 10))))))
  (sfs_one (sf_if (tf_pw (twf_or (tf_cmp op_isN ok_gIsN (pf_var (pv 9)) pf_non (nomark _)) (twf_or1 (tf_cmp (op_neD lv.room.units) ok_gNe (pf_callB (call_reprQ lv) ok_gReprQ rfl x.n_repr PyProof.Rows.Boot.«repr» (af_cons (pf_xf (cs := xf_value) (pf_var (pv 9)) x.xf_value) af_nil)) (pf_callB (call_reprQ lv) ok_gReprQ rfl x.n_repr PyProof.Rows.Boot.«repr» (af_cons (pf_var (pv 8)) af_nil)) (nomark _))))) (sfs_one (sf_ret pf_bl)) sfs_nil))))))))))))))
  (sfs_cons (sf_set (i := 11) nd rfl (by first | exact Or.inl rfl | exact Or.inr rfl) (pf_call (fn_read_shop x) (lv.mono (by decide)) rfl x.g_read_shop x.d_read_shop.kp (b_read_shop x) .nil CsD.nil tk (af_cons pf_str af_nil)))
  (sfs_cons (sf_set (i := 5) nd rfl (by first | exact Or.inl rfl | exact Or.inr rfl) (pf_frz (of_lst (af_cons (pf_tup (af_cons pf_str (af_cons pf_str (af_cons pf_str (af_cons (pf_frz (of_lst (af_cons pf_str (af_cons pf_str af_nil)))) af_nil))))) (af_cons (pf_tup (af_cons pf_str (af_cons pf_str (af_cons pf_str (af_cons (pf_frz (of_lst (af_cons pf_str (af_cons pf_str (af_cons pf_str (af_cons pf_str (af_cons pf_str af_nil))))))) af_nil))))) af_nil)))))
  (sfs_cons (sf_if (tf_cmp (op2_neO lv.room.units x.eq_Shop (fn_Shop_eq x) (lv.mono (by decide)) (b_Shop_eq x)) ok_gNeO (pf_var (pv 11)) (pf_frz (of_make x.mk_Shop (fin_Shop_init x) (lv.mono (by decide)) rfl x.g_Shop (b_Shop_init x) .nil CsD.nil tk (af_cons (pf_var (pv 5)) af_nil))) (nomark _)) (sfs_one (sf_ret pf_bl)) sfs_nil)
  (sfs_one (sf_ret (pf_cmp (op2_eqO lv.room.units x.eq_Shop (fn_Shop_eq x) (lv.mono (by decide)) (b_Shop_eq x)) ok_gEqO (pf_call (fn_read_shop x) (lv.mono (by decide)) rfl x.g_read_shop x.d_read_shop.kp (b_read_shop x) .nil CsD.nil tk (af_cons (pf_bin op_add4 ok_gAdd (pf_bin op_mulS ok_gMulS pf_str pf_int) pf_str) af_nil)) (pf_frz (of_make x.mk_Shop (fin_Shop_init x) (lv.mono (by decide)) rfl x.g_Shop (b_Shop_init x) .nil CsD.nil tk (af_cons (pf_frz (of_lst (af_cons (pf_tup (af_cons pf_str (af_cons pf_str (af_cons pf_str (af_cons (pf_frz (of_lst (af_cons pf_str af_nil))) af_nil))))) af_nil))) af_nil))) (nomark _))))))))
end
end HT.Lk45
set_option maxRecDepth 100000
set_option maxHeartbeats 4000000
namespace HT.Lk45
open PySem PySem.Spec L2 HT.C
open PyProof.Rows hiding St
def df_Shop_eq : He.DefD := ⟨("Shop", some "__eq__"), "__eq__", "Shop.__eq__", defArgs s_Shop_eq, defBody s_Shop_eq, defScope s_Shop_eq, [], []⟩
def df_Shop_groups : He.DefD := ⟨("Shop", some "groups"), "groups", "Shop.groups", defArgs s_Shop_groups, defBody s_Shop_groups, defScope s_Shop_groups, [], []⟩
def df_is_name : He.DefD := ⟨("is_name", none), "is_name", "is_name", defArgs s_is_name, defBody s_is_name, defScope s_is_name, [], []⟩
def df_are_names : He.DefD := ⟨("are_names", none), "are_names", "are_names", defArgs s_are_names, defBody s_are_names, defScope s_are_names, [], []⟩
def df_is_group : He.DefD := ⟨("is_group", none), "is_group", "is_group", defArgs s_is_group, defBody s_is_group, defScope s_is_group, [], []⟩
def df_Shop_init : He.DefD := ⟨("Shop", some "__init__"), "__init__", "Shop.__init__", defArgs s_Shop_init, defBody s_Shop_init, defScope s_Shop_init, [], []⟩
def df__law_copied : He.DefD := ⟨("_law_copied", none), "_law_copied", "_law_copied", defArgs s__law_copied, defBody s__law_copied, defScope s__law_copied, [], []⟩
def df__law_cell : He.DefD := ⟨("_law_cell", none), "_law_cell", "_law_cell", defArgs s__law_cell, defBody s__law_cell, defScope s__law_cell, [], []⟩
def df__law_generator : He.DefD := ⟨("_law_generator", none), "_law_generator", "_law_generator", defArgs s__law_generator, defBody s__law_generator, defScope s__law_generator, [], []⟩
def df__law_hash : He.DefD := ⟨("_law_hash", none), "_law_hash", "_law_hash", defArgs s__law_hash, defBody s__law_hash, defScope s__law_hash, [], []⟩
def df__law_random : He.DefD := ⟨("_law_random", none), "_law_random", "_law_random", defArgs s__law_random, defBody s__law_random, defScope s__law_random, [], []⟩
def df__law_parts : He.DefD := ⟨("_law_parts", none), "_law_parts", "_law_parts", defArgs s__law_parts, defBody s__law_parts, defScope s__law_parts, [], []⟩
def df__law_spaced : He.DefD := ⟨("_law_spaced", none), "_law_spaced", "_law_spaced", defArgs s__law_spaced, defBody s__law_spaced, defScope s__law_spaced, [], []⟩
def df__law_written : He.DefD := ⟨("_law_written", none), "_law_written", "_law_written", defArgs s__law_written, defBody s__law_written, defScope s__law_written, [], []⟩
def df_group_of : He.DefD := ⟨("group_of", none), "group_of", "group_of", defArgs s_group_of, defBody s_group_of, defScope s_group_of, [], []⟩
def df_tokens_of : He.DefD := ⟨("tokens_of", none), "tokens_of", "tokens_of", defArgs s_tokens_of, defBody s_tokens_of, defScope s_tokens_of, [], []⟩
def df_read_shop : He.DefD := ⟨("read_shop", none), "read_shop", "read_shop", defArgs s_read_shop, defBody s_read_shop, defScope s_read_shop, [], []⟩
def df_check_shop : He.DefD := ⟨("check_shop", none), "check_shop", "check_shop", defArgs s_check_shop, defBody s_check_shop, defScope s_check_shop, [], []⟩
def df_text_of : He.DefD := ⟨("text_of", none), "text_of", "text_of", defArgs s_text_of, defBody s_text_of, defScope s_text_of, [], []⟩
def df_law : He.DefD := ⟨("law", none), "law", "law", defArgs s_law, defBody s_law, defScope s_law, [], []⟩
def dfs : List He.DefD := [df_Shop_eq, df_Shop_groups, df_is_name, df_are_names, df_is_group, df_Shop_init, df__law_copied, df__law_cell, df__law_generator, df__law_hash, df__law_random, df__law_parts, df__law_spaced, df__law_written, df_group_of, df_tokens_of, df_read_shop, df_check_shop, df_text_of, df_law]
abbrev sx_InvalidItem : Stmt := sub (top 3) 0
abbrev sx_InvalidList : Stmt := sub (top 2) 0
abbrev sx_InvalidShop : Stmt := sub (top 4) 0
abbrev sx_InvalidText : Stmt := sub (top 5) 0
def exs : List ExW := [some (("__init__" : Str), ("InvalidItem.__init__" : Str), defArgs sx_InvalidItem, FuncBody.stmts (defBody sx_InvalidItem), defScope sx_InvalidItem, mainGlobals, builtinsNs), some (("__init__" : Str), ("InvalidList.__init__" : Str), defArgs sx_InvalidList, FuncBody.stmts (defBody sx_InvalidList), defScope sx_InvalidList, mainGlobals, builtinsNs), some (("__init__" : Str), ("InvalidShop.__init__" : Str), defArgs sx_InvalidShop, FuncBody.stmts (defBody sx_InvalidShop), defScope sx_InvalidShop, mainGlobals, builtinsNs), some (("__init__" : Str), ("InvalidText.__init__" : Str), defArgs sx_InvalidText, FuncBody.stmts (defBody sx_InvalidText), defScope sx_InvalidText, mainGlobals, builtinsNs)]
def fb (K : PySem.W.Frag) : List Bool := [
  (He.Fa.glo "is_name").ok K,
  (He.Fa.glo "are_names").ok K,
  (He.Fa.glo "is_group").ok K,
  (He.Fa.glo "_law_copied").ok K,
  (He.Fa.glo "_law_cell").ok K,
  (He.Fa.glo "_law_generator").ok K,
  (He.Fa.glo "_law_hash").ok K,
  (He.Fa.glo "_law_random").ok K,
  (He.Fa.glo "_law_parts").ok K,
  (He.Fa.glo "_law_spaced").ok K,
  (He.Fa.glo "_law_written").ok K,
  (He.Fa.glo "group_of").ok K,
  (He.Fa.glo "tokens_of").ok K,
  (He.Fa.glo "read_shop").ok K,
  (He.Fa.glo "check_shop").ok K,
  (He.Fa.glo "text_of").ok K,
  (He.Fa.glo "law").ok K,
  (He.Fa.free "int").ok K,
  (He.Fa.free "isinstance").ok K,
  (He.Fa.free "len").ok K,
  (He.Fa.free "list").ok K,
  (He.Fa.free "max").ok K,
  (He.Fa.free "range").ok K,
  (He.Fa.free "repr").ok K,
  (He.Fa.free "set").ok K,
  (He.Fa.free "str").ok K,
  (He.Fa.free "super").ok K,
  (He.Fa.free "tuple").ok K,
  (He.Fa.glo "InvalidItem").ok K,
  (He.Fa.glo "InvalidList").ok K,
  (He.Fa.glo "InvalidShop").ok K,
  (He.Fa.glo "InvalidText").ok K,
  (He.Fa.glo "Shop").ok K,
  (He.Fa.mkr "Shop").ok K,
  (He.Fa.cls "Shop").ok K,
  (He.Fa.meth "Shop" "groups").ok K,
  eqB K (He.ga K "Shop"),
  obB K (He.ga K "Shop"),
  (ty7.all fun n => decide (PySem.W.kitOne K (.type n) (.ref (He.ga K "Shop")) = some false)),
  decide (PySem.W.kitOne K (.ref (He.ga K "Shop")) (.ref (He.ga K "Shop")) = some true),
  ((["Shop"] : List Str).all fun y => clsB K (He.ga K y) && He.eqO (PySem.W.findIn K (.ref (He.ga K y)) "rows") (some none)),
  (xf_value.all fun y => xfB K (He.ga K y) && He.eqO (PySem.W.findIn K (.ref (He.ga K y)) "value") (some none)),
  decide (PySem.W.exmOne K (.ref (He.ga K "InvalidItem")) (.ref (He.ga K "InvalidShop")) = some false),
  decide (PySem.W.exmOne K (.ref (He.ga K "InvalidList")) (.ref (He.ga K "InvalidShop")) = some false),
  decide (PySem.W.exmOne K (.ref (He.ga K "InvalidShop")) (.ref (He.ga K "InvalidShop")) = some true),
  decide (PySem.W.exmOne K (.ref (He.ga K "InvalidText")) (.ref (He.ga K "InvalidShop")) = some false),
  (He.Fa.str "BLANKS" " \n").ok K,
  (He.Fa.str "LETTERS" "abcdefghijklmnopqrstuvwxyz").ok K,
  (He.Fa.int "MOST_BOXES" 5).ok K,
  (He.Fa.int "MOST_GROUPS" 4).ok K,
  (He.Fa.int "MOST_LETTERS" 8).ok K,
  (He.Fa.str "SIGNS" ":/").ok K,
  exB P0 K "InvalidItem" "value",
  exB P0 K "InvalidList" "value",
  exB P0 K "InvalidShop" "value",
  exB P0 K "InvalidText" "value"]
abbrev AlH : Type := He.AlD × List ExW × Bool
def obsH (K : PySem.W.Frag) : AlH := (He.obsD [] dfs K, [exW K "InvalidItem", exW K "InvalidList", exW K "InvalidShop", exW K "InvalidText"], (fb K).all id)
def valH : AlH := (He.valD dfs, exs, true)
theorem facts {K : PySem.W.Frag} {h : Heap} {mg : Str → Option Value} (X : K.In h) (G : h.Ns mainGlobals mg) (c : obsH K = valH) : Nonempty (Fx K mg) := by
  have cd : He.SaysD [] dfs K := congrArg (fun z : AlH => z.1) c
  have ce : [exW K "InvalidItem", exW K "InvalidList", exW K "InvalidShop", exW K "InvalidText"] = exs := congrArg (fun z : AlH => z.2.1) c
  have hb : (fb K).all id = true := congrArg (fun z : AlH => z.2.2) c
  obtain ⟨fd_Shop_eq, D_Shop_eq⟩ := cd.def_ 0 (d := df_Shop_eq) rfl
  obtain ⟨fd_Shop_groups, D_Shop_groups⟩ := cd.def_ 1 (d := df_Shop_groups) rfl
  obtain ⟨fd_is_name, D_is_name⟩ := cd.def_ 2 (d := df_is_name) rfl
  obtain ⟨fd_are_names, D_are_names⟩ := cd.def_ 3 (d := df_are_names) rfl
  obtain ⟨fd_is_group, D_is_group⟩ := cd.def_ 4 (d := df_is_group) rfl
  obtain ⟨fd_Shop_init, D_Shop_init⟩ := cd.def_ 5 (d := df_Shop_init) rfl
  obtain ⟨fd__law_copied, D__law_copied⟩ := cd.def_ 6 (d := df__law_copied) rfl
  obtain ⟨fd__law_cell, D__law_cell⟩ := cd.def_ 7 (d := df__law_cell) rfl
  obtain ⟨fd__law_generator, D__law_generator⟩ := cd.def_ 8 (d := df__law_generator) rfl
  obtain ⟨fd__law_hash, D__law_hash⟩ := cd.def_ 9 (d := df__law_hash) rfl
  obtain ⟨fd__law_random, D__law_random⟩ := cd.def_ 10 (d := df__law_random) rfl
  obtain ⟨fd__law_parts, D__law_parts⟩ := cd.def_ 11 (d := df__law_parts) rfl
  obtain ⟨fd__law_spaced, D__law_spaced⟩ := cd.def_ 12 (d := df__law_spaced) rfl
  obtain ⟨fd__law_written, D__law_written⟩ := cd.def_ 13 (d := df__law_written) rfl
  obtain ⟨fd_group_of, D_group_of⟩ := cd.def_ 14 (d := df_group_of) rfl
  obtain ⟨fd_tokens_of, D_tokens_of⟩ := cd.def_ 15 (d := df_tokens_of) rfl
  obtain ⟨fd_read_shop, D_read_shop⟩ := cd.def_ 16 (d := df_read_shop) rfl
  obtain ⟨fd_check_shop, D_check_shop⟩ := cd.def_ 17 (d := df_check_shop) rfl
  obtain ⟨fd_text_of, D_text_of⟩ := cd.def_ 18 (d := df_text_of) rfl
  obtain ⟨fd_law, D_law⟩ := cd.def_ 19 (d := df_law) rfl
  have w_InvalidItem : exW K "InvalidItem" = some (("__init__" : Str), ("InvalidItem.__init__" : Str), defArgs sx_InvalidItem, FuncBody.stmts (defBody sx_InvalidItem), defScope sx_InvalidItem, mainGlobals, builtinsNs) := Option.some.inj (congrArg (fun l : List ExW => l[0]?) ce)
  obtain ⟨fx_InvalidItem, X_InvalidItem, Y_InvalidItem⟩ := exB_ok (nthB hb 52 rfl) w_InvalidItem rfl ⟨_, rfl, rfl⟩ rfl rfl rfl rfl rfl (by decide +kernel) rfl rfl ⟨_, fun env => rfl⟩
  have w_InvalidList : exW K "InvalidList" = some (("__init__" : Str), ("InvalidList.__init__" : Str), defArgs sx_InvalidList, FuncBody.stmts (defBody sx_InvalidList), defScope sx_InvalidList, mainGlobals, builtinsNs) := Option.some.inj (congrArg (fun l : List ExW => l[1]?) ce)
  obtain ⟨fx_InvalidList, X_InvalidList, Y_InvalidList⟩ := exB_ok (nthB hb 53 rfl) w_InvalidList rfl ⟨_, rfl, rfl⟩ rfl rfl rfl rfl rfl (by decide +kernel) rfl rfl ⟨_, fun env => rfl⟩
  have w_InvalidShop : exW K "InvalidShop" = some (("__init__" : Str), ("InvalidShop.__init__" : Str), defArgs sx_InvalidShop, FuncBody.stmts (defBody sx_InvalidShop), defScope sx_InvalidShop, mainGlobals, builtinsNs) := Option.some.inj (congrArg (fun l : List ExW => l[2]?) ce)
  obtain ⟨fx_InvalidShop, X_InvalidShop, Y_InvalidShop⟩ := exB_ok (nthB hb 54 rfl) w_InvalidShop rfl ⟨_, rfl, rfl⟩ rfl rfl rfl rfl rfl (by decide +kernel) rfl rfl ⟨_, fun env => rfl⟩
  have w_InvalidText : exW K "InvalidText" = some (("__init__" : Str), ("InvalidText.__init__" : Str), defArgs sx_InvalidText, FuncBody.stmts (defBody sx_InvalidText), defScope sx_InvalidText, mainGlobals, builtinsNs) := Option.some.inj (congrArg (fun l : List ExW => l[3]?) ce)
  obtain ⟨fx_InvalidText, X_InvalidText, Y_InvalidText⟩ := exB_ok (nthB hb 55 rfl) w_InvalidText rfl ⟨_, rfl, rfl⟩ rfl rfl rfl rfl rfl (by decide +kernel) rfl rfl ⟨_, fun env => rfl⟩
  exact ⟨{
    fd_Shop_eq := fd_Shop_eq, d_Shop_eq := D_Shop_eq,
    fd_Shop_groups := fd_Shop_groups, d_Shop_groups := D_Shop_groups,
    fd_is_name := fd_is_name, d_is_name := D_is_name,
    g_is_name := He.glo_ok X G (nthB hb 0 rfl),
    fd_are_names := fd_are_names, d_are_names := D_are_names,
    g_are_names := He.glo_ok X G (nthB hb 1 rfl),
    fd_is_group := fd_is_group, d_is_group := D_is_group,
    g_is_group := He.glo_ok X G (nthB hb 2 rfl),
    fd_Shop_init := fd_Shop_init, d_Shop_init := D_Shop_init,
    fd__law_copied := fd__law_copied, d__law_copied := D__law_copied,
    g__law_copied := He.glo_ok X G (nthB hb 3 rfl),
    fd__law_cell := fd__law_cell, d__law_cell := D__law_cell,
    g__law_cell := He.glo_ok X G (nthB hb 4 rfl),
    fd__law_generator := fd__law_generator, d__law_generator := D__law_generator,
    g__law_generator := He.glo_ok X G (nthB hb 5 rfl),
    fd__law_hash := fd__law_hash, d__law_hash := D__law_hash,
    g__law_hash := He.glo_ok X G (nthB hb 6 rfl),
    fd__law_random := fd__law_random, d__law_random := D__law_random,
    g__law_random := He.glo_ok X G (nthB hb 7 rfl),
    fd__law_parts := fd__law_parts, d__law_parts := D__law_parts,
    g__law_parts := He.glo_ok X G (nthB hb 8 rfl),
    fd__law_spaced := fd__law_spaced, d__law_spaced := D__law_spaced,
    g__law_spaced := He.glo_ok X G (nthB hb 9 rfl),
    fd__law_written := fd__law_written, d__law_written := D__law_written,
    g__law_written := He.glo_ok X G (nthB hb 10 rfl),
    fd_group_of := fd_group_of, d_group_of := D_group_of,
    g_group_of := He.glo_ok X G (nthB hb 11 rfl),
    fd_tokens_of := fd_tokens_of, d_tokens_of := D_tokens_of,
    g_tokens_of := He.glo_ok X G (nthB hb 12 rfl),
    fd_read_shop := fd_read_shop, d_read_shop := D_read_shop,
    g_read_shop := He.glo_ok X G (nthB hb 13 rfl),
    fd_check_shop := fd_check_shop, d_check_shop := D_check_shop,
    g_check_shop := He.glo_ok X G (nthB hb 14 rfl),
    fd_text_of := fd_text_of, d_text_of := D_text_of,
    g_text_of := He.glo_ok X G (nthB hb 15 rfl),
    fd_law := fd_law, d_law := D_law,
    g_law := He.glo_ok X G (nthB hb 16 rfl),
    n_int := He.free_ok X G (nthB hb 17 rfl),
    n_isinstance := He.free_ok X G (nthB hb 18 rfl),
    n_len := He.free_ok X G (nthB hb 19 rfl),
    n_list := He.free_ok X G (nthB hb 20 rfl),
    n_max := He.free_ok X G (nthB hb 21 rfl),
    n_range := He.free_ok X G (nthB hb 22 rfl),
    n_repr := He.free_ok X G (nthB hb 23 rfl),
    n_set := He.free_ok X G (nthB hb 24 rfl),
    n_str := He.free_ok X G (nthB hb 25 rfl),
    n_super := He.free_ok X G (nthB hb 26 rfl),
    n_tuple := He.free_ok X G (nthB hb 27 rfl),
    g_InvalidItem := He.glo_ok X G (nthB hb 28 rfl),
    g_InvalidList := He.glo_ok X G (nthB hb 29 rfl),
    g_InvalidShop := He.glo_ok X G (nthB hb 30 rfl),
    g_InvalidText := He.glo_ok X G (nthB hb 31 rfl),
    g_Shop := He.glo_ok X G (nthB hb 32 rfl),
    mk_Shop := He.mkr_ok (nthB hb 33 rfl),
    cls_Shop := He.cls_ok (nthB hb 34 rfl),
    meth_Shop_groups := He.meth_ok (nthB hb 35 rfl),
    eq_Shop := eqB_ok (nthB hb 36 rfl),
    is_Shop := isTb_own (nthB hb 37 rfl) (nthB hb 38 rfl) (nthB hb 39 rfl),
    is_list := ⟨(fun n r h => kit_ty h), (fun C r h => nomatch h), (fun C r h => nomatch h)⟩,
    is_str := ⟨(fun n r h => kit_ty h), (fun C r h => nomatch h), (fun C r h => nomatch h)⟩,
    is_tuple := ⟨(fun n r h => kit_ty h), (fun C r h => nomatch h), (fun C r h => nomatch h)⟩,
    f_rows := fun C hC => (fun h => (He.ba h).imp clsB_ok He.eqO_ok) (List.all_eq_true.mp (nthB hb 40 rfl) C hC),
    xf_value := fun C hC => (fun h => (He.ba h).imp xfB_ok He.eqO_ok) (List.all_eq_true.mp (nthB hb 41 rfl) C hC),
    xt_InvalidShop := (fun C b h => by
      unfold xt_InvalidShop at h
      split at h
      · rename_i e
        subst e
        cases h
        exact of_decide_eq_true (nthB hb 42 rfl)
      split at h
      · rename_i e
        subst e
        cases h
        exact of_decide_eq_true (nthB hb 43 rfl)
      split at h
      · rename_i e
        subst e
        cases h
        exact of_decide_eq_true (nthB hb 44 rfl)
      split at h
      · rename_i e
        subst e
        cases h
        exact of_decide_eq_true (nthB hb 45 rfl)
      cases h),
    fx_InvalidItem := fx_InvalidItem, ex_InvalidItem := X_InvalidItem, bx_InvalidItem := (by
      obtain ⟨_, _, _, _, _, _, _, _, hD, e⟩ := Y_InvalidItem
      refine bx_all hD fun t us its et hu hi => ?_
      rw [e, et]
      exact match us, hu, its, hi with | [_, _], _, [_], _ => ⟨_, rfl, rfl⟩),
    fx_InvalidList := fx_InvalidList, ex_InvalidList := X_InvalidList, bx_InvalidList := (by
      obtain ⟨_, _, _, _, _, _, _, _, hD, e⟩ := Y_InvalidList
      refine bx_all hD fun t us its et hu hi => ?_
      rw [e, et]
      exact match us, hu, its, hi with | [_, _], _, [_], _ => ⟨_, rfl, rfl⟩),
    fx_InvalidShop := fx_InvalidShop, ex_InvalidShop := X_InvalidShop, bx_InvalidShop := (by
      obtain ⟨_, _, _, _, _, _, _, _, hD, e⟩ := Y_InvalidShop
      refine bx_all hD fun t us its et hu hi => ?_
      rw [e, et]
      exact match us, hu, its, hi with | [_, _], _, [_], _ => ⟨_, rfl, rfl⟩),
    fx_InvalidText := fx_InvalidText, ex_InvalidText := X_InvalidText, bx_InvalidText := (by
      obtain ⟨_, _, _, _, _, _, _, _, hD, e⟩ := Y_InvalidText
      refine bx_all hD fun t us its et hu hi => ?_
      rw [e, et]
      exact match us, hu, its, hi with | [_, _], _, [_], _ => ⟨_, rfl, rfl⟩),
    k_BLANKS := (fun ⟨t, h⟩ => ⟨_, h, ⟨t, rfl⟩⟩) (He.str_ok X G (nthB hb 46 rfl)),
    k_LETTERS := (fun ⟨t, h⟩ => ⟨_, h, ⟨t, rfl⟩⟩) (He.str_ok X G (nthB hb 47 rfl)),
    k_MOST_BOXES := (fun ⟨t, h⟩ => ⟨_, h, ⟨t, rfl⟩⟩) (He.int_ok X G (nthB hb 48 rfl)),
    k_MOST_GROUPS := (fun ⟨t, h⟩ => ⟨_, h, ⟨t, rfl⟩⟩) (He.int_ok X G (nthB hb 49 rfl)),
    k_MOST_LETTERS := (fun ⟨t, h⟩ => ⟨_, h, ⟨t, rfl⟩⟩) (He.int_ok X G (nthB hb 50 rfl)),
    k_SIGNS := (fun ⟨t, h⟩ => ⟨_, h, ⟨t, rfl⟩⟩) (He.str_ok X G (nthB hb 51 rfl)) }⟩
abbrev R0 : PySem.W.OpenRow := PySem.W.OpenLaw.row PySem.Challenge.rw_tickcounts_k45_shops_written_and_read
def mskM (as : List Addr) : Nat := as.foldl (fun m a => Nat.lor m (Nat.shiftLeft 1 a)) 0
def dedM : List Addr → Nat → List Addr
  | [], _ => []
  | a :: r, m => match Nat.land (Nat.shiftRight m a) 1 with
    | 0 => a :: dedM r (Nat.lor m (Nat.shiftLeft 1 a))
    | _ + 1 => dedM r m
def nwM (g : Addr → Option Obj) (fr : List Addr) (m : Nat) : List Addr := dedM (fr.flatMap fun a => match g a with
  | some o => He.refsD o
  | none => []) m
def asM (g : Addr → Option Obj) : Nat → List Addr → List Addr → List Addr
  | 0, as, _ => as
  | n + 1, as, fr => asM g n (as ++ nwM g fr (mskM as)) (nwM g fr (mskM as))
def asH (g : Addr → Option Obj) (n : Nat) : List Addr := asM g n [mainGlobals, cStatics] [mainGlobals, cStatics]
def obsG (g : Addr → Option Obj) : AlH := obsH (He.frG g (asH g 5))
def hk : PySem.W.Hook where
  α := AlH
  obs := fun s => obsG s.heap.get?
  val := fun _ => valH
  says := fun _ h => ∃ K : PySem.W.Frag, K.In h ∧ obsH K = valH
  of := fun _ _ e => ⟨_, He.frG_in, e⟩
  keeps := fun _ _ _ ⟨K, hK, c⟩ k => ⟨K, PySem.W.Frag.In.keeps hK k, c⟩
def ob (s : PySem.W.SharedT) : AlH := obsG (HandSHeadRun.getT s)
theorem ob_eq (s : PySem.W.SharedT) : ob s = hk.obs s.abs := by
  have e : HandSHeadRun.getT s = s.abs.heap.get? := funext (HandSHeadRun.getT_eq s)
  show obsG (HandSHeadRun.getT s) = obsG s.abs.heap.get?
  rw [e]
abbrev loose : List PySem.Str := "TickError" :: "InvalidList" :: "InvalidItem" :: "InvalidShop" :: "InvalidText" :: "UnknownName" :: "is_name" :: "are_names" :: "is_group" :: "Shop" :: "number_of" :: "check_shop" :: "text_of" :: "tokens_of" :: "group_of" :: "read_shop" :: "_law_cell" :: "_law_hash" :: "_law_generator" :: "_law_random" :: "_law_parts" :: "_law_copied" :: "_law_written" :: "_law_spaced" :: "LETTERS" :: "MOST_LETTERS" :: "MOST_GROUPS" :: "MOST_BOXES" :: "BLANKS" :: "SIGNS" :: []
section
open PySem.W PySem.Calls HandSHeadRun
noncomputable abbrev lastS (w : World) (os : OsState) : Option SharedT := endF (stepQ (denQ tabQ) R0.prog w) 8000 R0.prog w os
theorem run_of {α β γ δ ε : Type} {o : Option α} {f : α → Bool} {g : α → β} {h : α → γ × δ × ε} {a : Bool} {b : β} {v : γ × δ × ε} (hA : o.map f = some a) (hB : o.map g = some b) (hC : o.map (fun s => (h s).1) = some v.1) (hD : o.map (fun s => (h s).2.1) = some v.2.1) (hE : o.map (fun s => (h s).2.2) = some v.2.2) :
    o.map (fun s => (f s, g s, h s)) = some (a, b, v) := by
  cases o with
  | none => cases hA
  | some x => exact congrArg some (Prod.ext (Option.some.inj hA) (Prod.ext (Option.some.inj hB) (Prod.ext (Option.some.inj hC) (Prod.ext (Option.some.inj hD) (Option.some.inj hE)))))
set_option maxHeartbeats 0 in
theorem runA (w : World) (os : OsState) : (lastS w os).map (fun s => looksF R0.prog (boot_heap w.params) s.abs) = some true := by kernel_rfl
set_option maxHeartbeats 0 in
theorem runB (w : World) (os : OsState) : (lastS w os).map (fun s => seenQ (view R0.prog [35]) loose (importedModules R0.prog.main.body) (fun s => xlAt (view R0.prog [35]) [] s && recOk R0.toRowW.records s) s.abs) = some (openGood (view R0.prog [35]) loose) := by kernel_rfl
set_option maxHeartbeats 0 in
theorem runC (w : World) (os : OsState) : (lastS w os).map (fun s => (ob s).1) = some valH.1 := by kernel_rfl
set_option maxHeartbeats 0 in
theorem runD (w : World) (os : OsState) : (lastS w os).map (fun s => (ob s).2.1) = some valH.2.1 := by kernel_rfl
set_option maxHeartbeats 0 in
theorem runE (w : World) (os : OsState) : (lastS w os).map (fun s => (ob s).2.2) = some valH.2.2 := by kernel_rfl
theorem run (w : World) : RunEq R0 (view R0.prog [35]) hk ob 8000 loose w := by
  intro os
  exact run_of (o := lastS w os) (h := ob) (v := valH) (runA w os) (runB w os) (runC w os) (runD w os) (runE w os)
end
end HT.Lk45
set_option maxRecDepth 100000
set_option maxHeartbeats 1000000
namespace HT.C
open PySem PySem.Spec L2
open PyProof.Rows hiding St
theorem pure_ap {α : Type} (a : α) (S : Sto) : (pure a : Cm α) S = .ok a S := rfl
theorem bnd_ok {α β : Type} (a : α) (S : Sto) (f : α → Cm β) : (R.ok a S).bnd f = f a S := rfl
theorem seq_nx {F G : FS} {env e' : Env} {S S' : Sto} (h : F env S = .ok (.nx e') S') : sSeq F G env S = G e' S' := by
  unfold sSeq
  rw [h]
theorem seq_xc {F G : FS} {env e' : Env} {S S' : Sto} {C : Str} {fs : List (Str × D)} (h : F env S = .ok (.xc e' C fs) S') : sSeq F G env S = .ok (.xc e' C fs) S' := by
  unfold sSeq
  rw [h]
theorem mk_rt {np n : Nat} {F : FS} {ds : List D} {env : Env} {S S' : Sto} {d : D} (h : ds.length = np) (he : ds.map .val ++ List.replicate (n - np) .un = env) (hF : F env S = .ok (.rt d) S') : mkM np n F ds S = .ok d S' := by
  subst h
  subst he
  unfold mkM
  simp [hF]
theorem mk_nx {np n : Nat} {F : FS} {ds : List D} {env e' : Env} {S S' : Sto} (h : ds.length = np) (he : ds.map .val ++ List.replicate (n - np) .un = env) (hF : F env S = .ok (.nx e') S') : mkM np n F ds S = .ok .non S' := by
  subst h
  subst he
  unfold mkM
  simp [hF]
theorem mk_xc {np n : Nat} {F : FS} {ds : List D} {env e' : Env} {S S' : Sto} {C : Str} {fs : List (Str × D)} (h : ds.length = np) (he : ds.map .val ++ List.replicate (n - np) .un = env) (hF : F env S = .ok (.xc e' C fs) S') : mkM np n F ds S = .exc C fs S' := by
  subst h
  subst he
  unfold mkM
  simp [hF]
theorem frm_cl {M : List D → Cm D} {ds : List D} {S : Sto} {d : D} (hc : clL ds = true) (e : M ds [] = .ok d []) : frm M ds S = .ok d S := by
  show (if clL ds = true then _ else _) = _
  rw [if_pos hc, e]
  rfl
theorem frm_exc {M : List D → Cm D} {ds : List D} {S : Sto} {C : Str} {fs : List (Str × D)} (hc : clL ds = true) (e : M ds [] = .exc C fs []) : frm M ds S = .exc C fs S := by
  show (if clL ds = true then _ else _) = _
  rw [if_pos hc, e]
  rfl
theorem frm_cell {M : List D → Cm D} {ds : List D} {S T : Sto} {d d' : D} (hc : clL ds = true) (e : M ds [] = .ok d T) (hT : T ≠ []) (hm : melt0 (meltC T 0 6) d = some d') : frm M ds S = .ok d' S := by
  have hl : ¬ T.length = ([] : Sto).length := fun h => hT (List.eq_nil_of_length_eq_zero h)
  have e2 : mltR [] (.ok d T) = .ok d' [] := by
    show (if T.length = ([] : Sto).length then _ else _) = _
    rw [if_neg hl]
    show (match melt0 (meltC T 0 6) d, mkeep (meltC T 0 6) [] T with
        | some d', some S'' => R.ok d' S''
        | _, _ => .stuck) = _
    rw [hm]
    rfl
  show (if clL ds = true then _ else _) = _
  rw [if_pos hc, e, e2]
  rfl
theorem frmI_cell {M : List D → Cm CO} {ds : List D} {S T : Sto} {d d' : CO} (hc : clL ds = true) (e : M ds [] = .ok d T) (hT : T ≠ []) (hm : meltCO (meltC T 0 6) d = some d') : frmI M ds S = .ok d' S := by
  have hl : ¬ T.length = ([] : Sto).length := fun h => hT (List.eq_nil_of_length_eq_zero h)
  have e2 : mltO [] (.ok d T) = .ok d' [] := by
    show (if T.length = ([] : Sto).length then _ else _) = _
    rw [if_neg hl]
    show (match meltCO (meltC T 0 6) d, mkeep (meltC T 0 6) [] T with
        | some d', some S'' => R.ok d' S''
        | _, _ => .stuck) = _
    rw [hm]
    rfl
  show (if clL ds = true then _ else _) = _
  rw [if_pos hc, e, e2]
  rfl
mutual
theorem melt_cl (f : Nat → Option D) : ∀ d : D, clD d = true → melt0 f d = some d
  | .lst ds, h => by show (meltL f ds).map D.lst = _; rw [meltL_cl f ds h]; rfl
  | .klst ds, h => by show (meltL f ds).map D.klst = _; rw [meltL_cl f ds h]; rfl
  | .tup ds, h => by show (meltL f ds).map D.tup = _; rw [meltL_cl f ds h]; rfl
  | .obj C fs, h => by show (meltF f fs).map (D.obj C) = _; rw [meltF_cl f fs h]; rfl
  | .exn C fs, h => by show (meltF f fs).map (D.exn C) = _; rw [meltF_cl f fs h]; rfl
  | .dK kvs, h => by show (meltK f kvs).map D.dK = _; rw [meltK_cl f kvs h]; rfl
  | .dT kvs, h => by show (meltT f kvs).map D.dT = _; rw [meltT_cl f kvs h]; rfl
  | .cell _, h => by cases h
  | .non, _ => rfl
  | .bl _, _ => rfl
  | .int _, _ => rfl
  | .str _, _ => rfl
  | .glob _, _ => rfl
  | .ty _, _ => rfl
theorem meltL_cl (f : Nat → Option D) : ∀ d : List D, clL d = true → meltL f d = some d
  | [], _ => rfl
  | d :: ds, h => by show (match melt0 f d, meltL f ds with | some a, some b => some (a :: b) | _, _ => none) = _; rw [melt_cl f d (bAnd h).1, meltL_cl f ds (bAnd h).2]
theorem meltF_cl (f : Nat → Option D) : ∀ d : List (Str × D), clF d = true → meltF f d = some d
  | [], _ => rfl
  | (x, d) :: ds, h => by show (match melt0 f d, meltF f ds with | some a, some b => some ((x, a) :: b) | _, _ => none) = _; rw [melt_cl f d (bAnd h).1, meltF_cl f ds (bAnd h).2]
theorem meltK_cl (f : Nat → Option D) : ∀ d : List (Key × D), clK d = true → meltK f d = some d
  | [], _ => rfl
  | (x, d) :: ds, h => by show (match melt0 f d, meltK f ds with | some a, some b => some ((x, a) :: b) | _, _ => none) = _; rw [melt_cl f d (bAnd h).1, meltK_cl f ds (bAnd h).2]
theorem meltT_cl (f : Nat → Option D) : ∀ d : List (List Key × D), clT d = true → meltT f d = some d
  | [], _ => rfl
  | (x, d) :: ds, h => by show (match melt0 f d, meltT f ds with | some a, some b => some ((x, a) :: b) | _, _ => none) = _; rw [melt_cl f d (bAnd h).1, meltT_cl f ds (bAnd h).2]
end
theorem clL_map {α : Type} (f : α → D) (h : ∀ a, clD (f a) = true) : ∀ l : List α, clL (l.map f) = true
  | [] => rfl
  | a :: l => by show (clD (f a) && clL (l.map f)) = true; rw [h a, clL_map f h l]; rfl
theorem melt_top {c : CO} {T : Sto} {k : Nat} {m : Nat} (hk : T[k]? = some c) (hc : meltCO (meltC T 0 m) c = some c) : melt0 (meltC T 0 (m + 1)) (.cell k) = some (frzD c) := by
  have e : melt0 (meltC T 0 (m + 1)) (.cell k) = meltC T 0 (m + 1) k := rfl
  rw [e]
  unfold meltC
  rw [if_neg (Nat.not_lt_zero k), hk]
  dsimp only
  rw [hc]
  rfl
theorem loop_cons {b : Bd} {src : Src} {body : FS} {d : D} {r : List D} {e e1 e2 : Env} {S S2 : Sto} (hc : chk src S = true) (h1 : bindE b d e = some e1) (h2 : body e1 S = .ok (.nx e2) S2) : loopD b src body (d :: r) e S = loopD b src body r e2 S2 := by
  conv => lhs; unfold loopD
  rw [if_pos hc, h1]
  dsimp only
  rw [h2]
theorem loop_nil {b : Bd} {src : Src} {body : FS} {e : Env} {S : Sto} (hc : chk src S = true) : loopD b src body [] e S = .ok (.nx e) S := by
  unfold loopD
  rw [if_pos hc]
theorem comp_pure {b : Bd} {src : Src} {Ft : Env → Cm Bool} {Fe : FE} {env0 : Env} {S : Sto} (hc : chk src S = true) (sel : D → Option D) : ∀ (ds : List D),
    (∀ d ∈ ds, ∃ e1, bindE b d env0 = some e1 ∧ ((Ft e1 S = .ok false S ∧ sel d = none) ∨ ∃ y, Ft e1 S = .ok true S ∧ Fe e1 S = .ok y S ∧ sel d = some y)) → compL b src Ft Fe env0 ds S = some (ds.filterMap sel, S)
  | [], _ => by unfold compL; rw [if_pos hc]; rfl
  | d :: r, h => by
    have ih := comp_pure (b := b) (src := src) (Ft := Ft) (Fe := Fe) (env0 := env0) hc sel r fun x hx => h x (List.mem_cons_of_mem _ hx)
    obtain ⟨e1, h1, h2⟩ := h d List.mem_cons_self
    unfold compL
    rw [if_pos hc, h1]
    dsimp only
    rcases h2 with ⟨q1, q2⟩ | ⟨y, q1, q2, q3⟩
    · rw [q1]
      show compL b src Ft Fe env0 r S = _
      rw [ih, List.filterMap_cons, q2]
    · rw [q1]
      show (match nox (Fe e1 S) with
          | none => none
          | some (y, S2) => match compL b src Ft Fe env0 r S2 with
            | none => none
            | some (ys, S3) => some (y :: ys, S3)) = _
      rw [q2]
      show (match compL b src Ft Fe env0 r S with
            | none => none
            | some (ys, S3) => some (y :: ys, S3)) = _
      rw [ih, List.filterMap_cons, q3]
theorem sel_none {l : List D} {sel : D → Option D} (h : ∀ d ∈ l, sel d = none) : l.filterMap sel = [] := by
  induction l with
  | nil => rfl
  | cons a l ih => rw [List.filterMap_cons, h a List.mem_cons_self]; exact ih fun d hd => h d (List.mem_cons_of_mem _ hd)
theorem sl5 {n : Nat} (h : n ≤ 16000) : n ≤ sizeLine := by rw [sizeLine_eq]; omega
end HT.C
set_option maxRecDepth 100000
set_option maxHeartbeats 1000000
namespace HT.C
open PySem PySem.Spec L2
open PyProof.Rows hiding St
section
variable {env e1 : Env} {S S1 S2 S3 : Sto} {F G Fa Fb Fc : FE} {x y z d : D} {r : R D}
theorem ev_var {i : Nat} (h : env[i]? = some (.val d)) : fVar i env S = .ok d S := by unfold fVar; rw [h]; rfl
theorem ev_c {d : D} {S : Sto} : (pure d : Cm D) S = .ok d S := rfl
theorem ev_f2 {g : D → D → Cm D} (ha : Fa env S = .ok x S1) (hb : Fb env S1 = .ok y S2) (hg : g x y S2 = r) : f2 g Fa Fb env S = r := by unfold f2; rw [ha, bnd_ok, hb, bnd_ok]; exact hg
theorem ev_f1 {g : D → Cm D} (ha : Fa env S = .ok x S1) (hg : g x S1 = r) : f1 g Fa env S = r := by unfold f1; rw [ha, bnd_ok]; exact hg
theorem ev_fB {b : Bool} (h : F env S = .ok (.bl b) S1) : fB F env S = .ok b S1 := by unfold fB; rw [h]; rfl
theorem ev_notT {T : Env → Cm Bool} {b : Bool} (h : T env S = .ok b S1) : fNotT T env S = .ok (!b) S1 := by unfold fNotT; rw [h]; rfl
theorem ev_orT_f {T U : Env → Cm Bool} {r : R Bool} (h : T env S = .ok false S1) (h2 : U env S1 = r) : fOrT T U env S = r := by unfold fOrT; rw [h, bnd_ok]; exact h2
theorem ev_andT_f {T U : Env → Cm Bool} (h : T env S = .ok false S1) : fAndT T U env S = .ok false S1 := by unfold fAndT; rw [h, bnd_ok]; rfl
theorem ev_andT_t {T U : Env → Cm Bool} {r : R Bool} (h : T env S = .ok true S1) (h2 : U env S1 = r) : fAndT T U env S = r := by unfold fAndT; rw [h, bnd_ok]; exact h2
theorem ev_andV_t (h : F env S = .ok (.bl true) S1) (h2 : G env S1 = r) : fAndV F G env S = r := by unfold fAndV; rw [h, bnd_ok]; exact h2
theorem ev_ifT_t {α : Type} {T : Env → Cm Bool} {A B : Env → Cm α} {r : R α} (h : T env S = .ok true S1) (h2 : A env S1 = r) : fIfT T A B env S = r := by unfold fIfT; rw [h, bnd_ok]; exact h2
theorem ev_ifT_f {α : Type} {T : Env → Cm Bool} {A B : Env → Cm α} {r : R α} (h : T env S = .ok false S1) (h2 : B env S1 = r) : fIfT T A B env S = r := by unfold fIfT; rw [h, bnd_ok]; exact h2
theorem ev_nil : aNil env S = .ok [] S := rfl
theorem ev_cons {Fr : Env → Cm (List D)} {xs : List D} (ha : Fa env S = .ok x S1) (hr : Fr env S1 = .ok xs S2) : aCons Fa Fr env S = .ok (x :: xs) S2 := by unfold aCons; rw [ha, bnd_ok, hr]; rfl
theorem ev_args {g : List D → Cm D} {Fr : Env → Cm (List D)} {xs : List D} (ha : Fr env S = .ok xs S1) (hg : g xs S1 = r) : fArgs g Fr env S = r := by unfold fArgs; rw [ha, bnd_ok]; exact hg
theorem ev_call {M : List D → Cm D} {ds : List D} {Fr : Env → Cm (List D)} {xs : List D} (ha : Fr env S = .ok xs S1) (hg : M (xs ++ ds) S1 = r) : fCall M ds Fr env S = r := by unfold fCall; rw [ha, bnd_ok]; exact hg
theorem ev_frz {Fo : Env → Cm CO} {c : CO} (h : Fo env S = .ok c S1) : fFrz Fo env S = .ok (frzD c) S1 := by unfold fFrz; rw [h]; rfl
theorem ev_cell {Fo : Env → Cm CO} {c : CO} (h : Fo env S = .ok c S1) : fCell Fo env S = .ok (.cell S1.length) (S1 ++ [c]) := by unfold fCell; rw [h]; rfl
theorem ev_lst {Fr : Env → Cm (List D)} {xs : List D} (ha : Fr env S = .ok xs S1) (hl : xs.length ≤ 16000 := by first | decide | simp) : oLst Fr env S = .ok (.lst xs) S1 := by unfold oLst; rw [ha, bnd_ok]; exact if_pos (sl5 hl)
theorem ev_tup {Fr : Env → Cm (List D)} {xs : List D} (ha : Fr env S = .ok xs S1) (hl : xs.length ≤ 16000 := by first | decide | simp) : fTup Fr env S = .ok (.tup xs) S1 := by unfold fTup; rw [ha, bnd_ok]; exact if_pos (sl5 hl)
theorem ev_make {M : List D → Cm CO} {ds : List D} {Fr : Env → Cm (List D)} {xs : List D} {r : R CO} (ha : Fr env S = .ok xs S1) (hg : M (xs ++ ds) S1 = r) : oMake M ds Fr env S = r := by unfold oMake; rw [ha, bnd_ok]; exact hg
theorem ev_one {g : D → Cm CO} {Fr : Env → Cm (List D)} {r : R CO} (ha : Fr env S = .ok [x] S1) (hg : g x S1 = r) : oOne g Fr env S = r := by unfold oOne; rw [ha, bnd_ok]; exact hg
theorem ev_lc {vs : List Nat} {b : Bd} {Gi : Env → Cm (List D × Src)} {Ft : Env → Cm Bool} {Fe : FE} {ds ys : List D} {src : Src} (hi : Gi env S = .ok (ds, src) S1) (hc : compL b src Ft Fe (wipeE env vs) ds S1 = some (ys, S2)) (hl : ys.length ≤ 16000) : oLc vs b Gi Ft Fe env S = .ok (.lst ys) S2 := by
  unfold oLc
  rw [hi, bnd_ok]
  dsimp only
  rw [hc]
  show (if (([] : List D) ++ ys).length ≤ sizeLine then R.ok (CO.lst ([] ++ ys)) S2 else .stuck) = _
  rw [List.nil_append]
  exact if_pos (sl5 hl)
theorem ev_meth {C m : Str} {M : List D → Cm D} {ds : List D} {Fo : FE} {Fr : Env → Cm (List D)} {o : D} {fs : List (Str × D)} {xs : List D} (ho : Fo env S = .ok o S1) (hc : asCO S1 o = some (.ins C fs)) (hm : fs.lookup m = none) (ha : Fr env S1 = .ok xs S2) (hr : M (o :: (xs ++ ds)) S2 = r) : fMeth C m M ds Fo Fr env S = r := by
  unfold fMeth
  rw [ho, bnd_ok, hc]
  dsimp only
  rw [if_pos ⟨rfl, hm⟩, ha, bnd_ok]
  exact hr
theorem ev_set {i : Nat} (h : F env S = .ok d S1) : sSet i F env S = .ok (.nx (env.set i (.val d))) S1 := by unfold sSet; rw [h]; rfl
theorem ev_ret (h : F env S = .ok d S1) : sRet F env S = .ok (.rt d) S1 := by unfold sRet; rw [h]; rfl
theorem ev_expr (h : F env S = .ok d S1) : sExpr F env S = .ok (.nx env) S1 := by unfold sExpr; rw [h]; rfl
theorem ev_expr_xc {C : Str} {fs : List (Str × D)} (h : F env S = .exc C fs S1) : sExpr F env S = .ok (.xc env C fs) S1 := by unfold sExpr; rw [h]; rfl
theorem ev_if_t {T : Env → Cm Bool} {A B : FS} {r : R Fl} (h : T env S = .ok true S1) (h2 : A env S1 = r) : sIf T A B env S = r := by unfold sIf; rw [h]; exact h2
theorem ev_if_f {T : Env → Cm Bool} {A B : FS} {r : R Fl} (h : T env S = .ok false S1) (h2 : B env S1 = r) : sIf T A B env S = r := by unfold sIf; rw [h]; exact h2
theorem ev_skip {T : Env → Cm Bool} {A : FS} (h : T env S = .ok false S1) : sIf T A sNil env S = .ok (.nx env) S1 := ev_if_f h rfl
theorem ev_for {b : Bd} {Gi : Env → Cm (List D × Src)} {body : FS} {ds : List D} {src : Src} {r : R Fl} (h : Gi env S = .ok (ds, src) S1) (hs : src.isHid = false) (hl : loopD b src body ds env S1 = r) : sFor b Gi body env S = r := by
  unfold sFor
  rw [h]
  show (if src.isHid = true then _ else _) = _
  rw [hs]
  exact hl
theorem ev_seq {A B : FS} {e' : Env} {r : R Fl} (h : A env S = .ok (.nx e') S1) (h2 : B e' S1 = r) : sSeq A B env S = r := (seq_nx h).trans h2
theorem ev_raise {C f : Str} {Fr : Env → Cm (List D)} (h : Fr env S = .ok [d] S1) : sRaise (fMk C f [] Fr) env S = .ok (.xc env C [(f, d)]) S1 := by unfold sRaise fMk; rw [h]; rfl
theorem ev_seqL {ds : List D} (h : F env S = .ok (.lst ds) S1) : iSeq F env S = .ok (ds, .fz) S1 := by unfold iSeq; rw [h]; rfl
theorem ev_seqT {ds : List D} (h : F env S = .ok (.tup ds) S1) : iSeq F env S = .ok (ds, .fz) S1 := by unfold iSeq; rw [h]; rfl
theorem chk_cl {k : Nat} {c : CO} (hk : S[k]? = some c) : chk (.cl k c) S = true := by
  show (match S[k]? with | some c' => eqCO c c' | none => false) = true
  rw [hk]
  exact eqCO_rfl _
theorem asL_cell {k : Nat} {ds : List D} (hk : S[k]? = some (.lst ds)) : asL S (.cell k) = some ds := by
  show (match S[k]? with | some (.lst ds) => some ds | _ => none) = _
  rw [hk]
theorem lstAt_cell {k : Nat} {ds : List D} (hk : S[k]? = some (.lst ds)) : lstAt S k = some ds := by unfold lstAt; rw [hk]
theorem ev_len {ds : List D} (hs : ∀ z, x ≠ .str z) (h : asQ2 S x = some ds) : a1 gLen [x] S = .ok (.int ds.length) S := by
  show gLen x S = _
  unfold gLen
  split
  · exact absurd rfl (hs _)
  · rw [h]
theorem ev_tupleL {ds : List D} (hs : ∀ z, x ≠ .tup z) (h : asL S x = some ds) : a1 gTuple [x] S = .ok (.tup ds) S := by
  show gTuple x S = _
  unfold gTuple
  split
  · exact absurd rfl (hs _)
  · rw [h]
theorem ev_isi {tb : Ty → Option Bool} {n : String} {t : Ty} {b : Bool} (ht : tyD S x = some t) (hb : tb t = some b) : a2 (gIsi tb (.ty n)) [x, .ty n] S = .ok (.bl b) S := by
  show gIsi tb (.ty n) x (.ty n) S = _
  unfold gIsi
  rw [if_pos (by show (n == n) = true; exact beq_self_eq_true n), ht]
  dsimp only
  rw [hb]
theorem ev_appC {i k : Nat} {ds : List D} (hv : env[i]? = some (.val (.cell k))) (h0 : (lstAt S k).isSome = true) (h : F env S = .ok d S1) (hk : S1[k]? = some (.lst ds)) (hl : ds.length < 16000) : sApp i F env S = .ok (.nx env) (S1.set k (.lst (ds ++ [d]))) := by
  unfold sApp
  rw [hv]
  dsimp only
  rw [if_pos h0, h]
  show appC env k d S1 = _
  unfold appC
  rw [lstAt_cell hk]
  dsimp only
  rw [if_pos (Nat.lt_of_lt_of_le hl (sl5 (Nat.le_refl _)))]
theorem at0 {a : D} {l : List D} : atI (a :: l) 0 = some a := atI_nat (j := 0) rfl
end
end HT.C
set_option maxRecDepth 100000
set_option maxHeartbeats 1000000
namespace HT.C
open PySem PySem.Spec L2
open PyProof.Rows hiding St
structure Gp where
  nm : Str
  md : Str
  br : Str
  bx : List Str
def itF (g : Gp) : D := .tup [.str g.nm, .str g.md, .str g.br, .lst (g.bx.map .str)]
def rowD (g : Gp) : D := .tup [.str g.nm, .str g.md, .str g.br, .tup (g.bx.map .str)]
def shopD (ps : List Gp) : D := .obj "Shop" [("rows", .tup (ps.map rowD))]
theorem cl_strs (l : List Str) : clL (l.map .str) = true := clL_map _ (fun _ => rfl) l
theorem cl_itF (g : Gp) : clD (itF g) = true := by
  show (true && (true && (true && (clL (g.bx.map .str) && true)))) = true
  rw [cl_strs]
  rfl
theorem cl_rowD (g : Gp) : clD (rowD g) = true := by
  show (true && (true && (true && (clL (g.bx.map .str) && true)))) = true
  rw [cl_strs]
  rfl
theorem cl_its (l : List Gp) : clL (l.map itF) = true := clL_map _ cl_itF l
theorem cl_rows (l : List Gp) : clL (l.map rowD) = true := clL_map _ cl_rowD l
theorem cl_shop (l : List Gp) : clD (shopD l) = true := by
  show (clL (l.map rowD) && true) = true
  rw [cl_rows]
  rfl
def grpW : List Str := ["hue", "size", "make", "x", "huex", "sizex", "makex", "xx"]
def boxT : List (List Str) := [["red", "blue", "tan", "grey", "s"], ["s", "m", "l", "xl", "hue"], ["ada", "bo", "cy", "m", "ed"], ["a", "b", "red", "d", "abcdefgh"]]
def boxT3 : List (List Str) := [["s", "m", "xl"], ["ada", "bo", "red"]]
def boxT2 : List (List Str) := boxT ++ boxT3
def boxB : List (List Str) := boxT2.flatMap fun l => [l.take 1, l.take 2, l.take 3, l.take 4, l.take 5]
def boxP : List (List Str) := boxB ++ boxB.map List.reverse
def boxW : List (List Str) := boxP ++ boxP.map List.reverse ++ boxP.map (fun l => ("z" : Str) :: l.drop 1) ++ [[("z" : Str)]]
def isT (r : R D) : Bool := match r with
  | .ok (.bl true) [] => true
  | _ => false
theorem isT_ok {r : R D} (h : isT r = true) : r = .ok (.bl true) [] := by
  unfold isT at h
  split at h
  · rfl
  · cases h
theorem frm_T {M : List D → Cm D} {ds : List D} {S : Sto} (hc : clL ds = true) (h : isT (M ds []) = true) : frm M ds S = .ok (.bl true) S := frm_cl hc (isT_ok h)
theorem nm_all : (grpW.all fun x => isT (M_is_name [.str x] [])) = true := by decide +kernel
theorem nm_ok {x : Str} (h : x ∈ grpW) (S : Sto) : N_is_name [.str x] S = .ok (.bl true) S := frm_T rfl (List.all_eq_true.mp nm_all x h)
theorem bx_all : (boxW.all fun l => isT (M_are_names [.lst (l.map .str)] [])) = true := by decide +kernel
theorem bx_ok {l : List Str} (h : l ∈ boxW) (S : Sto) : N_are_names [.lst (l.map .str)] S = .ok (.bl true) S := frm_T (by show (clL (l.map .str) && true) = true; rw [cl_strs]; rfl) (List.all_eq_true.mp bx_all l h)
theorem bx_len {l : List Str} (h : l ∈ boxW) : 1 ≤ l.length ∧ l.length ≤ 5 := by
  have q : (boxW.all fun l => decide (1 ≤ l.length ∧ l.length ≤ 5)) = true := by decide +kernel
  exact of_decide_eq_true (List.all_eq_true.mp q l h)
structure GpOk (g : Gp) : Prop where
  nm : g.nm ∈ grpW
  md : g.md = "or" ∨ g.md = "and"
  br : g.br = "one" ∨ g.br = "many"
  bx : g.bx ∈ boxW
theorem ord_le {i j : Int} (S : Sto) : gOrd (fun i j => decide (i ≤ j)) (.int i) (.int j) S = .ok (.bl (decide (i ≤ j))) S := rfl
theorem ch_le {a b c : Int} {Fa Fb Fc : FE} {env : Env} {S : Sto} (ha : Fa env S = .ok (.int a) S) (hb : Fb env S = .ok (.int b) S) (hc : Fc env S = .ok (.int c) S) (h1 : a ≤ b) (h2 : b ≤ c) :
    fChain (gOrd (fun i j => decide (i ≤ j))) (gOrd (fun i j => decide (i ≤ j))) Fa Fb Fc env S = .ok (.bl true) S := by
  unfold fChain
  rw [ha, bnd_ok, hb, bnd_ok, ord_le, bnd_ok, decide_eq_true h1]
  dsimp only
  rw [hc, bnd_ok, ord_le, decide_eq_true h2]
theorem group_ok {g : Gp} (h : GpOk g) (S : Sto) : N_is_group [itF g] S = .ok (.bl true) S := by
  refine frm_cl (by show (clD (itF g) && true) = true; rw [cl_itF]; rfl) ?_
  obtain ⟨nm, md, br, bx⟩ := g
  obtain ⟨h1, h2, h3, h4⟩ := h
  dsimp only at h1 h2 h3 h4
  have l := bx_len h4
  have hl : (bx.map D.str).length = bx.length := List.length_map ..
  have q : fChain (gOrd (fun i j => decide (i ≤ j))) (gOrd (fun i j => decide (i ≤ j))) (fun _ => pure (.int 1)) (fArgs (a1 gLen) (aCons (f2 gIx (fVar 0) (fun _ => pure (.int 3))) aNil)) (fun _ => pure (.int 5)) [.val (.tup [.str nm, .str md, .str br, .lst (bx.map .str)])] [] = .ok (.bl true) [] := by
    refine ch_le (a := 1) (b := bx.length) (c := 5) rfl ?_ rfl (by omega) (by omega)
    show R.ok (D.int (bx.map D.str).length) [] = _
    rw [hl]
  have t : (fCall N_are_names [] (aCons (f2 gIx (fVar 0) (fun _ => pure (.int 3))) aNil)) [.val (.tup [.str nm, .str md, .str br, .lst (bx.map .str)])] [] = .ok (.bl true) [] := bx_ok h4 []
  have n1 : (fCall N_is_name [] (aCons (f2 gIx (fVar 0) (fun _ => pure (.int 0))) aNil)) [.val (.tup [.str nm, .str md, .str br, .lst (bx.map .str)])] [] = .ok (.bl true) [] := nm_ok h1 []
  have c : (sRet (fAndV (fCall N_are_names [] (aCons (f2 gIx (fVar 0) (fun _ => pure (.int 3))) aNil)) (fChain (gOrd (fun i j => decide (i ≤ j))) (gOrd (fun i j => decide (i ≤ j))) (fun _ => pure (.int 1)) (fArgs (a1 gLen) (aCons (f2 gIx (fVar 0) (fun _ => pure (.int 3))) aNil)) (fun _ => pure (.int 5))))) [.val (.tup [.str nm, .str md, .str br, .lst (bx.map .str)])] [] = .ok (.rt (.bl true)) [] := by
    unfold sRet fAndV
    rw [t, bnd_ok]
    dsimp only
    rw [if_pos rfl, q]
    rfl
  unfold M_is_group
  refine mk_rt rfl rfl ((seq_nx (e' := [.val (.tup [.str nm, .str md, .str br, .lst (bx.map .str)])]) (S' := []) ?_).trans ((seq_nx (e' := [.val (.tup [.str nm, .str md, .str br, .lst (bx.map .str)])]) (S' := []) ?_).trans c))
  · show sB [.val (.tup [.str nm, .str md, .str br, .lst (bx.map .str)])] ((((fCall N_is_name [] (aCons (f2 gIx (fVar 0) (fun _ => pure (.int 0))) aNil)) [.val (.tup [.str nm, .str md, .str br, .lst (bx.map .str)])] []).bnd toB).bnd fun b => pure (!b)) _ = _
    rw [n1]
    rfl
  · rcases h2 with rfl | rfl <;> rcases h3 with rfl | rfl <;> kernel_rfl
def initB : FS := (sSeq (sIf (fOrT (fNotT (fB (fCall N_is_group [] (aCons (fVar 3) aNil)))) (fB (f2 (gInX false) (f2 gIx (fVar 3) (fun _ => pure (.int 0))) (fFrz (oLc [4] (.one 4) (iSeq (fVar 2)) (fun _ => pure true) (f2 gIx (fVar 4) (fun _ => pure (.int 0)))))))) (sRaise (fMk "InvalidItem" "value" [] (aCons (fVar 3) aNil))) sNil)
  (sApp 2 (fTup (aCons (f2 gIx (fVar 3) (fun _ => pure (.int 0))) (aCons (f2 gIx (fVar 3) (fun _ => pure (.int 1))) (aCons (f2 gIx (fVar 3) (fun _ => pure (.int 2))) (aCons (fArgs (a1 gTuple) (aCons (f2 gIx (fVar 3) (fun _ => pure (.int 3))) aNil)) aNil)))))))
theorem M_init_eq : M_Shop_init = mkI 2 5 "Shop" ((sSeq (sIf (fOrT (fNotT (fB (fArgs (a2 (gIsi is_list (.ty "list"))) (aCons (fVar 1) (aCons (fun _ => pure (.ty "list")) aNil))))) (fNotT (fB (fChain (gOrd (fun i j => decide (i ≤ j))) (gOrd (fun i j => decide (i ≤ j))) (fun _ => pure (.int 1)) (fArgs (a1 gLen) (aCons (fVar 1) aNil)) (fun _ => pure (.int 4)))))) (sRaise (fMk "InvalidList" "value" [] (aCons (fVar 1) aNil))) sNil)
  (sSeq (sSet 2 (fCell (oLst aNil)))
  (sSeq (sFor (.one 3) (iSeq (fVar 1)) initB)
  (sFldS 0 ["Shop"] "rows" (fArgs (a1 gTuple) (aCons (fVar 2) aNil))))))) := rfl
def iE (n : Nat) (gs : D) (s3 s4 : Sl) : Env := [.slf (.ins "Shop" []), .val gs, .val (.cell n), s3, s4]
theorem strs_d0 (f : Nat → Option PyData) (l : List Str) : deepL f (l.map .str) = some (l.map .str) := by
  induction l with
  | nil => rfl
  | cons a l ih => show (match deep0 f (.str a), deepL f (l.map .str) with | some a, some b => some (a :: b) | _, _ => none) = _; rw [ih]; rfl
theorem lay_strs (l : List Str) (h : ∀ x ∈ l, PyData.canLay0 (.str x) = true) : PyData.canLayAll0 (l.map .str) = true := by
  induction l with
  | nil => rfl
  | cons a l ih => show (PyData.canLay0 (.str a) && PyData.canLayAll0 (l.map .str)) = true; rw [h a List.mem_cons_self, ih fun x hx => h x (List.mem_cons_of_mem _ hx)]; rfl
theorem depth_strs (l : List Str) : PyData.depthAll (l.map .str) ≤ 1 := by
  induction l with
  | nil => exact Nat.zero_le _
  | cons a l ih => show max (PyData.depth (.str a)) (PyData.depthAll (l.map .str)) ≤ 1; exact Nat.max_le.mpr ⟨by simp [PyData.depth], ih⟩
theorem in_strs {x : Str} {l : List Str} {n : Bool} (hx : PyData.canLay0 (.str x) = true) (hl : ∀ y ∈ l, PyData.canLay0 (.str y) = true) (S : Sto) : gInX n (.str x) (.lst (l.map .str)) S = .ok (.bl (if n then !decide (x ∈ l) else decide (x ∈ l))) S := by
  have e1 : gInX n (.str x) (.lst (l.map .str)) S = gInL n (.str x) (.lst (l.map .str)) S := if_neg (by simp [isDk, asCO])
  have e2 : deep S (.lst (l.map .str)) = some (.list (l.map .str)) := by
    show (deepL (deepC S 4) (l.map .str)).map PyData.list = _
    rw [strs_d0]
    rfl
  have s1 : SeqAt.shaped (.str x) = true := by
    simp only [SeqAt.shaped, hx, Bool.true_and]
    simp [PyData.depth]
  have s2 : SeqAt.shaped (.list (l.map .str)) = true := by
    have q : PyData.canLay0 (.list (l.map .str)) = true := lay_strs l hl
    have d : PyData.depth (.list (l.map .str)) ≤ 64 := by
      have := depth_strs l
      simp only [PyData.depth]
      omega
    simp only [SeqAt.shaped, q, Bool.true_and, decide_eq_true_eq]
    exact d
  have a : ((l.map PyData.str).any fun z => PyData.eqv z (.str x)) = decide (x ∈ l) := by
    clear e1 e2 s2 hl
    induction l with
    | nil => rfl
    | cons y l ih =>
      rw [List.map_cons, List.any_cons, ih]
      show ((y == x) || decide (x ∈ l)) = decide (x ∈ y :: l)
      by_cases h : y = x
      · subst h; simp
      · have h' : ¬ x = y := fun e => h e.symm
        simp [h, h']
  rw [e1]
  unfold gInL
  rw [show deep S (.str x) = some (.str x) from rfl, e2]
  dsimp only
  rw [if_pos ⟨s1, s2⟩, a]
theorem grp_lay : ∀ x ∈ grpW, PyData.canLay0 (.str x) = true := by
  have q : (grpW.all fun x => PyData.canLay0 (.str x)) = true := by decide +kernel
  exact fun x h => List.all_eq_true.mp q x h
theorem rows_names (S : Sto) (n : Nat) (gs : D) (s3 s4 : Sl) (L : List Gp) (hn : S[n]? = some (.lst (L.map rowD))) (hL : L.length ≤ 4) :
    fFrz (oLc [4] (.one 4) (iSeq (fVar 2)) (fun _ => pure true) (f2 gIx (fVar 4) (fun _ => pure (.int 0)))) (iE n gs s3 s4) S = .ok (.lst (L.map fun g => .str g.nm)) S := by
  have i : iSeq (fVar 2) (iE n gs s3 s4) S = .ok (L.map rowD, .cl n (.lst (L.map rowD))) S := by
    show (match walkD S (.cell n) with | some p => R.ok p S | none => .stuck) = _
    have : walkD S (.cell n) = some (L.map rowD, .cl n (.lst (L.map rowD))) := by
      show (match S[n]? with | some (.lst ds) => some (ds, Src.cl n (.lst ds)) | _ => none) = _
      rw [hn]
    rw [this]
  have hc : chk (.cl n (.lst (L.map rowD))) S = true := by
    show (match S[n]? with | some c' => eqCO (.lst (L.map rowD)) c' | none => false) = true
    rw [hn]
    exact eqCO_rfl _
  have c := comp_pure (b := .one 4) (src := .cl n (.lst (L.map rowD))) (Ft := fun _ => pure true) (Fe := f2 gIx (fVar 4) (fun _ => pure (.int 0))) (env0 := wipeE (iE n gs s3 s4) [4]) (S := S) hc
    (fun d => match d with | .tup (a :: _) => some a | _ => none) (L.map rowD) (fun d hd => by
      obtain ⟨g, _, rfl⟩ := List.mem_map.mp hd
      exact ⟨_, rfl, .inr ⟨.str g.nm, rfl, rfl, rfl⟩⟩)
  have f : (L.map rowD).filterMap (fun d => match d with | .tup (a :: _) => some a | _ => none) = L.map fun g => .str g.nm := by
    rw [List.filterMap_map]
    induction L with
    | nil => rfl
    | cons a L ih => exact congrArg (D.str a.nm :: ·) (by
        clear i hc c hn
        clear ih hL
        induction L with
        | nil => rfl
        | cons b L ih => exact congrArg (D.str b.nm :: ·) ih)
  show (((iSeq (fVar 2) (iE n gs s3 s4) S).bnd fun p S' => oFin [] (compL (.one 4) p.2 (fun _ => pure true) (f2 gIx (fVar 4) (fun _ => pure (.int 0))) (wipeE (iE n gs s3 s4) [4]) p.1 S')).bnd fun c S' => .ok (frzD c) S') = _
  rw [i, bnd_ok]
  dsimp only
  rw [c, f]
  show (if (([] : List D) ++ L.map fun g => D.str g.nm).length ≤ sizeLine then R.ok (CO.lst ([] ++ L.map fun g => D.str g.nm)) S else .stuck).bnd _ = _
  rw [List.nil_append, if_pos (sl5 (by rw [List.length_map]; omega)), bnd_ok]
  rfl
end HT.C
set_option maxRecDepth 100000
set_option maxHeartbeats 1000000
namespace HT.C
open PySem PySem.Spec L2
open PyProof.Rows hiding St
theorem map_nm (L : List Gp) : (L.map fun g => D.str g.nm) = (L.map (·.nm)).map .str := by rw [List.map_map]; rfl
theorem nms_lay {L : List Gp} (h : ∀ g ∈ L, GpOk g) : ∀ y ∈ L.map (·.nm), PyData.canLay0 (.str y) = true := fun y hy => by
  obtain ⟨g, hg, rfl⟩ := List.mem_map.mp hy
  exact grp_lay _ (h g hg).nm
theorem len_its (ps : List Gp) : (ps.map itF).length = ps.length := List.length_map ..
theorem len_rows (ps : List Gp) : (ps.map rowD).length = ps.length := List.length_map ..
abbrev inRowsT : Env → Cm Bool := fB (f2 (gInX false) (f2 gIx (fVar 3) (fun _ => pure (.int 0))) (fFrz (oLc [4] (.one 4) (iSeq (fVar 2)) (fun _ => pure true) (f2 gIx (fVar 4) (fun _ => pure (.int 0))))))
theorem in_rows {S : Sto} {n : Nat} {gs : D} {s4 : Sl} {L : List Gp} {x : Str} {r : List D} (hx : PyData.canLay0 (.str x) = true) (hn : S[n]? = some (.lst (L.map rowD))) (hL : L.length ≤ 4) (ok : ∀ g ∈ L, GpOk g) :
    inRowsT (iE n gs (.val (.tup (.str x :: r))) s4) S = .ok (decide (x ∈ L.map (·.nm))) S := by
  refine ev_fB (ev_f2 (x := .str x) (ev_f2 (ev_var rfl) ev_c ?_) (rows_names S n gs _ s4 L hn hL) ?_)
  · show (match atI (.str x :: r) 0 with | some d => R.ok d S | none => .stuck) = _
    rw [at0]
  · rw [map_nm]
    exact in_strs hx (nms_lay ok) S
theorem init_turn {S : Sto} {gs : D} {s4 : Sl} {L : List Gp} {g : Gp} (hg : GpOk g) (hL : L.length ≤ 3) (ok : ∀ g ∈ L, GpOk g) (hn : g.nm ∉ L.map (·.nm)) :
    initB (iE S.length gs (.val (itF g)) s4) (S ++ [.lst (L.map rowD)]) = .ok (.nx (iE S.length gs (.val (itF g)) s4)) (S ++ [.lst ((L ++ [g]).map rowD)]) := by
  have hk : (S ++ [CO.lst (L.map rowD)])[S.length]? = some (.lst (L.map rowD)) := by simp
  have q := in_rows (S := S ++ [CO.lst (L.map rowD)]) (n := S.length) (gs := gs) (s4 := s4) (x := g.nm) (r := [.str g.md, .str g.br, .lst (g.bx.map .str)]) (grp_lay _ hg.nm) hk (by omega) ok
  rw [decide_eq_false hn] at q
  unfold initB
  refine ev_seq (ev_skip (ev_orT_f (ev_notT (b := true) (ev_fB (ev_call (ev_cons (ev_var rfl) ev_nil) (group_ok hg _)))) q)) ?_
  have a := ev_appC (i := 2) (k := S.length) (ds := L.map rowD) (d := rowD g) (env := iE S.length gs (.val (itF g)) s4) (S := S ++ [CO.lst (L.map rowD)]) (S1 := S ++ [CO.lst (L.map rowD)]) (F := fTup (aCons (f2 gIx (fVar 3) (fun _ => pure (.int 0))) (aCons (f2 gIx (fVar 3) (fun _ => pure (.int 1))) (aCons (f2 gIx (fVar 3) (fun _ => pure (.int 2))) (aCons (fArgs (a1 gTuple) (aCons (f2 gIx (fVar 3) (fun _ => pure (.int 3))) aNil)) aNil))))) rfl (by rw [lstAt_cell hk]; rfl)
    (ev_tup (ev_cons (ev_f2 (ev_var rfl) ev_c rfl) (ev_cons (ev_f2 (ev_var rfl) ev_c rfl) (ev_cons (ev_f2 (ev_var rfl) ev_c rfl) (ev_cons (ev_args (ev_cons (ev_f2 (ev_var rfl) ev_c rfl) ev_nil) (ev_tupleL (fun z e => by cases e) rfl)) ev_nil))))) hk (by rw [len_rows]; omega)
  refine a.trans ?_
  simp
theorem init_loop {S : Sto} {gs : D} {s4 : Sl} : ∀ (r : List Gp) (L : List Gp) (s3 : Sl) (more : List D), (∀ g ∈ L ++ r, GpOk g) → (L ++ r).length ≤ 4 → ((L ++ r).map (·.nm)).Nodup →
    ∃ s3', loopD (.one 3) .fz initB (r.map itF ++ more) (iE S.length gs s3 s4) (S ++ [.lst (L.map rowD)]) = loopD (.one 3) .fz initB more (iE S.length gs s3' s4) (S ++ [.lst ((L ++ r).map rowD)])
  | [], L, s3, more, _, _, _ => ⟨s3, by rw [List.append_nil, List.map_nil, List.nil_append]⟩
  | g :: r, L, s3, more, ok, hl, nd => by
    have e : L ++ g :: r = (L ++ [g]) ++ r := by simp
    obtain ⟨s3', h⟩ := init_loop (S := S) (gs := gs) (s4 := s4) r (L ++ [g]) (.val (itF g)) more (by rw [← e]; exact ok) (by rw [← e]; exact hl) (by rw [← e]; exact nd)
    refine ⟨s3', ?_⟩
    have hn : g.nm ∉ L.map (·.nm) := fun hm => by
      rw [List.map_append, List.map_cons] at nd
      exact (List.nodup_append.mp nd).2.2 _ hm _ List.mem_cons_self rfl
    have hl' : L.length ≤ 3 := by simp at hl; omega
    have tn := init_turn (S := S) (gs := gs) (s4 := s4) (L := L) (g := g) (ok g (by simp)) hl' (fun x hx => ok x (List.mem_append_left _ hx)) hn
    rw [List.map_cons, List.cons_append, loop_cons (e1 := iE S.length gs (.val (itF g)) s4) rfl rfl tn, h, e]
abbrev initT : Env → Cm Bool := fOrT (fNotT (fB (fArgs (a2 (gIsi is_list (.ty "list"))) (aCons (fVar 1) (aCons (fun _ => pure (.ty "list")) aNil))))) (fNotT (fB (fChain (gOrd (fun i j => decide (i ≤ j))) (gOrd (fun i j => decide (i ≤ j))) (fun _ => pure (.int 1)) (fArgs (a1 gLen) (aCons (fVar 1) aNil)) (fun _ => pure (.int 4)))))
theorem init_head {S : Sto} {gs : D} {items : List D} (ht : tyD S gs = some (.b "list")) (hq : asQ2 S gs = some items) (h1 : 1 ≤ items.length) (h4 : items.length ≤ 4) (hs : ∀ x, gs ≠ .str x) :
    initT [.slf (.ins "Shop" []), .val gs, .un, .un, .un] S = .ok false S :=
  ev_orT_f (ev_notT (b := true) (ev_fB (ev_args (ev_cons (ev_var rfl) (ev_cons ev_c ev_nil)) (ev_isi ht rfl)))) (ev_notT (b := true) (ev_fB (ch_le (a := 1) (b := items.length) (c := 4) rfl (ev_args (ev_cons (ev_var rfl) ev_nil) (ev_len hs hq)) rfl (by omega) (by omega))))
theorem mkI_nx {np n : Nat} {C : Str} {F : FS} {ds : List D} {env e' : Env} {S S' : Sto} {c : CO} (h : ds.length + 1 = np) (he : .slf (.ins C []) :: (ds.map .val ++ List.replicate (n - np) .un) = env) (hF : F env S = .ok (.nx e') S') (hs : selfOf e' = some c) : mkI np n C F ds S = .ok c S' := by
  subst h
  subst he
  unfold mkI
  rw [if_pos rfl, hF]
  dsimp only
  rw [hs]
theorem init_new {S : Sto} {gs : D} : sSet 2 (fCell (oLst aNil)) [.slf (.ins "Shop" []), .val gs, .un, .un, .un] S = .ok (.nx (iE S.length gs .un .un)) (S ++ [.lst (([] : List Gp).map rowD)]) := ev_set (ev_cell (ev_lst ev_nil))
theorem init_ok {S : Sto} {ps : List Gp} (ok : ∀ g ∈ ps, GpOk g) (h1 : 1 ≤ ps.length) (h4 : ps.length ≤ 4) (nd : (ps.map (·.nm)).Nodup) :
    M_Shop_init [.lst (ps.map itF)] S = .ok (.ins "Shop" [("rows", .tup (ps.map rowD))]) (S ++ [.lst (ps.map rowD)]) := by
  obtain ⟨s3', h⟩ := init_loop (S := S) (gs := .lst (ps.map itF)) (s4 := .un) ps [] .un [] (by simpa using ok) (by simpa using h4) (by simpa using nd)
  rw [List.append_nil, List.nil_append] at h
  have hk : (S ++ [CO.lst (ps.map rowD)])[S.length]? = some (.lst (ps.map rowD)) := by simp
  rw [M_init_eq]
  refine mkI_nx (env := [.slf (.ins "Shop" []), .val (.lst (ps.map itF)), .un, .un, .un]) (e' := [.slf (.ins "Shop" [("rows", .tup (ps.map rowD))]), .val (.lst (ps.map itF)), .val (.cell S.length), s3', .un]) rfl rfl ?_ rfl
  refine ev_seq (ev_skip (init_head (items := ps.map itF) rfl rfl (by rw [len_its]; exact h1) (by rw [len_its]; exact h4) (fun x e => by cases e))) (ev_seq init_new (ev_seq (ev_for (ev_seqL (ev_var rfl)) rfl (h.trans (loop_nil rfl))) ?_))
  have e : fArgs (a1 gTuple) (aCons (fVar 2) aNil) (iE S.length (.lst (ps.map itF)) s3' .un) (S ++ [.lst (ps.map rowD)]) = .ok (.tup (ps.map rowD)) (S ++ [.lst (ps.map rowD)]) := ev_args (ev_cons (ev_var rfl) ev_nil) (ev_tupleL (fun z e => by cases e) (asL_cell hk))
  unfold sFldS
  rw [e]
  rfl
theorem shop_ok {S : Sto} {ps : List Gp} (ok : ∀ g ∈ ps, GpOk g) (h1 : 1 ≤ ps.length) (h4 : ps.length ≤ 4) (nd : (ps.map (·.nm)).Nodup) : N_Shop_init [.lst (ps.map itF)] S = .ok (.ins "Shop" [("rows", .tup (ps.map rowD))]) S := by
  have q := init_ok (S := []) ok h1 h4 nd
  refine frmI_cell (by show (clL (ps.map itF) && true) = true; rw [cl_its]; rfl) q (by simp) ?_
  show (meltF _ [("rows", D.tup (ps.map rowD))]).map (CO.ins "Shop") = _
  rw [meltF_cl _ _ (by show (clL (ps.map rowD) && true) = true; rw [cl_rows]; rfl)]
  rfl
end HT.C
set_option maxRecDepth 100000
set_option maxHeartbeats 1000000
namespace HT.C
open PySem PySem.Spec L2
open PyProof.Rows hiding St
theorem getI (i : Int) (S : Sto) : gInt (.int i) S = .ok (.int i) S := rfl
theorem mul_ok {a b : Int} (ha : a.natAbs < 2 ^ 100) (hb : b.natAbs < 2 ^ 100) (S : Sto) : gMul2 (.int a) (.int b) S = .ok (.int (a * b)) S := by
  have l : ∀ z : Int, z.natAbs < 2 ^ 100 → z.natAbs.log2 < 101 := fun z h => PySem.Flt.log2_lt_of (by decide) (Nat.lt_trans h (by decide))
  show gMul (.int a) (.int b) S = _
  unfold gMul
  have h1 := l a ha
  have h2 := l b hb
  have hc : a.natAbs.log2 + b.natAbs.log2 < 1000000 := by omega
  simp only [hc, if_true]
theorem mod_ok {a b : Int} (hb : 0 < b) (S : Sto) : gMod (.int a) (.int b) S = .ok (.int (a % b)) S := by
  unfold gMod
  dsimp only
  rw [if_pos hb]
  rfl
theorem add_ok {a b : Int} (S : Sto) : gAdd (.int a) (.int b) S = .ok (.int (a + b)) S := rfl
theorem sub_ok {a b : Int} (S : Sto) : gSub (.int a) (.int b) S = .ok (.int (a - b)) S := rfl
theorem max_ok {a b : Int} (S : Sto) : gMax (.int a) (.int b) S = .ok (.int (if b > a then b else a)) S := rfl
theorem cl_ints (ns : List Int) : clL (ns.map D.int) = true := clL_map _ (fun _ => rfl) ns
theorem cell_ok (ns : List Int) (i : Nat) (S : Sto) : N__law_cell [.klst (ns.map .int), .int i] S = .ok (.int (ns.getD i 0)) S := by
  refine frm_cl (by show (clL (ns.map D.int) && true) = true; rw [cl_ints]; rfl) ?_
  have hl : asQ2 [] (.klst (ns.map .int)) = some (ns.map .int) := rfl
  by_cases hi : i < ns.length
  · have h1 : atI (ns.map D.int) (i : Int) = some (.int (ns.getD i 0)) := by
      refine atI_nat ?_
      rw [List.getElem?_map, List.getElem?_eq_getElem hi]
      simp [List.getD, hi]
    simp [M__law_cell, mkM, sSeq, sIf, sRet, sB, fB, f2, fVar, fArgs, a1, aCons, aNil, gOrd, gLen, gIx, toB, pure_ap, bnd_ok, hl, h1, hi]
  · simp [M__law_cell, mkM, sSeq, sIf, sRet, sB, fB, f2, fVar, fArgs, a1, aCons, aNil, gOrd, gLen, gIx, toB, pure_ap, bnd_ok, hl, hi, sNil, List.getD]
theorem hash_ok {a b : Int} (ha : 0 ≤ a ∧ a < 2147483648) (hb : 0 ≤ b ∧ b ≤ 1000000) (S : Sto) : ∃ h, N__law_hash [.int a, .int b] S = .ok (.int h) S ∧ 0 ≤ h ∧ h < 2147483587 := by
  have ms : ∀ z : Int, 0 ≤ z → z < 2 ^ 90 → z.natAbs < 2 ^ 100 := fun z h1 h2 => by
    have e : (2 : Int) ^ 90 = 1237940039285380274899124224 := by decide
    have e2 : (2 : Nat) ^ 100 = 1267650600228229401496703205376 := by decide
    omega
  have e90 : (2 : Int) ^ 90 = 1237940039285380274899124224 := by decide
  have n1 := ms a ha.1 (by omega)
  have n2 := ms b hb.1 (by omega)
  have k1 : (1103515245 : Int).natAbs < 2 ^ 100 := by decide
  have k2 : (7919 : Int).natAbs < 2 ^ 100 := by decide
  have k3 : (48271 : Int).natAbs < 2 ^ 100 := by decide
  have p1 : (0 : Int) < 2147483647 := by decide
  have p2 : (0 : Int) < 2147483629 := by decide
  have p3 : (0 : Int) < 2147483587 := by decide
  have n3 : (7919 * b).natAbs < 2 ^ 100 := ms _ (by omega) (by omega)
  obtain ⟨m1, hm1⟩ : ∃ m, m = (a * 1103515245 + 7919 * b * b + b + 1) % 2147483647 := ⟨_, rfl⟩
  have b1 : 0 ≤ m1 ∧ m1 < 2147483647 := by
    rw [hm1]
    exact ⟨Int.emod_nonneg _ (by decide), Int.emod_lt_of_pos _ p1⟩
  have n4 := ms m1 b1.1 (by omega)
  obtain ⟨m2, hm2⟩ : ∃ m, m = (m1 * m1 + 69621) % 2147483629 := ⟨_, rfl⟩
  have b2 : 0 ≤ m2 ∧ m2 < 2147483629 := by
    rw [hm2]
    exact ⟨Int.emod_nonneg _ (by decide), Int.emod_lt_of_pos _ p2⟩
  have n5 := ms m2 b2.1 (by omega)
  refine ⟨(m2 * 48271) % 2147483587, frm_cl rfl ?_, Int.emod_nonneg _ (by decide), Int.emod_lt_of_pos _ p3⟩
  simp [M__law_hash, mkM, sSeq, sRet, sSet, sB, f2, fVar, fArgs, a1, aCons, aNil, pure_ap, bnd_ok, getI, add_ok, mul_ok n1 k1, mul_ok k2 n2, mul_ok n3 n2, mod_ok p1, mod_ok p2, mod_ok p3, ← hm1, mul_ok n4 n4, ← hm2, mul_ok n5 k3]
theorem ix_cell {k : Nat} {S : Sto} {a b c : D} (hk : S[k]? = some (.lst [a, b, c])) : gIx (.cell k) (.int 0) S = .ok a S ∧ gIx (.cell k) (.int 1) S = .ok b S ∧ gIx (.cell k) (.int 2) S = .ok c S := by
  have h : asQ2 S (.cell k) = some [a, b, c] := by
    show (match S[k]? with | some (.lst ds) => some ds | _ => none) = _
    rw [hk]
  have e0 : atI [a, b, c] 0 = some a := rfl
  have e1 : atI [a, b, c] 1 = some b := rfl
  have e2 : atI [a, b, c] 2 = some c := rfl
  refine ⟨?_, ?_, ?_⟩
  · simp [gIx, h, e0]
  · simp [gIx, h, e1]
  · simp [gIx, h, e2]
theorem put_c {k : Nat} {S : Sto} {a b c d : D} {env : Env} (hk : S[k]? = some (.lst [a, b, c])) : putC env d (.cell k) (.int 0) S = .ok (.nx env) (S.set k (.lst [d, b, c])) ∧ putC env d (.cell k) (.int 2) S = .ok (.nx env) (S.set k (.lst [a, b, d])) := by
  have h : lstAt S k = some [a, b, c] := lstAt_cell hk
  have e0 : ixN ([a, b, c] : List D).length 0 = some 0 := rfl
  have e2 : ixN ([a, b, c] : List D).length 2 = some 2 := rfl
  constructor
  · simp only [putC, h, e0]
    rfl
  · simp only [putC, h, e2]
    rfl
def isG (S : Sto) (k : Nat) (B : Int) : Prop := ∃ g0 g1 g2, S[k]? = some (.lst [.int g0, .int g1, .int g2]) ∧ 0 ≤ g0 ∧ 0 ≤ g1 ∧ g1 < 2147483647 ∧ 0 ≤ g2 ∧ g2 ≤ B
theorem isG.lt {S : Sto} {k : Nat} {B : Int} (h : isG S k B) : k < S.length := by
  obtain ⟨g0, g1, g2, hk, _⟩ := h
  exact (List.getElem?_eq_some_iff.mp hk).1
theorem isG.more {S T : Sto} {k : Nat} {B : Int} (h : isG S k B) : isG (S ++ T) k B := by
  obtain ⟨g0, g1, g2, hk, r⟩ := h
  exact ⟨g0, g1, g2, by rw [List.getElem?_append_left (List.getElem?_eq_some_iff.mp hk).1]; exact hk, r⟩
theorem isG.le {S : Sto} {k : Nat} {B C : Int} (h : isG S k B) (hb : B ≤ C) : isG S k C := by
  obtain ⟨g0, g1, g2, hk, a, b, c, d, e⟩ := h
  exact ⟨g0, g1, g2, hk, a, b, c, d, by omega⟩
theorem gen_ok (ns : List Int) (i : Nat) (hi : i < 100) (S : Sto) : ∃ g, M__law_generator [.klst (ns.map .int), .int i] S = .ok (.cell S.length) (S ++ [.lst g]) ∧ isG (S ++ [.lst g]) S.length (1000 * i) := by
  have p1 : (0 : Int) < 2147483647 := by decide
  have w1 : gPow (.int 10) (.int 18) S = .ok (.int (10 ^ 18)) S := by kernel_rfl
  have w2 : gPow (.int 10) (.int 60) S = .ok (.int (10 ^ 60)) S := by kernel_rfl
  have w3 : gPow (.int (10 ^ 60)) (.int 10) S = .ok (.int ((10 ^ 60) ^ 10)) S := by kernel_rfl
  have p2 : (0 : Int) < (10 ^ 60) ^ 10 := by decide +kernel
  have k1 : (1000 : Int).natAbs < 2 ^ 100 := by decide
  have k2 : ((i : Nat) : Int).natAbs < 2 ^ 100 := by
    have e2 : (2 : Nat) ^ 100 = 1267650600228229401496703205376 := by decide
    omega
  obtain ⟨z, hz⟩ : ∃ z, z = ns.getD i 0 := ⟨_, rfl⟩
  obtain ⟨B, hB⟩ : ∃ B : Int, B = (10 ^ 60) ^ 10 := ⟨_, rfl⟩
  rw [← hB] at p2 w3
  obtain ⟨t, ht⟩ : ∃ t : Int, t = 10 ^ 18 := ⟨_, rfl⟩
  rw [← ht] at w1
  obtain ⟨u, hu⟩ : ∃ u : Int, u = 10 ^ 60 := ⟨_, rfl⟩
  rw [← hu] at w2 w3
  have sl : (3 : Nat) ≤ sizeLine := sl5 (by omega)
  refine ⟨[.int ((if 0 > z - t then 0 else z - t) % B), .int (z % 2147483647), .int (1000 * i)], ?_, (if 0 > z - t then 0 else z - t) % B, z % 2147483647, 1000 * i, by simp, Int.emod_nonneg _ (by omega), Int.emod_nonneg _ (by decide), Int.emod_lt_of_pos _ p1, by omega, by omega⟩
  have c := cell_ok ns i S
  rw [← hz] at c
  simp [M__law_generator, mkM, sSeq, sRet, sSet, sB, f2, fVar, fArgs, a1, a2, aCons, aNil, fCall, fCell, oLst, pure_ap, bnd_ok, getI, c, w1, w2, w3, sub_ok, max_ok, mod_ok p1, mod_ok p2, mul_ok k1 k2, sl]
theorem krg (S : Sto) : kRg1 [.int 1] S = .ok ([.int 0], .fz) S := by
  have h : InRg 1 := by unfold InRg; omega
  unfold kRg1
  simp only [h, if_true]
  rfl
theorem m0z (S : Sto) : gMul2 (.int 0) (.int 2147483587) S = .ok (.int 0) S := mul_ok (a := 0) (b := 2147483587) (by decide) (by decide) S
theorem bits_all : ((List.range 200).all fun n => decide (((Builtin.Int.intBits (n : Int) : Nat) : Int) / 30 = 0 ∧ (n : Int).natAbs.log2 < 9000)) = true := by decide +kernel
theorem bits_ok {n : Int} (h : 1 ≤ n ∧ n < 200) : ((Builtin.Int.intBits n : Nat) : Int) / 30 = 0 ∧ n.natAbs.log2 < 9000 := by
  obtain ⟨m, rfl⟩ : ∃ m : Nat, n = m := ⟨n.toNat, by omega⟩
  exact of_decide_eq_true (List.all_eq_true.mp bits_all m (List.mem_range.mpr (by omega)))
theorem dvn {g0 n : Int} (hn : 1 ≤ n ∧ n < 200) (S : Sto) : gDiv (.int g0) (.int n) S = .ok (.int (g0 / n)) S := by
  have h : 0 < n ∧ n.natAbs.log2 < 9000 := ⟨by omega, (bits_ok hn).2⟩
  unfold gDiv
  dsimp only
  rw [if_pos h]
  rfl
theorem it_n {n : Int} (hn : 1 ≤ n ∧ n < 200) (env : Env) (S : Sto) (he : env[1]? = some (.val (.int n))) : iRg1 (aCons (f2 gAdd (fun _ => pure (.int 1)) (f2 gDiv (f1 gBits (fVar 1)) (fun _ => pure (.int 30)))) aNil) env S = .ok ([.int 0], .fz) S := by
  have d : f2 gDiv (f1 gBits (fVar 1)) (fun _ => pure (.int 30)) env S = .ok (.int 0) S := by
    refine ev_f2 (x := .int ((Builtin.Int.intBits n : Nat) : Int)) (ev_f1 (ev_var he) rfl) ev_c ?_
    rw [dvn ⟨by omega, by omega⟩, (bits_ok hn).1]
  have e : f2 gAdd (fun _ => pure (.int 1)) (f2 gDiv (f1 gBits (fVar 1)) (fun _ => pure (.int 30))) env S = .ok (.int 1) S := ev_f2 ev_c d rfl
  unfold iRg1 aCons
  rw [e]
  exact krg S
theorem r5 {k : Nat} {S : Sto} {g0 g1 g2 : Int} {s1 s2 s3 : Sl} (hk : S[k]? = some (.lst [.int g0, .int g1, .int g2])) : F__law_random_5 [.val (.cell k), s1, s2, s3] S = .ok (.nx [.val (.cell k), s1, s2, s3]) (S.set k (.lst [.int g0, .int g1, .int (g2 + 1)])) := by
  have h : f2 gAdd (f2 gIx (fVar 0) (fun _ => pure (.int 2))) (fun _ => pure (.int 1)) [.val (.cell k), s1, s2, s3] S = .ok (.int (g2 + 1)) S := ev_f2 (ev_f2 (ev_var rfl) ev_c (ix_cell hk).2.2) ev_c rfl
  show sB _ (f2 gAdd (f2 gIx (fVar 0) (fun _ => pure (.int 2))) (fun _ => pure (.int 1)) [.val (.cell k), s1, s2, s3] S) _ = _
  rw [h]
  exact (put_c hk).2
theorem r6 {k : Nat} {S : Sto} {g0 g1 g2 h : Int} {s1 s3 : Sl} (hk : S[k]? = some (.lst [.int g0, .int g1, .int g2])) (hh : N__law_hash [.int g1, .int g2] S = .ok (.int h) S) : F__law_random_6 [.val (.cell k), s1, .val (.int 0), s3] S = .ok (.nx [.val (.cell k), s1, .val (.int (0 + h)), s3]) S :=
  ev_set (ev_f2 (ev_f2 (ev_var rfl) ev_c (m0z S)) (ev_call (ev_cons (ev_f2 (ev_var rfl) ev_c (ix_cell hk).2.1) (ev_cons (ev_f2 (ev_var rfl) ev_c (ix_cell hk).2.2) ev_nil)) hh) rfl)
theorem rnd_raw {k : Nat} {S : Sto} {g0 g1 g2 n : Int} (hk : S[k]? = some (.lst [.int g0, .int g1, .int g2])) (h0 : 0 ≤ g0) (h1 : 0 ≤ g1 ∧ g1 < 2147483647) (h2 : 0 ≤ g2 ∧ g2 ≤ 900000) (hn : 1 ≤ n ∧ n < 200) :
    ∃ r g0' g2', M__law_random [.cell k, .int n] S = .ok (.int r) (S.set k (.lst [.int g0', .int g1, .int g2'])) ∧ (0 ≤ r ∧ r < n) ∧ 0 ≤ g0' ∧ g2 ≤ g2' ∧ g2' ≤ g2 + 1 := by
  have hn0 : 0 < n := by omega
  obtain ⟨i0, i1, i2⟩ := ix_cell hk
  by_cases hg : 0 < g0
  · have dv := dvn (g0 := g0) hn S
    refine ⟨g0 % n, g0 / n, g2, ?_, ⟨Int.emod_nonneg _ (by omega), Int.emod_lt_of_pos _ hn0⟩, Int.ediv_nonneg h0 (by omega), Int.le_refl _, by omega⟩
    simp [M__law_random, F__law_random_0, F__law_random_1, F__law_random_2, F__law_random_3, mkM, sSeq, sIf, sRet, sSet, sPutC, sB, fB, f2, fVar, fArgs, a1, aCons, aNil, gOrd, toB, pure_ap, bnd_ok, getI, i0, hg, mod_ok hn0, dv, (put_c hk).1]
  · obtain ⟨h, hh, b1, b2⟩ := hash_ok (a := g1) (b := g2 + 1) ⟨h1.1, by omega⟩ ⟨by omega, by omega⟩ (S.set k (.lst [.int g0, .int g1, .int (g2 + 1)]))
    have hl : k < S.length := (List.getElem?_eq_some_iff.mp hk).1
    have hk2 : (S.set k (.lst [.int g0, .int g1, .int (g2 + 1)]))[k]? = some (.lst [.int g0, .int g1, .int (g2 + 1)]) := List.getElem?_set_self hl
    have q3 : F__law_random_3 [.val (.cell k), .val (.int n), .un, .un] S = .ok (.nx [.val (.cell k), .val (.int n), .un, .un]) S := by
      simp [F__law_random_3, sIf, sB, fB, f2, fVar, gOrd, toB, pure_ap, bnd_ok, i0, hg, sNil]
    have q4 : F__law_random_4 [.val (.cell k), .val (.int n), .un, .un] S = .ok (.nx [.val (.cell k), .val (.int n), .val (.int 0), .un]) S := rfl
    have q8 : F__law_random_8 [.val (.cell k), .val (.int n), .val (.int 0), .un] S = .ok (.nx [.val (.cell k), .val (.int n), .val (.int (0 + h)), .val (.int 0)]) (S.set k (.lst [.int g0, .int g1, .int (g2 + 1)])) := by
      have b7 : B__law_random_7 [.val (.cell k), .val (.int n), .val (.int 0), .val (.int 0)] S = .ok (.nx [.val (.cell k), .val (.int n), .val (.int (0 + h)), .val (.int 0)]) (S.set k (.lst [.int g0, .int g1, .int (g2 + 1)])) := ev_seq (r5 hk) (r6 hk2 hh)
      exact ev_for (it_n hn _ S rfl) rfl ((loop_cons rfl rfl b7).trans (loop_nil rfl))
    have q9 : F__law_random_9 [.val (.cell k), .val (.int n), .val (.int (0 + h)), .val (.int 0)] (S.set k (.lst [.int g0, .int g1, .int (g2 + 1)])) = .ok (.rt (.int ((0 + h) % n))) (S.set k (.lst [.int g0, .int g1, .int (g2 + 1)])) :=
      ev_ret (ev_f2 (ev_args (ev_cons (ev_var rfl) ev_nil) rfl) (ev_var rfl) (mod_ok hn0 _))
    refine ⟨(0 + h) % n, g0, g2 + 1, ?_, ⟨Int.emod_nonneg _ (by omega), Int.emod_lt_of_pos _ hn0⟩, h0, by omega, by omega⟩
    exact mk_rt rfl rfl (ev_seq q3 (ev_seq q4 (ev_seq q8 q9)))
theorem mlt_same {M : List D → Cm D} {ds : List D} {S S' : Sto} {d : D} (h : M ds S = .ok d S') (hl : S'.length = S.length) : mlt M ds S = .ok d S' := by
  show mltR S (M ds S) = _
  rw [h]
  exact if_pos hl
theorem rnd_ok {k : Nat} {S : Sto} {B n : Int} (h : isG S k B) (hB : B ≤ 900000) (hn : 1 ≤ n ∧ n < 200) : ∃ r g, N__law_random [.cell k, .int n] S = .ok (.int r) (S.set k (.lst g)) ∧ (0 ≤ r ∧ r < n) ∧ isG (S.set k (.lst g)) k (B + 1) ∧ clL g = true := by
  have hl := h.lt
  obtain ⟨g0, g1, g2, hk, a, b, c, d, e⟩ := h
  obtain ⟨r, g0', g2', q, q1, q2, q3, q4⟩ := rnd_raw hk a ⟨b, c⟩ ⟨d, by omega⟩ hn
  exact ⟨r, _, mlt_same q (List.length_set ..), q1, ⟨g0', g1, g2', List.getElem?_set_self hl, q2, b, c, by omega, by omega⟩, rfl⟩
end HT.C
set_option maxRecDepth 100000
set_option maxHeartbeats 1000000
namespace HT.C
open PySem PySem.Spec L2
open PyProof.Rows hiding St
end HT.C
set_option maxRecDepth 100000
set_option maxHeartbeats 1000000
namespace HT.C
open PySem PySem.Spec L2
open PyProof.Rows hiding St
theorem keep_set {f : Nat → Option D} {c : CO} (hc : meltCO f c = some c) : ∀ (S : List CO) (k : Nat) (T : List CO), mkeep f S (S.set k c ++ T) = some (S.set k c)
  | [], k, T => rfl
  | a :: S, 0, T => by
    have q : mkeep f S (S ++ T) = some S := by
      clear hc
      induction S with
      | nil => rfl
      | cons b S ih =>
        show (match (if eqCO b b = true then some b else meltCO f b), mkeep f S (S ++ T) with | some a, some b => some (a :: b) | _, _ => none) = _
        rw [if_pos (eqCO_rfl b), ih]
    show (match (if eqCO a c = true then some a else meltCO f c), mkeep f S (S ++ T) with | some a, some b => some (a :: b) | _, _ => none) = _
    rw [q]
    by_cases h : eqCO a c = true
    · rw [if_pos h, eqCO_eq h]
      rfl
    · rw [if_neg h, hc]
      rfl
  | a :: S, k + 1, T => by
    show (match (if eqCO a a = true then some a else meltCO f a), mkeep f S (S.set k c ++ T) with | some a, some b => some (a :: b) | _, _ => none) = _
    rw [if_pos (eqCO_rfl a), keep_set hc S k T]
    rfl
theorem mlt_cell {M : List D → Cm D} {ds : List D} {S T : Sto} {k : Nat} {c : CO} {d d' : D} (e : M ds S = .ok d (S.set k c ++ T)) (hT : T ≠ []) (hc : ∀ f, meltCO f c = some c) (hm : melt0 (meltC (S.set k c ++ T) S.length 6) d = some d') : mlt M ds S = .ok d' (S.set k c) := by
  have hl : ¬ (S.set k c ++ T).length = S.length := fun h => by
    rw [List.length_append, List.length_set] at h
    exact hT (List.eq_nil_of_length_eq_zero (by omega))
  show mltR S (M ds S) = _
  rw [e]
  show (if (S.set k c ++ T).length = S.length then _ else _) = _
  rw [if_neg hl]
  show (match melt0 (meltC (S.set k c ++ T) S.length 6) d, mkeep (meltC (S.set k c ++ T) S.length 6) S (S.set k c ++ T) with
    | some d', some S'' => R.ok d' S''
    | _, _ => .stuck) = _
  rw [hm, keep_set (hc _) S k T]
theorem melt_new {c : CO} {T : Sto} {n k m : Nat} (hn : ¬ k < n) (hk : T[k]? = some c) (hc : meltCO (meltC T n m) c = some c) : melt0 (meltC T n (m + 1)) (.cell k) = some (frzD c) := by
  have e : melt0 (meltC T n (m + 1)) (.cell k) = meltC T n (m + 1) k := rfl
  rw [e]
  unfold meltC
  rw [if_neg hn, hk]
  dsimp only
  rw [hc]
  rfl
def nmsL : List Str := ["hue", "size", "make", "x"]
structure GpP (g : Gp) : Prop where
  md : g.md = "or" ∨ g.md = "and"
  br : g.br = "one" ∨ g.br = "many"
  bx : g.bx ∈ boxP
theorem boxP_W {l : List Str} (h : l ∈ boxP) : l ∈ boxW := by
  unfold boxW
  exact List.mem_append_left _ (List.mem_append_left _ (List.mem_append_left _ h))
theorem nms_grp : ∀ x ∈ nmsL, x ∈ grpW := by decide +kernel
structure PsOk (ps : List Gp) : Prop where
  ok : ∀ g ∈ ps, GpP g
  nm : (ps.map (·.nm)).Nodup ∧ (∀ x ∈ ps.map (·.nm), x ∈ nmsL) ∧ ps.length ≤ 4
  one : 1 ≤ ps.length
theorem PsOk.grp {ps : List Gp} (h : PsOk ps) : ∀ g ∈ ps, GpOk g := fun g hg => ⟨nms_grp _ (h.nm.2.1 _ (List.mem_map_of_mem hg)), (h.ok g hg).md, (h.ok g hg).br, boxP_W (h.ok g hg).bx⟩
theorem PsOk.nd {ps : List Gp} (h : PsOk ps) : (ps.map (·.nm)).Nodup := h.nm.1
theorem PsOk.len {ps : List Gp} (h : PsOk ps) : ps.length ≤ 4 := h.nm.2.2
def n4 : List D := boxT.map fun l => .lst (l.map .str)
def pE (k n : Nat) (m mo : Int) (tot : Sl) (s6 s7 s8 s9 : Sl) : Env := [.val (.cell k), .val (.int m), .val (.int mo), .val (.cell n), .val (.cell (n + 1)), tot, s6, s7, s8, s9]
theorem two_or (r : Int) (h : 0 ≤ r ∧ r < 2) (a b : Str) (S : Sto) : ∃ x, gIx (.lst [.str a, .str b]) (.int r) S = .ok (.str x) S ∧ (x = a ∨ x = b) := by
  have e : r = 0 ∨ r = 1 := by omega
  rcases e with rfl | rfl
  · exact ⟨a, rfl, .inl rfl⟩
  · exact ⟨b, rfl, .inr rfl⟩
theorem cut_box : ∀ (i : Nat) (r : Nat), i < 4 → r < 5 → ∃ l ∈ boxP, ∀ S, gSl (.lst ((boxT.getD i []).map .str)) none (some (1 + (r : Nat) : Int)) S = .ok (.lst (l.map .str)) S ∧ l.length = 1 + r := by
  have q : ((List.range 4).all fun i => (List.range 5).all fun r => decide ((boxT.getD i []).take (1 + r) ∈ boxP) && decide (((boxT.getD i []).take (1 + r)).length = 1 + r)) = true := by decide +kernel
  intro i r hi hr
  have q1 := List.all_eq_true.mp (List.all_eq_true.mp q i (List.mem_range.mpr hi)) r (List.mem_range.mpr hr)
  obtain ⟨q2, q3⟩ := bAnd q1
  refine ⟨_, of_decide_eq_true q2, fun S => ⟨?_, of_decide_eq_true q3⟩⟩
  have c : i = 0 ∨ i = 1 ∨ i = 2 ∨ i = 3 := by omega
  have c2 : r = 0 ∨ r = 1 ∨ r = 2 ∨ r = 3 ∨ r = 4 := by omega
  rcases c with rfl | rfl | rfl | rfl <;> rcases c2 with rfl | rfl | rfl | rfl | rfl <;> kernel_rfl
theorem ix_n4 (i : Nat) (hi : i < 4) {S : Sto} {n : Nat} (hn : S[n]? = some (.lst n4)) : gIx (.cell n) (.int (i : Nat)) S = .ok (.lst ((boxT.getD i []).map .str)) S := by
  have h : asQ2 S (.cell n) = some n4 := asL_cell hn
  have e : atI n4 (i : Int) = some (.lst ((boxT.getD i []).map .str)) := by
    have c : i = 0 ∨ i = 1 ∨ i = 2 ∨ i = 3 := by omega
    rcases c with rfl | rfl | rfl | rfl <;> rfl
  show (match asQ2 S (.cell n) with | some ds => (match atI ds (i : Int) with | some d => R.ok d S | none => .stuck) | none => .stuck) = _
  rw [h]
  dsimp only
  rw [e]
theorem pows (l : Nat) (hl : 1 ≤ l ∧ l ≤ 5) (S : Sto) : ∃ f : Int, gIx (.lst [.int 1, .int 2, .int 4, .int 8, .int 16, .int 32]) (.int (l : Nat)) S = .ok (.int f) S ∧ 1 ≤ f ∧ f ≤ 32 := by
  have c : l = 1 ∨ l = 2 ∨ l = 3 ∨ l = 4 ∨ l = 5 := by omega
  rcases c with rfl | rfl | rfl | rfl | rfl
  · exact ⟨2, rfl, by decide, by decide⟩
  · exact ⟨4, rfl, by decide, by decide⟩
  · exact ⟨8, rfl, by decide, by decide⟩
  · exact ⟨16, rfl, by decide, by decide⟩
  · exact ⟨32, rfl, by decide, by decide⟩
theorem set_app {S T : Sto} {k : Nat} {c : CO} (h : k < S.length) : (S ++ T).set k c = S.set k c ++ T := List.set_append_left _ _ h
theorem eq_str (x y : Str) (hx : PyData.canLay0 (.str x) = true) (hy : PyData.canLay0 (.str y) = true) (S : Sto) : gEq false (.str x) (.str y) S = .ok (.bl (x == y)) S := by
  have s1 : SeqAt.shaped (.str x) = true := by simp only [SeqAt.shaped, hx, Bool.true_and]; simp [PyData.depth]
  have s2 : SeqAt.shaped (.str y) = true := by simp only [SeqAt.shaped, hy, Bool.true_and]; simp [PyData.depth]
  show (if SeqAt.shaped (.str x) = true ∧ SeqAt.shaped (.str y) = true then R.ok (D.bl (PyData.eqv (.str x) (.str y))) S else .stuck) = _
  rw [if_pos ⟨s1, s2⟩]
  rfl
theorem nms_ix (i : Nat) (hi : i < 4) (S : Sto) : gIx (.lst [.str "hue", .str "size", .str "make", .str "x"]) (.int (i : Nat)) S = .ok (.str (nmsL.getD i "")) S := by
  have c : i = 0 ∨ i = 1 ∨ i = 2 ∨ i = 3 := by omega
  rcases c with rfl | rfl | rfl | rfl <;> rfl
theorem parts_turn {S : Sto} {k : Nat} {B mo m tot : Int} {i : Nat} {L : List Gp} {s7 s8 s9 : Sl} (hg : isG S k B) (hB : B ≤ 800000) (hi : i < 4) (hmo : 1 ≤ mo ∧ mo ≤ 5) (ht : 1 ≤ tot ∧ tot ≤ 2 ^ 40) (hL : L.length ≤ 4) :
    ∃ g tot' s7' s8' s9' L', B__law_parts_8 (pE k S.length m mo (.val (.int tot)) (.val (.int (i : Nat))) s7 s8 s9) (S ++ [.lst n4, .lst (L.map itF)]) = .ok (.nx (pE k S.length m mo (.val (.int tot')) (.val (.int (i : Nat))) s7' s8' s9')) (S.set k (.lst g) ++ [.lst n4, .lst (L'.map itF)]) ∧
      isG (S.set k (.lst g)) k (B + 3) ∧ clL g = true ∧ 1 ≤ tot' ∧ tot' ≤ tot * 32 ∧ ((L' = L ∧ 1024 < tot') ∨ ∃ gp, (GpP gp ∧ (gp.bx.length : Int) ≤ mo) ∧ gp.nm = nmsL.getD i "" ∧ L' = L ++ [gp]) := by
  have hk := hg.lt
  obtain ⟨r1, g1, e1, z1, i1, c1⟩ := rnd_ok (S := S ++ [.lst n4, .lst (L.map itF)]) hg.more (by omega) (n := 2) ⟨by decide, by decide⟩
  rw [set_app hk] at e1 i1
  have i1' : isG (S.set k (.lst g1)) k (B + 1) := by
    obtain ⟨x, y, z, q, r⟩ := i1
    rw [List.getElem?_append_left (by rw [List.length_set]; exact hk)] at q
    exact ⟨x, y, z, q, r⟩
  obtain ⟨r2, g2, e2, z2, i2, c2⟩ := rnd_ok (S := S.set k (.lst g1) ++ [.lst n4, .lst (L.map itF)]) i1'.more (by omega) (n := 2) ⟨by decide, by decide⟩
  rw [set_app i1'.lt, List.set_set] at e2 i2
  have i2' : isG (S.set k (.lst g2)) k (B + 1 + 1) := by
    obtain ⟨x, y, z, q, r⟩ := i2
    rw [List.getElem?_append_left (by rw [List.length_set]; exact hk)] at q
    exact ⟨x, y, z, q, r⟩
  obtain ⟨r3, g3, e3, z3, i3, c3⟩ := rnd_ok (S := S.set k (.lst g2) ++ [.lst n4, .lst (L.map itF)]) i2'.more (by omega) (n := mo) ⟨by omega, by omega⟩
  rw [set_app i2'.lt, List.set_set] at e3 i3
  have i3' : isG (S.set k (.lst g3)) k (B + 1 + 1 + 1) := by
    obtain ⟨x, y, z, q, r⟩ := i3
    rw [List.getElem?_append_left (by rw [List.length_set]; exact hk)] at q
    exact ⟨x, y, z, q, r⟩
  obtain ⟨md, m1, m2⟩ := two_or r1 z1 "or" "and" (S.set k (.lst g1) ++ [.lst n4, .lst (L.map itF)])
  obtain ⟨br, b1, b2⟩ := two_or r2 z2 "one" "many" (S.set k (.lst g2) ++ [.lst n4, .lst (L.map itF)])
  obtain ⟨rn, hr⟩ : ∃ rn : Nat, r3 = rn := ⟨r3.toNat, by omega⟩
  subst hr
  obtain ⟨bx, hbx, cut⟩ := cut_box i rn hi (by omega)
  have hlb : bx.length = 1 + rn := (cut []).2
  have hn : ∀ g : List D, (S.set k (.lst g) ++ [CO.lst n4, .lst (L.map itF)])[S.length]? = some (.lst n4) := fun g => by
    rw [List.getElem?_append_right (by rw [List.length_set]; exact Nat.le_refl _), List.length_set, Nat.sub_self]
    rfl
  have hn1 : ∀ g : List D, (S.set k (.lst g) ++ [CO.lst n4, .lst (L.map itF)])[S.length + 1]? = some (.lst (L.map itF)) := fun g => by
    rw [List.getElem?_append_right (by rw [List.length_set]; omega), List.length_set, Nat.add_sub_cancel_left]
    rfl
  -- mode, bears
  have q3 : F__law_parts_3 (pE k S.length m mo (.val (.int tot)) (.val (.int (i : Nat))) s7 s8 s9) (S ++ [.lst n4, .lst (L.map itF)]) = .ok (.nx (pE k S.length m mo (.val (.int tot)) (.val (.int (i : Nat))) (.val (.str md)) (.val (.str br)) s9)) (S.set k (.lst g2) ++ [.lst n4, .lst (L.map itF)]) := by
    have w : (aCons (f2 gIx (fFrz (oLst (aCons (fun _ => pure (.str "or")) (aCons (fun _ => pure (.str "and")) aNil)))) (fCall N__law_random [] (aCons (fVar 0) (aCons (fun _ => pure (.int 2)) aNil)))) (aCons (f2 gIx (fFrz (oLst (aCons (fun _ => pure (.str "one")) (aCons (fun _ => pure (.str "many")) aNil)))) (fCall N__law_random [] (aCons (fVar 0) (aCons (fun _ => pure (.int 2)) aNil)))) aNil)) (pE k S.length m mo (.val (.int tot)) (.val (.int (i : Nat))) s7 s8 s9) (S ++ [.lst n4, .lst (L.map itF)]) = .ok [.str md, .str br] (S.set k (.lst g2) ++ [.lst n4, .lst (L.map itF)]) :=
      ev_cons (ev_f2 (ev_frz (ev_lst (ev_cons ev_c (ev_cons ev_c ev_nil)))) (ev_call (ev_cons (ev_var rfl) (ev_cons ev_c ev_nil)) e1) m1) (ev_cons (ev_f2 (ev_frz (ev_lst (ev_cons ev_c (ev_cons ev_c ev_nil)))) (ev_call (ev_cons (ev_var rfl) (ev_cons ev_c ev_nil)) e2) b1) ev_nil)
    unfold F__law_parts_3 sPar
    rw [w]
    rfl
  have q4 : F__law_parts_4 (pE k S.length m mo (.val (.int tot)) (.val (.int (i : Nat))) (.val (.str md)) (.val (.str br)) s9) (S.set k (.lst g2) ++ [.lst n4, .lst (L.map itF)]) = .ok (.nx (pE k S.length m mo (.val (.int tot)) (.val (.int (i : Nat))) (.val (.str md)) (.val (.str br)) (.val (.lst (bx.map .str))))) (S.set k (.lst g3) ++ [.lst n4, .lst (L.map itF)]) := by
    refine ev_set (d := .lst (bx.map .str)) ?_
    have u1 : (f2 gIx (fVar 3) (fVar 6)) (pE k S.length m mo (.val (.int tot)) (.val (.int (i : Nat))) (.val (.str md)) (.val (.str br)) s9) (S.set k (.lst g2) ++ [.lst n4, .lst (L.map itF)]) = .ok (.lst ((boxT.getD i []).map .str)) (S.set k (.lst g2) ++ [.lst n4, .lst (L.map itF)]) := ev_f2 (ev_var rfl) (ev_var rfl) (ix_n4 i hi (hn g2))
    have u2 : (f2 gAdd (fun _ => pure (.int 1)) (fCall N__law_random [] (aCons (fVar 0) (aCons (fVar 2) aNil)))) (pE k S.length m mo (.val (.int tot)) (.val (.int (i : Nat))) (.val (.str md)) (.val (.str br)) s9) (S.set k (.lst g2) ++ [.lst n4, .lst (L.map itF)]) = .ok (.int (1 + (rn : Nat))) (S.set k (.lst g3) ++ [.lst n4, .lst (L.map itF)]) := ev_f2 ev_c (ev_call (ev_cons (ev_var rfl) (ev_cons (ev_var rfl) ev_nil)) e3) rfl
    unfold f3 pSome pNone
    rw [u1, bnd_ok]
    show ((R.ok none _).bnd fun l S2 => _) = _
    rw [bnd_ok, u2]
    exact (cut _).1
  have hbr : PyData.canLay0 (.str br) = true := by rcases b2 with rfl | rfl <;> decide +kernel
  obtain ⟨f, pw, f1, f32⟩ := pows bx.length ⟨by omega, by omega⟩ (S.set k (.lst g3) ++ [.lst n4, .lst (L.map itF)])
  have q5 : ∃ tot', F__law_parts_5 (pE k S.length m mo (.val (.int tot)) (.val (.int (i : Nat))) (.val (.str md)) (.val (.str br)) (.val (.lst (bx.map .str)))) (S.set k (.lst g3) ++ [.lst n4, .lst (L.map itF)]) = .ok (.nx (pE k S.length m mo (.val (.int tot')) (.val (.int (i : Nat))) (.val (.str md)) (.val (.str br)) (.val (.lst (bx.map .str))))) (S.set k (.lst g3) ++ [.lst n4, .lst (L.map itF)]) ∧ 1 ≤ tot' ∧ tot' ≤ tot * 32 := by
    have lenv : fArgs (a1 gLen) (aCons (fVar 9) aNil) (pE k S.length m mo (.val (.int tot)) (.val (.int (i : Nat))) (.val (.str md)) (.val (.str br)) (.val (.lst (bx.map .str)))) (S.set k (.lst g3) ++ [.lst n4, .lst (L.map itF)]) = .ok (.int bx.length) (S.set k (.lst g3) ++ [.lst n4, .lst (L.map itF)]) := by
      refine ev_args (ev_cons (ev_var rfl) ev_nil) ?_
      rw [ev_len (ds := bx.map .str) (fun z e => by cases e) rfl, List.length_map]
    have t1 : ∃ c : Bool, (fAndT (fB (f2 (gEq false) (fVar 8) (fun _ => pure (.str "one")))) (fB (f2 (gOrd (fun i j => decide (j < i))) (fVar 6) (fun _ => pure (.int 0))))) (pE k S.length m mo (.val (.int tot)) (.val (.int (i : Nat))) (.val (.str md)) (.val (.str br)) (.val (.lst (bx.map .str)))) (S.set k (.lst g3) ++ [.lst n4, .lst (L.map itF)]) = .ok c (S.set k (.lst g3) ++ [.lst n4, .lst (L.map itF)]) := by
      cases hb : (br == ("one" : Str)) with
      | false => exact ⟨false, ev_andT_f (ev_fB (ev_f2 (ev_var rfl) ev_c (by rw [eq_str _ _ hbr (by decide +kernel), hb])))⟩
      | true => exact ⟨_, ev_andT_t (ev_fB (ev_f2 (ev_var rfl) ev_c (by rw [eq_str _ _ hbr (by decide +kernel), hb]))) (ev_fB (ev_f2 (ev_var rfl) ev_c rfl))⟩
    obtain ⟨c, hc⟩ := t1
    have b100 : tot.natAbs < 2 ^ 100 := by
      have e1 : (2 : Int) ^ 40 = 1099511627776 := by decide
      have e2 : (2 : Nat) ^ 100 = 1267650600228229401496703205376 := by decide
      omega
    cases c with
    | true =>
      refine ⟨tot * bx.length, ev_set (ev_f2 (ev_var rfl) (ev_ifT_t hc lenv) (mul_ok b100 ?_ _)), ?_, ?_⟩
      · have e2 : (2 : Nat) ^ 100 = 1267650600228229401496703205376 := by decide
        omega
      · have : (1 : Int) ≤ bx.length := by omega
        exact Int.le_trans ht.1 (by have := Int.mul_le_mul_of_nonneg_left this (by omega : 0 ≤ tot); omega)
      · exact Int.mul_le_mul_of_nonneg_left (by omega) (by omega)
    | false =>
      refine ⟨tot * f, ev_set (ev_f2 (ev_var rfl) (ev_ifT_f hc (ev_f2 (ev_frz (ev_lst (ev_cons ev_c (ev_cons ev_c (ev_cons ev_c (ev_cons ev_c (ev_cons ev_c (ev_cons ev_c ev_nil)))))))) lenv pw)) (mul_ok b100 ?_ _)), ?_, ?_⟩
      · have e2 : (2 : Nat) ^ 100 = 1267650600228229401496703205376 := by decide
        omega
      · exact Int.le_trans ht.1 (by have := Int.mul_le_mul_of_nonneg_left f1 (by omega : 0 ≤ tot); omega)
      · exact Int.mul_le_mul_of_nonneg_left f32 (by omega)
  obtain ⟨tot', q5, ta, tb⟩ := q5
  have i3'' := i3'.le (C := B + 3) (by omega)
  by_cases hc : tot' ≤ 1024
  · refine ⟨g3, tot', .val (.str md), .val (.str br), .val (.lst (bx.map .str)), L ++ [⟨nmsL.getD i "", md, br, bx⟩], ev_seq q3 (ev_seq q4 (ev_seq q5 ?_)), i3'', c3, ta, tb, .inr ⟨_, ⟨⟨m2, b2, hbx⟩, by show (bx.length : Int) ≤ mo; omega⟩, rfl, rfl⟩⟩
    refine ev_if_t (ev_fB (ev_f2 (ev_var rfl) ev_c (by rw [ord_le, decide_eq_true hc]))) ?_
    have a := ev_appC (i := 4) (k := S.length + 1) (ds := L.map itF) (d := itF ⟨nmsL.getD i "", md, br, bx⟩) (env := pE k S.length m mo (.val (.int tot')) (.val (.int (i : Nat))) (.val (.str md)) (.val (.str br)) (.val (.lst (bx.map .str)))) (S := S.set k (.lst g3) ++ [.lst n4, .lst (L.map itF)]) (S1 := S.set k (.lst g3) ++ [.lst n4, .lst (L.map itF)])
      (F := fTup (aCons (f2 gIx (fFrz (oLst (aCons (fun _ => pure (.str "hue")) (aCons (fun _ => pure (.str "size")) (aCons (fun _ => pure (.str "make")) (aCons (fun _ => pure (.str "x")) aNil)))))) (fVar 6)) (aCons (fVar 7) (aCons (fVar 8) (aCons (fVar 9) aNil))))) rfl (by rw [lstAt_cell (hn1 g3)]; rfl)
      (ev_tup (ev_cons (ev_f2 (ev_frz (ev_lst (ev_cons ev_c (ev_cons ev_c (ev_cons ev_c (ev_cons ev_c ev_nil)))))) (ev_var rfl) (nms_ix i hi _)) (ev_cons (ev_var rfl) (ev_cons (ev_var rfl) (ev_cons (ev_var rfl) ev_nil))))) (hn1 g3) (by rw [len_its]; omega)
    refine a.trans ?_
    rw [List.set_append_right _ _ (by rw [List.length_set]; omega), List.length_set, Nat.add_sub_cancel_left, List.map_append]
    rfl
  · refine ⟨g3, tot', .val (.str md), .val (.str br), .val (.lst (bx.map .str)), L, ev_seq q3 (ev_seq q4 (ev_seq q5 ?_)), i3'', c3, ta, tb, .inl ⟨rfl, by omega⟩⟩
    exact ev_skip (ev_fB (ev_f2 (ev_var rfl) ev_c (by rw [ord_le, decide_eq_false hc])))
end HT.C
set_option maxRecDepth 100000
set_option maxHeartbeats 1000000
namespace HT.C
open PySem PySem.Spec L2
open PyProof.Rows hiding St
def itemsR (i j : Nat) : List D := (List.range' i j).map fun n => D.int (n : Nat)
theorem itemsR_cons (i j : Nat) : itemsR i (j + 1) = .int (i : Nat) :: itemsR (i + 1) j := by
  unfold itemsR
  rw [List.range'_succ, List.map_cons]
theorem rng_items (M : Nat) : rngD 0 (M : Nat) = itemsR 0 M := by
  unfold rngD itemsR
  rw [show ((M : Int) - 0).toNat = M from by omega, List.range_eq_range']
  exact List.map_congr_left fun n _ => congrArg D.int (Int.zero_add _)
theorem krg_ok (z : Int) (h : InRg z) (S : Sto) : kRg1 [.int z] S = .ok (rngD 0 z, .fz) S := by
  unfold kRg1
  simp only [h, if_true]
  rfl
theorem rng1 {env : Env} {S : Sto} {F : FE} {M : Nat} (h : F env S = .ok (.int (M : Nat)) S) (hM : M ≤ 1000000) : iRg1 (aCons F aNil) env S = .ok (itemsR 0 M, .fz) S := by
  unfold iRg1
  rw [ev_cons h ev_nil, bnd_ok, krg_ok _ (by unfold InRg; omega), rng_items]
theorem take_next (i : Nat) (hi : i < 4) : nmsL.take (i + 1) = nmsL.take i ++ [nmsL.getD i ""] := by
  have c : i = 0 ∨ i = 1 ∨ i = 2 ∨ i = 3 := by omega
  rcases c with rfl | rfl | rfl | rfl <;> rfl
theorem isG.set {S : Sto} {k : Nat} {B : Int} (h : isG S k B) : ∃ g, S = S.set k (.lst g) ∧ clL g = true := by
  obtain ⟨g0, g1, g2, hk, _⟩ := h
  refine ⟨_, ?_, (rfl : clL [D.int g0, D.int g1, D.int g2] = true)⟩
  have hl := (List.getElem?_eq_some_iff.mp hk)
  obtain ⟨h1, h2⟩ := hl
  rw [← h2]
  exact (List.set_getElem_self h1).symm
theorem parts_loop {k : Nat} {mo m : Int} (hmo : 1 ≤ mo ∧ mo ≤ 5) : ∀ (j i : Nat) (S : Sto) (B tot : Int) (L : List Gp) (s6 s7 s8 s9 : Sl), i + j ≤ 4 → isG S k B → B + 3 * j ≤ 800000 → 1 ≤ tot → tot * 32 ^ j ≤ 2 ^ 40 → (∀ g ∈ L, GpP g ∧ (g.bx.length : Int) ≤ mo) → (L.map (·.nm)).Sublist (nmsL.take i) →
    ∃ (g : List D) (tot' : Int) (s6' s7' s8' s9' : Sl) (L' : List Gp), loopD (.one 6) .fz B__law_parts_8 (itemsR i j) (pE k S.length m mo (.val (.int tot)) s6 s7 s8 s9) (S ++ [.lst n4, .lst (L.map itF)]) = .ok (.nx (pE k S.length m mo (.val (.int tot')) s6' s7' s8' s9')) (S.set k (.lst g) ++ [.lst n4, .lst (L'.map itF)]) ∧
      isG (S.set k (.lst g)) k (B + 3 * j) ∧ clL g = true ∧ (∀ g ∈ L', GpP g ∧ (g.bx.length : Int) ≤ mo) ∧ (L'.map (·.nm)).Sublist (nmsL.take (i + j)) ∧ ((1 ≤ L.length ∨ (1 ≤ j ∧ tot ≤ 32)) → 1 ≤ L'.length)
  | 0, i, S, B, tot, L, s6, s7, s8, s9, hi, hg, hB, ht, ht2, ok, sb => by
    obtain ⟨g, e, c⟩ := hg.set
    refine ⟨g, tot, s6, s7, s8, s9, L, ?_, by rw [← e]; exact hg.le (by omega), c, ok, sb, fun h => by rcases h with h | ⟨h, _⟩ <;> omega⟩
    rw [← e]
    exact loop_nil rfl
  | j + 1, i, S, B, tot, L, s6, s7, s8, s9, hi, hg, hB, ht, ht2, ok, sb => by
    have p32 : (1 : Int) ≤ 32 ^ j := Int.pow_pos (by decide)
    have e32 : (32 : Int) ^ (j + 1) = 32 ^ j * 32 := Int.pow_succ ..
    have t40 : tot ≤ 2 ^ 40 := by
      have h1 : (1 : Int) ≤ 32 ^ (j + 1) := Int.pow_pos (by decide)
      have := Int.mul_le_mul_of_nonneg_left h1 (by omega : 0 ≤ tot)
      omega
    have hL : L.length ≤ 4 := by
      have := sb.length_le
      rw [List.length_map, List.length_take] at this
      omega
    obtain ⟨g, tot', s7', s8', s9', L1, e, i1, c1, t1, t2, q⟩ := parts_turn (S := S) (k := k) (B := B) (mo := mo) (m := m) (tot := tot) (i := i) (L := L) (s7 := s7) (s8 := s8) (s9 := s9) hg (by omega) (by omega) hmo ⟨ht, t40⟩ hL
    have nx : (∀ g ∈ L1, GpP g ∧ (g.bx.length : Int) ≤ mo) ∧ (L1.map (·.nm)).Sublist (nmsL.take (i + 1)) ∧ ((1 ≤ L.length ∨ tot ≤ 32) → 1 ≤ L1.length) := by
      rw [take_next i (by omega)]
      rcases q with ⟨rfl, q⟩ | ⟨gp, g1, g2, rfl⟩
      · refine ⟨ok, sb.trans (List.sublist_append_left _ _), fun h => ?_⟩
        rcases h with h | h
        · exact h
        · exfalso; omega
      · refine ⟨fun x hx => ?_, ?_, fun _ => by simp⟩
        · rcases List.mem_append.mp hx with h | h
          · exact ok x h
          · rw [List.mem_singleton.mp h]; exact g1
        · rw [List.map_append, List.map_cons, List.map_nil, g2]
          exact sb.append (List.Sublist.refl _)
    have tt : tot' * 32 ^ j ≤ 2 ^ 40 := by
      have h1 := Int.mul_le_mul_of_nonneg_right t2 (by omega : (0 : Int) ≤ 32 ^ j)
      have h2 : tot * 32 * 32 ^ j = tot * 32 ^ (j + 1) := by rw [e32, Int.mul_assoc, Int.mul_comm 32 (32 ^ j)]
      omega
    obtain ⟨g', tot2, a6, a7, a8, a9, L2, f1, f2, f3, f4, f5, f6⟩ := parts_loop hmo j (i + 1) (S.set k (.lst g)) (B + 3) tot' L1 (.val (.int (i : Nat))) s7' s8' s9' (by omega) i1 (by omega) t1 tt nx.1 nx.2.1
    rw [List.length_set, List.set_set] at f1
    rw [List.set_set] at f2
    refine ⟨g', tot2, a6, a7, a8, a9, L2, ?_, f2.le (by omega), f3, f4, by rw [show i + (j + 1) = i + 1 + j from by omega]; exact f5, fun h => f6 ?_⟩
    · rw [itemsR_cons]
      exact (loop_cons (e1 := pE k S.length m mo (.val (.int tot)) (.val (.int (i : Nat))) s7 s8 s9) rfl rfl e).trans f1
    · rcases h with h | h
      · exact .inl (nx.2.2 (.inl h))
      · exact .inl (nx.2.2 (.inr h.2))
theorem parts_okm {S : Sto} {k : Nat} {B : Int} {M : Nat} {mo : Int} (hg : isG S k B) (hB : B ≤ 700000) (hM : 1 ≤ M ∧ M ≤ 4) (hmo : 1 ≤ mo ∧ mo ≤ 5) :
    ∃ g ps, N__law_parts [.cell k, .int (M : Nat), .int mo] S = .ok (.lst (ps.map itF)) (S.set k (.lst g)) ∧ isG (S.set k (.lst g)) k (B + 12) ∧ PsOk ps ∧ ps.length ≤ M ∧ ∀ g ∈ ps, (g.bx.length : Int) ≤ mo := by
  obtain ⟨g, tot', s6', s7', s8', s9', ps, e, i1, c1, ok, sb, one⟩ := parts_loop (k := k) (mo := mo) (m := (M : Nat)) hmo M 0 S B 1 [] .un .un .un .un (by omega) hg (by omega) (by decide) (by
    have c : M = 1 ∨ M = 2 ∨ M = 3 ∨ M = 4 := by omega
    rcases c with rfl | rfl | rfl | rfl <;> decide) (fun g h => by cases h) (by simp)
  have sub := sb.trans (List.take_sublist _ _)
  have pok : PsOk ps := ⟨fun g hg => (ok g hg).1, ⟨sub.nodup (by decide +kernel), fun x hx => sub.subset hx, by have := sub.length_le; rw [List.length_map] at this; exact this⟩, one (.inr ⟨hM.1, by decide⟩)⟩
  refine ⟨g, ps, ?_, i1.le (by omega), pok, ?_⟩
  · have f2 : F__law_parts_2 [.val (.cell k), .val (.int (M : Nat)), .val (.int mo), .val (.cell S.length), .un, .un, .un, .un, .un, .un] (S ++ [.lst n4]) = .ok (.nx (pE k S.length (M : Nat) mo (.val (.int 1)) .un .un .un .un)) (S ++ [.lst n4, .lst (([] : List Gp).map itF)]) := by
      have w : (aCons (fCell (oLst aNil)) (aCons (fun _ => pure (.int 1)) aNil)) [.val (.cell k), .val (.int (M : Nat)), .val (.int mo), .val (.cell S.length), .un, .un, .un, .un, .un, .un] (S ++ [.lst n4]) = .ok [.cell (S.length + 1), .int 1] (S ++ [.lst n4, .lst (([] : List Gp).map itF)]) := by
        have := ev_cons (Fa := fCell (oLst aNil)) (Fr := aCons (fun _ => pure (.int 1)) aNil) (env := [.val (.cell k), .val (.int (M : Nat)), .val (.int mo), .val (.cell S.length), .un, .un, .un, .un, .un, .un]) (ev_cell (S := S ++ [.lst n4]) (ev_lst ev_nil)) (ev_cons ev_c ev_nil)
        simpa using this
      unfold F__law_parts_2 sPar
      rw [w]
      rfl
    have f0 : F__law_parts_0 [.val (.cell k), .val (.int (M : Nat)), .val (.int mo), .un, .un, .un, .un, .un, .un, .un] S = .ok (.nx [.val (.cell k), .val (.int (M : Nat)), .val (.int mo), .val (.cell S.length), .un, .un, .un, .un, .un, .un]) (S ++ [.lst (n4.take 3)]) :=
      ev_set (ev_cell (ev_lst (ev_cons (ev_frz (ev_lst (ev_cons ev_c (ev_cons ev_c (ev_cons ev_c (ev_cons ev_c (ev_cons ev_c ev_nil))))))) (ev_cons (ev_frz (ev_lst (ev_cons ev_c (ev_cons ev_c (ev_cons ev_c (ev_cons ev_c (ev_cons ev_c ev_nil))))))) (ev_cons (ev_frz (ev_lst (ev_cons ev_c (ev_cons ev_c (ev_cons ev_c (ev_cons ev_c (ev_cons ev_c ev_nil))))))) ev_nil)))))
    have hk3 : (S ++ [CO.lst (n4.take 3)])[S.length]? = some (.lst (n4.take 3)) := by simp
    have f1 : F__law_parts_1 [.val (.cell k), .val (.int (M : Nat)), .val (.int mo), .val (.cell S.length), .un, .un, .un, .un, .un, .un] (S ++ [.lst (n4.take 3)]) = .ok (.nx [.val (.cell k), .val (.int (M : Nat)), .val (.int mo), .val (.cell S.length), .un, .un, .un, .un, .un, .un]) (S ++ [.lst n4]) := by
      have a := ev_appC (i := 3) (k := S.length) (ds := n4.take 3) (env := [.val (.cell k), .val (.int (M : Nat)), .val (.int mo), .val (.cell S.length), .un, .un, .un, .un, .un, .un]) (S := S ++ [.lst (n4.take 3)]) (F := fFrz (oLst (aCons (fun _ => pure (.str "a")) (aCons (fun _ => pure (.str "b")) (aCons (fun _ => pure (.str "red")) (aCons (fun _ => pure (.str "d")) (aCons (fun _ => pure (.str "abcdefgh")) aNil))))))) rfl (by rw [lstAt_cell hk3]; rfl)
        (ev_frz (ev_lst (ev_cons ev_c (ev_cons ev_c (ev_cons ev_c (ev_cons ev_c (ev_cons ev_c ev_nil))))))) hk3 (by decide)
      refine a.trans ?_
      simp
      rfl
    have f9 : F__law_parts_9 (pE k S.length (M : Nat) mo (.val (.int 1)) .un .un .un .un) (S ++ [.lst n4, .lst (([] : List Gp).map itF)]) = .ok (.nx (pE k S.length (M : Nat) mo (.val (.int tot')) s6' s7' s8' s9')) (S.set k (.lst g) ++ [.lst n4, .lst (ps.map itF)]) := by
      exact ev_for (ds := itemsR 0 M) (src := .fz) (S1 := S ++ [.lst n4, .lst (([] : List Gp).map itF)]) (rng1 (ev_var rfl) (by omega)) rfl e
    have f10 : F__law_parts_10 (pE k S.length (M : Nat) mo (.val (.int tot')) s6' s7' s8' s9') (S.set k (.lst g) ++ [.lst n4, .lst (ps.map itF)]) = .ok (.rt (.cell (S.length + 1))) (S.set k (.lst g) ++ [.lst n4, .lst (ps.map itF)]) := ev_ret (ev_var rfl)
    have raw : M__law_parts [.cell k, .int (M : Nat), .int mo] S = .ok (.cell (S.length + 1)) (S.set k (.lst g) ++ [.lst n4, .lst (ps.map itF)]) := mk_rt rfl rfl (ev_seq f0 (ev_seq f1 (ev_seq f2 (ev_seq f9 f10))))
    refine mlt_cell raw (by simp) (fun f => ?_) ?_
    · show (meltL f g).map CO.lst = _
      rw [meltL_cl f g c1]
      rfl
    · refine melt_new (c := .lst (ps.map itF)) (by omega) ?_ ?_
      · rw [List.getElem?_append_right (by rw [List.length_set]; omega), List.length_set, Nat.add_sub_cancel_left]
        rfl
      · show (meltL _ (ps.map itF)).map CO.lst = _
        rw [meltL_cl _ _ (cl_its ps)]
        rfl
  · refine ⟨?_, fun g hg => (ok g hg).2⟩
    have := sb.length_le
    rw [List.length_map, List.length_take] at this
    omega
end HT.C
set_option maxRecDepth 100000
set_option maxHeartbeats 1000000
namespace HT.C
open PySem PySem.Spec L2
open PyProof.Rows hiding St
def pdG (g : Gp) : PyData := .tuple [.str g.nm, .str g.md, .str g.br, .list (g.bx.map .str)]
def pdL (ps : List Gp) : PyData := .list (ps.map pdG)
theorem ok_mem {x : Str} : PyData.strOk x = true ↔ ∀ c ∈ x.cps.toList, c < 0x110000 := by
  unfold PyData.strOk
  rw [← Array.all_toList, List.all_eq_true]
  simp only [decide_eq_true_eq]
theorem ok_app {x y : Str} (hx : PyData.strOk x = true) (hy : PyData.strOk y = true) : PyData.strOk (x ++ y) = true := by
  rw [ok_mem] at *
  intro c hc
  rw [cps_toList_append] at hc
  rcases List.mem_append.mp hc with h | h
  · exact hx c h
  · exact hy c h
theorem ok_join {s : Str} {ts : List Str} (hs : PyData.strOk s = true) (ht : ∀ t ∈ ts, PyData.strOk t = true) : PyData.strOk (Str.join s ts) = true := by
  rw [ok_mem]
  intro c hc
  rcases (mem_join s c ts).mp hc with ⟨t, h1, h2⟩ | ⟨_, h⟩
  · exact ok_mem.mp (ht t h1) c h2
  · exact ok_mem.mp hs c h
theorem ok_list {xs : List PyData} (h : ∀ x ∈ xs, PyData.strOk x.shown = true) : PyData.strOk (PyData.list xs).shown = true := by
  rw [PyData.shown_list, shownAll_eq_map]
  refine ok_app (ok_app (by decide +kernel) (ok_join (by decide +kernel) fun t ht => ?_)) (by decide +kernel)
  obtain ⟨x, hx, rfl⟩ := List.mem_map.mp ht
  exact h x hx
theorem ok_tuple {xs : List PyData} (h : ∀ x ∈ xs, PyData.strOk x.shown = true) : PyData.strOk (PyData.tuple xs).shown = true := by
  rw [PyData.shown_tuple, shownAll_eq_map]
  refine ok_app (ok_app (by decide +kernel) (ok_join (by decide +kernel) fun t ht => ?_)) (by split <;> decide +kernel)
  obtain ⟨x, hx, rfl⟩ := List.mem_map.mp ht
  exact h x hx
def goodS (x : Str) : Bool := decide (x.cps.size ≤ 8) && (PyData.canLay0 (.str x) && (PyData.leavesShort 8 (.str x) && PyData.strOk (PyData.shown (.str x))))
structure GpS (g : Gp) : Prop where
  nm : goodS g.nm = true
  md : goodS g.md = true
  br : goodS g.br = true
  bx : ∀ x ∈ g.bx, goodS x = true
  len : g.bx.length ≤ 5
theorem GpOk.s {g : Gp} (h : GpOk g) : GpS g := by
  have q1 : (grpW.all goodS) = true := by decide +kernel
  have q2 : (boxW.all fun l => l.all goodS) = true := by decide +kernel
  refine ⟨List.all_eq_true.mp q1 _ h.nm, ?_, ?_, fun x hx => List.all_eq_true.mp (List.all_eq_true.mp q2 _ h.bx) x hx, (bx_len h.bx).2⟩
  · rcases h.md with e | e <;> rw [e] <;> decide +kernel
  · rcases h.br with e | e <;> rw [e] <;> decide +kernel
theorem goodS_lay {x : Str} (h : goodS x = true) : PyData.canLay0 (.str x) = true := (bAnd (bAnd h).2).1
theorem goodS_short {x : Str} (h : goodS x = true) : PyData.leavesShort 8 (.str x) = true := (bAnd (bAnd (bAnd h).2).2).1
theorem goodS_tx {x : Str} (h : goodS x = true) : PyData.strOk (PyData.shown (.str x)) = true := (bAnd (bAnd (bAnd h).2).2).2
theorem goodS_size {x : Str} (h : goodS x = true) : x.cps.size ≤ 8 := of_decide_eq_true (bAnd h).1
theorem strs_short {l : List Str} (h : ∀ x ∈ l, goodS x = true) : PyData.leavesShortAll 8 (l.map .str) = true := by
  induction l with
  | nil => simp [PyData.leavesShortAll]
  | cons a l ih =>
    simp only [List.map_cons, PyData.leavesShortAll, goodS_short (h a List.mem_cons_self), ih fun x hx => h x (List.mem_cons_of_mem _ hx), Bool.and_self]
theorem strs_bulk {l : List Str} (h : ∀ x ∈ l, goodS x = true) : PyData.bulkAll (l.map .str) ≤ 9 * l.length := by
  induction l with
  | nil => simp [PyData.bulkAll]
  | cons a l ih =>
    have h1 := goodS_size (h a List.mem_cons_self)
    have h2 := ih fun x hx => h x (List.mem_cons_of_mem _ hx)
    simp only [List.map_cons, PyData.bulkAll, PyData.bulk, List.length_cons]
    omega
theorem strs_show (l : List Str) : PyData.showableAll (l.map .str) = true := by
  induction l with
  | nil => simp [PyData.showableAll]
  | cons a l ih => simp only [List.map_cons, PyData.showableAll, PyData.showable, ih, Bool.and_self]
structure Fine (p : PyData) (n : Nat) : Prop where
  lay : p.canLay0 = true
  short : p.leavesShort 8 = true
  bulk : p.bulk ≤ n
  sh : p.showable = true
  dp : p.depth ≤ 10
  tx : PyData.strOk p.shown = true
theorem fineG {g : Gp} (h : GpS g) : Fine (pdG g) 80 := by
  have b := strs_bulk h.bx
  have l := h.len
  have b1 := goodS_size h.nm
  have b2 := goodS_size h.md
  have b3 := goodS_size h.br
  have d := depth_strs g.bx
  refine ⟨?_, ?_, ?_, ?_, ?_, ?_⟩
  · have q := lay_strs g.bx fun x hx => goodS_lay (h.bx x hx)
    have a1 := goodS_lay h.nm
    have a2 := goodS_lay h.md
    have a3 := goodS_lay h.br
    simp only [PyData.canLay0] at a1 a2 a3
    simp only [pdG, PyData.canLay0, PyData.canLayAll0, a1, a2, a3, q, Bool.and_self]
  · simp only [pdG, PyData.leavesShort, PyData.leavesShortAll]
    have a1 := goodS_short h.nm
    have a2 := goodS_short h.md
    have a3 := goodS_short h.br
    simp only [PyData.leavesShort] at a1 a2 a3
    simp only [a1, a2, a3, strs_short h.bx, Bool.and_self]
  · simp only [pdG, PyData.bulk, PyData.bulkAll]
    omega
  · simp only [pdG, PyData.showable, PyData.showableAll, strs_show, Bool.and_self]
  · simp only [pdG, PyData.depth, PyData.depthAll]
    omega
  · refine ok_tuple fun x hx => ?_
    simp only [List.mem_cons, List.not_mem_nil, or_false] at hx
    rcases hx with rfl | rfl | rfl | rfl
    · exact goodS_tx h.nm
    · exact goodS_tx h.md
    · exact goodS_tx h.br
    · refine ok_list fun x hx => ?_
      obtain ⟨y, hy, rfl⟩ := List.mem_map.mp hx
      exact goodS_tx (h.bx y hy)
theorem fineL {l : List PyData} {n : Nat} (h : ∀ p ∈ l, Fine p n ∧ p.depth ≤ 9) (hl : l.length ≤ 1000) : Fine (.list l) ((n + 1) * l.length) := by
  have tx := ok_list (xs := l) fun x hx => (h x hx).1.tx
  have q : PyData.canLayAll0 l = true ∧ PyData.leavesShortAll 8 l = true ∧ PyData.bulkAll l ≤ (n + 1) * l.length ∧ PyData.showableAll l = true ∧ PyData.depthAll l ≤ 9 := by
    clear hl tx
    induction l with
    | nil => exact ⟨rfl, by simp [PyData.leavesShortAll], by simp [PyData.bulkAll], by simp [PyData.showableAll], by simp [PyData.depthAll]⟩
    | cons a l ih =>
      obtain ⟨c1, c2, c3, c4, c5⟩ := ih fun p hp => h p (List.mem_cons_of_mem _ hp)
      obtain ⟨⟨a1, a2, a3, a4, a5, _⟩, a6⟩ := h a List.mem_cons_self
      refine ⟨by simp only [PyData.canLayAll0, a1, c1, Bool.and_self], by simp only [PyData.leavesShortAll, a2, c2, Bool.and_self], ?_, by simp only [PyData.showableAll, a4, c4, Bool.and_self], by simp only [PyData.depthAll]; omega⟩
      simp only [PyData.bulkAll, List.length_cons, Nat.mul_succ]
      omega
  obtain ⟨c1, c2, c3, c4, c5⟩ := q
  exact ⟨by simp only [PyData.canLay0, c1], by simp only [PyData.leavesShort, c2], by simp only [PyData.bulk]; exact c3, by simp only [PyData.showable, c4], by simp only [PyData.depth]; omega, tx⟩
theorem depthG {g : Gp} (h : GpS g) : (pdG g).depth ≤ 9 := by
  have d := depth_strs g.bx
  simp only [pdG, PyData.depth, PyData.depthAll]
  omega
theorem finePs {ps : List Gp} (h : ∀ g ∈ ps, GpS g) (hl : ps.length ≤ 10) : Fine (pdL ps) 810 := by
  have q := fineL (l := ps.map pdG) (n := 80) (fun p hp => by
    obtain ⟨g, hg, rfl⟩ := List.mem_map.mp hp
    exact ⟨fineG (h g hg), depthG (h g hg)⟩) (by rw [List.length_map]; omega)
  rw [List.length_map] at q
  exact ⟨q.lay, q.short, Nat.le_trans q.bulk (by omega), q.sh, q.dp, q.tx⟩
theorem Fine.shaped {p : PyData} {n : Nat} (h : Fine p n) : SeqAt.shaped p = true := by
  have := h.dp
  simp only [SeqAt.shaped, h.lay, Bool.true_and, decide_eq_true_eq]
  omega
theorem Fine.size {p : PyData} {n : Nat} (h : Fine p n) (hn : n ≤ 100000) : p.shown.length ≤ sizeLine := by
  have := PyData.shown_le_bulk 8 (Nat.le_refl _) p h.short
  have b := h.bulk
  rw [sizeLine_eq]
  omega
theorem eq_same {x y : D} {p : PyData} {S : Sto} {neg : Bool} (hx : deep S x = some p) (hy : deep S y = some p) (hp : SeqAt.shaped p = true) (hl : p.canLay0 = true) : gEq neg x y S = .ok (.bl (!neg)) S := by
  unfold gEq
  rw [hx, hy]
  dsimp only
  rw [if_pos ⟨hp, hp⟩, SeqAt.eqv_refl p hl]
  cases neg <;> rfl
theorem Fine.txl {p : PyData} {n : Nat} (h : Fine p n) : PyData.canLay0 (.str p.shown) = true := by
  have := h.tx
  simp only [PyData.canLay0, this]
theorem dq_strs (f : Nat → Option PyData) (l : List Str) : dqL f (l.map .str) = some (l.map .str) := by
  induction l with
  | nil => rfl
  | cons a l ih => show (match dq0 f (.str a), dqL f (l.map .str) with | some a, some b => some (a :: b) | _, _ => none) = _; rw [ih]; rfl
theorem dq_it (f : Nat → Option PyData) (g : Gp) : dq0 f (itF g) = some (pdG g) := by
  show (match some (PyData.str g.nm), (match some (PyData.str g.md), (match some (PyData.str g.br), (match (dqL f (g.bx.map .str)).map PyData.list, some ([] : List PyData) with | some a, some b => some (a :: b) | _, _ => none) with | some a, some b => some (a :: b) | _, _ => none) with | some a, some b => some (a :: b) | _, _ => none) with | some a, some b => some (a :: b) | _, _ => none).map PyData.tuple = _
  rw [dq_strs]
  rfl
theorem dq_its (f : Nat → Option PyData) (ps : List Gp) : dqL f (ps.map itF) = some (ps.map pdG) := by
  induction ps with
  | nil => rfl
  | cons g ps ih => show (match dq0 f (itF g), dqL f (ps.map itF) with | some a, some b => some (a :: b) | _, _ => none) = _; rw [dq_it, ih]; rfl
theorem deepq_ps (S : Sto) (ps : List Gp) : deepq S (.lst (ps.map itF)) = some (pdL ps) := by
  show (dqL (dqC S 4) (ps.map itF)).map PyData.list = _
  rw [dq_its]
  rfl
def bC (p : Gp) : CO := .lst (p.bx.map .str)
def gi : Nat → List Gp → List D
  | _, [] => []
  | n, p :: ps => .tup [.str p.nm, .str p.md, .str p.br, .cell n] :: gi (n + 1) ps
theorem gi_len : ∀ (n : Nat) (ps : List Gp), (gi n ps).length = ps.length
  | _, [] => rfl
  | n, p :: ps => by show (gi (n + 1) ps).length + 1 = _; rw [gi_len (n + 1) ps]; rfl
def BxAt (S : Sto) : Nat → List Gp → Prop
  | _, [] => True
  | n, p :: ps => S[n]? = some (bC p) ∧ BxAt S (n + 1) ps
theorem bx_new (S : Sto) (T : Sto) : ∀ ps : List Gp, BxAt (S ++ ps.map bC ++ T) S.length ps := fun ps => by
  induction ps generalizing S with
  | nil => trivial
  | cons p ps ih =>
    refine ⟨by simp, ?_⟩
    have := ih (S ++ [bC p])
    simpa using this
theorem BxAt.mono {S S' : Sto} : ∀ {n : Nat} {ps : List Gp}, (∀ (i : Nat) (c : CO), S[i]? = some c → S'[i]? = some c) → BxAt S n ps → BxAt S' n ps
  | _, [], _, _ => trivial
  | n, p :: ps, h, q => ⟨h _ _ q.1, BxAt.mono h q.2⟩
theorem gi_melt {S : Sto} {m : Nat} : ∀ {n : Nat} {ps : List Gp}, BxAt S n ps → meltL (meltC S 0 (m + 1)) (gi n ps) = some (ps.map itF)
  | _, [], _ => rfl
  | n, p :: ps, h => by
    have c : melt0 (meltC S 0 (m + 1)) (.cell n) = some (.lst (p.bx.map .str)) := melt_top h.1 (by
      show (meltL _ (p.bx.map .str)).map CO.lst = _
      rw [meltL_cl _ _ (cl_strs _)]
      rfl)
    show (match (match some (D.str p.nm), (match some (D.str p.md), (match some (D.str p.br), (match melt0 (meltC S 0 (m + 1)) (.cell n), some ([] : List D) with | some a, some b => some (a :: b) | _, _ => none) with | some a, some b => some (a :: b) | _, _ => none) with | some a, some b => some (a :: b) | _, _ => none) with | some a, some b => some (a :: b) | _, _ => none).map D.tup, meltL (meltC S 0 (m + 1)) (gi (n + 1) ps) with | some a, some b => some (a :: b) | _, _ => none) = _
    rw [c, gi_melt h.2]
    rfl
theorem comp_gi {Fe : FE} {env0 : Env} (f : Gp → D) (hb : ∀ p, ∃ e1, bindE (.many [1, 2, 3, 4]) (f p) env0 = some e1 ∧ ∀ S, Fe e1 S = .ok (.tup [.str p.nm, .str p.md, .str p.br, .cell S.length]) (S ++ [bC p])) :
    ∀ (ps : List Gp) (S : Sto), compL (.many [1, 2, 3, 4]) .fz (fun _ => pure true) Fe env0 (ps.map f) S = some (gi S.length ps, S ++ ps.map bC)
  | [], S => by unfold compL; rw [List.map_nil]; simp [chk, gi]
  | p :: ps, S => by
    obtain ⟨e1, h1, h2⟩ := hb p
    have ih := comp_gi f hb ps (S ++ [bC p])
    rw [List.map_cons]
    conv => lhs; unfold compL
    rw [if_pos (show chk .fz S = true from rfl), h1]
    dsimp only
    show (match nox (Fe e1 S) with
      | none => none
      | some (y, S2) => match compL (.many [1, 2, 3, 4]) .fz (fun _ => pure true) Fe env0 (ps.map f) S2 with
        | none => none
        | some (ys, S3) => some (y :: ys, S3)) = _
    rw [h2 S]
    show (match compL (.many [1, 2, 3, 4]) .fz (fun _ => pure true) Fe env0 (ps.map f) (S ++ [bC p]) with
        | none => none
        | some (ys, S3) => some (_ :: ys, S3)) = _
    rw [ih]
    simp [gi]
theorem copied_raw {S : Sto} {ps : List Gp} (hl : ps.length ≤ 100) : M__law_copied [.lst (ps.map itF)] S = .ok (.cell (S.length + ps.length)) (S ++ ps.map bC ++ [.lst (gi S.length ps)]) := by
  have c := comp_gi (Fe := fTup (aCons (fVar 1) (aCons (fVar 2) (aCons (fVar 3) (aCons (fCell (oOne gList (aCons (fVar 4) aNil))) aNil))))) (env0 := wipeE [.val (.lst (ps.map itF)), .un, .un, .un, .un] [1, 2, 3, 4]) itF
    (fun p => ⟨[.val (.lst (ps.map itF)), .val (.str p.nm), .val (.str p.md), .val (.str p.br), .val (.lst (p.bx.map .str))], rfl, fun S => ev_tup (ev_cons (ev_var rfl) (ev_cons (ev_var rfl) (ev_cons (ev_var rfl) (ev_cons (ev_cell (ev_one (ev_cons (ev_var rfl) ev_nil) rfl)) ev_nil))))⟩) ps S
  have q := ev_cell (ev_lc (env := [.val (.lst (ps.map itF)), .un, .un, .un, .un]) (S := S) (vs := [1, 2, 3, 4]) (b := .many [1, 2, 3, 4]) (ev_seqL (ev_var (i := 0) rfl)) c (by rw [gi_len]; omega))
  rw [show (S ++ ps.map bC).length = S.length + ps.length from by simp] at q
  exact mk_rt rfl rfl (ev_ret q)
theorem groups_raw {S : Sto} {ps : List Gp} (hl : ps.length ≤ 100) : M_Shop_groups [shopD ps] S = .ok (.cell (S.length + ps.length)) (S ++ ps.map bC ++ [.lst (gi S.length ps)]) := by
  have c := comp_gi (Fe := fTup (aCons (fVar 1) (aCons (fVar 2) (aCons (fVar 3) (aCons (fCell (oOne gList (aCons (fVar 4) aNil))) aNil))))) (env0 := wipeE [.val (shopD ps), .un, .un, .un, .un] [1, 2, 3, 4]) rowD
    (fun p => ⟨[.val (shopD ps), .val (.str p.nm), .val (.str p.md), .val (.str p.br), .val (.tup (p.bx.map .str))], rfl, fun S => ev_tup (ev_cons (ev_var rfl) (ev_cons (ev_var rfl) (ev_cons (ev_var rfl) (ev_cons (ev_cell (ev_one (ev_cons (ev_var rfl) ev_nil) rfl)) ev_nil))))⟩) ps S
  have q := ev_cell (ev_lc (env := [.val (shopD ps), .un, .un, .un, .un]) (S := S) (vs := [1, 2, 3, 4]) (b := .many [1, 2, 3, 4]) (ev_seqT (F := fFld ["Shop"] "rows" (vVar 0)) (ds := ps.map rowD) (S1 := S) rfl) c (by rw [gi_len]; omega))
  rw [show (S ++ ps.map bC).length = S.length + ps.length from by simp] at q
  exact mk_rt rfl rfl (ev_ret q)
theorem top_melt {ps : List Gp} : melt0 (meltC (([] : Sto) ++ ps.map bC ++ [.lst (gi 0 ps)]) 0 6) (.cell (0 + ps.length)) = some (.lst (ps.map itF)) := by
  have hk : (([] : Sto) ++ ps.map bC ++ [.lst (gi 0 ps)])[0 + ps.length]? = some (.lst (gi 0 ps)) := by simp
  have b : BxAt (([] : Sto) ++ ps.map bC ++ [.lst (gi 0 ps)]) 0 ps := bx_new [] _ ps
  have e : melt0 (meltC (([] : Sto) ++ ps.map bC ++ [.lst (gi 0 ps)]) 0 6) (.cell (0 + ps.length)) = meltC (([] : Sto) ++ ps.map bC ++ [.lst (gi 0 ps)]) 0 6 (0 + ps.length) := rfl
  rw [e]
  unfold meltC
  rw [if_neg (Nat.not_lt_zero _), hk]
  dsimp only
  show ((meltL _ (gi 0 ps)).map CO.lst).map frzD = _
  rw [gi_melt b]
  rfl
theorem copied_ok {S : Sto} {ps : List Gp} (hl : ps.length ≤ 100) : N__law_copied [.lst (ps.map itF)] S = .ok (.lst (ps.map itF)) S :=
  frm_cell (by show (clL (ps.map itF) && true) = true; rw [cl_its]; rfl) (copied_raw (S := []) hl) (by simp) top_melt
theorem groups_ok {S : Sto} {ps : List Gp} (hl : ps.length ≤ 100) : N_Shop_groups [shopD ps] S = .ok (.lst (ps.map itF)) S :=
  frm_cell (by show (clD (shopD ps) && true) = true; rw [cl_shop]; rfl) (groups_raw (S := []) hl) (by simp) top_melt
end HT.C
set_option maxRecDepth 100000
set_option maxHeartbeats 1000000
namespace HT.C
open PySem PySem.Spec L2
open PyProof.Rows hiding St
section
variable {env e1 : Env} {S S1 S2 S3 : Sto} {F G Fa Fb Fc : FE} {x y z d : D} {C : Str} {fs : List (Str × D)}
end
def enF : Nat → List Gp → List D
  | _, [] => []
  | j, g :: r => .tup [.int (j : Nat), rowD g] :: enF (j + 1) r
theorem enF_eq : ∀ (ps : List Gp) (j : Nat), ((ps.map rowD).mapIdx fun i d => D.tup [.int ((i + j : Nat) : Int), d]) = enF j ps
  | [], _ => rfl
  | g :: r, j => by
    rw [List.map_cons, List.mapIdx_cons]
    have := enF_eq r (j + 1)
    simp only [enF]
    rw [← this, Nat.zero_add]
    congr 1
    congr 1
    funext i d
    rw [show i + 1 + j = i + (j + 1) from by omega]
theorem enum_rows (ps : List Gp) : enumD (ps.map rowD) = enF 0 ps := enF_eq ps 0
end HT.C
set_option maxRecDepth 100000
set_option maxHeartbeats 1000000
namespace HT.C
open PySem PySem.Spec L2
open PyProof.Rows hiding St
def rowP (g : Gp) : PyData := .tuple [.str g.nm, .str g.md, .str g.br, .tuple (g.bx.map .str)]
theorem eqv_consA (x y : PyData) (xs ys : List PyData) : PyData.eqvAll (x :: xs) (y :: ys) = (PyData.eqv x y && PyData.eqvAll xs ys) := by rw [PyData.eqvAll]
theorem eqv_strs : ∀ a b : List Str, PyData.eqvAll (a.map .str) (b.map .str) = true ↔ a = b
  | [], [] => by simp [PyData.eqvAll]
  | [], _ :: _ => by simp [PyData.eqvAll]
  | _ :: _, [] => by simp [PyData.eqvAll]
  | x :: a, y :: b => by
    rw [List.map_cons, List.map_cons, eqv_consA, Bool.and_eq_true, eqv_strs a b, List.cons.injEq]
    simp only [PyData.eqv, beq_iff_eq]
theorem eqv_row (a b : Gp) : PyData.eqv (rowP a) (rowP b) = true ↔ a = b := by
  obtain ⟨a1, a2, a3, a4⟩ := a
  obtain ⟨b1, b2, b3, b4⟩ := b
  simp only [rowP, PyData.eqv, PyData.eqvAll, Bool.and_eq_true, beq_iff_eq, eqv_strs, Gp.mk.injEq, and_true]
theorem eqv_rows : ∀ a b : List Gp, PyData.eqvAll (a.map rowP) (b.map rowP) = true ↔ a = b
  | [], [] => by simp [PyData.eqvAll]
  | [], _ :: _ => by simp [PyData.eqvAll]
  | _ :: _, [] => by simp [PyData.eqvAll]
  | x :: a, y :: b => by rw [List.map_cons, List.map_cons, eqv_consA, Bool.and_eq_true, eqv_rows a b, List.cons.injEq, eqv_row]
def rowsP (ps : List Gp) : PyData := .tuple (ps.map rowP)
theorem rows_shaped {ps : List Gp} (h : ∀ g ∈ ps, GpS g) : SeqAt.shaped (rowsP ps) = true := by
  have q : PyData.canLayAll0 (ps.map rowP) = true ∧ PyData.depthAll (ps.map rowP) ≤ 9 := by
    induction ps with
    | nil => exact ⟨rfl, by simp [PyData.depthAll]⟩
    | cons g ps ih =>
      obtain ⟨c1, c2⟩ := ih fun x hx => h x (List.mem_cons_of_mem _ hx)
      have hg := h g List.mem_cons_self
      have q := lay_strs g.bx fun x hx => goodS_lay (hg.bx x hx)
      have d := depth_strs g.bx
      have a1 := goodS_lay hg.nm
      have a2 := goodS_lay hg.md
      have a3 := goodS_lay hg.br
      simp only [PyData.canLay0] at a1 a2 a3
      refine ⟨by simp only [List.map_cons, PyData.canLayAll0, rowP, PyData.canLay0, a1, a2, a3, q, c1, Bool.and_self], ?_⟩
      simp only [List.map_cons, PyData.depthAll, rowP, PyData.depth]
      omega
  simp only [SeqAt.shaped, rowsP, PyData.canLay0, q.1, PyData.depth, Bool.true_and, decide_eq_true_eq]
  omega
theorem deep_row (f : Nat → Option PyData) (g : Gp) : deep0 f (rowD g) = some (rowP g) := by
  show (match some (PyData.str g.nm), (match some (PyData.str g.md), (match some (PyData.str g.br), (match (deepL f (g.bx.map .str)).map PyData.tuple, some ([] : List PyData) with | some a, some b => some (a :: b) | _, _ => none) with | some a, some b => some (a :: b) | _, _ => none) with | some a, some b => some (a :: b) | _, _ => none) with | some a, some b => some (a :: b) | _, _ => none).map PyData.tuple = _
  rw [strs_d0]
  rfl
theorem deep_rowL (f : Nat → Option PyData) (ps : List Gp) : deepL f (ps.map rowD) = some (ps.map rowP) := by
  induction ps with
  | nil => rfl
  | cons g ps ih => show (match deep0 f (rowD g), deepL f (ps.map rowD) with | some a, some b => some (a :: b) | _, _ => none) = _; rw [deep_row, ih]; rfl
theorem deep_rows (S : Sto) (ps : List Gp) : deep S (.tup (ps.map rowD)) = some (rowsP ps) := by
  show (deepL (deepC S 4) (ps.map rowD)).map PyData.tuple = _
  rw [deep_rowL]
  rfl
theorem eq_rows {ps qs : List Gp} {S : Sto} {neg : Bool} (h1 : ∀ g ∈ ps, GpS g) (h2 : ∀ g ∈ qs, GpS g) (b : Bool) (hb : b = true ↔ ps = qs) : gEq neg (.tup (ps.map rowD)) (.tup (qs.map rowD)) S = .ok (.bl (if neg then !b else b)) S := by
  unfold gEq
  rw [deep_rows, deep_rows]
  dsimp only
  rw [if_pos ⟨rows_shaped h1, rows_shaped h2⟩]
  have e : PyData.eqv (rowsP ps) (rowsP qs) = b := by
    have q : PyData.eqv (rowsP ps) (rowsP qs) = true ↔ ps = qs := by
      unfold rowsP
      rw [PyData.eqv]
      exact eqv_rows ps qs
    exact Bool.eq_iff_iff.mpr (q.trans hb.symm)
  rw [e]
theorem shop_is (qs : List Gp) (S : Sto) : a2 (gIsi is_Shop (.own "Shop")) [shopD qs, .glob "Shop"] S = .ok (.bl true) S := rfl
theorem shop_eq {ps qs : List Gp} {S : Sto} (h1 : ∀ g ∈ ps, GpS g) (h2 : ∀ g ∈ qs, GpS g) (b : Bool) (hb : b = true ↔ ps = qs) : N_Shop_eq [shopD ps, shopD qs] S = .ok (.bl b) S := by
  refine frm_cl (by show (clD (shopD _) && (clD (shopD _) && true)) = true; rw [cl_shop, cl_shop]; rfl) ?_
  refine mk_rt (env := [.val (shopD ps), .val (shopD qs)]) rfl rfl (ev_ret (ev_andV_t (ev_args (ev_cons (ev_var rfl) (ev_cons ev_c ev_nil)) (shop_is qs [])) (ev_f2 (Fa := fFld ["Shop"] "rows" (vVar 0)) (Fb := fFld ["Shop"] "rows" (vVar 1)) (x := .tup (ps.map rowD)) (y := .tup (qs.map rowD)) (S1 := []) (S2 := []) rfl rfl (eq_rows h1 h2 b hb))))
theorem ob_shop (ps : List Gp) (S : Sto) : isOb "Shop" S (shopD ps) = true := rfl
theorem shop_eqO {ps qs : List Gp} {S : Sto} {neg : Bool} (h1 : ∀ g ∈ ps, GpS g) (h2 : ∀ g ∈ qs, GpS g) (b : Bool) (hb : b = true ↔ ps = qs) : gEqO neg "Shop" N_Shop_eq (shopD ps) (shopD qs) S = .ok (.bl (neg ^^ b)) S := by
  unfold gEqO
  rw [if_pos (ob_shop ps S), if_pos (.inl (ob_shop qs S)), shop_eq h1 h2 b hb]
  rfl
theorem list_shaped {l : List Str} (h : ∀ x ∈ l, PyData.canLay0 (.str x) = true) : SeqAt.shaped (.list (l.map .str)) = true ∧ PyData.canLay0 (.list (l.map .str)) = true := by
  have q : PyData.canLay0 (.list (l.map .str)) = true := lay_strs l h
  have d : PyData.depth (.list (l.map .str)) ≤ 64 := by
    have := depth_strs l
    simp only [PyData.depth]
    omega
  refine ⟨?_, q⟩
  simp only [SeqAt.shaped, q, Bool.true_and, decide_eq_true_eq]
  exact d
theorem strs_deep (S : Sto) (l : List Str) : deep S (.lst (l.map .str)) = some (.list (l.map .str)) := by
  show (deepL (deepC S 4) (l.map .str)).map PyData.list = _
  rw [strs_d0]
  rfl
end HT.C
set_option maxRecDepth 100000
set_option maxHeartbeats 1000000
namespace HT.C
open PySem PySem.Spec L2
open PyProof.Rows hiding St
def Flat (S : Sto) (k : Nat) : Prop := ∃ ds, S[k]? = some (.lst ds) ∧ clL ds = true
structure Sp (lo hi : Nat) (S S' : Sto) : Prop where
  len : S'.length = S.length
  old : ∀ k, ¬ (lo ≤ k ∧ k < hi) → S'[k]? = S[k]?
  flat : ∀ k, Flat S k → Flat S' k
theorem Sp.refl (lo hi : Nat) (S : Sto) : Sp lo hi S S := ⟨rfl, fun _ _ => rfl, fun _ h => h⟩
theorem Sp.trans {lo hi : Nat} {S S1 S2 : Sto} (h1 : Sp lo hi S S1) (h2 : Sp lo hi S1 S2) : Sp lo hi S S2 := ⟨h2.len.trans h1.len, fun k hk => (h2.old k hk).trans (h1.old k hk), fun k h => h2.flat k (h1.flat k h)⟩
theorem ev_appCC {Fo F : FE} {env : Env} {S S1 S2 : Sto} {k : Nat} {d : D} {ds : List D} (ho : Fo env S = .ok (.cell k) S1) (h0 : (lstAt S1 k).isSome = true) (h : F env S1 = .ok d S2) (hk : S2[k]? = some (.lst ds)) (hl : ds.length < 16000) : sAppC Fo F env S = .ok (.nx env) (S2.set k (.lst (ds ++ [d]))) := by
  unfold sAppC
  rw [ho]
  show (if (lstAt S1 k).isSome = true then sB env (F env S1) fun d S2 => appC env k d S2 else .stuck) = _
  rw [if_pos h0, h]
  show appC env k d S2 = _
  unfold appC
  rw [lstAt_cell hk]
  dsimp only
  rw [if_pos (Nat.lt_of_lt_of_le hl (sl5 (Nat.le_refl _)))]
def LowS (n : Nat) (s : Sl) : Prop := ∀ S m, meltSl (meltC S n (m + 1)) s = some s
theorem low_un (n : Nat) : LowS n .un := fun _ _ => rfl
theorem low_cl {n : Nat} {d : D} (h : clD d = true) : LowS n (.val d) := fun S m => by
  show (melt0 _ d).map Sl.val = _
  rw [melt_cl _ d h]
  rfl
def LowE (n : Nat) (env : Env) : Prop := ∀ s ∈ env, LowS n s
theorem LowE.set {n : Nat} {env : Env} {i : Nat} {s : Sl} (h : LowE n env) (hs : LowS n s) : LowE n (env.set i s) := fun x hx => by
  rcases List.mem_or_eq_of_mem_set hx with h1 | rfl
  · exact h x h1
  · exact hs
theorem keep_same {f : Nat → Option D} : ∀ (S T : List CO), mkeep f S (S ++ T) = some S
  | [], _ => rfl
  | c :: r, T => by
    show (match (if eqCO c c = true then some c else meltCO f c), mkeep f r (r ++ T) with | some a, some b => some (a :: b) | _, _ => none) = _
    rw [if_pos (eqCO_rfl _), keep_same r T]
theorem sMelt_new {F : FS} {env e1 e2 : Env} {S T : Sto} (h : F env S = .ok (.nx e1) (S ++ T)) (hT : T ≠ []) (he : meltE (meltC (S ++ T) S.length 6) e1 = some e2) : sMelt F env S = .ok (.nx e2) S := by
  unfold sMelt
  rw [h]
  show (if (S ++ T).length = S.length then _ else _) = _
  rw [if_neg (by
    rw [List.length_append]
    have : T.length ≠ 0 := fun c => hT (List.eq_nil_of_length_eq_zero c)
    omega)]
  show (match (meltE (meltC (S ++ T) S.length 6) e1).map Fl.nx, mkeep (meltC (S ++ T) S.length 6) S (S ++ T) with | some d', some S'' => R.ok d' S'' | _, _ => .stuck) = _
  rw [he, keep_same]
  rfl
theorem sMelt_all {F : FS} {env e1 e2 : Env} {T : Sto} (h : F env [] = .ok (.nx e1) T) (hT : T ≠ []) (he : meltE (meltC T 0 6) e1 = some e2) : sMelt F env [] = .ok (.nx e2) [] := by
  have q := sMelt_new (S := []) (T := T) (F := F) (env := env) (e1 := e1) (e2 := e2) (by rw [h]; rfl) hT he
  exact q
end HT.C
set_option maxRecDepth 100000
set_option maxHeartbeats 1000000
namespace HT.C
open PySem PySem.Spec L2
open PyProof.Rows hiding St
def ClS : Sl → Prop
  | .un => True
  | .val d => clD d = true
  | _ => False
def GoodSl (S : Sto) (s : Sl) : Prop := ∃ s', meltSl (meltC S 0 6) s = some s' ∧ ClS s'
theorem ClS.low {s : Sl} (h : ClS s) (n : Nat) : LowS n s := by
  cases s with
  | un => exact low_un n
  | val d => exact low_cl h
  | _ => cases h
theorem ClS.good {s : Sl} (h : ClS s) (S : Sto) : GoodSl S s := ⟨s, h.low 0 S 5, h⟩
theorem PsOk.s {ps : List Gp} (h : PsOk ps) : ∀ g ∈ ps, GpS g := fun g hg => (h.grp g hg).s
theorem PsOk.fine {ps : List Gp} (h : PsOk ps) : Fine (pdL ps) 810 := finePs h.s (Nat.le_trans h.len (by omega))
end HT.C
set_option maxRecDepth 100000
set_option maxHeartbeats 1000000
namespace HT.C
open PySem PySem.Spec L2
open PyProof.Rows hiding St
mutual
theorem dq_cl (f g : Nat → Option PyData) : ∀ d : D, clD d = true → dq0 f d = dq0 g d
  | .lst ds, h => by show (dqL f ds).map PyData.list = (dqL g ds).map _; rw [dqL_cl f g ds h]
  | .klst ds, h => by show (dqL f ds).map PyData.list = (dqL g ds).map _; rw [dqL_cl f g ds h]
  | .tup ds, h => by show (dqL f ds).map PyData.tuple = (dqL g ds).map _; rw [dqL_cl f g ds h]
  | .dK kvs, h => by show (dqK f kvs).map PyData.dict = (dqK g kvs).map _; rw [dqK_cl f g kvs h]
  | .obj _ _, _ => rfl
  | .exn _ _, _ => rfl
  | .dT _, _ => rfl
  | .cell _, h => by cases h
  | .non, _ => rfl
  | .bl _, _ => rfl
  | .int _, _ => rfl
  | .str _, _ => rfl
  | .glob _, _ => rfl
  | .ty _, _ => rfl
theorem dqL_cl (f g : Nat → Option PyData) : ∀ d : List D, clL d = true → dqL f d = dqL g d
  | [], _ => rfl
  | d :: ds, h => by
    show (match dq0 f d, dqL f ds with | some a, some b => some (a :: b) | _, _ => none) = (match dq0 g d, dqL g ds with | some a, some b => some (a :: b) | _, _ => none)
    rw [dq_cl f g d (bAnd h).1, dqL_cl f g ds (bAnd h).2]
theorem dqK_cl (f g : Nat → Option PyData) : ∀ d : List (Key × D), clK d = true → dqK f d = dqK g d
  | [], _ => rfl
  | (k, d) :: ds, h => by
    show (match dq0 f d, dqK f ds with | some a, some b => some ((keyPD k, a) :: b) | _, _ => none) = (match dq0 g d, dqK g ds with | some a, some b => some ((keyPD k, a) :: b) | _, _ => none)
    rw [dq_cl f g d (bAnd h).1, dqK_cl f g ds (bAnd h).2]
end
structure Shw (p : PyData) : Prop where
  sh : p.showable = true
  dp : p.depth ≤ 50
  sz : p.shown.length ≤ 100000
  tx : PyData.strOk p.shown = true
def shwB (p : PyData) : Bool := p.showable && (decide (p.depth ≤ 50) && (decide (p.shown.length ≤ 100000) && PyData.strOk p.shown))
theorem shwB_ok {p : PyData} (h : shwB p = true) : Shw p := ⟨(bAnd h).1, of_decide_eq_true (bAnd (bAnd h).2).1, of_decide_eq_true (bAnd (bAnd (bAnd h).2).2).1, (bAnd (bAnd (bAnd h).2).2).2⟩
theorem Fine.shw {p : PyData} {n : Nat} (h : Fine p n) (hn : n ≤ 9000) : Shw p := ⟨h.sh, by have := h.dp; omega, by
  have := PyData.shown_le_bulk 8 (Nat.le_refl _) p h.short
  have b := h.bulk
  omega, h.tx⟩
def toldB (x : D) : Bool := clD x && match deepq [] x with
  | some p => shwB p
  | none => false
theorem toldB_ok {x : D} (h : toldB x = true) : clD x = true ∧ ∃ p, Shw p ∧ ∀ S, deepq S x = some p := by
  obtain ⟨h1, h2⟩ := bAnd h
  refine ⟨h1, ?_⟩
  split at h2
  · rename_i p e
    exact ⟨p, shwB_ok h2, fun S => (dq_cl _ _ x h1).trans e⟩
  · cases h2
theorem shw_repr {x : D} {p : PyData} {S : Sto} (hx : deepq S x = some p) (h : Shw p) : a1 gReprQ [x] S = .ok (.str p.shown) S := by
  show gReprQ x S = _
  unfold gReprQ
  rw [hx]
  dsimp only
  rw [if_pos ⟨h.sh, h.dp, by rw [sizeLine_eq]; have := h.sz; omega⟩]
theorem Shw.txl {p : PyData} (h : Shw p) : PyData.canLay0 (.str p.shown) = true := by
  have := h.tx
  simp only [PyData.canLay0, this]
theorem shw_eq {p : PyData} {S : Sto} {neg : Bool} (h : Shw p) : gEq neg (.str p.shown) (.str p.shown) S = .ok (.bl (!neg)) S :=
  eq_same (p := .str p.shown) rfl rfl (by simp only [SeqAt.shaped, h.txl, Bool.true_and]; simp [PyData.depth]) h.txl
end HT.C
set_option maxRecDepth 100000
set_option maxHeartbeats 1000000
namespace HT.C
open PySem PySem.Spec L2
open PyProof.Rows hiding St
section
variable {env : Env} {S S1 : Sto} {Fe F G : FE} {d : D}
theorem ev_f3 {α : Type} {g : D → Option Int → Option Int → Cm α} {Fl Fh : Env → Cm (Option Int)} {l h : Option Int} {r : R α} (he : Fe env S = .ok d S1) (hl : Fl env S1 = .ok l S1) (hh : Fh env S1 = .ok h S1) (hg : g d l h S1 = r) : f3 g Fe Fl Fh env S = r := by
  unfold f3
  rw [he, bnd_ok, hl, bnd_ok, hh]
  exact hg
theorem comp_map {α : Type} {b : Bd} {src : Src} {Fe : FE} {env0 : Env} {S : Sto} (hc : chk src S = true) (f h : α → D) : ∀ (l : List α), (∀ a ∈ l, ∃ e1, bindE b (f a) env0 = some e1 ∧ Fe e1 S = .ok (h a) S) → compL b src (fun _ => pure true) Fe env0 (l.map f) S = some (l.map h, S)
  | [], _ => by rw [List.map_nil]; unfold compL; rw [if_pos hc]; rfl
  | a :: l, q => by
    obtain ⟨e1, h1, h2⟩ := q a List.mem_cons_self
    have ih := comp_map (b := b) (src := src) (Fe := Fe) (env0 := env0) (S := S) hc f h l fun x hx => q x (List.mem_cons_of_mem _ hx)
    rw [List.map_cons]
    unfold compL
    rw [if_pos hc, h1]
    dsimp only
    show (match nox (Fe e1 S) with
      | none => none
      | some (y, S2) => match compL b src (fun _ => pure true) Fe env0 (l.map f) S2 with
        | none => none
        | some (ys, S3) => some (y :: ys, S3)) = _
    rw [h2]
    show (match compL b src (fun _ => pure true) Fe env0 (l.map f) S with
        | none => none
        | some (ys, S3) => some (h a :: ys, S3)) = _
    rw [ih]
    rfl
theorem ev_lenL {l : List D} (h : F env S = .ok (.lst l) S) : fArgs (a1 gLen) (aCons F aNil) env S = .ok (.int l.length) S := ev_args (ev_cons h ev_nil) (ev_len (fun z e => by cases e) rfl)
end
theorem ev_shop {env : Env} {S : Sto} {F : FE} {qs : List Gp} (hF : F env S = .ok (.lst (qs.map itF)) S) (ok : ∀ g ∈ qs, GpOk g) (h1 : 1 ≤ qs.length) (h4 : qs.length ≤ 4) (nd : (qs.map (·.nm)).Nodup) : fFrz (oMake N_Shop_init [] (aCons F aNil)) env S = .ok (shopD qs) S :=
  ev_frz (c := .ins "Shop" [("rows", .tup (qs.map rowD))]) (ev_make (ev_cons hF ev_nil) (shop_ok ok h1 h4 nd))
end HT.C
set_option maxRecDepth 100000
set_option maxHeartbeats 1000000
namespace HT.C
open PySem PySem.Spec L2
open PyProof.Rows hiding St
structure Bad (x : D) (p : PyData) : Prop where
  cl : clD x = true
  shw : Shw p
  dq : ∀ S, deepq S x = some p
  ng : ∀ S, N_is_group [x] S = .ok (.bl false) S
  ty : ∃ t, (∀ S, tyD S x = some t) ∧ is_list t = some false
end HT.C
set_option maxRecDepth 100000
set_option maxHeartbeats 1000000
namespace HT.C
open PySem PySem.Spec L2
open PyProof.Rows hiding St
def subsR : List Str → List (List Str)
  | [] => [[]]
  | a :: l => subsR l ++ (subsR l).map (a :: ·)
theorem sub_mem {l r : List Str} (h : l.Sublist r) : l ∈ subsR r := by
  induction h with
  | slnil => exact List.mem_singleton.mpr rfl
  | cons a _ ih => exact List.mem_append_left _ ih
  | cons_cons a _ ih => exact List.mem_append_right _ (List.mem_map_of_mem ih)
theorem boxB_row {l : List Str} (h : l ∈ boxB) : ∃ r ∈ boxT2, l.Sublist r := by
  unfold boxB at h
  obtain ⟨r, hr, h⟩ := List.mem_flatMap.mp h
  refine ⟨r, hr, ?_⟩
  simp only [List.mem_cons, List.not_mem_nil, or_false] at h
  rcases h with rfl | rfl | rfl | rfl | rfl <;> exact List.take_sublist _ _
def boxR : List (List Str) := boxT2 ++ boxT2.map List.reverse
theorem boxP_row {l : List Str} (h : l ∈ boxP) : ∃ r ∈ boxR, l.Sublist r := by
  rcases List.mem_append.mp h with h | h
  · obtain ⟨r, hr, q⟩ := boxB_row h
    exact ⟨r, List.mem_append_left _ hr, q⟩
  · obtain ⟨l', h', rfl⟩ := List.mem_map.mp h
    obtain ⟨r, hr, q⟩ := boxB_row h'
    exact ⟨r.reverse, List.mem_append_right _ (List.mem_map_of_mem hr), q.reverse⟩
def subsW : List (List Str) := boxR.flatMap subsR
theorem subsW_mem {b l : List Str} (hb : b ∈ boxP) (hl : l.Sublist b) : l ∈ subsW := by
  obtain ⟨r, hr, h⟩ := boxP_row hb
  exact List.mem_flatMap.mpr ⟨r, hr, sub_mem (hl.trans h)⟩
theorem subs_all : (subsW.all fun l => isT (M_are_names [.lst (l.map .str)] [])) = true := by decide +kernel
theorem subs_names {b l : List Str} (hb : b ∈ boxP) (hl : l.Sublist b) (S : Sto) : N_are_names [.lst (l.map .str)] S = .ok (.bl true) S :=
  frm_T (by show (clL (l.map .str) && true) = true; rw [cl_strs]; rfl) (List.all_eq_true.mp subs_all l (subsW_mem hb hl))
theorem boxP_nd {b : List Str} (hb : b ∈ boxP) : b.Nodup := by
  have q : (boxP.all fun l => decide l.Nodup) = true := by decide +kernel
  exact of_decide_eq_true (List.all_eq_true.mp q b hb)
theorem filter_sub {l r : List Str} (h : l.Sublist r) (nd : r.Nodup) : r.filter (fun x => decide (x ∈ l)) = l := by
  induction h with
  | slnil => rfl
  | @cons l r a h ih =>
    rw [List.nodup_cons] at nd
    rw [List.filter_cons_of_neg (by simpa using fun c => nd.1 (h.subset c))]
    exact ih nd.2
  | @cons_cons l r a h ih =>
    rw [List.nodup_cons] at nd
    rw [List.filter_cons_of_pos (by simp)]
    congr 1
    rw [← ih nd.2]
    refine List.filter_congr fun x hx => ?_
    have : x ≠ a := fun e => nd.1 (e ▸ hx)
    rw [ih nd.2]
    simp [this]
def lsD (l : List Str) : D := .lst (l.map .str)
def lssD (t : List (List Str)) : List D := t.map lsD
theorem cl_ls (l : List Str) : clD (lsD l) = true := cl_strs l
theorem cl_lss (t : List (List Str)) : clL (lssD t) = true := clL_map _ cl_ls t
def strSel (p : Str → Bool) : D → Option D
  | .str x => if p x = true then some (.str x) else none
  | _ => none
theorem sel_strs (p : Str → Bool) : ∀ l : List Str, (l.map D.str).filterMap (strSel p) = (l.filter p).map .str
  | [] => rfl
  | a :: l => by
    rw [List.map_cons]
    by_cases h : p a = true
    · rw [List.filterMap_cons_some (b := .str a) (by show (if p a = true then some (D.str a) else none) = _; rw [if_pos h]), List.filter_cons_of_pos h, List.map_cons, sel_strs p l]
    · rw [List.filterMap_cons_none (by show (if p a = true then some (D.str a) else none) = _; rw [if_neg h]), List.filter_cons_of_neg h, sel_strs p l]
theorem comp_filter {i : Nat} {src : Src} {Ft : Env → Cm Bool} {env0 : Env} {S : Sto} {l : List Str} (p : Str → Bool) (hc : chk src S = true) (hi : i < env0.length) (ht : ∀ x ∈ l, Ft (env0.set i (.val (.str x))) S = .ok (p x) S) :
    compL (.one i) src Ft (fVar i) env0 (l.map .str) S = some ((l.filter p).map .str, S) := by
  rw [← sel_strs]
  refine comp_pure hc (strSel p) (l.map .str) fun d hd => ?_
  obtain ⟨x, hx, rfl⟩ := List.mem_map.mp hd
  refine ⟨env0.set i (.val (.str x)), rfl, ?_⟩
  cases h : p x with
  | false => exact .inl ⟨by rw [ht x hx, h], by show (if p x = true then some (D.str x) else none) = _; rw [h]; rfl⟩
  | true => exact .inr ⟨.str x, by rw [ht x hx, h], ev_var (by rw [List.getElem?_set_self hi]), by show (if p x = true then some (D.str x) else none) = _; rw [h]; rfl⟩
inductive Tk : List (List Str) → List Gp → Prop
  | nil : Tk [] []
  | cons {l : List Str} {g : Gp} {t : List (List Str)} {ps : List Gp} : l.Sublist g.bx → Tk t ps → Tk (l :: t) (g :: ps)
theorem Tk.len {t : List (List Str)} {ps : List Gp} (h : Tk t ps) : t.length = ps.length := by
  induction h with
  | nil => rfl
  | cons _ _ ih => rw [List.length_cons, List.length_cons, ih]
abbrev atB : FS := sIf (fOrT (fNotT (fB (fCall N_are_names [] (aCons (fVar 2) aNil)))) (fB (f2 (gEq true) (fVar 2) (fFrz (oLc [4] (.one 4) (iSeq (f2 gIx (fVar 3) (fun _ => pure (.int 3)))) (fB (f2 (gInX false) (fVar 4) (fVar 2))) (fVar 4)))))) (sRet (fun _ => pure (.bl false))) sNil
theorem strs_same {l : List Str} {S : Sto} {neg : Bool} (h : ∀ x ∈ l, PyData.canLay0 (.str x) = true) : gEq neg (lsD l) (lsD l) S = .ok (.bl (!neg)) S := by
  have q := list_shaped h
  exact eq_same (strs_deep S l) (strs_deep S l) q.1 q.2
theorem at_turn {sh v : D} {g : Gp} {l : List Str} {s4 : Sl} (hg : GpP g) (hs : GpS g) (hl : l.Sublist g.bx) : atB [.val sh, .val v, .val (lsD l), .val (rowD g), s4] [] = .ok (.nx [.val sh, .val v, .val (lsD l), .val (rowD g), s4]) [] := by
  have lay : ∀ x ∈ g.bx, PyData.canLay0 (.str x) = true := fun x hx => goodS_lay (hs.bx x hx)
  have layl : ∀ x ∈ l, PyData.canLay0 (.str x) = true := fun x hx => lay x (hl.subset hx)
  have c := comp_filter (i := 4) (src := .fz) (Ft := fB (f2 (gInX false) (fVar 4) (fVar 2))) (env0 := [.val sh, .val v, .val (lsD l), .val (rowD g), .un]) (S := []) (l := g.bx) (fun x => decide (x ∈ l)) rfl (by show 4 < 5; decide) (fun x hx => ev_fB (ev_f2 (ev_var rfl) (ev_var rfl) (in_strs (lay x hx) layl [])))
  rw [filter_sub hl (boxP_nd hg.bx)] at c
  have hlen : (l.map D.str).length ≤ 16000 := by
    have := hl.length_le
    have := hs.len
    rw [List.length_map]
    omega
  exact ev_skip (ev_orT_f (ev_notT (b := true) (ev_fB (ev_call (ev_cons (ev_var rfl) ev_nil) (subs_names hg.bx hl [])))) (ev_fB (ev_f2 (ev_var rfl) (ev_frz (c := .lst (l.map .str)) (ev_lc (env := [.val sh, .val v, .val (lsD l), .val (rowD g), s4]) (ev_seqT (ev_f2 (x := rowD g) (y := .int 3) (S1 := []) (S2 := []) (ev_var rfl) ev_c rfl)) c hlen)) (strs_same (neg := true) layl))))
theorem at_loop {sh v : D} : ∀ {t : List (List Str)} {ps : List Gp}, Tk t ps → (∀ g ∈ ps, GpP g ∧ GpS g) → ∀ (s2 s3 s4 : Sl), ∃ s2' s3', loopD (.many [2, 3]) .fz atB (zipD2 (lssD t) (ps.map rowD)) [.val sh, .val v, s2, s3, s4] [] = .ok (.nx [.val sh, .val v, s2', s3', s4]) []
  | _, _, .nil, _, s2, s3, s4 => ⟨s2, s3, loop_nil rfl⟩
  | _, _, .cons (l := l) (g := g) hl ht, h, s2, s3, s4 => by
    obtain ⟨s2', s3', e⟩ := at_loop (sh := sh) (v := v) ht (fun g hg => h g (List.mem_cons_of_mem _ hg)) (.val (lsD l)) (.val (rowD g)) s4
    obtain ⟨h1, h2⟩ := h g List.mem_cons_self
    exact ⟨s2', s3', (loop_cons (e1 := [.val sh, .val v, .val (lsD l), .val (rowD g), s4]) rfl rfl (at_turn h1 h2 hl)).trans e⟩
theorem ticks_ok {t : List (List Str)} {ps : List Gp} {S : Sto} (ok : PsOk ps) (ht : Tk t ps) : N_are_ticks [shopD ps, .lst (lssD t)] S = .ok (.bl true) S := by
  have hl := ht.len
  obtain ⟨s2', s3', e⟩ := at_loop (sh := shopD ps) (v := .lst (lssD t)) ht (fun g hg => ⟨ok.ok g hg, ok.s g hg⟩) .un .un .un
  refine frm_cl (by show (clD (shopD _) && (clL (lssD t) && true)) = true; rw [cl_shop, cl_lss]; rfl) ?_
  have l1 : fArgs (a1 gLen) (aCons (fVar 1) aNil) [.val (shopD ps), .val (.lst (lssD t)), .un, .un, .un] [] = .ok (.int t.length) [] := by
    have := ev_lenL (F := fVar 1) (l := lssD t) (env := [.val (shopD ps), .val (.lst (lssD t)), .un, .un, .un]) (S := []) rfl
    rw [show (lssD t).length = t.length from List.length_map ..] at this
    exact this
  have l2 : fArgs (a1 gLen) (aCons (fFld ["Shop"] "rows" (vVar 0)) aNil) [.val (shopD ps), .val (.lst (lssD t)), .un, .un, .un] [] = .ok (.int t.length) [] := by
    have := ev_args (g := a1 gLen) (Fr := aCons (fFld ["Shop"] "rows" (vVar 0)) aNil) (env := [.val (shopD ps), .val (.lst (lssD t)), .un, .un, .un]) (S := []) (xs := [.tup (ps.map rowD)]) (ev_cons rfl ev_nil) (ev_len (ds := ps.map rowD) (fun z e => by cases e) rfl)
    rw [List.length_map, ← hl] at this
    exact this
  refine mk_rt (env := [.val (shopD ps), .val (.lst (lssD t)), .un, .un, .un]) rfl rfl (ev_seq (ev_skip (ev_orT_f (ev_notT (b := true) (ev_fB rfl)) (ev_fB (ev_f2 l1 l2 (eq_same (p := .int t.length) (neg := true) rfl rfl rfl rfl))))) (ev_seq (ev_for (ds := zipD2 (lssD t) (ps.map rowD)) (src := .fz) (S1 := []) ?_ rfl e) (ev_ret ev_c)))
  unfold iZipS2F
  rw [ev_cons (x := .lst (lssD t)) (xs := [.tup (ps.map rowD)]) (S1 := []) (S2 := []) rfl (ev_cons rfl ev_nil), bnd_ok]
  show (if (ps.map rowD).length = (lssD t).length then R.ok (zipD2 (lssD t) (ps.map rowD), Src.fz) [] else .stuck) = _
  rw [if_pos (by unfold lssD; rw [List.length_map, List.length_map, hl])]
end HT.C
set_option maxRecDepth 100000
set_option maxHeartbeats 1000000
namespace HT.C
open PySem PySem.Spec L2
open PyProof.Rows hiding St
inductive Th : List (List Str) → List Gp → Prop
  | nil : Th [] []
  | cons {l : List Str} {g : Gp} {t : List (List Str)} {ps : List Gp} : l.Sublist g.bx → (g.br = "one" → l.length = 1) → Th t ps → Th (l :: t) (g :: ps)
theorem Th.tk {t : List (List Str)} {ps : List Gp} (h : Th t ps) : Tk t ps := by
  induction h with
  | nil => exact .nil
  | cons h _ _ ih => exact .cons h ih
theorem Th.get {t : List (List Str)} {ps : List Gp} (h : Th t ps) : ∀ {j : Nat} {g : Gp}, ps[j]? = some g → ∃ l, t[j]? = some l ∧ l.Sublist g.bx ∧ (g.br = "one" → l.length = 1) := by
  induction h with
  | nil => intro j g h; simp at h
  | cons h1 h2 _ ih =>
    intro j g h
    cases j with
    | zero => cases h; exact ⟨_, rfl, h1, h2⟩
    | succ j => exact ih h
theorem enF_mem : ∀ {ps : List Gp} {k : Nat} {d : D}, d ∈ enF k ps → ∃ j g, d = .tup [.int ((k + j : Nat) : Int), rowD g] ∧ ps[j]? = some g
  | [], _, _, h => by cases h
  | g :: ps, k, d, h => by
    rcases List.mem_cons.mp h with rfl | h
    · exact ⟨0, g, rfl, rfl⟩
    · obtain ⟨j, g', e, h2⟩ := enF_mem h
      exact ⟨j + 1, g', by rw [e, show k + 1 + j = k + (j + 1) from by omega], h2⟩
theorem eq_int {i j : Int} {S : Sto} {neg : Bool} : gEq neg (.int i) (.int j) S = .ok (.bl (if neg then !(i == j) else (i == j))) S := by
  show (if SeqAt.shaped (.int i) = true ∧ SeqAt.shaped (.int j) = true then R.ok (D.bl (if neg then !PyData.eqv (.int i) (.int j) else PyData.eqv (.int i) (.int j))) S else .stuck) = _
  rw [if_pos ⟨rfl, rfl⟩]
  simp only [PyData.eqv]
theorem ix_lss {t : List (List Str)} {j : Nat} {l : List Str} {S : Sto} (h : t[j]? = some l) : gIx (.lst (lssD t)) (.int (j : Nat)) S = .ok (lsD l) S := by
  show (match atI (lssD t) (j : Nat) with | some d => R.ok d S | none => .stuck) = _
  rw [atI_nat (v := lsD l) (by unfold lssD; rw [List.getElem?_map, h]; rfl)]
theorem len_ls {F : FE} {env : Env} {S : Sto} {l : List Str} (h : F env S = .ok (lsD l) S) : fArgs (a1 gLen) (aCons F aNil) env S = .ok (.int l.length) S := by
  have := ev_lenL h
  rw [List.length_map] at this
  exact this
theorem fits_ok {t : List (List Str)} {ps : List Gp} {S : Sto} (ok : PsOk ps) (ht : Th t ps) : N_fits [shopD ps, .lst (lssD t)] S = .ok (.bl true) S := by
  refine frm_cl (by show (clD (shopD _) && (clL (lssD t) && true)) = true; rw [cl_shop, cl_lss]; rfl) ?_
  have c := comp_pure (b := .many [2, 3]) (src := .fz) (Ft := fAndT (fB (f2 (gEq false) (f2 gIx (fVar 3) (fun _ => pure (.int 2))) (fun _ => pure (.str "one")))) (fB (f2 (gEq true) (fArgs (a1 gLen) (aCons (f2 gIx (fVar 1) (fVar 2)) aNil)) (fun _ => pure (.int 1))))) (Fe := fVar 2)
    (env0 := [.val (shopD ps), .val (.lst (lssD t)), .un, .un]) (S := []) rfl (fun _ => none) (enF 0 ps) (fun d hd => by
      obtain ⟨j, g, rfl, hj⟩ := enF_mem hd
      obtain ⟨l, hl, h1, h2⟩ := ht.get hj
      have hg : g ∈ ps := List.mem_of_getElem? hj
      rw [Nat.zero_add]
      refine ⟨[.val (shopD ps), .val (.lst (lssD t)), .val (.int (j : Nat)), .val (rowD g)], rfl, .inl ⟨?_, rfl⟩⟩
      have e1 : (fB (f2 (gEq false) (f2 gIx (fVar 3) (fun _ => pure (.int 2))) (fun _ => pure (.str "one")))) [.val (shopD ps), .val (.lst (lssD t)), .val (.int (j : Nat)), .val (rowD g)] [] = .ok (g.br == "one") [] :=
        ev_fB (ev_f2 (x := .str g.br) (y := .str "one") (S1 := []) (S2 := []) (ev_f2 (x := rowD g) (y := .int 2) (S1 := []) (S2 := []) rfl rfl rfl) rfl (eq_str g.br "one" (goodS_lay (ok.s g hg).br) (by decide +kernel) []))
      by_cases hb : g.br = "one"
      · rw [show (g.br == "one") = true from by simp [hb]] at e1
        refine ev_andT_t e1 (ev_fB (ev_f2 (x := .int (l.length : Nat)) (y := .int 1) (S1 := []) (S2 := []) (len_ls (ev_f2 (ev_var rfl) (ev_var rfl) (ix_lss hl))) rfl ?_))
        rw [eq_int, h2 hb]
        rfl
      · rw [show (g.br == "one") = false from by simp [hb]] at e1
        exact ev_andT_f e1)
  rw [sel_none fun _ _ => rfl] at c
  refine mk_rt (env := [.val (shopD ps), .val (.lst (lssD t)), .un, .un]) rfl rfl (ev_seq (ev_skip (ev_notT (b := true) (ev_fB (ev_call (ev_cons (ev_var rfl) (ev_cons (ev_var rfl) ev_nil)) (ticks_ok ok ht.tk))))) (ev_ret (ev_f2 (ev_frz (c := .lst []) (ev_lc (Gi := iEnumA (aCons (fFld ["Shop"] "rows" (vVar 0)) aNil)) (ds := enF 0 ps) (src := .fz) (S1 := []) (by rw [← enum_rows]; rfl) c (by show 0 ≤ 16000; omega))) (ev_frz (c := .lst []) (ev_lst ev_nil)) (eq_same (p := .list []) (neg := false) rfl rfl (by decide +kernel) rfl))))
end HT.C
set_option maxRecDepth 100000
set_option maxHeartbeats 1000000
namespace HT.C
open PySem PySem.Spec L2
open PyProof.Rows hiding St
def bsD (l : List Bool) : List D := l.map .bl
theorem Tk.lay {t : List (List Str)} {ps : List Gp} (h : Tk t ps) (ok : ∀ g ∈ ps, GpS g) : ∀ l ∈ t, (∀ x ∈ l, PyData.canLay0 (.str x) = true) ∧ l.length ≤ 5 := by
  induction h with
  | nil => intro l h; cases h
  | @cons l g t ps hl _ ih =>
    intro l' hl'
    rcases List.mem_cons.mp hl' with rfl | h
    · have hg := ok g List.mem_cons_self
      exact ⟨fun x hx => goodS_lay (hg.bx x (hl.subset hx)), Nat.le_trans hl.length_le hg.len⟩
    · exact ih (fun g hg => ok g (List.mem_cons_of_mem _ hg)) l' h
end HT.C
set_option maxRecDepth 100000
set_option maxHeartbeats 1000000
namespace HT.C
open PySem PySem.Spec L2
open PyProof.Rows hiding St
end HT.C
set_option maxRecDepth 100000
set_option maxHeartbeats 1000000
namespace HT.C
open PySem PySem.Spec L2
open PyProof.Rows hiding St
end HT.C
set_option maxRecDepth 100000
set_option maxHeartbeats 1000000
namespace HT.C
open PySem PySem.Spec L2
open PyProof.Rows hiding St
theorem isG.cut {S T : Sto} {k : Nat} {B : Int} (h : isG (S ++ T) k B) (hk : k < S.length) : isG S k B := by
  obtain ⟨x, y, z, q, r⟩ := h
  rw [List.getElem?_append_left hk] at q
  exact ⟨x, y, z, q, r⟩
end HT.C
set_option maxRecDepth 100000
set_option maxHeartbeats 1000000
namespace HT.C
open PySem PySem.Spec L2
open PyProof.Rows hiding St
section
variable {b : Bd} {src : Src} {Ft : Env → Cm Bool} {Fe : FE} {env0 e1 : Env} {S S1 S2 S3 : Sto} {d y : D} {r ys : List D}
end
end HT.C
set_option maxRecDepth 100000
set_option maxHeartbeats 1000000
namespace HT.C
open PySem PySem.Spec L2
open PyProof.Rows hiding St
def g0 : Gp := ⟨"", "", "", []⟩
theorem isi_shop (ps : List Gp) (S : Sto) : a2 (gIsi is_Shop (.own "Shop")) [shopD ps, .glob "Shop"] S = .ok (.bl true) S := rfl
theorem chk_shop {ps : List Gp} {S : Sto} : M_check_shop [shopD ps] S = .ok .non S :=
  mk_nx (env := [.val (shopD ps)]) rfl rfl (ev_skip (ev_notT (b := true) (ev_fB (ev_args (ev_cons (ev_var rfl) (ev_cons ev_c ev_nil)) (isi_shop ps S)))))
end HT.C
set_option maxRecDepth 100000
set_option maxHeartbeats 1000000
namespace HT.C
open PySem PySem.Spec L2
open PyProof.Rows hiding St
theorem bs_d0 (f : Nat → Option PyData) : ∀ l : List Bool, deepL f (bsD l) = some (l.map .bool)
  | [] => rfl
  | b :: l => by show (match deep0 f (.bl b), deepL f (bsD l) with | some a, some b => some (a :: b) | _, _ => none) = _; rw [bs_d0 f l]; rfl
theorem bs_lay (l : List Bool) : SeqAt.shaped (.list (l.map .bool)) = true := by
  have q : PyData.canLayAll0 (l.map .bool) = true ∧ PyData.depthAll (l.map .bool) ≤ 1 := by
    induction l with
    | nil => exact ⟨rfl, by simp [PyData.depthAll]⟩
    | cons b l ih =>
      refine ⟨by simp only [List.map_cons, PyData.canLayAll0, PyData.canLay0, ih.1, Bool.and_self], ?_⟩
      have := ih.2
      simp only [List.map_cons, PyData.depthAll, PyData.depth]
      omega
  have d : PyData.depth (.list (l.map .bool)) ≤ 64 := by
    simp only [PyData.depth]
    have := q.2
    omega
  simp only [SeqAt.shaped, PyData.canLay0, q.1, Bool.true_and, decide_eq_true_eq]
  exact d
theorem in_bs {b : Bool} {l : List Bool} {n : Bool} (S : Sto) : gInX n (.bl b) (.lst (bsD l)) S = .ok (.bl (if n then !l.contains b else l.contains b)) S := by
  have e1 : gInX n (.bl b) (.lst (bsD l)) S = gInL n (.bl b) (.lst (bsD l)) S := if_neg (by simp [isDk, asCO])
  have e2 : deep S (.lst (bsD l)) = some (.list (l.map .bool)) := by
    show (deepL (deepC S 4) (bsD l)).map PyData.list = _
    rw [bs_d0]
    rfl
  have a : ((l.map PyData.bool).any fun z => PyData.eqv z (.bool b)) = l.contains b := by
    clear e1 e2
    induction l with
    | nil => rfl
    | cons y l ih =>
      rw [List.map_cons, List.any_cons, ih, List.contains_cons]
      simp only [PyData.eqv]
      cases y <;> cases b <;> rfl
  rw [e1]
  unfold gInL
  rw [show deep S (.bl b) = some (.bool b) from rfl, e2]
  dsimp only
  rw [if_pos ⟨rfl, bs_lay l⟩, a]
end HT.C
set_option maxRecDepth 100000
set_option maxHeartbeats 1000000
namespace HT.C
open PySem PySem.Spec L2
open PyProof.Rows hiding St
variable {ps : List Gp} {x v u : D} {S : Sto} {t : Ty}
theorem chk_shop_no (ht : tyD S x = some t) (hb : is_Shop t = some false) : M_check_shop [x] S = .exc "InvalidShop" [("value", x)] S := by
  have e : a2 (gIsi is_Shop (.own "Shop")) [x, .glob "Shop"] S = .ok (.bl false) S := by
    show gIsi is_Shop (.own "Shop") x (.glob "Shop") S = _
    unfold gIsi
    rw [if_pos (show (ClsD.own "Shop").is (.glob "Shop") = true from rfl), ht]
    dsimp only
    rw [hb]
  exact mk_xc (env := [.val x]) (e' := [.val x]) rfl rfl (ev_if_t (ev_notT (b := false) (ev_fB (ev_args (ev_cons (ev_var rfl) (ev_cons ev_c ev_nil)) e))) (ev_raise (ev_cons (ev_var rfl) ev_nil)))
end HT.C
set_option maxRecDepth 100000
set_option maxHeartbeats 1000000
namespace HT.C
open PySem PySem.Spec L2
open PyProof.Rows hiding St
end HT.C
set_option maxRecDepth 100000
set_option maxHeartbeats 1000000
namespace HT.C
open PySem PySem.Spec L2
open PyProof.Rows hiding St
def FineD (d : D) : Prop := clD d = true ∧ ∃ p, (∀ f, dq0 f d = some p) ∧ Fine p 80 ∧ p.depth ≤ 9
theorem strs_fine {l : List Str} (h : ∀ x ∈ l, goodS x = true) (hl : l.length ≤ 5) : Fine (.list (l.map .str)) 80 ∧ (PyData.list (l.map .str)).depth ≤ 9 ∧ Fine (.tuple (l.map .str)) 80 ∧ (PyData.tuple (l.map .str)).depth ≤ 9 := by
  have b := strs_bulk h
  have d := depth_strs l
  have ly := lay_strs l fun x hx => goodS_lay (h x hx)
  have tx : ∀ x ∈ l.map PyData.str, PyData.strOk x.shown = true := fun x hx => by obtain ⟨y, hy, rfl⟩ := List.mem_map.mp hx; exact goodS_tx (h y hy)
  refine ⟨⟨by simp only [PyData.canLay0, ly], by simp only [PyData.leavesShort, strs_short h], by simp only [PyData.bulk]; omega, by simp only [PyData.showable, strs_show], by simp only [PyData.depth]; omega, ok_list tx⟩, by simp only [PyData.depth]; omega, ⟨by simp only [PyData.canLay0, ly], by simp only [PyData.leavesShort, strs_short h], by simp only [PyData.bulk]; omega, by simp only [PyData.showable, strs_show], by simp only [PyData.depth]; omega, ok_tuple tx⟩, by simp only [PyData.depth]; omega⟩
theorem fineD_ls {l : List Str} (h : ∀ x ∈ l, goodS x = true) (hl : l.length ≤ 5) : FineD (lsD l) :=
  ⟨cl_strs l, .list (l.map .str), fun f => by show (dqL f (l.map .str)).map PyData.list = _; rw [dq_strs]; rfl, (strs_fine h hl).1, (strs_fine h hl).2.1⟩
theorem Tk.good {t : List (List Str)} {ps : List Gp} (h : Tk t ps) (ok : ∀ g ∈ ps, GpS g) : ∀ l ∈ t, (∀ x ∈ l, goodS x = true) ∧ l.length ≤ 5 := by
  induction h with
  | nil => intro l h; cases h
  | @cons l g t ps hl _ ih =>
    intro l' hl'
    rcases List.mem_cons.mp hl' with rfl | h
    · have hg := ok g List.mem_cons_self
      exact ⟨fun x hx => hg.bx x (hl.subset hx), Nat.le_trans hl.length_le hg.len⟩
    · exact ih (fun g hg => ok g (List.mem_cons_of_mem _ hg)) l' h
theorem Tk.fine {t : List (List Str)} {ps : List Gp} (h : Tk t ps) (ok : ∀ g ∈ ps, GpS g) : ∀ d ∈ lssD t, FineD d := fun d hd => by
  obtain ⟨l, hl, rfl⟩ := List.mem_map.mp hd
  obtain ⟨a, b⟩ := h.good ok l hl
  exact fineD_ls a b
theorem Tk.last : ∀ {t : List (List Str)} {ps : List Gp}, Tk t ps → 1 ≤ ps.length → ∃ a z pre g, t = a ++ [z] ∧ ps = pre ++ [g] ∧ Tk a pre ∧ z.Sublist g.bx
  | _, _, .nil, h => by simp at h
  | _, _, .cons (l := l) (g := g) hl .nil, _ => ⟨[], l, [], g, rfl, rfl, .nil, hl⟩
  | _, _, .cons (l := l) (g := g) hl (.cons h2 h3), _ => by
    obtain ⟨a, z, pre, g', e1, e2, h4, h5⟩ := Tk.last (.cons h2 h3) (by simp)
    exact ⟨l :: a, z, g :: pre, g', by rw [e1]; rfl, by rw [e2]; rfl, .cons hl h4, h5⟩
end HT.C
set_option maxRecDepth 100000
set_option maxHeartbeats 1000000
namespace HT.C
open PySem PySem.Spec L2
open PyProof.Rows hiding St
end HT.C
set_option maxRecDepth 100000
set_option maxHeartbeats 1000000
namespace HT.C
open PySem PySem.Spec L2
open PyProof.Rows hiding St
section
variable {env e1 : Env} {S S1 S2 S3 : Sto} {F G Fa Fb Fc : FE} {x y z d : D} {r : R D}
theorem if_t {α : Type} {b : Bool} {A B r : R α} (hb : b = true) (h : A = r) : (if b = true then A else B) = r := by rw [if_pos hb]; exact h
theorem if_f {α : Type} {b : Bool} {A B r : R α} (hb : b = false) (h : B = r) : (if b = true then A else B) = r := by rw [if_neg (by rw [hb]; exact Bool.false_ne_true)]; exact h
theorem if_and {b c : Bool} {A : R Bool} {S : Sto} (h : A = .ok c S) : (if b = true then A else .ok false S) = .ok (b && c) S := by cases b; exact rfl; exact h
theorem if_or {b c : Bool} {A : R Bool} {S : Sto} (h : A = .ok c S) : (if b = true then .ok true S else A) = .ok (b || c) S := by cases b; exact h; exact rfl
theorem ev_andT {T U : Env → Cm Bool} {b : Bool} {r : R Bool} (h : T env S = .ok b S1) (h2 : (if b = true then U env S1 else .ok false S1) = r) : fAndT T U env S = r := by unfold fAndT; rw [h, bnd_ok]; exact h2
theorem ev_orT {T U : Env → Cm Bool} {b : Bool} {r : R Bool} (h : T env S = .ok b S1) (h2 : (if b = true then .ok true S1 else U env S1) = r) : fOrT T U env S = r := by unfold fOrT; rw [h, bnd_ok]; exact h2
theorem ev_andV {b : Bool} (h : F env S = .ok (.bl b) S1) (h2 : (if b = true then G env S1 else .ok (.bl false) S1) = r) : fAndV F G env S = r := by unfold fAndV; rw [h, bnd_ok]; exact h2
theorem ev_orV {b : Bool} (h : F env S = .ok (.bl b) S1) (h2 : (if b = true then .ok (.bl true) S1 else G env S1) = r) : fOrV F G env S = r := by unfold fOrV; rw [h, bnd_ok]; exact h2
theorem ev_ifT {α : Type} {T : Env → Cm Bool} {A B : Env → Cm α} {b : Bool} {r : R α} (h : T env S = .ok b S1) (h2 : (if b = true then A env S1 else B env S1) = r) : fIfT T A B env S = r := by unfold fIfT; rw [h, bnd_ok]; exact h2
theorem ev_sif {T : Env → Cm Bool} {A B : FS} {b : Bool} {r : R Fl} (h : T env S = .ok b S1) (h2 : (if b = true then A env S1 else B env S1) = r) : sIf T A B env S = r := by unfold sIf; rw [h]; exact h2
theorem ev_frzL {Fo : Env → Cm CO} {l : List D} (h : Fo env S = .ok (.lst l) S1) : fFrz Fo env S = .ok (.lst l) S1 := ev_frz h
theorem ev_frzI {Fo : Env → Cm CO} {C : Str} {fs : List (Str × D)} (h : Fo env S = .ok (.ins C fs) S1) : fFrz Fo env S = .ok (.obj C fs) S1 := ev_frz h
theorem ev_fld {cs : List Str} {f C : Str} {fs : List (Str × D)} {Fo : Env → Cm CO} (h : Fo env S = .ok (.ins C fs) S1) (h2 : (if C ∈ cs then fs.lookup f else none) = some d) : fFld cs f Fo env S = .ok d S1 := by
  unfold fFld
  rw [h, bnd_ok]
  unfold fldOf
  dsimp only
  split at h2
  · rw [if_pos (by assumption), h2]
  · cases h2
theorem ev_seqA {Gd : FE} {ds : List D} {src : Src} (h : Gd env S = .ok x S1) (h2 : walkD S1 x = some (ds, src)) : iSeq Gd env S = .ok (ds, src) S1 := by
  unfold iSeq
  rw [h, bnd_ok]
  cases x with
  | str z => cases h2
  | _ => dsimp only; rw [h2]
theorem rngD_eq (n : Nat) : rngD 0 (n : Int) = (List.range n).map fun i => D.int (i : Nat) := by
  unfold rngD
  refine List.ext_getElem? fun i => ?_
  simp
theorem ev_rg1 {Fr : Env → Cm (List D)} {n : Nat} (h : Fr env S = .ok [.int (n : Nat)] S1) (hn : n ≤ 16000) : iRg1 Fr env S = .ok ((List.range n).map fun i => D.int (i : Nat), .fz) S1 := by
  unfold iRg1
  rw [h, bnd_ok]
  show (if InRg (n : Int) then pure (rngD 0 n, Src.fz) else stk : Cm (List D × Src)) S1 = _
  rw [if_pos (by unfold InRg; omega), rngD_eq]
  rfl
theorem enumD_map {α : Type} (f : α → D) (l : List α) : enumD (l.map f) = l.zipIdx.map fun p => .tup [.int (p.2 : Nat), f p.1] := by
  unfold enumD
  refine List.ext_getElem? fun i => ?_
  simp
  rfl
theorem ev_enA {α : Type} {f : α → D} {l : List α} {Fr : Env → Cm (List D)} {src : Src} (h : Fr env S = .ok [x] S1) (h2 : walkD S1 x = some (l.map f, src)) : iEnumA Fr env S = .ok (l.zipIdx.map fun p => .tup [.int (p.2 : Nat), f p.1], src) S1 := by
  unfold iEnumA
  rw [h, bnd_ok]
  show (match walkD S1 x with | some p => R.ok (enumD p.1, p.2) S1 | none => .stuck) = _
  rw [h2]
  dsimp only
  rw [enumD_map]
theorem zipD2_map {α β : Type} (f : α → D) (g : β → D) (l : List α) (m : List β) : zipD2 (l.map f) (m.map g) = (l.zip m).map fun p => .tup [f p.1, g p.2] := by
  unfold zipD2
  rw [List.zip_map, List.map_map]
  rfl
theorem ev_zp2 {α β : Type} {f : α → D} {g : β → D} {l : List α} {m : List β} {Fr : Env → Cm (List D)} (h : Fr env S = .ok [x, y] S1) (h1 : walkD S1 x = some (l.map f, .fz)) (h2 : walkD S1 y = some (m.map g, .fz)) (hl : m.length = l.length) : iZipS2F Fr env S = .ok ((l.zip m).map fun p => .tup [f p.1, g p.2], .fz) S1 := by
  unfold iZipS2F
  rw [h, bnd_ok]
  show (match walkD S1 x, walkD S1 y with
    | some (ds1, .fz), some (ds2, .fz) => if ds2.length = ds1.length then R.ok (zipD2 ds1 ds2, Src.fz) S1 else .stuck
    | _, _ => .stuck) = _
  rw [h1, h2]
  dsimp only
  rw [if_pos (by rw [List.length_map, List.length_map]; exact hl), zipD2_map]
theorem zipD3_map {α β γ : Type} (f : α → D) (g : β → D) (k : γ → D) (l : List α) (m : List β) (n : List γ) : zipD3 (l.map f) (m.map g) (n.map k) = (l.zip (m.zip n)).map fun p => .tup [f p.1, g p.2.1, k p.2.2] := by
  unfold zipD3
  rw [List.zip_map, List.zip_map, List.map_map]
  rfl
theorem ev_zp3 {α β γ : Type} {f : α → D} {g : β → D} {k : γ → D} {l : List α} {m : List β} {n : List γ} {Fr : Env → Cm (List D)} (h : Fr env S = .ok [x, y, z] S1) (h1 : walkD S1 x = some (l.map f, .fz)) (h2 : walkD S1 y = some (m.map g, .fz)) (h3 : walkD S1 z = some (n.map k, .fz)) (hl : m.length = l.length) (hn : n.length = l.length) : iZipS3F Fr env S = .ok ((l.zip (m.zip n)).map fun p => .tup [f p.1, g p.2.1, k p.2.2], .fz) S1 := by
  unfold iZipS3F
  rw [h, bnd_ok]
  show (match walkD S1 x, walkD S1 y, walkD S1 z with
    | some (ds1, .fz), some (ds2, .fz), some (ds3, .fz) => if ds2.length = ds1.length ∧ ds3.length = ds1.length then R.ok (zipD3 ds1 ds2 ds3, Src.fz) S1 else .stuck
    | _, _, _ => .stuck) = _
  rw [h1, h2, h3]
  dsimp only
  rw [if_pos ⟨by rw [List.length_map, List.length_map]; exact hl, by rw [List.length_map, List.length_map]; exact hn⟩, zipD3_map]
theorem ev_set2 {i : Nat} {e' : Env} (h : F env S = .ok d S1) (he : env.set i (.val d) = e') : sSet i F env S = .ok (.nx e') S1 := by subst he; exact ev_set h
theorem ev_app {i k : Nat} {ds : List D} (hv : env[i]? = some (.val (.cell k))) (h0 : (lstAt S k).isSome = true) (h : F env S = .ok d S1) (hk : S1[k]? = some (.lst ds)) (hl : ds.length ≤ 15999) (hS : S1.set k (.lst (ds ++ [d])) = S2) : sApp i F env S = .ok (.nx env) S2 := by subst hS; exact ev_appC hv h0 h hk (by omega)
theorem ev_appD {Fo F : FE} {k : Nat} {ds : List D} (ho : Fo env S = .ok (.cell k) S1) (h0 : (lstAt S1 k).isSome = true) (h : F env S1 = .ok d S2) (hk : S2[k]? = some (.lst ds)) (hl : ds.length ≤ 15999) (hS : S2.set k (.lst (ds ++ [d])) = S3) : sAppC Fo F env S = .ok (.nx env) S3 := by subst hS; exact ev_appCC ho h0 h hk (by omega)
theorem lst_some {k : Nat} {ds : List D} (hk : S[k]? = some (.lst ds)) : (lstAt S k).isSome = true := by rw [lstAt_cell hk]; rfl
theorem ev_putC {Fe Fo Fi : FE} {k j : Nat} {ds : List D} (he : Fe env S = .ok d S1) (ho : Fo env S1 = .ok (.cell k) S2) (hi : Fi env S2 = .ok (.int (j : Nat)) S3) (hk : S3[k]? = some (.lst ds)) (hj : j < ds.length) {S4 : Sto} (hS : S3.set k (.lst (ds.set j d)) = S4) : sPutC Fe Fo Fi env S = .ok (.nx env) S4 := by
  subst hS
  unfold sPutC
  rw [he]
  show sB env (Fo env S1) _ = _
  rw [ho]
  show sB env (Fi env S2) _ = _
  rw [hi]
  show putC env d (.cell k) (.int (j : Nat)) S3 = _
  unfold putC
  dsimp only
  rw [lstAt_cell hk]
  dsimp only
  have e : ixN ds.length (j : Int) = some j := by
    unfold ixN
    rw [if_pos (by omega)]
    simp [hj]
  rw [e]
theorem ev_par {i j : Nat} {e' : Env} {Fr : Env → Cm (List D)} (h : Fr env S = .ok [x, y] S1) (he : (env.set i (.val x)).set j (.val y) = e') : sPar i j Fr env S = .ok (.nx e') S1 := by subst he; unfold sPar; rw [h]; rfl
theorem ev_par3 {i j l : Nat} {e' : Env} {Fr : Env → Cm (List D)} (h : Fr env S = .ok [x, y, z] S1) (he : ((env.set i (.val x)).set j (.val y)).set l (.val z) = e') : sPar3 i j l Fr env S = .ok (.nx e') S1 := by subst he; unfold sPar3; rw [h]; rfl
theorem ev_asg {b : Bd} {e : Env} (h : F env S = .ok d S1) (hb : bindE b d env = some e) : sAsg b F env S = .ok (.nx e) S1 := by unfold sAsg; rw [h]; show (match bindE b d env with | some e => R.ok (Fl.nx e) S1 | none => .stuck) = _; rw [hb]
end
theorem len_fm {α β : Type} {p : α → Bool} {g : α → β} {l : List α} {n : Nat} (h : l.length ≤ n) : ((l.filter p).map g).length ≤ n := by rw [List.length_map]; exact Nat.le_trans (List.length_filter_le _ _) h
theorem len_m {α β : Type} {g : α → β} {l : List α} {n : Nat} (h : l.length ≤ n) : (l.map g).length ≤ n := by rw [List.length_map]; exact h
theorem comp_mp {α : Type} {b : Bd} {src : Src} {Fe : FE} {env0 : Env} {S : Sto} {f : α → D} {l : List α} {e : α → Env} {g : α → D} (hc : chk src S = true) (hb : ∀ a ∈ l, bindE b (f a) env0 = some (e a)) (he : ∀ a ∈ l, Fe (e a) S = .ok (g a) S) : compL b src (fun _ => pure true) Fe env0 (l.map f) S = some (l.map g, S) :=
  comp_map hc f g l fun a ha => ⟨e a, hb a ha, he a ha⟩
theorem comp_fm {α : Type} {b : Bd} {src : Src} {Ft : Env → Cm Bool} {Fe : FE} {env0 : Env} {S : Sto} {f : α → D} {e : α → Env} {p : α → Bool} {g : α → D} : ∀ {l : List α} (hc : chk src S = true) (hb : ∀ a ∈ l, bindE b (f a) env0 = some (e a)) (ht : ∀ a ∈ l, Ft (e a) S = .ok (p a) S) (he : ∀ a ∈ l, p a = true → Fe (e a) S = .ok (g a) S), compL b src Ft Fe env0 (l.map f) S = some ((l.filter p).map g, S)
  | [], hc, _, _, _ => by show compL b src Ft Fe env0 [] S = _; unfold compL; rw [if_pos hc]; rfl
  | a :: l, hc, hb, ht, he => by
    have ih := comp_fm (l := l) hc (fun x hx => hb x (List.mem_cons_of_mem _ hx)) (fun x hx => ht x (List.mem_cons_of_mem _ hx)) fun x hx => he x (List.mem_cons_of_mem _ hx)
    show compL b src Ft Fe env0 (f a :: l.map f) S = _
    unfold compL
    rw [if_pos hc, hb a List.mem_cons_self]
    dsimp only
    rw [ht a List.mem_cons_self]
    cases hp : p a with
    | false =>
      show compL b src Ft Fe env0 (l.map f) S = _
      rw [ih, List.filter_cons, hp]
      rfl
    | true =>
      show (match nox (Fe (e a) S) with
          | none => none
          | some (y, S2) => match compL b src Ft Fe env0 (l.map f) S2 with
            | none => none
            | some (ys, S3) => some (y :: ys, S3)) = _
      rw [he a List.mem_cons_self hp]
      show (match compL b src Ft Fe env0 (l.map f) S with
            | none => none
            | some (ys, S3) => some (g a :: ys, S3)) = _
      rw [ih, List.filter_cons, hp]
      rfl
end HT.C
local macro_rules | `(tactic| walk_at "lay") => `(tactic| first | assumption | (simp only [*]; done))
local macro_rules | `(tactic| walk_at "len") => `(tactic| first
  | exact Nat.le_of_ble_eq_true rfl
  | assumption
  | omega
  | (simp only [List.length_cons, List.length_nil, List.length_map, List.length_append, List.length_range, List.length_zipIdx, List.length_zip]; omega)
  | (refine HT.C.len_fm ?_; walk_at "len")
  | (refine HT.C.len_m ?_; walk_at "len"))
local macro_rules | `(tactic| walk_at "cond") => `(tactic| first | exact rfl | assumption | (simp only [*, Bool.not_true, Bool.not_false, decide_true, decide_false, Bool.false_eq_true, Bool.not_eq_true', decide_eq_true_eq, decide_eq_false_iff_not, not_true, not_false_iff]; done))
local macro_rules | `(tactic| walk_at "leaf") => `(tactic| first | assumption | exact rfl)
local macro_rules | `(tactic| walk_at "some") => `(tactic| first | exact HT.C.lst_some (by assumption) | exact rfl)
local macro_rules | `(tactic| walk_at "sto") => `(tactic| exact rfl)
local macro_rules | `(tactic| walk_at "comp") => `(tactic| first
  | assumption
  | (apply HT.C.comp_mp; exact rfl; (intro z hz; exact rfl); (intro z hz; walk_at "ev"))
  | (apply HT.C.comp_fm; exact rfl; (intro z hz; exact rfl); (intro z hz; walk_at "ev"); (intro z hz hp; walk_at "ev")))
local macro_rules | `(tactic| walk_at "iter") => `(tactic| first
  | ((with_reducible apply HT.C.ev_seqA); walk_at "ev"; walk_at "leaf")
  | ((with_reducible apply HT.C.ev_rg1); walk_at "ev"; walk_at "len")
  | ((with_reducible apply HT.C.ev_enA); walk_at "ev"; exact rfl)
  | ((with_reducible apply HT.C.ev_zp2); walk_at "ev"; exact rfl; exact rfl; walk_at "len")
  | ((with_reducible apply HT.C.ev_zp3); walk_at "ev"; exact rfl; exact rfl; exact rfl; walk_at "len"; walk_at "len"))
local macro_rules | `(tactic| walk_at "if") => `(tactic| first
  | ((with_reducible apply HT.C.if_t); walk_at "cond"; walk_at "ev")
  | ((with_reducible apply HT.C.if_f); walk_at "cond"; walk_at "ev")
  | ((with_reducible apply HT.C.if_and); walk_at "ev")
  | ((with_reducible apply HT.C.if_or); walk_at "ev"))
local macro_rules | `(tactic| walk_at "ev") => `(tactic| first
  | exact HT.C.ev_c
  | exact HT.C.ev_nil
  | exact HT.C.ev_var rfl
  | ((with_reducible apply HT.C.ev_cons); walk_at "ev"; walk_at "ev")
  | ((with_reducible apply HT.C.ev_call); walk_at "ev"; walk_at "leaf")
  | ((with_reducible apply HT.C.ev_f2); walk_at "ev"; walk_at "ev"; walk_at "leaf")
  | ((with_reducible apply HT.C.ev_f1); walk_at "ev"; walk_at "leaf")
  | ((with_reducible apply HT.C.ev_fB); walk_at "ev")
  | ((with_reducible apply HT.C.ev_notT); walk_at "ev")
  | ((with_reducible apply HT.C.ev_andT); walk_at "ev"; walk_at "if")
  | ((with_reducible apply HT.C.ev_orT); walk_at "ev"; walk_at "if")
  | ((with_reducible apply HT.C.ev_andV); walk_at "ev"; walk_at "if")
  | ((with_reducible apply HT.C.ev_orV); walk_at "ev"; walk_at "if")
  | ((with_reducible apply HT.C.ev_ifT); walk_at "ev"; walk_at "if")
  | ((with_reducible apply HT.C.ev_args); walk_at "ev"; walk_at "leaf")
  | ((with_reducible apply HT.C.ev_frzL); walk_at "ev")
  | ((with_reducible apply HT.C.ev_frzI); walk_at "ev")
  | ((with_reducible apply HT.C.ev_cell); walk_at "ev")
  | ((with_reducible apply HT.C.ev_lst); walk_at "ev"; walk_at "len")
  | ((with_reducible apply HT.C.ev_tup); walk_at "ev"; walk_at "len")
  | ((with_reducible apply HT.C.ev_one); walk_at "ev"; walk_at "leaf")
  | ((with_reducible apply HT.C.ev_lc); walk_at "iter"; walk_at "comp"; walk_at "len")
  | ((with_reducible apply HT.C.ev_make); walk_at "ev"; walk_at "leaf")
  | ((with_reducible apply HT.C.ev_fld); exact rfl; exact rfl)
  | ((with_reducible apply HT.C.ev_seq); walk_at "ev"; walk_at "ev")
  | ((with_reducible apply HT.C.ev_set2); walk_at "ev"; exact rfl)
  | ((with_reducible apply HT.C.ev_ret); walk_at "ev")
  | ((with_reducible apply HT.C.ev_expr); walk_at "ev")
  | ((with_reducible apply HT.C.ev_sif); walk_at "ev"; walk_at "if")
  | ((with_reducible apply HT.C.ev_for); walk_at "iter"; exact rfl; walk_at "leaf")
  | ((with_reducible apply HT.C.ev_app); exact rfl; walk_at "some"; walk_at "ev"; walk_at "leaf"; walk_at "len"; walk_at "sto")
  | ((with_reducible apply HT.C.ev_appD); walk_at "ev"; walk_at "some"; walk_at "ev"; walk_at "leaf"; walk_at "len"; walk_at "sto")
  | ((with_reducible apply HT.C.ev_putC); walk_at "ev"; walk_at "ev"; walk_at "ev"; walk_at "leaf"; walk_at "len"; walk_at "sto")
  | ((with_reducible apply HT.C.ev_par); walk_at "ev"; exact rfl)
  | ((with_reducible apply HT.C.ev_par3); walk_at "ev"; exact rfl)
  | ((with_reducible apply HT.C.ev_asg); walk_at "ev"; exact rfl)
  | exact rfl)
set_option maxRecDepth 100000
set_option maxHeartbeats 1000000
namespace HT.C
open PySem PySem.Spec L2
open PyProof.Rows hiding St
structure Dt (n k : Nat) (d : D) (p : PyData) : Prop where
  cl : clD d = true
  dp : ∀ f, deep0 f d = some p
  dq : ∀ f, dq0 f d = some p
  fine : Fine p n
  dep : p.depth ≤ k
theorem Fine.le {p : PyData} {n m : Nat} (h : Fine p n) (hn : n ≤ m) : Fine p m := ⟨h.lay, h.short, Nat.le_trans h.bulk hn, h.sh, h.dp, h.tx⟩
theorem Dt.le {n k m j : Nat} {d : D} {p : PyData} (h : Dt n k d p) (hn : n ≤ m) (hk : k ≤ j) : Dt m j d p := ⟨h.cl, h.dp, h.dq, h.fine.le hn, Nat.le_trans h.dep hk⟩
theorem Dt.str {x : Str} (h : goodS x = true) : Dt 8 0 (.str x) (.str x) := by
  have := goodS_size h
  refine ⟨rfl, fun _ => rfl, fun _ => rfl, ⟨goodS_lay h, goodS_short h, ?_, ?_, ?_, goodS_tx h⟩, ?_⟩
  · simp only [PyData.bulk]; omega
  · simp [PyData.showable]
  · simp [PyData.depth]
  · simp [PyData.depth]
theorem Dt.non : Dt 0 0 .non .none := ⟨rfl, fun _ => rfl, fun _ => rfl, ⟨rfl, by decide +kernel, by simp [PyData.bulk], by simp [PyData.showable], by simp [PyData.depth], by decide +kernel⟩, by simp [PyData.depth]⟩
theorem Dt.bl (b : Bool) : Dt 0 0 (.bl b) (.bool b) := ⟨rfl, fun _ => rfl, fun _ => rfl, ⟨rfl, by cases b <;> decide +kernel, by simp [PyData.bulk], by simp [PyData.showable], by simp [PyData.depth], by cases b <;> decide +kernel⟩, by simp [PyData.depth]⟩
theorem ints_all : ((List.range 2000).all fun n => PyData.leavesShort 8 (.int (n : Nat)) && PyData.strOk (PyData.shown (.int (n : Nat))) && (PyData.leavesShort 8 (.int (-(n : Nat) : Int)) && PyData.strOk (PyData.shown (.int (-(n : Nat) : Int))))) = true := by decide +kernel
theorem Dt.int {i : Int} (h : i.natAbs < 2000) : Dt 0 0 (.int i) (.int i) := by
  have q := List.all_eq_true.mp ints_all i.natAbs (List.mem_range.mpr h)
  obtain ⟨q1, q2⟩ := bAnd q
  have w : PyData.leavesShort 8 (.int i) = true ∧ PyData.strOk (PyData.shown (.int i)) = true := by
    rcases Int.natAbs_eq i with e | e
    · rw [e]; exact bAnd q1
    · rw [e]; exact bAnd q2
  exact ⟨rfl, fun _ => rfl, fun _ => rfl, ⟨rfl, w.1, by simp [PyData.bulk], by
    have q3 : i.natAbs.log2 < 101 := PySem.Flt.log2_lt_of (by decide) (Nat.lt_trans h (by decide))
    simp [PyData.showable]
    omega, by simp [PyData.depth], w.2⟩, by simp [PyData.depth]⟩
theorem dt_all {α : Type} {n k : Nat} {f : α → D} {g : α → PyData} : ∀ {l : List α}, (∀ a ∈ l, Dt n k (f a) (g a)) → clL (l.map f) = true ∧ (∀ h, deepL h (l.map f) = some (l.map g)) ∧ (∀ h, dqL h (l.map f) = some (l.map g)) ∧
    PyData.canLayAll0 (l.map g) = true ∧ PyData.leavesShortAll 8 (l.map g) = true ∧ PyData.bulkAll (l.map g) ≤ (n + 1) * l.length ∧ PyData.showableAll (l.map g) = true ∧ PyData.depthAll (l.map g) ≤ k ∧ ∀ x ∈ l.map g, PyData.strOk x.shown = true
  | [], _ => ⟨rfl, fun _ => rfl, fun _ => rfl, rfl, by simp [PyData.leavesShortAll], by simp [PyData.bulkAll], by simp [PyData.showableAll], by simp [PyData.depthAll], fun x hx => by cases hx⟩
  | a :: l, h => by
    obtain ⟨c0, c1, c2, c3, c4, c5, c6, c7, c8⟩ := dt_all (l := l) fun x hx => h x (List.mem_cons_of_mem _ hx)
    obtain ⟨q0, q1, q2, ⟨f1, f2, f3, f4, f5, f6⟩, q4⟩ := h a List.mem_cons_self
    refine ⟨by show (clD (f a) && clL (l.map f)) = true; rw [q0, c0]; rfl, fun h => ?_, fun h => ?_, by simp only [List.map_cons, PyData.canLayAll0, f1, c3, Bool.and_self], by simp only [List.map_cons, PyData.leavesShortAll, f2, c4, Bool.and_self], ?_, by simp only [List.map_cons, PyData.showableAll, f4, c6, Bool.and_self], by simp only [List.map_cons, PyData.depthAll]; omega, fun x hx => ?_⟩
    · show (match deep0 h (f a), deepL h (l.map f) with | some a, some b => some (a :: b) | _, _ => none) = _
      rw [q1, c1]; rfl
    · show (match dq0 h (f a), dqL h (l.map f) with | some a, some b => some (a :: b) | _, _ => none) = _
      rw [q2, c2]; rfl
    · simp only [List.map_cons, PyData.bulkAll, List.length_cons, Nat.mul_succ]
      omega
    · rcases List.mem_cons.mp hx with rfl | hx
      · exact f6
      · exact c8 x hx
theorem Dt.lst {α : Type} {n k m : Nat} {f : α → D} {g : α → PyData} {l : List α} (h : ∀ a ∈ l, Dt n k (f a) (g a)) (hm : l.length ≤ m) (hk : k ≤ 9) : Dt ((n + 1) * m) (k + 1) (.lst (l.map f)) (.list (l.map g)) := by
  obtain ⟨c0, c1, c2, c3, c4, c5, c6, c7, c8⟩ := dt_all h
  have b := Nat.mul_le_mul_left (n + 1) hm
  exact ⟨c0, fun f' => by show (deepL f' (l.map f)).map PyData.list = _; rw [c1]; rfl, fun f' => by show (dqL f' (l.map f)).map PyData.list = _; rw [c2]; rfl, ⟨by simp only [PyData.canLay0, c3], by simp only [PyData.leavesShort, c4], by simp only [PyData.bulk]; omega, by simp only [PyData.showable, c6], by simp only [PyData.depth]; omega, ok_list c8⟩, by simp only [PyData.depth]; omega⟩
theorem Dt.tup {α : Type} {n k m : Nat} {f : α → D} {g : α → PyData} {l : List α} (h : ∀ a ∈ l, Dt n k (f a) (g a)) (hm : l.length ≤ m) (hk : k ≤ 9) : Dt ((n + 1) * m) (k + 1) (.tup (l.map f)) (.tuple (l.map g)) := by
  obtain ⟨c0, c1, c2, c3, c4, c5, c6, c7, c8⟩ := dt_all h
  have b := Nat.mul_le_mul_left (n + 1) hm
  exact ⟨c0, fun f' => by show (deepL f' (l.map f)).map PyData.tuple = _; rw [c1]; rfl, fun f' => by show (dqL f' (l.map f)).map PyData.tuple = _; rw [c2]; rfl, ⟨by simp only [PyData.canLay0, c3], by simp only [PyData.leavesShort, c4], by simp only [PyData.bulk]; omega, by simp only [PyData.showable, c6], by simp only [PyData.depth]; omega, ok_tuple c8⟩, by simp only [PyData.depth]; omega⟩
section
variable {n k m j : Nat} {x y : D} {p q : PyData} {S : Sto} {neg : Bool}
theorem Dt.deep (h : Dt n k x p) (S : Sto) : deep S x = some p := h.dp _
theorem Dt.deepq (h : Dt n k x p) (S : Sto) : deepq S x = some p := h.dq _
theorem eq_data (hx : HT.deep S x = some p) (hy : HT.deep S y = some q) (fx : Fine p n) (fy : Fine q m) : gEq neg x y S = .ok (.bl (if neg then !PyData.eqv p q else PyData.eqv p q)) S := by
  unfold gEq
  rw [hx, hy]
  dsimp only
  rw [if_pos ⟨fx.shaped, fy.shaped⟩]
theorem eq_d (h1 : Dt n k x p) (h2 : Dt m j y q) : gEq neg x y S = .ok (.bl (if neg then !PyData.eqv p q else PyData.eqv p q)) S := eq_data (h1.deep S) (h2.deep S) h1.fine h2.fine
end
end HT.C
set_option maxRecDepth 100000
set_option maxHeartbeats 1000000
namespace HT.C
open PySem PySem.Spec L2
open PyProof.Rows hiding St
def Gn (B : Int) (g : List D) : Prop := ∃ g0 g1 g2, g = [.int g0, .int g1, .int g2] ∧ 0 ≤ g0 ∧ 0 ≤ g1 ∧ g1 < 2147483647 ∧ 0 ≤ g2 ∧ g2 ≤ B
theorem Gn.is {B : Int} {g : List D} {T : Sto} (h : Gn B g) : isG (.lst g :: T) 0 B := by
  obtain ⟨x, y, z, e, r⟩ := h
  exact ⟨x, y, z, by rw [e]; rfl, r⟩
theorem Gn.of {B : Int} {g : List D} {T : Sto} (h : isG (.lst g :: T) 0 B) : Gn B g := by
  obtain ⟨x, y, z, e, r⟩ := h
  have e' : some (CO.lst g) = some (CO.lst [.int x, .int y, .int z]) := e
  injection e' with e'
  injection e' with e'
  exact ⟨x, y, z, e', r⟩
theorem Gn.cl {B : Int} {g : List D} (h : Gn B g) : clL g = true := by
  obtain ⟨x, y, z, rfl, _⟩ := h
  rfl
theorem Gn.le {B C : Int} {g : List D} (h : Gn B g) (hb : B ≤ C) : Gn C g := by
  obtain ⟨x, y, z, e, a, b, c, d, f⟩ := h
  exact ⟨x, y, z, e, a, b, c, d, by omega⟩
section
variable {B : Int} {g : List D} {T : Sto} {ps : List Gp}
end
def modW4 : List Str := ["cup", "jug", "a", "abcdefgh"]
def letW : List Str := ["zzz", "a", "b", "c", "d", "e", "f", "g", "h", "i", "j", "k", "l", "m", "n", "o", "p", "q", "r", "s", "t", "u", "v", "w", "x", "y", "z"]
def modW : List Str := modW4 ++ letW
abbrev Itm := Str × List (List Str)
def itD (i : Itm) : D := .tup [.str i.1, .lst (lssD i.2)]
def stD (st : List Itm) : List D := st.map itD
def StOk (st : List Itm) (ps : List Gp) : Prop := ∀ i ∈ st, i.1 ∈ modW ∧ Th i.2 ps
theorem modW_all : (modW.all fun x => goodS x && isT (M_is_name [.str x] [])) = true := by decide +kernel
theorem modW_name {x : Str} (h : x ∈ modW) (S : Sto) : N_is_name [.str x] S = .ok (.bl true) S := frm_T rfl (bAnd (List.all_eq_true.mp modW_all x h)).2
def pdLs (l : List Str) : PyData := .list (l.map .str)
def pdLss (t : List (List Str)) : PyData := .list (t.map pdLs)
theorem ix_map {α : Type} {f : α → D} {l : List α} {i : Nat} {a : α} (h : l[i]? = some a) (S : Sto) : gIx (.lst (l.map f)) (.int (i : Nat)) S = .ok (f a) S := by
  have e : atI (l.map f) (i : Int) = some (f a) := atI_nat (by rw [List.getElem?_map, h]; rfl)
  show (match atI (l.map f) (i : Int) with | some d => R.ok d S | none => .stuck) = _
  rw [e]
theorem ix_mapC {α : Type} {f : α → D} {l : List α} {i k : Nat} {a : α} {S : Sto} (hk : S[k]? = some (.lst (l.map f))) (h : l[i]? = some a) : gIx (.cell k) (.int (i : Nat)) S = .ok (f a) S := by
  have e : atI (l.map f) (i : Int) = some (f a) := atI_nat (by rw [List.getElem?_map, h]; rfl)
  show (match asQ2 S (.cell k) with | some ds => (match atI ds (i : Int) with | some d => R.ok d S | none => .stuck) | none => .stuck) = _
  rw [show asQ2 S (.cell k) = some (l.map f) from asL_cell hk]
  dsimp only
  rw [e]
theorem len_map {α : Type} {f : α → D} {l : List α} (S : Sto) : a1 gLen [.lst (l.map f)] S = .ok (.int (l.length : Nat)) S := by
  rw [ev_len (ds := l.map f) (fun z e => by cases e) rfl, List.length_map]
theorem len_mapC {α : Type} {f : α → D} {l : List α} {k : Nat} {S : Sto} (hk : S[k]? = some (.lst (l.map f))) : a1 gLen [.cell k] S = .ok (.int (l.length : Nat)) S := by
  rw [ev_len (x := .cell k) (S := S) (ds := l.map f) (fun z e => by cases e) (show asQ2 S (.cell k) = _ from asL_cell hk), List.length_map]
theorem last_at {c : CO} {g : List D} {T : Sto} {n : Nat} (h : n = T.length + 1) : (CO.lst g :: (T ++ [c]))[n]? = some c := by
  subst h
  simp
theorem last_set {c c' : CO} {g : List D} {T : Sto} {n : Nat} (h : n = T.length + 1) : (CO.lst g :: (T ++ [c])).set n c' = CO.lst g :: (T ++ [c']) := by
  subst h
  show CO.lst g :: (T ++ [c]).set T.length c' = _
  rw [List.set_append_right _ _ (Nat.le_refl _), Nat.sub_self]
  rfl
local macro_rules | `(tactic| walk_at "sto") => `(tactic| assumption)
local macro_rules | `(tactic| walk_at "leaf") => `(tactic| first | exact ix_mapC (by assumption) (by assumption) | exact len_mapC (by assumption) | exact len_map _)
end HT.C
set_option maxRecDepth 100000
set_option maxHeartbeats 1000000
namespace HT.C
open PySem PySem.Spec L2
open PyProof.Rows hiding St
section
variable {ps : List Gp} {st : List Itm} {ss ts : List (List Str)} {S : Sto}
local macro_rules | `(tactic| walk_at "leaf") => `(tactic| first | exact modW_name (by assumption) _ | exact fits_ok (by assumption) (by assumption))
theorem in_bsN {l : List Bool} (S : Sto) : gInX true (.bl false) (.lst (bsD l)) S = .ok (.bl (!l.contains false)) S := in_bs S
local macro_rules | `(tactic| walk_at "leaf") => `(tactic| exact in_bsN _)
end
end HT.C
set_option maxRecDepth 100000
set_option maxHeartbeats 1000000
namespace HT.C
open PySem PySem.Spec L2
open PyProof.Rows hiding St
theorem Tk.get : ∀ {t : List (List Str)} {ps : List Gp}, Tk t ps → ∀ {j : Nat} {g : Gp}, ps[j]? = some g → ∃ l, t[j]? = some l ∧ l.Sublist g.bx
  | _, _, .nil, j, g, h => by simp at h
  | _, _, .cons (l := l) h1 h2, 0, g, h => by
    have e : some _ = some g := h
    cases e
    exact ⟨l, rfl, h1⟩
  | _, _, .cons h1 h2, j + 1, g, h => Tk.get h2 (j := j) (by simpa using h)
theorem Tk.set : ∀ {t : List (List Str)} {ps : List Gp}, Tk t ps → ∀ {j : Nat} {g : Gp} {l : List Str}, ps[j]? = some g → l.Sublist g.bx → Tk (t.set j l) ps
  | _, _, .nil, j, g, l, h, _ => by simp at h
  | _, _, .cons h1 h2, 0, g, l, h, hl => by
    have e : some _ = some g := h
    cases e
    exact .cons hl h2
  | _, _, .cons h1 h2, j + 1, g, l, h, hl => .cons h1 (Tk.set h2 (j := j) (by simpa using h) hl)
theorem in_strY {x : Str} {l : List Str} (hx : PyData.canLay0 (.str x) = true) (hl : ∀ y ∈ l, PyData.canLay0 (.str y) = true) (S : Sto) : gInX false (.str x) (lsD l) S = .ok (.bl (decide (x ∈ l))) S := in_strs hx hl S
theorem ne_bl {a b : Bool} (S : Sto) : gEq true (.bl a) (.bl b) S = .ok (.bl (a != b)) S := by
  rw [eq_d (Dt.bl a) (Dt.bl b)]
  cases a <;> cases b <;> simp [PyData.eqv]
section
variable {ps : List Gp} {st : List Itm} {ts : List (List Str)} {S : Sto}
local macro_rules | `(tactic| walk_at "leaf") => `(tactic| first | exact in_strY (by walk_at "lay") (by walk_at "lay") _ | exact eq_str _ _ (by walk_at "lay") (by walk_at "lay") _ | exact ne_bl _)
local macro_rules | `(tactic| walk_at "sto") => `(tactic| first | exact rfl | assumption)
end
end HT.C
set_option maxRecDepth 100000
set_option maxHeartbeats 1000000
namespace HT.C
open PySem PySem.Spec L2
open PyProof.Rows hiding St
section
variable {ps : List Gp} {st : List Itm} {ts : List (List Str)} {S : Sto}
local macro_rules | `(tactic| walk_at "sto") => `(tactic| first | exact rfl | assumption)
end
end HT.C
set_option maxRecDepth 100000
set_option maxHeartbeats 1000000
namespace HT.C
open PySem PySem.Spec L2
open PyProof.Rows hiding St
end HT.C
set_option maxRecDepth 100000
set_option maxHeartbeats 1000000
namespace HT.C
open PySem PySem.Spec L2
open PyProof.Rows hiding St
section
variable {n k m j : Nat} {S : Sto} {neg : Bool}
end
theorem Flat.more {S : Sto} {k : Nat} (h : Flat S k) (T : Sto) : Flat (S ++ T) k := by
  obtain ⟨x, h1, c⟩ := h
  exact ⟨x, by rw [List.getElem?_append_left (List.getElem?_eq_some_iff.mp h1).1]; exact h1, c⟩
theorem meltE_cons {f : Nat → Option D} {s s' : Sl} {r r' : Env} (h : meltSl f s = some s') (h2 : meltE f r = some r') : meltE f (s :: r) = some (s' :: r') := by
  show (match meltSl f s, meltE f r with | some a, some b => some (a :: b) | _, _ => none) = _
  rw [h, h2]
end HT.C
set_option maxRecDepth 100000
set_option maxHeartbeats 1000000
namespace HT.C
open PySem PySem.Spec L2
open PyProof.Rows hiding St
section
variable {ps : List Gp} {st : List Itm} {ss ts : List (List Str)} {S : Sto}
theorem strsD_map : ∀ l : List Str, strsD (l.map .str) = some l
  | [] => rfl
  | z :: l => by
    show (strsD (l.map .str)).map (z :: ·) = _
    rw [strsD_map l]
    rfl
end
end HT.C
set_option maxRecDepth 100000
set_option maxHeartbeats 1000000
namespace HT.C
open PySem PySem.Spec L2
open PyProof.Rows hiding St
structure Tl (n k : Nat) (d : D) (p : PyData) : Prop where
  cl : clD d = true
  dq : ∀ f, dq0 f d = some p
  short : p.leavesShort 8 = true
  bulk : p.bulk ≤ n
  sh : p.showable = true
  dep : p.depth ≤ k
  tx : PyData.strOk p.shown = true
theorem Dt.tl {n k : Nat} {d : D} {p : PyData} (h : Dt n k d p) : Tl n k d p := ⟨h.cl, h.dq, h.fine.short, h.fine.bulk, h.fine.sh, h.dep, h.fine.tx⟩
theorem Tl.le {n k m j : Nat} {d : D} {p : PyData} (h : Tl n k d p) (hn : n ≤ m) (hk : k ≤ j) : Tl m j d p := ⟨h.cl, h.dq, h.short, Nat.le_trans h.bulk hn, h.sh, Nat.le_trans h.dep hk, h.tx⟩
theorem Tl.shw {n k : Nat} {d : D} {p : PyData} (h : Tl n k d p) (hn : n ≤ 9990) (hk : k ≤ 50) : Shw p := ⟨h.sh, Nat.le_trans h.dep hk, by
  have := PyData.shown_le_bulk 8 (Nat.le_refl _) p h.short
  have b := h.bulk
  omega, h.tx⟩
theorem tl_all {α : Type} {n k : Nat} {f : α → D} {g : α → PyData} : ∀ {l : List α}, (∀ a ∈ l, Tl n k (f a) (g a)) → clL (l.map f) = true ∧ (∀ h, dqL h (l.map f) = some (l.map g)) ∧
    PyData.leavesShortAll 8 (l.map g) = true ∧ PyData.bulkAll (l.map g) ≤ (n + 1) * l.length ∧ PyData.showableAll (l.map g) = true ∧ PyData.depthAll (l.map g) ≤ k ∧ ∀ x ∈ l.map g, PyData.strOk x.shown = true
  | [], _ => ⟨rfl, fun _ => rfl, by simp [PyData.leavesShortAll], by simp [PyData.bulkAll], by simp [PyData.showableAll], by simp [PyData.depthAll], fun x hx => (nomatch hx)⟩
  | a :: l, h => by
    obtain ⟨c0, c2, c4, c5, c6, c7, c8⟩ := tl_all (l := l) fun x hx => h x (List.mem_cons_of_mem _ hx)
    obtain ⟨q0, q2, f2, f3, f4, q4, f6⟩ := h a List.mem_cons_self
    refine ⟨by show (clD (f a) && clL (l.map f)) = true; rw [q0, c0]; rfl, fun h => ?_, by simp only [List.map_cons, PyData.leavesShortAll, f2, c4, Bool.and_self], ?_, by simp only [List.map_cons, PyData.showableAll, f4, c6, Bool.and_self], by simp only [List.map_cons, PyData.depthAll]; omega, fun x hx => ?_⟩
    · show (match dq0 h (f a), dqL h (l.map f) with | some a, some b => some (a :: b) | _, _ => none) = _
      rw [q2, c2]; rfl
    · simp only [List.map_cons, PyData.bulkAll, List.length_cons, Nat.mul_succ]
      omega
    · rcases List.mem_cons.mp hx with rfl | hx
      · exact f6
      · exact c8 x hx
theorem Tl.lst {α : Type} {n k m : Nat} {f : α → D} {g : α → PyData} {l : List α} (h : ∀ a ∈ l, Tl n k (f a) (g a)) (hm : l.length ≤ m) : Tl ((n + 1) * m) (k + 1) (.lst (l.map f)) (.list (l.map g)) := by
  obtain ⟨c0, c2, c4, c5, c6, c7, c8⟩ := tl_all h
  have b := Nat.mul_le_mul_left (n + 1) hm
  exact ⟨c0, fun f' => by show (dqL f' (l.map f)).map PyData.list = _; rw [c2]; rfl, by simp only [PyData.leavesShort, c4], by simp only [PyData.bulk]; omega, by simp only [PyData.showable, c6], by simp only [PyData.depth]; omega, ok_list c8⟩
theorem Tl.tup {α : Type} {n k m : Nat} {f : α → D} {g : α → PyData} {l : List α} (h : ∀ a ∈ l, Tl n k (f a) (g a)) (hm : l.length ≤ m) : Tl ((n + 1) * m) (k + 1) (.tup (l.map f)) (.tuple (l.map g)) := by
  obtain ⟨c0, c2, c4, c5, c6, c7, c8⟩ := tl_all h
  have b := Nat.mul_le_mul_left (n + 1) hm
  exact ⟨c0, fun f' => by show (dqL f' (l.map f)).map PyData.tuple = _; rw [c2]; rfl, by simp only [PyData.leavesShort, c4], by simp only [PyData.bulk]; omega, by simp only [PyData.showable, c6], by simp only [PyData.depth]; omega, ok_tuple c8⟩
def To (n k : Nat) (d : D) : Prop := ∃ p, Tl n k d p
theorem To.le {n k m j : Nat} {d : D} (h : To n k d) (hn : n ≤ m) (hk : k ≤ j) : To m j d := by
  obtain ⟨p, q⟩ := h
  exact ⟨p, q.le hn hk⟩
theorem to_pick {n k : Nat} {l : List D} (h : ∀ d ∈ l, To n k d) : ∃ g : D → PyData, ∀ d ∈ l, Tl n k d (g d) := by
  classical
  refine ⟨fun d => if hd : ∃ p, Tl n k d p then hd.choose else .none, fun d hd => ?_⟩
  have q : ∃ p, Tl n k d p := h d hd
  show Tl n k d (if hd : ∃ p, Tl n k d p then hd.choose else .none)
  rw [dif_pos q]
  exact q.choose_spec
theorem To.lst {n k m : Nat} {l : List D} (h : ∀ d ∈ l, To n k d) (hm : l.length ≤ m) : To ((n + 1) * m) (k + 1) (.lst l) := by
  obtain ⟨g, hg⟩ := to_pick h
  have q := Tl.lst (f := id) (g := g) (l := l) hg hm
  rw [List.map_id] at q
  exact ⟨_, q⟩
theorem To.tup {n k m : Nat} {l : List D} (h : ∀ d ∈ l, To n k d) (hm : l.length ≤ m) : To ((n + 1) * m) (k + 1) (.tup l) := by
  obtain ⟨g, hg⟩ := to_pick h
  have q := Tl.tup (f := id) (g := g) (l := l) hg hm
  rw [List.map_id] at q
  exact ⟨_, q⟩
end HT.C
set_option maxRecDepth 100000
set_option maxHeartbeats 1000000
namespace HT.C
open PySem PySem.Spec L2
open PyProof.Rows hiding St
section
variable {ps : List Gp} {st : List Itm} {ss ts : List (List Str)} {S : Sto} {one v x : D} {t : Ty}
local macro_rules | `(tactic| walk_at "leaf") => `(tactic| first | exact modW_name (by assumption) _ | exact fits_ok (by assumption) (by assumption))
end
end HT.C
set_option maxRecDepth 100000
set_option maxHeartbeats 1000000
namespace HT.C
open PySem PySem.Spec L2
open PyProof.Rows hiding St
end HT.C
set_option maxRecDepth 100000
set_option maxHeartbeats 1000000
namespace HT.C
open PySem PySem.Spec L2
open PyProof.Rows hiding St
theorem mixed_ok {a b : Int} (ha : 0 ≤ a ∧ a < 2147483648) (hb : 0 ≤ b ∧ b ≤ 1000000) (S : Sto) : ∃ h, N__law_mixed [.int a, .int b] S = .ok (.int h) S ∧ 0 ≤ h ∧ h < 2147483587 := by
  have ms : ∀ z : Int, 0 ≤ z → z < 2 ^ 90 → z.natAbs < 2 ^ 100 := fun z h1 h2 => by
    have e : (2 : Int) ^ 90 = 1237940039285380274899124224 := by decide
    have e2 : (2 : Nat) ^ 100 = 1267650600228229401496703205376 := by decide
    omega
  have e90 : (2 : Int) ^ 90 = 1237940039285380274899124224 := by decide
  have n1 := ms a ha.1 (by omega)
  have n2 := ms b hb.1 (by omega)
  have k1 : (1103515245 : Int).natAbs < 2 ^ 100 := by decide
  have k2 : (7919 : Int).natAbs < 2 ^ 100 := by decide
  have k3 : (48271 : Int).natAbs < 2 ^ 100 := by decide
  have p1 : (0 : Int) < 2147483647 := by decide
  have p2 : (0 : Int) < 2147483629 := by decide
  have p3 : (0 : Int) < 2147483587 := by decide
  have n3 : (7919 * b).natAbs < 2 ^ 100 := ms _ (by omega) (by omega)
  obtain ⟨m1, hm1⟩ : ∃ m, m = (a * 1103515245 + 7919 * b * b + b + 1) % 2147483647 := ⟨_, rfl⟩
  have b1 : 0 ≤ m1 ∧ m1 < 2147483647 := by
    rw [hm1]
    exact ⟨Int.emod_nonneg _ (by decide), Int.emod_lt_of_pos _ p1⟩
  have n4 := ms m1 b1.1 (by omega)
  obtain ⟨m2, hm2⟩ : ∃ m, m = (m1 * m1 + 69621) % 2147483629 := ⟨_, rfl⟩
  have b2 : 0 ≤ m2 ∧ m2 < 2147483629 := by
    rw [hm2]
    exact ⟨Int.emod_nonneg _ (by decide), Int.emod_lt_of_pos _ p2⟩
  have n5 := ms m2 b2.1 (by omega)
  refine ⟨(m2 * 48271) % 2147483587, frm_cl rfl ?_, Int.emod_nonneg _ (by decide), Int.emod_lt_of_pos _ p3⟩
  simp [M__law_mixed, mkM, sSeq, sRet, sSet, sB, f2, fVar, fArgs, a1, aCons, aNil, pure_ap, bnd_ok, getI, add_ok, mul_ok n1 k1, mul_ok k2 n2, mul_ok n3 n2, mod_ok p1, mod_ok p2, mod_ok p3, ← hm1, mul_ok n4 n4, ← hm2, mul_ok n5 k3]
theorem bits_all2 : ((List.range 1000).all fun n => decide (((Builtin.Int.intBits (n : Int) : Nat) : Int) / 30 = 0 ∧ (n : Int).natAbs.log2 < 9000)) = true := by decide +kernel
theorem bits_ok2 {n : Int} (h : 1 ≤ n ∧ n < 1000) : ((Builtin.Int.intBits n : Nat) : Int) / 30 = 0 ∧ n.natAbs.log2 < 9000 := by
  obtain ⟨m, rfl⟩ : ∃ m : Nat, n = m := ⟨n.toNat, by omega⟩
  exact of_decide_eq_true (List.all_eq_true.mp bits_all2 m (List.mem_range.mpr (by omega)))
theorem dvn2 {g0 n : Int} (hn : 1 ≤ n ∧ n < 1000) (S : Sto) : gDiv (.int g0) (.int n) S = .ok (.int (g0 / n)) S := by
  have h : 0 < n ∧ n.natAbs.log2 < 9000 := ⟨by omega, (bits_ok2 hn).2⟩
  unfold gDiv
  dsimp only
  rw [if_pos h]
  rfl
theorem it_n2 {n : Int} (hn : 1 ≤ n ∧ n < 1000) (env : Env) (S : Sto) (he : env[1]? = some (.val (.int n))) : iRg1 (aCons (f2 gAdd (fun _ => pure (.int 1)) (f2 gDiv (f1 gBits (fVar 1)) (fun _ => pure (.int 30)))) aNil) env S = .ok ([.int 0], .fz) S := by
  have d : f2 gDiv (f1 gBits (fVar 1)) (fun _ => pure (.int 30)) env S = .ok (.int 0) S := by
    refine ev_f2 (x := .int ((Builtin.Int.intBits n : Nat) : Int)) (ev_f1 (ev_var he) rfl) ev_c ?_
    rw [dvn2 ⟨by omega, by omega⟩, (bits_ok2 hn).1]
  have e : f2 gAdd (fun _ => pure (.int 1)) (f2 gDiv (f1 gBits (fVar 1)) (fun _ => pure (.int 30))) env S = .ok (.int 1) S := ev_f2 ev_c d rfl
  unfold iRg1 aCons
  rw [e]
  exact krg S
theorem d5 {k : Nat} {S : Sto} {g0 g1 g2 : Int} {s1 s2 s3 s4 : Sl} (hk : S[k]? = some (.lst [.int g0, .int g1, .int g2])) : F__law_draw_5 [.val (.cell k), s1, s2, s3, s4] S = .ok (.nx [.val (.cell k), s1, s2, s3, s4]) (S.set k (.lst [.int g0, .int g1, .int (g2 + 1)])) := by
  have h : f2 gAdd (f2 gIx (fVar 0) (fun _ => pure (.int 2))) (fun _ => pure (.int 1)) [.val (.cell k), s1, s2, s3, s4] S = .ok (.int (g2 + 1)) S := ev_f2 (ev_f2 (ev_var rfl) ev_c (ix_cell hk).2.2) ev_c rfl
  show sB _ (f2 gAdd (f2 gIx (fVar 0) (fun _ => pure (.int 2))) (fun _ => pure (.int 1)) [.val (.cell k), s1, s2, s3, s4] S) _ = _
  rw [h]
  exact (put_c hk).2
theorem d6 {k : Nat} {S : Sto} {g0 g1 g2 h : Int} {s1 s2 s4 : Sl} (hk : S[k]? = some (.lst [.int g0, .int g1, .int g2])) (hh : N__law_mixed [.int g1, .int g2] S = .ok (.int h) S) : F__law_draw_6 [.val (.cell k), s1, s2, .val (.int 0), s4] S = .ok (.nx [.val (.cell k), s1, s2, .val (.int (0 + h)), s4]) S :=
  ev_set (ev_f2 (ev_f2 (ev_var rfl) ev_c (m0z S)) (ev_call (ev_cons (ev_f2 (ev_var rfl) ev_c (ix_cell hk).2.1) (ev_cons (ev_f2 (ev_var rfl) ev_c (ix_cell hk).2.2) ev_nil)) hh) rfl)
theorem draw_raw {k : Nat} {S : Sto} {g0 g1 g2 n : Int} (hk : S[k]? = some (.lst [.int g0, .int g1, .int g2])) (h0 : 0 ≤ g0) (h1 : 0 ≤ g1 ∧ g1 < 2147483647) (h2 : 0 ≤ g2 ∧ g2 ≤ 900000) (hn : 1 ≤ n ∧ n < 1000) :
    ∃ r g0' g2', M__law_draw [.cell k, .int n] S = .ok (.int r) (S.set k (.lst [.int g0', .int g1, .int g2'])) ∧ (0 ≤ r ∧ r < n) ∧ 0 ≤ g0' ∧ g2 ≤ g2' ∧ g2' ≤ g2 + 1 := by
  have hn0 : 0 < n := by omega
  obtain ⟨i0, i1, i2⟩ := ix_cell hk
  by_cases hg : 0 < g0
  · have dv := dvn2 (g0 := g0) hn S
    refine ⟨g0 % n, g0 / n, g2, ?_, ⟨Int.emod_nonneg _ (by omega), Int.emod_lt_of_pos _ hn0⟩, Int.ediv_nonneg h0 (by omega), Int.le_refl _, by omega⟩
    simp [M__law_draw, F__law_draw_0, F__law_draw_1, F__law_draw_2, F__law_draw_3, mkM, sSeq, sIf, sRet, sSet, sPutC, sB, fB, f2, fVar, fArgs, a1, aCons, aNil, gOrd, toB, pure_ap, bnd_ok, getI, i0, hg, mod_ok hn0, dv, (put_c hk).1]
  · obtain ⟨h, hh, b1, b2⟩ := mixed_ok (a := g1) (b := g2 + 1) ⟨h1.1, by omega⟩ ⟨by omega, by omega⟩ (S.set k (.lst [.int g0, .int g1, .int (g2 + 1)]))
    have hl : k < S.length := (List.getElem?_eq_some_iff.mp hk).1
    have hk2 : (S.set k (.lst [.int g0, .int g1, .int (g2 + 1)]))[k]? = some (.lst [.int g0, .int g1, .int (g2 + 1)]) := List.getElem?_set_self hl
    have q3 : F__law_draw_3 [.val (.cell k), .val (.int n), .un, .un, .un] S = .ok (.nx [.val (.cell k), .val (.int n), .un, .un, .un]) S := by
      simp [F__law_draw_3, sIf, sB, fB, f2, fVar, gOrd, toB, pure_ap, bnd_ok, i0, hg, sNil]
    have q4 : F__law_draw_4 [.val (.cell k), .val (.int n), .un, .un, .un] S = .ok (.nx [.val (.cell k), .val (.int n), .un, .val (.int 0), .un]) S := rfl
    have q8 : F__law_draw_8 [.val (.cell k), .val (.int n), .un, .val (.int 0), .un] S = .ok (.nx [.val (.cell k), .val (.int n), .un, .val (.int (0 + h)), .val (.int 0)]) (S.set k (.lst [.int g0, .int g1, .int (g2 + 1)])) := by
      have b7 : B__law_draw_7 [.val (.cell k), .val (.int n), .un, .val (.int 0), .val (.int 0)] S = .ok (.nx [.val (.cell k), .val (.int n), .un, .val (.int (0 + h)), .val (.int 0)]) (S.set k (.lst [.int g0, .int g1, .int (g2 + 1)])) := ev_seq (d5 hk) (d6 hk2 hh)
      exact ev_for (it_n2 hn _ S rfl) rfl ((loop_cons rfl rfl b7).trans (loop_nil rfl))
    have q9 : F__law_draw_9 [.val (.cell k), .val (.int n), .un, .val (.int (0 + h)), .val (.int 0)] (S.set k (.lst [.int g0, .int g1, .int (g2 + 1)])) = .ok (.rt (.int ((0 + h) % n))) (S.set k (.lst [.int g0, .int g1, .int (g2 + 1)])) :=
      ev_ret (ev_f2 (ev_var rfl) (ev_var rfl) (mod_ok hn0 _))
    refine ⟨(0 + h) % n, g0, g2 + 1, ?_, ⟨Int.emod_nonneg _ (by omega), Int.emod_lt_of_pos _ hn0⟩, h0, by omega, by omega⟩
    exact mk_rt rfl rfl (ev_seq q3 (ev_seq q4 (ev_seq q8 q9)))
section
variable {B : Int} {g : List D} {T : Sto}
theorem drawG {n : Nat} (h : Gn B g) (hB : B ≤ 900000) (hn : 1 ≤ n ∧ n < 1000) : ∃ (r : Nat) (g' : List D), N__law_draw [.cell 0, .int (n : Nat)] (.lst g :: T) = .ok (.int (r : Nat)) (.lst g' :: T) ∧ r < n ∧ Gn (B + 1) g' := by
  obtain ⟨g0, g1, g2, hk, a, b, c, d, e⟩ := h.is (T := T)
  obtain ⟨r, g0', g2', q, q1, q2, q3, q4⟩ := draw_raw (n := (n : Nat)) hk a ⟨b, c⟩ ⟨d, by omega⟩ ⟨by omega, by omega⟩
  refine ⟨r.toNat, [.int g0', .int g1, .int g2'], ?_, by omega, .of (T := T) ⟨g0', g1, g2', rfl, q2, b, c, by omega, by omega⟩⟩
  have e := mlt_same q (List.length_set ..)
  rw [show ((r.toNat : Nat) : Int) = r by omega]
  exact e
theorem ev_f3S {α : Type} {env : Env} {S S1 S2 S3 : Sto} {d : D} {Fe : FE} {g : D → Option Int → Option Int → Cm α} {Fl Fh : Env → Cm (Option Int)} {l h : Option Int} {r : R α} (he : Fe env S = .ok d S1) (hl : Fl env S1 = .ok l S2) (hh : Fh env S2 = .ok h S3) (hg : g d l h S3 = r) : f3 g Fe Fl Fh env S = r := by
  unfold f3
  rw [he, bnd_ok, hl, bnd_ok, hh, bnd_ok]
  exact hg
theorem ev_pSome {env : Env} {S S1 : Sto} {F : FE} {i : Int} (h : F env S = .ok (.int i) S1) : pSome F env S = .ok (some i) S1 := by
  unfold pSome
  rw [h]
  rfl
theorem menu_cut : ∀ (i r : Nat), i < 3 → r < 3 → ∃ l ∈ boxP, (∀ S, gSl (.lst (([["red", "blue", "tan"], ["s", "m", "xl"], ["ada", "bo", "red"]] : List (List Str)).getD i [] |>.map .str)) none (some (1 + (r : Nat) : Int)) S = .ok (.lst (l.map .str)) S) ∧ l.length ≤ 3 := by
  intro i r hi hr
  have q : ((List.range 3).all fun i => (List.range 3).all fun r => decide (((([["red", "blue", "tan"], ["s", "m", "xl"], ["ada", "bo", "red"]] : List (List Str)).getD i []).take (1 + r)) ∈ boxP) && decide (((([["red", "blue", "tan"], ["s", "m", "xl"], ["ada", "bo", "red"]] : List (List Str)).getD i []).take (1 + r)).length ≤ 3)) = true := by decide +kernel
  have q' := List.all_eq_true.mp (List.all_eq_true.mp q i (List.mem_range.mpr hi)) r (List.mem_range.mpr hr)
  rw [Bool.and_eq_true] at q'
  refine ⟨_, of_decide_eq_true q'.1, fun S => ?_, of_decide_eq_true q'.2⟩
  clear q q'
  have c1 : i = 0 ∨ i = 1 ∨ i = 2 := by omega
  have c2 : r = 0 ∨ r = 1 ∨ r = 2 := by omega
  rcases c1 with rfl | rfl | rfl <;> rcases c2 with rfl | rfl | rfl <;> rfl
def mnL : List Str := ["hue", "size", "make"]
def mnD : List D := ([["red", "blue", "tan"], ["s", "m", "xl"], ["ada", "bo", "red"]] : List (List Str)).map fun l => .lst (l.map .str)
abbrev uE (m z : Int) (k : Nat) (s5 s6 s7 : Sl) : Env := [.val (.cell 0), .val (.int m), .val (.int z), .val (.lst mnD), .val (.cell k), s5, s6, s7]
theorem group_turn {i : Nat} {L : List Gp} {s5 s6 s7 : Sl} (h : Gn B g) (hB : B ≤ 800000) (hi : i < 3) (hL : L.length ≤ 3) : ∃ (gp : Gp) (g' : List D) (s6' s7' : Sl), B__law_groups_4 (uE 3 3 (T.length + 1) (.val (.int (i : Nat))) s6 s7) (.lst g :: (T ++ [.lst (L.map itF)])) = .ok (.nx (uE 3 3 (T.length + 1) (.val (.int (i : Nat))) s6' s7')) (.lst g' :: (T ++ [.lst ((L ++ [gp]).map itF)])) ∧ GpP gp ∧ gp.nm = mnL.getD i "" ∧ gp.bx.length ≤ 3 ∧ Gn (B + 3) g' := by
  obtain ⟨r1, g1, e1, l1, h1⟩ := drawG (T := T ++ [.lst (L.map itF)]) (n := 2) h (by omega) (by decide)
  obtain ⟨r2, g2, e2, l2, h2⟩ := drawG (T := T ++ [.lst (L.map itF)]) (n := 3) h1 (by omega) (by decide)
  obtain ⟨r3, g3, e3, l3, h3⟩ := drawG (T := T ++ [.lst (L.map itF)]) (n := 3) h2 (by omega) (by decide)
  obtain ⟨md, i1, hm⟩ : ∃ md, (∀ S, gIx (.lst [.str "or", .str "and"]) (.int (r1 : Nat)) S = .ok (.str md) S) ∧ (md = "or" ∨ md = "and") := by
    have : r1 = 0 ∨ r1 = 1 := by omega
    rcases this with rfl | rfl
    · exact ⟨"or", fun S => rfl, .inl rfl⟩
    · exact ⟨"and", fun S => rfl, .inr rfl⟩
  obtain ⟨br, i2, hb⟩ : ∃ br, (∀ S, gIx (.lst [.str "one", .str "many", .str "many"]) (.int (r2 : Nat)) S = .ok (.str br) S) ∧ (br = "one" ∨ br = "many") := by
    have : r2 = 0 ∨ r2 = 1 ∨ r2 = 2 := by omega
    rcases this with rfl | rfl | rfl
    · exact ⟨"one", fun S => rfl, .inl rfl⟩
    · exact ⟨"many", fun S => rfl, .inr rfl⟩
    · exact ⟨"many", fun S => rfl, .inr rfl⟩
  obtain ⟨bx, hbx, i3, l5⟩ := menu_cut i r3 hi l3
  have i4 : ∀ S, gIx (.lst mnD) (.int (i : Nat)) S = .ok (.lst (([["red", "blue", "tan"], ["s", "m", "xl"], ["ada", "bo", "red"]] : List (List Str)).getD i [] |>.map .str)) S := fun S => by
    have : i = 0 ∨ i = 1 ∨ i = 2 := by omega
    rcases this with rfl | rfl | rfl <;> rfl
  have i5 : ∀ S, gIx (.lst [.str "hue", .str "size", .str "make"]) (.int (i : Nat)) S = .ok (.str (mnL.getD i "")) S := fun S => by
    have : i = 0 ∨ i = 1 ∨ i = 2 := by omega
    rcases this with rfl | rfl | rfl <;> rfl
  have a1 : ∀ g, ((CO.lst g :: (T ++ [CO.lst (L.map itF)])) : Sto)[T.length + 1]? = some (.lst (L.map itF)) := fun g => last_at rfl
  refine ⟨⟨mnL.getD i "", md, br, bx⟩, g3, .val (.str md), .val (.str br), ?_, ⟨hm, hb, hbx⟩, rfl, l5, h3.le (by omega)⟩
  have q2 : F__law_groups_2 (uE 3 3 (T.length + 1) (.val (.int (i : Nat))) s6 s7) (.lst g :: (T ++ [.lst (L.map itF)])) = .ok (.nx (uE 3 3 (T.length + 1) (.val (.int (i : Nat))) (.val (.str md)) (.val (.str br)))) (.lst g2 :: (T ++ [.lst (L.map itF)])) :=
    ev_par (ev_cons (ev_f2 (g := gIx) (x := .lst [.str "or", .str "and"]) (ev_frzL (ev_lst (ev_cons ev_c (ev_cons ev_c ev_nil)))) (ev_call (ev_cons (ev_var rfl) (ev_cons ev_c ev_nil)) e1) (i1 _)) (ev_cons (ev_f2 (g := gIx) (x := .lst [.str "one", .str "many", .str "many"]) (ev_frzL (ev_lst (ev_cons ev_c (ev_cons ev_c (ev_cons ev_c ev_nil))))) (ev_call (ev_cons (ev_var rfl) (ev_cons ev_c ev_nil)) e2) (i2 _)) ev_nil)) rfl
  have st := fun g => last_set (g := g) (T := T) (c := CO.lst (L.map itF)) (c' := CO.lst (L.map itF ++ [itF ⟨mnL.getD i "", md, br, bx⟩])) rfl
  have q3 : F__law_groups_3 (uE 3 3 (T.length + 1) (.val (.int (i : Nat))) (.val (.str md)) (.val (.str br))) (.lst g2 :: (T ++ [.lst (L.map itF)])) = .ok (.nx (uE 3 3 (T.length + 1) (.val (.int (i : Nat))) (.val (.str md)) (.val (.str br)))) (.lst g3 :: (T ++ [.lst ((L ++ [(⟨mnL.getD i "", md, br, bx⟩ : Gp)]).map itF)])) := by
    rw [List.map_append]
    refine ev_app (ds := L.map itF) (d := itF ⟨mnL.getD i "", md, br, bx⟩) rfl (lst_some (a1 g2)) (ev_tup (ev_cons (ev_f2 (g := gIx) (x := .lst [.str "hue", .str "size", .str "make"]) (ev_frzL (ev_lst (ev_cons ev_c (ev_cons ev_c (ev_cons ev_c ev_nil))))) (ev_var rfl) (i5 _)) (ev_cons (ev_var rfl) (ev_cons (ev_var rfl) (ev_cons (ev_f3S (g := gSl) (ev_f2 (ev_var rfl) (ev_var rfl) (i4 _)) rfl (ev_pSome (ev_f2 (g := gAdd) (Fa := fun _ => pure (.int 1)) ev_c (ev_call (ev_cons (ev_var rfl) (ev_cons (ev_var rfl) ev_nil)) e3) (add_ok _))) (i3 _)) ev_nil))))) (a1 g3) (by rw [List.length_map]; omega) (st g3)
  exact ev_seq q2 q3
end
end HT.C
set_option maxRecDepth 100000
set_option maxHeartbeats 1000000
namespace HT.C
open PySem PySem.Spec L2
open PyProof.Rows hiding St
section
variable {B : Int} {g : List D} {T : Sto} {ps : List Gp}
end
end HT.C
set_option maxRecDepth 100000
set_option maxHeartbeats 1000000
namespace HT.C
open PySem PySem.Spec L2
open PyProof.Rows hiding St
abbrev Tg := List (List Str)
def tD (t : Tg) : D := .lst (lssD t)
end HT.C
set_option maxRecDepth 100000
set_option maxHeartbeats 1000000
namespace HT.C
open PySem PySem.Spec L2
open PyProof.Rows hiding St
def Lays (S : Sto) (k : Nat) (t : Tg) : Prop := ∃ n, S[k]? = some (.lst ((List.range t.length).map fun i => .cell (n + i))) ∧ ∀ i (h : i < t.length), S[n + i]? = some (.lst (t[i].map .str))
theorem Lays.more {S : Sto} {k : Nat} {t : Tg} (h : Lays S k t) (T : Sto) : Lays (S ++ T) k t := by
  obtain ⟨n, h1, h2⟩ := h
  exact ⟨n, by rw [List.getElem?_append_left (List.getElem?_eq_some_iff.mp h1).1]; exact h1, fun i hi => by rw [List.getElem?_append_left (List.getElem?_eq_some_iff.mp (h2 i hi)).1]; exact h2 i hi⟩
theorem range_cell {α : Type} {S : Sto} {n : Nat} (G : D → Option α) (H : List D → Option (List α)) (h0 : H [] = some []) (hc : ∀ d l, H (d :: l) = (match G d, H l with | some a, some b => some (a :: b) | _, _ => none)) (q : List Str → α) :
    ∀ (t : Tg) (n : Nat), (∀ i (h : i < t.length), G (.cell (n + i)) = some (q t[i])) → H ((List.range t.length).map fun i => .cell (n + i)) = some (t.map q)
  | [], _, _ => h0
  | l :: t, n, h => by
    rw [List.length_cons, List.range_succ_eq_map, List.map_cons, List.map_map, hc]
    have e0 := h 0 (by simp)
    have ih := range_cell G H h0 hc q (S := S) (n := n) t (n + 1) fun i hi => by
      have := h (i + 1) (by simpa using hi)
      rw [show n + 1 + i = n + (i + 1) by omega]
      exact this
    have e1 : ((fun i => D.cell (n + i)) ∘ Nat.succ) = fun i => D.cell (n + 1 + i) := by
      funext i
      show D.cell (n + (i + 1)) = _
      rw [show n + (i + 1) = n + 1 + i by omega]
    rw [e1, ih, e0]
    rfl
theorem Lays.deep {S : Sto} {k : Nat} {t : Tg} (h : Lays S k t) : deep0 (deepC S 4) (.cell k) = some (pdLss t) := by
  obtain ⟨n, h1, h2⟩ := h
  show deepC S 4 k = _
  unfold deepC
  rw [h1]
  dsimp only
  rw [range_cell (S := S) (n := n) (deep0 (deepC S 3)) (deepL (deepC S 3)) rfl (fun d l => by rw [deepL]; cases deep0 (deepC S 3) d <;> cases deepL (deepC S 3) l <;> rfl) pdLs t n fun i hi => by
    show deepC S 3 (n + i) = _
    unfold deepC
    rw [h2 i hi]
    dsimp only
    rw [strs_d0]
    rfl]
  rfl
theorem Lays.deepq {S : Sto} {k : Nat} {t : Tg} (h : Lays S k t) : deepq S (.cell k) = some (pdLss t) := by
  obtain ⟨n, h1, h2⟩ := h
  show dqC S 4 k = _
  unfold dqC
  rw [h1]
  dsimp only
  rw [range_cell (S := S) (n := n) (dq0 (dqC S 3)) (dqL (dqC S 3)) rfl (fun d l => by rw [dqL]; cases dq0 (dqC S 3) d <;> cases dqL (dqC S 3) l <;> rfl) pdLs t n fun i hi => by
    show dqC S 3 (n + i) = _
    unfold dqC
    rw [h2 i hi]
    dsimp only
    rw [show dqL (dqC S 2) (t[i].map D.str) = some (t[i].map PyData.str) by
      generalize t[i] = l
      induction l with
      | nil => rfl
      | cons a l ih => show (match dq0 (dqC S 2) (.str a), dqL (dqC S 2) (l.map .str) with | some a, some b => some (a :: b) | _, _ => none) = _; rw [ih]; rfl]
    rfl]
  rfl
theorem Lays.melt {S : Sto} {k : Nat} {t : Tg} (h : Lays S k t) : melt0 (meltC S 0 6) (.cell k) = some (tD t) := by
  obtain ⟨n, h1, h2⟩ := h
  have c : ∀ i (h : i < t.length), meltC S 0 5 (n + i) = some (lsD t[i]) := fun i hi => by
    unfold meltC
    rw [if_neg (Nat.not_lt_zero _), h2 i hi]
    dsimp only
    rw [show meltCO (meltC S 0 4) (.lst (t[i].map .str)) = some (.lst (t[i].map .str)) by
      show (meltL _ (t[i].map .str)).map CO.lst = _
      rw [meltL_cl _ _ (cl_strs _)]
      rfl]
    rfl
  show meltC S 0 6 k = _
  unfold meltC
  rw [if_neg (Nat.not_lt_zero _), h1]
  dsimp only
  rw [show meltCO (meltC S 0 5) (.lst ((List.range t.length).map fun i => .cell (n + i))) = some (.lst (lssD t)) by
    show (meltL (meltC S 0 5) _).map CO.lst = _
    rw [range_cell (S := S) (n := n) (melt0 (meltC S 0 5)) (meltL (meltC S 0 5)) rfl (fun d l => by rw [meltL]; cases melt0 (meltC S 0 5) d <;> cases meltL (meltC S 0 5) l <;> rfl) lsD t n fun i hi => c i hi]
    rfl]
  rfl
end HT.C
set_option maxRecDepth 100000
set_option maxHeartbeats 1000000
namespace HT.C
open PySem PySem.Spec L2
open PyProof.Rows hiding St
section
variable {env : Env} {S S1 S2 : Sto} {F : FE} {d : D} {C f : Str} {fs : List (Str × D)} {i k : Nat} {cs : List Str}
end
def LiveO (ps : List Gp) (st : List Itm) (ts : Tg) (j : Nat) : CO := .ins "Live" [("shop", shopD ps), ("goods", .lst (stD st)), ("ticked", .lst (lssD ts)), ("past", .cell j)]
inductive Dd where
  | put (m : Str) (t : Tg) | take (m : Str) (t : Tg) | tick (g b : Str) | clear
def ddD : Dd → D
  | .put m t => .tup [.str "put", .str m, .lst (lssD t)]
  | .take m t => .tup [.str "take", .str m, .lst (lssD t)]
  | .tick g b => .tup [.str "tick", .str g, .str b]
  | .clear => .tup [.str "clear"]
structure Pst where
  dd : Dd
  st : List Itm
  ts : Tg
def psD (p : Pst) : D := .tup [ddD p.dd, .lst (stD p.st), .lst (lssD p.ts)]
structure LvAt (S : Sto) (k j : Nat) (ps : List Gp) (st : List Itm) (ts : Tg) (pa : List Pst) : Prop where
  ob : S[k]? = some (LiveO ps st ts j)
  pa : S[j]? = some (.lst (pa.map psD))
  ne : j ≠ k
section
variable {S : Sto} {k j : Nat} {ps : List Gp} {st st2 : List Itm} {ts ts2 : Tg} {pa : List Pst} {dd : Dd} {m : Str} {t : Tg}
def LaysB (b : Nat) (S : Sto) (k : Nat) (t : Tg) : Prop := ∃ n, b ≤ n ∧ k = n + t.length ∧ S[k]? = some (.lst ((List.range t.length).map fun i => .cell (n + i))) ∧ ∀ i (h : i < t.length), S[n + i]? = some (.lst (t[i].map .str))
theorem LaysB.melt {b : Nat} (q : Nat) (h : LaysB b S k t) : melt0 (meltC S b (q + 2)) (.cell k) = some (tD t) := by
  obtain ⟨n, hb, hk, h1, h2⟩ := h
  have c : ∀ i (h : i < t.length), meltC S b (q + 1) (n + i) = some (lsD t[i]) := fun i hi => by
    unfold meltC
    rw [if_neg (by omega), h2 i hi]
    dsimp only
    rw [show meltCO (meltC S b q) (.lst (t[i].map .str)) = some (.lst (t[i].map .str)) by
      show (meltL _ (t[i].map .str)).map CO.lst = _
      rw [meltL_cl _ _ (cl_strs _)]
      rfl]
    rfl
  show meltC S b (q + 2) k = _
  unfold meltC
  rw [if_neg (by omega), h1]
  dsimp only
  rw [show meltCO (meltC S b (q + 1)) (.lst ((List.range t.length).map fun i => .cell (n + i))) = some (.lst (lssD t)) by
    show (meltL (meltC S b (q + 1)) _).map CO.lst = _
    rw [range_cell (S := S) (n := n) (melt0 (meltC S b (q + 1))) (meltL (meltC S b (q + 1))) rfl (fun d l => by rw [meltL]; cases melt0 (meltC S b (q + 1)) d <;> cases meltL (meltC S b (q + 1)) l <;> rfl) lsD t n fun i hi => c i hi]
    rfl]
  rfl
end
end HT.C
set_option maxRecDepth 100000
set_option maxHeartbeats 1000000
namespace HT.C
open PySem PySem.Spec L2
open PyProof.Rows hiding St
def DdOk (ps : List Gp) : Dd → Prop
  | .put m t => m ∈ modW ∧ Th t ps
  | .take m t => m ∈ modW ∧ Th t ps
  | .tick g b => goodS g = true ∧ goodS b = true
  | .clear => True
structure PstOk (ps : List Gp) (p : Pst) : Prop where
  dd : DdOk ps p.dd
  st : StOk p.st ps
  len : p.st.length ≤ 1000
  ts : Tk p.ts ps
section
variable {S : Sto} {k j : Nat} {ps : List Gp} {st : List Itm} {ts : Tg} {pa : List Pst} {p : Pst} {dd : Dd}
theorem dt_nil : Dt 0 1 (.lst []) (.list []) := Dt.lst (f := fun z : D => z) (g := fun _ => .none) (n := 0) (k := 0) (m := 0) (l := []) (fun z hz => nomatch hz) (Nat.le_refl _) (by decide)
end
end HT.C
set_option maxRecDepth 100000
set_option maxHeartbeats 1000000
namespace HT.C
open PySem PySem.Spec L2
open PyProof.Rows hiding St
section
variable {S : Sto} {k j : Nat} {ps : List Gp} {st : List Itm} {ts : Tg} {pa : List Pst} {p : Pst} {dd : Dd} {t : Tg}
def RowOk (b : Nat) (S : Sto) (d : D) : Dd → Prop
  | .put m t => ∃ z, d = .tup [.str "put", .str m, .cell z] ∧ LaysB b S z t
  | .take m t => ∃ z, d = .tup [.str "take", .str m, .cell z] ∧ LaysB b S z t
  | .tick g b => d = ddD (.tick g b)
  | .clear => d = ddD .clear
theorem RowOk.melt {b q : Nat} {d : D} (h : RowOk b S d dd) : melt0 (meltC S b (q + 2)) d = some (ddD dd) := by
  cases dd with
  | put m t =>
    obtain ⟨z, rfl, l⟩ := h
    show (match melt0 (meltC S b (q + 2)) (.str "put"), meltL (meltC S b (q + 2)) [.str m, .cell z] with | some a, some b => some (a :: b) | _, _ => none).map D.tup = _
    rw [show meltL (meltC S b (q + 2)) [.str m, .cell z] = some [.str m, tD t] by
      show (match melt0 (meltC S b (q + 2)) (.str m), meltL (meltC S b (q + 2)) [.cell z] with | some a, some b => some (a :: b) | _, _ => none) = _
      rw [show meltL (meltC S b (q + 2)) [.cell z] = some [tD t] by
        show (match melt0 (meltC S b (q + 2)) (.cell z), meltL (meltC S b (q + 2)) [] with | some a, some b => some (a :: b) | _, _ => none) = _
        rw [l.melt q]
        rfl]
      rfl]
    rfl
  | take m t =>
    obtain ⟨z, rfl, l⟩ := h
    show (match melt0 (meltC S b (q + 2)) (.str "take"), meltL (meltC S b (q + 2)) [.str m, .cell z] with | some a, some b => some (a :: b) | _, _ => none).map D.tup = _
    rw [show meltL (meltC S b (q + 2)) [.str m, .cell z] = some [.str m, tD t] by
      show (match melt0 (meltC S b (q + 2)) (.str m), meltL (meltC S b (q + 2)) [.cell z] with | some a, some b => some (a :: b) | _, _ => none) = _
      rw [show meltL (meltC S b (q + 2)) [.cell z] = some [tD t] by
        show (match melt0 (meltC S b (q + 2)) (.cell z), meltL (meltC S b (q + 2)) [] with | some a, some b => some (a :: b) | _, _ => none) = _
        rw [l.melt q]
        rfl]
      rfl]
    rfl
  | tick g b => rw [show d = _ from h]; rfl
  | clear => rw [show d = _ from h]; rfl
end
end HT.C
set_option maxRecDepth 100000
set_option maxHeartbeats 1000000
namespace HT.C
open PySem PySem.Spec L2
open PyProof.Rows hiding St
section
variable {S : Sto} {k j k2 j2 : Nat} {ps qs : List Gp} {st st2 : List Itm} {ts ts2 : Tg} {pa pa2 : List Pst}
end
end HT.C
set_option maxRecDepth 100000
set_option maxHeartbeats 1000000
namespace HT.C
open PySem PySem.Spec L2
open PyProof.Rows hiding St
def lets : List Nat := ("abcdefghijklmnopqrstuvwxyz" : Str).cps.toList
def isLt (c : Nat) : Bool := decide (c ∈ lets)
def isGs (c : Nat) : Bool := decide (c ∈ (":/" : Str).cps.toList)
def isBl (c : Nat) : Bool := decide (c ∈ (" \n" : Str).cps.toList)
abbrev s1 (c : Nat) : Str := ⟨#[c]⟩
def tkS (a : List Str × Nat) (c : Nat) : Option (List Str × Nat) :=
  if (isLt c && isLt a.2) = true then (match a.1.getLast? with
    | some w => if w.length < 1000 ∧ a.1.length < 1000 then some (a.1.dropLast ++ [w ++ s1 c], c) else none
    | none => none)
  else if (isLt c || isGs c) = true then (if a.1.length < 1000 then some (a.1 ++ [s1 c], c) else none)
  else if isBl c = true then some (a.1, c) else none
def tkR : List Nat → List Str × Nat → Option (List Str × Nat)
  | [], a => some a
  | c :: cs, a => (tkS a c).bind (tkR cs)
theorem tkR_app : ∀ (xs ys : List Nat) (a : List Str × Nat), tkR (xs ++ ys) a = (tkR xs a).bind (tkR ys)
  | [], ys, a => rfl
  | c :: xs, ys, a => by
    show (tkS a c).bind (tkR (xs ++ ys)) = ((tkS a c).bind (tkR xs)).bind (tkR ys)
    cases tkS a c with
    | none => rfl
    | some b => exact tkR_app xs ys b
section
variable {S : Sto} {acc acc' : List Str} {l l' c : Nat} {x0 : D}
abbrev tkE (x0 : D) (l : Nat) (s3 : Sl) : Env := [.val x0, .val (.cell 0), .val (.str (s1 l)), s3]
theorem ixN_last (n : Nat) : ixN (n + 1) (-1) = some n := by
  unfold ixN
  rw [if_neg (by omega), if_pos (by omega)]
  congr 1
  omega
theorem ix_last {k : Nat} {pre : List D} {d : D} (h : S[k]? = some (.lst (pre ++ [d]))) : gIx (.cell k) (.int (-1)) S = .ok d S := by
  show (match asQ2 S (.cell k) with | some ds => (match atI ds (-1) with | some d => R.ok d S | none => .stuck) | none => .stuck) = _
  rw [show asQ2 S (.cell k) = some (pre ++ [d]) by show (match S[k]? with | some (.lst ds) => some ds | _ => none) = _; rw [h]]
  dsimp only
  rw [show atI (pre ++ [d]) (-1) = some d by unfold atI; rw [List.length_append, List.length_singleton, ixN_last]; show (pre ++ [d])[pre.length]? = _; simp]
theorem ev_putL {Fe Fo Fi : FE} {k : Nat} {pre : List D} {x d : D} {env : Env} {S1 S2 S3 : Sto} (he : Fe env S = .ok d S1) (ho : Fo env S1 = .ok (.cell k) S2) (hi : Fi env S2 = .ok (.int (-1)) S3) (hk : S3[k]? = some (.lst (pre ++ [x]))) : sPutC Fe Fo Fi env S = .ok (.nx env) (S3.set k (.lst (pre ++ [d]))) := by
  unfold sPutC
  rw [he]
  show sB env (Fo env S1) _ = _
  rw [ho]
  show sB env (Fi env S2) _ = _
  rw [hi]
  show (match lstAt S3 k with | some ds => (match ixN ds.length (-1) with | some n => R.ok (Fl.nx env) (S3.set k (.lst (ds.set n d))) | none => .stuck) | none => .stuck) = _
  rw [lstAt_cell hk]
  dsimp only
  rw [List.length_append, List.length_singleton, ixN_last]
  dsimp only
  rw [List.set_append_right _ _ (Nat.le_refl _), Nat.sub_self]
  rfl
theorem in_sgn (c : Nat) (z : Str) (S : Sto) : gInS false (.str (s1 c)) (.str z) S = .ok (.bl (decide (c ∈ z.cps.toList))) S := rfl
theorem nin_sgn (c : Nat) (z : Str) (S : Sto) : gInS true (.str (s1 c)) (.str z) S = .ok (.bl (!decide (c ∈ z.cps.toList))) S := rfl
theorem neg1 {env : Env} : f1 gNeg (fun _ => pure (.int 1)) env S = .ok (.int (-1)) S := rfl
theorem tok_turn (h : tkS (acc, l) c = some (acc', l')) : B_tokens_of_8 (tkE x0 l (.val (.str (s1 c)))) [.lst (acc.map .str)] = .ok (.nx (tkE x0 l' (.val (.str (s1 c))))) [.lst (acc'.map .str)] := by
  have i1 : fB (f2 (gInS false) (fVar 3) (fun _ => pure (.str "abcdefghijklmnopqrstuvwxyz"))) (tkE x0 l (.val (.str (s1 c)))) [.lst (acc.map .str)] = .ok (isLt c) [.lst (acc.map .str)] := ev_fB (ev_f2 (ev_var rfl) ev_c (in_sgn c _ _))
  have i2 : fB (f2 (gInS false) (fVar 2) (fun _ => pure (.str "abcdefghijklmnopqrstuvwxyz"))) (tkE x0 l (.val (.str (s1 c)))) [.lst (acc.map .str)] = .ok (isLt l) [.lst (acc.map .str)] := ev_fB (ev_f2 (ev_var rfl) ev_c (in_sgn l _ _))
  have i3 : fB (f2 (gInS false) (fVar 3) (fun _ => pure (.str ":/"))) (tkE x0 l (.val (.str (s1 c)))) [.lst (acc.map .str)] = .ok (isGs c) [.lst (acc.map .str)] := ev_fB (ev_f2 (ev_var rfl) ev_c (in_sgn c _ _))
  have i4 : fB (f2 (gInS true) (fVar 3) (fun _ => pure (.str " \n"))) (tkE x0 l (.val (.str (s1 c)))) [.lst (acc.map .str)] = .ok (!isBl c) [.lst (acc.map .str)] := ev_fB (ev_f2 (ev_var rfl) ev_c (nin_sgn c _ _))
  have t1 := ev_andT i1 (if_and i2)
  have t2 := ev_orT i1 (if_or i3)
  have fin : ∀ (T : Sto), F_tokens_of_7 (tkE x0 l (.val (.str (s1 c)))) T = .ok (.nx (tkE x0 c (.val (.str (s1 c))))) T := fun T => ev_set2 (ev_var rfl) rfl
  unfold tkS at h
  dsimp only at h
  unfold B_tokens_of_8 F_tokens_of_6
  split at h
  · rename_i hb
    cases hg : acc.getLast? with
    | none => rw [hg] at h; cases h
    | some w =>
      rw [hg] at h
      dsimp only at h
      split at h
      · rename_i hw
        obtain ⟨h1, h2⟩ := Prod.mk.inj (Option.some.inj h)
        subst h1
        subst h2
        obtain ⟨pre, rfl⟩ : ∃ pre, acc = pre ++ [w] := by
          obtain ⟨pre, e⟩ := List.getLast?_eq_some_iff.mp hg
          exact ⟨pre, e⟩
        rw [List.dropLast_concat]
        rw [hb] at t1
        have hk : ([CO.lst ((pre ++ [w]).map .str)] : Sto)[0]? = some (.lst (pre.map .str ++ [.str w])) := by rw [List.map_append]; rfl
        have q := ev_putL (Fe := f2 gAdd (f2 gIx (fVar 1) (f1 gNeg (fun _ => pure (.int 1)))) (fVar 3)) (Fo := fVar 1) (Fi := f1 gNeg (fun _ => pure (.int 1))) (env := tkE x0 l (.val (.str (s1 c)))) (S := [.lst ((pre ++ [w]).map .str)]) (d := .str (w ++ s1 c)) (k := 0)
          (ev_f2 (ev_f2 (ev_var rfl) neg1 (ix_last hk)) (ev_var rfl) (by
            show (if w.length + (s1 c).length ≤ sizeLine then R.ok (D.str (w ++ s1 c)) _ else .stuck) = _
            exact if_pos (sl5 (by show w.length + 1 ≤ 16000; omega)))) (ev_var rfl) neg1 hk
        have e : ([CO.lst ((pre ++ [w]).map .str)] : Sto).set 0 (.lst (pre.map .str ++ [.str (w ++ s1 c)])) = [.lst ((pre ++ [w ++ s1 c]).map .str)] := by rw [List.map_append (l₁ := pre) (l₂ := [w ++ s1 c])]; rfl
        rw [e] at q
        exact ev_seq (ev_if_t t1 q) (fin _)
      · cases h
  · rename_i hb
    rw [eq_false_of_ne_true hb] at t1
    split at h
    · rename_i hc
      split at h
      · rename_i hl
        obtain ⟨h1, h2⟩ := Prod.mk.inj (Option.some.inj h)
        subst h1
        subst h2
        rw [hc] at t2
        have q := ev_appC (F := fVar 3) (i := 1) (k := 0) (ds := acc.map .str) (env := tkE x0 l (.val (.str (s1 c)))) (S := [.lst (acc.map .str)]) rfl rfl (ev_var rfl) rfl (by rw [List.length_map]; omega)
        have e : ([CO.lst (acc.map .str)] : Sto).set 0 (.lst (acc.map .str ++ [.str (s1 c)])) = [.lst ((acc ++ [s1 c]).map .str)] := by rw [List.map_append]; rfl
        rw [e] at q
        exact ev_seq (ev_if_f t1 (ev_if_t t2 q)) (fin _)
      · cases h
    · rename_i hc
      rw [eq_false_of_ne_true hc] at t2
      split at h
      · rename_i hd
        obtain ⟨h1, h2⟩ := Prod.mk.inj (Option.some.inj h)
        subst h1
        subst h2
        rw [hd] at i4
        exact ev_seq (ev_if_f t1 (ev_if_f t2 (ev_skip i4))) (fin _)
      · cases h
theorem tok_loop : ∀ (cs : List Nat) (acc : List Str) (l : Nat) (s3 : Sl), tkR cs (acc, l) = some (acc', l') → ∃ s3', loopD (.one 3) .fz B_tokens_of_8 (cs.map fun c => D.str ⟨#[c]⟩) (tkE x0 l s3) [.lst (acc.map .str)] = .ok (.nx (tkE x0 l' s3')) [.lst (acc'.map .str)]
  | [], acc, l, s3, h => by
    cases h
    exact ⟨s3, loop_nil rfl⟩
  | c :: cs, acc, l, s3, h => by
    obtain ⟨⟨a1, l1⟩, h1, h2⟩ := Option.bind_eq_some_iff.mp (show (tkS (acc, l) c).bind (tkR cs) = _ from h)
    obtain ⟨s3', e⟩ := tok_loop cs a1 l1 (.val (.str (s1 c))) h2
    exact ⟨s3', (loop_cons rfl rfl (tok_turn h1)).trans e⟩
theorem tokens_ok {x : Str} (h : tkR x.cps.toList ([], 32) = some (acc', l')) : N_tokens_of [.str x] S = .ok (.lst (acc'.map .str)) S := by
  obtain ⟨s3', e⟩ := tok_loop (x0 := .str x) _ [] 32 .un h
  refine frm_cell (T := [.lst (acc'.map .str)]) (d := .cell 0) rfl ?_ (by simp) (melt_top (c := .lst (acc'.map .str)) rfl (by
    show (meltL _ (acc'.map .str)).map CO.lst = _
    rw [meltL_cl _ _ (cl_strs _)]
    rfl))
  exact mk_rt rfl rfl (ev_seq (ev_par (ev_cons (ev_cell (ev_lst ev_nil)) (ev_cons ev_c ev_nil)) rfl) (ev_seq (ev_for (b := .one 3) (src := .fz) rfl rfl e) (ev_ret (ev_var rfl))))
end
def Run (xs : List Nat) (a b : List Str) (l l' : Nat) : Prop := tkR xs (a, l) = some (b, l')
theorem Run.app {xs ys : List Nat} {a b c : List Str} {l l' l'' : Nat} (h : Run xs a b l l') (h2 : Run ys b c l' l'') : Run (xs ++ ys) a c l l'' := by
  unfold Run
  rw [tkR_app, show tkR xs (a, l) = some (b, l') from h]
  exact h2
theorem run_blank {c : Nat} (hc : isBl c = true) (hn : isLt c = false) (hg : isGs c = false) {a : List Str} {l : Nat} : Run [c] a a l c := by
  show (tkS (a, l) c).bind (tkR []) = _
  have e : tkS (a, l) c = some (a, c) := by
    unfold tkS
    dsimp only
    rw [hn, hg, hc]
    rfl
  rw [e]
  rfl
theorem run_sign {c : Nat} (hn : isLt c = false) (hg : isGs c = true) {a : List Str} {l : Nat} (ha : a.length < 1000) : Run [c] a (a ++ [s1 c]) l c := by
  show (tkS (a, l) c).bind (tkR []) = _
  have e : tkS (a, l) c = some (a ++ [s1 c], c) := by
    unfold tkS
    dsimp only
    rw [hn, hg]
    exact if_pos ha
  rw [e]
  rfl
theorem str_app_cons (w : List Nat) (x : Nat) (xs : List Nat) : (⟨(w ++ x :: xs).toArray⟩ : Str) = ⟨((w ++ [x]) ++ xs).toArray⟩ := by simp
theorem run_more : ∀ (xs w : List Nat) (a : List Str) (l : Nat), isLt l = true → (∀ x ∈ xs, isLt x = true) → w.length + xs.length < 1000 → a.length < 999 → ∃ l', isLt l' = true ∧ Run xs (a ++ [⟨w.toArray⟩]) (a ++ [⟨(w ++ xs).toArray⟩]) l l'
  | [], w, a, l, hl, _, _, _ => ⟨l, hl, by rw [List.append_nil]; rfl⟩
  | x :: xs, w, a, l, hl, hx, hw, ha => by
    rw [List.length_cons] at hw
    have hxl := hx x List.mem_cons_self
    obtain ⟨l', h1, h2⟩ := run_more xs (w ++ [x]) a x hxl (fun y hy => hx y (List.mem_cons_of_mem _ hy)) (by rw [List.length_append, List.length_singleton]; omega) ha
    refine ⟨l', h1, ?_⟩
    rw [str_app_cons]
    show (tkS (a ++ [⟨w.toArray⟩], l) x).bind (tkR xs) = _
    have e : tkS (a ++ [⟨w.toArray⟩], l) x = some (a ++ [⟨(w ++ [x]).toArray⟩], x) := by
      unfold tkS
      dsimp only
      rw [hxl, hl, if_pos (Bool.and_self true), List.getLast?_concat, List.dropLast_concat]
      dsimp only
      rw [if_pos ⟨by show w.toArray.size < 1000; simp; omega, by rw [List.length_append, List.length_singleton]; omega⟩]
      show some (a ++ [(⟨w.toArray ++ #[x]⟩ : Str)], x) = _
      rw [show w.toArray ++ #[x] = (w ++ [x]).toArray by simp]
    rw [e]
    exact h2
theorem run_word {w : Str} {a : List Str} {l : Nat} (hw : w.cps.toList ≠ []) (hx : ∀ x ∈ w.cps.toList, isLt x = true) (hl : isLt l = false) (hn : w.length < 900) (ha : a.length < 999) : ∃ l', isLt l' = true ∧ Run w.cps.toList a (a ++ [w]) l l' := by
  obtain ⟨⟨xs⟩⟩ := w
  match xs, hw with
  | x :: xs, _ =>
    have hxl := hx x (by simp)
    have hn' : xs.length + 1 < 900 := hn
    obtain ⟨l', h1, h2⟩ := run_more xs [x] a x hxl (fun y hy => hx y (by simp [hy])) (by simp; omega) ha
    refine ⟨l', h1, ?_⟩
    show (tkS (a, l) x).bind (tkR xs) = _
    have e : tkS (a, l) x = some (a ++ [s1 x], x) := by
      unfold tkS
      dsimp only
      rw [hxl, hl, if_neg (by decide), if_pos (Bool.true_or _)]
      exact if_pos (by omega)
    rw [e]
    exact h2
end HT.C
set_option maxRecDepth 100000
set_option maxHeartbeats 1000000
namespace HT.C
open PySem PySem.Spec L2
open PyProof.Rows hiding St
def wdS (x : Str) : Bool := !x.cps.toList.isEmpty && (x.cps.toList.all isLt && decide (x.cps.size ≤ 8))
structure GpW (g : Gp) : Prop where
  nm : wdS g.nm = true
  md : wdS g.md = true
  br : wdS g.br = true
  bx : ∀ x ∈ g.bx, wdS x = true
  one : 1 ≤ g.bx.length
  len : g.bx.length ≤ 5
theorem GpOk.w {g : Gp} (h : GpOk g) : GpW g := by
  have q1 : (grpW.all wdS) = true := by decide +kernel
  have q2 : (boxW.all fun l => l.all wdS) = true := by decide +kernel
  refine ⟨List.all_eq_true.mp q1 _ h.nm, ?_, ?_, fun x hx => List.all_eq_true.mp (List.all_eq_true.mp q2 _ h.bx) x hx, (bx_len h.bx).1, (bx_len h.bx).2⟩
  · rcases h.md with e | e <;> rw [e] <;> decide +kernel
  · rcases h.br with e | e <;> rw [e] <;> decide +kernel
theorem wd_ne {x : Str} (h : wdS x = true) : x.cps.toList ≠ [] := fun e => by
  have := (bAnd h).1
  rw [e] at this
  cases this
theorem wd_let {x : Str} (h : wdS x = true) : ∀ c ∈ x.cps.toList, isLt c = true := List.all_eq_true.mp (bAnd (bAnd h).2).1
theorem wd_len {x : Str} (h : wdS x = true) : x.length ≤ 8 := of_decide_eq_true (bAnd (bAnd h).2).2
def gtx (g : Gp) : Str := ((((((Str.empty ++ g.nm) ++ " ") ++ g.md) ++ " ") ++ g.br) ++ ": ") ++ Txt.join " " g.bx
def ptx (ps : List Gp) : Str := Txt.join " / " (ps.map gtx)
theorem slen (a b : Str) : (a ++ b).length = a.length + b.length := Array.size_append
theorem sum_le {n : Nat} : ∀ {l : List Str}, (∀ x ∈ l, x.length ≤ n) → (l.map (·.length)).sum ≤ n * l.length
  | [], _ => Nat.zero_le _
  | x :: l, h => by
    have ih := sum_le (l := l) fun y hy => h y (List.mem_cons_of_mem _ hy)
    have h1 := h x List.mem_cons_self
    rw [List.map_cons, List.sum_cons, List.length_cons, Nat.mul_succ]
    omega
theorem join_len {s : Str} {l : List Str} : (Txt.join s l).length ≤ (l.map (·.length)).sum + l.length * s.length := by
  rw [show Txt.join s l = Str.join s l from StrLaws.glued_eq_join s l]
  exact StrLaws.join_length_le s l
theorem bx_join_len {g : Gp} (h : GpW g) : (Txt.join " " g.bx).length ≤ 45 := by
  have h1 := join_len (s := " ") (l := g.bx)
  have h2 := sum_le (n := 8) (l := g.bx) fun x hx => wd_len (h.bx x hx)
  have h3 := h.len
  have h4 : (" " : Str).length = 1 := by decide +kernel
  rw [h4] at h1
  omega
theorem l_empty : Str.empty.length = 0 := rfl
theorem l_sp : (" " : Str).length = 1 := by decide +kernel
theorem l_col : (": " : Str).length = 2 := by decide +kernel
theorem gtx_len {g : Gp} (h : GpW g) : (gtx g).length ≤ 100 := by
  unfold gtx
  have h1 := wd_len h.nm
  have h2 := wd_len h.md
  have h3 := wd_len h.br
  have h4 := bx_join_len h
  simp only [slen, l_empty, l_sp, l_col]
  omega
section
variable {S S1 : Sto} {env : Env} {F : FE} {Fs : List FE} {acc y : Str} {r : R D} {ps : List Gp}
theorem ev_js (h : F env S = .ok (.str y) S1) (hl : (acc ++ y).length ≤ 16000) (h2 : fJs Fs (acc ++ y) env S1 = r) : fJs (F :: Fs) acc env S = r := by
  show (F env S).bnd _ = _
  rw [h, bnd_ok]
  show (if (acc ++ y).length ≤ sizeLine then fJs Fs (acc ++ y) env S1 else .stuck) = _
  rw [if_pos (sl5 hl)]
  exact h2
theorem ev_fmt (h : F env S = .ok (.str y) S1) (hl : y.length ≤ 16000) : fFmt F env S = .ok (.str y) S1 := by
  unfold fFmt
  rw [h, bnd_ok]
  exact if_pos (sl5 hl)
theorem ev_join {Fo Fe : FE} {a : Str} {S2 : Sto} {l : List Str} (ho : Fo env S = .ok (.str a) S1) (he : Fe env S1 = .ok (.lst (l.map .str)) S2) (hl : (l.map (·.length)).sum + l.length * a.length ≤ 16777216) : fJoin Fo Fe env S = .ok (.str (Txt.join a l)) S2 := by
  unfold fJoin
  rw [ho, bnd_ok]
  dsimp only
  rw [he, bnd_ok]
  unfold gJoin
  rw [show (asQ2 S2 (.lst (l.map .str))).bind strsD = some l from strsD_map l]
  exact if_pos hl
theorem text_ok (ok : PsOk ps) : N_text_of [shopD ps] S = .ok (.str (ptx ps)) S := by
  have l4 := ok.len
  have gw : ∀ g ∈ ps, GpW g := fun g hg => (ok.grp g hg).w
  refine frm_cl (by rw [show clL [shopD ps] = (clD (shopD ps) && true) from rfl, cl_shop]; rfl) ?_
  have c : fFrz (oLc [1, 2, 3, 4] (.many [1, 2, 3, 4]) (iSeq (fMeth "Shop" "groups" N_Shop_groups [] (fVar 0) (fun _ => pure []))) (fun _ => pure true) (fJs [(fFmt (fVar 1)), (fun _ => pure (.str " ")), (fFmt (fVar 2)), (fun _ => pure (.str " ")), (fFmt (fVar 3)), (fun _ => pure (.str ": ")), (fFmt (fJoin (fun _ => pure (.str " ")) (fVar 4)))] Str.empty)) [.val (shopD ps), .un, .un, .un, .un] [] = .ok (.lst ((ps.map gtx).map .str)) [] := by
    refine ev_frzL (ev_lc (ds := ps.map itF) (ev_seqL (ev_meth (C := "Shop") (o := shopD ps) (ev_var rfl) rfl rfl rfl (groups_ok (by omega)))) ?_ (by rw [List.length_map, List.length_map]; omega))
    rw [List.map_map]
    refine comp_mp (f := itF) (g := D.str ∘ gtx) (l := ps) (e := fun g => [.val (shopD ps), .val (.str g.nm), .val (.str g.md), .val (.str g.br), .val (.lst (g.bx.map .str))]) rfl (fun z hz => rfl) (fun g hg => ?_)
    have w := gw g hg
    have n1 := wd_len w.nm
    have n2 := wd_len w.md
    have n3 := wd_len w.br
    have n4 := bx_join_len w
    have n5 := w.len
    have n6 := sum_le (n := 8) (l := g.bx) fun x hx => wd_len (w.bx x hx)
    refine ev_js (ev_fmt (ev_var rfl) (by omega)) (by simp only [slen, l_empty]; omega) ?_
    refine ev_js ev_c (by simp only [slen, l_empty, l_sp]; omega) ?_
    refine ev_js (ev_fmt (ev_var rfl) (by omega)) (by simp only [slen, l_empty, l_sp]; omega) ?_
    refine ev_js ev_c (by simp only [slen, l_empty, l_sp]; omega) ?_
    refine ev_js (ev_fmt (ev_var rfl) (by omega)) (by simp only [slen, l_empty, l_sp]; omega) ?_
    refine ev_js ev_c (by simp only [slen, l_empty, l_sp, l_col]; omega) ?_
    exact ev_js (ev_fmt (ev_join (l := g.bx) ev_c (ev_var rfl) (by rw [l_sp]; omega)) (by omega)) (by simp only [slen, l_empty, l_sp, l_col]; omega) rfl
  have s1 := sum_le (n := 100) (l := ps.map gtx) fun x hx => by
    obtain ⟨g, hg, rfl⟩ := List.mem_map.mp hx
    exact gtx_len (gw g hg)
  rw [List.length_map] at s1
  have s2 : (" / " : Str).length = 3 := by decide +kernel
  exact mk_rt rfl rfl (ev_seq (ev_expr (ev_call (ev_cons (ev_var rfl) ev_nil) (frm_cl (by show (clD (shopD ps) && true) = true; rw [cl_shop]; rfl) chk_shop))) (ev_ret (ev_join (l := ps.map gtx) ev_c c (by rw [List.length_map, s2]; omega))))
end
def toks (g : Gp) : List Str := g.nm :: g.md :: g.br :: ":" :: g.bx
def tokP : List Gp → List Str
  | [] => []
  | [g] => toks g
  | g :: r => toks g ++ ("/" : Str) :: tokP r
theorem cps_app (a b : Str) : (a ++ b).cps.toList = a.cps.toList ++ b.cps.toList := Array.toList_append
theorem cps_join (s : Str) (x y : Str) (r : List Str) : (Txt.join s (x :: y :: r)).cps.toList = x.cps.toList ++ (s.cps.toList ++ (Txt.join s (y :: r)).cps.toList) := by
  rw [show Txt.join s (x :: y :: r) = x ++ s ++ Str.join s (y :: r) from StrLaws.glued_eq_join s (x :: y :: r), show Txt.join s (y :: r) = Str.join s (y :: r) from StrLaws.glued_eq_join s (y :: r), cps_app, cps_app, List.append_assoc]
theorem cps_join1 (s : Str) (x : Str) : Txt.join s [x] = x := StrLaws.glued_eq_join s [x]
theorem run_wd {w : Str} {a : List Str} {l : Nat} (hw : wdS w = true) (hl : isLt l = false) (ha : a.length < 999) : ∃ l', isLt l' = true ∧ Run w.cps.toList a (a ++ [w]) l l' :=
  run_word (wd_ne hw) (wd_let hw) hl (by have := wd_len hw; omega) ha
theorem lt32 : isLt 32 = false := by decide +kernel
theorem run_boxes : ∀ (bx : List Str) (a : List Str) (l : Nat), bx ≠ [] → (∀ x ∈ bx, wdS x = true) → isLt l = false → a.length + bx.length < 900 → ∃ l', isLt l' = true ∧ Run (Txt.join " " bx).cps.toList a (a ++ bx) l l'
  | [], _, _, h, _, _, _ => absurd rfl h
  | [x], a, l, _, hx, hl, ha => by
    rw [cps_join1]
    exact run_wd (hx x List.mem_cons_self) hl (by simp at ha; omega)
  | x :: y :: r, a, l, _, hx, hl, ha => by
    simp only [List.length_cons] at ha
    obtain ⟨l1, h1, q1⟩ := run_wd (a := a) (hx x List.mem_cons_self) hl (by omega)
    obtain ⟨l2, h2, q2⟩ := run_boxes (y :: r) (a ++ [x]) 32 (by simp) (fun z hz => hx z (List.mem_cons_of_mem _ hz)) lt32 (by simp; omega)
    refine ⟨l2, h2, ?_⟩
    rw [cps_join]
    have b := run_blank (c := 32) (by decide +kernel) lt32 (by decide +kernel) (a := a ++ [x]) (l := l1)
    have q := q1.app (b.app q2)
    rw [List.append_assoc] at q
    exact q
theorem run_group {g : Gp} (w : GpW g) {a : List Str} {l : Nat} (hl : isLt l = false) (ha : a.length < 800) : ∃ l', isLt l' = true ∧ Run (gtx g).cps.toList a (a ++ toks g) l l' := by
  have n5 := w.len
  obtain ⟨l1, h1, q1⟩ := run_wd (a := a) w.nm hl (by omega)
  obtain ⟨l2, h2, q2⟩ := run_wd (a := a ++ [g.nm]) (l := 32) w.md lt32 (by simp; omega)
  obtain ⟨l3, h3, q3⟩ := run_wd (a := a ++ [g.nm] ++ [g.md]) (l := 32) w.br lt32 (by simp; omega)
  obtain ⟨l4, h4, q4⟩ := run_boxes g.bx (a ++ [g.nm] ++ [g.md] ++ [g.br] ++ [(":" : Str)]) 32 (fun e => by have := w.one; rw [e] at this; exact absurd this (by decide)) w.bx lt32 (by simp; omega)
  have b1 := run_blank (c := 32) (by decide +kernel) lt32 (by decide +kernel) (a := a ++ [g.nm]) (l := l1)
  have b2 := run_blank (c := 32) (by decide +kernel) lt32 (by decide +kernel) (a := a ++ [g.nm] ++ [g.md]) (l := l2)
  have b3 := run_sign (c := 58) (by decide +kernel) (by decide +kernel) (a := a ++ [g.nm] ++ [g.md] ++ [g.br]) (l := l3) (by simp; omega)
  have e58 : (s1 58) = (":" : Str) := by decide +kernel
  rw [e58] at b3
  have b4 := run_blank (c := 32) (by decide +kernel) lt32 (by decide +kernel) (a := a ++ [g.nm] ++ [g.md] ++ [g.br] ++ [(":" : Str)]) (l := 58)
  refine ⟨l4, h4, ?_⟩
  have q := q1.app (b1.app (q2.app (b2.app (q3.app (b3.app (b4.app q4))))))
  have e1 : (gtx g).cps.toList = g.nm.cps.toList ++ ([32] ++ (g.md.cps.toList ++ ([32] ++ (g.br.cps.toList ++ ([58] ++ ([32] ++ (Txt.join " " g.bx).cps.toList)))))) := by
    unfold gtx
    have es : (" " : Str).cps.toList = [32] := by decide +kernel
    have ec : (": " : Str).cps.toList = [58] ++ [32] := by decide +kernel
    simp only [cps_app, es, ec, List.append_assoc]
    rfl
  rw [e1]
  have e2 : a ++ [g.nm] ++ [g.md] ++ [g.br] ++ [(":" : Str)] ++ g.bx = a ++ toks g := by
    simp only [List.append_assoc]
    rfl
  rw [e2] at q
  exact q
theorem run_shop : ∀ (ps : List Gp) (a : List Str) (l : Nat), ps ≠ [] → (∀ g ∈ ps, GpW g) → isLt l = false → a.length + 10 * ps.length < 700 → ∃ l', Run (ptx ps).cps.toList a (a ++ tokP ps) l l'
  | [], _, _, h, _, _, _ => absurd rfl h
  | [g], a, l, _, hg, hl, ha => by
    obtain ⟨l', _, q⟩ := run_group (hg g List.mem_cons_self) hl (a := a) (by simp at ha; omega)
    exact ⟨l', by rw [show ptx [g] = gtx g from cps_join1 _ _]; exact q⟩
  | g :: g2 :: r, a, l, _, hg, hl, ha => by
    simp only [List.length_cons] at ha
    have w := hg g List.mem_cons_self
    have n5 := w.len
    obtain ⟨l1, h1, q1⟩ := run_group w hl (a := a) (by omega)
    have tl : (toks g).length ≤ 9 := by show g.bx.length + 1 + 1 + 1 + 1 ≤ 9; omega
    have b1 := run_blank (c := 32) (by decide +kernel) lt32 (by decide +kernel) (a := a ++ toks g) (l := l1)
    have b2 := run_sign (c := 47) (by decide +kernel) (by decide +kernel) (a := a ++ toks g) (l := 32) (by rw [List.length_append]; omega)
    have e47 : (s1 47) = ("/" : Str) := by decide +kernel
    rw [e47] at b2
    have b3 := run_blank (c := 32) (by decide +kernel) lt32 (by decide +kernel) (a := a ++ toks g ++ [("/" : Str)]) (l := 47)
    obtain ⟨l', q2⟩ := run_shop (g2 :: r) (a ++ toks g ++ [("/" : Str)]) 32 (by simp) (fun z hz => hg z (List.mem_cons_of_mem _ hz)) lt32 (by simp only [List.length_append, List.length_cons, List.length_nil]; omega)
    refine ⟨l', ?_⟩
    have q := q1.app (b1.app (b2.app (b3.app q2)))
    have e1 : (ptx (g :: g2 :: r)).cps.toList = (gtx g).cps.toList ++ ([32] ++ ([47] ++ ([32] ++ (ptx (g2 :: r)).cps.toList))) := by
      have es : (" / " : Str).cps.toList = [32] ++ ([47] ++ [32]) := by decide +kernel
      rw [show (ptx (g :: g2 :: r)).cps.toList = _ from cps_join _ _ _ _, es]
      simp only [List.append_assoc]
      rfl
    rw [e1]
    have e2 : a ++ toks g ++ [("/" : Str)] ++ tokP (g2 :: r) = a ++ tokP (g :: g2 :: r) := by
      simp only [List.append_assoc]
      rfl
    rw [e2] at q
    exact q
theorem toks_ok {ps : List Gp} (ok : PsOk ps) {S : Sto} : N_tokens_of [.str (ptx ps)] S = .ok (.lst ((tokP ps).map .str)) S := by
  have l4 := ok.len
  obtain ⟨l', q⟩ := run_shop ps [] 32 (fun e => by have := ok.one; rw [e] at this; exact absurd this (by decide)) (fun g hg => (ok.grp g hg).w) lt32 (by show 0 + 10 * ps.length < 700; omega)
  exact tokens_ok q
end HT.C
set_option maxRecDepth 100000
set_option maxHeartbeats 1000000
namespace HT.C
open PySem PySem.Spec L2
open PyProof.Rows hiding St
def rwS (r0 : List Str) (rs : List (List Str)) : Sto := .lst (r0.map .str) :: .lst (.cell 0 :: (List.range rs.length).map fun i => .cell (i + 2)) :: rs.map fun l => .lst (l.map .str)
abbrev rwE (x0 tk : D) (s3 : Sl) : Env := [.val x0, .val tk, .val (.cell 1), s3, .un, .un, .un]
section
variable {x0 tk : D} {r0 : List Str} {rs pre : List (List Str)} {l : List Str} {t : Str}
theorem sl_eq {env : Env} {S : Sto} (ht : PyData.canLay0 (.str t) = true) (h : env[3]? = some (.val (.str t))) : fB (f2 (gEq false) (fVar 3) (fun _ => pure (.str "/"))) env S = .ok (t == "/") S :=
  ev_fB (ev_f2 (ev_var h) ev_c (eq_str _ _ ht (by decide +kernel) _))
theorem rw_slash (hl : rs.length < 1000) : B_read_shop_7 (rwE x0 tk (.val (.str "/"))) (rwS r0 rs) = .ok (.nx (rwE x0 tk (.val (.str "/")))) (rwS r0 (rs ++ [[]])) := by
  unfold B_read_shop_7 F_read_shop_6
  have e := sl_eq (t := "/") (env := rwE x0 tk (.val (.str "/"))) (S := rwS r0 rs) (by decide +kernel) rfl
  rw [beq_self_eq_true] at e
  refine ev_if_t e ?_
  have q := ev_appC (F := fCell (oLst aNil)) (i := 2) (k := 1) (env := rwE x0 tk (.val (.str "/"))) (S := rwS r0 rs) (ds := .cell 0 :: (List.range rs.length).map fun i => .cell (i + 2)) rfl rfl (ev_cell (ev_lst ev_nil)) rfl (by simp; omega)
  refine q.trans ?_
  congr 1
  unfold rwS
  simp only [List.cons_append, List.set_cons_succ, List.set_cons_zero, List.map_append, List.map_cons, List.map_nil, List.length_append, List.length_cons, List.length_nil, List.length_map, List.range_succ, Nat.zero_add]
theorem rw_tok0 (ht : PyData.canLay0 (.str t) = true) (hs : (t == "/") = false) (hl : r0.length < 1000) : B_read_shop_7 (rwE x0 tk (.val (.str t))) (rwS r0 []) = .ok (.nx (rwE x0 tk (.val (.str t)))) (rwS (r0 ++ [t]) []) := by
  unfold B_read_shop_7 F_read_shop_6
  have e := sl_eq (t := t) (env := rwE x0 tk (.val (.str t))) (S := rwS r0 []) ht rfl
  rw [hs] at e
  refine ev_if_f e ?_
  have ix : f2 gIx (fVar 2) (f1 gNeg (fun _ => pure (.int 1))) (rwE x0 tk (.val (.str t))) (rwS r0 []) = .ok (.cell 0) (rwS r0 []) := ev_f2 (ev_var rfl) neg1 (ix_last (pre := []) rfl)
  exact ev_appD ix rfl (ev_var rfl) rfl (by rw [List.length_map]; omega) (by
    unfold rwS
    rw [List.map_append (l₁ := r0) (l₂ := [t])]
    rfl)
theorem rw_at : (rwS r0 (pre ++ [l]))[pre.length + 2]? = some (.lst (l.map .str)) := by
  show ((pre ++ [l]).map fun l => CO.lst (l.map .str))[pre.length]? = _
  rw [List.getElem?_map]
  simp
theorem rw_tok (ht : PyData.canLay0 (.str t) = true) (hs : (t == "/") = false) (hl : l.length < 1000) : B_read_shop_7 (rwE x0 tk (.val (.str t))) (rwS r0 (pre ++ [l])) = .ok (.nx (rwE x0 tk (.val (.str t)))) (rwS r0 (pre ++ [l ++ [t]])) := by
  unfold B_read_shop_7 F_read_shop_6
  have e := sl_eq (t := t) (env := rwE x0 tk (.val (.str t))) (S := rwS r0 (pre ++ [l])) ht rfl
  rw [hs] at e
  refine ev_if_f e ?_
  have hk : (rwS r0 (pre ++ [l]))[1]? = some (.lst ((.cell 0 :: (List.range pre.length).map fun i => .cell (i + 2)) ++ [.cell (pre.length + 2)])) := by
    show some (CO.lst (.cell 0 :: (List.range (pre ++ [l]).length).map fun i => .cell (i + 2))) = _
    rw [List.length_append, List.length_singleton, List.range_succ, List.map_append]
    rfl
  have ix : f2 gIx (fVar 2) (f1 gNeg (fun _ => pure (.int 1))) (rwE x0 tk (.val (.str t))) (rwS r0 (pre ++ [l])) = .ok (.cell (pre.length + 2)) (rwS r0 (pre ++ [l])) := ev_f2 (ev_var rfl) neg1 (ix_last hk)
  refine ev_appD ix (by rw [lstAt_cell rw_at]; rfl) (ev_var rfl) rw_at (by rw [List.length_map]; omega) ?_
  unfold rwS
  rw [List.length_append, List.length_append, List.length_singleton, List.length_singleton]
  show _ :: _ :: (((pre ++ [l]).map fun l => CO.lst (l.map .str)).set pre.length _) = _
  rw [List.map_append, List.map_append, List.set_append_right _ _ (by rw [List.length_map]; exact Nat.le_refl _), List.length_map, Nat.sub_self]
  rw [show l.map D.str ++ [.str t] = (l ++ [t]).map D.str by rw [List.map_append]; rfl]
  rfl
def Plain (l : List Str) : Prop := ∀ t ∈ l, PyData.canLay0 (.str t) = true ∧ (t == "/") = false
theorem rw_loop0 : ∀ (ts r0 : List Str) (s3 : Sl) (rest : List D), Plain ts → r0.length + ts.length < 1000 → ∃ s3', loopD (.one 3) .fz B_read_shop_7 (ts.map .str ++ rest) (rwE x0 tk s3) (rwS r0 []) = loopD (.one 3) .fz B_read_shop_7 rest (rwE x0 tk s3') (rwS (r0 ++ ts) [])
  | [], r0, s3, rest, _, _ => ⟨s3, by rw [List.append_nil]; rfl⟩
  | t :: ts, r0, s3, rest, h, hl => by
    rw [List.length_cons] at hl
    obtain ⟨s3', e⟩ := rw_loop0 ts (r0 ++ [t]) (.val (.str t)) rest (fun x hx => h x (List.mem_cons_of_mem _ hx)) (by rw [List.length_append, List.length_singleton]; omega)
    have ht := h t List.mem_cons_self
    refine ⟨s3', (loop_cons rfl rfl (rw_tok0 (x0 := x0) (tk := tk) ht.1 ht.2 (by omega))).trans (e.trans ?_)⟩
    rw [List.append_assoc]
    rfl
theorem rw_loop : ∀ (ts : List Str) (pre : List (List Str)) (l : List Str) (s3 : Sl) (rest : List D), Plain ts → l.length + ts.length < 1000 → ∃ s3', loopD (.one 3) .fz B_read_shop_7 (ts.map .str ++ rest) (rwE x0 tk s3) (rwS r0 (pre ++ [l])) = loopD (.one 3) .fz B_read_shop_7 rest (rwE x0 tk s3') (rwS r0 (pre ++ [l ++ ts]))
  | [], pre, l, s3, rest, _, _ => ⟨s3, by rw [List.append_nil]; rfl⟩
  | t :: ts, pre, l, s3, rest, h, hl => by
    rw [List.length_cons] at hl
    obtain ⟨s3', e⟩ := rw_loop ts pre (l ++ [t]) (.val (.str t)) rest (fun x hx => h x (List.mem_cons_of_mem _ hx)) (by rw [List.length_append, List.length_singleton]; omega)
    have ht := h t List.mem_cons_self
    refine ⟨s3', (loop_cons rfl rfl (rw_tok (x0 := x0) (tk := tk) ht.1 ht.2 (by omega))).trans (e.trans ?_)⟩
    rw [List.append_assoc]
    rfl
theorem plain_toks {g : Gp} (w : GpW g) (s : GpS g) : Plain (toks g) := by
  have ns : ∀ x, wdS x = true → (x == ("/" : Str)) = false := fun x hx => by
    refine beq_eq_false_iff_ne.mpr fun e => ?_
    rw [e] at hx
    exact absurd hx (by decide +kernel)
  intro t ht
  rcases List.mem_cons.mp ht with rfl | ht
  · exact ⟨goodS_lay s.nm, ns _ w.nm⟩
  rcases List.mem_cons.mp ht with rfl | ht
  · exact ⟨goodS_lay s.md, ns _ w.md⟩
  rcases List.mem_cons.mp ht with rfl | ht
  · exact ⟨goodS_lay s.br, ns _ w.br⟩
  rcases List.mem_cons.mp ht with rfl | ht
  · exact ⟨by decide +kernel, by decide +kernel⟩
  exact ⟨goodS_lay (s.bx t ht), ns _ (w.bx t ht)⟩
theorem toks_len {g : Gp} (w : GpW g) : (toks g).length ≤ 9 := by have := w.len; show g.bx.length + 1 + 1 + 1 + 1 ≤ 9; omega
def tokQ : List Gp → List Str
  | [] => []
  | g :: r => ("/" : Str) :: (toks g ++ tokQ r)
theorem tokP_cons (g : Gp) : ∀ r : List Gp, tokP (g :: r) = toks g ++ tokQ r
  | [] => (List.append_nil _).symm
  | g2 :: r => by
    show toks g ++ ("/" : Str) :: tokP (g2 :: r) = toks g ++ ("/" : Str) :: (toks g2 ++ tokQ r)
    rw [tokP_cons g2 r]
theorem rw_rest : ∀ (gs : List Gp) (rs : List (List Str)) (s3 : Sl), (∀ g ∈ gs, GpW g ∧ GpS g) → rs.length + gs.length < 100 → ∃ s3', loopD (.one 3) .fz B_read_shop_7 ((tokQ gs).map .str) (rwE x0 tk s3) (rwS r0 rs) = .ok (.nx (rwE x0 tk s3')) (rwS r0 (rs ++ gs.map toks))
  | [], rs, s3, _, _ => ⟨s3, by rw [show ([] : List Gp).map toks = [] from rfl, List.append_nil]; exact loop_nil rfl⟩
  | g :: gs, rs, s3, h, hl => by
    rw [List.length_cons] at hl
    have hg := h g List.mem_cons_self
    have tl := toks_len hg.1
    obtain ⟨s4, e4⟩ := rw_loop (x0 := x0) (tk := tk) (r0 := r0) (toks g) rs [] (.val (.str "/")) ((tokQ gs).map .str) (plain_toks hg.1 hg.2) (by show 0 + (toks g).length < 1000; omega)
    obtain ⟨s5, e5⟩ := rw_rest gs (rs ++ [toks g]) s4 (fun x hx => h x (List.mem_cons_of_mem _ hx)) (by rw [List.length_append, List.length_singleton]; omega)
    refine ⟨s5, ?_⟩
    show loopD (.one 3) .fz B_read_shop_7 (.str "/" :: (toks g ++ tokQ gs).map .str) (rwE x0 tk s3) (rwS r0 rs) = _
    rw [List.map_append]
    refine (loop_cons rfl rfl (rw_slash (x0 := x0) (tk := tk) (by omega))).trans (e4.trans ?_)
    rw [List.nil_append, e5, List.append_assoc]
    rfl
theorem cutTo {l : List D} (n : Nat) : cutD l none (some (n : Int)) = l.take n := by
  unfold cutD
  rw [sIx_nat, sIx_none, List.drop_zero, Nat.sub_zero]
  rcases Nat.le_total n l.length with h | h
  · rw [Nat.min_eq_left h]
  · rw [Nat.min_eq_right h, List.take_length, List.take_of_length_le h]
theorem cutFr {l : List D} (n : Nat) : cutD l (some (n : Int)) none = l.drop n := by
  unfold cutD
  rw [sIx_nat, sIx_none]
  rcases Nat.le_total n l.length with h | h
  · rw [Nat.min_eq_left h, List.take_of_length_le (by rw [List.length_drop]; exact Nat.le_refl _)]
  · rw [Nat.min_eq_right h, List.drop_of_length_le (Nat.le_refl _), List.drop_of_length_le h, List.take_nil]
theorem sl_cell {S : Sto} {k : Nat} {ds : List D} (hk : S[k]? = some (.lst ds)) (lo hi : Option Int) : gSl (.cell k) lo hi S = .ok (.lst (cutD ds lo hi)) S := by
  show (match asL S (.cell k) with | some ds => R.ok (D.lst (cutD ds lo hi)) S | none => .stuck) = _
  rw [show asL S (.cell k) = some ds by show (match S[k]? with | some (.lst ds) => some ds | _ => none) = _; rw [hk]]
theorem grpof_ok {S : Sto} {k : Nat} {g : Gp} (w : GpW g) (s : GpS g) (hk : S[k]? = some (.lst ((toks g).map .str))) : N_group_of [.cell k] S = .ok (itF g) S := by
  have tl := toks_len w
  have tl2 : 5 ≤ (toks g).length := by have := w.one; show 5 ≤ g.bx.length + 1 + 1 + 1 + 1; omega
  have lay : ∀ t ∈ toks g, PyData.canLay0 (.str t) = true := fun t ht => (plain_toks w s t ht).1
  have nc : ∀ x, wdS x = true → ¬ (":" : Str) = x := fun x hx e => by rw [← e] at hx; exact absurd hx (by decide +kernel)
  refine mlt_same (S' := S) ?_ rfl
  have lt : ∀ {n m : Int}, gOrd (fun i j => decide (i < j)) (.int n) (.int m) S = .ok (.bl (decide (n < m))) S := rfl
  have a1 : fB (f2 (gOrd (fun i j => decide (i < j))) (fArgs (a1 gLen) (aCons (fVar 0) aNil)) (fun _ => pure (.int 5))) [.val (.cell k), .un] S = .ok false S :=
    ev_fB (ev_f2 (ev_args (ev_cons (ev_var rfl) ev_nil) (len_mapC hk)) ev_c (by rw [lt, decide_eq_false (by omega)]))
  have a2 : fB (f2 (gEq true) (f2 gIx (fVar 0) (fun _ => pure (.int 3))) (fun _ => pure (.str ":"))) [.val (.cell k), .un] S = .ok false S :=
    ev_fB (ev_f2 (ev_f2 (x := .cell k) (ev_var rfl) ev_c (ix_mapC (i := 3) hk (a := (":" : Str)) rfl)) ev_c (eq_d (neg := true) (Dt.str (by decide +kernel)) (Dt.str (by decide +kernel))))
  have a3 : fB (f2 (gInX false) (fun _ => pure (.str ":")) (f3 gSl (fVar 0) pNone (pSome (fun _ => pure (.int 3))))) [.val (.cell k), .un] S = .ok false S := by
    refine ev_fB (ev_f2 ev_c (ev_f3 (ev_var rfl) rfl rfl ((sl_cell hk none (some (3 : Nat))).trans (by rw [cutTo, ← List.map_take]))) ?_)
    rw [show (toks g).take 3 = [g.nm, g.md, g.br] from rfl]
    refine (in_strs (by decide +kernel) (fun y hy => lay y (by simp at hy; rcases hy with rfl | rfl | rfl <;> simp [toks])) S).trans ?_
    rw [decide_eq_false (by simp only [List.mem_cons, List.not_mem_nil, or_false, not_or]; exact ⟨nc _ w.nm, nc _ w.md, nc _ w.br⟩)]
    rfl
  have a4 : fB (f2 (gInX false) (fun _ => pure (.str ":")) (f3 gSl (fVar 0) (pSome (fun _ => pure (.int 4))) pNone)) [.val (.cell k), .un] S = .ok false S := by
    refine ev_fB (ev_f2 ev_c (ev_f3 (ev_var rfl) rfl rfl ((sl_cell hk (some (4 : Nat)) none).trans (by rw [cutFr, ← List.map_drop]))) ?_)
    rw [show (toks g).drop 4 = g.bx from rfl]
    refine (in_strs (by decide +kernel) (fun y hy => goodS_lay (s.bx y hy)) S).trans ?_
    rw [decide_eq_false (fun h => nc _ (w.bx _ h) rfl)]
    rfl
  have gt : ∀ {n m : Int}, gOrd (fun i j => decide (j < i)) (.int n) (.int m) S = .ok (.bl (decide (m < n))) S := rfl
  have b1 : fFrz (oLc [1] (.one 1) (iSeq (fVar 0)) (fB (f2 (gOrd (fun i j => decide (j < i))) (fArgs (HT.a1 gLen) (aCons (fVar 1) aNil)) (fun _ => pure (.int 8)))) (fVar 1)) [.val (.cell k), .un] S = .ok (.lst []) S := by
    have q := comp_fm (b := .one 1) (src := .cl k (.lst ((toks g).map .str))) (Ft := fB (f2 (gOrd (fun i j => decide (j < i))) (fArgs (HT.a1 gLen) (aCons (fVar 1) aNil)) (fun _ => pure (.int 8)))) (Fe := fVar 1) (env0 := [.val (.cell k), .un]) (S := S) (f := D.str) (g := D.str) (l := toks g) (e := fun x => [.val (.cell k), .val (.str x)]) (p := fun _ => false)
      (chk_cl hk) (fun z hz => rfl) (fun z hz => ?_) (fun z hz hp => ev_var rfl)
    · rw [List.filter_eq_nil_iff.mpr (by simp)] at q
      exact ev_frzL (ev_lc (vs := [1]) (ev_seqA (ev_var rfl) (by show (match S[k]? with | some (.lst ds) => some (ds, Src.cl k (.lst ds)) | _ => none) = _; rw [hk])) q (by decide))
    · have hz8 : z.length ≤ 8 := by
        rcases List.mem_cons.mp hz with rfl | hz
        · exact wd_len w.nm
        rcases List.mem_cons.mp hz with rfl | hz
        · exact wd_len w.md
        rcases List.mem_cons.mp hz with rfl | hz
        · exact wd_len w.br
        rcases List.mem_cons.mp hz with rfl | hz
        · decide +kernel
        exact wd_len (w.bx z hz)
      refine ev_fB (ev_f2 (x := .int (z.length : Nat)) (ev_args (ev_cons (ev_var rfl) ev_nil) ?_) ev_c (by rw [gt, decide_eq_false (by omega)]))
      show (if z.length ≤ sizeLine then R.ok (D.int z.length) S else .stuck) = _
      exact if_pos (sl5 (by omega))
  have b2 : fB (f2 (gEq true) (fFrz (oLc [1] (.one 1) (iSeq (fVar 0)) (fB (f2 (gOrd (fun i j => decide (j < i))) (fArgs (HT.a1 gLen) (aCons (fVar 1) aNil)) (fun _ => pure (.int 8)))) (fVar 1))) (fFrz (oLst aNil))) [.val (.cell k), .un] S = .ok false S :=
    ev_fB (ev_f2 b1 (ev_frzL (ev_lst ev_nil)) (eq_d (neg := true) dt_nil dt_nil))
  have c4 : f3 gSl (fVar 0) (pSome (fun _ => pure (.int 4))) pNone [.val (.cell k), .un] S = .ok (.lst (g.bx.map .str)) S :=
    ev_f3 (ev_var rfl) rfl rfl ((sl_cell hk (some (4 : Nat)) none).trans (by rw [cutFr, ← List.map_drop]; rfl))
  exact mk_rt rfl rfl (ev_seq (ev_skip (ev_orT_f a1 (ev_orT_f a2 (ev_orT_f a3 a4)))) (ev_seq (ev_skip b2) (ev_ret (ev_tup (ev_cons (ev_f2 (x := .cell k) (ev_var rfl) ev_c (ix_mapC (i := 0) hk (a := g.nm) rfl)) (ev_cons (ev_f2 (x := .cell k) (ev_var rfl) ev_c (ix_mapC (i := 1) hk (a := g.md) rfl)) (ev_cons (ev_f2 (x := .cell k) (ev_var rfl) ev_c (ix_mapC (i := 2) hk (a := g.br) rfl)) (ev_cons c4 ev_nil))))))))
end
end HT.C
set_option maxRecDepth 100000
set_option maxHeartbeats 1000000
namespace HT.Lk45
open PySem PySem.Spec L2 HT.C
open PyProof.Rows hiding St
section
variable {S T : Sto} {ps : List Gp} {g : Gp} {n : Nat} {B : Int} {x y w : Str} {a : List Str} {l m : Nat}
theorem read_gen {ps : List Gp} {S : Sto} {x : Str} (w0g : ∀ x ∈ ps, GpW x ∧ GpS x) (one : 1 ≤ ps.length) (len : ps.length ≤ 4) (mk0 : ∀ (env : Env) (S : Sto) (F : FE), F env S = .ok (.lst (ps.map itF)) S → fFrz (oMake N_Shop_init [] (aCons F aNil)) env S = .ok (shopD ps) S) (hx : ∀ S, N_tokens_of [.str x] S = .ok (.lst ((tokP ps).map .str)) S) : N_read_shop [.str x] S = .ok (shopD ps) S := by
  match ps, one, w0g, len, mk0, hx with
  | g :: gs, _, w0g, len, mk0, hx =>
  have l4 := len
  have wg : ∀ x ∈ g :: gs, GpW x ∧ GpS x := w0g
  have w0 := wg g List.mem_cons_self
  have tl := toks_len w0.1
  rw [List.length_cons] at l4
  obtain ⟨s4, e4⟩ := rw_loop0 (x0 := .str x) (tk := .lst ((tokP (g :: gs)).map .str)) (toks g) [] .un ((tokQ gs).map .str) (plain_toks w0.1 w0.2) (by show 0 + (toks g).length < 1000; omega)
  obtain ⟨s5, e5⟩ := rw_rest (x0 := .str x) (tk := .lst ((tokP (g :: gs)).map .str)) (r0 := toks g) gs [] s4 (fun x hx => wg x (List.mem_cons_of_mem _ hx)) (by show 0 + gs.length < 100; omega)
  have e6 : loopD (.one 3) .fz B_read_shop_7 ((tokP (g :: gs)).map .str) (rwE (.str x) (.lst ((tokP (g :: gs)).map .str)) .un) (rwS [] []) = .ok (.nx (rwE (.str x) (.lst ((tokP (g :: gs)).map .str)) s5)) (rwS (toks g) (gs.map toks)) := by
    have e : (tokP (g :: gs)).map D.str = (toks g).map .str ++ (tokQ gs).map .str := by rw [tokP_cons, List.map_append]
    exact (congrArg (fun z => loopD (.one 3) .fz B_read_shop_7 z (rwE (.str x) (.lst ((tokP (g :: gs)).map .str)) .un) (rwS [] [])) e).trans (e4.trans e5)
  have cells : ∀ z ∈ ((0, g) :: gs.zipIdx.map fun z => (z.2 + 2, z.1)), z.2 ∈ g :: gs ∧ (rwS (toks g) (gs.map toks))[z.1]? = some (.lst ((toks z.2).map .str)) := fun z hz => by
    rcases List.mem_cons.mp hz with rfl | hz
    · exact ⟨List.mem_cons_self, rfl⟩
    · obtain ⟨⟨a, i⟩, hy, rfl⟩ := List.mem_map.mp hz
      have hi : gs[i]? = some a := List.mk_mem_zipIdx_iff_getElem?.mp hy
      refine ⟨List.mem_cons_of_mem _ (List.mem_of_getElem? hi), ?_⟩
      show ((gs.map toks).map fun l => CO.lst (l.map .str))[i]? = _
      rw [List.getElem?_map, List.getElem?_map, hi]
      rfl
  have comp : fFrz (oLc [6] (.one 6) (iSeq (fVar 2)) (fun _ => pure true) (fCall N_group_of [] (aCons (fVar 6) aNil))) [.val (.str x), .val (.lst ((tokP (g :: gs)).map .str)), .val (.cell 1), s5, .un, .un, .un] (rwS (toks g) (gs.map toks)) = .ok (.lst ((g :: gs).map itF)) (rwS (toks g) (gs.map toks)) := by
    have ec : (.cell 0 :: (List.range (gs.map toks).length).map fun i => D.cell (i + 2)) = ((0, g) :: gs.zipIdx.map fun z => (z.2 + 2, z.1)).map fun z => D.cell z.1 := by
      rw [List.map_cons, List.map_map, List.length_map]
      congr 1
      rw [show ((fun z : Nat × Gp => D.cell z.1) ∘ fun z : Gp × Nat => (z.2 + 2, z.1)) = (fun i => D.cell (i + 2)) ∘ Prod.snd from rfl, ← List.map_map, List.zipIdx_map_snd, ← List.range_eq_range']
    have ei : ((0, g) :: gs.zipIdx.map fun z => (z.2 + 2, z.1)).map (fun z => itF z.2) = (g :: gs).map itF := by
      rw [List.map_cons, List.map_map, List.map_cons]
      congr 1
      rw [show ((fun z : Nat × Gp => itF z.2) ∘ fun z : Gp × Nat => (z.2 + 2, z.1)) = itF ∘ Prod.fst from rfl, ← List.map_map, List.zipIdx_map_fst]
    have hk : (rwS (toks g) (gs.map toks))[1]? = some (.lst (((0, g) :: gs.zipIdx.map fun z => (z.2 + 2, z.1)).map fun z => D.cell z.1)) := by rw [← ec]; rfl
    have q := comp_mp (b := .one 6) (src := .cl 1 (.lst (((0, g) :: gs.zipIdx.map fun z => (z.2 + 2, z.1)).map fun z => D.cell z.1))) (Fe := fCall N_group_of [] (aCons (fVar 6) aNil)) (env0 := [.val (.str x), .val (.lst ((tokP (g :: gs)).map .str)), .val (.cell 1), s5, .un, .un, .un]) (S := rwS (toks g) (gs.map toks)) (f := fun z : Nat × Gp => D.cell z.1) (g := fun z => itF z.2) (l := (0, g) :: gs.zipIdx.map fun z => (z.2 + 2, z.1))
      (e := fun z => [.val (.str x), .val (.lst ((tokP (g :: gs)).map .str)), .val (.cell 1), s5, .un, .un, .val (.cell z.1)]) (chk_cl hk) (fun z hz => rfl) (fun z hz => ev_call (ev_cons (ev_var rfl) ev_nil) (grpof_ok (wg _ (cells z hz).1).1 (wg _ (cells z hz).1).2 (cells z hz).2))
    rw [ei] at q
    refine ev_frzL (ev_lc (vs := [6]) (ev_seqA (ev_var rfl) (by show (match (rwS (toks g) (gs.map toks))[1]? with | some (.lst ds) => some (ds, Src.cl 1 (.lst ds)) | _ => none) = _; rw [hk])) q (by simp; omega))
  have fin : M_read_shop [.str x] [] = .ok (shopD (g :: gs)) (rwS (toks g) (gs.map toks)) := by
    have mk := mk0 [.val (.str x), .val (.lst ((tokP (g :: gs)).map .str)), .val (.cell 1), s5, .val (.lst ((g :: gs).map itF)), .val .non, .un] (rwS (toks g) (gs.map toks)) (fVar 4) (ev_var rfl)
    have th : F_read_shop_11 [.val (.str x), .val (.lst ((tokP (g :: gs)).map .str)), .val (.cell 1), s5, .val (.lst ((g :: gs).map itF)), .val .non, .un] (rwS (toks g) (gs.map toks)) = .ok (.nx [.val (.str x), .val (.lst ((tokP (g :: gs)).map .str)), .val (.cell 1), s5, .val (.lst ((g :: gs).map itF)), .val (shopD (g :: gs)), .un]) (rwS (toks g) (gs.map toks)) := by
      unfold F_read_shop_11 F_read_shop_10 sThru
      rw [ev_set2 mk rfl]
      rfl
    exact mk_rt rfl rfl (ev_seq (ev_set2 (ev_ifT (b := true) (ev_fB (ev_args (ev_cons (ev_var rfl) (ev_cons ev_c ev_nil)) rfl)) (if_t rfl (ev_call (ev_cons (ev_var rfl) ev_nil) (hx _)))) rfl) (ev_seq (ev_skip (ev_fB (ev_f2 (ev_var rfl) ev_c rfl))) (ev_seq (ev_set2 (ev_cell (ev_lst (ev_cons (ev_cell (ev_lst ev_nil)) ev_nil))) rfl)
      (ev_seq (ev_for (ev_seqL (ds := (tokP (g :: gs)).map .str) (ev_var rfl)) rfl e6) (ev_seq (ev_par (ev_cons comp (ev_cons ev_c ev_nil)) rfl) (ev_seq th (ev_seq (ev_skip (ev_fB (ev_f2 (ev_var rfl) ev_c rfl))) (ev_ret (ev_var rfl)))))))))
  exact frm_cell (T := rwS (toks g) (gs.map toks)) rfl fin (by unfold rwS; simp) (melt_cl _ _ (cl_shop _))
theorem read_tok {ps : List Gp} {S : Sto} {x : Str} (ok : PsOk ps) (hx : ∀ S, N_tokens_of [.str x] S = .ok (.lst ((tokP ps).map .str)) S) : N_read_shop [.str x] S = .ok (shopD ps) S :=
  read_gen (fun x hx => ⟨(ok.grp x hx).w, ok.s x hx⟩) ok.one ok.len (fun _ _ _ h => ev_shop h (fun x hx => ok.grp x hx) ok.one ok.len ok.nd) hx
theorem add_s {x y : Str} (h : x.length + y.length ≤ 16000) : gAdd (.str x) (.str y) S = .ok (.str (x ++ y)) S := by
  show (if x.length + y.length ≤ sizeLine then R.ok (D.str (x ++ y)) S else .stuck) = _
  exact if_pos (by rw [sizeLine_eq]; omega)
theorem emp_add (x : Str) : Str.empty ++ x = x := by
  show (⟨#[] ++ x.cps⟩ : Str) = x
  simp
theorem gtx_eq (g : Gp) : ((((((g.nm ++ " ") ++ g.md) ++ " ") ++ g.br) ++ ": ") ++ Txt.join " " g.bx : Str) = gtx g := by
  unfold gtx
  rw [emp_add]
theorem written_ok (ok : PsOk ps) : N__law_written [.lst (ps.map itF)] S = .ok (.str (ptx ps)) S := by
  have l4 := ok.len
  have gw : ∀ g ∈ ps, GpW g := fun g hg => (ok.grp g hg).w
  refine frm_cl (by show (clL (ps.map itF) && true) = true; rw [cl_its]; rfl) ?_
  have c : fFrz (oLc [1, 2, 3, 4] (.many [1, 2, 3, 4]) (iSeq (fVar 0)) (fun _ => pure true) (f2 gAdd (f2 gAdd (f2 gAdd (f2 gAdd (f2 gAdd (f2 gAdd (fVar 1) (fun _ => pure (.str " "))) (fVar 2)) (fun _ => pure (.str " "))) (fVar 3)) (fun _ => pure (.str ": "))) (fJoin (fun _ => pure (.str " ")) (fVar 4)))) [.val (.lst (ps.map itF)), .un, .un, .un, .un] [] = .ok (.lst ((ps.map gtx).map .str)) [] := by
    refine ev_frzL (ev_lc (ds := ps.map itF) (ev_seqL (ev_var rfl)) ?_ (by rw [List.length_map, List.length_map]; omega))
    rw [List.map_map]
    refine comp_mp (f := itF) (g := D.str ∘ gtx) (l := ps) (e := fun g => [.val (.lst (ps.map itF)), .val (.str g.nm), .val (.str g.md), .val (.str g.br), .val (.lst (g.bx.map .str))]) rfl (fun z hz => rfl) (fun g hg => ?_)
    have w := gw g hg
    have n1 := wd_len w.nm
    have n2 := wd_len w.md
    have n3 := wd_len w.br
    have n4 := bx_join_len w
    have n5 := w.len
    have n6 := sum_le (n := 8) (l := g.bx) fun x hx => wd_len (w.bx x hx)
    show _ = R.ok (D.str (gtx g)) []
    rw [← gtx_eq]
    exact ev_f2 (ev_f2 (ev_f2 (ev_f2 (ev_f2 (ev_f2 (ev_var rfl) ev_c (add_s (by rw [l_sp]; omega))) (ev_var rfl) (add_s (by simp only [slen, l_sp]; omega))) ev_c (add_s (by simp only [slen, l_sp]; omega))) (ev_var rfl) (add_s (by simp only [slen, l_sp]; omega))) ev_c (add_s (by simp only [slen, l_sp, l_col]; omega)))
      (ev_join (l := g.bx) ev_c (ev_var rfl) (by rw [l_sp]; omega)) (add_s (by simp only [slen, l_sp, l_col]; omega))
  have s1 := sum_le (n := 100) (l := ps.map gtx) fun x hx => by
    obtain ⟨g, hg, rfl⟩ := List.mem_map.mp hx
    exact gtx_len (gw g hg)
  rw [List.length_map] at s1
  have s2 : (" / " : Str).length = 3 := by decide +kernel
  exact mk_rt rfl rfl (ev_ret (ev_join (l := ps.map gtx) ev_c c (by rw [List.length_map, s2]; omega)))
def blW : List Str := ["", " ", "\n", "  ", " \n\n"]
theorem blW_all : (blW.all fun w => w.cps.toList.all (fun c => isBl c && (!isLt c && !isGs c)) && decide (w.cps.size ≤ 3)) = true := by decide +kernel
theorem run_bls : ∀ (cs : List Nat) (a : List Str) (l : Nat), (∀ c ∈ cs, isBl c = true ∧ isLt c = false ∧ isGs c = false) → ∃ l', Run cs a a l l' ∧ (isLt l = false → isLt l' = false) ∧ (cs ≠ [] → isLt l' = false)
  | [], a, l, _ => ⟨l, rfl, id, fun h => absurd rfl h⟩
  | c :: cs, a, l, h => by
    obtain ⟨h1, h2, h3⟩ := h c List.mem_cons_self
    obtain ⟨l', q, k, _⟩ := run_bls cs a c fun x hx => h x (List.mem_cons_of_mem _ hx)
    exact ⟨l', (run_blank h1 h2 h3).app q, fun _ => k h2, fun _ => k h2⟩
def Tx (x : Str) (a : List Str) (l n : Nat) : Prop := Run x.cps.toList [] a 32 l ∧ x.length ≤ n
theorem Tx.word {w : Str} (h : Tx x a l n) (hw : wdS w = true) (hl : isLt l = false) (ha : a.length < 999) : ∃ l', isLt l' = true ∧ Tx (x ++ w) (a ++ [w]) l' (n + 8) := by
  obtain ⟨l', h1, q⟩ := run_wd hw hl ha
  refine ⟨l', h1, ?_, by have := wd_len hw; have := h.2; rw [slen]; omega⟩
  rw [cps_app]
  exact h.1.app q
theorem Tx.blank {w : Str} (h : Tx x a l n) (hw : w ∈ blW) : ∃ l', (isLt l = false → isLt l' = false) ∧ (w ≠ "" → isLt l' = false) ∧ Tx (x ++ w) a l' (n + 3) := by
  obtain ⟨h1, h2⟩ := bAnd (List.all_eq_true.mp blW_all w hw)
  obtain ⟨l', q, k1, k2⟩ := run_bls w.cps.toList a l fun c hc => by
    obtain ⟨p1, p2⟩ := bAnd (List.all_eq_true.mp h1 c hc)
    obtain ⟨p3, p4⟩ := bAnd p2
    exact ⟨p1, by simpa using p3, by simpa using p4⟩
  refine ⟨l', k1, fun hn => k2 fun e => hn ?_, ?_, by have := of_decide_eq_true h2; have := h.2; rw [slen]; show _ + w.cps.size ≤ _; omega⟩
  · obtain ⟨⟨cs⟩⟩ := w
    have e' : cs = [] := e
    subst e'
    rfl
  · rw [cps_app]
    exact h.1.app q
theorem Tx.sign {c : Nat} {w : Str} (h : Tx x a l n) (hw : w = s1 c) (hn : isLt c = false) (hg : isGs c = true) (ha : a.length < 1000) : Tx (x ++ w) (a ++ [w]) c (n + 1) := by
  subst hw
  refine ⟨?_, by have := h.2; rw [slen]; show _ + 1 ≤ _; omega⟩
  rw [cps_app]
  exact h.1.app (run_sign hn hg ha)
theorem Tx.le (h : Tx x a l n) (hn : n ≤ m) : Tx x a l m := ⟨h.1, Nat.le_trans h.2 hn⟩
theorem rndN {k : Nat} (h : isG S n B) (hB : B ≤ 900000) (h1 : 1 ≤ k) (h2 : k < 200) : ∃ (r : Nat) (c : List D), N__law_random [.cell n, .int (k : Nat)] S = .ok (.int (r : Nat)) (S.set n (.lst c)) ∧ r < k ∧ isG (S.set n (.lst c)) n (B + 1) := by
  obtain ⟨r, c, e, hr, i, _⟩ := rnd_ok (n := (k : Int)) h hB ⟨by omega, by omega⟩
  obtain ⟨j, rfl⟩ : ∃ j : Nat, r = j := ⟨r.toNat, by omega⟩
  exact ⟨j, c, e, by omega, i⟩
abbrev spE (ps : List Gp) (n : Nat) (x : Str) (s4 s5 s6 s7 s8 s9 : Sl) : Env := [.val (.cell n), .val (.lst (ps.map itF)), .val (.lst (blW.map .str)), .val (.str x), s4, s5, s6, s7, s8, s9]
theorem blk5 {s4 s5 s6 s7 s8 s9 : Sl} (h : isG S n B) (hB : B ≤ 900000) : ∃ w ∈ blW, ∃ c, f2 gIx (fVar 2) (fCall N__law_random [] (aCons (fVar 0) (aCons (fun _ => pure (.int 5)) aNil))) (spE ps n x s4 s5 s6 s7 s8 s9) S = .ok (.str w) (S.set n (.lst c)) ∧ isG (S.set n (.lst c)) n (B + 1) := by
  obtain ⟨r, c, e, hr, i⟩ := rndN (k := 5) h hB (by decide) (by decide)
  exact ⟨blW[r]'hr, List.getElem_mem _, c, ev_f2 (ev_var rfl) (ev_call (ev_cons (ev_var rfl) (ev_cons ev_c ev_nil)) e) (ix_map (f := D.str) (List.getElem?_eq_getElem hr) _), i⟩
theorem blk4 {s4 s5 s6 s7 s8 s9 : Sl} (h : isG S n B) (hB : B ≤ 900000) : ∃ w ∈ blW, w ≠ "" ∧ ∃ c, f2 gIx (fVar 2) (f2 gAdd (fun _ => pure (.int 1)) (fCall N__law_random [] (aCons (fVar 0) (aCons (fun _ => pure (.int 4)) aNil)))) (spE ps n x s4 s5 s6 s7 s8 s9) S = .ok (.str w) (S.set n (.lst c)) ∧ isG (S.set n (.lst c)) n (B + 1) := by
  obtain ⟨r, c, e, hr, i⟩ := rndN (k := 4) h hB (by decide) (by decide)
  have hr' : r + 1 < blW.length := by show r + 1 < 5; omega
  have ne : ∀ j, j < 4 → blW[j + 1]? ≠ some ("" : Str) := fun j hj => by
    match j, hj with
    | 0, _ => decide +kernel
    | 1, _ => decide +kernel
    | 2, _ => decide +kernel
    | 3, _ => decide +kernel
  have ad : gAdd (.int 1) (.int (r : Nat)) (S.set n (.lst c)) = .ok (.int ((r + 1 : Nat) : Int)) (S.set n (.lst c)) := by
    rw [HT.C.add_ok]
    congr 2
    omega
  refine ⟨blW[r + 1]'hr', List.getElem_mem _, fun e => ne r hr (by rw [List.getElem?_eq_getElem hr', e]), c, ev_f2 (ev_var rfl) (ev_f2 (Fa := fun _ => pure (.int 1)) ev_c (ev_call (ev_cons (ev_var rfl) (ev_cons ev_c ev_nil)) e) ad) (ix_map (f := D.str) (List.getElem?_eq_getElem hr') _), i⟩
theorem word_turn {w : Str} {s4 s5 s6 s7 s9 : Sl} (h : isG S n B) (hB : B ≤ 900000) (t : Tx x a l m) (hm : m ≤ 5000) (hw : wdS w = true) (hl : isLt l = false) (ha : a.length < 900) :
    ∃ x' l' c, B__law_spaced_3 (spE ps n x s4 s5 s6 s7 (.val (.str w)) s9) S = .ok (.nx (spE ps n x' s4 s5 s6 s7 (.val (.str w)) s9)) (S.set n (.lst c)) ∧ isG (S.set n (.lst c)) n (B + 1) ∧ Tx x' (a ++ [w]) l' (m + 11) ∧ isLt l' = false := by
  obtain ⟨v, hv, hn, c, e, i⟩ := blk4 (ps := ps) (x := x) (s4 := s4) (s5 := s5) (s6 := s6) (s7 := s7) (s8 := .val (.str w)) (s9 := s9) h hB
  obtain ⟨l1, _, t1⟩ := t.word hw hl (by omega)
  obtain ⟨l2, _, k2, t2⟩ := t1.blank hv
  have b1 := t1.2
  have b2 := t2.2
  rw [slen] at b2
  have lw := wd_len hw
  have b0 := t.2
  exact ⟨_, l2, c, ev_set2 (ev_f2 (ev_f2 (ev_var rfl) (ev_var rfl) (add_s (by omega))) e (add_s (by omega))) rfl, i, t2, k2 hn⟩
theorem box_turn {w : Str} {s4 s5 s6 s7 s8 : Sl} (h : isG S n B) (hB : B ≤ 900000) (t : Tx x a l m) (hm : m ≤ 5000) (hw : wdS w = true) (hl : isLt l = false) (ha : a.length < 900) :
    ∃ x' l' c, B__law_spaced_7 (spE ps n x s4 s5 s6 s7 s8 (.val (.str w))) S = .ok (.nx (spE ps n x' s4 s5 s6 s7 s8 (.val (.str w)))) (S.set n (.lst c)) ∧ isG (S.set n (.lst c)) n (B + 1) ∧ Tx x' (a ++ [w]) l' (m + 11) ∧ isLt l' = false := by
  obtain ⟨v, hv, hn, c, e, i⟩ := blk4 (ps := ps) (x := x) (s4 := s4) (s5 := s5) (s6 := s6) (s7 := s7) (s8 := s8) (s9 := .val (.str w)) h hB
  obtain ⟨l1, _, t1⟩ := t.word hw hl (by omega)
  obtain ⟨l2, _, k2, t2⟩ := t1.blank hv
  have b2 := t2.2
  rw [slen] at b2
  have lw := wd_len hw
  have b0 := t.2
  have b1 := t1.2
  exact ⟨_, l2, c, ev_set2 (ev_f2 (ev_f2 (ev_var rfl) (ev_var rfl) (add_s (by omega))) e (add_s (by omega))) rfl, i, t2, k2 hn⟩
theorem box_loop {s4 s5 s6 s7 s8 : Sl} : ∀ (bx : List Str) (S : Sto) (B : Int) (x : Str) (a : List Str) (l m : Nat) (s9 : Sl), isG S n B → B + bx.length ≤ 900000 → Tx x a l m → m + 11 * bx.length ≤ 5000 → (∀ w ∈ bx, wdS w = true) → isLt l = false → a.length + bx.length < 900 →
    ∃ x' l' c s9', loopD (.one 9) .fz B__law_spaced_7 (bx.map .str) (spE ps n x s4 s5 s6 s7 s8 s9) S = .ok (.nx (spE ps n x' s4 s5 s6 s7 s8 s9')) (S.set n (.lst c)) ∧ isG (S.set n (.lst c)) n (B + bx.length) ∧ Tx x' (a ++ bx) l' (m + 11 * bx.length) ∧ isLt l' = false
  | [], S, B, x, a, l, m, s9, h, _, t, _, _, hl, _ => by
    obtain ⟨c, e, _⟩ := h.set
    refine ⟨x, l, c, s9, by rw [← e]; exact loop_nil rfl, by rw [← e]; exact h.le (by simp), by rw [List.append_nil]; exact t.le (by omega), hl⟩
  | w :: bx, S, B, x, a, l, m, s9, h, hB, t, hm, hw, hl, ha => by
    simp only [List.length_cons] at hB hm ha
    obtain ⟨x1, l1, c1, e1, i1, t1, k1⟩ := box_turn (ps := ps) (s4 := s4) (s5 := s5) (s6 := s6) (s7 := s7) (s8 := s8) h (by omega) t (by omega) (hw w List.mem_cons_self) hl (by omega)
    obtain ⟨x2, l2, c2, s9', e2, i2, t2, k2⟩ := box_loop bx (S.set n (.lst c1)) (B + 1) x1 (a ++ [w]) l1 (m + 11) (.val (.str w)) i1 (by omega) t1 (by omega) (fun z hz => hw z (List.mem_cons_of_mem _ hz)) k1 (by rw [List.length_append, List.length_singleton]; omega)
    rw [List.set_set] at e2 i2
    rw [List.append_assoc] at t2
    exact ⟨x2, l2, c2, s9', (loop_cons (e1 := spE ps n x s4 s5 s6 s7 s8 (.val (.str w))) rfl rfl e1).trans e2, i2.le (by simp only [List.length_cons]; omega), t2.le (by simp only [List.length_cons]; omega), k2⟩
end
end HT.Lk45
set_option maxRecDepth 100000
set_option maxHeartbeats 1000000
namespace HT.Lk45
open PySem PySem.Spec L2 HT.C
open PyProof.Rows hiding St
section
variable {S T : Sto} {ps : List Gp} {g : Gp} {n : Nat} {B : Int} {x y w : Str} {a : List Str} {l m : Nat} {dn : List Gp}
theorem cut_last {α : Type} {f : α → D} {l : List α} {z : α} {V : Sto} : gSl (.lst ((l ++ [z]).map f)) none (some (-1)) V = .ok (.lst (l.map f)) V := by
  show R.ok (D.lst (cutD ((l ++ [z]).map f) none (some (-1)))) V = _
  have e : HT.sIx ((l ++ [z]).map f).length ((l ++ [z]).map f).length (some (-1)) = l.length := by
    show (if (-1 : Int) < 0 then ((-1 : Int) + (((l ++ [z]).map f).length : Int)).toNat else min (-1 : Int).toNat ((l ++ [z]).map f).length) = _
    rw [if_pos (by decide), List.length_map, List.length_append, List.length_singleton]
    omega
  unfold cutD
  rw [e, sIx_none, List.drop_zero, Nat.sub_zero, List.map_append, List.take_append_of_le_length (by rw [List.length_map]; exact Nat.le_refl _), List.take_of_length_le (by rw [List.length_map]; exact Nat.le_refl _)]
theorem cut_lastS {y w : Str} {V : Sto} (hw : w.length = 1) (hl : y.length ≤ 10000) : gSl (.str (y ++ w)) none (some (-1)) V = .ok (.str y) V := by
  have hs : (y ++ w).length = y.length + 1 := by rw [slen, hw]
  show (if (y ++ w).length ≤ sizeLine then R.ok (D.str (cutS (y ++ w) none (some (-1)))) V else .stuck) = _
  rw [if_pos (by rw [sizeLine_eq]; omega)]
  have e : HT.sIx (y ++ w).length (y ++ w).length (some (-1)) = y.length := by
    show (if (-1 : Int) < 0 then ((-1 : Int) + ((y ++ w).length : Int)).toNat else min (-1 : Int).toNat (y ++ w).length) = _
    rw [if_pos (by decide), hs]
    omega
  unfold cutS
  rw [e, sIx_none, List.drop_zero, Nat.sub_zero, cps_app, List.take_append_of_le_length (Nat.le_of_eq (by rfl)), List.take_of_length_le (Nat.le_of_eq (by rfl))]
theorem ix_lastL {α : Type} {f : α → D} {l : List α} {z : α} {V : Sto} : gIx (.lst ((l ++ [z]).map f)) (.int (-1)) V = .ok (f z) V := by
  show (match atI ((l ++ [z]).map f) (-1) with | some d => R.ok d V | none => .stuck) = _
  have e : atI ((l ++ [z]).map f) (-1) = some (f z) := by
    unfold atI
    rw [List.length_map, List.length_append, List.length_singleton, ixN_last]
    simp
  rw [e]
def Fnd (dn : List Gp) (x : Str) (m : Nat) : Prop := (dn = [] ∧ x = "") ∨ (dn ≠ [] ∧ ∃ y l, x = y ++ ("/" : Str) ∧ Tx y (tokP dn) l m)
def stT (dn : List Gp) : List Str := if dn = [] then [] else tokP dn ++ [("/" : Str)]
theorem e47 : ("/" : Str) = s1 47 := by decide +kernel
theorem e58 : (":" : Str) = s1 58 := by decide +kernel
theorem tokP_snoc : ∀ (dn : List Gp) (g : Gp), stT dn ++ toks g = tokP (dn ++ [g])
  | [], g => rfl
  | [h], g => by
    show (toks h ++ [("/" : Str)]) ++ toks g = toks h ++ ("/" : Str) :: toks g
    rw [List.append_assoc]
    rfl
  | h :: h2 :: r, g => by
    have ih := tokP_snoc (h2 :: r) g
    have e : stT (h2 :: r) = tokP (h2 :: r) ++ [("/" : Str)] := if_neg (by simp)
    rw [e] at ih
    show (if (h :: h2 :: r) = [] then [] else tokP (h :: h2 :: r) ++ [("/" : Str)]) ++ toks g = toks h ++ ("/" : Str) :: tokP ((h2 :: r) ++ [g])
    rw [if_neg (by simp), ← ih]
    show ((toks h ++ ("/" : Str) :: tokP (h2 :: r)) ++ [("/" : Str)]) ++ toks g = _
    simp only [List.append_assoc, List.cons_append]
theorem tokP_len : ∀ (dn : List Gp), (∀ g ∈ dn, GpW g) → (tokP dn).length ≤ 10 * dn.length
  | [], _ => Nat.zero_le _
  | [g], h => by
    have := toks_len (h g List.mem_cons_self)
    show (toks g).length ≤ _
    simp only [List.length_cons, List.length_nil]
    omega
  | g :: g2 :: r, h => by
    have a := toks_len (h g List.mem_cons_self)
    have b := tokP_len (g2 :: r) fun x hx => h x (List.mem_cons_of_mem _ hx)
    show (toks g ++ ("/" : Str) :: tokP (g2 :: r)).length ≤ _
    simp only [List.length_append, List.length_cons] at b ⊢
    omega
theorem Fnd.start (h : Fnd dn x m) (hl : (tokP dn).length < 900) : ∃ l, isLt l = false ∧ Tx x (stT dn) l (m + 1) := by
  rcases h with ⟨rfl, rfl⟩ | ⟨hn, y, l, rfl, t⟩
  · exact ⟨32, lt32, rfl, by show 0 ≤ _; omega⟩
  · refine ⟨47, by decide +kernel, ?_⟩
    unfold stT
    rw [if_neg hn]
    exact t.sign e47 (by decide +kernel) (by decide +kernel) (by omega)
theorem group_turn {s8 s9 : Sl} (h : isG S n B) (hB : B ≤ 800000) (f : Fnd dn x m) (hm : m ≤ 2000) (w : GpW g) (hl : (tokP dn).length ≤ 100) :
    ∃ x' c s8' s9', B__law_spaced_10 (spE ps n x (.val (.str g.nm)) (.val (.str g.md)) (.val (.str g.br)) (.val (.lst (g.bx.map .str))) s8 s9) S = .ok (.nx (spE ps n x' (.val (.str g.nm)) (.val (.str g.md)) (.val (.str g.br)) (.val (.lst (g.bx.map .str))) s8' s9')) (S.set n (.lst c)) ∧ isG (S.set n (.lst c)) n (B + 20) ∧ Fnd (dn ++ [g]) x' (m + 120) := by
  obtain ⟨l0, k0, t0⟩ := f.start (by omega)
  have w5 := w.len
  have w1 := w.one
  obtain ⟨pre, z, hbx⟩ : ∃ pre z, g.bx = pre ++ [z] := ⟨g.bx.dropLast, g.bx.getLast (fun e => by rw [e] at w1; exact absurd w1 (by decide)), (List.dropLast_concat_getLast _).symm⟩
  have lp : pre.length ≤ 4 := by rw [hbx, List.length_append, List.length_singleton] at w5; omega
  have sl : (stT dn).length ≤ 101 := by
    unfold stT
    split
    · exact Nat.zero_le _
    · rw [List.length_append, List.length_singleton]; omega
  -- a blank
  obtain ⟨v1, hv1, c1, e1, i1⟩ := blk5 (ps := ps) (x := x) (s4 := .val (.str g.nm)) (s5 := .val (.str g.md)) (s6 := .val (.str g.br)) (s7 := .val (.lst (g.bx.map .str))) (s8 := s8) (s9 := s9) h (by omega)
  obtain ⟨l1, k1, _, t1⟩ := t0.blank hv1
  have k1 := k1 k0
  have b0 := t0.2
  have q1 := t1.2
  rw [slen] at q1
  have f1 : F__law_spaced_1 (spE ps n x (.val (.str g.nm)) (.val (.str g.md)) (.val (.str g.br)) (.val (.lst (g.bx.map .str))) s8 s9) S = .ok (.nx (spE ps n (x ++ v1) (.val (.str g.nm)) (.val (.str g.md)) (.val (.str g.br)) (.val (.lst (g.bx.map .str))) s8 s9)) (S.set n (.lst c1)) :=
    ev_set2 (ev_f2 (ev_var rfl) e1 (add_s (by omega))) rfl
  -- name and mode
  obtain ⟨x2, l2, c2, e2, i2, t2, k2⟩ := word_turn (ps := ps) (w := g.nm) (s4 := .val (.str g.nm)) (s5 := .val (.str g.md)) (s6 := .val (.str g.br)) (s7 := .val (.lst (g.bx.map .str))) (s9 := s9) i1 (by omega) t1 (by omega) w.nm k1 (by omega)
  rw [List.set_set] at e2 i2
  obtain ⟨x3, l3, c3, e3, i3, t3, k3⟩ := word_turn (ps := ps) (w := g.md) (s4 := .val (.str g.nm)) (s5 := .val (.str g.md)) (s6 := .val (.str g.br)) (s7 := .val (.lst (g.bx.map .str))) (s9 := s9) i2 (by omega) t2 (by omega) w.md k2 (by rw [List.length_append, List.length_singleton]; omega)
  rw [List.set_set] at e3 i3
  have f4 : F__law_spaced_4 (spE ps n (x ++ v1) (.val (.str g.nm)) (.val (.str g.md)) (.val (.str g.br)) (.val (.lst (g.bx.map .str))) s8 s9) (S.set n (.lst c1)) = .ok (.nx (spE ps n x3 (.val (.str g.nm)) (.val (.str g.md)) (.val (.str g.br)) (.val (.lst (g.bx.map .str))) (.val (.str g.md)) s9)) (S.set n (.lst c3)) :=
    ev_for (ev_seqL (ds := [.str g.nm, .str g.md]) (ev_frzL (l := [.str g.nm, .str g.md]) (ev_lst (ev_cons (ev_var rfl) (ev_cons (ev_var rfl) ev_nil))))) rfl ((loop_cons (e1 := spE ps n (x ++ v1) (.val (.str g.nm)) (.val (.str g.md)) (.val (.str g.br)) (.val (.lst (g.bx.map .str))) (.val (.str g.nm)) s9) rfl rfl e2).trans ((loop_cons (e1 := spE ps n x2 (.val (.str g.nm)) (.val (.str g.md)) (.val (.str g.br)) (.val (.lst (g.bx.map .str))) (.val (.str g.md)) s9) rfl rfl e3).trans (loop_nil rfl)))
  -- bears : 
  obtain ⟨l4, h4, t4⟩ := t3.word w.br k3 (by simp only [List.length_append, List.length_singleton]; omega)
  obtain ⟨v5, hv5, c5, e5, i5⟩ := blk5 (ps := ps) (x := x3) (s4 := .val (.str g.nm)) (s5 := .val (.str g.md)) (s6 := .val (.str g.br)) (s7 := .val (.lst (g.bx.map .str))) (s8 := .val (.str g.md)) (s9 := s9) i3 (by omega)
  rw [List.set_set] at e5 i5
  obtain ⟨l5, _, _, t5⟩ := t4.blank hv5
  have t6 := t5.sign e58 (by decide +kernel) (by decide +kernel) (by simp only [List.length_append, List.length_singleton]; omega)
  obtain ⟨v7, hv7, c7, e7, i7⟩ := blk5 (ps := ps) (x := x3) (s4 := .val (.str g.nm)) (s5 := .val (.str g.md)) (s6 := .val (.str g.br)) (s7 := .val (.lst (g.bx.map .str))) (s8 := .val (.str g.md)) (s9 := s9) i5 (by omega)
  rw [List.set_set] at e7 i7
  obtain ⟨l7, k7, _, t7⟩ := t6.blank hv7
  have k7 := k7 (by decide +kernel)
  have q3 := t3.2
  have q4 := t4.2
  have q5 := t5.2
  have q6 := t6.2
  have q7 := t7.2
  simp only [slen] at q4 q5 q6 q7
  have f5 : F__law_spaced_5 (spE ps n x3 (.val (.str g.nm)) (.val (.str g.md)) (.val (.str g.br)) (.val (.lst (g.bx.map .str))) (.val (.str g.md)) s9) (S.set n (.lst c3)) = .ok (.nx (spE ps n (x3 ++ g.br ++ v5 ++ (":" : Str) ++ v7) (.val (.str g.nm)) (.val (.str g.md)) (.val (.str g.br)) (.val (.lst (g.bx.map .str))) (.val (.str g.md)) s9)) (S.set n (.lst c7)) :=
    ev_set2 (ev_f2 (ev_f2 (ev_f2 (ev_f2 (ev_var rfl) (ev_var rfl) (add_s (by omega))) e5 (add_s (by simp only [slen]; omega))) ev_c (add_s (by simp only [slen]; omega))) e7 (add_s (by simp only [slen]; omega))) rfl
  -- the boxes but the last
  obtain ⟨x8, l8, c8, s9', e8, i8, t8, k8⟩ := box_loop (ps := ps) (n := n) (s4 := .val (.str g.nm)) (s5 := .val (.str g.md)) (s6 := .val (.str g.br)) (s7 := .val (.lst (g.bx.map .str))) (s8 := .val (.str g.md)) pre (S.set n (.lst c7)) _ _ _ _ _ s9 i7 (by omega) t7 (by omega) (fun b hb => w.bx b (by rw [hbx]; exact List.mem_append_left _ hb)) k7 (by simp only [List.length_append, List.length_singleton]; omega)
  rw [List.set_set] at e8 i8
  have f8 : F__law_spaced_8 (spE ps n (x3 ++ g.br ++ v5 ++ (":" : Str) ++ v7) (.val (.str g.nm)) (.val (.str g.md)) (.val (.str g.br)) (.val (.lst (g.bx.map .str))) (.val (.str g.md)) s9) (S.set n (.lst c7)) = .ok (.nx (spE ps n x8 (.val (.str g.nm)) (.val (.str g.md)) (.val (.str g.br)) (.val (.lst (g.bx.map .str))) (.val (.str g.md)) s9')) (S.set n (.lst c8)) := by
    refine ev_for (ev_seqL (ds := pre.map .str) (ev_f3 (d := .lst (g.bx.map .str)) (l := none) (h := some (-1)) (ev_var rfl) rfl rfl ?_)) rfl e8
    rw [hbx]
    exact cut_last
  -- the last
  obtain ⟨l9, h9, t9⟩ := t8.word (w.bx z (by rw [hbx]; simp)) k8 (by simp only [List.length_append, List.length_singleton]; omega)
  obtain ⟨v9, hv9, c9, e9, i9⟩ := blk5 (ps := ps) (x := x8) (s4 := .val (.str g.nm)) (s5 := .val (.str g.md)) (s6 := .val (.str g.br)) (s7 := .val (.lst (g.bx.map .str))) (s8 := .val (.str g.md)) (s9 := s9') i8 (by omega)
  rw [List.set_set] at e9 i9
  obtain ⟨l10, _, _, t10⟩ := t9.blank hv9
  have q8 := t8.2
  have q9 := t9.2
  have q10 := t10.2
  simp only [slen] at q9 q10
  have lx : gIx (.lst (g.bx.map .str)) (.int (-1)) (S.set n (.lst c8)) = .ok (.str z) (S.set n (.lst c8)) := by rw [hbx]; exact ix_lastL
  have f9 : F__law_spaced_9 (spE ps n x8 (.val (.str g.nm)) (.val (.str g.md)) (.val (.str g.br)) (.val (.lst (g.bx.map .str))) (.val (.str g.md)) s9') (S.set n (.lst c8)) = .ok (.nx (spE ps n (x8 ++ z ++ v9 ++ ("/" : Str)) (.val (.str g.nm)) (.val (.str g.md)) (.val (.str g.br)) (.val (.lst (g.bx.map .str))) (.val (.str g.md)) s9')) (S.set n (.lst c9)) := by
    have l1 : ("/" : Str).length = 1 := by decide +kernel
    exact ev_set2 (ev_f2 (ev_f2 (ev_f2 (ev_var rfl) (ev_f2 (ev_var rfl) rfl lx) (add_s (by omega))) e9 (add_s (by simp only [slen]; omega))) ev_c (add_s (by simp only [slen]; omega))) rfl
  refine ⟨_, c9, _, _, ev_seq f1 (ev_seq f4 (ev_seq f5 (ev_seq f8 f9))), i9.le (by omega), .inr ⟨by simp, _, l10, rfl, ?_⟩⟩
  have tk : stT dn ++ [g.nm] ++ [g.md] ++ [g.br] ++ [(":" : Str)] ++ pre ++ [z] = tokP (dn ++ [g]) := by
    rw [← tokP_snoc]
    show _ = stT dn ++ (g.nm :: g.md :: g.br :: (":" : Str) :: g.bx)
    rw [hbx]
    simp only [List.append_assoc, List.cons_append, List.nil_append]
  rw [tk] at t10
  exact t10.le (by omega)
theorem group_loop {s : List Gp} : ∀ (r dn : List Gp) (S : Sto) (B : Int) (x : Str) (m : Nat) (s4 s5 s6 s7 s8 s9 : Sl), isG S n B → B + 20 * r.length ≤ 800000 → Fnd dn x m → m + 120 * r.length ≤ 2000 → (∀ g ∈ dn ++ r, GpW g) → (dn ++ r).length ≤ 9 →
    ∃ x' c e', loopD (.many [4, 5, 6, 7]) .fz B__law_spaced_10 (r.map itF) (spE ps n x s4 s5 s6 s7 s8 s9) S = .ok (.nx e') (S.set n (.lst c)) ∧ isG (S.set n (.lst c)) n (B + 20 * r.length) ∧ Fnd (dn ++ r) x' (m + 120 * r.length) ∧ ∃ a4 a5 a6 a7 a8 a9, e' = spE ps n x' a4 a5 a6 a7 a8 a9
  | [], dn, S, B, x, m, s4, s5, s6, s7, s8, s9, h, _, f, _, _, _ => by
    obtain ⟨c, e, _⟩ := h.set
    exact ⟨x, c, _, by rw [← e]; exact loop_nil rfl, by rw [← e]; exact h.le (by simp), by rw [List.append_nil]; exact f, _, _, _, _, _, _, rfl⟩
  | g :: r, dn, S, B, x, m, s4, s5, s6, s7, s8, s9, h, hB, f, hm, hw, hl => by
    simp only [List.length_cons] at hB hm
    rw [List.length_append, List.length_cons] at hl
    have tl := tokP_len dn fun z hz => hw z (List.mem_append_left _ hz)
    obtain ⟨x1, c1, a8, a9, e1, i1, f1⟩ := group_turn (ps := ps) (s8 := s8) (s9 := s9) h (by omega) f (by omega) (hw g (List.mem_append_right _ List.mem_cons_self)) (by omega)
    obtain ⟨x2, c2, e', e2, i2, f2, he⟩ := group_loop (s := s) r (dn ++ [g]) (S.set n (.lst c1)) (B + 20) x1 (m + 120) _ _ _ _ a8 a9 i1 (by omega) f1 (by omega) (by rw [List.append_assoc]; exact hw) (by rw [List.append_assoc, List.length_append]; simp only [List.length_cons, List.length_append, List.length_nil]; omega)
    rw [List.set_set] at e2 i2
    rw [List.append_assoc] at f2
    refine ⟨x2, c2, e', (loop_cons (e1 := spE ps n x (.val (.str g.nm)) (.val (.str g.md)) (.val (.str g.br)) (.val (.lst (g.bx.map .str))) s8 s9) rfl rfl e1).trans e2, i2.le (by simp only [List.length_cons]; omega), ?_, he⟩
    rcases f2 with q | ⟨q1, y, l, q2, t⟩
    · exact .inl q
    · exact .inr ⟨q1, y, l, q2, t.le (by simp only [List.length_cons]; omega)⟩
theorem spaced_ok (h : isG S n B) (hB : B ≤ 700000) (ok : PsOk ps) : ∃ x c l, N__law_spaced [.cell n, .lst (ps.map itF)] S = .ok (.str x) (S.set n (.lst c)) ∧ isG (S.set n (.lst c)) n (B + 100) ∧ Run x.cps.toList [] (tokP ps) 32 l := by
  have l4 := ok.len
  have ne : ps ≠ [] := fun e => by have := ok.one; rw [e] at this; exact absurd this (by decide)
  obtain ⟨x1, c1, e', e1, i1, f1, a4, a5, a6, a7, a8, a9, he⟩ := group_loop (ps := ps) (n := n) (s := []) ps [] S B "" 0 .un .un .un .un .un .un h (by omega) (.inl ⟨rfl, rfl⟩) (by omega) (fun g hg => (ok.grp g (by simpa using hg)).w) (by simp only [List.nil_append]; omega)
  subst he
  rw [List.nil_append] at f1
  rcases f1 with ⟨q, _⟩ | ⟨_, y, l, rfl, t⟩
  · exact absurd q ne
  obtain ⟨v, hv, c2, e2, i2⟩ := blk5 (ps := ps) (x := y ++ ("/" : Str)) (s4 := a4) (s5 := a5) (s6 := a6) (s7 := a7) (s8 := a8) (s9 := a9) i1 (by omega)
  rw [List.set_set] at e2 i2
  obtain ⟨l2, _, _, t2⟩ := t.blank hv
  have q0 := t.2
  have q2 := t2.2
  rw [slen] at q2
  have raw : M__law_spaced [.cell n, .lst (ps.map itF)] S = .ok (.str (y ++ v)) (S.set n (.lst c2)) := by
    refine mk_rt (env := [.val (.cell n), .val (.lst (ps.map itF)), .un, .un, .un, .un, .un, .un, .un, .un]) rfl rfl (ev_seq (ev_par (ev_cons (ev_frzL (l := blW.map .str) (ev_lst (ev_cons ev_c (ev_cons ev_c (ev_cons ev_c (ev_cons ev_c (ev_cons ev_c ev_nil))))))) (ev_cons ev_c ev_nil)) rfl) (ev_seq (ev_for (ev_seqL (ds := ps.map itF) (ev_var rfl)) rfl e1) (ev_ret ?_)))
    exact ev_f2 (ev_f3 (d := .str (y ++ ("/" : Str))) (l := none) (h := some (-1)) (ev_var rfl) rfl rfl (cut_lastS (by decide +kernel) (by omega))) e2 (add_s (by omega))
  exact ⟨y ++ v, c2, l2, mlt_same raw List.length_set, i2.le (by omega), t2.1⟩
end
end HT.Lk45
set_option maxRecDepth 100000
set_option maxHeartbeats 1000000
namespace HT.Lk45
open PySem PySem.Spec L2 HT.C
open PyProof.Rows hiding St
section
variable {S : Sto} {ps : List Gp} {g : Gp} {a : List Str} {l : Nat}
abbrev rY (l : List Nat) : List Nat := StrLaws.replL [32, 47, 32] [47] l
def Gd (xs : List Nat) : Prop := (∀ c ∈ xs, c ≠ 47) ∧ ∃ c, xs.getLast? = some c ∧ c ≠ 32
theorem gd_skip : ∀ (xs rest : List Nat), Gd xs → rY (xs ++ rest) = xs ++ rY rest
  | [], rest, _ => rfl
  | [c], rest, h => by
    have hc : c ≠ 32 := by
      obtain ⟨d, h1, h2⟩ := h.2
      cases h1
      exact h2
    show StrLaws.replL _ _ (c :: rest) = c :: rY rest
    exact StrLaws.replL_miss fun e => hc (List.cons.inj (show c :: rest.take 2 = [32, 47, 32] from e)).1
  | c :: d :: xs, rest, h => by
    have ih := gd_skip (d :: xs) rest ⟨fun z hz => h.1 z (List.mem_cons_of_mem _ hz), by
      obtain ⟨e, h1, h2⟩ := h.2
      exact ⟨e, by rw [List.getLast?_cons_cons] at h1; exact h1, h2⟩⟩
    show StrLaws.replL _ _ (c :: (d :: xs ++ rest)) = c :: (d :: xs ++ rY rest)
    rw [← ih]
    exact StrLaws.replL_miss fun e => h.1 d (by simp) (List.cons.inj (List.cons.inj (show c :: d :: (xs ++ rest).take 1 = [32, 47, 32] from e)).2).1
theorem Gd.app {xs ys : List Nat} (h : ∀ c ∈ xs, c ≠ 47) (hy : Gd ys) : Gd (xs ++ ys) := by
  obtain ⟨h1, c, h2, h3⟩ := hy
  refine ⟨fun z hz => ?_, c, ?_, h3⟩
  · rcases List.mem_append.mp hz with q | q
    · exact h z q
    · exact h1 z q
  · rw [List.getLast?_append, h2]
    rfl
theorem let_ne {c : Nat} (h : isLt c = true) : c ≠ 47 ∧ c ≠ 32 := ⟨fun e => by rw [e] at h; exact absurd h (by decide +kernel), fun e => by rw [e] at h; exact absurd h (by decide +kernel)⟩
theorem wd_gd {w : Str} (h : wdS w = true) : Gd w.cps.toList := by
  have hl := wd_let h
  refine ⟨fun c hc => (let_ne (hl c hc)).1, ?_⟩
  obtain ⟨c, hc⟩ : ∃ c, w.cps.toList.getLast? = some c := ⟨_, List.getLast?_eq_getLast (wd_ne h)⟩
  exact ⟨c, hc, (let_ne (hl c (List.mem_of_getLast? hc))).2⟩
theorem bx_gd : ∀ (bx : List Str), bx ≠ [] → (∀ x ∈ bx, wdS x = true) → Gd (Txt.join " " bx).cps.toList
  | [], h, _ => absurd rfl h
  | [x], _, hx => by rw [cps_join1]; exact wd_gd (hx x List.mem_cons_self)
  | x :: y :: r, _, hx => by
    rw [cps_join]
    refine Gd.app (wd_gd (hx x List.mem_cons_self)).1 (Gd.app ?_ (bx_gd (y :: r) (by simp) fun z hz => hx z (List.mem_cons_of_mem _ hz)))
    decide +kernel
theorem gtx_gd (w : GpW g) : Gd (gtx g).cps.toList := by
  rw [← gtx_eq]
  simp only [cps_app, List.append_assoc]
  refine Gd.app (wd_gd w.nm).1 (Gd.app (by decide +kernel) (Gd.app (wd_gd w.md).1 (Gd.app (by decide +kernel) (Gd.app (wd_gd w.br).1 (Gd.app (by decide +kernel) (bx_gd g.bx (fun e => ?_) w.bx))))))
  have := w.one
  rw [e] at this
  exact absurd this (by decide)
theorem run_rep : ∀ (ps : List Gp) (a : List Str) (l : Nat), ps ≠ [] → (∀ g ∈ ps, GpW g) → isLt l = false → a.length + 10 * ps.length < 700 → ∃ l', Run (rY (ptx ps).cps.toList) a (a ++ tokP ps) l l'
  | [], _, _, h, _, _, _ => absurd rfl h
  | [g], a, l, _, hg, hl, ha => by
    have w := hg g List.mem_cons_self
    obtain ⟨l', _, q⟩ := run_group w hl (a := a) (by simp at ha; omega)
    refine ⟨l', ?_⟩
    have e := gd_skip (gtx g).cps.toList [] (gtx_gd w)
    rw [List.append_nil, show rY [] = [] from StrLaws.replL_nil, List.append_nil] at e
    rw [show ptx [g] = gtx g from cps_join1 _ _, e]
    exact q
  | g :: g2 :: r, a, l, _, hg, hl, ha => by
    simp only [List.length_cons] at ha
    have w := hg g List.mem_cons_self
    have n5 := w.len
    obtain ⟨l1, h1, q1⟩ := run_group w hl (a := a) (by omega)
    have tl : (toks g).length ≤ 9 := by show g.bx.length + 1 + 1 + 1 + 1 ≤ 9; omega
    have b2 := run_sign (c := 47) (by decide +kernel) (by decide +kernel) (a := a ++ toks g) (l := l1) (by rw [List.length_append]; omega)
    rw [← e47] at b2
    obtain ⟨l', q2⟩ := run_rep (g2 :: r) (a ++ toks g ++ [("/" : Str)]) 47 (by simp) (fun z hz => hg z (List.mem_cons_of_mem _ hz)) (by decide +kernel) (by simp only [List.length_append, List.length_cons, List.length_nil]; omega)
    refine ⟨l', ?_⟩
    have q := q1.app (b2.app q2)
    have e1 : rY (ptx (g :: g2 :: r)).cps.toList = (gtx g).cps.toList ++ ([47] ++ rY (ptx (g2 :: r)).cps.toList) := by
      have es : (" / " : Str).cps.toList = [32, 47, 32] := by decide +kernel
      rw [show (ptx (g :: g2 :: r)).cps.toList = _ from cps_join _ _ _ _, es]
      refine (gd_skip _ _ (gtx_gd w)).trans ?_
      congr 1
    rw [e1]
    have e2 : a ++ toks g ++ [("/" : Str)] ++ tokP (g2 :: r) = a ++ tokP (g :: g2 :: r) := by
      simp only [List.append_assoc]
      rfl
    rw [e2] at q
    exact q
theorem ptx_len (ok : PsOk ps) : (ptx ps).length ≤ 420 := by
  have l4 := ok.len
  have h1 := join_len (s := " / ") (l := ps.map gtx)
  have h2 := sum_le (n := 100) (l := ps.map gtx) fun x hx => by
    obtain ⟨g, hg, rfl⟩ := List.mem_map.mp hx
    exact gtx_len (ok.grp g hg).w
  rw [List.length_map] at h1 h2
  have s2 : (" / " : Str).length = 3 := by decide +kernel
  rw [s2] at h1
  unfold ptx
  omega
theorem repl_ok (ok : PsOk ps) : gRepl " / " "/" (.str (ptx ps)) S = .ok (.str (Txt.replace (ptx ps) " / " "/")) S := by
  have l := ptx_len ok
  have s1 : ("/" : Str).length = 1 := by decide +kernel
  show (if (ptx ps).length + ((ptx ps).length + 1) * ("/" : Str).length ≤ 16777216 then R.ok (D.str _) S else .stuck) = _
  exact if_pos (by rw [s1]; omega)
theorem repl_tok (ok : PsOk ps) : ∃ l, Run (Txt.replace (ptx ps) " / " "/").cps.toList [] (tokP ps) 32 l := by
  have l4 := ok.len
  have e : (Txt.replace (ptx ps) " / " "/").cps.toList = rY (ptx ps).cps.toList := StrLaws.replace_list (by decide +kernel)
  rw [e]
  exact run_rep ps [] 32 (fun e => by have := ok.one; rw [e] at this; exact absurd this (by decide)) (fun g hg => (ok.grp g hg).w) lt32 (by show 0 + 10 * ps.length < 700; omega)
theorem gs_ok {x : Str} (h : goodS x = true) : PyData.strOk x = true := by
  have := goodS_lay h
  simpa only [PyData.canLay0] using this
theorem gtx_str (s : GpS g) : PyData.strOk (gtx g) = true := by
  rw [← gtx_eq]
  refine ok_app (ok_app (ok_app (ok_app (ok_app (ok_app (gs_ok s.nm) (by decide +kernel)) (gs_ok s.md)) (by decide +kernel)) (gs_ok s.br)) (by decide +kernel)) ?_
  rw [show Txt.join " " g.bx = Str.join " " g.bx from StrLaws.glued_eq_join _ _]
  exact ok_join (by decide +kernel) fun t ht => gs_ok (s.bx t ht)
theorem ptx_lay (ok : PsOk ps) : PyData.canLay0 (.str (ptx ps)) = true := by
  have h : PyData.strOk (ptx ps) = true := by
    unfold ptx
    rw [show Txt.join " / " (ps.map gtx) = Str.join " / " (ps.map gtx) from StrLaws.glued_eq_join _ _]
    refine ok_join (by decide +kernel) fun t ht => ?_
    obtain ⟨g, hg, rfl⟩ := List.mem_map.mp ht
    exact gtx_str (ok.s g hg)
  simp only [PyData.canLay0, h]
theorem txt_eq (ok : PsOk ps) (neg : Bool) : gEq neg (.str (ptx ps)) (.str (ptx ps)) S = .ok (.bl (!neg)) S := by
  have h := ptx_lay ok
  exact eq_same (p := .str (ptx ps)) rfl rfl (by simp only [SeqAt.shaped, h, Bool.true_and]; simp [PyData.depth]) h
end
end HT.Lk45
set_option maxRecDepth 100000
set_option maxHeartbeats 1000000
namespace HT.Lk45
open PySem PySem.Spec L2 HT.C
open PyProof.Rows hiding St
section
variable {S : Sto} {ps : List Gp} {g : Gp} {x : D} {t : Ty} {p : PyData} {ns : List Int} {i : Nat} {s6 s7 s8 s9 s10 s11 : Sl}
abbrev tE (ns : List Int) (i : Nat) (ps : List Gp) (s6 s7 s8 s9 s10 s11 : Sl) : Env := [.val (.klst (ns.map .int)), .val (.int i), .val (.cell 0), .val (.lst (ps.map itF)), .val (shopD ps), .val (.str (ptx ps)), s6, s7, s8, s9, s10, s11]
theorem text_no (hc : clD x = true) (ht : tyD [] x = some t) (hb : is_Shop t = some false) : N_text_of [x] S = .exc "InvalidShop" [("value", x)] S := by
  refine frm_exc (by show (clD x && true) = true; rw [hc]; rfl) ?_
  exact mk_xc (env := [.val x, .un, .un, .un, .un]) (e' := [.val x, .un, .un, .un, .un]) rfl rfl (seq_xc (ev_expr_xc (ev_call (ev_cons (ev_var rfl) ev_nil) (frm_exc (by show (clD x && true) = true; rw [hc]; rfl) (chk_shop_no ht hb)))))
theorem bad_turn (hc : clD x = true) (ht : tyD [] x = some t) (hb : is_Shop t = some false) (hp : Shw p) (hq : deepq S x = some p) : B_law_16 (tE ns i ps s6 s7 (.val x) s9 s10 s11) S = .ok (.nx (tE ns i ps s6 s7 (.val x) (.val (.exn "InvalidShop" [("value", x)])) .un s11)) S := by
  have e0 : F_law_10 (tE ns i ps s6 s7 (.val x) s9 s10 s11) S = .ok (.nx (tE ns i ps s6 s7 (.val x) (.val .non) s10 s11)) S := ev_set2 ev_c rfl
  have e1 : F_law_11 (tE ns i ps s6 s7 (.val x) (.val .non) s10 s11) S = .ok (.xc (tE ns i ps s6 s7 (.val x) (.val .non) s10 s11) "InvalidShop" [("value", x)]) S := ev_expr_xc (ev_call (ev_cons (ev_var rfl) ev_nil) (text_no hc ht hb))
  have e2 : F_law_13 (tE ns i ps s6 s7 (.val x) (.val .non) s10 s11) S = .ok (.nx (tE ns i ps s6 s7 (.val x) (.val (.exn "InvalidShop" [("value", x)])) .un s11)) S := by
    unfold F_law_13 sTry
    rw [e1]
    dsimp only
    rw [show xt_InvalidShop "InvalidShop" = some true by decide +kernel]
    rfl
  have xf : fXf xf_value "value" (fVar 9) (tE ns i ps s6 s7 (.val x) (.val (.exn "InvalidShop" [("value", x)])) .un s11) S = .ok x S := rfl
  have e3 : F_law_15 (tE ns i ps s6 s7 (.val x) (.val (.exn "InvalidShop" [("value", x)])) .un s11) S = .ok (.nx (tE ns i ps s6 s7 (.val x) (.val (.exn "InvalidShop" [("value", x)])) .un s11)) S :=
    ev_skip (ev_orT_f (ev_fB (ev_f2 (ev_var rfl) ev_c rfl)) (ev_fB (ev_f2 (ev_args (ev_cons xf ev_nil) (shw_repr hq hp)) (ev_args (ev_cons (ev_var rfl) ev_nil) (shw_repr hq hp)) (shw_eq (neg := true) hp))))
  exact ev_seq e0 (ev_seq e2 e3)
structure Bad (S : Sto) (x : D) : Prop where
  cl : clD x = true
  ty : ∃ t, tyD [] x = some t ∧ is_Shop t = some false
  sh : ∃ p, Shw p ∧ deepq S x = some p
theorem bad_told (h : toldB x = true) (ht : tyD [] x = some t) (hb : is_Shop t = some false) : Bad S x := by
  obtain ⟨h1, p, h2, h3⟩ := toldB_ok h
  exact ⟨h1, ⟨t, ht, hb⟩, p, h2, h3 S⟩
theorem bad_its (ok : PsOk ps) : Bad S (.lst (ps.map itF)) := by
  have l4 := ok.len
  exact ⟨cl_its ps, ⟨_, rfl, rfl⟩, _, (finePs ok.s (by omega)).shw (by omega), deepq_ps S ps⟩
theorem bad_loop : ∀ (l : List D) (s8 s9 s10 : Sl), (∀ x ∈ l, Bad S x) → ClS s8 → ClS s9 → ClS s10 → ∃ s8' s9' s10', loopD (.one 8) .fz B_law_16 l (tE ns i ps s6 s7 s8 s9 s10 s11) S = .ok (.nx (tE ns i ps s6 s7 s8' s9' s10' s11)) S ∧ ClS s8' ∧ ClS s9' ∧ ClS s10'
  | [], s8, s9, s10, _, h8, h9, h10 => ⟨s8, s9, s10, loop_nil rfl, h8, h9, h10⟩
  | x :: l, s8, s9, s10, h, h8, h9, h10 => by
    obtain ⟨hc, ⟨t, ht, hb⟩, p, hp, hq⟩ := h x List.mem_cons_self
    obtain ⟨a, b, c, e, ha, hb', hc'⟩ := bad_loop l (.val x) (.val (.exn "InvalidShop" [("value", x)])) .un (fun y hy => h y (List.mem_cons_of_mem _ hy)) hc (by show (clD x && true) = true; rw [hc]; rfl) trivial
    exact ⟨a, b, c, (loop_cons (e1 := tE ns i ps s6 s7 (.val x) s9 s10 s11) rfl rfl (bad_turn hc ht hb hp hq)).trans e, ha, hb', hc'⟩
theorem read_turn {x : Str} (ok : PsOk ps) (hx : ∀ S, N_tokens_of [.str x] S = .ok (.lst ((tokP ps).map .str)) S) : B_law_8 (tE ns i ps (.val (.str x)) s7 s8 s9 s10 s11) S = .ok (.nx (tE ns i ps (.val (.str x)) (.val (shopD ps)) s8 s9 s10 s11)) S :=
  ev_seq (ev_set2 (ev_call (ev_cons (ev_var rfl) ev_nil) (read_tok ok hx)) rfl) (ev_skip (ev_orT_f (ev_notT (b := true) (ev_fB (ev_args (ev_cons (ev_var rfl) (ev_cons ev_c ev_nil)) (shop_is ps S))))
    (ev_orT_f (ev_fB (ev_f2 (ev_var rfl) (ev_var rfl) (shop_eqO (neg := true) ok.s ok.s true ⟨fun _ => rfl, fun _ => rfl⟩))) (ev_fB (ev_f2 (ev_call (ev_cons (ev_var rfl) ev_nil) (text_ok ok)) (ev_var rfl) (txt_eq ok true))))))
theorem read_loop (ok : PsOk ps) : ∀ (l : List Str) (s6 s7 : Sl), (∀ x ∈ l, ∀ S, N_tokens_of [.str x] S = .ok (.lst ((tokP ps).map .str)) S) → ClS s6 → ClS s7 → ∃ s6' s7', loopD (.one 6) .fz B_law_8 (l.map .str) (tE ns i ps s6 s7 s8 s9 s10 s11) S = .ok (.nx (tE ns i ps s6' s7' s8 s9 s10 s11)) S ∧ ClS s6' ∧ ClS s7'
  | [], s6, s7, _, h6, h7 => ⟨s6, s7, loop_nil rfl, h6, h7⟩
  | x :: l, s6, s7, h, h6, h7 => by
    obtain ⟨a, b, e, ha, hb⟩ := read_loop ok l (.val (.str x)) (.val (shopD ps)) (fun y hy => h y (List.mem_cons_of_mem _ hy)) rfl (cl_shop ps)
    exact ⟨a, b, (loop_cons (e1 := tE ns i ps (.val (.str x)) s7 s8 s9 s10 s11) rfl rfl (read_turn ok (h x List.mem_cons_self))).trans e, ha, hb⟩
end
end HT.Lk45
set_option maxRecDepth 100000
set_option maxHeartbeats 1000000
namespace HT.Lk45
open PySem PySem.Spec L2 HT.C
open PyProof.Rows hiding St
section
variable {S : Sto} {ps : List Gp} {g : Gp} {x : D} {ns : List Int} {i : Nat}
abbrev bads (ps : List Gp) : List D := [.non, .int 3, .lst [], .lst (ps.map itF), .str "hue or one: a", .dK [], .bl true, .lst (ps.map itF)]
theorem bads_bad (ok : PsOk ps) : ∀ x ∈ bads ps, Bad S x := fun x hx => by
  simp only [bads, List.mem_cons, List.not_mem_nil, or_false] at hx
  rcases hx with rfl | rfl | rfl | rfl | rfl | rfl | rfl | rfl
  · exact bad_told (by decide +kernel) rfl rfl
  · exact bad_told (by decide +kernel) rfl rfl
  · exact bad_told (by decide +kernel) rfl rfl
  · exact bad_its ok
  · exact bad_told (by decide +kernel) rfl rfl
  · exact bad_told (by decide +kernel) rfl rfl
  · exact bad_told (by decide +kernel) rfl rfl
  · exact bad_its ok
theorem seqL_ev {F : FE} {env : Env} {S S1 : Sto} {l : List D} (h : F env S = .ok (.lst l) S1) : iSeqL F env S = .ok (l, .fz) S1 := by
  unfold iSeqL
  rw [h]
  rfl
theorem turn {s2 s3 s4 s5 s6 s7 s8 s9 s10 s11 : Sl} (hi : i < 100) (h6 : ClS s6) (h7 : ClS s7) (h8 : ClS s8) (h9 : ClS s9) (h10 : ClS s10) (h11 : ClS s11) :
    ∃ s2' s3' s4' s5' s6' s7' s8' s9' s10' s11', B_law_18 [.val (.klst (ns.map .int)), .val (.int i), s2, s3, s4, s5, s6, s7, s8, s9, s10, s11] [] = .ok (.nx [.val (.klst (ns.map .int)), .val (.int i), s2', s3', s4', s5', s6', s7', s8', s9', s10', s11']) [] ∧ ClS s6' ∧ ClS s7' ∧ ClS s8' ∧ ClS s9' ∧ ClS s10' ∧ ClS s11' := by
  obtain ⟨g0, e0, G0⟩ := gen_ok ns i hi []
  have e0' : M__law_generator [.klst (ns.map .int), .int i] [] = .ok (.cell 0) [.lst g0] := e0
  have G0' : isG [.lst g0] 0 (1000 * i) := G0
  obtain ⟨y, g1, er, by1, G1, _⟩ := rnd_ok (n := 4) G0' (by omega) (by decide)
  obtain ⟨M, hM⟩ : ∃ M : Nat, (M : Int) = 1 + y := ⟨(1 + y).toNat, by omega⟩
  obtain ⟨g2, ps, ep, G2, ok, pl, _⟩ := parts_okm (M := M) (mo := 5) G1 (by omega) (by omega) (by decide)
  have l4 := ok.len
  have er' : N__law_random [.cell 0, .int 4] [.lst g0] = .ok (.int y) [.lst g1] := er
  have ep' : N__law_parts [.cell 0, .int (M : Nat), .int 5] [.lst g1] = .ok (.lst (ps.map itF)) [.lst g2] := ep
  obtain ⟨x1, c1, l1, w1, G3, r1⟩ := spaced_ok G2 (by omega) ok
  obtain ⟨x2, c2, l2, w2, G4, r2⟩ := spaced_ok G3 (by omega) ok
  obtain ⟨l3, r3⟩ := repl_tok ok
  have w1' : N__law_spaced [.cell 0, .lst (ps.map itF)] [.lst g2] = .ok (.str x1) [.lst c1] := w1
  have w2' : N__law_spaced [.cell 0, .lst (ps.map itF)] [.lst c1] = .ok (.str x2) [.lst c2] := w2
  have cc : clL c2 = true := by
    obtain ⟨q0, q1, q2, hq, _⟩ := G4
    have hq' : some (CO.lst c2) = some (CO.lst [.int q0, .int q1, .int q2]) := hq
    cases hq'
    rfl
  have f0 : F_law_0 [.val (.klst (ns.map .int)), .val (.int i), s2, s3, s4, s5, s6, s7, s8, s9, s10, s11] [] = .ok (.nx [.val (.klst (ns.map .int)), .val (.int i), .val (.cell 0), s3, s4, s5, s6, s7, s8, s9, s10, s11]) [.lst g0] := ev_set2 (ev_call (ev_cons (ev_var rfl) (ev_cons (ev_var rfl) ev_nil)) e0') rfl
  have f1 : F_law_1 [.val (.klst (ns.map .int)), .val (.int i), .val (.cell 0), s3, s4, s5, s6, s7, s8, s9, s10, s11] [.lst g0] = .ok (.nx [.val (.klst (ns.map .int)), .val (.int i), .val (.cell 0), .val (.lst (ps.map itF)), s4, s5, s6, s7, s8, s9, s10, s11]) [.lst g2] := by
    refine ev_set2 (ev_call (ev_cons (ev_var rfl) (ev_cons (ev_f2 (Fa := fun _ => pure (.int 1)) ev_c (ev_call (ev_cons (ev_var rfl) (ev_cons ev_c ev_nil)) er') ?_) (ev_cons ev_c ev_nil))) ep') rfl
    rw [HT.C.add_ok, hM]
  have f2' : F_law_2 [.val (.klst (ns.map .int)), .val (.int i), .val (.cell 0), .val (.lst (ps.map itF)), s4, s5, s6, s7, s8, s9, s10, s11] [.lst g2] = .ok (.nx (tE ns i ps s6 s7 s8 s9 s10 s11)) [.lst g2] :=
    ev_par (ev_cons (ev_shop (ev_call (ev_cons (ev_var rfl) ev_nil) (copied_ok (by omega))) (fun g hg => ok.grp g hg) ok.one ok.len ok.nd) (ev_cons (ev_call (ev_cons (ev_var rfl) ev_nil) (written_ok ok)) ev_nil)) rfl
  have f4 : F_law_4 (tE ns i ps s6 s7 s8 s9 s10 s11) [.lst g2] = .ok (.nx (tE ns i ps s6 s7 s8 s9 s10 s11)) [.lst g2] :=
    ev_skip (ev_orT_f (ev_fB (ev_f2 (ev_call (ev_cons (ev_var rfl) ev_nil) (text_ok ok)) (ev_var rfl) (txt_eq ok true)))
      (ev_fB (ev_f2 (ev_call (ev_cons (ev_shop (ev_call (ev_cons (ev_var rfl) ev_nil) (copied_ok (by omega))) (fun g hg => ok.grp g hg) ok.one ok.len ok.nd) ev_nil) (text_ok ok)) (ev_var rfl) (txt_eq ok true))))
  obtain ⟨s6', s7', e9, k6, k7⟩ := read_loop (ns := ns) (i := i) (S := [.lst c2]) (s8 := s8) (s9 := s9) (s10 := s10) (s11 := s11) ok [ptx ps, x1, x2, Txt.replace (ptx ps) " / " "/"] s6 s7 (fun x hx S => by
    simp only [List.mem_cons, List.not_mem_nil, or_false] at hx
    rcases hx with rfl | rfl | rfl | rfl
    · exact toks_ok ok
    · exact tokens_ok r1
    · exact tokens_ok r2
    · exact tokens_ok r3) h6 h7
  have f9 : F_law_9 (tE ns i ps s6 s7 s8 s9 s10 s11) [.lst g2] = .ok (.nx (tE ns i ps s6' s7' s8 s9 s10 s11)) [.lst c2] := by
    refine ev_for (seqL_ev (l := [ptx ps, x1, x2, Txt.replace (ptx ps) " / " "/"].map .str) (S1 := [.lst c2]) ?_) rfl e9
    exact ev_frzL (ev_lst (ev_cons (ev_var rfl) (ev_cons (ev_call (ev_cons (ev_var rfl) (ev_cons (ev_var rfl) ev_nil)) w1') (ev_cons (ev_call (ev_cons (ev_var rfl) (ev_cons (ev_var rfl) ev_nil)) w2') (ev_cons (ev_f1 (ev_var rfl) (repl_ok ok)) ev_nil)))))
  obtain ⟨s8', s9', s10', e17, k8, k9, k10⟩ := bad_loop (ns := ns) (i := i) (ps := ps) (S := [.lst c2]) (s6 := s6') (s7 := s7') (s11 := s11) (bads ps) s8 s9 s10 (bads_bad ok) h8 h9 h10
  have f17 : F_law_17 (tE ns i ps s6' s7' s8 s9 s10 s11) [.lst c2] = .ok (.nx (tE ns i ps s6' s7' s8' s9' s10' s11)) [.lst c2] := by
    refine ev_for (ev_seqL (ds := bads ps) ?_) rfl e17
    exact ev_frzL (ev_lst (ev_cons ev_c (ev_cons ev_c (ev_cons (ev_frzL (ev_lst ev_nil)) (ev_cons (ev_call (ev_cons (ev_var rfl) ev_nil) (copied_ok (by omega))) (ev_cons ev_c (ev_cons (ev_frz (c := .dK []) rfl) (ev_cons ev_c (ev_cons (ev_meth (C := "Shop") (o := shopD ps) (ev_var rfl) rfl rfl rfl (groups_ok (by omega))) ev_nil)))))))))
  have all := ev_seq f0 (ev_seq f1 (ev_seq f2' (ev_seq f4 (ev_seq f9 f17))))
  have low : ∀ {s : Sl}, ClS s → meltSl (meltC [.lst c2] 0 6) s = some s := fun h => h.low 0 _ 5
  have m2 : meltSl (meltC [.lst c2] 0 6) (.val (.cell 0)) = some (.val (.lst c2)) := by
    show (melt0 _ (.cell 0)).map Sl.val = _
    rw [melt_top (c := .lst c2) rfl (by
      show (meltL _ c2).map CO.lst = _
      rw [meltL_cl _ _ cc]
      rfl)]
    rfl
  refine ⟨.val (.lst c2), .val (.lst (ps.map itF)), .val (shopD ps), .val (.str (ptx ps)), s6', s7', s8', s9', s10', s11, sMelt_all all (by simp) ?_, k6, k7, k8, k9, k10, h11⟩
  exact meltE_cons (low (s := .val (.klst (ns.map .int))) (cl_ints ns)) (meltE_cons (low (s := .val (.int i)) rfl) (meltE_cons m2 (meltE_cons (low (s := .val (.lst (ps.map itF))) (cl_its ps)) (meltE_cons (low (s := .val (shopD ps)) (cl_shop ps)) (meltE_cons (low (s := .val (.str (ptx ps))) rfl) (meltE_cons (low k6) (meltE_cons (low k7) (meltE_cons (low k8) (meltE_cons (low k9) (meltE_cons (low k10) (meltE_cons (low h11) rfl)))))))))))
theorem turns : ∀ (j i : Nat) (s1 s2 s3 s4 s5 s6 s7 s8 s9 s10 s11 : Sl), i + j ≤ 100 → ClS s6 → ClS s7 → ClS s8 → ClS s9 → ClS s10 → ClS s11 → ∃ s1' s2' s3' s4' s5' s6' s7' s8' s9' s10' s11', loopD (.one 1) .fz B_law_18 ((List.range' i j).map fun i => D.int (i : Nat)) [.val (.klst (ns.map .int)), s1, s2, s3, s4, s5, s6, s7, s8, s9, s10, s11] [] = .ok (.nx [.val (.klst (ns.map .int)), s1', s2', s3', s4', s5', s6', s7', s8', s9', s10', s11']) []
  | 0, i, s1, s2, s3, s4, s5, s6, s7, s8, s9, s10, s11, _, _, _, _, _, _, _ => ⟨s1, s2, s3, s4, s5, s6, s7, s8, s9, s10, s11, loop_nil rfl⟩
  | j + 1, i, s1, s2, s3, s4, s5, s6, s7, s8, s9, s10, s11, hj, h6, h7, h8, h9, h10, h11 => by
    obtain ⟨a2, a3, a4, a5, a6, a7, a8, a9, a10, a11, e, k6, k7, k8, k9, k10, k11⟩ := turn (ns := ns) (i := i) (s2 := s2) (s3 := s3) (s4 := s4) (s5 := s5) (by omega) h6 h7 h8 h9 h10 h11
    obtain ⟨b1, b2, b3, b4, b5, b6, b7, b8, b9, b10, b11, e2⟩ := turns j (i + 1) (.val (.int (i : Nat))) a2 a3 a4 a5 a6 a7 a8 a9 a10 a11 (by omega) k6 k7 k8 k9 k10 k11
    exact ⟨b1, b2, b3, b4, b5, b6, b7, b8, b9, b10, b11, (loop_cons rfl rfl e).trans e2⟩
end
end HT.Lk45
set_option maxRecDepth 100000
set_option maxHeartbeats 1000000
namespace HT.Lk45
open PySem PySem.Spec L2 HT.C
open PyProof.Rows hiding St
section
variable {S : Sto} {ps : List Gp} {ns : List Int}
def okI (r : R CO) (ps : List Gp) : Bool := match r with
  | .ok c [] => eqCO c (.ins "Shop" [("rows", .tup (ps.map rowD))])
  | _ => false
theorem okI_ok {r : R CO} (h : okI r ps = true) : r = .ok (.ins "Shop" [("rows", .tup (ps.map rowD))]) [] := by
  unfold okI at h
  split at h
  · rw [eqCO_eq h]
  · cases h
theorem mk_any (h : okI (mltO [] (M_Shop_init [.lst (ps.map itF)] [])) ps = true) (env : Env) (S : Sto) (F : FE) (hF : F env S = .ok (.lst (ps.map itF)) S) : fFrz (oMake N_Shop_init [] (aCons F aNil)) env S = .ok (shopD ps) S := by
  refine ev_frz (c := .ins "Shop" [("rows", .tup (ps.map rowD))]) (ev_make (ev_cons hF ev_nil) ?_)
  show (if clL [D.lst (ps.map itF)] = true then R.inS S (mltO [] (M_Shop_init [.lst (ps.map itF)] [])) else _) = _
  rw [if_pos (by show (clL (ps.map itF) && true) = true; rw [cl_its]; rfl), okI_ok h]
  rfl
def q1 : List Gp := [⟨"or", "and", "one", ["one", "many"]⟩, ⟨"and", "or", "many", ["or", "and", "one", "many", "abcdefgh"]⟩]
def q2 : List Gp := [⟨"a", "or", "one", ["b"]⟩]
theorem wq1 : ∀ x ∈ q1, GpW x ∧ GpS x := fun x hx => by
  simp only [q1, List.mem_cons, List.not_mem_nil, or_false] at hx
  rcases hx with rfl | rfl <;> exact ⟨⟨by decide +kernel, by decide +kernel, by decide +kernel, by decide +kernel, by decide, by decide⟩, ⟨by decide +kernel, by decide +kernel, by decide +kernel, by decide +kernel, by decide⟩⟩
theorem wq2 : ∀ x ∈ q2, GpW x ∧ GpS x := fun x hx => by
  simp only [q2, List.mem_cons, List.not_mem_nil, or_false] at hx
  subst hx
  exact ⟨⟨by decide +kernel, by decide +kernel, by decide +kernel, by decide +kernel, by decide, by decide⟩, ⟨by decide +kernel, by decide +kernel, by decide +kernel, by decide +kernel, by decide⟩⟩
theorem mk1 : okI (mltO [] (M_Shop_init [.lst (q1.map itF)] [])) q1 = true := by decide +kernel
theorem mk2 : okI (mltO [] (M_Shop_init [.lst (q2.map itF)] [])) q2 = true := by decide +kernel
theorem run1 : tkR ("or and one:one many / and or many:or and one many abcdefgh" : Str).cps.toList ([], 32) = some (tokP q1, 104) := by decide +kernel
theorem rs1 : N_read_shop [.str "or and one:one many / and or many:or and one many abcdefgh"] S = .ok (shopD q1) S :=
  read_gen wq1 (by decide) (by decide) (mk_any mk1) (fun _ => tokens_ok run1)
theorem mul_cps (c : Nat) : ∀ (n : Nat) (a : Array Nat), ((List.replicate n #[c]).foldl (· ++ ·) a).toList = a.toList ++ List.replicate n c
  | 0, a => (List.append_nil _).symm
  | n + 1, a => by
    rw [List.replicate_succ, List.foldl_cons, mul_cps c n, Array.toList_append, List.append_assoc]
    rfl
theorem mul_1900 : (Txt.mul " " 1900).cps.toList = List.replicate 1900 32 := by
  have e : (" " : Str).cps = #[32] := by decide +kernel
  have l1 : (" " : Str).length = 1 := l_sp
  unfold Txt.mul
  rw [if_neg (by decide), if_neg (by rw [l1]; decide), e]
  show ((List.replicate (1900 : Int).toNat #[32]).foldl (· ++ ·) #[]).toList = _
  rw [show (1900 : Int).toNat = 1900 from rfl, mul_cps]
  rfl
theorem len_1900 : (Txt.mul " " 1900).length = 1900 := by
  have := congrArg List.length mul_1900
  rw [List.length_replicate] at this
  exact this
def tl2 : Str := "\na or one :\n b\n"
theorem run2b : tkR ("\na or one :\n b\n" : Str).cps.toList ([], 32) = some (tokP q2, 10) := by decide +kernel
theorem run_reps : ∀ n : Nat, Run (List.replicate n 32) [] [] 32 32
  | 0 => rfl
  | n + 1 => (run_blank (c := 32) (by decide +kernel) lt32 (by decide +kernel)).app (run_reps n)
theorem run2 : Run (Txt.mul " " 1900 ++ ("\na or one :\n b\n" : Str)).cps.toList [] (tokP q2) 32 10 := by
  rw [cps_app, mul_1900]
  exact (run_reps 1900).app run2b
theorem rs2 : N_read_shop [.str (Txt.mul " " 1900 ++ ("\na or one :\n b\n" : Str))] S = .ok (shopD q2) S :=
  read_gen wq2 (by decide) (by decide) (mk_any mk2) (fun _ => tokens_ok run2)
theorem law_raw : M_law [.klst (ns.map .int)] [] = .ok (.bl true) [] := by
  obtain ⟨a1, a2, a3, a4, a5, a6, a7, a8, a9, a10, a11, e⟩ := turns (ns := ns) 5 0 .un .un .un .un .un .un .un .un .un .un .un (by decide) trivial trivial trivial trivial trivial trivial
  have f20 : F_law_20 [.val (.klst (ns.map .int)), a1, a2, a3, a4, a5, a6, a7, a8, a9, a10, a11] [] = .ok (.nx [.val (.klst (ns.map .int)), a1, a2, a3, a4, a5, a6, a7, a8, a9, a10, .val (shopD q1)]) [] := ev_set2 (ev_call (ev_cons ev_c ev_nil) rs1) rfl
  have f21 : F_law_21 [.val (.klst (ns.map .int)), a1, a2, a3, a4, a5, a6, a7, a8, a9, a10, .val (shopD q1)] [] = .ok (.nx [.val (.klst (ns.map .int)), a1, a2, a3, a4, .val (.lst (q1.map itF)), a6, a7, a8, a9, a10, .val (shopD q1)]) [] :=
    ev_set2 (ev_frzL (ev_lst (ev_cons (ev_tup (ev_cons ev_c (ev_cons ev_c (ev_cons ev_c (ev_cons (ev_frzL (ev_lst (ev_cons ev_c (ev_cons ev_c ev_nil)))) ev_nil))))) (ev_cons (ev_tup (ev_cons ev_c (ev_cons ev_c (ev_cons ev_c (ev_cons (ev_frzL (ev_lst (ev_cons ev_c (ev_cons ev_c (ev_cons ev_c (ev_cons ev_c (ev_cons ev_c ev_nil))))))) ev_nil))))) ev_nil)))) rfl
  have f23 : F_law_23 [.val (.klst (ns.map .int)), a1, a2, a3, a4, .val (.lst (q1.map itF)), a6, a7, a8, a9, a10, .val (shopD q1)] [] = .ok (.nx [.val (.klst (ns.map .int)), a1, a2, a3, a4, .val (.lst (q1.map itF)), a6, a7, a8, a9, a10, .val (shopD q1)]) [] :=
    ev_skip (ev_fB (ev_f2 (ev_var rfl) (mk_any mk1 _ _ _ (ev_var rfl)) (shop_eqO (neg := true) (fun x hx => (wq1 x hx).2) (fun x hx => (wq1 x hx).2) true ⟨fun _ => rfl, fun _ => rfl⟩)))
  have mu : gMulS (.str " ") (.int 1900) [] = .ok (.str (Txt.mul " " 1900)) [] := by
    show (if 1 ≤ (1900 : Int) ∧ (1900 : Int) ≤ 5000 ∧ (" " : Str).length ≤ 100 then R.ok (D.str (Txt.mul " " 1900)) [] else .stuck) = _
    exact if_pos ⟨by decide, by decide, by rw [l_sp]; decide⟩
  have ad : gAdd (.str (Txt.mul " " 1900)) (.str "\na or one :\n b\n") [] = .ok (.str (Txt.mul " " 1900 ++ ("\na or one :\n b\n" : Str))) [] := add_s (by
    have l2 : ("\na or one :\n b\n" : Str).length ≤ 100 := by decide +kernel
    have := len_1900
    omega)
  have f24 : F_law_24 [.val (.klst (ns.map .int)), a1, a2, a3, a4, .val (.lst (q1.map itF)), a6, a7, a8, a9, a10, .val (shopD q1)] [] = .ok (.rt (.bl true)) [] := by
    refine ev_ret (ev_f2 (ev_call (ev_cons (ev_f2 (Fa := f2 gMulS (fun _ => pure (.str " ")) (fun _ => pure (.int 1900))) (ev_f2 (Fa := fun _ => pure (.str " ")) ev_c ev_c mu) ev_c ad) ev_nil) rs2) (mk_any mk2 _ _ _ ?_) (shop_eqO (neg := false) (fun x hx => (wq2 x hx).2) (fun x hx => (wq2 x hx).2) true ⟨fun _ => rfl, fun _ => rfl⟩))
    exact ev_frzL (ev_lst (ev_cons (ev_tup (ev_cons ev_c (ev_cons ev_c (ev_cons ev_c (ev_cons (ev_frzL (ev_lst (ev_cons ev_c ev_nil))) ev_nil))))) ev_nil))
  exact mk_rt (env := .val (.klst (ns.map .int)) :: List.replicate 11 .un) rfl rfl (ev_seq (ev_for (ev_rg1 (n := 5) (ev_cons (Fa := fun _ => pure (.int 5)) ev_c ev_nil) (by decide)) rfl e) (ev_seq f20 (ev_seq f21 (ev_seq f23 f24))))
end
end HT.Lk45
set_option maxRecDepth 100000
set_option maxHeartbeats 4000000
open PySem PySem.W PySem.Calls PyProof.Rows
theorem PySem.Challenge.cw_tickcounts_k45_shops_written_and_read_holds : PySem.Challenge.rw_tickcounts_k45_shops_written_and_read.Holds := by
  w_on; o_law
  refine HandSHeadRun.head_any (r := HT.Lk45.R0) (q := view HT.Lk45.R0.prog [35]) (H := HT.Lk45.hk) (ob := HT.Lk45.ob) (M := 8000) (loose := HT.Lk45.loose) (d := HandSHeadRun.topDef HT.Lk45.R0.prog 35) (kwd := []) HT.Lk45.ob_eq
    (by kernel_rfl) (fun s => by kernel_rfl) HT.Lk45.run (by kernel_rfl) (by kernel_rfl) (by kernel_rfl) (by rfl) (by first | assumption | decide +kernel) (by decide +kernel) ⟨rfl, rfl, rfl, rfl, rfl, by decide +kernel⟩ ?hw ?hc
  case hw => w_witness2
  case hc =>
    refine HT.walk_T (l := PySem.Challenge.rw_tickcounts_k45_shops_written_and_read) (n := 63) (k := 10) (x := "script") rfl (by decide) (by kernel_rfl) ⟨⟨rfl, by decide, by decide⟩, rfl⟩ ?F
    intro w mg fa h Y G hmg0
    obtain ⟨K, KX, c⟩ := Y
    have hmg : mg ("law" : PySem.Str) = some (.ref fa) := by
      have e : (HandSHeadRun.topDef HT.Lk45.R0.prog 35).name = ("law" : PySem.Str) := by kernel_rfl
      rw [← e]
      exact hmg0
    obtain ⟨x⟩ := HT.Lk45.facts KX G c
    have e := hmg.symm.trans x.g_law
    cases e
    exact ⟨K, x.fd_law, He.ga K, HT.Lk45.M_law, KX, fun s u => x.d_law.bindsA (ps := ["script"]) (fun _ _ _ _ _ _ us hl => match us, hl with | [_], _ => rfl) s [u] rfl, fun ns _ => ⟨[], HT.Lk45.law_raw⟩, fun base _ _ => HT.Lk45.ft_law x⟩
