import PyProof.Rows.All
import Wide.All
import OpenK.AllK
import Wide.FinOn
import HandS.Base
import HandS.Call
import HandS.List
import HandS.Dict
import HandS.Iter
import HandS.Comp
import HandS.Exc
import HandS.Words
import HandS.WordsExc
import HandS.CallSlots
import HandS.DictComp
import KE.KEqNest
import HandS.More
import PyProof.NeKinds
import HandS.Style
import HandS.TupAny
import HandS.Text
import HandS.IsInst
import HandS.ListItems
import HandS.Ends
import KE.KEqSeq
import PySem.Challenge.RW_breakplans_k02_courses_told
set_option Elab.async false
set_option linter.all false
set_option maxRecDepth 100000
set_option autoImplicit false
/-! PvA: values as trees, what lies at an address, the state of a frame by value, and how it is held by the abstract heap. -/
namespace PV
open PySem PySem.Spec L2

inductive Val where
  | none | bool (b : Bool) | int (i : Int) | str (s : Str)
  | tup (xs : List Val) | list (xs : List Val) | dict (kvs : List (Val × Val)) | ref (n : Nat)
  deriving Inhabited

def Val.key : Val → Option Key
  | .int i => some (.inl i)
  | .str s => some (.inr s)
  | _ => .none

/-- a mutable thing -/
inductive MO where
  | lst (xs : List Val) | dct (kvs : List (Val × Val)) | ins (C : Nat) (fs : List (Str × Val))

/-- what a name of the frame holds: nothing known, shared data, a thing of its own -/
inductive Slot where
  | unb | shr (d : Val) | own (o : MO)

structure State where
  ρ : List Slot
  S : List MO

inductive Out (α : Type) where
  | ok (a : α) (st : State) | exc (C : Nat) (fs : List (Str × Val)) (st : State) | stuck

/-- a list that stands still, or one of the written part -/
def LstF (K : PySem.W.Frag) (H : Hp) (a : Addr) (xs : List V) : Prop := (∃ o, H a = some (.frz o (.lst xs))) ∨
  ∃ (o : Obj) (its : Array Value) (n : Nat), K.lookup a = some o ∧ o.cls = .type "list" ∧ o.dict = none ∧ o.data = .seq its n ∧ its.size ≤ sizeLine ∧ Vals xs its.toList
theorem LstF.sq {K : PySem.W.Frag} {H : Hp} {a : Addr} {xs : List V} (h : LstF K H a xs) : SqL K H a xs := by
  rcases h with ⟨o, h⟩ | h
  · exact .inl (.inr ⟨o, h⟩)
  · exact .inr h
mutual
def Rep (K : PySem.W.Frag) (μ : List Addr) (H : Hp) : Val → V → Prop
  | .none, v => v = .non
  | .bool b, v => v = .bl b
  | .int i, v => v = .int i
  | .str s, v => v = .str s
  | .tup ds, v => ∃ a vs, v = .ref a ∧ SqT K H a vs ∧ Reps K μ H ds vs
  | .list ds, v => ∃ a vs, v = .ref a ∧ LstF K H a vs ∧ Reps K μ H ds vs
  | .dict ds, v => ∃ a o kvs, v = .ref a ∧ H a = some (.frz o (.dK kvs)) ∧ RepD K μ H ds kvs
  | .ref n, v => ∃ a, v = .ref a ∧ μ[n]? = some a
def Reps (K : PySem.W.Frag) (μ : List Addr) (H : Hp) : List Val → List V → Prop
  | [], vs => vs = []
  | d :: ds, vs => ∃ v r, vs = v :: r ∧ Rep K μ H d v ∧ Reps K μ H ds r
def RepD (K : PySem.W.Frag) (μ : List Addr) (H : Hp) : List (Val × Val) → List (Key × V) → Prop
  | [], ks => ks = []
  | (k, d) :: ds, ks => ∃ κ v r, ks = (κ, v) :: r ∧ k.key = some κ ∧ Rep K μ H d v ∧ RepD K μ H ds r
end

/-- what never changes is kept -/
structure Mono (H H' : Hp) : Prop where
  frz : ∀ b o u, H b = some (.frz o u) → H' b = some (.frz o u)
  tup : ∀ b xs, H b = some (.tup xs) → H' b = some (.tup xs)
theorem Mono.refl (H : Hp) : Mono H H := ⟨fun _ _ _ h => h, fun _ _ h => h⟩
theorem Mono.trans {H H1 H2 : Hp} (a : Mono H H1) (b : Mono H1 H2) : Mono H H2 := ⟨fun c o u h => b.frz c o u (a.frz c o u h), fun c xs h => b.tup c xs (a.tup c xs h)⟩
/-- all is kept -/
def Ext (H H' : Hp) : Prop := ∀ b o, H b = some o → H' b = some o
theorem Ext.refl (H : Hp) : Ext H H := fun _ _ h => h
theorem Ext.trans {H H1 H2 : Hp} (a : Ext H H1) (b : Ext H1 H2) : Ext H H2 := fun c o h => b c o (a c o h)
theorem Ext.mono {H H' : Hp} (e : Ext H H') : Mono H H' := ⟨fun b o u h => e b _ h, fun b xs h => e b _ h⟩
theorem Ext.new {H : Hp} {a : Addr} {o : HO} (n : H a = none) : Ext H (upd H a o) := fun b u h => by rw [upd_ne (ne_of_none h n)]; exact h
theorem Ext.none {H H' : Hp} (e : Ext H H') {a : Addr} (n : H' a = none) : H a = none := by
  cases h : H a with
  | none => rfl
  | some o => rw [e a o h] at n; cases n

theorem LstF.mono {K : PySem.W.Frag} {H H' : Hp} {a : Addr} {xs : List V} (h : LstF K H a xs) (m : Mono H H') : LstF K H' a xs := by
  rcases h with ⟨o, h⟩ | h
  · exact .inl ⟨o, m.frz a o _ h⟩
  · exact .inr h
theorem SqT.mono {K : PySem.W.Frag} {H H' : Hp} {a : Addr} {xs : List V} (h : SqT K H a xs) (m : Mono H H') : SqT K H' a xs := by
  rcases h with (h | ⟨o, h⟩) | h
  · exact .inl (.inl (m.tup a xs h))
  · exact .inl (.inr ⟨o, m.frz a o _ h⟩)
  · exact .inr h
theorem pre_get {μ μ' : List Addr} (p : μ <+: μ') {n : Nat} {a : Addr} (h : μ[n]? = some a) : μ'[n]? = some a := by
  obtain ⟨t, rfl⟩ := p
  have hn : n < μ.length := (List.getElem?_eq_some_iff.mp h).1
  rw [List.getElem?_append_left hn]; exact h

mutual
theorem Rep.mono {K : PySem.W.Frag} {μ μ' : List Addr} {H H' : Hp} (p : μ <+: μ') (m : Mono H H') : ∀ (d : Val) (v : V), Rep K μ H d v → Rep K μ' H' d v
  | .none, v, h => h
  | .bool _, v, h => h
  | .int _, v, h => h
  | .str _, v, h => h
  | .tup ds, v, h => by
    obtain ⟨a, vs, e, q, r⟩ := h
    exact ⟨a, vs, e, SqT.mono q m, Reps.mono p m ds vs r⟩
  | .list ds, v, h => by
    obtain ⟨a, vs, e, q, r⟩ := h
    exact ⟨a, vs, e, q.mono m, Reps.mono p m ds vs r⟩
  | .dict ds, v, h => by
    obtain ⟨a, o, vs, e, q, r⟩ := h
    exact ⟨a, o, vs, e, m.frz _ _ _ q, RepD.mono p m ds vs r⟩
  | .ref n, v, h => by
    obtain ⟨a, e, q⟩ := h
    exact ⟨a, e, pre_get p q⟩
theorem Reps.mono {K : PySem.W.Frag} {μ μ' : List Addr} {H H' : Hp} (p : μ <+: μ') (m : Mono H H') : ∀ (ds : List Val) (vs : List V), Reps K μ H ds vs → Reps K μ' H' ds vs
  | [], vs, h => h
  | d :: ds, vs, h => by
    obtain ⟨v, r, e, q, t⟩ := h
    exact ⟨v, r, e, Rep.mono p m d v q, Reps.mono p m ds r t⟩
theorem RepD.mono {K : PySem.W.Frag} {μ μ' : List Addr} {H H' : Hp} (p : μ <+: μ') (m : Mono H H') : ∀ (ds : List (Val × Val)) (vs : List (Key × V)), RepD K μ H ds vs → RepD K μ' H' ds vs
  | [], vs, h => h
  | (k, d) :: ds, vs, h => by
    obtain ⟨κ, v, r, e, ek, q, t⟩ := h
    exact ⟨κ, v, r, e, ek, Rep.mono p m d v q, RepD.mono p m ds r t⟩
end

/-- the fields of an instance -/
def RepF (K : PySem.W.Frag) (μ : List Addr) (H : Hp) : List (Str × Val) → List (Str × V) → Prop
  | [], ks => ks = []
  | (k, d) :: ds, ks => ∃ v r, ks = (k, v) :: r ∧ Rep K μ H d v ∧ RepF K μ H ds r
theorem RepF.mono {K : PySem.W.Frag} {μ μ' : List Addr} {H H' : Hp} (p : μ <+: μ') (m : Mono H H') : ∀ (ds : List (Str × Val)) (vs : List (Str × V)), RepF K μ H ds vs → RepF K μ' H' ds vs
  | [], vs, h => h
  | (k, d) :: ds, vs, h => by
    obtain ⟨v, r, e, q, t⟩ := h
    exact ⟨v, r, e, Rep.mono p m d v q, RepF.mono p m ds r t⟩

/-- the mutable thing o is at a -/
def ObjR (K : PySem.W.Frag) (cl : Nat → Addr) (μ : List Addr) (H : Hp) : MO → Addr → Prop
  | .lst ds, a => ∃ vs, H a = some (.lst vs) ∧ Reps K μ H ds vs
  | .dct ds, a => ∃ kvs, H a = some (.dK kvs) ∧ RepD K μ H ds kvs
  | .ins C fs, a => ∃ dx fs', H a = some (.ins (cl C) dx fs') ∧ RepF K μ H fs fs'
theorem ObjR.mono {K : PySem.W.Frag} {cl : Nat → Addr} {μ μ' : List Addr} {H H' : Hp} (p : μ <+: μ') (m : Mono H H') {o : MO} {a : Addr} (k : ∀ u, H a = some u → H' a = some u) (h : ObjR K cl μ H o a) : ObjR K cl μ' H' o a := by
  cases o with
  | lst ds => obtain ⟨vs, e, r⟩ := h; exact ⟨vs, k _ e, Reps.mono p m _ _ r⟩
  | dct ds => obtain ⟨vs, e, r⟩ := h; exact ⟨vs, k _ e, RepD.mono p m _ _ r⟩
  | ins C fs => obtain ⟨dx, vs, e, r⟩ := h; exact ⟨dx, vs, k _ e, RepF.mono p m _ _ r⟩
/-- it is one that may be written -/
theorem ObjR.mut {K : PySem.W.Frag} {cl : Nat → Addr} {μ : List Addr} {H : Hp} {o : MO} {a : Addr} (h : ObjR K cl μ H o a) : Mut (H a) := by
  cases o with
  | lst ds => obtain ⟨vs, e, _⟩ := h; rw [e]; trivial
  | dct ds => obtain ⟨vs, e, _⟩ := h; rw [e]; trivial
  | ins C fs => obtain ⟨dx, vs, e, _⟩ := h; rw [e]; trivial
theorem ObjR.ex {K : PySem.W.Frag} {cl : Nat → Addr} {μ : List Addr} {H : Hp} {o : MO} {a : Addr} (h : ObjR K cl μ H o a) : ∃ u, H a = some u := by
  cases o with
  | lst ds => obtain ⟨vs, e, _⟩ := h; exact ⟨_, e⟩
  | dct ds => obtain ⟨vs, e, _⟩ := h; exact ⟨_, e⟩
  | ins C fs => obtain ⟨dx, vs, e, _⟩ := h; exact ⟨_, e⟩

def SlotR (K : PySem.W.Frag) (cl : Nat → Addr) (μ : List Addr) (H : Hp) : Slot → Option V → Prop
  | .unb, _ => True
  | .shr d, w => ∃ v, w = some v ∧ Rep K μ H d v
  | .own o, w => ∃ a, w = some (.ref a) ∧ ObjR K cl μ H o a

/-- the store is held at the addresses μ -/
structure StoR (K : PySem.W.Frag) (cl : Nat → Addr) (G : Hp) (μ : List Addr) (H : Hp) (S : List MO) : Prop where
  len : S.length = μ.length
  at_ : ∀ (n : Nat) (o : MO) (a : Addr), S[n]? = some o → μ[n]? = some a → ObjR K cl μ H o a
  nd : μ.Nodup
  out : ∀ a ∈ μ, G a = none
  keep : ∀ (b : Addr) (o : HO), G b = some o → H b = some o

/-- a frame by value; G: what stands and is not ours -/
structure Rel (K : PySem.W.Frag) (cl : Nat → Addr) (G : Hp) (μ : List Addr) (H : Hp) (σ : St) (st : State) : Prop where
  sto : StoR K cl G μ H st.S
  len : st.ρ.length = σ.length
  slot : ∀ (i : Nat) (s : Slot) (w : Option V), st.ρ[i]? = some s → σ[i]? = some w → SlotR K cl μ H s w
  own : ∀ (i : Nat) (o : MO) (a : Addr), st.ρ[i]? = some (.own o) → σ[i]? = some (some (.ref a)) → G a = none ∧ a ∉ μ
  apart : ∀ (i j : Nat) (o o' : MO) (a : Addr), st.ρ[i]? = some (.own o) → st.ρ[j]? = some (.own o') → σ[i]? = some (some (.ref a)) → σ[j]? = some (some (.ref a)) → i = j

section
variable {K : PySem.W.Frag} {cl : Nat → Addr} {G H H' : Hp} {μ μ' : List Addr} {σ : St} {st : State}
theorem SlotR.ext (e : Ext H H') {s : Slot} {w : Option V} (h : SlotR K cl μ H s w) : SlotR K cl μ H' s w := by
  cases s with
  | unb => trivial
  | shr d => obtain ⟨v, e1, r⟩ := h; exact ⟨v, e1, Rep.mono (List.prefix_refl _) e.mono _ _ r⟩
  | own o => obtain ⟨a, e1, r⟩ := h; exact ⟨a, e1, r.mono (List.prefix_refl _) e.mono fun u q => e a u q⟩
theorem StoR.ext (e : Ext H H') {S : List MO} (h : StoR K cl G μ H S) : StoR K cl G μ H' S :=
  ⟨h.len, fun n o a e1 e2 => (h.at_ n o a e1 e2).mono (List.prefix_refl _) e.mono fun u q => e a u q, h.nd, h.out, fun b o q => e b o (h.keep b o q)⟩
theorem Rel.ext (h : Rel K cl G μ H σ st) (e : Ext H H') : Rel K cl G μ H' σ st :=
  ⟨h.sto.ext e, h.len, fun i s w e1 e2 => (h.slot i s w e1 e2).ext e, h.own, h.apart⟩
theorem Rel.get (h : Rel K cl G μ H σ st) {i : Nat} {s : Slot} (e : st.ρ[i]? = some s) : ∃ w, σ[i]? = some w ∧ SlotR K cl μ H s w := by
  have hi := (List.getElem?_eq_some_iff.mp e).1
  rw [h.len] at hi
  exact ⟨σ[i], List.getElem?_eq_getElem hi, h.slot i s _ e (List.getElem?_eq_getElem hi)⟩
theorem StoR.get {S : List MO} (h : StoR K cl G μ H S) {n : Nat} {o : MO} (e : S[n]? = some o) : ∃ a, μ[n]? = some a ∧ ObjR K cl μ H o a := by
  have hi := (List.getElem?_eq_some_iff.mp e).1
  rw [h.len] at hi
  exact ⟨μ[n], List.getElem?_eq_getElem hi, h.at_ n o _ e (List.getElem?_eq_getElem hi)⟩
end
end PV

/-! PvB: steps of a frame by value, and the judgements of expressions. -/
namespace PV
open PySem PySem.Spec L2

abbrev M (α : Type) := State → Out α
def ret {α : Type} (a : α) : M α := fun st => .ok a st
def stk {α : Type} : M α := fun _ => .stuck
def bnd {α β : Type} (m : M α) (f : α → M β) : M β := fun st => match m st with
  | .ok a s => f a s
  | .exc C fs s => .exc C fs s
  | .stuck => .stuck
def ofO {α : Type} (x : Option α) : M α := fun st => match x with
  | some a => .ok a st
  | none => .stuck

/-- a value that comes: shared data, or a mutable thing that nobody else has -/
inductive RV where
  | sh (d : Val) | fr (o : MO)
def MO.fz : MO → Option Val
  | .lst ds => some (.list ds)
  | .dct ds => some (.dict ds)
  | .ins _ _ => none
def frz : RV → M Val
  | .sh d => ret d
  | .fr o => ofO o.fz

section lemmas
variable {K : PySem.W.Frag} {cl : Nat → Addr} {G H H' : Hp} {μ μ' : List Addr} {σ : L2.St} {st : State}

theorem mono_upd {a : Addr} {u : HO} (h : Mut (H a) ∨ H a = none) : Mono H (upd H a u) := by
  refine ⟨fun b o u' e => ?_, fun b xs e => ?_⟩
  · rw [upd_ne]; exact e
    intro z; subst z
    rcases h with h | h
    · rw [e] at h; exact h
    · rw [e] at h; cases h
  · rw [upd_ne]; exact e
    intro z; subst z
    rcases h with h | h
    · rw [e] at h; exact h
    · rw [e] at h; cases h

/-- a thing that nobody has is changed -/
theorem StoR.upd {S : List MO} (h : StoR K cl G μ H S) {a : Addr} {u : HO} (m : Mut (H a) ∨ H a = none) (g : G a = none) (n : a ∉ μ) : StoR K cl G μ (upd H a u) S := by
  refine ⟨h.len, fun k o b e1 e2 => (h.at_ k o b e1 e2).mono (List.prefix_refl _) (mono_upd m) fun w q => ?_, h.nd, h.out, fun b o q => ?_⟩
  · rw [upd_ne]; exact q
    intro z; subst z; exact n (List.mem_of_getElem? e2)
  · rw [upd_ne]; exact h.keep b o q
    intro z; subst z; rw [g] at q; cases q
theorem Rel.upd (h : Rel K cl G μ H σ st) {a : Addr} {u : HO} (m : Mut (H a) ∨ H a = none) (g : G a = none) (n : a ∉ μ) (no : ∀ (i : Nat) (o : MO), st.ρ[i]? = some (.own o) → σ[i]? ≠ some (some (.ref a))) :
    Rel K cl G μ (upd H a u) σ st := by
  refine ⟨h.sto.upd m g n, h.len, fun i s w e1 e2 => ?_, h.own, h.apart⟩
  have q := h.slot i s w e1 e2
  cases s with
  | unb => trivial
  | shr d => obtain ⟨v, e, r⟩ := q; exact ⟨v, e, Rep.mono (List.prefix_refl _) (mono_upd m) _ _ r⟩
  | own o =>
    obtain ⟨b, e, r⟩ := q
    refine ⟨b, e, r.mono (List.prefix_refl _) (mono_upd m) fun w' q' => ?_⟩
    rw [upd_ne]; exact q'
    intro z; subst z; exact no i o e1 (by rw [e2, e])
/-- the own thing of a name is changed -/
theorem Rel.setOwn (h : Rel K cl G μ H σ st) {i : Nat} {o : MO} {a : Addr} {u : HO} {s' : Slot} (hi : st.ρ[i]? = some (.own o)) (ha : σ[i]? = some (some (.ref a))) (hs : SlotR K cl μ (L2.upd H a u) s' (some (.ref a))) :
    Rel K cl G μ (L2.upd H a u) σ { st with ρ := st.ρ.set i s' } := by
  have m : Mut (H a) ∨ H a = none := by
    obtain ⟨b, e, r⟩ := h.slot i _ _ hi ha
    cases e
    exact .inl r.mut
  obtain ⟨g, n⟩ := h.own i o a hi ha
  have hl : i < st.ρ.length := (List.getElem?_eq_some_iff.mp hi).1
  have get : ∀ j, j ≠ i → (st.ρ.set i s')[j]? = st.ρ[j]? := fun j hj => List.getElem?_set_ne (Ne.symm hj)
  refine ⟨h.sto.upd m g n, by rw [List.length_set]; exact h.len, fun j s w e1 e2 => ?_, fun j o' b e1 e2 => ?_, fun j k o1 o2 b e1 e2 e3 e4 => ?_⟩
  · by_cases hj : j = i
    · subst hj
      rw [List.getElem?_set_self hl] at e1
      rw [ha] at e2
      cases e1; cases e2
      exact hs
    · have e1 : st.ρ[j]? = some s := by rw [← get j hj]; exact e1
      have q := h.slot j s w e1 e2
      cases s with
      | unb => trivial
      | shr d => obtain ⟨v, e, r⟩ := q; exact ⟨v, e, Rep.mono (List.prefix_refl _) (mono_upd m) _ _ r⟩
      | own o' =>
        obtain ⟨b, e, r⟩ := q
        refine ⟨b, e, r.mono (List.prefix_refl _) (mono_upd m) fun w' q' => ?_⟩
        rw [upd_ne]; exact q'
        intro z; subst z; exact hj (h.apart j i o' o b e1 hi (by rw [e2, e]) ha)
  · by_cases hj : j = i
    · subst hj
      rw [ha] at e2; cases e2
      exact ⟨g, n⟩
    · exact h.own j o' b (by rw [← get j hj]; exact e1) e2
  · by_cases hj : j = i
    · by_cases hk : k = i
      · rw [hj, hk]
      · subst hj
        rw [ha] at e3; cases e3
        exact (h.apart j k o o2 a hi (by rw [← get k hk]; exact e2) ha e4)
    · by_cases hk : k = i
      · subst hk
        rw [ha] at e4; cases e4
        exact (h.apart j k o1 o a (by rw [← get j hj]; exact e1) hi e3 ha)
      · exact h.apart j k o1 o2 b (by rw [← get j hj]; exact e1) (by rw [← get k hk]; exact e2) e3 e4
/-- a name is stored -/
theorem Rel.store (h : Rel K cl G μ H σ st) {i : Nat} {v : V} {s' : Slot} (hs : SlotR K cl μ H s' (some v))
    (ho : ∀ (o : MO) (a : Addr), s' = .own o → v = .ref a → G a = none ∧ a ∉ μ ∧ ∀ (j : Nat) (o' : MO), st.ρ[j]? = some (.own o') → σ[j]? ≠ some (some (.ref a))) :
    Rel K cl G μ H (σ.set i (some v)) { st with ρ := st.ρ.set i s' } := by
  have get : ∀ (j : Nat), j ≠ i → (st.ρ.set i s')[j]? = st.ρ[j]? := fun j hj => List.getElem?_set_ne (Ne.symm hj)
  have gets : ∀ (j : Nat), j ≠ i → (σ.set i (some v))[j]? = σ[j]? := fun j hj => List.getElem?_set_ne (Ne.symm hj)
  have self : ∀ (s : Slot), (st.ρ.set i s')[i]? = some s → s = s' := fun s e => by
    by_cases hl : i < st.ρ.length
    · rw [List.getElem?_set_self hl] at e; cases e; rfl
    · rw [List.getElem?_eq_none (by rw [List.length_set]; omega)] at e; cases e
  have selfs : ∀ (w : Option V), (σ.set i (some v))[i]? = some w → w = some v := fun s e => by
    by_cases hl : i < σ.length
    · rw [List.getElem?_set_self hl] at e; cases e; rfl
    · rw [List.getElem?_eq_none (by rw [List.length_set]; omega)] at e; cases e
  refine ⟨h.sto, by rw [List.length_set, List.length_set]; exact h.len, fun j s w e1 e2 => ?_, fun j o' b e1 e2 => ?_, fun j k o1 o2 b e1 e2 e3 e4 => ?_⟩
  · by_cases hj : j = i
    · subst hj
      rw [self s e1, selfs w e2]; exact hs
    · exact h.slot j s w (by rw [← get j hj]; exact e1) (by rw [← gets j hj]; exact e2)
  · by_cases hj : j = i
    · subst hj
      have z := self _ e1
      have y := selfs _ e2
      cases y
      exact ⟨(ho o' b z.symm rfl).1, (ho o' b z.symm rfl).2.1⟩
    · exact h.own j o' b (by rw [← get j hj]; exact e1) (by rw [← gets j hj]; exact e2)
  · by_cases hj : j = i
    · by_cases hk : k = i
      · rw [hj, hk]
      · subst hj
        have y := selfs _ e3
        cases y
        exact absurd (by rw [← gets k hk]; exact e4) ((ho o1 b (self _ e1).symm rfl).2.2 k o2 (by rw [← get k hk]; exact e2))
    · by_cases hk : k = i
      · subst hk
        have y := selfs _ e4
        cases y
        exact absurd (by rw [← gets j hj]; exact e3) ((ho o2 b (self _ e2).symm rfl).2.2 j o1 (by rw [← get j hj]; exact e1))
      · exact h.apart j k o1 o2 b (by rw [← get j hj]; exact e1) (by rw [← get k hk]; exact e2) (by rw [← gets j hj]; exact e3) (by rw [← gets k hk]; exact e4)
/-- a name is forgotten -/
theorem Rel.forget (h : Rel K cl G μ H σ st) (i : Nat) : Rel K cl G μ H σ { st with ρ := st.ρ.set i .unb } := by
  have get : ∀ (j : Nat), j ≠ i → (st.ρ.set i Slot.unb)[j]? = st.ρ[j]? := fun j hj => List.getElem?_set_ne (Ne.symm hj)
  have self : ∀ (s : Slot), (st.ρ.set i .unb)[i]? = some s → s = .unb := fun s e => by
    by_cases hl : i < st.ρ.length
    · rw [List.getElem?_set_self hl] at e; cases e; rfl
    · rw [List.getElem?_eq_none (by rw [List.length_set]; omega)] at e; cases e
  have ne : ∀ (j : Nat) (o : MO), (st.ρ.set i .unb)[j]? = some (.own o) → st.ρ[j]? = some (.own o) := fun j o e => by
    by_cases hj : j = i
    · subst hj; have z := self _ e; cases z
    · rw [← get j hj]; exact e
  refine ⟨h.sto, by rw [List.length_set]; exact h.len, fun j s w e1 e2 => ?_, fun j o b e1 e2 => h.own j o b (ne j o e1) e2, fun j k o1 o2 b e1 e2 e3 e4 => h.apart j k o1 o2 b (ne j o1 e1) (ne k o2 e2) e3 e4⟩
  by_cases hj : j = i
  · subst hj; rw [self s e1]; trivial
  · exact h.slot j s w (by rw [← get j hj]; exact e1) e2
/-- a thing of the store is changed -/
theorem Rel.setSto (h : Rel K cl G μ H σ st) {n : Nat} {o o' : MO} {a : Addr} {u : HO} (hn : st.S[n]? = some o) (ha : μ[n]? = some a) (hs : ObjR K cl μ (L2.upd H a u) o' a) :
    Rel K cl G μ (L2.upd H a u) σ { st with S := st.S.set n o' } := by
  have m : Mut (H a) ∨ H a = none := .inl (h.sto.at_ n o a hn ha).mut
  have hm : a ∈ μ := List.mem_of_getElem? ha
  have hl : n < st.S.length := (List.getElem?_eq_some_iff.mp hn).1
  refine ⟨⟨by rw [List.length_set]; exact h.sto.len, fun k p b e1 e2 => ?_, h.sto.nd, h.sto.out, fun b p q => ?_⟩, h.len, fun i s w e1 e2 => ?_, h.own, h.apart⟩
  · by_cases hk : k = n
    · subst hk
      rw [List.getElem?_set_self hl] at e1; cases e1
      rw [ha] at e2; cases e2
      exact hs
    · rw [List.getElem?_set_ne (Ne.symm hk)] at e1
      refine (h.sto.at_ k p b e1 e2).mono (List.prefix_refl _) (mono_upd m) fun w q => ?_
      rw [upd_ne]; exact q
      intro z; subst z
      have h1 := List.getElem?_eq_some_iff.mp ha
      have h2 := List.getElem?_eq_some_iff.mp e2
      exact hk ((List.getElem_inj h.sto.nd).mp (h2.2.trans h1.2.symm))
  · rw [upd_ne]; exact h.sto.keep b p q
    intro z; subst z; rw [h.sto.out b hm] at q; cases q
  · have q := h.slot i s w e1 e2
    cases s with
    | unb => trivial
    | shr d => obtain ⟨v, e, r⟩ := q; exact ⟨v, e, Rep.mono (List.prefix_refl _) (mono_upd m) _ _ r⟩
    | own o1 =>
      obtain ⟨b, e, r⟩ := q
      refine ⟨b, e, r.mono (List.prefix_refl _) (mono_upd m) fun w' q' => ?_⟩
      rw [upd_ne]; exact q'
      intro z; subst z
      rw [e] at e2
      exact (h.own i o1 b e1 e2).2 hm
/-- a new thing goes into the store -/
theorem Rel.newSto (h : Rel K cl G μ H σ st) {o : MO} {a : Addr} (ho : ObjR K cl μ H o a) (g : G a = none) (n : a ∉ μ) (no : ∀ (i : Nat) (o : MO), st.ρ[i]? = some (.own o) → σ[i]? ≠ some (some (.ref a))) :
    Rel K cl G (μ ++ [a]) H σ { st with S := st.S ++ [o] } := by
  have pf : μ <+: μ ++ [a] := List.prefix_append _ _
  refine ⟨⟨by rw [List.length_append, List.length_append, h.sto.len]; rfl, fun k p b e1 e2 => ?_, ?_, fun b hb => ?_, h.sto.keep⟩, h.len, fun i s w e1 e2 => ?_, fun i o1 b e1 e2 => ?_, h.apart⟩
  · by_cases hk : k < st.S.length
    · rw [List.getElem?_append_left hk] at e1
      rw [List.getElem?_append_left (by rw [← h.sto.len]; exact hk)] at e2
      exact (h.sto.at_ k p b e1 e2).mono pf (Mono.refl H) fun _ q => q
    · rw [List.getElem?_append_right (by omega)] at e1
      rw [List.getElem?_append_right (by rw [← h.sto.len]; omega)] at e2
      have z := (List.getElem?_eq_some_iff.mp e1).1
      have z1 : k - st.S.length = 0 := by simp at z; omega
      have z2 : k - μ.length = 0 := by rw [← h.sto.len]; exact z1
      rw [z1] at e1
      rw [z2] at e2
      simp at e1 e2
      subst e1; subst e2
      exact ho.mono pf (Mono.refl H) fun _ q => q
  · rw [List.nodup_append]
    refine ⟨h.sto.nd, by simp, fun x hx y hy => ?_⟩
    simp at hy; subst hy
    intro z; subst z; exact n hx
  · rcases List.mem_append.mp hb with hb | hb
    · exact h.sto.out b hb
    · simp at hb; subst hb; exact g
  · have q := h.slot i s w e1 e2
    cases s with
    | unb => trivial
    | shr d => obtain ⟨v, e, r⟩ := q; exact ⟨v, e, Rep.mono pf (Mono.refl H) _ _ r⟩
    | own o1 => obtain ⟨b, e, r⟩ := q; exact ⟨b, e, r.mono pf (Mono.refl H) fun _ q => q⟩
  · obtain ⟨g1, n1⟩ := h.own i o1 b e1 e2
    refine ⟨g1, fun hb => ?_⟩
    rcases List.mem_append.mp hb with hb | hb
    · exact n1 hb
    · simp at hb; subst hb; exact no i o1 e1 e2
end lemmas

/-- an error: its class, its dict if it has an __init__ -/
def ExcR (K : PySem.W.Frag) (cl : Nat → Addr) (μ : List Addr) (H : Hp) (C : Nat) (fs : List (Str × Val)) (c : Value) (d : Option Addr) : Prop :=
  c = .ref (cl C) ∧ ((fs = [] ∧ d = none) ∨ ∃ dd fs', d = some dd ∧ H dd = some (.xd fs') ∧ RepF K μ H fs fs')

/-- what has to hold of the end behind an answer -/
def Post (K : PySem.W.Frag) (cl : Nat → Addr) (W : WX) (G : Hp) (μ : List Addr) (H : Hp) (σ : L2.St) {α : Type} {β : Type} (R : List Addr → Hp → State → α → β → Prop) (Q : β → Hp → Prop) : Out α → Prop
  | .ok a st' => ∀ v H' μ', μ <+: μ' → Mono H H' → Rel K cl G μ' H' σ st' → R μ' H' st' a v → Q v H'
  | .exc C fs st' => ∀ c d H' μ', μ <+: μ' → Mono H H' → Rel K cl G μ' H' σ st' → ExcR K cl μ' H' C fs c d → W c d σ H'
  | .stuck => False

def RRV (K : PySem.W.Frag) (cl : Nat → Addr) (G : Hp) (σ : L2.St) (μ : List Addr) (H : Hp) (st : State) (r : RV) (v : V) : Prop :=
  match r with
  | .sh d => Rep K μ H d v
  | .fr o => ∃ a, v = .ref a ∧ ObjR K cl μ H o a ∧ G a = none ∧ a ∉ μ ∧ ∀ (i : Nat) (o' : MO), st.ρ[i]? = some (.own o') → σ[i]? ≠ some (some (.ref a))
/-- an operand: data, or a name whose content is looked at late -/
inductive Opd where
  | val (d : Val) | slot (i : Nat)
def ROp (K : PySem.W.Frag) (σ : L2.St) (μ : List Addr) (H : Hp) (_st : State) (r : Opd) (v : V) : Prop :=
  match r with
  | .val d => Rep K μ H d v
  | .slot i => σ[i]? = some (some v)

/-- the expression does what m says -/
structure SE (X : Cx) (cl : Nat → Addr) (W : WX) (e : Expr) (m : M RV) : Prop where
  pe : PE X e fun σ H Q => ∃ G μ st, Rel X.K cl G μ H σ st ∧ Post X.K cl W G μ H σ (RRV X.K cl G σ) Q (m st)
structure SV (X : Cx) (cl : Nat → Addr) (W : WX) (e : Expr) (m : M Val) : Prop where
  pe : PE X e fun σ H Q => ∃ G μ st, Rel X.K cl G μ H σ st ∧ Post X.K cl W G μ H σ (fun μ H _ d v => Rep X.K μ H d v) Q (m st)
structure SO (X : Cx) (cl : Nat → Addr) (W : WX) (e : Expr) (m : M Opd) : Prop where
  pe : PE X e fun σ H Q => ∃ G μ st, Rel X.K cl G μ H σ st ∧ Post X.K cl W G μ H σ (ROp X.K σ) Q (m st)

theorem Post.imp {K : PySem.W.Frag} {cl : Nat → Addr} {W : WX} {G : Hp} {μ μ1 : List Addr} {H H1 : Hp} {σ : L2.St} {α β : Type} {R : List Addr → Hp → State → α → β → Prop} {Q Q' : β → Hp → Prop} {o : Out α} (h : Post K cl W G μ H σ R Q o)
    (p : μ <+: μ1) (m : Mono H H1) (hQ : ∀ v H', Q v H' → Q' v H') : Post K cl W G μ1 H1 σ R Q' o := by
  cases o with
  | ok a st => exact fun v H' μ' p' m' r q => hQ _ _ (h v H' μ' (p.trans p') (m.trans m') r q)
  | exc C fs st => exact fun c d H' μ' p' m' r q => h c d H' μ' (p.trans p') (m.trans m') r q
  | stuck => exact h

/-- what comes first, then the rest -/
theorem Post.split {K : PySem.W.Frag} {cl : Nat → Addr} {W : WX} {G : Hp} {μ : List Addr} {H : Hp} {σ : L2.St} {α β γ δ : Type} {R1 : List Addr → Hp → State → α → γ → Prop} {R2 : List Addr → Hp → State → β → δ → Prop} {Q : δ → Hp → Prop} {m : M α} {f : α → M β} {st : State}
    (h : Post K cl W G μ H σ R2 Q (bnd m f st)) : Post K cl W G μ H σ R1 (fun v H1 => ∃ μ1 a st1, μ <+: μ1 ∧ Mono H H1 ∧ Rel K cl G μ1 H1 σ st1 ∧ R1 μ1 H1 st1 a v ∧ Post K cl W G μ1 H1 σ R2 Q (f a st1)) (m st) := by
  unfold bnd at h
  cases em : m st with
  | stuck => rw [em] at h; exact h.elim
  | exc C fs st' => rw [em] at h; exact h
  | ok a st' =>
    rw [em] at h
    exact fun v H' μ' p mo r q => ⟨μ', a, st', p, mo, r, q, h.imp p mo fun _ _ z => z⟩

section rules
variable {X : Cx} {cl : Nat → Addr} {W : WX} {e : Expr}
/-- data of a value: a fresh thing is frozen -/
theorem sv_of {m : M RV} (h : SE X cl W e m) : SV X cl W e (bnd m frz) := by
  refine ⟨⟨fun pins s σ H Q I hw => ?_⟩⟩
  obtain ⟨G, μ, st, rel, hw⟩ := hw
  refine thn (h.pe.run pins s σ H (fun v H1 => Q v H1 ∨ ∃ a u, v = .ref a ∧ H1 a = some u ∧ Mut (some u) ∧ ∀ o, Q v (L2.upd H1 a (.frz o u))) I ⟨G, μ, st, rel, ?_⟩) fun u s1 hq => ?_
  · unfold bnd at hw
    cases em : m st with
    | stuck => rw [em] at hw; exact hw
    | exc C fs st' => rw [em] at hw; exact hw
    | ok r st' =>
      rw [em] at hw
      cases r with
      | sh d => exact fun v H' μ' p mo r q => .inl (hw v H' μ' p mo r q)
      | fr o =>
        cases o with
        | lst ds =>
          intro v H' μ' p mo r q
          obtain ⟨a, rfl, ⟨vs, ea, rs⟩, g, n, no⟩ := q
          refine .inr ⟨a, _, rfl, ea, trivial, fun ob => hw _ _ μ' p (mo.trans (mono_upd (.inl (by rw [ea]; trivial)))) (r.upd (.inl (by rw [ea]; trivial)) g n no) ?_⟩
          exact ⟨a, vs, rfl, .inl ⟨ob, upd_same⟩, Reps.mono (List.prefix_refl _) (mono_upd (.inl (by rw [ea]; trivial))) _ _ rs⟩
        | dct ds =>
          intro v H' μ' p mo r q
          obtain ⟨a, rfl, ⟨vs, ea, rs⟩, g, n, no⟩ := q
          refine .inr ⟨a, _, rfl, ea, trivial, fun ob => hw _ _ μ' p (mo.trans (mono_upd (.inl (by rw [ea]; trivial)))) (r.upd (.inl (by rw [ea]; trivial)) g n no) ?_⟩
          exact ⟨a, ob, vs, rfl, upd_same, RepD.mono (List.prefix_refl _) (mono_upd (.inl (by rw [ea]; trivial))) _ _ rs⟩
        | ins C fs => exact hw.elim
  · obtain ⟨v, H1, I1, rv, q⟩ := hq
    rcases q with q | ⟨a, w, rfl, ea, mu, q⟩
    · exact ⟨v, H1, I1, rv, q⟩
    · obtain ⟨od, I2⟩ := I1.lock ea mu
      exact ⟨_, _, I2, rv, q od⟩
theorem so_of {m : M Val} (h : SV X cl W e m) : SO X cl W e (bnd m fun d => ret (.val d)) := by
  refine ⟨⟨fun pins s σ H Q I hw => ?_⟩⟩
  obtain ⟨G, μ, st, rel, hw⟩ := hw
  refine h.pe.run pins s σ H Q I ⟨G, μ, st, rel, ?_⟩
  unfold bnd at hw
  cases em : m st with
  | stuck => rw [em] at hw; exact hw
  | exc C fs st' => rw [em] at hw; exact hw
  | ok r st' => rw [em] at hw; exact fun v H' μ' p mo r q => hw v H' μ' p mo r q
theorem se_of {m : M Val} (h : SV X cl W e m) : SE X cl W e (bnd m fun d => ret (.sh d)) := by
  refine ⟨⟨fun pins s σ H Q I hw => ?_⟩⟩
  obtain ⟨G, μ, st, rel, hw⟩ := hw
  refine h.pe.run pins s σ H Q I ⟨G, μ, st, rel, ?_⟩
  unfold bnd at hw
  cases em : m st with
  | stuck => rw [em] at hw; exact hw
  | exc C fs st' => rw [em] at hw; exact hw
  | ok r st' => rw [em] at hw; exact fun v H' μ' p mo r q => hw v H' μ' p mo r q

/-! ### names, constants -/
def bound : Slot → Bool
  | .unb => false
  | _ => true
/-- a name as an operand -/
def oVar (i : Nat) : M Opd := fun st => match st.ρ[i]? with
  | some .unb => .stuck
  | some _ => .ok (.slot i) st
  | none => .stuck
/-- a name as data: what it has of its own is shared from now on -/
def vVar (i : Nat) : M Val := fun st => match st.ρ[i]? with
  | some (.shr d) => .ok d st
  | some (.own o) => match o.fz with
    | some d => .ok d { st with ρ := st.ρ.set i (.shr d) }
    | none => .stuck
  | _ => .stuck
/-- a name's content handed on: the name forgets it -/
def mVar (i : Nat) : M RV := fun st => match st.ρ[i]? with
  | some (.shr d) => .ok (.sh d) st
  | some (.own o) => .ok (.fr o) { st with ρ := st.ρ.set i .unb }
  | _ => .stuck
theorem so_var {i : Nat} {x : Str} {pos : Pos} (hN : X.N[i]? = some x) (hv : Vis X.env.scope x) (hd : (x == ("__debug__" : Str)) = false := by decide) (hcd : (x == ("__classdict__" : Str)) = false := by decide) :
    SO X cl W (.Name x pos) (oVar i) := by
  refine ⟨⟨fun pins s σ H Q I hw => ?_⟩⟩
  obtain ⟨G, μ, st, rel, hw⟩ := hw
  unfold oVar at hw
  cases es : st.ρ[i]? with
  | none => rw [es] at hw; exact hw.elim
  | some sl =>
    rw [es] at hw
    obtain ⟨w, ew, q⟩ := rel.get es
    have key : ∃ v, w = some v := by
      cases sl with
      | unb => exact hw.elim
      | shr d => obtain ⟨v, e, _⟩ := q; exact ⟨v, e⟩
      | own o => obtain ⟨a, e, _⟩ := q; exact ⟨_, e⟩
    obtain ⟨v, rfl⟩ := key
    refine (pe_var (i := i) hN hv hd hcd).run pins s σ H Q I ⟨v, ew, ?_⟩
    cases sl with
    | unb => exact hw.elim
    | shr d => exact hw v H μ (List.prefix_refl _) (Mono.refl H) rel ew
    | own o => exact hw v H μ (List.prefix_refl _) (Mono.refl H) rel ew
theorem sv_var {i : Nat} {x : Str} {pos : Pos} (hN : X.N[i]? = some x) (hv : Vis X.env.scope x) (hd : (x == ("__debug__" : Str)) = false := by decide) (hcd : (x == ("__classdict__" : Str)) = false := by decide) :
    SV X cl W (.Name x pos) (vVar i) := by
  refine ⟨⟨fun pins s σ H Q I hw => ?_⟩⟩
  obtain ⟨G, μ, st, rel, hw⟩ := hw
  unfold vVar at hw
  cases es : st.ρ[i]? with
  | none => rw [es] at hw; exact hw.elim
  | some sl =>
    rw [es] at hw
    obtain ⟨w, ew, q⟩ := rel.get es
    cases sl with
    | unb => exact hw.elim
    | shr d =>
      obtain ⟨v, rfl, r⟩ := q
      exact (pe_var (i := i) hN hv hd hcd).run pins s σ H Q I ⟨v, ew, hw v H μ (List.prefix_refl _) (Mono.refl H) rel r⟩
    | own o =>
      obtain ⟨a, rfl, r⟩ := q
      obtain ⟨u, eu⟩ := r.ex
      have mu : Mut (some u) := by rw [← eu]; exact r.mut
      obtain ⟨od, I2⟩ := I.lock eu mu
      have mo : Mono H (L2.upd H a (.frz od u)) := mono_upd (.inl r.mut)
      cases o with
      | lst ds =>
        obtain ⟨vs, ea, rs⟩ := r
        have eu' : u = .lst vs := by rw [ea] at eu; exact (Option.some.inj eu).symm
        subst eu'
        have rp : Rep X.K μ (L2.upd H a (.frz od (.lst vs))) (.list ds) (.ref a) := ⟨a, vs, rfl, .inl ⟨od, upd_same⟩, Reps.mono (List.prefix_refl _) mo _ _ rs⟩
        exact (pe_var (i := i) hN hv hd hcd).run pins s σ _ Q I2 ⟨_, ew, hw _ _ μ (List.prefix_refl _) mo (rel.setOwn es ew ⟨_, rfl, rp⟩) rp⟩
      | dct ds =>
        obtain ⟨vs, ea, rs⟩ := r
        have eu' : u = .dK vs := by rw [ea] at eu; exact (Option.some.inj eu).symm
        subst eu'
        have rp : Rep X.K μ (L2.upd H a (.frz od (.dK vs))) (.dict ds) (.ref a) := ⟨a, od, vs, rfl, upd_same, RepD.mono (List.prefix_refl _) mo _ _ rs⟩
        exact (pe_var (i := i) hN hv hd hcd).run pins s σ _ Q I2 ⟨_, ew, hw _ _ μ (List.prefix_refl _) mo (rel.setOwn es ew ⟨_, rfl, rp⟩) rp⟩
      | ins C fs => exact hw.elim
theorem se_mvar {i : Nat} {x : Str} {pos : Pos} (hN : X.N[i]? = some x) (hv : Vis X.env.scope x) (hd : (x == ("__debug__" : Str)) = false := by decide) (hcd : (x == ("__classdict__" : Str)) = false := by decide) :
    SE X cl W (.Name x pos) (mVar i) := by
  refine ⟨⟨fun pins s σ H Q I hw => ?_⟩⟩
  obtain ⟨G, μ, st, rel, hw⟩ := hw
  unfold mVar at hw
  cases es : st.ρ[i]? with
  | none => rw [es] at hw; exact hw.elim
  | some sl =>
    rw [es] at hw
    obtain ⟨w, ew, q⟩ := rel.get es
    cases sl with
    | unb => exact hw.elim
    | shr d =>
      obtain ⟨v, rfl, r⟩ := q
      exact (pe_var (i := i) hN hv hd hcd).run pins s σ H Q I ⟨v, ew, hw v H μ (List.prefix_refl _) (Mono.refl H) rel r⟩
    | own o =>
      obtain ⟨a, rfl, r⟩ := q
      obtain ⟨g, n⟩ := rel.own i o a es ew
      refine (pe_var (i := i) hN hv hd hcd).run pins s σ H Q I ⟨_, ew, hw _ H μ (List.prefix_refl _) (Mono.refl H) (rel.forget i) ⟨a, rfl, r, g, n, fun j o' e1 e2 => ?_⟩⟩
      by_cases hj : j = i
      · subst hj
        rw [List.getElem?_set_self (List.getElem?_eq_some_iff.mp es).1] at e1; cases e1
      · rw [List.getElem?_set_ne (Ne.symm hj)] at e1
        exact hj (rel.apart j i o' o a e1 es e2 ew)

/-- a constant, or another thing that is the value v whatever happens -/
theorem sv_c {d : Val} {v : V} (h : PE X e (tC v)) (r : ∀ μ H, Rep X.K μ H d v) : SV X cl W e (ret d) := by
  refine ⟨⟨fun pins s σ H Q I hw => ?_⟩⟩
  obtain ⟨G, μ, st, rel, hw⟩ := hw
  exact h.run pins s σ H Q I (hw v H μ (List.prefix_refl _) (Mono.refl H) rel (r μ H))
theorem sv_int {i : Int} {j : Nat} {pos : Pos} : SV X cl W (.Constant (.int i) j pos) (ret (.int i)) := sv_c pe_int fun _ _ => rfl
theorem sv_bl {b : Bool} {j : Nat} {pos : Pos} : SV X cl W (.Constant (.bool b) j pos) (ret (.bool b)) := sv_c pe_bl fun _ _ => rfl
theorem sv_non {j : Nat} {pos : Pos} : SV X cl W (.Constant .none j pos) (ret .none) := sv_c pe_non fun _ _ => rfl
theorem sv_str {x : Str} {j : Nat} {pos : Pos} : SV X cl W (.Constant (.str x) j pos) (ret (.str x)) := sv_c pe_str fun _ _ => rfl
end rules
end PV

/-! PvC: operands by content, operators, comparisons, displays, truth, conditions. -/
namespace PV
open PySem PySem.Spec L2

/-- d is to be read at v: the thing itself may be one that is still changed -/
def RepB (K : PySem.W.Frag) (μ : List Addr) (H : Hp) : Val → V → Prop
  | .list ds, v => ∃ a vs, v = .ref a ∧ SqL K H a vs ∧ Reps K μ H ds vs
  | .dict ds, v => ∃ a kvs, v = .ref a ∧ Rd H a (.dK kvs) ∧ RepD K μ H ds kvs
  | d, v => Rep K μ H d v
def deref (S : List MO) : Val → Val
  | .ref n => match S[n]? with
    | some (.lst ds) => .list ds
    | some (.dct ds) => .dict ds
    | _ => .ref n
  | d => d
def res (st : State) : Opd → Option Val
  | .val d => some (deref st.S d)
  | .slot i => match st.ρ[i]? with
    | some (.shr d) => some (deref st.S d)
    | some (.own o) => o.fz
    | _ => none

section
variable {K : PySem.W.Frag} {cl : Nat → Addr} {G H H' : Hp} {μ μ' : List Addr} {σ : L2.St} {st : State}
theorem Rep.b {d : Val} {v : V} (h : Rep K μ H d v) : RepB K μ H d v := by
  cases d with
  | list ds => obtain ⟨a, vs, e, q, r⟩ := h; exact ⟨a, vs, e, q.sq, r⟩
  | dict ds => obtain ⟨a, o, vs, e, q, r⟩ := h; exact ⟨a, vs, e, .inr ⟨o, q⟩, r⟩
  | _ => exact h
theorem ObjR.b {o : MO} {a : Addr} {d : Val} (h : ObjR K cl μ H o a) (e : o.fz = some d) : RepB K μ H d (.ref a) := by
  cases o with
  | lst ds => obtain ⟨vs, e1, r⟩ := h; cases e; exact ⟨a, vs, rfl, .inl (.inl e1), r⟩
  | dct ds => obtain ⟨vs, e1, r⟩ := h; cases e; exact ⟨a, vs, rfl, .inl e1, r⟩
  | ins C fs => cases e
theorem deref_b (h : StoR K cl G μ H st.S) {d : Val} {v : V} (r : Rep K μ H d v) : RepB K μ H (deref st.S d) v := by
  cases d with
  | ref n =>
    obtain ⟨a, rfl, e⟩ := r
    cases es : st.S[n]? with
    | none =>
      have q : deref st.S (.ref n) = .ref n := by simp only [deref, es]
      rw [q]; exact ⟨a, rfl, e⟩
    | some o =>
      cases o with
      | lst ds =>
        have q : deref st.S (.ref n) = .list ds := by simp only [deref, es]
        rw [q]; exact (h.at_ n _ a es e).b rfl
      | dct ds =>
        have q : deref st.S (.ref n) = .dict ds := by simp only [deref, es]
        rw [q]; exact (h.at_ n _ a es e).b rfl
      | ins C fs =>
        have q : deref st.S (.ref n) = .ref n := by simp only [deref, es]
        rw [q]; exact ⟨a, rfl, e⟩
  | _ => exact r.b
theorem res_b (h : Rel K cl G μ H σ st) {x : Opd} {d : Val} {v : V} (r : ROp K σ μ H st x v) (e : res st x = some d) : RepB K μ H d v := by
  cases x with
  | val d' => cases e; exact deref_b h.sto r
  | slot i =>
    cases es : st.ρ[i]? with
    | none => simp only [res, es] at e; cases e
    | some s =>
      simp only [res, es] at e
      have q := h.slot i s (some v) es r
      cases s with
      | unb => cases e
      | shr d' => obtain ⟨v', e1, q⟩ := q; cases e1; cases e; exact deref_b h.sto q
      | own o => obtain ⟨a, e1, q⟩ := q; cases e1; exact q.b e
theorem ROp.mono (p : μ <+: μ') (m : Mono H H') {st' : State} {x : Opd} {v : V} (h : ROp K σ μ H st x v) : ROp K σ μ' H' st' x v := by
  cases x with
  | val d => exact Rep.mono p m d v h
  | slot i => exact h

/-- a new value: data, or a thing just laid -/
def RNew (K : PySem.W.Frag) (cl : Nat → Addr) (μ : List Addr) (H H' : Hp) (r : RV) (v : V) : Prop :=
  match r with
  | .sh d => Rep K μ H' d v
  | .fr o => ∃ a, v = .ref a ∧ H a = none ∧ ObjR K cl μ H' o a
theorem Rel.noneG (h : Rel K cl G μ H σ st) {a : Addr} (n : H a = none) : G a = none ∧ a ∉ μ ∧ ∀ (i : Nat) (o' : MO), st.ρ[i]? = some (.own o') → σ[i]? ≠ some (some (.ref a)) := by
  refine ⟨?_, fun hm => ?_, fun i o e z => ?_⟩
  · cases e : G a with
    | none => rfl
    | some o => rw [h.sto.keep a o e] at n; cases n
  · obtain ⟨i, hi⟩ := List.getElem?_of_mem hm
    have hl := (List.getElem?_eq_some_iff.mp hi).1
    rw [← h.sto.len] at hl
    obtain ⟨u, e⟩ := (h.sto.at_ i _ a (List.getElem?_eq_getElem hl) hi).ex
    rw [e] at n; cases n
  · obtain ⟨b, e1, r⟩ := h.slot i _ _ e z
    cases e1
    obtain ⟨u, e2⟩ := r.ex
    rw [e2] at n; cases n
theorem RNew.rrv (h : Rel K cl G μ H σ st) {r : RV} {v : V} (q : RNew K cl μ H H' r v) : RRV K cl G σ μ H' st r v := by
  cases r with
  | sh d => exact q
  | fr o =>
    obtain ⟨a, e, n, r⟩ := q
    obtain ⟨g1, g2, g3⟩ := h.noneG n
    exact ⟨a, e, r, g1, g2, g3⟩
theorem Reps.length : ∀ {ds : List Val} {vs : List V}, Reps K μ H ds vs → ds.length = vs.length
  | [], vs, h => by cases (show vs = [] from h); rfl
  | d :: ds, vs, h => by
    obtain ⟨v, r, rfl, _, t⟩ := h
    rw [List.length_cons, List.length_cons, Reps.length t]
theorem RepD.length : ∀ {ds : List (Val × Val)} {vs : List (Key × V)}, RepD K μ H ds vs → ds.length = vs.length
  | [], vs, h => by cases (show vs = [] from h); rfl
  | (k, d) :: ds, vs, h => by
    obtain ⟨κ, v, r, rfl, _, _, t⟩ := h
    rw [List.length_cons, List.length_cons, RepD.length t]
end

/-! ### value rules -/
structure OpV (X : Cx) (cl : Nat → Addr) (F : Value → Value → Sem Value) (f : Val → Val → Option RV) : Prop where
  run : OpR X F fun x y H Q => ∃ μ dx dy r, RepB X.K μ H dx x ∧ RepB X.K μ H dy y ∧ f dx dy = some r ∧ ∀ v H', Ext H H' → RNew X.K cl μ H H' r v → Q v H'
structure IxV (X : Cx) (cl : Nat → Addr) (f : Val → Val → Option RV) : Prop where
  run : IxR X fun x y H Q => ∃ μ dx dy r, RepB X.K μ H dx x ∧ RepB X.K μ H dy y ∧ f dx dy = some r ∧ ∀ v H', Ext H H' → RNew X.K cl μ H H' r v → Q v H'
def RepBs (K : PySem.W.Frag) (μ : List Addr) (H : Hp) : List Val → List V → Prop
  | [], vs => vs = []
  | d :: ds, vs => ∃ v r, vs = v :: r ∧ RepB K μ H d v ∧ RepBs K μ H ds r
structure CallV (X : Cx) (cl : Nat → Addr) (F : Value) (f : List Val → Option RV) : Prop where
  run : CallR X F fun xs H Q => ∃ μ ds r, RepBs X.K μ H ds xs ∧ f ds = some r ∧ ∀ v H', Ext H H' → RNew X.K cl μ H H' r v → Q v H'

def k1 (f : Val → Option RV) (x : Opd) : M RV := fun st => match res st x with
  | some d => match f d with
    | some r => .ok r st
    | none => .stuck
  | none => .stuck
def k2 (f : Val → Val → Option RV) (x y : Opd) : M RV := fun st => match res st x with
  | some d => match res st y with
    | some e => match f d e with
      | some r => .ok r st
      | none => .stuck
    | none => .stuck
  | none => .stuck
def app1 (f : Val → Option RV) (m : M Opd) : M RV := bnd m fun x => k1 f x
def app2 (f : Val → Val → Option RV) (m n : M Opd) : M RV := bnd m fun x => bnd n fun y => k2 f x y

section
variable {K : PySem.W.Frag} {cl : Nat → Addr} {W : WX} {G H : Hp} {μ : List Addr} {σ : L2.St} {st : State} {Q : VK}
theorem k2_post {f : Val → Val → Option RV} {x y : Opd} {v u : V} (rel : Rel K cl G μ H σ st) (hw : Post K cl W G μ H σ (RRV K cl G σ) Q (k2 f x y st)) (rx : ROp K σ μ H st x v) (ry : ROp K σ μ H st y u) :
    ∃ μ dx dy r, RepB K μ H dx v ∧ RepB K μ H dy u ∧ f dx dy = some r ∧ ∀ v H', Ext H H' → RNew K cl μ H H' r v → Q v H' := by
  unfold k2 at hw
  cases e1 : res st x with
  | none => rw [e1] at hw; exact hw.elim
  | some dx =>
    rw [e1] at hw
    cases e2 : res st y with
    | none => rw [e2] at hw; exact hw.elim
    | some dy =>
      rw [e2] at hw
      dsimp only at hw
      cases e3 : f dx dy with
      | none => rw [e3] at hw; exact hw.elim
      | some r =>
        rw [e3] at hw
        exact ⟨μ, dx, dy, r, res_b rel rx e1, res_b rel ry e2, e3, fun v H' e q => hw v H' μ (List.prefix_refl _) e.mono (rel.ext e) (q.rrv rel)⟩
theorem k1_post {f : Val → Option RV} {x : Opd} {v : V} (rel : Rel K cl G μ H σ st) (hw : Post K cl W G μ H σ (RRV K cl G σ) Q (k1 f x st)) (rx : ROp K σ μ H st x v) :
    ∃ μ dx r, RepB K μ H dx v ∧ f dx = some r ∧ ∀ v H', Ext H H' → RNew K cl μ H H' r v → Q v H' := by
  unfold k1 at hw
  cases e1 : res st x with
  | none => rw [e1] at hw; exact hw.elim
  | some dx =>
    rw [e1] at hw
    dsimp only at hw
    cases e3 : f dx with
    | none => rw [e3] at hw; exact hw.elim
    | some r =>
      rw [e3] at hw
      exact ⟨μ, dx, r, res_b rel rx e1, e3, fun v H' e q => hw v H' μ (List.prefix_refl _) e.mono (rel.ext e) (q.rrv rel)⟩
end

section rules
variable {X : Cx} {cl : Nat → Addr} {W : WX} {a b : Expr} {ma mb : M Opd} {f : Val → Val → Option RV} {pos : Pos}
theorem two_op {σ : L2.St} {H : Hp} {Q : VK} (h : ∃ G μ st, Rel X.K cl G μ H σ st ∧ Post X.K cl W G μ H σ (RRV X.K cl G σ) Q (app2 f ma mb st)) :
    tOp (fun x y H Q => ∃ μ dx dy r, RepB X.K μ H dx x ∧ RepB X.K μ H dy y ∧ f dx dy = some r ∧ ∀ v H', Ext H H' → RNew X.K cl μ H H' r v → Q v H')
      (fun σ H Q => ∃ G μ st, Rel X.K cl G μ H σ st ∧ Post X.K cl W G μ H σ (ROp X.K σ) Q (ma st)) (fun σ H Q => ∃ G μ st, Rel X.K cl G μ H σ st ∧ Post X.K cl W G μ H σ (ROp X.K σ) Q (mb st)) σ H Q := by
  obtain ⟨G, μ, st, rel, hw⟩ := h
  refine ⟨G, μ, st, rel, (Post.split hw).imp (List.prefix_refl _) (Mono.refl H) fun v H1 ⟨μ1, x, st1, p1, m1, rel1, q1, hw1⟩ => ?_⟩
  refine ⟨G, μ1, st1, rel1, (Post.split hw1).imp (List.prefix_refl _) (Mono.refl H1) fun u H2 ⟨μ2, y, st2, p2, m2, rel2, q2, hw2⟩ => ?_⟩
  exact k2_post rel2 hw2 (q1.mono p2 m2) q2
theorem se_bin {op : Operator} (ho : OpV X cl (binaryOp op) f) (ha : SO X cl W a ma) (hb : SO X cl W b mb) : SE X cl W (.BinOp a op b pos) (app2 f ma mb) :=
  ⟨⟨fun pins s σ H Q I hw => (pe_op ho.run ha.pe hb.pe).run pins s σ H Q I (two_op hw)⟩⟩
theorem se_cmp {op : CmpOp} (ho : OpV X cl (compareOp op) f) (ha : SO X cl W a ma) (hb : SO X cl W b mb) (hm : behindInMarks op b = false) : SE X cl W (.Compare a [op] [b] pos) (app2 f ma mb) :=
  ⟨⟨fun pins s σ H Q I hw => (pe_cmpR ho.run ha.pe hb.pe hm).run pins s σ H Q I (two_op hw)⟩⟩
theorem se_ix (ho : IxV X cl f) (ha : SO X cl W a ma) (hb : SO X cl W b mb) (hs : PlainIx b) : SE X cl W (.Subscript a b pos) (app2 f ma mb) :=
  ⟨⟨fun pins s σ H Q I hw => (pe_ix ho.run ha.pe hb.pe hs).run pins s σ H Q I (two_op hw)⟩⟩

/-! ### tests -/
structure ST (X : Cx) (cl : Nat → Addr) (W : WX) (e : Expr) (m : M Bool) : Prop where
  pt : PT X e fun σ H Q => ∃ G μ st, Rel X.K cl G μ H σ st ∧ Post X.K cl W G μ H σ (fun _ _ _ a b => a = b) Q (m st)
/-- the same whatever stands around (and, or) -/
structure STW (X : Cx) (cl : Nat → Addr) (W : WX) (e : Expr) (m : M Bool) : Prop where
  pw : PW X e fun σ H Q => ∃ G μ st, Rel X.K cl G μ H σ st ∧ Post X.K cl W G μ H σ (fun _ _ _ a b => a = b) Q (m st)
theorem STW.t {e : Expr} {m : M Bool} (h : STW X cl W e m) : ST X cl W e m := ⟨h.pw.pt⟩
def asB : Val → M Bool
  | .bool b => ret b
  | _ => stk
/-- an expression whose value is True or False, as a test -/
theorem st_val {e : Expr} {m : M Val} (h : SV X cl W e m) (he : ∀ whole, isTrue e X.env whole = (do let v ← whole; standAt e.pos; holding [v] (truthy v)) := by intro _; rfl) : ST X cl W e (bnd m asB) := by
  refine ⟨⟨fun pins s σ H Q I hw => (pt_val h.pe he).run pins s σ H Q I ?_⟩⟩
  obtain ⟨G, μ, st, rel, hw⟩ := hw
  refine ⟨G, μ, st, rel, (Post.split hw).imp (List.prefix_refl _) (Mono.refl H) fun v H1 ⟨μ1, x, st1, p1, m1, rel1, q1, hw1⟩ => ?_⟩
  cases x with
  | bool b => cases (show v = .bl b from q1); exact ⟨b, rfl, hw1 b H1 μ1 (List.prefix_refl _) (Mono.refl _) rel1 rfl⟩
  | _ => exact hw1.elim
/-- a comparison as a test -/
def asB' : RV → M Bool
  | .sh (.bool b) => ret b
  | _ => stk
theorem st_cmp {op : CmpOp} (ho : OpV X cl (compareOp op) f) (ha : SO X cl W a ma) (hb : SO X cl W b mb) (hm : behindInMarks op b = false) : ST X cl W (.Compare a [op] [b] pos) (bnd (app2 f ma mb) asB') := by
  refine ⟨⟨fun pins s σ H Q I hw => (pt_cmpR ho.run ha.pe hb.pe hm).run pins s σ H Q I ?_⟩⟩
  obtain ⟨G, μ, st, rel, hw⟩ := hw
  refine two_op ⟨G, μ, st, rel, (Post.split hw).imp (List.prefix_refl _) (Mono.refl H) fun v H1 ⟨μ1, x, st1, p1, m1, rel1, q1, hw1⟩ => ?_⟩
  cases x with
  | sh d =>
    cases d with
    | bool b => cases (show v = .bl b from q1); exact ⟨b, rfl, hw1 b H1 μ1 (List.prefix_refl _) (Mono.refl _) rel1 rfl⟩
    | _ => exact hw1.elim
  | fr o => exact hw1.elim
def mAnd (m n : M Bool) : M Bool := bnd m fun b => if b = true then n else ret false
def mOr (m n : M Bool) : M Bool := bnd m fun b => if b = true then ret true else n
def mNot (m : M Bool) : M Bool := bnd m fun b => ret (!b)
def tST (X : Cx) (cl : Nat → Addr) (W : WX) (m : M Bool) : TT := fun σ H Q => ∃ G μ st, Rel X.K cl G μ H σ st ∧ Post X.K cl W G μ H σ (fun _ _ _ a b => a = b) Q (m st)
theorem tST_bnd {m : M Bool} {k : Bool → M Bool} {σ : L2.St} {H : Hp} {Q : Bool → Hp → Prop} (h : tST X cl W (bnd m k) σ H Q) : tST X cl W m σ H fun c H1 => tST X cl W (k c) σ H1 Q := by
  obtain ⟨G, μ, st, rel, hw⟩ := h
  refine ⟨G, μ, st, rel, (Post.split hw).imp (List.prefix_refl _) (Mono.refl H) fun v H1 ⟨μ1, x, st1, p1, m1, rel1, q1, hw1⟩ => ?_⟩
  subst q1
  exact ⟨G, μ1, st1, rel1, hw1⟩
theorem tST_ret {b : Bool} {σ : L2.St} {H : Hp} {Q : Bool → Hp → Prop} (h : tST X cl W (ret b) σ H Q) : Q b H := by
  obtain ⟨G, μ, st, rel, hw⟩ := h
  exact hw b H μ (List.prefix_refl _) (Mono.refl H) rel rfl
variable {m n : M Bool} {rest : List Expr}
theorem stw_and1 (ha : ST X cl W a m) : STW X cl W (.BoolOp .And [a] pos) m := ⟨pw_and1 ha.pt⟩
theorem stw_or1 (ha : ST X cl W a m) : STW X cl W (.BoolOp .Or [a] pos) m := ⟨pw_or1 ha.pt⟩
theorem stw_and (ha : ST X cl W a m) (hb : STW X cl W (.BoolOp .And (b :: rest) pos) n) : STW X cl W (.BoolOp .And (a :: b :: rest) pos) (mAnd m n) := by
  refine ⟨⟨fun wh pins s σ H Q I hw => (pw_and ha.pt hb.pw).run wh pins s σ H Q I ?_⟩⟩
  obtain ⟨G, μ, st, rel, q⟩ := tST_bnd hw
  refine ⟨G, μ, st, rel, q.imp (List.prefix_refl _) (Mono.refl H) fun c H1 z => ?_⟩
  cases c with
  | true => exact z
  | false => exact tST_ret z
theorem stw_or (ha : ST X cl W a m) (hb : STW X cl W (.BoolOp .Or (b :: rest) pos) n) : STW X cl W (.BoolOp .Or (a :: b :: rest) pos) (mOr m n) := by
  refine ⟨⟨fun wh pins s σ H Q I hw => (pw_or ha.pt hb.pw).run wh pins s σ H Q I ?_⟩⟩
  obtain ⟨G, μ, st, rel, q⟩ := tST_bnd hw
  refine ⟨G, μ, st, rel, q.imp (List.prefix_refl _) (Mono.refl H) fun c H1 z => ?_⟩
  cases c with
  | true => exact tST_ret z
  | false => exact z
theorem st_not (ha : ST X cl W a m) : ST X cl W (.UnaryOp .Not a pos) (mNot m) := by
  refine ⟨⟨fun pins s σ H Q I hw => (pt_not ha.pt).run pins s σ H Q I ?_⟩⟩
  obtain ⟨G, μ, st, rel, q⟩ := tST_bnd hw
  exact ⟨G, μ, st, rel, q.imp (List.prefix_refl _) (Mono.refl H) fun c H1 z => tST_ret z⟩

/-! ### .. as values -/
def vAnd (m n : M Val) : M Val := bnd m fun d => match d with
  | .bool true => n
  | .bool false => ret (.bool false)
  | _ => stk
def vOr (m n : M Val) : M Val := bnd m fun d => match d with
  | .bool false => n
  | .bool true => ret (.bool true)
  | _ => stk
def vNot (m : M Val) : M Val := bnd m fun d => match d with
  | .bool b => ret (.bool (!b))
  | _ => stk
def tSV (X : Cx) (cl : Nat → Addr) (W : WX) (m : M Val) : TE := fun σ H Q => ∃ G μ st, Rel X.K cl G μ H σ st ∧ Post X.K cl W G μ H σ (fun μ H _ d v => Rep X.K μ H d v) Q (m st)
theorem tSV_bnd {m : M Val} {k : Val → M Val} {σ : L2.St} {H : Hp} {Q : VK} (h : tSV X cl W (bnd m k) σ H Q) : tSV X cl W m σ H fun v H1 => ∃ d μ1, Rep X.K μ1 H1 d v ∧ tSV X cl W (k d) σ H1 Q := by
  obtain ⟨G, μ, st, rel, hw⟩ := h
  refine ⟨G, μ, st, rel, (Post.split hw).imp (List.prefix_refl _) (Mono.refl H) fun v H1 ⟨μ1, x, st1, p1, m1, rel1, q1, hw1⟩ => ?_⟩
  exact ⟨x, μ1, q1, G, μ1, st1, rel1, hw1⟩
theorem tSV_ret {d : Val} {v : V} {σ : L2.St} {H : Hp} {Q : VK} (h : tSV X cl W (ret d) σ H Q) (r : ∀ μ, Rep X.K μ H d v) : Q v H := by
  obtain ⟨G, μ, st, rel, hw⟩ := h
  exact hw v H μ (List.prefix_refl _) (Mono.refl H) rel (r μ)
theorem tSV_stk {σ : L2.St} {H : Hp} {Q : VK} (h : tSV X cl W stk σ H Q) : False := by
  obtain ⟨G, μ, st, rel, hw⟩ := h
  exact hw
theorem tSV_imp {m : M Val} {σ : L2.St} {H : Hp} {Q Q' : VK} (h : tSV X cl W m σ H Q) (q : ∀ v H', Q v H' → Q' v H') : tSV X cl W m σ H Q' := by
  obtain ⟨G, μ, st, rel, hw⟩ := h
  exact ⟨G, μ, st, rel, hw.imp (List.prefix_refl _) (Mono.refl H) q⟩
variable {va vb : M Val}
theorem sv_one {op : BoolOp} (h : SV X cl W a va) : SV X cl W (.BoolOp op [a] pos) va := ⟨pe_one h.pe⟩
theorem sv_and (ha : SV X cl W a va) (hb : SV X cl W (.BoolOp .And (b :: rest) pos) vb) : SV X cl W (.BoolOp .And (a :: b :: rest) pos) (vAnd va vb) := by
  refine ⟨⟨fun pins s σ H Q I hw => (pe_and ha.pe hb.pe).run pins s σ H Q I ?_⟩⟩
  refine tSV_imp (tSV_bnd hw) fun v H1 ⟨d, μ1, r, z⟩ => ?_
  cases d with
  | bool c =>
    cases (show v = .bl c from r)
    cases c with
    | true => exact ⟨true, rfl, z⟩
    | false => exact ⟨false, rfl, tSV_ret z fun _ => rfl⟩
  | _ => exact (tSV_stk z).elim
theorem sv_or (ha : SV X cl W a va) (hb : SV X cl W (.BoolOp .Or (b :: rest) pos) vb) : SV X cl W (.BoolOp .Or (a :: b :: rest) pos) (vOr va vb) := by
  refine ⟨⟨fun pins s σ H Q I hw => (pe_or ha.pe hb.pe).run pins s σ H Q I ?_⟩⟩
  refine tSV_imp (tSV_bnd hw) fun v H1 ⟨d, μ1, r, z⟩ => ?_
  cases d with
  | bool c =>
    cases (show v = .bl c from r)
    cases c with
    | true => exact ⟨true, rfl, tSV_ret z fun _ => rfl⟩
    | false => exact ⟨false, rfl, z⟩
  | _ => exact (tSV_stk z).elim
theorem sv_not (ha : SV X cl W a va) : SV X cl W (.UnaryOp .Not a pos) (vNot va) := by
  refine ⟨⟨fun pins s σ H Q I hw => (pe_not ha.pe).run pins s σ H Q I ?_⟩⟩
  refine tSV_imp (tSV_bnd hw) fun v H1 ⟨d, μ1, r, z⟩ => ?_
  cases d with
  | bool c => cases (show v = .bl c from r); exact ⟨c, rfl, tSV_ret z fun _ => rfl⟩
  | _ => exact (tSV_stk z).elim
/-- a if t else b -/
def mIf {α : Type} (c : M Bool) (m n : M α) : M α := bnd c fun k => if k = true then m else n
theorem se_if {c : Expr} {mc : M Bool} {m n : M RV} (hc : ST X cl W c mc) (ha : SE X cl W a m) (hb : SE X cl W b n) : SE X cl W (.IfExp c a b pos) (mIf mc m n) := by
  refine ⟨⟨fun pins s σ H Q I hw => (pe_ifExp hc.pt ha.pe hb.pe).run pins s σ H Q I ?_⟩⟩
  obtain ⟨G, μ, st, rel, hw⟩ := hw
  refine ⟨G, μ, st, rel, (Post.split hw).imp (List.prefix_refl _) (Mono.refl H) fun v H1 ⟨μ1, x, st1, p1, m1, rel1, q1, hw1⟩ => ?_⟩
  subst q1
  cases x with
  | true => exact ⟨G, μ1, st1, rel1, hw1⟩
  | false => exact ⟨G, μ1, st1, rel1, hw1⟩

/-! ### argument lists, displays -/
structure SVs (X : Cx) (cl : Nat → Addr) (W : WX) (es : List Expr) (m : M (List Val)) : Prop where
  pa : PA X es fun σ H Q => ∃ G μ st, Rel X.K cl G μ H σ st ∧ Post X.K cl W G μ H σ (fun μ H _ d v => d.length = es.length ∧ Reps X.K μ H d v) Q (m st)
def mCons (m : M Val) (n : M (List Val)) : M (List Val) := bnd m fun d => bnd n fun ds => ret (d :: ds)
theorem svs_nil : SVs X cl W [] (ret []) := by
  refine ⟨⟨fun pos pins s σ H Q I hw => pa_nil.run pos pins s σ H Q I ?_⟩⟩
  obtain ⟨G, μ, st, rel, hw⟩ := hw
  exact hw [] H μ (List.prefix_refl _) (Mono.refl H) rel ⟨rfl, rfl⟩
theorem svs_cons {e : Expr} {es : List Expr} {m : M Val} {ms : M (List Val)} (h : SV X cl W e m) (hs : SVs X cl W es ms) (hst : starEach (e :: es) X.env = (false, eval e X.env) :: starEach es X.env := by rfl) : SVs X cl W (e :: es) (mCons m ms) := by
  refine ⟨⟨fun pos pins s σ H Q I hw => (pa_cons h.pe hs.pa hst).run pos pins s σ H Q I ?_⟩⟩
  obtain ⟨G, μ, st, rel, hw⟩ := hw
  refine ⟨G, μ, st, rel, (Post.split hw).imp (List.prefix_refl _) (Mono.refl H) fun v H1 ⟨μ1, x, st1, p1, m1, rel1, q1, hw1⟩ => ?_⟩
  refine ⟨G, μ1, st1, rel1, (Post.split hw1).imp (List.prefix_refl _) (Mono.refl H1) fun vs H2 ⟨μ2, xs, st2, p2, m2, rel2, q2, hw2⟩ => ?_⟩
  exact hw2 _ H2 μ2 (List.prefix_refl _) (Mono.refl _) rel2 ⟨by rw [List.length_cons, List.length_cons, q2.1], v, vs, rfl, Rep.mono p2 m2 _ _ q1, q2.2⟩
structure SOs (X : Cx) (cl : Nat → Addr) (W : WX) (es : List Expr) (m : M (List Opd)) : Prop where
  pa : PA X es fun σ H Q => ∃ G μ st, Rel X.K cl G μ H σ st ∧ Post X.K cl W G μ H σ (fun μ H st d v => Paired (ROp X.K σ μ H st) d v) Q (m st)
def oCons (m : M Opd) (n : M (List Opd)) : M (List Opd) := bnd m fun d => bnd n fun ds => ret (d :: ds)
theorem sos_nil : SOs X cl W [] (ret []) := by
  refine ⟨⟨fun pos pins s σ H Q I hw => pa_nil.run pos pins s σ H Q I ?_⟩⟩
  obtain ⟨G, μ, st, rel, hw⟩ := hw
  exact hw [] H μ (List.prefix_refl _) (Mono.refl H) rel .nil
theorem sos_cons {e : Expr} {es : List Expr} {m : M Opd} {ms : M (List Opd)} (h : SO X cl W e m) (hs : SOs X cl W es ms) (hst : starEach (e :: es) X.env = (false, eval e X.env) :: starEach es X.env := by rfl) : SOs X cl W (e :: es) (oCons m ms) := by
  refine ⟨⟨fun pos pins s σ H Q I hw => (pa_cons h.pe hs.pa hst).run pos pins s σ H Q I ?_⟩⟩
  obtain ⟨G, μ, st, rel, hw⟩ := hw
  refine ⟨G, μ, st, rel, (Post.split hw).imp (List.prefix_refl _) (Mono.refl H) fun v H1 ⟨μ1, x, st1, p1, m1, rel1, q1, hw1⟩ => ?_⟩
  refine ⟨G, μ1, st1, rel1, (Post.split hw1).imp (List.prefix_refl _) (Mono.refl H1) fun vs H2 ⟨μ2, xs, st2, p2, m2, rel2, q2, hw2⟩ => ?_⟩
  exact hw2 _ H2 μ2 (List.prefix_refl _) (Mono.refl _) rel2 (.cons (ROp.mono p2 m2 q1) q2)

theorem sv_tup {es : List Expr} {ms : M (List Val)} {x1 : Nat} (h : SVs X cl W es ms) (hl : es.length ≤ 1000 := by decide) : SV X cl W (.Tuple es x1 pos) (bnd ms fun ds => ret (.tup ds)) := by
  refine ⟨⟨fun pins s σ H Q I hw => (pe_tup h.pa).run pins s σ H Q I ?_⟩⟩
  obtain ⟨G, μ, st, rel, hw⟩ := hw
  refine ⟨G, μ, st, rel, (Post.split hw).imp (List.prefix_refl _) (Mono.refl H) fun vs H1 ⟨μ1, ds, st1, p1, m1, rel1, q1, hw1⟩ => ?_⟩
  have e2 := Reps.length q1.2
  refine ⟨by rw [sizeLine_eq]; omega, fun pa hn => ?_⟩
  have ex : Ext H1 (L2.upd H1 pa (.tup vs)) := Ext.new hn
  exact hw1 _ _ μ1 (List.prefix_refl _) ex.mono (rel1.ext ex) ⟨pa, vs, rfl, SqT.of upd_same, Reps.mono (List.prefix_refl _) ex.mono _ _ q1.2⟩
theorem se_lst {es : List Expr} {ms : M (List Val)} (h : SVs X cl W es ms) (hl : es.length ≤ 1000 := by decide) : SE X cl W (.List es pos) (bnd ms fun ds => ret (.fr (.lst ds))) := by
  refine ⟨⟨fun pins s σ H Q I hw => (pe_lst h.pa).run pins s σ H Q I ?_⟩⟩
  obtain ⟨G, μ, st, rel, hw⟩ := hw
  refine ⟨G, μ, st, rel, (Post.split hw).imp (List.prefix_refl _) (Mono.refl H) fun vs H1 ⟨μ1, ds, st1, p1, m1, rel1, q1, hw1⟩ => ?_⟩
  have e2 := Reps.length q1.2
  refine ⟨by rw [sizeLine_eq]; omega, fun pa hn => ?_⟩
  have ex : Ext H1 (L2.upd H1 pa (.lst vs)) := Ext.new hn
  obtain ⟨g1, g2, g3⟩ := rel1.noneG hn
  exact hw1 _ _ μ1 (List.prefix_refl _) ex.mono (rel1.ext ex) ⟨pa, rfl, ⟨vs, upd_same, Reps.mono (List.prefix_refl _) ex.mono _ _ q1.2⟩, g1, g2, g3⟩
theorem se_dict0 : SE X cl W (.Dict [] [] pos) (ret (.fr (.dct []))) := by
  refine ⟨⟨fun pins s σ H Q I hw => pe_dnewK.run pins s σ H Q I ?_⟩⟩
  obtain ⟨G, μ, st, rel, hw⟩ := hw
  intro pa hn
  have ex : Ext H (L2.upd H pa (.dK [])) := Ext.new hn
  obtain ⟨g1, g2, g3⟩ := rel.noneG hn
  exact hw _ _ μ (List.prefix_refl _) ex.mono (rel.ext ex) ⟨pa, rfl, ⟨[], upd_same, rfl⟩, g1, g2, g3⟩
end rules
end PV

/-! PvD: statements, targets, loops, defs. -/
namespace PV
open PySem PySem.Spec L2

/-- where a statement goes on -/
inductive Fl where
  | nx | bk | ct | rt (r : RV)

def PostS (K : PySem.W.Frag) (cl : Nat → Addr) (W : WX) (G : Hp) (μ : List Addr) (H : Hp) (D : Ends) : Out Fl → Prop
  | .ok .nx st' => ∀ σ' H' μ', μ <+: μ' → Mono H H' → Rel K cl G μ' H' σ' st' → D.nx σ' H'
  | .ok .bk st' => ∀ σ' H' μ', μ <+: μ' → Mono H H' → Rel K cl G μ' H' σ' st' → D.bk σ' H'
  | .ok .ct st' => ∀ σ' H' μ', μ <+: μ' → Mono H H' → Rel K cl G μ' H' σ' st' → D.ct σ' H'
  | .ok (.rt r) st' => ∀ v σ' H' μ', μ <+: μ' → Mono H H' → Rel K cl G μ' H' σ' st' → RRV K cl G σ' μ' H' st' r v → D.rt v H'
  | .exc C fs st' => ∀ c d σ' H' μ', μ <+: μ' → Mono H H' → Rel K cl G μ' H' σ' st' → ExcR K cl μ' H' C fs c d → W c d σ' H'
  | .stuck => False
/-- the same for the names' store -/
def PostG (K : PySem.W.Frag) (cl : Nat → Addr) (W : WX) (G : Hp) (μ : List Addr) (H : Hp) (Q : L2.St → Hp → Prop) : Out Unit → Prop
  | .ok _ st' => ∀ σ' H' μ', μ <+: μ' → Mono H H' → Rel K cl G μ' H' σ' st' → Q σ' H'
  | .exc C fs st' => ∀ c d σ' H' μ', μ <+: μ' → Mono H H' → Rel K cl G μ' H' σ' st' → ExcR K cl μ' H' C fs c d → W c d σ' H'
  | .stuck => False
structure SS (X : Cx) (cl : Nat → Addr) (W : WX) (s : Stmt) (m : M Fl) : Prop where
  ps : PS X s fun D σ H => ∃ G μ st, Rel X.K cl G μ H σ st ∧ PostS X.K cl W G μ H D (m st)
structure SSs (X : Cx) (cl : Nat → Addr) (W : WX) (s : List Stmt) (m : M Fl) : Prop where
  pss : PSs X s fun D σ H => ∃ G μ st, Rel X.K cl G μ H σ st ∧ PostS X.K cl W G μ H D (m st)
/-- all slots but some are as they were -/
def SameB (vs : List Nat) (σ σ' : L2.St) : Prop := σ'.length = σ.length ∧ ∀ (i : Nat), i ∉ vs → σ'[i]? = σ[i]?
theorem SameB.refl (vs : List Nat) (σ : L2.St) : SameB vs σ σ := ⟨rfl, fun _ _ => rfl⟩
theorem SameB.trans {vs ws : List Nat} {σ σ1 σ2 : L2.St} (a : SameB vs σ σ1) (b : SameB ws σ1 σ2) : SameB (vs ++ ws) σ σ2 :=
  ⟨b.1.trans a.1, fun i hi => (b.2 i fun z => hi (List.mem_append_right _ z)).trans (a.2 i fun z => hi (List.mem_append_left _ z))⟩
/-- a target: the name, the names of a tuple; vs: their slots -/
structure SG (X : Cx) (cl : Nat → Addr) (W : WX) (tg : Expr) (vs : List Nat) (t : RV → M Unit) : Prop where
  pg : PG X tg fun v σ H Q => ∃ G μ st r, Rel X.K cl G μ H σ st ∧ RRV X.K cl G σ μ H st r v ∧ PostG X.K cl W G μ H (fun σ' H' => SameB vs σ σ' → Q σ' H') (t r st)
structure SGs (X : Cx) (cl : Nat → Addr) (W : WX) (tg : List Expr) (vs : List Nat) (t : List RV → M Unit) : Prop where
  pgs : PGs X tg fun us σ H Q => ∃ G μ st ds, Rel X.K cl G μ H σ st ∧ Reps X.K μ H ds us ∧ PostG X.K cl W G μ H (fun σ' H' => SameB vs σ σ' → Q σ' H') (t (ds.map .sh) st)

section
variable {K : PySem.W.Frag} {cl : Nat → Addr} {W : WX} {G : Hp} {μ μ1 : List Addr} {H H1 : Hp} {σ : L2.St} {st : State}
theorem PostS.imp {D D' : Ends} {o : Out Fl} (h : PostS K cl W G μ H D o) (p : μ <+: μ1) (m : Mono H H1) (h1 : ∀ σ H, D.nx σ H → D'.nx σ H) (h2 : ∀ v H, D.rt v H → D'.rt v H) (h3 : ∀ σ H, D.bk σ H → D'.bk σ H) (h4 : ∀ σ H, D.ct σ H → D'.ct σ H) : PostS K cl W G μ1 H1 D' o := by
  cases o with
  | ok f st' =>
    cases f with
    | nx => exact fun σ' H' μ' p' m' r => h1 _ _ (h σ' H' μ' (p.trans p') (m.trans m') r)
    | bk => exact fun σ' H' μ' p' m' r => h3 _ _ (h σ' H' μ' (p.trans p') (m.trans m') r)
    | ct => exact fun σ' H' μ' p' m' r => h4 _ _ (h σ' H' μ' (p.trans p') (m.trans m') r)
    | rt r => exact fun v σ' H' μ' p' m' r q => h2 _ _ (h v σ' H' μ' (p.trans p') (m.trans m') r q)
  | exc C fs st' => exact fun c d σ' H' μ' p' m' r q => h c d σ' H' μ' (p.trans p') (m.trans m') r q
  | stuck => exact h
theorem PostS.up {D : Ends} {o : Out Fl} (h : PostS K cl W G μ H D o) (p : μ <+: μ1) (m : Mono H H1) : PostS K cl W G μ1 H1 D o := h.imp p m (fun _ _ z => z) (fun _ _ z => z) (fun _ _ z => z) fun _ _ z => z
theorem PostG.imp {Q Q' : L2.St → Hp → Prop} {o : Out Unit} (h : PostG K cl W G μ H Q o) (p : μ <+: μ1) (m : Mono H H1) (h1 : ∀ σ H, Q σ H → Q' σ H) : PostG K cl W G μ1 H1 Q' o := by
  cases o with
  | ok f st' => exact fun σ' H' μ' p' m' r => h1 _ _ (h σ' H' μ' (p.trans p') (m.trans m') r)
  | exc C fs st' => exact fun c d σ' H' μ' p' m' r q => h c d σ' H' μ' (p.trans p') (m.trans m') r q
  | stuck => exact h
/-- an expression first, then a statement's rest -/
theorem PostS.split {α β : Type} {R1 : List Addr → Hp → State → α → β → Prop} {D : Ends} {m : M α} {f : α → M Fl} (h : PostS K cl W G μ H D (bnd m f st)) :
    Post K cl W G μ H σ R1 (fun v H1 => ∃ μ1 a st1, μ <+: μ1 ∧ Mono H H1 ∧ Rel K cl G μ1 H1 σ st1 ∧ R1 μ1 H1 st1 a v ∧ PostS K cl W G μ1 H1 D (f a st1)) (m st) := by
  unfold bnd at h
  cases em : m st with
  | stuck => rw [em] at h; exact h.elim
  | exc C fs st' => rw [em] at h; exact fun c d H' μ' p mo r q => h c d σ H' μ' p mo r q
  | ok a st' =>
    rw [em] at h
    exact fun v H' μ' p mo r q => ⟨μ', a, st', p, mo, r, q, h.up p mo⟩
theorem PostS.splitG {D : Ends} {m : M Unit} {f : Unit → M Fl} (h : PostS K cl W G μ H D (bnd m f st)) :
    PostG K cl W G μ H (fun σ1 H1 => ∃ μ1 st1, μ <+: μ1 ∧ Mono H H1 ∧ Rel K cl G μ1 H1 σ1 st1 ∧ PostS K cl W G μ1 H1 D (f () st1)) (m st) := by
  unfold bnd at h
  cases em : m st with
  | stuck => rw [em] at h; exact h.elim
  | exc C fs st' => rw [em] at h; exact h
  | ok a st' =>
    rw [em] at h
    exact fun σ' H' μ' p mo r => ⟨μ', st', p, mo, r, h.up p mo⟩
theorem PostG.split {Q : L2.St → Hp → Prop} {m : M Unit} {f : Unit → M Unit} (h : PostG K cl W G μ H Q (bnd m f st)) :
    PostG K cl W G μ H (fun σ1 H1 => ∃ μ1 st1, μ <+: μ1 ∧ Mono H H1 ∧ Rel K cl G μ1 H1 σ1 st1 ∧ PostG K cl W G μ1 H1 Q (f () st1)) (m st) := by
  unfold bnd at h
  cases em : m st with
  | stuck => rw [em] at h; exact h.elim
  | exc C fs st' => rw [em] at h; exact h
  | ok a st' =>
    rw [em] at h
    exact fun σ' H' μ' p mo r => ⟨μ', st', p, mo, r, h.imp p mo fun _ _ z => z⟩
end

/-! ### blocks -/
def mSeq (m n : M Fl) : M Fl := bnd m fun f => match f with
  | .nx => n
  | f => ret f
section
variable {X : Cx} {cl : Nat → Addr} {W : WX} {s : Stmt} {rest : List Stmt} {m n : M Fl} {e : Expr} {pos : Pos}
theorem sss_nil : SSs X cl W [] (ret .nx) := by
  refine ⟨⟨fun pins s σ H D I hw => pss_nil.run pins s σ H D I ?_⟩⟩
  obtain ⟨G, μ, st, rel, hw⟩ := hw
  exact hw σ H μ (List.prefix_refl _) (Mono.refl H) rel
theorem sss_cons (h1 : SS X cl W s m) (h2 : SSs X cl W rest n) : SSs X cl W (s :: rest) (mSeq m n) := by
  refine ⟨⟨fun pins s σ H D I hw => (pss_cons h1.ps h2.pss).run pins s σ H D I ?_⟩⟩
  obtain ⟨G, μ, st, rel, hw⟩ := hw
  refine ⟨G, μ, st, rel, ?_⟩
  unfold mSeq bnd at hw
  cases em : m st with
  | stuck => rw [em] at hw; exact hw.elim
  | exc C fs st' => rw [em] at hw; exact hw
  | ok f st' =>
    rw [em] at hw
    cases f with
    | nx => exact fun σ' H' μ' p mo r => ⟨G, μ', st', r, hw.up p mo⟩
    | bk => exact hw
    | ct => exact hw
    | rt r => exact hw
theorem sss_one (h : SS X cl W s m) : SSs X cl W [s] m := ⟨⟨fun pins s σ H D I hw => (pss_one h.ps).run pins s σ H D I hw⟩⟩
theorem ss_pass : SS X cl W (.Pass pos) (ret .nx) := by
  refine ⟨⟨fun pins s σ H D I hw => ps_pass.run pins s σ H D I ?_⟩⟩
  obtain ⟨G, μ, st, rel, hw⟩ := hw
  exact hw σ H μ (List.prefix_refl _) (Mono.refl H) rel
theorem ss_break : SS X cl W (.Break pos) (ret .bk) := by
  refine ⟨⟨fun pins s σ H D I hw => ps_break.run pins s σ H D I ?_⟩⟩
  obtain ⟨G, μ, st, rel, hw⟩ := hw
  exact hw σ H μ (List.prefix_refl _) (Mono.refl H) rel
theorem ss_cont : SS X cl W (.Continue pos) (ret .ct) := by
  refine ⟨⟨fun pins s σ H D I hw => ps_continue.run pins s σ H D I ?_⟩⟩
  obtain ⟨G, μ, st, rel, hw⟩ := hw
  exact hw σ H μ (List.prefix_refl _) (Mono.refl H) rel
/-- what is never come to -/
theorem ss_never : SS X cl W s stk := by
  refine ⟨⟨fun pins s σ H D I hw => ?_⟩⟩
  obtain ⟨G, μ, st, rel, hw⟩ := hw
  exact hw.elim
theorem ss_ret {me : M RV} (he : SE X cl W e me) : SS X cl W (.Return (some e) pos) (bnd me fun r => ret (.rt r)) := by
  refine ⟨⟨fun pins s σ H D I hw => (ps_ret he.pe).run pins s σ H D I ?_⟩⟩
  obtain ⟨G, μ, st, rel, hw⟩ := hw
  exact ⟨G, μ, st, rel, (PostS.split hw).imp (List.prefix_refl _) (Mono.refl H) fun v H1 ⟨μ1, r, st1, p1, m1, rel1, q1, hw1⟩ => hw1 v σ H1 μ1 (List.prefix_refl _) (Mono.refl _) rel1 q1⟩
theorem ss_retN : SS X cl W (.Return none pos) (ret (.rt (.sh .none))) := by
  refine ⟨⟨fun pins s σ H D I hw => ps_retN.run pins s σ H D I ?_⟩⟩
  obtain ⟨G, μ, st, rel, hw⟩ := hw
  exact hw .non σ H μ (List.prefix_refl _) (Mono.refl H) rel rfl
theorem ss_expr {me : M RV} (he : SE X cl W e me) (hs : swapsWith e none pos.line X.env = pure false := by rfl) : SS X cl W (.Expr e pos) (bnd me fun _ => ret .nx) := by
  refine ⟨⟨fun pins s σ H D I hw => (ps_expr he.pe hs).run pins s σ H D I ?_⟩⟩
  obtain ⟨G, μ, st, rel, hw⟩ := hw
  exact ⟨G, μ, st, rel, (PostS.split hw).imp (List.prefix_refl _) (Mono.refl H) fun v H1 ⟨μ1, r, st1, p1, m1, rel1, q1, hw1⟩ => hw1 σ H1 μ1 (List.prefix_refl _) (Mono.refl _) rel1⟩
theorem ss_if {c : Expr} {a b : List Stmt} {mc : M Bool} (hc : ST X cl W c mc) (ha : SSs X cl W a m) (hb : SSs X cl W b n) : SS X cl W (.If c a b pos) (mIf mc m n) := by
  refine ⟨⟨fun pins s σ H D I hw => (ps_if hc.pt ha.pss hb.pss).run pins s σ H D I ?_⟩⟩
  obtain ⟨G, μ, st, rel, hw⟩ := hw
  refine ⟨G, μ, st, rel, (PostS.split hw).imp (List.prefix_refl _) (Mono.refl H) fun v H1 ⟨μ1, x, st1, p1, m1, rel1, q1, hw1⟩ => ?_⟩
  subst q1
  cases x with
  | true => exact ⟨G, μ1, st1, rel1, hw1⟩
  | false => exact ⟨G, μ1, st1, rel1, hw1⟩

/-! ### stores to names -/
def RV.slot : RV → Slot
  | .sh d => .shr d
  | .fr o => .own o
def mStore (i : Nat) (r : RV) : M Unit := fun st => .ok () { st with ρ := st.ρ.set i r.slot }
theorem rel_store {K : PySem.W.Frag} {G : Hp} {μ : List Addr} {H : Hp} {σ : L2.St} {st : State} {i : Nat} {r : RV} {v : V} (rel : Rel K cl G μ H σ st) (q : RRV K cl G σ μ H st r v) : Rel K cl G μ H (σ.set i (some v)) { st with ρ := st.ρ.set i r.slot } := by
  cases r with
  | sh d => exact rel.store (s' := .shr d) ⟨v, rfl, q⟩ fun o a e => nomatch e
  | fr o =>
    obtain ⟨a, rfl, ob, g, n, no⟩ := q
    refine rel.store (s' := .own o) ⟨a, rfl, ob⟩ fun o' a' e e2 => ?_
    cases e2
    exact ⟨g, n, no⟩
theorem sg_name {i : Nat} {x : Str} (hN : X.N.Nodup) (hi : X.N[i]? = some x) (hx : Loc X.env.scope x) (hf : X.fn x = true ∨ X.env.scope.names.lookup x = some .local := by first | exact .inl rfl | exact .inr rfl | assumption) : SG X cl W (.Name x pos) [i] (mStore i) := by
  refine ⟨⟨fun pins s σ H v u Q I rv hw => (pg_name hN hi hx hf).run pins s σ H v u Q I rv ?_⟩⟩
  obtain ⟨G, μ, st, r, rel, q, hw⟩ := hw
  exact hw _ H μ (List.prefix_refl _) (Mono.refl H) (rel_store rel q) ⟨by rw [List.length_set], fun j hj => List.getElem?_set_ne (fun z => hj (by simp [z]))⟩
theorem ss_asg {tg : Expr} {vs : List Nat} {me : M RV} {t : RV → M Unit} (he : SE X cl W e me) (hg : SG X cl W tg vs t) (hs : swapsWithSole [tg] e pos.line X.env = pure false := by rfl) (hw : swappedStores [tg] e X.env = pure none := by rfl)
    (h1 : (assignEach [tg] X.env).map (·.2) = [assign tg X.env] := by rfl) : SS X cl W (.Assign [tg] e pos) (bnd me fun r => bnd (t r) fun _ => ret .nx) := by
  refine ⟨⟨fun pins s σ H D I hw' => (ps_asg he.pe hg.pg hs hw h1).run pins s σ H D I ?_⟩⟩
  obtain ⟨G, μ, st, rel, hw'⟩ := hw'
  refine ⟨G, μ, st, rel, (PostS.split hw').imp (List.prefix_refl _) (Mono.refl H) fun v H1 ⟨μ1, x, st1, p1, m1, rel1, q1, hw1⟩ => ?_⟩
  exact ⟨G, μ1, st1, x, rel1, q1, (PostS.splitG hw1).imp (List.prefix_refl _) (Mono.refl H1) fun σ2 H2 ⟨μ2, st2, p2, m2, rel2, hw2⟩ _ => hw2 σ2 H2 μ2 (List.prefix_refl _) (Mono.refl _) rel2⟩
theorem ss_set {i : Nat} {x : Str} {me : M RV} {pos' : Pos} (he : SE X cl W e me) (hN : X.N.Nodup) (hi : X.N[i]? = some x) (hx : Loc X.env.scope x) (hs : swapsWith e (some (.Name x pos')) pos.line X.env = pure false := by rfl)
    (hf : X.fn x = true ∨ X.env.scope.names.lookup x = some .local := by first | exact .inl rfl | exact .inr rfl | assumption) : SS X cl W (.Assign [.Name x pos'] e pos) (bnd me fun r => bnd (mStore i r) fun _ => ret .nx) := by
  refine ⟨⟨fun pins s σ H D I hw' => (ps_set hN hi hx he.pe hs hf).run pins s σ H D I ?_⟩⟩
  obtain ⟨G, μ, st, rel, hw'⟩ := hw'
  refine ⟨G, μ, st, rel, (PostS.split hw').imp (List.prefix_refl _) (Mono.refl H) fun v H1 ⟨μ1, x, st1, p1, m1, rel1, q1, hw1⟩ => ?_⟩
  exact hw1 _ H1 μ1 (List.prefix_refl _) (Mono.refl _) (rel_store rel1 q1)
/-! several names -/
def tCons (t : RV → M Unit) (u : List RV → M Unit) : List RV → M Unit
  | r :: rs => bnd (t r) fun _ => u rs
  | [] => stk
def tNil : List RV → M Unit
  | [] => ret ()
  | _ :: _ => stk
theorem sgs_nil : SGs X cl W [] [] tNil := by
  refine ⟨⟨fun pins s σ H vs us Q I rv hw => pgs_nil.run pins s σ H vs us Q I rv ?_⟩⟩
  obtain ⟨G, μ, st, ds, rel, q, hw⟩ := hw
  cases ds with
  | nil => exact ⟨q, hw σ H μ (List.prefix_refl _) (Mono.refl H) rel (SameB.refl _ _)⟩
  | cons d ds => exact hw.elim
theorem sgs_cons {tg : Expr} {tgs : List Expr} {ws us : List Nat} {t : RV → M Unit} {u : List RV → M Unit} (h1 : SG X cl W tg ws t) (h2 : SGs X cl W tgs us u)
    (hs : (assignEach (tg :: tgs) X.env).map (·.2) = assign tg X.env :: (assignEach tgs X.env).map (·.2) := by rfl) : SGs X cl W (tg :: tgs) (ws ++ us) (tCons t u) := by
  refine ⟨⟨fun pins s σ H vs us Q I rv hw => (pgs_cons h1.pg h2.pgs hs).run pins s σ H vs us Q I rv ?_⟩⟩
  obtain ⟨G, μ, st, ds, rel, q, hw⟩ := hw
  cases ds with
  | nil => exact hw.elim
  | cons d ds =>
    obtain ⟨v, r, rfl, q1, q2⟩ := q
    refine ⟨v, r, rfl, G, μ, st, .sh d, rel, q1, (PostG.split hw).imp (List.prefix_refl _) (Mono.refl H) fun σ1 H1 ⟨μ1, st1, p1, m1, rel1, hw1⟩ s1 => ?_⟩
    exact ⟨G, μ1, st1, ds, rel1, Reps.mono p1 m1 _ _ q2, hw1.imp (List.prefix_refl _) (Mono.refl _) fun σ2 H2 z s2 => z (s1.trans s2)⟩
/-- (a, b, ..) = a tuple -/
def mUnpack (n : Nat) (t : List RV → M Unit) : RV → M Unit
  | .sh (.tup ds) => if ds.length = n then t (ds.map .sh) else stk
  | _ => stk
theorem sg_tup {es : List Expr} {k n : Nat} {vs : List Nat} {t : List RV → M Unit} (hc : X.calm = true) (h : SGs X cl W es vs t) (hn : (assignEach es X.env).length = n := by rfl) (hst : (assignEach es X.env).findIdx? (·.1) = none := by rfl) : SG X cl W (.Tuple es k pos) vs (mUnpack n t) := by
  refine ⟨⟨fun pins s σ H v u Q I rv hw => (pg_tup hc h.pgs hn hst).run pins s σ H v u Q I rv ?_⟩⟩
  obtain ⟨G, μ, st, r, rel, q, hw⟩ := hw
  cases r with
  | fr o => exact hw.elim
  | sh d =>
    cases d with
    | tup ds =>
      obtain ⟨a, vs, rfl, sq, rs⟩ := q
      unfold mUnpack at hw
      by_cases hl : ds.length = n
      · dsimp only at hw
        rw [if_pos hl] at hw
        exact ⟨a, vs, rfl, sq, by rw [← Reps.length rs]; exact hl, G, μ, st, ds, rel, rs, hw⟩
      · dsimp only at hw
        rw [if_neg hl] at hw
        exact hw.elim
    | _ => exact hw.elim

/-! ### while -/
def mWhile (c : M Bool) (b : M Fl) : Nat → M Fl
  | 0 => stk
  | n + 1 => bnd c fun k => if k = true then bnd b fun f => match f with
    | .nx => mWhile c b n
    | .ct => mWhile c b n
    | .bk => ret .nx
    | .rt r => ret (.rt r) else ret .nx
theorem ss_while {c : Expr} {body : List Stmt} {mc : M Bool} (N : Nat) (hp : PassesOwn (model X.prog X.w) X.A X.env X.xe) (hc : ST X cl W c mc) (hb : SSs X cl W body m) : SS X cl W (.While c body [] pos) (mWhile mc m N) := by
  refine ⟨⟨fun pins s σ H D I hw => (ps_while hp hc.pt hb.pss).run pins s σ H D I ?_⟩⟩
  refine ⟨fun n σ H => ∃ G μ st, Rel X.K cl G μ H σ st ∧ PostS X.K cl W G μ H D (mWhile mc m n st), ⟨N, hw⟩, ?_⟩
  intro n σ H hw
  obtain ⟨G, μ, st, rel, hw⟩ := hw
  cases n with
  | zero => exact hw.elim
  | succ n =>
    refine ⟨G, μ, st, rel, (PostS.split hw).imp (List.prefix_refl _) (Mono.refl H) fun k H1 ⟨μ1, x, st1, p1, m1, rel1, q1, hw1⟩ => ?_⟩
    subst q1
    cases x with
    | false =>
      rw [if_neg Bool.false_ne_true]
      exact hw1 σ H1 μ1 (List.prefix_refl _) (Mono.refl _) rel1
    | true =>
      rw [if_pos rfl]
      rw [if_pos rfl] at hw1
      refine ⟨fun σ' H' => ∃ G μ st, Rel X.K cl G μ H' σ' st ∧ PostS X.K cl W G μ H' D (mWhile mc m n st), fun σ' H' z => ⟨n, Nat.lt_succ_self n, z⟩, G, μ1, st1, rel1, ?_⟩
      unfold bnd at hw1
      cases em : m st1 with
      | stuck => rw [em] at hw1; exact hw1.elim
      | exc C fs st' => rw [em] at hw1; exact hw1
      | ok f st' =>
        rw [em] at hw1
        cases f with
        | nx => exact fun σ' H' μ' p mo r => ⟨G, μ', st', r, hw1.up p mo⟩
        | ct => exact fun σ' H' μ' p mo r => ⟨G, μ', st', r, hw1.up p mo⟩
        | bk => exact hw1
        | rt r => exact hw1

/-! ### what is walked -/
/-- from H on: the walk J yields the data ds, one after another -/
def WalkOk (K : PySem.W.Frag) (μ : List Addr) (H : Hp) (J : It) (ds : List Val) : Prop :=
  ds.length ≤ sizeLine ∧ ∀ H1, Mono H H1 → (∀ i, i < ds.length → J.go i H1) ∧ J.stop ds.length H1 ∧ ∀ i d v H2, ds[i]? = some d → J.yld i H1 v H2 → Ext H1 H2 ∧ Rep K μ H2 d v
structure SI (X : Cx) (cl : Nat → Addr) (W : WX) (tg iter : Expr) (m : M (List Val)) : Prop where
  pi : PI X tg iter fun σ H R => ∃ G μ st, Rel X.K cl G μ H σ st ∧ match m st with
    | .ok ds st' => ∀ J H' μ', μ <+: μ' → Mono H H' → Rel X.K cl G μ' H' σ st' → WalkOk X.K μ' H' J ds → R J H'
    | .exc C fs st' => ∀ c d H' μ', μ <+: μ' → Mono H H' → Rel X.K cl G μ' H' σ st' → ExcR X.K cl μ' H' C fs c d → W c d σ H'
    | .stuck => False

def mFor (t : RV → M Unit) (b : M Fl) : List Val → M Fl
  | [] => ret .nx
  | d :: ds => bnd (t (.sh d)) fun _ => bnd b fun f => match f with
    | .nx => mFor t b ds
    | .ct => mFor t b ds
    | .bk => ret .nx
    | .rt r => ret (.rt r)
theorem ss_for {tg iter : Expr} {body : List Stmt} {mi : M (List Val)} {vs : List Nat} {t : RV → M Unit} (hp : PassesOwn (model X.prog X.w) X.A X.env X.xe) (hc : X.calm = true) (hi : SI X cl W tg iter mi) (hg : SG X cl W tg vs t) (hb : SSs X cl W body m)
    (hs : ∀ x, foldedSetIterable iter X.env x = pure x := by intro _; rfl) : SS X cl W (.For tg iter body [] pos) (bnd mi fun ds => mFor t m ds) := by
  refine ⟨⟨fun pins s σ H D I hw => (ps_for hp hc hi.pi hg.pg hb.pss hs).run pins s σ H D I ?_⟩⟩
  obtain ⟨G, μ, st, rel, hw⟩ := hw
  refine ⟨G, μ, st, rel, ?_⟩
  unfold bnd at hw
  cases em : mi st with
  | stuck => rw [em] at hw; exact hw.elim
  | exc C fs st' => rw [em] at hw; exact fun c d H' μ' p mo r q => hw c d σ H' μ' p mo r q
  | ok ds st1 =>
    rw [em] at hw
    intro J H1 μ1 p1 m1 rel1 wk
    refine ⟨fun i k σ' H' => k = ds.length - i ∧ i ≤ ds.length ∧ ∃ μ2 st2, μ1 <+: μ2 ∧ Mono H1 H' ∧ Rel X.K cl G μ2 H' σ' st2 ∧ PostS X.K cl W G μ2 H' D (mFor t m (ds.drop i) st2), ⟨ds.length, by simp, Nat.zero_le _, μ1, st1, List.prefix_refl _, Mono.refl _, rel1, hw.up p1 m1⟩, ?_⟩
    rintro i k σ2 H2 ⟨rfl, hi, μ2, st2, p2, m2, rel2, hw2⟩
    obtain ⟨w1, w2, w3⟩ := wk.2 H2 m2
    by_cases hlt : i < ds.length
    · refine .inr ⟨w1 i hlt, fun σ' H' => ∃ μ2 st2, μ1 <+: μ2 ∧ Mono H1 H' ∧ Rel X.K cl G μ2 H' σ' st2 ∧ PostS X.K cl W G μ2 H' D (mFor t m (ds.drop (i + 1)) st2), fun σ' H' z => ⟨ds.length - (i + 1), by omega, rfl, hlt, z⟩, fun v H3 y => ?_⟩
      have hd : ds[i]? = some ds[i] := List.getElem?_eq_getElem hlt
      obtain ⟨ex, rp⟩ := w3 i _ v H3 hd y
      rw [List.drop_eq_getElem_cons hlt] at hw2
      have rel3 := rel2.ext ex
      refine ⟨G, μ2, st2, .sh ds[i], rel3, Rep.mono p2 (Mono.refl _) _ _ rp, (PostS.splitG hw2).imp (List.prefix_refl _) ex.mono fun σ4 H4 ⟨μ4, st4, p4, m4, rel4, hw4⟩ _ => ?_⟩
      refine ⟨G, μ4, st4, rel4, ?_⟩
      have p24 := p2.trans p4
      have m24 : Mono H1 H4 := m2.trans m4
      unfold bnd at hw4
      cases eb : m st4 with
      | stuck => rw [eb] at hw4; exact hw4.elim
      | exc C fs st' => rw [eb] at hw4; exact hw4
      | ok f st' =>
        rw [eb] at hw4
        cases f with
        | nx => exact fun σ' H' μ' p mo r => ⟨μ', st', p24.trans p, m24.trans mo, r, hw4.up p mo⟩
        | ct => exact fun σ' H' μ' p mo r => ⟨μ', st', p24.trans p, m24.trans mo, r, hw4.up p mo⟩
        | bk => exact hw4
        | rt r => exact hw4
    · have e : i = ds.length := by omega
      subst e
      rw [List.drop_length] at hw2
      exact .inl ⟨w2, hw2 σ2 H2 μ2 (List.prefix_refl _) (Mono.refl _) rel2⟩
end

/-! ### defs -/
inductive FOut where
  | ok (r : RV) (S : List MO) | exc (C : Nat) (fs : List (Str × Val)) (S : List MO) | stuck
abbrev Fn := List Val → List MO → FOut
/-- a body as a function of its arguments; n: the slots -/
def mDef (n : Nat) (b : M Fl) : Fn := fun ds S => match b ⟨ds.map .shr ++ List.replicate (n - ds.length) .unb, S⟩ with
  | .ok (.rt r) st => .ok r st.S
  | .ok .nx st => .ok (.sh .none) st.S
  | .exc C fs st => .exc C fs st.S
  | _ => .stuck
/-- what stands and is not the store's -/
def G0 (H : Hp) (μ : List Addr) : Hp := fun b => if b ∈ μ then none else H b
def RFn (K : PySem.W.Frag) (cl : Nat → Addr) (G : Hp) (μ : List Addr) (H : Hp) (r : RV) (v : V) : Prop :=
  match r with
  | .sh d => Rep K μ H d v
  | .fr o => ∃ a, v = .ref a ∧ ObjR K cl μ H o a ∧ G a = none ∧ a ∉ μ
def PostF (K : PySem.W.Frag) (cl : Nat → Addr) (E : XK) (G : Hp) (μ : List Addr) (H : Hp) (Q : VK) : FOut → Prop
  | .ok r S' => ∀ v H' μ', μ <+: μ' → Mono H H' → StoR K cl G μ' H' S' → RFn K cl G μ' H' r v → Q v H'
  | .exc C fs S' => ∀ c d H' μ', μ <+: μ' → Mono H H' → StoR K cl G μ' H' S' → ExcR K cl μ' H' C fs c d → E c d H'
  | .stuck => False
/-- the promise of a def that does what F says -/
def spF (K : PySem.W.Frag) (cl : Nat → Addr) (n : Nat) (F : Fn) : Sp := fun vs H Q E => vs.length = n ∧ ∃ μ ds S, Reps K μ H ds vs ∧ StoR K cl (G0 H μ) μ H S ∧ PostF K cl E (G0 H μ) μ H Q (F ds S)
/-- the def at f does what F says, by at most level k -/
def DefOk (P : Program) (w : World) (K : PySem.W.Frag) (mg : Str → Option Value) (base : Heap) (cl : Nat → Addr) (k : Nat) (f : Addr) (fd : FuncData) (ps : List Str) (F : Fn) : Prop :=
  FnOk P w K mg base (L2.CX P w) k f fd ps (spF K cl ps.length F)
section
variable {P : Program} {w : World} {K : PySem.W.Frag} {mg : Str → Option Value} {base : Heap} {cl : Nat → Addr} {k : Nat} {f : Addr} {fd : FuncData} {ps : List Str}
theorem start_get {N : List Str} {vs : List V} {i : Nat} {w : Option V} (h : (L2.start N vs)[i]? = some w) : (∃ v, vs[i]? = some v ∧ w = some v) ∨ (vs.length ≤ i ∧ w = none) := by
  unfold L2.start at h
  by_cases hi : i < vs.length
  · rw [List.getElem?_append_left (by simpa using hi), List.getElem?_map] at h
    rw [List.getElem?_eq_getElem hi] at h
    cases h
    exact .inl ⟨_, List.getElem?_eq_getElem hi, rfl⟩
  · rw [List.getElem?_append_right (by simpa using hi), List.getElem?_replicate] at h
    split at h
    · cases h; exact .inr ⟨by omega, rfl⟩
    · cases h
theorem Reps.get {K : PySem.W.Frag} {μ : List Addr} {H : Hp} : ∀ {ds : List Val} {vs : List V} {i : Nat} {d : Val}, Reps K μ H ds vs → ds[i]? = some d → ∃ v, vs[i]? = some v ∧ Rep K μ H d v
  | [], _, _, _, _, e => by simp at e
  | d :: ds, vs, 0, d', h, e => by
    obtain ⟨v, r, rfl, q, t⟩ := h
    simp at e; subst e
    exact ⟨v, rfl, q⟩
  | d :: ds, vs, i + 1, d', h, e => by
    obtain ⟨v, r, rfl, q, t⟩ := h
    obtain ⟨v', e1, q1⟩ := Reps.get (i := i) t (by simpa using e)
    exact ⟨v', by simpa using e1, q1⟩
theorem rel_start {N : List Str} {vs : List V} {ds : List Val} {S : List MO} {μ : List Addr} {H : Hp} (r : Reps K μ H ds vs) (sto : StoR K cl (G0 H μ) μ H S) (hl : vs.length ≤ N.length) :
    Rel K cl (G0 H μ) μ H (L2.start N vs) ⟨ds.map .shr ++ List.replicate (N.length - ds.length) .unb, S⟩ := by
  have e := Reps.length r
  refine ⟨sto, ?_, fun i s w e1 e2 => ?_, fun i o a e1 _ => ?_, fun i j o o' a e1 _ _ _ => ?_⟩
  · unfold L2.start
    simp only [List.length_append, List.length_map, List.length_replicate]
    omega
  · by_cases hi : i < ds.length
    · rw [List.getElem?_append_left (by simpa using hi), List.getElem?_map, List.getElem?_eq_getElem hi] at e1
      cases e1
      obtain ⟨v, hv, q⟩ := Reps.get r (List.getElem?_eq_getElem hi)
      rcases start_get e2 with ⟨v', h1, rfl⟩ | ⟨h1, _⟩
      · rw [hv] at h1; cases h1
        exact ⟨v, rfl, q⟩
      · omega
    · rw [List.getElem?_append_right (by simpa using hi), List.getElem?_replicate] at e1
      split at e1
      · cases e1; trivial
      · cases e1
  · exfalso
    by_cases hi : i < ds.length
    · rw [List.getElem?_append_left (by simpa using hi), List.getElem?_map, List.getElem?_eq_getElem hi] at e1
      cases e1
    · rw [List.getElem?_append_right (by simpa using hi), List.getElem?_replicate] at e1
      split at e1 <;> cases e1
  · exfalso
    by_cases hi : i < ds.length
    · rw [List.getElem?_append_left (by simpa using hi), List.getElem?_map, List.getElem?_eq_getElem hi] at e1
      cases e1
    · rw [List.getElem?_append_right (by simpa using hi), List.getElem?_replicate] at e1
      split at e1 <;> cases e1
/-- a def by its body -/
theorem def_ok {x qual : Str} {st : Stmt} {N : List Str} {b : M Fl} (F : L2.Fun K x qual st f fd) (S : FnScope N ps (defScope st))
    (hb : ∀ (cdv : Value) (A : Around) (outer : List Env) (s : Shared) (H : Hp) (E : XK), Room k (A.deeper (PyProof.Rows.envOfC qual (defScope st) s.heap.objs.size f cdv)) →
      SSs (cxOf (L2.CX P w) P w K mg base N qual (defScope st) f cdv A outer s H E) cl (fun c d _ H' => E c d H') (defBody st) b) : DefOk P w K mg base cl (k + 1) f fd ps (mDef N.length b) := by
  refine F.okX S (fun vs H Q E h => h.1) fun cdv A outer s H vs Q E hr h => ?_
  obtain ⟨hl, μ, ds, S', r, sto, h⟩ := h
  refine ⟨_, (hb cdv A outer s H E hr).pss, G0 H μ, μ, _, rel_start (N := N) r sto ?_, ?_⟩
  · have := congrArg List.length S.pre; rw [List.length_take] at this; omega
  · unfold mDef at h
    generalize b ⟨ds.map .shr ++ List.replicate (N.length - ds.length) .unb, S'⟩ = o at h ⊢
    cases o with
    | stuck => exact h.elim
    | exc C fs st' => exact fun c d σ' H' μ' p m rel q => h c d H' μ' p m rel.sto q
    | ok fl st' =>
      cases fl with
      | nx => exact fun σ' H' μ' p m rel => h .non H' μ' p m rel.sto rfl
      | bk => exact h.elim
      | ct => exact h.elim
      | rt r =>
        intro v σ' H' μ' p m rel q
        refine h v H' μ' p m rel.sto ?_
        cases r with
        | sh d => exact q
        | fr o => obtain ⟨a, e, ob, g, n, _⟩ := q; exact ⟨a, e, ob, g, n⟩
theorem DefOk.mono {j : Nat} {F : Fn} (h : DefOk P w K mg base cl j f fd ps F) (hj : j ≤ k) : DefOk P w K mg base cl k f fd ps F := FnOk.mono h hj
end

section
variable {K : PySem.W.Frag} {cl : Nat → Addr} {W : WX} {G H H' : Hp} {μ μ' : List Addr} {σ : L2.St} {st : State}
theorem Rel.g0 (h : Rel K cl G μ H σ st) : StoR K cl (G0 H μ) μ H st.S := by
  refine ⟨h.sto.len, h.sto.at_, h.sto.nd, fun a ha => by unfold G0; rw [if_pos ha], fun b o e => ?_⟩
  unfold G0 at e
  split at e
  · cases e
  · exact e
theorem g0_of {a : Addr} {u : HO} (h : H a = some u) (n : a ∉ μ) : G0 H μ a = some u := by
  unfold G0; rw [if_neg n]; exact h
theorem g0_none {a : Addr} (h : G0 H μ a = none) : a ∈ μ ∨ H a = none := by
  unfold G0 at h
  split at h
  · exact .inl (by assumption)
  · exact .inr h
/-- behind a call -/
theorem Rel.after (h : Rel K cl G μ H σ st) {S' : List MO} (p : μ <+: μ') (m : Mono H H') (s : StoR K cl (G0 H μ) μ' H' S') : Rel K cl G μ' H' σ { st with S := S' } := by
  refine ⟨⟨s.len, s.at_, s.nd, fun a ha => ?_, fun b o e => ?_⟩, h.len, fun i sl w e1 e2 => ?_, fun i o a e1 e2 => ?_, h.apart⟩
  · rcases g0_none (s.out a ha) with q | q
    · exact h.sto.out a q
    · exact (h.noneG q).1
  · refine s.keep b o (g0_of (h.sto.keep b o e) fun z => ?_)
    rw [h.sto.out b z] at e; cases e
  · have q := h.slot i sl w e1 e2
    cases sl with
    | unb => trivial
    | shr d => obtain ⟨v, e, r⟩ := q; exact ⟨v, e, Rep.mono p m _ _ r⟩
    | own o =>
      obtain ⟨a, rfl, r⟩ := q
      exact ⟨a, rfl, r.mono p m fun u e => s.keep a u (g0_of e (h.own i o a e1 e2).2)⟩
  · obtain ⟨g, n⟩ := h.own i o a e1 e2
    refine ⟨g, fun ha => ?_⟩
    obtain ⟨a', e, r⟩ := h.slot i _ _ e1 e2
    cases e
    obtain ⟨u, eu⟩ := r.ex
    have z := s.out a ha
    rw [g0_of eu n] at z; cases z
theorem RFn.rrv (h : Rel K cl G μ H σ st) (p : μ <+: μ') {S' : List MO} {r : RV} {v : V} (q : RFn K cl (G0 H μ) μ' H' r v) : RRV K cl G σ μ' H' { st with S := S' } r v := by
  cases r with
  | sh d => exact q
  | fr o =>
    obtain ⟨a, e, ob, g, n⟩ := q
    have hn : H a = none := by
      rcases g0_none g with z | z
      · obtain ⟨t, rfl⟩ := p
        exact absurd (List.mem_append_left _ z) n
      · exact z
    obtain ⟨g1, _, g3⟩ := h.noneG hn
    exact ⟨a, e, ob, g1, n, g3⟩
/-- the call of a def -/
def mCall (F : Fn) (ds : List Val) : M RV := fun st => match F ds st.S with
  | .ok r S' => .ok r { st with S := S' }
  | .exc C fs S' => .exc C fs { st with S := S' }
  | .stuck => .stuck
theorem call_post {F : Fn} {ds : List Val} {vs : List V} {Q : VK} (rel : Rel K cl G μ H σ st) (h : Post K cl W G μ H σ (RRV K cl G σ) Q (mCall F ds st)) (r : Reps K μ H ds vs) {n : Nat} (hn : vs.length = n) :
    spF K cl n F vs H Q fun c d H' => W c d σ H' := by
  refine ⟨hn, μ, ds, st.S, r, rel.g0, ?_⟩
  unfold mCall at h
  cases e : F ds st.S with
  | stuck => rw [e] at h; exact h.elim
  | ok r S' => rw [e] at h; exact fun v H' μ' p m s q => h v H' μ' p m (rel.after p m s) (q.rrv rel p)
  | exc C fs S' => rw [e] at h; exact fun c d H' μ' p m s q => h c d H' μ' p m (rel.after p m s) q
end
end PV

/-! PvE: calls of defs and methods, making of instances, fields, what changes a thing. -/
namespace PV
open PySem PySem.Spec L2

section
variable {X : Cx} {cl : Nat → Addr} {W : WX} {k : Nat} {f C : Addr} {fd : FuncData} {ps : List Str} {F : Fn} {x m : Str} {p pos apos : Pos} {e o : Expr} {es : List Expr} {ms : M (List Val)} {t : TA} {ta : TE}

/-- a def called with nothing -/
theorem pe_call0S {sp : Sp} {E : L2.St → XK} (F : FnOk X.prog X.w X.K X.mg X.base (L2.CX X.prog X.w) k f fd ps sp) (hr : Room k X.A) (hg : Gl X x) (hm : X.mg x = some (.ref f)) (hk : PySem.W.keepIn X.K (.ref f) = true) (hb : Binds X.K fd ps [])
    (hx : ∀ σ, PassesAt (L2.CX X.prog X.w) X σ (E σ)) (hdb : (x == ("__debug__" : Str)) = false := by decide) : PE X (.Call (.Name x p) [] [] pos) (tCallSD sp [] E L2.tNil) := by
  refine ⟨fun pins s σ H Q I h => ?_⟩
  refine wpAny_Call_Name_kw (ld_glob I hg hm ?_ hdb)
  exact PySem.W.callWith_K0 I.kIn hk (run_fnSD (us := []) F hr hb .nil (hx σ) I .nil h)
/-- o.m(e, ..) -/
def tMethSD (C : Addr) (m : Str) (sp : Sp) (E : L2.St → XK) (ta : TE) (t : TA) : TE := fun σ H Q => ta σ H fun x H1 => ∃ a dx fs, x = .ref a ∧ H1 a = some (.ins C dx fs) ∧ fs.lookup m = none ∧ t σ H1 fun vs H2 => sp (x :: (vs ++ [])) H2 Q (E σ)
theorem pe_methSD {sp : Sp} {E : L2.St → XK} {pl : Sem Bool} (he : PE X o ta) (c : Cls X.K C) (hm : Meth X.K C m f) (F : FnOk X.prog X.w X.K X.mg X.base (L2.CX X.prog X.w) k f fd ps sp) (hr : Room k X.A) (hb : Binds X.K fd ps []) (hx : ∀ σ, PassesAt (L2.CX X.prog X.w) X σ (E σ)) (ha : PA X (e :: es) t)
    (hst : starEach (e :: es) X.env = (false, eval e X.env) :: starEach es X.env := by rfl) (hpl : (backTo pos (starEach es X.env)).any (·.1) = false := by rfl)
    (ht : eval (.Call (.Attribute o m apos) (e :: es) [] pos) X.env = (do
      let ov ← eval o X.env
      standAt apos.atName
      let (f, first) ← holding [ov] (getMethod ov m pl)
      callWith pos f first (backTo pos (starEach (e :: es) X.env)) (backToKw pos (keywordEach [] X.env))) := by rfl) :
    PE X (.Call (.Attribute o m apos) (e :: es) [] pos) (tMethSD C m sp E ta t) := by
  refine ⟨fun pins s σ H Q I h => ?_⟩
  refine PySem.W.methodCall_KW (pl := pl) (thn (he.run pins s σ H _ I h) fun u s1 ⟨x, H1, I1, rx, a, dx, fs, ex, ea, l, q⟩ => ?_) ht
  subst ex
  obtain rfl : u = Value.ref a := rx
  refine getmeth_ok I1 ea c hm l ?_
  refine PySem.W.callWith_K (first := [.ref a]) (h₀ := X.base) I.ok.mod.kin hm.kp (thn (ha.run pos pins s1 σ H1 _ I1 q) fun us s2 ⟨vs, H2, I2, r, q2⟩ => ⟨I2.kIn, ?_⟩) hst hpl
  exact run_fnSD (us := .ref a :: us) (vs := .ref a :: vs) F hr hb .nil (hx σ) I2 (.cons rfl r) q2
theorem pe_meth0SD {sp : Sp} {E : L2.St → XK} {pl : Sem Bool} (he : PE X o ta) (c : Cls X.K C) (hm : Meth X.K C m f) (F : FnOk X.prog X.w X.K X.mg X.base (L2.CX X.prog X.w) k f fd ps sp) (hr : Room k X.A) (hb : Binds X.K fd ps []) (hx : ∀ σ, PassesAt (L2.CX X.prog X.w) X σ (E σ))
    (ht : eval (.Call (.Attribute o m apos) [] [] pos) X.env = (do
      let ov ← eval o X.env
      standAt apos.atName
      let (f, first) ← holding [ov] (getMethod ov m pl)
      callWith pos f first (backTo pos (starEach [] X.env)) (backToKw pos (keywordEach [] X.env))) := by rfl) :
    PE X (.Call (.Attribute o m apos) [] [] pos) (tMethSD C m sp E ta L2.tNil) := by
  refine ⟨fun pins s σ H Q I h => ?_⟩
  refine PySem.W.methodCall_KW (pl := pl) (thn (he.run pins s σ H _ I h) fun u s1 ⟨x, H1, I1, rx, a, dx, fs, ex, ea, l, q⟩ => ?_) ht
  subst ex
  obtain rfl : u = Value.ref a := rx
  refine getmeth_ok I1 ea c hm l ?_
  exact PySem.W.callWith_K0 (first := [.ref a]) I1.kIn hm.kp (run_fnSD (us := [.ref a]) (vs := [.ref a]) F hr hb .nil (hx σ) I1 (.cons rfl .nil) q)
/-- C(e, ..) -/
def tMakeSD (C : Addr) (sp : Sp) (E : L2.St → XK) (t : TA) : TE := fun σ H Q => t σ H fun vs H1 => ∀ x dx, H1 x = none → H1 dx = none → dx ≠ x → sp (.ref x :: vs) (upd (upd H1 dx (.own x)) x (.ins C dx [])) (fun v H2 => v = .non ∧ Q (.ref x) H2) (E σ)
theorem run_makeSD {sp : Sp} {E : L2.St → XK} {pins : List (Addr × Obj)} {σ : L2.St} {H : Hp} {s : Shared} {Q : VK} {us : List Value} {vs : List V} (M : Mk X.K C f) (F : FnOk X.prog X.w X.K X.mg X.base (L2.CX X.prog X.w) k f fd ps sp) (hr : Room (k + 1) X.A) (hb : Binds X.K fd ps [])
    (hx : PassesAt (L2.CX X.prog X.w) X σ (E σ)) (I : Inv X pins σ H s) (r : Vals vs us)
    (h : ∀ x dx, H x = none → H dx = none → dx ≠ x → sp (.ref x :: vs) (upd (upd H dx (.own x)) x (.ins C dx [])) (fun v H2 => v = .non ∧ Q (.ref x) H2) (E σ)) :
    wpAny (model X.prog X.w) X.A (call (.ref C) us) (EP X pins σ Q) X.xe s := by
  have hq := h (s.heap.objs.size + 1) s.heap.objs.size (I.hok.fresh (Nat.le_succ _)) (I.hok.fresh (Nat.le_refl _)) (Nat.ne_of_lt (Nat.lt_succ_self _))
  have I2 := Inv.made (C := C) I
  have r2 : Vals (V.ref (s.heap.objs.size + 1) :: vs) (Value.ref (s.heap.objs.size + 1) :: us) := .cons rfl r
  have hl : (Value.ref (s.heap.objs.size + 1) :: us ++ []).length = ps.length := by
    rw [List.append_nil]
    have e := r2.length
    rw [F.len _ _ _ _ hq] at e
    exact e.symm
  refine wpAny_call (make_map (f := f) I.kIn M.makes M.init (beq_iff_eq.mp M.fn) (codeAny_mono (F.run _ X.stack _ _ ⟨Value.ref (s.heap.objs.size + 1) :: us, []⟩ (Value.ref (s.heap.objs.size + 1) :: us) _ _ (E σ) (hr.make C us [])
    (I2.env0.make C us []) (by have z := hb _ (Value.ref (s.heap.objs.size + 1) :: us) I2.kIn hl; rw [List.append_nil] at z; exact z) r2 hq) fun r s' hq' => ?_))
  cases r with
  | error e => exact hx pins _ _ e s' I2 hq'
  | ok fl =>
    cases fl with
    | ret u =>
      obtain ⟨v, H', I3, rv, ev, q3⟩ := I2.after hq'
      subst ev
      exact ⟨rv, ⟨V.ref (s.heap.objs.size + 1), H', I3, rfl, q3⟩⟩
    | next => exact False.elim hq'
    | brk => exact False.elim hq'
    | cont => exact False.elim hq'
theorem pe_makeSD {sp : Sp} {E : L2.St → XK} (M : Mk X.K C f) (F : FnOk X.prog X.w X.K X.mg X.base (L2.CX X.prog X.w) k f fd ps sp) (hr : Room (k + 1) X.A) (hg : Gl X x) (hm : X.mg x = some (.ref C)) (hb : Binds X.K fd ps []) (hx : ∀ σ, PassesAt (L2.CX X.prog X.w) X σ (E σ))
    (ha : PA X (e :: es) t) (hdb : (x == ("__debug__" : Str)) = false := by decide) (he : starEach (e :: es) X.env = (false, eval e X.env) :: starEach es X.env := by rfl) (hpl : (backTo pos (starEach es X.env)).any (·.1) = false := by rfl) :
    PE X (.Call (.Name x p) (e :: es) [] pos) (tMakeSD C sp E t) := by
  refine ⟨fun pins s σ H Q I h => ?_⟩
  refine wpAny_Call_Name_kw (ld_glob I hg hm ?_ hdb)
  refine PySem.W.callWith_K (h₀ := X.base) I.ok.mod.kin M.kp (thn (ha.run pos pins s σ H _ I h) fun us s1 ⟨vs, H1, I1, r, q⟩ => ⟨I1.kIn, ?_⟩) he hpl
  exact run_makeSD M F hr hb (hx σ) I1 r q
end

/-! ### what stands of a def, as a caller wants it -/
structure HasDef (P : Program) (w : World) (K : PySem.W.Frag) (mg : Str → Option Value) (base : Heap) (cl : Nat → Addr) (k : Nat) (x : Str) (f : Addr) (fd : FuncData) (ps : List Str) (F : Fn) : Prop where
  ok : DefOk P w K mg base cl k f fd ps F
  mg : mg x = some (.ref f)
  kp : PySem.W.keepIn K (.ref f) = true
  bi : Binds K fd ps []
structure HasMeth (P : Program) (w : World) (K : PySem.W.Frag) (mg : Str → Option Value) (base : Heap) (cl : Nat → Addr) (k : Nat) (c : Nat) (m : Str) (f : Addr) (fd : FuncData) (ps : List Str) (F : Fn) : Prop where
  ok : DefOk P w K mg base cl k f fd ps F
  cls : Cls K (cl c)
  me : Meth K (cl c) m f
  bi : Binds K fd ps []
structure HasMake (P : Program) (w : World) (K : PySem.W.Frag) (mg : Str → Option Value) (base : Heap) (cl : Nat → Addr) (k : Nat) (c : Nat) (x : Str) (f : Addr) (fd : FuncData) (ps : List Str) (F : Fn) : Prop where
  ok : DefOk P w K mg base cl k f fd ps F
  mg : mg x = some (.ref (cl c))
  maker : Mk K (cl c) f
  bi : Binds K fd ps []

section
variable {X : Cx} {cl : Nat → Addr} {W : WX} {k : Nat} {f : Addr} {fd : FuncData} {ps : List Str} {F : Fn} {x m : Str} {p pos apos : Pos} {e o : Expr} {es : List Expr} {ms : M (List Val)} {mo : M Opd} {c : Nat}
theorem se_call (h : HasDef X.prog X.w X.K X.mg X.base cl k x f fd ps F) (hr : Room k X.A) (tk : Takes X W) (hg : Gl X x) (ha : SVs X cl W (e :: es) ms) (hn : (e :: es).length = ps.length := by rfl) (hdb : (x == ("__debug__" : Str)) = false := by decide)
    (he : starEach (e :: es) X.env = (false, eval e X.env) :: starEach es X.env := by rfl) (hpl : (backTo pos (starEach es X.env)).any (·.1) = false := by rfl) : SE X cl W (.Call (.Name x p) (e :: es) [] pos) (bnd ms fun ds => mCall F ds) := by
  refine ⟨⟨fun pins s σ H Q I hw => (pe_callSD (E := fun σ c d H => W c d σ H) h.ok hr hg h.mg h.kp h.bi .nil (fun σ => passAt tk σ) ha.pa hdb he hpl).run pins s σ H Q I ?_⟩⟩
  obtain ⟨G, μ, st, rel, hw⟩ := hw
  refine ⟨G, μ, st, rel, (Post.split hw).imp (List.prefix_refl _) (Mono.refl H) fun vs H1 ⟨μ1, ds, st1, p1, m1, rel1, q1, hw1⟩ => ?_⟩
  rw [List.append_nil]
  exact call_post rel1 hw1 q1.2 (by rw [← Reps.length q1.2, q1.1, hn])
theorem se_call0 (h : HasDef X.prog X.w X.K X.mg X.base cl k x f fd [] F) (hr : Room k X.A) (tk : Takes X W) (hg : Gl X x) (hdb : (x == ("__debug__" : Str)) = false := by decide) : SE X cl W (.Call (.Name x p) [] [] pos) (mCall F []) := by
  refine ⟨⟨fun pins s σ H Q I hw => (pe_call0S (E := fun σ c d H => W c d σ H) h.ok hr hg h.mg h.kp h.bi (fun σ => passAt tk σ) hdb).run pins s σ H Q I ?_⟩⟩
  obtain ⟨G, μ, st, rel, hw⟩ := hw
  exact call_post (vs := []) rel hw rfl rfl

/-- the instance of the class c that an operand is -/
def insAt (c : Nat) (st : State) : Opd → Option (Nat × List (Str × Val))
  | .val (.ref n) => match st.S[n]? with
    | some (.ins c' fs) => if c' = c then some (n, fs) else none
    | _ => none
  | .slot i => match st.ρ[i]? with
    | some (.shr (.ref n)) => match st.S[n]? with
      | some (.ins c' fs) => if c' = c then some (n, fs) else none
      | _ => none
    | _ => none
  | _ => none
theorem insAt_val {K : PySem.W.Frag} {G H : Hp} {μ : List Addr} {σ : L2.St} {st : State} {op : Opd} {v : V} {n : Nat} {fs : List (Str × Val)} (rel : Rel K cl G μ H σ st) (r : ROp K σ μ H st op v) (h : insAt c st op = some (n, fs)) :
    st.S[n]? = some (.ins c fs) ∧ ∃ a, v = .ref a ∧ μ[n]? = some a := by
  cases op with
  | val d =>
    cases d with
    | ref n' =>
      simp only [insAt] at h
      obtain ⟨a, rfl, e⟩ := r
      split at h
      · rename_i c' fs' es
        split at h
        · rename_i hc
          cases h; subst hc
          exact ⟨es, a, rfl, e⟩
        · cases h
      · cases h
    | _ => cases h
  | slot i =>
    simp only [insAt] at h
    split at h
    · rename_i n' er
      split at h
      · rename_i c' fs' es
        split at h
        · rename_i hc
          cases h; subst hc
          obtain ⟨v', e1, a, rfl, e2⟩ := rel.slot i _ _ er r
          cases e1
          exact ⟨es, a, rfl, e2⟩
        · cases h
      · cases h
    · cases h
theorem RepF.none {K : PySem.W.Frag} {μ : List Addr} {H : Hp} : ∀ {fs : List (Str × Val)} {fs' : List (Str × V)} {g : Str}, RepF K μ H fs fs' → fs.lookup g = none → fs'.lookup g = none
  | [], fs', g, h, _ => by cases (show fs' = [] from h); rfl
  | (n, d) :: fs, fs', g, h, e => by
    obtain ⟨v, r, rfl, q, t⟩ := h
    rw [List.lookup_cons] at e ⊢
    cases hb : g == n with
    | true => rw [hb] at e; cases e
    | false => rw [hb] at e; exact RepF.none t e
theorem RepF.get {K : PySem.W.Frag} {μ : List Addr} {H : Hp} : ∀ {fs : List (Str × Val)} {fs' : List (Str × V)} {g : Str} {d : Val}, RepF K μ H fs fs' → fs.lookup g = some d → ∃ v, fs'.lookup g = some v ∧ Rep K μ H d v
  | [], fs', g, d, h, e => by cases e
  | (n, d) :: fs, fs', g, d', h, e => by
    obtain ⟨v, r, rfl, q, t⟩ := h
    rw [List.lookup_cons] at e ⊢
    cases hb : g == n with
    | true => rw [hb] at e; cases e; exact ⟨v, rfl, q⟩
    | false => rw [hb] at e; exact RepF.get t e
/-- o.m(e, ..): the receiver's name of the method is no field -/
def mMeth (c : Nat) (m : Str) (F : Fn) (mo : M Opd) (ms : M (List Val)) : M RV := bnd mo fun x => fun st => match insAt c st x with
  | some (n, fs) => match fs.lookup m with
    | none => (bnd ms fun ds => mCall F (.ref n :: ds)) st
    | some _ => .stuck
  | none => .stuck
theorem se_meth {pl : Sem Bool} (h : HasMeth X.prog X.w X.K X.mg X.base cl k c m f fd ps F) (hr : Room k X.A) (tk : Takes X W) (ho : SO X cl W o mo) (ha : SVs X cl W (e :: es) ms) (hn : (e :: es).length + 1 = ps.length := by rfl)
    (hst : starEach (e :: es) X.env = (false, eval e X.env) :: starEach es X.env := by rfl) (hpl : (backTo pos (starEach es X.env)).any (·.1) = false := by rfl)
    (ht : eval (.Call (.Attribute o m apos) (e :: es) [] pos) X.env = (do
      let ov ← eval o X.env
      standAt apos.atName
      let (f, first) ← holding [ov] (getMethod ov m pl)
      callWith pos f first (backTo pos (starEach (e :: es) X.env)) (backToKw pos (keywordEach [] X.env))) := by rfl) :
    SE X cl W (.Call (.Attribute o m apos) (e :: es) [] pos) (mMeth c m F mo ms) := by
  refine ⟨⟨fun pins s σ H Q I hw => (pe_methSD (E := fun σ c d H => W c d σ H) ho.pe h.cls h.me h.ok hr h.bi (fun σ => passAt tk σ) ha.pa hst hpl ht).run pins s σ H Q I ?_⟩⟩
  obtain ⟨G, μ, st, rel, hw⟩ := hw
  refine ⟨G, μ, st, rel, (Post.split hw).imp (List.prefix_refl _) (Mono.refl H) fun v H1 ⟨μ1, x, st1, p1, m1, rel1, q1, hw1⟩ => ?_⟩
  cases ei : insAt c st1 x with
  | none => rw [ei] at hw1; exact hw1.elim
  | some nf =>
    obtain ⟨n, fs⟩ := nf
    rw [ei] at hw1
    try dsimp only at hw1
    cases el : fs.lookup m with
    | some _ => rw [el] at hw1; exact hw1.elim
    | none =>
      rw [el] at hw1
      obtain ⟨es1, a, rfl, ea⟩ := insAt_val rel1 q1 ei
      obtain ⟨dx, fs', eo, rf⟩ := rel1.sto.at_ n _ a es1 ea
      refine ⟨a, dx, fs', rfl, eo, rf.none el, G, μ1, st1, rel1, (Post.split hw1).imp (List.prefix_refl _) (Mono.refl _) fun vs H2 ⟨μ2, ds, st2, p2, m2, rel2, q2, hw2⟩ => ?_⟩
      rw [List.append_nil]
      refine call_post rel2 hw2 (ds := .ref n :: ds) ⟨_, _, rfl, ⟨a, rfl, pre_get p2 ea⟩, q2.2⟩ ?_
      rw [List.length_cons, ← Reps.length q2.2, q2.1]; exact hn
theorem se_meth0 {pl : Sem Bool} (h : HasMeth X.prog X.w X.K X.mg X.base cl k c m f fd ps F) (hr : Room k X.A) (tk : Takes X W) (ho : SO X cl W o mo) (hn : 1 = ps.length := by rfl)
    (ht : eval (.Call (.Attribute o m apos) [] [] pos) X.env = (do
      let ov ← eval o X.env
      standAt apos.atName
      let (f, first) ← holding [ov] (getMethod ov m pl)
      callWith pos f first (backTo pos (starEach [] X.env)) (backToKw pos (keywordEach [] X.env))) := by rfl) :
    SE X cl W (.Call (.Attribute o m apos) [] [] pos) (mMeth c m F mo (ret [])) := by
  refine ⟨⟨fun pins s σ H Q I hw => (pe_meth0SD (E := fun σ c d H => W c d σ H) ho.pe h.cls h.me h.ok hr h.bi (fun σ => passAt tk σ) ht).run pins s σ H Q I ?_⟩⟩
  obtain ⟨G, μ, st, rel, hw⟩ := hw
  refine ⟨G, μ, st, rel, (Post.split hw).imp (List.prefix_refl _) (Mono.refl H) fun v H1 ⟨μ1, x, st1, p1, m1, rel1, q1, hw1⟩ => ?_⟩
  cases ei : insAt c st1 x with
  | none => rw [ei] at hw1; exact hw1.elim
  | some nf =>
    obtain ⟨n, fs⟩ := nf
    rw [ei] at hw1
    try dsimp only at hw1
    cases el : fs.lookup m with
    | some _ => rw [el] at hw1; exact hw1.elim
    | none =>
      rw [el] at hw1
      obtain ⟨es1, a, rfl, ea⟩ := insAt_val rel1 q1 ei
      obtain ⟨dx, fs', eo, rf⟩ := rel1.sto.at_ n _ a es1 ea
      refine ⟨a, dx, fs', rfl, eo, rf.none el, ?_⟩
      exact call_post rel1 hw1 (ds := [.ref n]) ⟨_, _, rfl, ⟨a, rfl, ea⟩, rfl⟩ hn
/-- o.f, a field of an instance of the class c -/
def mFld (c : Nat) (g : Str) (mo : M Opd) : M Val := bnd mo fun x => fun st => match insAt c st x with
  | some (_, fs) => match fs.lookup g with
    | some d => .ok d st
    | none => .stuck
  | none => .stuck
theorem sv_fld {g : Str} (hc : Cls X.K (cl c)) (hn : NoAttr X.K (cl c) g) (ho : SO X cl W o mo) (hb : attributeBase o g X.env (eval o X.env) = eval o X.env := by rfl) : SV X cl W (.Attribute o g pos) (mFld c g mo) := by
  refine ⟨⟨fun pins s σ H Q I hw => (pe_fld ho.pe hb).run pins s σ H Q I ?_⟩⟩
  obtain ⟨G, μ, st, rel, hw⟩ := hw
  refine ⟨G, μ, st, rel, (Post.split hw).imp (List.prefix_refl _) (Mono.refl H) fun v H1 ⟨μ1, x, st1, p1, m1, rel1, q1, hw1⟩ => ?_⟩
  cases ei : insAt c st1 x with
  | none => rw [ei] at hw1; exact hw1.elim
  | some nf =>
    obtain ⟨n, fs⟩ := nf
    rw [ei] at hw1
    try dsimp only at hw1
    cases el : fs.lookup g with
    | none => rw [el] at hw1; exact hw1.elim
    | some d =>
      rw [el] at hw1
      obtain ⟨es1, a, rfl, ea⟩ := insAt_val rel1 q1 ei
      obtain ⟨dx, fs', eo, rf⟩ := rel1.sto.at_ n _ a es1 ea
      obtain ⟨v', ev, rv⟩ := rf.get el
      exact ⟨a, cl c, dx, fs', v', rfl, eo, hc, hn, ev, hw1 v' H1 μ1 (List.prefix_refl _) (Mono.refl _) rel1 rv⟩
/-- the fields behind a store -/
def putV (g : Str) (d : Val) : List (Str × Val) → List (Str × Val)
  | [] => [(g, d)]
  | (n, e) :: r => if n = g then (n, d) :: r else (n, e) :: putV g d r
theorem RepF.put {K : PySem.W.Frag} {μ : List Addr} {H : Hp} {g : Str} {d : Val} {v : V} (r : Rep K μ H d v) : ∀ {fs : List (Str × Val)} {fs' : List (Str × V)}, RepF K μ H fs fs' → RepF K μ H (putV g d fs) (putF g v fs')
  | [], fs', h => by cases (show fs' = [] from h); exact ⟨v, [], rfl, r, rfl⟩
  | (n, e) :: fs, fs', h => by
    obtain ⟨w, t, rfl, q, rt⟩ := h
    unfold putV putF
    by_cases hn : n = g
    · rw [if_pos hn, if_pos hn]; exact ⟨v, t, rfl, r, rt⟩
    · rw [if_neg hn, if_neg hn]; exact ⟨w, _, rfl, q, RepF.put r rt⟩
theorem RepF.length {K : PySem.W.Frag} {μ : List Addr} {H : Hp} : ∀ {fs : List (Str × Val)} {fs' : List (Str × V)}, RepF K μ H fs fs' → fs.length = fs'.length
  | [], fs', h => by cases (show fs' = [] from h); rfl
  | (n, e) :: fs, fs', h => by
    obtain ⟨w, t, rfl, q, rt⟩ := h
    rw [List.length_cons, List.length_cons, RepF.length rt]
/-- o.f = e -/
def mSetFld (c : Nat) (g : Str) (mv : M Val) (mo : M Opd) : M Fl := bnd mv fun d => bnd mo fun x => fun st => match insAt c st x with
  | some (n, fs) => if fs.length < 1000 then .ok .nx { st with S := st.S.set n (.ins c (putV g d fs)) } else .stuck
  | none => .stuck
theorem ss_fld {g : Str} {value : Expr} {mv : M Val} {pos' : Pos} (hc : Cls X.K (cl c)) (hn : NoAttr X.K (cl c) g) (hv : SV X cl W value mv) (ho : SO X cl W o mo) (hs : swapsWith value (some (.Attribute o g pos')) pos.line X.env = pure false := by rfl) :
    SS X cl W (.Assign [.Attribute o g pos'] value pos) (mSetFld c g mv mo) := by
  refine ⟨⟨fun pins s σ H D I hw => (ps_fld ho.pe hv.pe hs).run pins s σ H D I ?_⟩⟩
  obtain ⟨G, μ, st, rel, hw⟩ := hw
  refine ⟨G, μ, st, rel, (PostS.split hw).imp (List.prefix_refl _) (Mono.refl H) fun v H1 ⟨μ1, d, st1, p1, m1, rel1, q1, hw1⟩ => ?_⟩
  refine ⟨G, μ1, st1, rel1, (PostS.split hw1).imp (List.prefix_refl _) (Mono.refl _) fun u H2 ⟨μ2, x, st2, p2, m2, rel2, q2, hw2⟩ => ?_⟩
  cases ei : insAt c st2 x with
  | none => rw [ei] at hw2; exact hw2.elim
  | some nf =>
    obtain ⟨n, fs⟩ := nf
    rw [ei] at hw2
    try dsimp only at hw2
    by_cases hl : fs.length < 1000
    · rw [if_pos hl] at hw2
      obtain ⟨es1, a, rfl, ea⟩ := insAt_val rel2 q2 ei
      have ob := rel2.sto.at_ n _ a es1 ea
      obtain ⟨dx, fs', eo, rf⟩ := id ob
      have mo : Mono H2 (L2.upd H2 a (.ins (cl c) dx (putF g v fs'))) := mono_upd (.inl ob.mut)
      refine ⟨a, cl c, dx, fs', rfl, eo, hc, hn, by rw [← rf.length]; exact hl, ?_⟩
      refine hw2 _ _ μ2 (List.prefix_refl _) mo (rel2.setSto es1 ea ⟨dx, _, upd_same, ?_⟩)
      exact RepF.put (Rep.mono (List.prefix_refl _) mo _ _ (Rep.mono p2 m2 _ _ q1)) (RepF.mono (List.prefix_refl _) mo _ _ rf)
    · rw [if_neg hl] at hw2; exact hw2.elim
/-- C(e, ..): a new thing of the store, then __init__ -/
def mMake (c : Nat) (F : Fn) (ds : List Val) : M RV := fun st => match F (.ref st.S.length :: ds) (st.S ++ [.ins c []]) with
  | .ok (.sh .none) S' => .ok (.sh (.ref st.S.length)) { st with S := S' }
  | .exc C fs S' => .exc C fs { st with S := S' }
  | _ => .stuck
theorem se_make (h : HasMake X.prog X.w X.K X.mg X.base cl k c x f fd ps F) (hr : Room (k + 1) X.A) (tk : Takes X W) (hg : Gl X x) (ha : SVs X cl W (e :: es) ms) (hn : (e :: es).length + 1 = ps.length := by rfl) (hdb : (x == ("__debug__" : Str)) = false := by decide)
    (he : starEach (e :: es) X.env = (false, eval e X.env) :: starEach es X.env := by rfl) (hpl : (backTo pos (starEach es X.env)).any (·.1) = false := by rfl) : SE X cl W (.Call (.Name x p) (e :: es) [] pos) (bnd ms fun ds => mMake c F ds) := by
  refine ⟨⟨fun pins s σ H Q I hw => (pe_makeSD (E := fun σ c d H => W c d σ H) h.maker h.ok hr hg h.mg h.bi (fun σ => passAt tk σ) ha.pa hdb he hpl).run pins s σ H Q I ?_⟩⟩
  obtain ⟨G, μ, st, rel, hw⟩ := hw
  refine ⟨G, μ, st, rel, (Post.split hw).imp (List.prefix_refl _) (Mono.refl H) fun vs H1 ⟨μ1, ds, st1, p1, m1, rel1, q1, hw1⟩ => ?_⟩
  intro a dx na nd ne
  have e1 : Ext H1 (L2.upd H1 dx (.own a)) := Ext.new nd
  have na' : L2.upd H1 dx (.own a) a = none := by rw [upd_ne (Ne.symm ne)]; exact na
  have e2 : Ext H1 (L2.upd (L2.upd H1 dx (.own a)) a (.ins (cl c) dx [])) := e1.trans (Ext.new na')
  obtain ⟨g1, g2, g3⟩ := rel1.noneG na
  have pf : μ1 <+: μ1 ++ [a] := List.prefix_append _ _
  have rel2 : Rel X.K cl G (μ1 ++ [a]) (L2.upd (L2.upd H1 dx (.own a)) a (.ins (cl c) dx [])) σ { st1 with S := st1.S ++ [.ins c []] } := (rel1.ext e2).newSto ⟨dx, [], upd_same, rfl⟩ g1 g2 g3
  have ga : (μ1 ++ [a])[st1.S.length]? = some a := by rw [rel1.sto.len]; simp
  refine ⟨?_, μ1 ++ [a], .ref st1.S.length :: ds, st1.S ++ [.ins c []], ⟨_, _, rfl, ⟨a, rfl, ga⟩, Reps.mono pf e2.mono _ _ q1.2⟩, rel2.g0, ?_⟩
  · rw [List.length_cons, ← Reps.length q1.2, q1.1]; exact hn
  · unfold mMake at hw1
    cases eF : F (.ref st1.S.length :: ds) (st1.S ++ [.ins c []]) with
    | stuck => rw [eF] at hw1; exact hw1.elim
    | exc C fs S' => rw [eF] at hw1; exact fun c' d H' μ' p m s q => hw1 c' d H' μ' (pf.trans p) (e2.mono.trans m) (rel2.after p m s) q
    | ok r S' =>
      rw [eF] at hw1
      cases r with
      | fr o => exact hw1.elim
      | sh d =>
        cases d with
        | none => exact fun v H' μ' p m s q => ⟨q, hw1 _ H' μ' (pf.trans p) (e2.mono.trans m) (rel2.after p m s) ⟨a, rfl, pre_get p ga⟩⟩
        | _ => exact hw1.elim
end
end PV

/-! PvF: what is walked, methods of built-in types, stores by index, comprehensions. -/
namespace PV
open PySem PySem.Spec L2

/-! ### sizes -/
def szO : HO → Prop
  | .lst xs => xs.length ≤ sizeLine
  | .tup xs => xs.length ≤ sizeLine
  | .dK kvs => kvs.length ≤ sizeLine
  | .frz _ u => szO u
  | _ => True
def SzOk (H : Hp) : Prop := ∀ a u, H a = some u → szO u
theorem szO_of {P : Program} {w : World} {H : Hp} {h : Heap} {a : Addr} : ∀ {u : HO}, ObjOk P w H h a u → szO u
  | .lst xs, x => x.1
  | .tup xs, x => x.1
  | .dK kvs, x => x.1
  | .frz o u, x => szO_of (u := u) x.2
  | .dT _, _ => trivial
  | .set _ _, _ => trivial
  | .ins _ _ _, _ => trivial
  | .own _, _ => trivial
  | .xd _, _ => trivial
  | .met _ _, _ => trivial
  | .rng _ _, _ => trivial
  | .tbl _, _ => trivial
  | .ext _, _ => trivial
theorem szOk_of {X : Cx} {pins : List (Addr × Obj)} {σ : L2.St} {H : Hp} {s : Shared} (I : Inv X pins σ H s) : SzOk H := fun a u e => szO_of (I.hok a u e)
theorem pa_sz {X : Cx} {es : List Expr} {t : TA} (h : PA X es t) : PA X es fun σ H Q => t σ H fun vs H' => SzOk H' → Q vs H' :=
  ⟨fun pos pins s σ H Q I hw => thn (h.run pos pins s σ H _ I hw) fun us s1 ⟨vs, H1, I1, r, q⟩ => ⟨vs, H1, I1, r, q (szOk_of I1)⟩⟩
theorem pe_sz {X : Cx} {e : Expr} {t : TE} (h : PE X e t) : PE X e fun σ H Q => t σ H fun vs H' => SzOk H' → Q vs H' :=
  ⟨fun pins s σ H Q I hw => thn (h.run pins s σ H _ I hw) fun us s1 ⟨vs, H1, I1, r, q⟩ => ⟨vs, H1, I1, r, q (szOk_of I1)⟩⟩

/-! ### walks -/
theorem key_rep {K : PySem.W.Frag} {μ : List Addr} {H : Hp} {d : Val} {κ : Key} (h : d.key = some κ) : Rep K μ H d (kV κ) := by
  cases d with
  | int i => cases h; rfl
  | str s => cases h; rfl
  | _ => cases h
theorem RepD.get {K : PySem.W.Frag} {μ : List Addr} {H : Hp} : ∀ {ds : List (Val × Val)} {vs : List (Key × V)} {i : Nat} {k d : Val}, RepD K μ H ds vs → ds[i]? = some (k, d) → ∃ κ v, vs[i]? = some (κ, v) ∧ k.key = some κ ∧ Rep K μ H d v
  | [], _, _, _, _, _, e => by simp at e
  | (k', d') :: ds, vs, 0, k, d, h, e => by
    obtain ⟨κ, v, r, rfl, ek, q, t⟩ := h
    simp at e
    obtain ⟨rfl, rfl⟩ := e
    exact ⟨κ, v, rfl, ek, q⟩
  | (k', d') :: ds, vs, i + 1, k, d, h, e => by
    obtain ⟨κ, v, r, rfl, ek, q, t⟩ := h
    obtain ⟨κ', v', e1, e2, q1⟩ := RepD.get (i := i) t (by simpa using e)
    exact ⟨κ', v', by simpa using e1, e2, q1⟩
section
variable {K : PySem.W.Frag} {μ : List Addr} {H : Hp}
theorem lst_sz {a : Addr} {vs : List V} (z : SzOk H) (e : LstF K H a vs) : vs.length ≤ sizeLine := by
  rcases e with ⟨o, e⟩ | ⟨o, its, n, _, _, _, _, hz, r⟩
  · exact z _ _ e
  · have := r.length
    simp only [Array.length_toList] at this
    omega
theorem walk_list {a : Addr} {vs : List V} {ds : List Val} (z : SzOk H) (e : LstF K H a vs) (r : Reps K μ H ds vs) : WalkOk K μ H (Itl K a) ds := by
  refine ⟨by rw [Reps.length r]; exact lst_sz z e, ?_⟩
  intro H1 m
  have q : SqL K H1 a vs := (e.mono m).sq
  have hl := Reps.length r
  refine ⟨fun i hi => ⟨vs, vs[i]'(by omega), q, List.getElem?_eq_getElem (by omega)⟩, ⟨vs, q, by omega⟩, fun i d v H2 hd y => ?_⟩
  obtain ⟨rfl, y⟩ := y
  obtain ⟨v', h1, h2⟩ := Reps.get r hd
  have h3 := y vs q
  rw [h1] at h3; cases h3
  exact ⟨Ext.refl _, Rep.mono (List.prefix_refl _) m _ _ h2⟩
theorem SqT.inj' {X : Cx} {a : Addr} {xs ys : List V} {pins : List (Addr × Obj)} {σ : L2.St} {s : Shared} (I : Inv X pins σ H s) (h : SqT X.K H a xs) (h' : SqT X.K H a ys) : xs = ys := I.tuple_inj h h'
theorem walk_tup {a : Addr} {vs : List V} {ds : List Val} (z : SzOk H) (e : SqT K H a vs) (r : Reps K μ H ds vs) : WalkOk K μ H (Itt K a) ds := by
  refine ⟨?_, ?_⟩
  · rw [Reps.length r]
    rcases e with (e | ⟨o, e⟩) | ⟨o, its, n, _, _, _, hz, rv⟩
    · exact z _ _ e
    · exact z _ _ e
    · have := rv.length
      have e2 : its.toList.length = its.size := by simp
      omega
  intro H1 m
  have q : SqT K H1 a vs := PV.SqT.mono e m
  have hl := Reps.length r
  refine ⟨fun i hi => ⟨vs, vs[i]'(by omega), q, List.getElem?_eq_getElem (by omega)⟩, ⟨vs, q, by omega⟩, fun i d v H2 hd y => ?_⟩
  obtain ⟨rfl, y⟩ := y
  obtain ⟨v', h1, h2⟩ := Reps.get r hd
  have h3 := y vs q
  rw [h1] at h3; cases h3
  exact ⟨Ext.refl _, Rep.mono (List.prefix_refl _) m _ _ h2⟩
theorem walk_keys {a : Addr} {o : Obj} {kvs : List (Key × V)} {ds : List (Val × Val)} (z : SzOk H) (e : H a = some (.frz o (.dK kvs))) (r : RepD K μ H ds kvs) : WalkOk K μ H (Itk a o kvs) (ds.map (·.1)) := by
  refine ⟨by rw [List.length_map, RepD.length r]; exact z _ _ e, ?_⟩
  intro H1 m
  have q := m.frz _ _ _ e
  have hl := RepD.length r
  refine ⟨fun i hi => ⟨q, by rw [List.length_map] at hi; omega⟩, ⟨q, by rw [List.length_map]; omega⟩, fun i d v H2 hd y => ?_⟩
  obtain ⟨rfl, k, w, y, rfl⟩ := y
  rw [List.getElem?_map] at hd
  cases ed : ds[i]? with
  | none => rw [ed] at hd; cases hd
  | some p =>
    rw [ed] at hd; cases hd
    obtain ⟨κ, v', h1, h2, _⟩ := RepD.get r (k := p.1) (d := p.2) ed
    rw [y] at h1; cases h1
    exact ⟨Ext.refl _, key_rep h2⟩
theorem walk_vals {a : Addr} {o : Obj} {kvs : List (Key × V)} {ds : List (Val × Val)} (z : SzOk H) (e : H a = some (.frz o (.dK kvs))) (r : RepD K μ H ds kvs) : WalkOk K μ H (Itd a o kvs) (ds.map (·.2)) := by
  refine ⟨by rw [List.length_map, RepD.length r]; exact z _ _ e, ?_⟩
  intro H1 m
  have q := m.frz _ _ _ e
  have hl := RepD.length r
  refine ⟨fun i hi => ⟨q, by rw [List.length_map] at hi; omega⟩, ⟨q, by rw [List.length_map]; omega⟩, fun i d v H2 hd y => ?_⟩
  obtain ⟨rfl, k, y⟩ := y
  rw [List.getElem?_map] at hd
  cases ed : ds[i]? with
  | none => rw [ed] at hd; cases hd
  | some p =>
    rw [ed] at hd; cases hd
    obtain ⟨κ, v', h1, h2, h3⟩ := RepD.get r (k := p.1) (d := p.2) ed
    rw [y] at h1; cases h1
    exact ⟨Ext.refl _, Rep.mono (List.prefix_refl _) m _ _ h3⟩
theorem walk_items {a : Addr} {o : Obj} {kvs : List (Key × V)} {ds : List (Val × Val)} (z : SzOk H) (e : H a = some (.frz o (.dK kvs))) (r : RepD K μ H ds kvs) : WalkOk K μ H (Iti a o kvs) (ds.map fun p => .tup [p.1, p.2]) := by
  refine ⟨by rw [List.length_map, RepD.length r]; exact z _ _ e, ?_⟩
  intro H1 m
  have q := m.frz _ _ _ e
  have hl := RepD.length r
  refine ⟨fun i hi => ⟨q, by rw [List.length_map] at hi; omega⟩, ⟨q, by rw [List.length_map]; omega⟩, fun i d v H2 hd y => ?_⟩
  obtain ⟨T, k, w, y, rfl, hn, rfl⟩ := y
  rw [List.getElem?_map] at hd
  cases ed : ds[i]? with
  | none => rw [ed] at hd; cases hd
  | some p =>
    rw [ed] at hd; cases hd
    obtain ⟨κ, v', h1, h2, h3⟩ := RepD.get r (k := p.1) (d := p.2) ed
    rw [y] at h1; cases h1
    have ex : Ext H1 (L2.upd H1 T (.tup [kV k, w])) := Ext.new hn
    exact ⟨ex, T, _, rfl, SqT.of upd_same, _, _, rfl, key_rep h2, _, _, rfl, Rep.mono (List.prefix_refl _) (m.trans ex.mono) _ _ h3, rfl⟩
theorem walk_str {x : Str} (hz : x.cps.size ≤ sizeLine) : WalkOk K μ H (Its x) (x.cps.toList.map fun c => .str ⟨#[c]⟩) := by
  refine ⟨by simpa using hz, ?_⟩
  intro H1 m
  refine ⟨fun i hi => by show i < x.cps.size; simpa using hi, by show x.cps.size ≤ _; simp, fun i d v H2 hd y => ?_⟩
  obtain ⟨rfl, c, y, rfl⟩ := y
  rw [List.getElem?_map, Array.getElem?_toList, y] at hd
  cases hd
  exact ⟨Ext.refl _, rfl⟩
theorem walk_range {lo : Int} {n : Nat} (hz : n ≤ sizeLine) : WalkOk K μ H (Itr lo n) ((List.range n).map fun (i : Nat) => .int (lo + i)) := by
  refine ⟨by simpa using hz, ?_⟩
  intro H1 m
  refine ⟨fun i hi => by show i < n; simpa using hi, by show n ≤ _; simp, fun i d v H2 hd y => ?_⟩
  obtain ⟨rfl, rfl⟩ := y
  rw [List.getElem?_map] at hd
  by_cases hi : i < n
  · rw [List.getElem?_range hi] at hd; cases hd
    exact ⟨Ext.refl _, rfl⟩
  · rw [List.getElem?_eq_none (by simpa using hi)] at hd; cases hd
theorem walk_rangeC {lo c : Int} {n : Nat} (hz : n ≤ sizeLine) : WalkOk K μ H (Itc lo c n) ((List.range n).map fun (i : Nat) => .int (lo + (i : Int) * c)) := by
  refine ⟨by simpa using hz, ?_⟩
  intro H1 m
  refine ⟨fun i hi => by show i < n; simpa using hi, by show n ≤ _; simp, fun i d v H2 hd y => ?_⟩
  obtain ⟨rfl, rfl⟩ := y
  rw [List.getElem?_map] at hd
  by_cases hi : i < n
  · rw [List.getElem?_range hi] at hd; cases hd
    exact ⟨Ext.refl _, rfl⟩
  · rw [List.getElem?_eq_none (by simpa using hi)] at hd; cases hd
/-- pairs of a place and a thing -/
def enumV : Nat → List Val → List Val
  | _, [] => []
  | n, d :: ds => .tup [.int n, d] :: enumV (n + 1) ds
theorem enumV_get : ∀ {ds : List Val} {n i : Nat} {e : Val}, (enumV n ds)[i]? = some e → ∃ d, ds[i]? = some d ∧ e = .tup [.int ((n + i : Nat) : Int), d]
  | [], _, _, _, h => by simp [enumV] at h
  | d :: ds, n, 0, e, h => by simp [enumV] at h; exact ⟨d, rfl, h.symm⟩
  | d :: ds, n, i + 1, e, h => by
    obtain ⟨d', h1, h2⟩ := enumV_get (ds := ds) (n := n + 1) (i := i) (by simpa [enumV] using h)
    exact ⟨d', by simpa using h1, by rw [h2]; congr 3; omega⟩
theorem enumV_len : ∀ (ds : List Val) (n : Nat), (enumV n ds).length = ds.length
  | [], _ => rfl
  | d :: ds, n => by rw [enumV, List.length_cons, List.length_cons, enumV_len ds]
theorem walk_enum {a : Addr} {vs : List V} {ds : List Val} (z : SzOk H) (e : LstF K H a vs) (r : Reps K μ H ds vs) : WalkOk K μ H (Ite K a) (enumV 0 ds) := by
  refine ⟨by rw [enumV_len, Reps.length r]; exact lst_sz z e, ?_⟩
  intro H1 m
  have q : SqL K H1 a vs := (e.mono m).sq
  have hl := Reps.length r
  refine ⟨fun i hi => ⟨vs, vs[i]'(by rw [enumV_len] at hi; omega), q, List.getElem?_eq_getElem (by rw [enumV_len] at hi; omega)⟩, ⟨vs, q, by rw [enumV_len]; omega⟩, fun i d v H2 hd y => ?_⟩
  obtain ⟨T, x, rfl, hn, rfl, y⟩ := y
  obtain ⟨d', h0, rfl⟩ := enumV_get hd
  obtain ⟨v', h1, h2⟩ := Reps.get r h0
  have h3 := y vs q
  rw [h1] at h3; obtain rfl := Option.some.inj h3
  have ex : Ext H1 (L2.upd H1 T (.tup [.int (i : Nat), v'])) := Ext.new hn
  refine ⟨ex, T, _, rfl, SqT.of upd_same, _, _, rfl, ?_, _, _, rfl, Rep.mono (List.prefix_refl _) (m.trans ex.mono) _ _ h2, rfl⟩
  show V.int _ = V.int _
  congr 1; omega
def zipV : List Val → List Val → List Val
  | d :: ds, e :: es => .tup [d, e] :: zipV ds es
  | _, _ => []
theorem zipV_get : ∀ {ds es : List Val} {i : Nat} {z : Val}, (zipV ds es)[i]? = some z → ∃ d e, ds[i]? = some d ∧ es[i]? = some e ∧ z = .tup [d, e]
  | [], _, _, _, h => by simp [zipV] at h
  | _ :: _, [], _, _, h => by simp [zipV] at h
  | d :: ds, e :: es, 0, z, h => by simp [zipV] at h; exact ⟨d, e, rfl, rfl, h.symm⟩
  | d :: ds, e :: es, i + 1, z, h => by
    obtain ⟨d', e', h1, h2, h3⟩ := zipV_get (ds := ds) (es := es) (i := i) (by simpa [zipV] using h)
    exact ⟨d', e', by simpa using h1, by simpa using h2, h3⟩
theorem zipV_len : ∀ (ds es : List Val), (zipV ds es).length = min ds.length es.length
  | [], _ => by simp [zipV]
  | _ :: _, [] => by simp [zipV]
  | d :: ds, e :: es => by rw [zipV, List.length_cons, List.length_cons, List.length_cons, zipV_len ds es]; omega
theorem walk_zip {a b : Addr} {vs ws : List V} {ds es : List Val} (z : SzOk H) (e : LstF K H a vs) (r : Reps K μ H ds vs) (e' : LstF K H b ws) (r' : Reps K μ H es ws) : WalkOk K μ H (Itz K a b) (zipV ds es) := by
  refine ⟨by have := lst_sz z e; rw [zipV_len, Reps.length r]; exact Nat.le_trans (Nat.min_le_left _ _) this, ?_⟩
  intro H1 m
  have q : SqL K H1 a vs := (e.mono m).sq
  have q' : SqL K H1 b ws := (e'.mono m).sq
  have hl := Reps.length r
  have hl' := Reps.length r'
  refine ⟨fun i hi => ⟨vs, ws, vs[i]'(by rw [zipV_len] at hi; omega), ws[i]'(by rw [zipV_len] at hi; omega), q, q', List.getElem?_eq_getElem (by rw [zipV_len] at hi; omega), List.getElem?_eq_getElem (by rw [zipV_len] at hi; omega)⟩, ⟨vs, ws, q, q', by rw [zipV_len]; omega⟩, fun i d v H2 hd y => ?_⟩
  obtain ⟨T, x, x', rfl, hn, rfl, y, y'⟩ := y
  obtain ⟨d1, d2, h0, h0', rfl⟩ := zipV_get hd
  obtain ⟨v1, h1, h2⟩ := Reps.get r h0
  obtain ⟨v2, h1', h2'⟩ := Reps.get r' h0'
  have h3 := y vs q
  rw [h1] at h3; obtain rfl := Option.some.inj h3
  have h3' := y' ws q'
  rw [h1'] at h3'; obtain rfl := Option.some.inj h3'
  have ex : Ext H1 (L2.upd H1 T (.tup [v1, v2])) := Ext.new hn
  exact ⟨ex, T, _, rfl, SqT.of upd_same, _, _, rfl, Rep.mono (List.prefix_refl _) (m.trans ex.mono) _ _ h2, _, _, rfl, Rep.mono (List.prefix_refl _) (m.trans ex.mono) _ _ h2', rfl⟩
end

section
variable {X : Cx} {cl : Nat → Addr} {W : WX} {tg e : Expr} {mv : M Val}
def itL : Val → M (List Val)
  | .list ds => ret ds
  | _ => stk
def itT : Val → M (List Val)
  | .tup ds => ret ds
  | _ => stk
def itK : Val → M (List Val)
  | .dict ds => ret (ds.map (·.1))
  | _ => stk
def itS : Val → M (List Val)
  | .str x => if x.cps.size ≤ 16777216 then ret (x.cps.toList.map fun c => .str ⟨#[c]⟩) else stk
  | _ => stk
/-- a list, a tuple, a dict's keys, a text -/
def itA : Val → M (List Val)
  | .list ds => ret ds
  | .tup ds => ret ds
  | .dict ds => ret (ds.map (·.1))
  | .str x => if x.cps.size ≤ 16777216 then ret (x.cps.toList.map fun c => .str ⟨#[c]⟩) else stk
  | _ => stk
section
variable {pins : List (Addr × Obj)} {σ : L2.St} {H : Hp} {s : Shared} {R : It → Hp → Prop} {E : Value → Shared → Prop}
theorem itv_list {a : Addr} {xs : List V} (I : Inv X pins σ H s) (hq : SqL X.K H a xs) (q : R (Itl X.K a) H) : wpAny (model X.prog X.w) X.A (pyIter (.ref a)) (PIE X pins σ tg R) E s := by
  obtain ⟨its, rv, p, hz⟩ := I.list hq
  refine PySem.wpAny_pyIter_list p.isList ?_
  refine ⟨s.heap.objs.size, [s.heap.objs.size], _, _, H, rfl, I.kept (t' := s.toks) fun b o e => Heap.get?_push_of_some _ e, turn_list a _, ⟨_, Heap.get?_push_size _ rfl, rfl, rfl⟩, fun b hb => ?_, q⟩
  have e : b = s.heap.objs.size := by simpa using hb
  subst e
  exact I.fpOk (Nat.le_refl _) (I.hok.fresh (Nat.le_refl _))
theorem itv_tup {a : Addr} {xs : List V} (I : Inv X pins σ H s) (hq : SqT X.K H a xs) (q : R (Itt X.K a) H) : wpAny (model X.prog X.w) X.A (pyIter (.ref a)) (PIE X pins σ tg R) E s := by
  obtain ⟨its, rv, p, hz⟩ := I.tuple hq
  refine PySem.wpAny_pyIter_tuple (show s.heap.IsTuple a its.toArray from p) ?_
  refine ⟨s.heap.objs.size, [s.heap.objs.size], _, _, H, rfl, I.kept (t' := s.toks) fun b o e => Heap.get?_push_of_some _ e, turn_tuple a _, ⟨_, Heap.get?_push_size _ rfl, rfl, rfl⟩, fun b hb => ?_, q⟩
  have e : b = s.heap.objs.size := by simpa using hb
  subst e
  exact I.fpOk (Nat.le_refl _) (I.hok.fresh (Nat.le_refl _))
theorem itv_keys {d : Addr} {o : Obj} {kvs : List (Key × V)} (I : Inv X pins σ H s) (hd : H d = some (.frz o (.dK kvs))) (q : R (Itk d o kvs) H) : wpAny (model X.prog X.w) X.A (pyIter (.ref d)) (PIE X pins σ tg R) E s := by
  obtain ⟨hs, hgd, hx, es, ep, vs, hdt, hsz, kv, hm⟩ := I.frzK hd
  refine iter_keys hs hgd hx hdt (pi_one (tk := s.toks) I _ (turn_keys _ hdt) ⟨_, Heap.get?_push_size _ rfl, rfl, ?_⟩ q)
  rw [hsz] <;> rfl
theorem itv_str {x : Str} {t : Tok} (I : Inv X pins σ H s) (q : R (Its x) H) : wpAny (model X.prog X.w) X.A (pyIter (.str x t)) (PIE X pins σ tg R) E s := by
  cases ha : x.cps.all (· < 128)
  · exact wpAny_pyIter_wide ha (pi_one (tk := s.toks) I _ (turn_str _ x t "str_iterator" (.inr rfl)) ⟨_, Heap.get?_push_size _ rfl, rfl, rfl⟩ q)
  · exact wpAny_pyIter_ascii ha (pi_one (tk := s.toks) I _ (turn_str _ x t "str_ascii_iterator" (.inl rfl)) ⟨_, Heap.get?_push_size _ rfl, rfl, rfl⟩ q)
end
/-- whatever may be walked: by the value that comes -/
theorem si_any (h : SV X cl W e mv) : SI X cl W tg e (bnd mv itA) := by
  refine ⟨⟨fun pins s σ H R I hw => ?_⟩⟩
  obtain ⟨G, μ, st, rel, hw⟩ := hw
  have hw' : Post X.K cl W G μ H σ (fun μ H _ d v => Rep X.K μ H d v) (fun v H1 => ∃ μ1 d st1, Rep X.K μ1 H1 d v ∧
      match itA d st1 with | .ok ds st' => ∀ J, WalkOk X.K μ1 H1 J ds → R J H1 | _ => False) (mv st) := by
    unfold bnd at hw
    cases em : mv st with
    | stuck => rw [em] at hw; exact hw.elim
    | exc C fs st' => rw [em] at hw; exact hw
    | ok d st1 =>
      rw [em] at hw
      refine fun v H' μ' p mo r q => ⟨μ', d, st1, q, ?_⟩
      dsimp only at hw
      cases d with
      | str x =>
        unfold itA at hw ⊢
        dsimp only at hw ⊢
        by_cases hx : x.cps.size ≤ 16777216
        · rw [if_pos hx] at hw ⊢
          exact fun J wk => hw J H' μ' p mo r wk
        · rw [if_neg hx] at hw; exact hw.elim
      | _ => first | exact hw.elim | exact fun J wk => hw J H' μ' p mo r wk
  have hE := h.pe.run pins s σ H _ I ⟨G, μ, st, rel, hw'⟩
  refine thn hE fun u s1 ⟨x, H1, I1, rx, μ1, d, st1, q1, z⟩ => ?_
  cases d with
  | list ds =>
    obtain ⟨a, vs, rfl, e1, r1⟩ := q1
    obtain rfl : u = Value.ref a := rx
    exact itv_list I1 e1.sq (z _ (walk_list (szOk_of I1) e1 r1))
  | tup ds =>
    obtain ⟨a, vs, rfl, e1, r1⟩ := q1
    obtain rfl : u = Value.ref a := rx
    exact itv_tup I1 e1 (z _ (walk_tup (szOk_of I1) e1 r1))
  | dict ds =>
    obtain ⟨a, o, vs, rfl, e1, r1⟩ := q1
    obtain rfl : u = Value.ref a := rx
    exact itv_keys I1 e1 (z _ (walk_keys (szOk_of I1) e1 r1))
  | str y =>
    cases (show x = .str y from q1)
    obtain ⟨t, rfl⟩ := rx
    unfold itA at z
    dsimp only at z
    by_cases hx : y.cps.size ≤ 16777216
    · rw [if_pos hx] at z
      exact itv_str I1 (z _ (walk_str (by rw [sizeLine_eq]; exact hx)))
    · rw [if_neg hx] at z; exact z.elim
  | _ => exact z.elim
/-- range(n), range(a, b) -/
def vRange (lo hi : Int) : List Val := (List.range (hi - lo).toNat).map fun (i : Nat) => .int (lo + i)
def okR (i : Int) : Bool := decide (-8000000 ≤ i) && decide (i ≤ 8000000)
def itR1 : List Val → M (List Val)
  | [.int n] => if okR n = true then ret (vRange 0 n) else stk
  | _ => stk
def itR2 : List Val → M (List Val)
  | [.int a, .int b] => if (okR a && okR b) = true then ret (vRange a b) else stk
  | _ => stk
theorem Reps.int1 {K : PySem.W.Frag} {μ : List Addr} {H : Hp} {n : Int} {vs : List V} (h : Reps K μ H [.int n] vs) : vs = [.int n] := by
  obtain ⟨v, r, rfl, q, t⟩ := h
  cases (show v = .int n from q)
  cases (show r = [] from t)
  rfl
theorem Reps.int2 {K : PySem.W.Frag} {μ : List Addr} {H : Hp} {n m : Int} {vs : List V} (h : Reps K μ H [.int n, .int m] vs) : vs = [.int n, .int m] := by
  obtain ⟨v, r, rfl, q, t⟩ := h
  cases (show v = .int n from q)
  rw [Reps.int1 t]
/-- what is asked of a walk behind its arguments -/
theorem args_it {K : PySem.W.Frag} {G H : Hp} {μ : List Addr} {σ : L2.St} {st : State} {n : Nat} {ms : M (List Val)} {f : List Val → M (List Val)} {R : It → Hp → Prop}
    (hw : match bnd ms f st with
      | .ok ds st' => ∀ J H' μ', μ <+: μ' → Mono H H' → Rel K cl G μ' H' σ st' → WalkOk K μ' H' J ds → R J H'
      | .exc C fs st' => ∀ c d H' μ', μ <+: μ' → Mono H H' → Rel K cl G μ' H' σ st' → ExcR K cl μ' H' C fs c d → W c d σ H'
      | .stuck => False) (hf : ∀ ds st st' es, f ds st = .ok es st' → st' = st) (hf2 : ∀ ds st C fs st', f ds st ≠ .exc C fs st') :
    Post K cl W G μ H σ (fun μ H _ d v => d.length = n ∧ Reps K μ H d v) (fun vs H1 => ∃ μ1 ds es st1, Reps K μ1 H1 ds vs ∧ f ds st1 = .ok es st1 ∧ ∀ J, WalkOk K μ1 H1 J es → R J H1) (ms st) := by
  unfold bnd at hw
  cases em : ms st with
  | stuck => rw [em] at hw; exact hw.elim
  | exc C fs st' => rw [em] at hw; exact hw
  | ok ds st1 =>
    rw [em] at hw
    dsimp only at hw
    cases ef : f ds st1 with
    | stuck => rw [ef] at hw; exact hw.elim
    | exc C fs st' => exact absurd ef (hf2 _ _ _ _ _)
    | ok es st2 =>
      rw [ef] at hw
      obtain rfl := hf _ _ _ _ ef
      exact fun v H' μ' p mo r q => ⟨μ', ds, es, st2, q.2, ef, fun J wk => hw J H' μ' p mo r wk⟩
theorem itR1_ok {ds : List Val} {st st' : State} {es : List Val} (h : itR1 ds st = .ok es st') : st' = st ∧ ∃ n : Int, ds = [.int n] ∧ okR n = true ∧ es = vRange 0 n := by
  unfold itR1 at h
  split at h
  · rename_i n
    split at h
    · rename_i hn; cases h; exact ⟨rfl, n, rfl, hn, rfl⟩
    · cases h
  · cases h
theorem itR2_ok {ds : List Val} {st st' : State} {es : List Val} (h : itR2 ds st = .ok es st') : st' = st ∧ ∃ a b : Int, ds = [.int a, .int b] ∧ (okR a && okR b) = true ∧ es = vRange a b := by
  unfold itR2 at h
  split at h
  · rename_i a b
    split at h
    · rename_i hn; cases h; exact ⟨rfl, a, b, rfl, hn, rfl⟩
    · cases h
  · cases h
theorem itR1_ne (ds : List Val) (st : State) (C : Nat) (fs : List (Str × Val)) (st' : State) : itR1 ds st ≠ .exc C fs st' := by
  intro h
  unfold itR1 at h
  repeat' split at h
  all_goals cases h
theorem itR2_ne (ds : List Val) (st : State) (C : Nat) (fs : List (Str × Val)) (st' : State) : itR2 ds st ≠ .exc C fs st' := by
  intro h
  unfold itR2 at h
  repeat' split at h
  all_goals cases h
variable {a b : Expr} {ms : M (List Val)} {p pos : Pos}
theorem si_range1 (ha : SVs X cl W [a] ms) (hg : Gl X "range") (hm : X.mg "range" = none) (hs : starEach [a] X.env = [(false, eval a X.env)] := by rfl) : SI X cl W tg (.Call (.Name "range" p) [a] [] pos) (bnd ms itR1) := by
  refine ⟨⟨fun pins s σ H R I hw => (pi_range1 hg hm ha.pa hs).run pins s σ H R I ?_⟩⟩
  obtain ⟨G, μ, st, rel, hw⟩ := hw
  refine ⟨G, μ, st, rel, (args_it hw (fun _ _ _ _ h => (itR1_ok h).1) itR1_ne).imp (List.prefix_refl _) (Mono.refl _) fun vs H1 ⟨μ1, ds, es, st1, r, h, z⟩ => ?_⟩
  obtain ⟨_, n, rfl, hn, rfl⟩ := itR1_ok h
  unfold okR at hn
  simp only [Bool.and_eq_true, decide_eq_true_eq] at hn
  refine ⟨n, Reps.int1 r, by omega, by omega, z _ ?_⟩
  have e : vRange 0 n = (List.range n.toNat).map fun (i : Nat) => .int (0 + i) := by unfold vRange; rw [Int.sub_zero]
  rw [e]; exact walk_range (by rw [sizeLine_eq]; omega)
theorem si_range2 (ha : SVs X cl W [a, b] ms) (hg : Gl X "range") (hm : X.mg "range" = none) (hs : starEach [a, b] X.env = [(false, eval a X.env), (false, eval b X.env)] := by rfl) (hs2 : starEach [b] X.env = [(false, eval b X.env)] := by rfl) :
    SI X cl W tg (.Call (.Name "range" p) [a, b] [] pos) (bnd ms itR2) := by
  refine ⟨⟨fun pins s σ H R I hw => (pi_range2 hg hm ha.pa hs hs2).run pins s σ H R I ?_⟩⟩
  obtain ⟨G, μ, st, rel, hw⟩ := hw
  refine ⟨G, μ, st, rel, (args_it hw (fun _ _ _ _ h => (itR2_ok h).1) itR2_ne).imp (List.prefix_refl _) (Mono.refl _) fun vs H1 ⟨μ1, ds, es, st1, r, h, z⟩ => ?_⟩
  obtain ⟨_, n, m, rfl, hn, rfl⟩ := itR2_ok h
  unfold okR at hn
  simp only [Bool.and_eq_true, decide_eq_true_eq] at hn
  exact ⟨n, m, Reps.int2 r, ⟨by omega, by omega, by omega, by omega⟩, z _ (walk_range (by rw [sizeLine_eq]; omega))⟩
/-- enumerate of a list -/
def itE : List Val → M (List Val)
  | [.list ds] => ret (enumV 0 ds)
  | _ => stk
theorem itE_ok {ds : List Val} {st st' : State} {es : List Val} (h : itE ds st = .ok es st') : st' = st ∧ ∃ xs, ds = [.list xs] ∧ es = enumV 0 xs := by
  unfold itE at h
  split at h
  · cases h; exact ⟨rfl, _, rfl, rfl⟩
  · cases h
theorem si_enum {elts : List Expr} {kk : Nat} {tpos : Pos} (ha : SVs X cl W [a] ms) (hg : Gl X "enumerate") (hm : X.mg "enumerate" = none) (hs : starEach [a] X.env = [(false, eval a X.env)] := by rfl) :
    SI X cl W (.Tuple elts kk tpos) (.Call (.Name "enumerate" p) [a] [] pos) (bnd ms itE) := by
  refine ⟨⟨fun pins s σ H R I hw => (pi_enum hg hm (pa_sz ha.pa) hs).run pins s σ H R I ?_⟩⟩
  obtain ⟨G, μ, st, rel, hw⟩ := hw
  refine ⟨G, μ, st, rel, (args_it hw (fun _ _ _ _ h => (itE_ok h).1) (fun ds st C fs st' h => by unfold itE at h; split at h <;> cases h)).imp (List.prefix_refl _) (Mono.refl _) fun vs H1 ⟨μ1, ds, es, st1, r, h, z⟩ => ?_⟩
  intro hz
  obtain ⟨_, xs, rfl, rfl⟩ := itE_ok h
  obtain ⟨v, r', rfl, ⟨a, vs', rfl, e1, r1⟩, t⟩ := r
  cases (show r' = [] from t)
  exact ⟨a, vs', rfl, e1.sq, z _ (walk_enum hz e1 r1)⟩
/-- zip of two lists -/
def itZ : List Val → M (List Val)
  | [.list ds, .list es] => ret (zipV ds es)
  | _ => stk
theorem itZ_ok {ds : List Val} {st st' : State} {es : List Val} (h : itZ ds st = .ok es st') : st' = st ∧ ∃ xs ys, ds = [.list xs, .list ys] ∧ es = zipV xs ys := by
  unfold itZ at h
  split at h
  · cases h; exact ⟨rfl, _, _, rfl, rfl⟩
  · cases h
theorem si_zip {elts : List Expr} {kk : Nat} {tpos : Pos} (ha : SVs X cl W [a, b] ms) (hg : Gl X "zip") (hm : X.mg "zip" = none) (hs : starEach [a, b] X.env = (false, eval a X.env) :: starEach [b] X.env := by rfl)
    (hpl : (backTo pos (starEach [b] X.env)).any (·.1) = false := by rfl) : SI X cl W (.Tuple elts kk tpos) (.Call (.Name "zip" p) [a, b] [] pos) (bnd ms itZ) := by
  refine ⟨⟨fun pins s σ H R I hw => (pi_zip hg hm (pa_sz ha.pa) hs hpl).run pins s σ H R I ?_⟩⟩
  obtain ⟨G, μ, st, rel, hw⟩ := hw
  refine ⟨G, μ, st, rel, (args_it hw (fun _ _ _ _ h => (itZ_ok h).1) (fun ds st C fs st' h => by unfold itZ at h; split at h <;> cases h)).imp (List.prefix_refl _) (Mono.refl _) fun vs H1 ⟨μ1, ds, es, st1, r, h, z⟩ => ?_⟩
  intro hz
  obtain ⟨_, xs, ys, rfl, rfl⟩ := itZ_ok h
  obtain ⟨v, r', rfl, ⟨a, vs', rfl, e1, r1⟩, v2, r2', rfl, ⟨a2, vs2, rfl, e2, r2⟩, t⟩ := r
  cases (show r2' = [] from t)
  exact ⟨a, a2, vs', vs2, rfl, e1.sq, e2.sq, z _ (walk_zip hz e1 r1 e2 r2)⟩
/-- d.items(), d.values(), d.keys() -/
def itI : Val → M (List Val)
  | .dict ds => ret (ds.map fun p => .tup [p.1, p.2])
  | _ => stk
def itV : Val → M (List Val)
  | .dict ds => ret (ds.map (·.2))
  | _ => stk
theorem dict_it {K : PySem.W.Frag} {G H : Hp} {μ : List Addr} {σ : L2.St} {st : State} {f : Val → M (List Val)} {g : List (Val × Val) → List Val} {R : It → Hp → Prop} {mv : M Val} (hf : ∀ ds, f (.dict ds) = ret (g ds)) (hf2 : ∀ d, (∀ ds, d ≠ .dict ds) → f d = stk)
    (hw : match bnd mv f st with
      | .ok ds st' => ∀ J H' μ', μ <+: μ' → Mono H H' → Rel K cl G μ' H' σ st' → WalkOk K μ' H' J ds → R J H'
      | .exc C fs st' => ∀ c d H' μ', μ <+: μ' → Mono H H' → Rel K cl G μ' H' σ st' → ExcR K cl μ' H' C fs c d → W c d σ H'
      | .stuck => False) :
    Post K cl W G μ H σ (fun μ H _ d v => Rep K μ H d v) (fun v H1 => ∃ μ1 ds d o kvs, v = .ref d ∧ H1 d = some (.frz o (.dK kvs)) ∧ RepD K μ1 H1 ds kvs ∧ ∀ J, WalkOk K μ1 H1 J (g ds) → R J H1) (mv st) := by
  unfold bnd at hw
  cases em : mv st with
  | stuck => rw [em] at hw; exact hw.elim
  | exc C fs st' => rw [em] at hw; exact hw
  | ok d st1 =>
    rw [em] at hw
    dsimp only at hw
    by_cases hd : ∃ ds, d = .dict ds
    · obtain ⟨ds, rfl⟩ := hd
      rw [hf] at hw
      rintro v H' μ' p mo r ⟨a, o, kvs, rfl, e, rd⟩
      exact ⟨μ', ds, a, o, kvs, rfl, e, rd, fun J wk => hw J H' μ' p mo r wk⟩
    · rw [hf2 d fun ds e => hd ⟨ds, e⟩] at hw
      exact hw.elim
variable {apos cpos : Pos}
theorem si_items {elts : List Expr} {kk : Nat} {tpos : Pos} (h : SV X cl W e mv) (hbase : attributeBase e "items" X.env (eval e X.env) = eval e X.env := by rfl) (hline : (apos.endLine == cpos.line) = true := by rfl) :
    SI X cl W (.Tuple elts kk tpos) (.Call (.Attribute e "items" apos) [] [] cpos) (bnd mv itI) := by
  refine ⟨⟨fun pins s σ H R I hw => (pi_items (pe_sz h.pe) hbase hline).run pins s σ H R I ?_⟩⟩
  obtain ⟨G, μ, st, rel, hw⟩ := hw
  refine ⟨G, μ, st, rel, (dict_it (fun _ => rfl) (fun d hd => by cases d <;> first | rfl | exact absurd rfl (hd _)) hw).imp (List.prefix_refl _) (Mono.refl _) fun v H1 ⟨μ1, ds, d, o, kvs, e, ed, rd, z⟩ => ?_⟩
  exact fun hz => ⟨d, o, kvs, e, ed, z _ (walk_items hz ed rd)⟩
theorem si_values (h : SV X cl W e mv) (hbase : attributeBase e "values" X.env (eval e X.env) = eval e X.env := by rfl) (hline : (apos.endLine == cpos.line) = true := by rfl) :
    SI X cl W tg (.Call (.Attribute e "values" apos) [] [] cpos) (bnd mv itV) := by
  refine ⟨⟨fun pins s σ H R I hw => (pi_values (pe_sz h.pe) hbase hline).run pins s σ H R I ?_⟩⟩
  obtain ⟨G, μ, st, rel, hw⟩ := hw
  refine ⟨G, μ, st, rel, (dict_it (fun _ => rfl) (fun d hd => by cases d <;> first | rfl | exact absurd rfl (hd _)) hw).imp (List.prefix_refl _) (Mono.refl _) fun v H1 ⟨μ1, ds, d, o, kvs, e, ed, rd, z⟩ => ?_⟩
  exact fun hz => ⟨d, o, kvs, e, ed, z _ (walk_vals hz ed rd)⟩
end
end PV

/-! PvG: comprehensions. -/
namespace PV
open PySem PySem.Spec L2

theorem bnd_ok {α β : Type} {m : M α} {f : α → M β} {st s' : State} {y : β} (h : bnd m f st = .ok y s') : ∃ a s1, m st = .ok a s1 ∧ f a s1 = .ok y s' := by
  unfold bnd at h
  cases e : m st with
  | ok a s1 => rw [e] at h; exact ⟨a, s1, rfl, h⟩
  | exc C fs s => rw [e] at h; cases h
  | stuck => rw [e] at h; cases h

/-- the slots vs forgotten -/
def wipeL (ρ : List Slot) : List Nat → List Slot
  | [] => ρ
  | v :: vs => (wipeL ρ vs).set v .unb
def wipeS (vs : List Nat) (st : State) : State := { st with ρ := wipeL st.ρ vs }
def keepS : Option Slot → Slot
  | some (.shr d) => .shr d
  | _ => .unb
/-- the slots vs as they were ahead, but for things of their own -/
def restL (o : List Slot) (ρ : List Slot) : List Nat → List Slot
  | [] => ρ
  | v :: vs => (restL o ρ vs).set v (keepS o[v]?)
def restS (vs : List Nat) (st st' : State) : State := { st' with ρ := restL st.ρ st'.ρ vs }

theorem wipeL_len (ρ : List Slot) : ∀ vs, (wipeL ρ vs).length = ρ.length
  | [] => rfl
  | v :: vs => by rw [wipeL, List.length_set, wipeL_len ρ vs]
theorem restL_len (o ρ : List Slot) : ∀ vs, (restL o ρ vs).length = ρ.length
  | [] => rfl
  | v :: vs => by rw [restL, List.length_set, restL_len o ρ vs]
theorem wipeL_out {ρ : List Slot} {i : Nat} : ∀ {vs : List Nat}, i ∉ vs → (wipeL ρ vs)[i]? = ρ[i]?
  | [], _ => rfl
  | v :: vs, h => by
    rw [wipeL, List.getElem?_set_ne (fun z => h (by simp [z]))]
    exact wipeL_out fun z => h (by simp [z])
theorem wipeL_in {ρ : List Slot} {i : Nat} {s : Slot} : ∀ {vs : List Nat}, i ∈ vs → (wipeL ρ vs)[i]? = some s → s = .unb
  | [], h, _ => by cases h
  | v :: vs, h, e => by
    rw [wipeL] at e
    by_cases hv : v = i
    · subst hv
      by_cases hl : v < (wipeL ρ vs).length
      · rw [List.getElem?_set_self hl] at e; cases e; rfl
      · rw [List.getElem?_eq_none (by rw [List.length_set]; omega)] at e; cases e
    · rw [List.getElem?_set_ne hv] at e
      rcases List.mem_cons.mp h with z | z
      · exact absurd z.symm hv
      · exact wipeL_in z e
theorem restL_out {o ρ : List Slot} {i : Nat} : ∀ {vs : List Nat}, i ∉ vs → (restL o ρ vs)[i]? = ρ[i]?
  | [], _ => rfl
  | v :: vs, h => by
    rw [restL, List.getElem?_set_ne (fun z => h (by simp [z]))]
    exact restL_out fun z => h (by simp [z])
theorem restL_in {o ρ : List Slot} {i : Nat} {s : Slot} : ∀ {vs : List Nat}, i ∈ vs → (restL o ρ vs)[i]? = some s → s = keepS o[i]?
  | [], h, _ => by cases h
  | v :: vs, h, e => by
    rw [restL] at e
    by_cases hv : v = i
    · subst hv
      by_cases hl : v < (restL o ρ vs).length
      · rw [List.getElem?_set_self hl] at e; cases e; rfl
      · rw [List.getElem?_eq_none (by rw [List.length_set]; omega)] at e; cases e
    · rw [List.getElem?_set_ne hv] at e
      rcases List.mem_cons.mp h with z | z
      · exact absurd z.symm hv
      · exact restL_in z e
theorem wipe_len (σ : L2.St) (vs : List Nat) : (wipe σ vs).length = σ.length := wipe_length σ vs
theorem wipe_in {σ : L2.St} {i : Nat} {w : Option V} : ∀ {vs : List Nat}, i ∈ vs → (wipe σ vs)[i]? = some w → w = none
  | [], h, _ => by cases h
  | v :: vs, h, e => by
    unfold wipe at e
    by_cases hv : v = i
    · subst hv
      by_cases hl : v < (wipe σ vs).length
      · rw [List.getElem?_set_self hl] at e; cases e; rfl
      · rw [List.getElem?_eq_none (by rw [List.length_set]; omega)] at e; cases e
    · rw [List.getElem?_set_ne hv] at e
      rcases List.mem_cons.mp h with z | z
      · exact absurd z.symm hv
      · exact wipe_in z e
theorem SameB.wipe {vs ws : List Nat} {σ σ' : L2.St} (h : SameB vs σ σ') (hs : ∀ i ∈ vs, i ∈ ws) : L2.wipe σ' ws = L2.wipe σ ws := by
  apply List.ext_getElem?
  intro i
  by_cases hi : i ∈ ws
  · by_cases hl : i < σ.length
    · have e1 : (L2.wipe σ ws)[i]? = some ((L2.wipe σ ws)[i]'(by rw [wipe_len]; exact hl)) := List.getElem?_eq_getElem _
      have e2 : (L2.wipe σ' ws)[i]? = some ((L2.wipe σ' ws)[i]'(by rw [wipe_len, h.1]; exact hl)) := List.getElem?_eq_getElem _
      have z1 := wipe_in hi e1
      have z2 := wipe_in hi e2
      rw [z1] at e1
      rw [z2] at e2
      rw [e1, e2]
    · rw [List.getElem?_eq_none (by rw [wipe_len, h.1]; omega), List.getElem?_eq_none (by rw [wipe_len]; omega)]
  · rw [wipe_out hi, wipe_out hi]
    exact h.2 i fun z => hi (hs i z)

section
variable {K : PySem.W.Frag} {cl : Nat → Addr} {G H H' H1 : Hp} {μ μ' μ1 : List Addr} {σ : L2.St} {st st1 : State} {vs : List Nat}
theorem Rel.wipe (h : Rel K cl G μ H σ st) (vs : List Nat) : Rel K cl G μ H (L2.wipe σ vs) (wipeS vs st) := by
  have ow : ∀ (i : Nat) (o : MO), (wipeL st.ρ vs)[i]? = some (.own o) → i ∉ vs ∧ st.ρ[i]? = some (.own o) := fun i o e => by
    have hi : i ∉ vs := fun z => by have := wipeL_in z e; cases this
    exact ⟨hi, by rw [← wipeL_out hi]; exact e⟩
  refine ⟨h.sto, by show (wipeL st.ρ vs).length = _; rw [wipeL_len, wipe_len]; exact h.len, fun i s w e1 e2 => ?_, fun i o a e1 e2 => ?_, fun i j o o' a e1 e2 e3 e4 => ?_⟩
  · by_cases hi : i ∈ vs
    · rw [wipeL_in hi e1]; trivial
    · exact h.slot i s w (by rw [← wipeL_out hi]; exact e1) (by rw [← wipe_out hi]; exact e2)
  · obtain ⟨hi, q⟩ := ow i o e1
    exact h.own i o a q (by rw [← wipe_out hi]; exact e2)
  · obtain ⟨hi, q⟩ := ow i o e1
    obtain ⟨hj, q'⟩ := ow j o' e2
    exact h.apart i j o o' a q q' (by rw [← wipe_out hi]; exact e3) (by rw [← wipe_out hj]; exact e4)
theorem restOwn {i : Nat} {o : MO} {st st' : State} (e : (restS vs st st').ρ[i]? = some (.own o)) : i ∉ vs ∧ st'.ρ[i]? = some (.own o) := by
  have hi : i ∉ vs := fun z => by
    have q := restL_in z e
    unfold keepS at q
    split at q <;> cases q
  exact ⟨hi, by have e : (restL st.ρ st'.ρ vs)[i]? = _ := e; rw [restL_out hi] at e; exact e⟩
theorem Rel.rest (h0 : Rel K cl G μ1 H1 σ st1) (p : μ1 <+: μ) (m : Mono H1 H) (h : Rel K cl G μ H (L2.wipe σ vs) st) : Rel K cl G μ H σ (restS vs st1 st) := by
  refine ⟨h.sto, ?_, fun i s w e1 e2 => ?_, fun i o a e1 e2 => ?_, fun i j o o' a e1 e2 e3 e4 => ?_⟩
  · show (restL st1.ρ st.ρ vs).length = _
    rw [restL_len, h.len, wipe_len]
  · by_cases hi : i ∈ vs
    · have q := restL_in hi e1
      cases eo : st1.ρ[i]? with
      | none => rw [eo] at q; rw [q]; trivial
      | some so =>
        rw [eo] at q
        cases so with
        | unb => rw [q]; trivial
        | own o => rw [q]; trivial
        | shr d =>
          rw [q]
          obtain ⟨v, e, r⟩ := h0.slot i _ w eo e2
          exact ⟨v, e, Rep.mono p m _ _ r⟩
    · have e1 : (restL st1.ρ st.ρ vs)[i]? = some s := e1
      rw [restL_out hi] at e1
      exact h.slot i s w e1 (by rw [wipe_out hi]; exact e2)
  · obtain ⟨hi, q⟩ := restOwn e1
    exact h.own i o a q (by rw [wipe_out hi]; exact e2)
  · obtain ⟨hi, q⟩ := restOwn e1
    obtain ⟨hj, q'⟩ := restOwn e2
    exact h.apart i j o o' a q q' (by rw [wipe_out hi]; exact e3) (by rw [wipe_out hj]; exact e4)
/-- a thing that is not ours is looked after -/
theorem Rel.prot (h : Rel K cl G μ H σ st) {D : Addr} {o : HO} (e : H D = some o) (n : D ∉ μ) (no : ∀ (i : Nat) (o' : MO), st.ρ[i]? = some (.own o') → σ[i]? ≠ some (some (.ref D))) : Rel K cl (L2.upd G D o) μ H σ st := by
  refine ⟨⟨h.sto.len, h.sto.at_, h.sto.nd, fun a ha => ?_, fun b u q => ?_⟩, h.len, h.slot, fun i o' a e1 e2 => ⟨?_, (h.own i o' a e1 e2).2⟩, h.apart⟩
  · rw [upd_ne (fun z => n (by rw [← z]; exact ha))]; exact h.sto.out a ha
  · by_cases hb : b = D
    · subst hb; rw [upd_same] at q; cases q; exact e
    · rw [upd_ne hb] at q; exact h.sto.keep b u q
  · rw [upd_ne (fun z => no i o' e1 (by rw [e2, z]))]; exact (h.own i o' a e1 e2).1
theorem Rel.weak {D : Addr} {o : HO} (h : Rel K cl (L2.upd G D o) μ H σ st) (g : G D = none) : Rel K cl G μ H σ st := by
  have ne : ∀ a, L2.upd G D o a = none → G a = none := fun a e => by
    by_cases ha : a = D
    · rw [ha]; exact g
    · rw [upd_ne ha] at e; exact e
  refine ⟨⟨h.sto.len, h.sto.at_, h.sto.nd, fun a ha => ne a (h.sto.out a ha), fun b u q => ?_⟩, h.len, h.slot, fun i o' a e1 e2 => ⟨ne a (h.own i o' a e1 e2).1, (h.own i o' a e1 e2).2⟩, h.apart⟩
  refine h.sto.keep b u ?_
  rw [upd_ne (fun z => by rw [z, g] at q; cases q)]; exact q
theorem Rel.protN {D : Addr} {o : HO} (h : Rel K cl (L2.upd G D o) μ H σ st) : H D = some o ∧ D ∉ μ ∧ ∀ (i : Nat) (o' : MO), st.ρ[i]? = some (.own o') → σ[i]? ≠ some (some (.ref D)) := by
  refine ⟨h.sto.keep D o upd_same, fun z => ?_, fun i o' e1 e2 => ?_⟩
  · have q := h.sto.out D z; rw [upd_same] at q; cases q
  · have q := (h.own i o' D e1 e2).1; rw [upd_same] at q; cases q
/-- .. and changed -/
theorem Rel.reprot {D : Addr} {o o' : HO} (h : Rel K cl (L2.upd G D o) μ H σ st) (g : G D = none) (mu : Mut (some o)) : Rel K cl (L2.upd G D o') μ (L2.upd H D o') σ st := by
  obtain ⟨e, n, no⟩ := h.protN
  exact ((h.weak g).upd (.inl (by rw [e]; exact mu)) g n no).prot upd_same n no
end

/-! ### list comprehensions -/
def wF : WX := fun _ _ _ _ => False
structure SQ (X : Cx) (cl : Nat → Addr) (W : WX) (ifs : List Expr) (m : M Bool) : Prop where
  pts : PTs X ifs (tST X cl W m)
section
variable {X : Cx} {cl : Nat → Addr} {W : WX} {c : Expr} {m : M Bool}
theorem sq_nil : SQ X cl W [] (ret true) := ⟨⟨fun pins s σ H Q I hw => pts_nil.run pins s σ H Q I (tST_ret hw)⟩⟩
theorem sq_one (h : ST X cl W c m) : SQ X cl W [c] m := ⟨pts_one h.pt⟩
end
def mLcGo (vs : List Nat) (t : RV → M Unit) (c : M Bool) (e : M Val) : List Val → List Val → M (List Val)
  | [], acc => fun st => .ok acc (wipeS vs st)
  | d :: ds, acc => fun st => bnd (t (.sh d)) (fun _ => bnd c fun b => if b = true then bnd e fun y => mLcGo vs t c e ds (acc ++ [y]) else mLcGo vs t c e ds acc) (wipeS vs st)
def mLc (vs : List Nat) (mi : M (List Val)) (t : RV → M Unit) (c : M Bool) (e : M Val) : M RV := bnd mi fun ds => fun st => match mLcGo vs t c e ds [] st with
  | .ok ys st' => .ok (.fr (.lst ys)) (restS vs st st')
  | _ => .stuck
theorem Reps.snoc {K : PySem.W.Frag} {μ : List Addr} {H : Hp} {d : Val} {v : V} (q : Rep K μ H d v) : ∀ {ds : List Val} {us : List V}, Reps K μ H ds us → Reps K μ H (ds ++ [d]) (us ++ [v])
  | [], us, h => by cases (show us = [] from h); exact ⟨v, [], rfl, q, rfl⟩
  | e :: ds, us, h => by
    obtain ⟨w, r, rfl, q1, t⟩ := h
    exact ⟨w, _, rfl, q1, Reps.snoc q t⟩
section
variable {X : Cx} {cl : Nat → Addr} {W : WX} {elt tg iter : Expr} {ifs : List Expr} {scope : Scope} {own : List (Str × Nat)} {ws : List Nat} {pos : Pos} {mi : M (List Val)} {t : RV → M Unit} {mc : M Bool} {me : M Val}
abbrev tSI (X : Cx) (cl : Nat → Addr) (W : WX) (m : M (List Val)) : TI := fun σ H R => ∃ G μ st, Rel X.K cl G μ H σ st ∧ match m st with
    | .ok ds st' => ∀ J H' μ', μ <+: μ' → Mono H H' → Rel X.K cl G μ' H' σ st' → WalkOk X.K μ' H' J ds → R J H'
    | .exc C fs st' => ∀ c d H' μ', μ <+: μ' → Mono H H' → Rel X.K cl G μ' H' σ st' → ExcR X.K cl μ' H' C fs c d → W c d σ H'
    | .stuck => False
abbrev tSG (X : Cx) (cl : Nat → Addr) (W : WX) (vs : List Nat) (t : RV → M Unit) : TG := fun v σ H Q => ∃ G μ st r, Rel X.K cl G μ H σ st ∧ RRV X.K cl G σ μ H st r v ∧ PostG X.K cl W G μ H (fun σ' H' => SameB vs σ σ' → Q σ' H') (t r st)
theorem lc_read {vs : List Nat} {σ : L2.St} {H : Hp} {Q : VK} (hsub : ∀ i ∈ ws, i ∈ vs) (hw : ∃ G μ st, Rel X.K cl G μ H σ st ∧ Post X.K cl W G μ H σ (RRV X.K cl G σ) Q (mLc vs mi t mc me st)) :
    tLc (tSI X cl W mi) (tSG X cl wF ws t) (tST X cl wF mc) (tSV X cl wF me) vs σ H Q := by
  obtain ⟨G, μ, st, rel, hw⟩ := hw
  refine ⟨G, μ, st, rel, ?_⟩
  unfold mLc bnd at hw
  cases em : mi st with
  | stuck => rw [em] at hw; exact hw.elim
  | exc C fs st' => rw [em] at hw; exact hw
  | ok ds st1 =>
    rw [em] at hw
    dsimp only at hw
    intro J H1 μ1 p1 m1 rel1 wk D nD
    cases eg : mLcGo vs t mc me ds [] st1 with
    | stuck => rw [eg] at hw; exact hw.elim
    | exc C fs st' => rw [eg] at hw; exact hw.elim
    | ok ys st' =>
      rw [eg] at hw
      obtain ⟨g1, g2, g3⟩ := rel1.noneG nD
      have ex : Ext H1 (L2.upd H1 D (.lst [])) := Ext.new nD
      refine ⟨fun i k H2 => k = ds.length - i ∧ i ≤ ds.length ∧ ∃ μ2 st2 acc vacc, μ1 <+: μ2 ∧ Mono H1 H2 ∧ H2 D = some (.lst vacc) ∧ Reps X.K μ2 H2 acc vacc ∧ acc.length ≤ i ∧
        Rel X.K cl (L2.upd G D (.lst vacc)) μ2 H2 (wipe σ vs) (wipeS vs st2) ∧ mLcGo vs t mc me (ds.drop i) acc st2 = .ok ys st', ⟨ds.length, by simp, Nat.zero_le _, μ1, st1, [], [], List.prefix_refl _, ex.mono, upd_same, rfl, Nat.le_refl _, ?_, eg⟩, ?_⟩
      · exact (((rel1.ext ex).prot upd_same g2 g3)).wipe vs
      rintro i k H2 ⟨rfl, hi, μ2, st2, acc, vacc, p2, m2, eD, ra, hl, rel2, hg⟩
      obtain ⟨w1, w2, w3⟩ := wk.2 H2 m2
      by_cases hlt : i < ds.length
      · refine .inr ⟨w1 i hlt, fun H2 => ∃ μ2 st2 acc vacc, μ1 <+: μ2 ∧ Mono H1 H2 ∧ H2 D = some (.lst vacc) ∧ Reps X.K μ2 H2 acc vacc ∧ acc.length ≤ i + 1 ∧
          Rel X.K cl (L2.upd G D (.lst vacc)) μ2 H2 (wipe σ vs) (wipeS vs st2) ∧ mLcGo vs t mc me (ds.drop (i + 1)) acc st2 = .ok ys st', fun H' z => ⟨ds.length - (i + 1), by omega, rfl, hlt, z⟩, fun v H3 y => ?_⟩
        have hd : ds[i]? = some ds[i] := List.getElem?_eq_getElem hlt
        obtain ⟨ex3, rp⟩ := w3 i _ v H3 hd y
        rw [List.drop_eq_getElem_cons hlt] at hg
        unfold mLcGo at hg
        obtain ⟨_, s4, e4, hg4⟩ := bnd_ok hg
        have rel3 := rel2.ext ex3
        refine ⟨L2.upd G D (.lst vacc), μ2, wipeS vs st2, .sh ds[i], rel3, Rep.mono p2 (Mono.refl _) _ _ rp, ?_⟩
        rw [e4]
        intro σ4 H4 μ4 p4 m4 rel4 same
        have ew : wipe σ4 vs = wipe σ vs := by
          have h1 := same.wipe hsub
          rw [h1]
          exact SameB.wipe (vs := vs) ⟨wipe_len σ vs, fun j hj => wipe_out hj⟩ fun _ z => z
        refine ⟨ew, L2.upd G D (.lst vacc), μ4, s4, rel4, ?_⟩
        obtain ⟨b, s5, e5, hg5⟩ := bnd_ok hg4
        rw [e5]
        intro b' H5 μ5 p5 m5 rel5 eb
        subst eb
        have ra5 : Reps X.K μ5 H5 acc vacc := Reps.mono (p4.trans p5) ((ex3.mono.trans m4).trans m5) _ _ ra
        have m15 : Mono H1 H5 := ((m2.trans ex3.mono).trans m4).trans m5
        have p15 := (p2.trans p4).trans p5
        cases b with
        | false =>
          rw [if_neg Bool.false_ne_true] at hg5 ⊢
          refine ⟨μ5, s5, acc, vacc, p15, m15, rel5.protN.1, ra5, Nat.le_succ_of_le hl, ?_, hg5⟩
          have z := rel5.wipe vs
          rw [ew] at z
          exact z
        | true =>
          rw [if_pos rfl] at hg5 ⊢
          obtain ⟨d, s6, e6, hg6⟩ := bnd_ok hg5
          refine ⟨L2.upd G D (.lst vacc), μ5, s5, rel5, ?_⟩
          rw [e6]
          intro y6 H6 μ6 p6 m6 rel6 r6
          have e6D := rel6.protN.1
          refine ⟨vacc, e6D, ?_, μ6, s6, acc ++ [d], vacc ++ [y6], p15.trans p6, (m15.trans m6).trans (mono_upd (.inl (by rw [e6D]; trivial))), upd_same, ?_, by rw [List.length_append]; simp; omega, ?_, hg6⟩
          · have h1 := Reps.length ra
            have h2 := wk.1
            omega
          · have mo : Mono H6 (L2.upd H6 D (.lst (vacc ++ [y6]))) := mono_upd (.inl (by rw [e6D]; trivial))
            exact Reps.snoc (Rep.mono (List.prefix_refl _) mo _ _ r6) (Reps.mono p6 (m6.trans mo) _ _ ra5)
          · have z := (rel6.reprot (o' := .lst (vacc ++ [y6])) g1 trivial).wipe vs
            rw [ew] at z
            exact z
      · have e : i = ds.length := by omega
        subst e
        rw [List.drop_length] at hg
        unfold mLcGo at hg
        cases hg
        refine .inl ⟨w2, ?_⟩
        obtain ⟨_, n2, no2⟩ := rel2.protN
        refine hw _ H2 μ2 (p1.trans p2) (m1.trans m2) (Rel.rest (vs := vs) rel1 p2 m2 (rel2.weak g1)) ⟨D, rfl, ⟨vacc, eD, ra⟩, g1, n2, fun j o' e1 e2 => ?_⟩
        obtain ⟨hj, q⟩ := restOwn e1
        exact no2 j o' q (by rw [wipe_out hj]; exact e2)
theorem se_lc (hc : X.calm = true) (hN : X.N.Nodup) (hi : SI X cl W tg iter mi) (ok : BlkOk X.N X.env.scope scope own) (hsub : ∀ i ∈ ws, i ∈ own.map (·.2))
    (hg : ∀ (s : Shared) (H : Hp) (C : Addr) (cs : List (Str × Addr)) (fp : List Addr), SG (X.blk s H scope (compEnvC scope cs C X.env) fp) cl wF tg ws t)
    (ht : ∀ (s : Shared) (H : Hp) (C : Addr) (cs : List (Str × Addr)) (fp : List Addr), SQ (X.blk s H scope (compEnvC scope cs C X.env) fp) cl wF ifs mc)
    (he : ∀ (s : Shared) (H : Hp) (C : Addr) (cs : List (Str × Addr)) (fp : List Addr), SV (X.blk s H scope (compEnvC scope cs C X.env) fp) cl wF elt me) (hs : ∀ x, foldedSetIterable iter X.env x = pure x := by intro _; rfl) :
    SE X cl W (.ListComp elt [⟨tg, iter, ifs, 0⟩] scope pos) (mLc (own.map (·.2)) mi t mc me) :=
  ⟨⟨fun pins s σ H Q I hw => (pe_lc hc hN hi.pi ok (fun s H C cs fp => (hg s H C cs fp).pg) (fun s H C cs fp => (ht s H C cs fp).pts) (fun s H C cs fp => (he s H C cs fp).pe) hs).run pins s σ H Q I (lc_read hsub hw)⟩⟩
/-- name = [..], the name a local -/
theorem ss_setLc {i : Nat} {y : Str} {py spos : Pos} (hc : X.calm = true) (hN : X.N.Nodup) (hy : X.N[i]? = some y) (hyl : X.env.scope.names.lookup y = some .local)
    (hsw : swapsWith (.ListComp elt [⟨tg, iter, ifs, 0⟩] scope pos) (some (.Name y py)) spos.line X.env = pure true) (hi : SI X cl W tg iter mi) (ok : BlkOk X.N X.env.scope scope own) (hsub : ∀ i ∈ ws, i ∈ own.map (·.2))
    (hg : ∀ (s : Shared) (H : Hp) (C : Addr) (cs : List (Str × Addr)) (fp : List Addr), SG (X.blk s H scope (compEnvC scope cs C X.env) fp) cl wF tg ws t)
    (ht : ∀ (s : Shared) (H : Hp) (C : Addr) (cs : List (Str × Addr)) (fp : List Addr), SQ (X.blk s H scope (compEnvC scope cs C X.env) fp) cl wF ifs mc)
    (he : ∀ (s : Shared) (H : Hp) (C : Addr) (cs : List (Str × Addr)) (fp : List Addr), SV (X.blk s H scope (compEnvC scope cs C X.env) fp) cl wF elt me) (hs : ∀ x, foldedSetIterable iter X.env x = pure x := by intro _; rfl) :
    SS X cl W (.Assign [.Name y py] (.ListComp elt [⟨tg, iter, ifs, 0⟩] scope pos) spos) (bnd (mLc (own.map (·.2)) mi t mc me) fun r => bnd (mStore i r) fun _ => ret .nx) := by
  refine ⟨⟨fun pins s σ H D I hw => (ps_setLc (wi := tSI X cl W mi) (g := tSG X cl wF ws t) (tt := tST X cl wF mc) (te := tSV X cl wF me) hc hN hy hyl hsw hi.pi ok (fun s H C cs fp => (hg s H C cs fp).pg) (fun s H C cs fp => (ht s H C cs fp).pts) (fun s H C cs fp => (he s H C cs fp).pe) hs).run pins s σ H D I ?_⟩⟩
  refine lc_read hsub ?_
  obtain ⟨G, μ, st, rel, hw⟩ := hw
  exact ⟨G, μ, st, rel, (PostS.split hw).imp (List.prefix_refl _) (Mono.refl H) fun v H1 ⟨μ1, r, st1, p1, m1, rel1, q1, hw1⟩ => hw1 _ H1 μ1 (List.prefix_refl _) (Mono.refl _) (rel_store rel1 q1)⟩
end
end PV

/-! PvH: dicts by value, dict comprehensions, stores by index, methods of built-in types. -/
namespace PV
open PySem PySem.Spec L2

def kEq : Val → Val → Bool
  | .int a, .int b => decide (a = b)
  | .str a, .str b => decide (a = b)
  | _, _ => false
def dhas (kvs : List (Val × Val)) (k : Val) : Bool := kvs.any fun p => kEq p.1 k
def dget : List (Val × Val) → Val → Option Val
  | [], _ => none
  | (k', d) :: r, k => if kEq k' k = true then some d else dget r k
def dput (kvs : List (Val × Val)) (k d : Val) : List (Val × Val) :=
  if dhas kvs k = true then kvs.map (fun p => if kEq p.1 k = true then (p.1, d) else p) else kvs ++ [(k, d)]
def ddrop (kvs : List (Val × Val)) (k : Val) : List (Val × Val) := kvs.filter fun p => !kEq p.1 k
theorem kEq_key {a b : Val} {κ κ' : Key} (h : a.key = some κ) (h' : b.key = some κ') : kEq a b = decide (κ = κ') := by
  cases a with
  | int i =>
    cases h
    cases b with
    | int j => cases h'; simp [kEq]
    | str t => cases h'; simp [kEq]
    | _ => cases h'
  | str s =>
    cases h
    cases b with
    | int j => cases h'; simp [kEq]
    | str t => cases h'; simp [kEq]
    | _ => cases h'
  | _ => cases h
section
variable {K : PySem.W.Frag} {μ : List Addr} {H : Hp}
theorem RepD.has {k : Val} {κ : Key} (hk : k.key = some κ) : ∀ {ds : List (Val × Val)} {kvs : List (Key × V)}, RepD K μ H ds kvs → (kvs.any fun kv => decide (kv.1 = κ)) = dhas ds k
  | [], kvs, h => by cases (show kvs = [] from h); rfl
  | (k', d) :: ds, kvs, h => by
    obtain ⟨κ', v, r, rfl, ek, q, t⟩ := h
    have ih := RepD.has hk t
    show ((decide (κ' = κ)) || r.any _) = ((kEq k' k) || dhas ds k)
    rw [kEq_key ek hk, ih]
theorem RepD.map {k d : Val} {κ : Key} {v : V} (hk : k.key = some κ) (hd : Rep K μ H d v) : ∀ {ds : List (Val × Val)} {kvs : List (Key × V)}, RepD K μ H ds kvs →
    RepD K μ H (ds.map (fun p => if kEq p.1 k = true then (p.1, d) else p)) (kvs.map (fun kv => if kv.1 = κ then (kv.1, v) else kv))
  | [], kvs, h => by cases (show kvs = [] from h); rfl
  | (k', e) :: ds, kvs, h => by
    obtain ⟨κ', w, r, rfl, ek, q, t⟩ := h
    have ih := RepD.map hk hd t
    rw [List.map_cons, List.map_cons]
    have e1 := kEq_key ek hk
    by_cases z : κ' = κ
    · rw [decide_eq_true z] at e1
      dsimp only
      rw [if_pos e1, if_pos z]
      exact ⟨κ', v, _, rfl, ek, hd, ih⟩
    · rw [decide_eq_false z] at e1
      dsimp only
      rw [e1, if_neg Bool.false_ne_true, if_neg z]
      exact ⟨κ', w, _, rfl, ek, q, ih⟩
theorem RepD.snoc {k d : Val} {κ : Key} {v : V} (hk : k.key = some κ) (hd : Rep K μ H d v) : ∀ {ds : List (Val × Val)} {kvs : List (Key × V)}, RepD K μ H ds kvs → RepD K μ H (ds ++ [(k, d)]) (kvs ++ [(κ, v)])
  | [], kvs, h => by cases (show kvs = [] from h); exact ⟨κ, v, [], rfl, hk, hd, rfl⟩
  | (k', e) :: ds, kvs, h => by
    obtain ⟨κ', w, r, rfl, ek, q, t⟩ := h
    exact ⟨κ', w, _, rfl, ek, q, RepD.snoc hk hd t⟩
theorem RepD.put {k d : Val} {κ : Key} {v : V} (hk : k.key = some κ) (hd : Rep K μ H d v) {ds : List (Val × Val)} {kvs : List (Key × V)} (h : RepD K μ H ds kvs) : RepD K μ H (dput ds k d) (putK kvs κ v) := by
  unfold dput putK
  rw [h.has hk]
  by_cases z : dhas ds k = true
  · rw [if_pos z, if_pos z]; exact h.map hk hd
  · rw [if_neg z, if_neg z]; exact h.snoc hk hd
theorem RepD.val {k : Val} {κ : Key} (hk : k.key = some κ) : ∀ {ds : List (Val × Val)} {kvs : List (Key × V)}, RepD K μ H ds kvs → (dget ds k = none ∧ valV kvs κ = none) ∨ ∃ d v, dget ds k = some d ∧ valV kvs κ = some v ∧ Rep K μ H d v
  | [], kvs, h => by cases (show kvs = [] from h); exact .inl ⟨rfl, rfl⟩
  | (k', e) :: ds, kvs, h => by
    obtain ⟨κ', w, r, rfl, ek, q, t⟩ := h
    have e1 := kEq_key ek hk
    by_cases z : κ' = κ
    · rw [decide_eq_true z] at e1
      refine .inr ⟨e, w, ?_, valV_pos z, q⟩
      rw [dget, if_pos e1]
    · rw [decide_eq_false z] at e1
      have e2 : dget ((k', e) :: ds) k = dget ds k := by rw [dget, e1, if_neg Bool.false_ne_true]
      rw [e2, valV_neg (p := (κ', w)) z]
      exact RepD.val hk t
theorem RepD.drop {k : Val} {κ : Key} (hk : k.key = some κ) : ∀ {ds : List (Val × Val)} {kvs : List (Key × V)}, RepD K μ H ds kvs → RepD K μ H (ddrop ds k) (dropK kvs κ)
  | [], kvs, h => by cases (show kvs = [] from h); rfl
  | (k', e) :: ds, kvs, h => by
    obtain ⟨κ', w, r, rfl, ek, q, t⟩ := h
    have ih := RepD.drop hk t
    have e1 := kEq_key ek hk
    unfold ddrop dropK at *
    by_cases z : κ' = κ
    · rw [decide_eq_true z] at e1
      rw [List.filter_cons_of_neg (by simp [e1]), List.filter_cons_of_neg (by simp [z])]
      exact ih
    · rw [decide_eq_false z] at e1
      rw [List.filter_cons_of_pos (by simp [e1]), List.filter_cons_of_pos (by simp [z])]
      exact ⟨κ', w, _, rfl, ek, q, ih⟩
end
theorem dput_len (ds : List (Val × Val)) (k d : Val) : (dput ds k d).length ≤ ds.length + 1 := by
  unfold dput
  split
  · rw [List.length_map]; omega
  · rw [List.length_append]; simp

/-! ### dict comprehensions -/
def mDcGo (vs : List Nat) (t : RV → M Unit) (c : M Bool) (k e : M Val) : List Val → List (Val × Val) → M (List (Val × Val))
  | [], acc => fun st => .ok acc (wipeS vs st)
  | d :: ds, acc => fun st => bnd (t (.sh d)) (fun _ => bnd c fun b => if b = true then bnd k fun x => bnd e fun y => match x.key with
    | some _ => mDcGo vs t c k e ds (dput acc x y)
    | none => stk else mDcGo vs t c k e ds acc) (wipeS vs st)
def mDc (vs : List Nat) (mi : M (List Val)) (t : RV → M Unit) (c : M Bool) (k e : M Val) : M RV := bnd mi fun ds => fun st => match mDcGo vs t c k e ds [] st with
  | .ok ys st' => .ok (.fr (.dct ys)) (restS vs st st')
  | _ => .stuck
section
variable {X : Cx} {cl : Nat → Addr} {W : WX} {kx vx tg iter : Expr} {ifs : List Expr} {scope : Scope} {own : List (Str × Nat)} {ws : List Nat} {pos : Pos} {mi : M (List Val)} {t : RV → M Unit} {mc : M Bool} {mk me : M Val}
theorem dc_read {vs : List Nat} {σ : L2.St} {H : Hp} {Q : VK} (hsub : ∀ i ∈ ws, i ∈ vs) (hw : ∃ G μ st, Rel X.K cl G μ H σ st ∧ Post X.K cl W G μ H σ (RRV X.K cl G σ) Q (mDc vs mi t mc mk me st)) :
    tDc (tSI X cl W mi) (tSG X cl wF ws t) (tST X cl wF mc) (tSV X cl wF mk) (tSV X cl wF me) vs σ H Q := by
  obtain ⟨G, μ, st, rel, hw⟩ := hw
  refine ⟨G, μ, st, rel, ?_⟩
  unfold mDc bnd at hw
  cases em : mi st with
  | stuck => rw [em] at hw; exact hw.elim
  | exc C fs st' => rw [em] at hw; exact hw
  | ok ds st1 =>
    rw [em] at hw
    dsimp only at hw
    intro J H1 μ1 p1 m1 rel1 wk D nD
    cases eg : mDcGo vs t mc mk me ds [] st1 with
    | stuck => rw [eg] at hw; exact hw.elim
    | exc C fs st' => rw [eg] at hw; exact hw.elim
    | ok ys st' =>
      rw [eg] at hw
      obtain ⟨g1, g2, g3⟩ := rel1.noneG nD
      have ex : Ext H1 (L2.upd H1 D (.dK [])) := Ext.new nD
      refine ⟨fun i k H2 => k = ds.length - i ∧ i ≤ ds.length ∧ ∃ μ2 st2 acc vacc, μ1 <+: μ2 ∧ Mono H1 H2 ∧ H2 D = some (.dK vacc) ∧ RepD X.K μ2 H2 acc vacc ∧ acc.length ≤ i ∧
        Rel X.K cl (L2.upd G D (.dK vacc)) μ2 H2 (wipe σ vs) (wipeS vs st2) ∧ mDcGo vs t mc mk me (ds.drop i) acc st2 = .ok ys st', ⟨ds.length, by simp, Nat.zero_le _, μ1, st1, [], [], List.prefix_refl _, ex.mono, upd_same, rfl, Nat.le_refl _, ?_, eg⟩, ?_⟩
      · exact (((rel1.ext ex).prot upd_same g2 g3)).wipe vs
      rintro i k H2 ⟨rfl, hi, μ2, st2, acc, vacc, p2, m2, eD, ra, hl, rel2, hg⟩
      obtain ⟨w1, w2, w3⟩ := wk.2 H2 m2
      by_cases hlt : i < ds.length
      · refine .inr ⟨w1 i hlt, fun H2 => ∃ μ2 st2 acc vacc, μ1 <+: μ2 ∧ Mono H1 H2 ∧ H2 D = some (.dK vacc) ∧ RepD X.K μ2 H2 acc vacc ∧ acc.length ≤ i + 1 ∧
          Rel X.K cl (L2.upd G D (.dK vacc)) μ2 H2 (wipe σ vs) (wipeS vs st2) ∧ mDcGo vs t mc mk me (ds.drop (i + 1)) acc st2 = .ok ys st', fun H' z => ⟨ds.length - (i + 1), by omega, rfl, hlt, z⟩, fun v H3 y => ?_⟩
        have hd : ds[i]? = some ds[i] := List.getElem?_eq_getElem hlt
        obtain ⟨ex3, rp⟩ := w3 i _ v H3 hd y
        rw [List.drop_eq_getElem_cons hlt] at hg
        unfold mDcGo at hg
        obtain ⟨_, s4, e4, hg4⟩ := bnd_ok hg
        have rel3 := rel2.ext ex3
        refine ⟨L2.upd G D (.dK vacc), μ2, wipeS vs st2, .sh ds[i], rel3, Rep.mono p2 (Mono.refl _) _ _ rp, ?_⟩
        rw [e4]
        intro σ4 H4 μ4 p4 m4 rel4 same
        have ew : wipe σ4 vs = wipe σ vs := by
          have h1 := same.wipe hsub
          rw [h1]
          exact SameB.wipe (vs := vs) ⟨wipe_len σ vs, fun j hj => wipe_out hj⟩ fun _ z => z
        refine ⟨ew, L2.upd G D (.dK vacc), μ4, s4, rel4, ?_⟩
        obtain ⟨b, s5, e5, hg5⟩ := bnd_ok hg4
        rw [e5]
        intro b' H5 μ5 p5 m5 rel5 eb
        subst eb
        have ra5 : RepD X.K μ5 H5 acc vacc := RepD.mono (p4.trans p5) ((ex3.mono.trans m4).trans m5) _ _ ra
        have m15 : Mono H1 H5 := ((m2.trans ex3.mono).trans m4).trans m5
        have p15 := (p2.trans p4).trans p5
        cases b with
        | false =>
          rw [if_neg Bool.false_ne_true] at hg5 ⊢
          refine ⟨μ5, s5, acc, vacc, p15, m15, rel5.protN.1, ra5, Nat.le_succ_of_le hl, ?_, hg5⟩
          have z := rel5.wipe vs
          rw [ew] at z
          exact z
        | true =>
          rw [if_pos rfl] at hg5 ⊢
          obtain ⟨dk, s6, e6, hg6⟩ := bnd_ok hg5
          obtain ⟨d, s7, e7, hg7⟩ := bnd_ok hg6
          refine ⟨L2.upd G D (.dK vacc), μ5, s5, rel5, ?_⟩
          rw [e6]
          intro y6 H6 μ6 p6 m6 rel6 r6
          refine ⟨L2.upd G D (.dK vacc), μ6, s6, rel6, ?_⟩
          rw [e7]
          intro y7 H7 μ7 p7 m7 rel7 r7
          cases ek : dk.key with
          | none => rw [ek] at hg7; cases hg7
          | some κ =>
            rw [ek] at hg7
            have e7D := rel7.protN.1
            have ey : y6 = kV κ := by
              have := key_rep (K := X.K) (μ := μ6) (H := H6) ek
              cases dk with
              | int i => cases ek; exact r6
              | str s => cases ek; exact r6
              | _ => cases ek
            have mo : Mono H7 (L2.upd H7 D (.dK (putK vacc κ y7))) := mono_upd (.inl (by rw [e7D]; trivial))
            have ra7 : RepD X.K μ7 H7 acc vacc := RepD.mono (p6.trans p7) (m6.trans m7) _ _ ra5
            refine ⟨vacc, κ, ey, e7D, ?_, μ7, s7, dput acc dk d, putK vacc κ y7, (p15.trans p6).trans p7, ((m15.trans m6).trans m7).trans mo, upd_same, ?_, by have := dput_len acc dk d; omega, ?_, hg7⟩
            · have h1 := RepD.length ra
              have h2 := wk.1
              omega
            · exact RepD.put ek (Rep.mono (List.prefix_refl _) mo _ _ r7) (RepD.mono (List.prefix_refl _) mo _ _ ra7)
            · have z := (rel7.reprot (o' := .dK (putK vacc κ y7)) g1 trivial).wipe vs
              rw [ew] at z
              exact z
      · have e : i = ds.length := by omega
        subst e
        rw [List.drop_length] at hg
        unfold mDcGo at hg
        cases hg
        refine .inl ⟨w2, ?_⟩
        obtain ⟨_, n2, no2⟩ := rel2.protN
        refine hw _ H2 μ2 (p1.trans p2) (m1.trans m2) (Rel.rest (vs := vs) rel1 p2 m2 (rel2.weak g1)) ⟨D, rfl, ⟨vacc, eD, ra⟩, g1, n2, fun j o' e1 e2 => ?_⟩
        obtain ⟨hj, q⟩ := restOwn e1
        exact no2 j o' q (by rw [wipe_out hj]; exact e2)
theorem se_dc (hc : X.calm = true) (hN : X.N.Nodup) (hi : SI X cl W tg iter mi) (ok : BlkOk X.N X.env.scope scope own) (hsub : ∀ i ∈ ws, i ∈ own.map (·.2))
    (hg : ∀ (s : Shared) (H : Hp) (C : Addr) (cs : List (Str × Addr)) (fp : List Addr), SG (X.blk s H scope (compEnvC scope cs C X.env) fp) cl wF tg ws t)
    (ht : ∀ (s : Shared) (H : Hp) (C : Addr) (cs : List (Str × Addr)) (fp : List Addr), SQ (X.blk s H scope (compEnvC scope cs C X.env) fp) cl wF ifs mc)
    (hk : ∀ (s : Shared) (H : Hp) (C : Addr) (cs : List (Str × Addr)) (fp : List Addr), SV (X.blk s H scope (compEnvC scope cs C X.env) fp) cl wF kx mk)
    (he : ∀ (s : Shared) (H : Hp) (C : Addr) (cs : List (Str × Addr)) (fp : List Addr), SV (X.blk s H scope (compEnvC scope cs C X.env) fp) cl wF vx me) (hs : ∀ x, foldedSetIterable iter X.env x = pure x := by intro _; rfl) :
    SE X cl W (.DictComp kx vx [⟨tg, iter, ifs, 0⟩] scope pos) (mDc (own.map (·.2)) mi t mc mk me) :=
  ⟨⟨fun pins s σ H Q I hw => (pe_dc (wi := tSI X cl W mi) (g := tSG X cl wF ws t) (tt := tST X cl wF mc) (tk := tSV X cl wF mk) (tv := tSV X cl wF me) hc hN hi.pi ok (fun s H C cs fp => (hg s H C cs fp).pg) (fun s H C cs fp => (ht s H C cs fp).pts) (fun s H C cs fp => (hk s H C cs fp).pe) (fun s H C cs fp => (he s H C cs fp).pe) hs).run pins s σ H Q I (dc_read hsub hw)⟩⟩
theorem sw_trueD {kx vx : Expr} {gs : List Comprehension} {scope : Scope} {pos py : Pos} {y : Str} {l : Nat} {env : Env} (hk : env.scope.kind = .function) (hy : env.scope.names.lookup y = some .local) (hl : (py.line == pos.line) = true)
    (ha : (scope.names.any fun (n, k) => n == y && (k == .local || k == .cell)) = false) : swapsWith (.DictComp kx vx gs scope pos) (some (.Name y py)) l env = pure true := by
  have ky : env.kindOf y = some .local := hy
  have hb : env.blockKind = .function := by unfold Env.blockKind; rw [hk]; rfl
  unfold swapsWith
  simp only [hb, ky, ha, Expr.pos, hl]
  rfl
/-- name = {..}, the name a local -/
theorem ss_setDc {i : Nat} {y : Str} {py spos : Pos} (hc : X.calm = true) (hN : X.N.Nodup) (hy : X.N[i]? = some y) (hyl : X.env.scope.names.lookup y = some .local)
    (hsw : swapsWith (.DictComp kx vx [⟨tg, iter, ifs, 0⟩] scope pos) (some (.Name y py)) spos.line X.env = pure true) (hi : SI X cl W tg iter mi) (ok : BlkOk X.N X.env.scope scope own) (hsub : ∀ i ∈ ws, i ∈ own.map (·.2))
    (hg : ∀ (s : Shared) (H : Hp) (C : Addr) (cs : List (Str × Addr)) (fp : List Addr), SG (X.blk s H scope (compEnvC scope cs C X.env) fp) cl wF tg ws t)
    (ht : ∀ (s : Shared) (H : Hp) (C : Addr) (cs : List (Str × Addr)) (fp : List Addr), SQ (X.blk s H scope (compEnvC scope cs C X.env) fp) cl wF ifs mc)
    (hk : ∀ (s : Shared) (H : Hp) (C : Addr) (cs : List (Str × Addr)) (fp : List Addr), SV (X.blk s H scope (compEnvC scope cs C X.env) fp) cl wF kx mk)
    (he : ∀ (s : Shared) (H : Hp) (C : Addr) (cs : List (Str × Addr)) (fp : List Addr), SV (X.blk s H scope (compEnvC scope cs C X.env) fp) cl wF vx me) (hs : ∀ x, foldedSetIterable iter X.env x = pure x := by intro _; rfl) :
    SS X cl W (.Assign [.Name y py] (.DictComp kx vx [⟨tg, iter, ifs, 0⟩] scope pos) spos) (bnd (mDc (own.map (·.2)) mi t mc mk me) fun r => bnd (mStore i r) fun _ => ret .nx) := by
  refine ⟨⟨fun pins s σ H D I h => ?_⟩⟩
  rw [exec_Assign_Name_used _ _ _ _ hsw]
  refine wpAny_bind (wpAny_standAt (wpAny_bind ?_))
  show wpAny _ X.A (do let _ ← comprehension (.DictComp kx vx [⟨tg, iter, ifs, 0⟩] scope pos) scope X.env (firstIterPos [⟨tg, iter, ifs, 0⟩] pos) newDict false (eval iter X.env) (some (assign (.Name y py) X.env))) _ _ s
  have h' : tDc (tSI X cl W mi) (tSG X cl wF ws t) (tST X cl wF mc) (tSV X cl wF mk) (tSV X cl wF me) (own.map (·.2)) σ H (fun x H1 => D.nx (σ.set i (some x)) H1) := by
    refine dc_read hsub ?_
    obtain ⟨G, μ, st, rel, hw⟩ := h
    exact ⟨G, μ, st, rel, (PostS.split hw).imp (List.prefix_refl _) (Mono.refl H) fun v H1 ⟨μ1, r, st1, p1, m1, rel1, q1, hw1⟩ => hw1 _ H1 μ1 (List.prefix_refl _) (Mono.refl _) (rel_store rel1 q1)⟩
  refine wpAny_bind (thn (dc_core (Qf := fun _ s' => SP X pins D .next s') hc hN I hi.pi ok (fun s H C cs fp => (hg s H C cs fp).pg) (fun s H C cs fp => (ht s H C cs fp).pts) (fun s H C cs fp => (hk s H C cs fp).pe) (fun s H C cs fp => (he s H C cs fp).pe) hs h' fun L C s' m H' I' q hn f => ?_) fun _ s' hq => wpAny_pure (wpAny_pure hq))
  show wpAny _ _ (assign (.Name y py) X.env (.ref L)) _ _ _
  refine wpAny_assign_Name (store_ok2 (v := V.ref L) I' hN hy (.inl hyl) rfl (fun s2 I2 ⟨a, sb, ha⟩ => ?_) (.inr hyl))
  obtain ⟨f0, f1, f2, f3, f4, f5⟩ := f
  have haC : C ≠ a := by
    rcases ha with z | z
    · rw [z]; exact f1
    · exact fun e => f4 y a z e.symm
  refine ⟨m, hn.sameBut sb haC, fun h3 sb3 => ?_⟩
  exact ⟨_, H', I2.turned (t' := s2.toks) (fun b o hb e => (sb3.2 b hb).trans e) f0 f1 f3 f4 f5, q⟩
end
end PV

/-! PvI: equality of data, membership. -/
namespace PV
open PySem PySem.Spec L2
open PySem.SeqAt (EqIn EqAt)

/-- == of things that are no lists, tuples, dicts, both -/
def veq0 : Val → Val → Option Bool
  | .none, .none => some true
  | .none, .bool _ => some false
  | .none, .int _ => some false
  | .none, .str _ => some false
  | .none, .list _ => some false
  | .none, .tup _ => some false
  | .bool _, .none => some false
  | .bool a, .bool b => some (a == b)
  | .bool a, .int b => some ((if a then 1 else 0) == b)
  | .bool _, .str _ => some false
  | .bool _, .list _ => some false
  | .bool _, .tup _ => some false
  | .int _, .none => some false
  | .int a, .bool b => some (a == (if b then 1 else 0))
  | .int a, .int b => some (a == b)
  | .int _, .str _ => some false
  | .int _, .list _ => some false
  | .int _, .tup _ => some false
  | .str _, .none => some false
  | .str _, .bool _ => some false
  | .str _, .int _ => some false
  | .str a, .str b => some (a == b)
  | .str _, .list _ => some false
  | .str _, .tup _ => some false
  | .list _, .none => some false
  | .list _, .bool _ => some false
  | .list _, .int _ => some false
  | .list _, .str _ => some false
  | .list _, .tup _ => some false
  | .tup _, .none => some false
  | .tup _, .bool _ => some false
  | .tup _, .int _ => some false
  | .tup _, .str _ => some false
  | .tup _, .list _ => some false
  | _, _ => none
def both (x y : Option Bool) : Option Bool := match x, y with
  | some b, some c => some (b && c)
  | _, _ => none
theorem both_some {x y : Option Bool} {b : Bool} (h : both x y = some b) : ∃ c d, x = some c ∧ y = some d ∧ b = (c && d) := by
  cases x with
  | none => cases h
  | some c =>
    cases y with
    | none => cases h
    | some d => exact ⟨c, d, rfl, rfl, (Option.some.inj h).symm⟩
mutual
def veq : Val → Val → Option Bool
  | .tup ds, .tup es => veqs ds es
  | .list ds, .list es => if ds.length = es.length then veqs ds es else some false
  | .dict ds, .dict es => if ds.length = es.length then veqd ds es else some false
  | a, b => veq0 a b
def veqs : List Val → List Val → Option Bool
  | [], [] => some true
  | d :: ds, e :: es => both (veq d e) (veqs ds es)
  | [], _ :: _ => some false
  | _ :: _, [] => some false
def veqd : List (Val × Val) → List (Val × Val) → Option Bool
  | [], _ => some true
  | (k, d) :: r, es => match dget es k with
    | some e => both (veq d e) (veqd r es)
    | none => some false
end
mutual
def vdep : Val → Nat
  | .tup ds => vdeps ds + 1
  | .list ds => vdeps ds + 1
  | .dict ds => vdepd ds + 1
  | _ => 1
def vdeps : List Val → Nat
  | [] => 0
  | d :: ds => max (vdep d) (vdeps ds)
def vdepd : List (Val × Val) → Nat
  | [] => 0
  | (_, d) :: ds => max (vdep d) (vdepd ds)
end

section
variable {X : Cx} {pins : List (Addr × Obj)} {σ : L2.St} {H : Hp} {s : Shared} {μ : List Addr}

theorem kv_nodup {kvs : List (Key × V)} {vs : List (Key × Value)} (r : KV kvs vs) (h : (vs.map (·.1)).Nodup) : (kvs.map (·.1)).Nodup := by
  have e : kvs.map (·.1) = vs.map (·.1) := by
    unfold KV at r
    clear h
    induction r with
    | nil => rfl
    | cons h _ k => rw [List.map_cons, List.map_cons, k, h.1]
  rw [e]; exact h
theorem valV_mem {κ : Key} {v : V} : ∀ {kvs : List (Key × V)}, (kvs.map (·.1)).Nodup → (κ, v) ∈ kvs → valV kvs κ = some v
  | [], _, h => by cases h
  | p :: r, n, h => by
    rw [List.map_cons, List.nodup_cons] at n
    rcases List.mem_cons.mp h with e | h
    · subst e; exact valV_pos rfl
    · have ne : p.1 ≠ κ := fun z => n.1 (z ▸ List.mem_map_of_mem (f := (·.1)) h)
      rw [valV_neg (p := p) ne]
      exact valV_mem n.2 h
theorem rep_key_of {κ : Key} {d : Val} {v : V} (h : d.key = some κ) (r : Rep X.K μ H d v) : v = kV κ := by
  cases d with
  | int i => cases h; exact r
  | str x => cases h; exact r
  | _ => cases h

mutual
/-- a thing is equal to itself -/
theorem veq_self (I : Inv X pins σ H s) : ∀ (d e : Val) (v : V) (b : Bool), Rep X.K μ H d v → Rep X.K μ H e v → veq d e = some b → b = true
  | .none, e, v, b, r1, r2, h => by
    cases (show v = .non from r1)
    cases e with
    | none => exact (Option.some.inj h).symm
    | bool c => cases (show V.non = .bl c from r2)
    | int c => cases (show V.non = .int c from r2)
    | str c => cases (show V.non = .str c from r2)
    | tup _ => obtain ⟨_, _, z, _⟩ := r2; cases z
    | list _ => obtain ⟨_, _, z, _⟩ := r2; cases z
    | dict _ => cases h
    | ref _ => cases h
  | .bool c, e, v, b, r1, r2, h => by
    cases (show v = .bl c from r1)
    cases e with
    | none => cases (show V.bl c = .non from r2)
    | bool c' => cases (show V.bl c = .bl c' from r2); have := Option.some.inj h; simp at this; exact this
    | int c' => cases (show V.bl c = .int c' from r2)
    | str c' => cases (show V.bl c = .str c' from r2)
    | tup _ => obtain ⟨_, _, z, _⟩ := r2; cases z
    | list _ => obtain ⟨_, _, z, _⟩ := r2; cases z
    | dict _ => cases h
    | ref _ => cases h
  | .int c, e, v, b, r1, r2, h => by
    cases (show v = .int c from r1)
    cases e with
    | none => cases (show V.int c = .non from r2)
    | bool c' => cases (show V.int c = .bl c' from r2)
    | int c' => cases (show V.int c = .int c' from r2); have := Option.some.inj h; simp at this; exact this
    | str c' => cases (show V.int c = .str c' from r2)
    | tup _ => obtain ⟨_, _, z, _⟩ := r2; cases z
    | list _ => obtain ⟨_, _, z, _⟩ := r2; cases z
    | dict _ => cases h
    | ref _ => cases h
  | .str c, e, v, b, r1, r2, h => by
    cases (show v = .str c from r1)
    cases e with
    | none => cases (show V.str c = .non from r2)
    | bool c' => cases (show V.str c = .bl c' from r2)
    | int c' => cases (show V.str c = .int c' from r2)
    | str c' => cases (show V.str c = .str c' from r2); have := Option.some.inj h; simp at this; exact this
    | tup _ => obtain ⟨_, _, z, _⟩ := r2; cases z
    | list _ => obtain ⟨_, _, z, _⟩ := r2; cases z
    | dict _ => cases h
    | ref _ => cases h
  | .ref _, e, v, b, r1, r2, h => by cases e <;> cases h
  | .tup ds, e, v, b, r1, r2, h => by
    obtain ⟨a, vs, rfl, q, r⟩ := r1
    cases e with
    | none => cases (show V.ref a = .non from r2)
    | bool c' => cases (show V.ref a = .bl c' from r2)
    | int c' => cases (show V.ref a = .int c' from r2)
    | str c' => cases (show V.ref a = .str c' from r2)
    | tup es =>
      obtain ⟨a', vs', e', q', r'⟩ := r2
      cases e'
      cases I.tuple_inj q q'
      rw [veq] at h
      exact veqs_self I ds es vs b r r' h
    | list es =>
      obtain ⟨a', vs', e', q', _⟩ := r2
      cases e'
      obtain ⟨its, _, p1, _⟩ := I.tuple q
      obtain ⟨its', _, p2, _⟩ := I.list q'.sq
      exact absurd rfl (SeqAt.ne_of_list_tuple p2.isList p1)
    | dict _ => cases h
    | ref _ => cases h
  | .list ds, e, v, b, r1, r2, h => by
    obtain ⟨a, vs, rfl, q, r⟩ := r1
    cases e with
    | none => cases (show V.ref a = .non from r2)
    | bool c' => cases (show V.ref a = .bl c' from r2)
    | int c' => cases (show V.ref a = .int c' from r2)
    | str c' => cases (show V.ref a = .str c' from r2)
    | tup es =>
      obtain ⟨a', vs', e', q', _⟩ := r2
      cases e'
      obtain ⟨its, _, p1, _⟩ := I.tuple q'
      obtain ⟨its', _, p2, _⟩ := I.list q.sq
      exact absurd rfl (SeqAt.ne_of_list_tuple p2.isList p1)
    | list es =>
      obtain ⟨a', vs', e', q', r'⟩ := r2
      cases e'
      cases I.list_inj q.sq q'.sq
      rw [veq, if_pos (by rw [Reps.length r, Reps.length r'])] at h
      exact veqs_self I ds es vs b r r' h
    | dict _ => cases h
    | ref _ => cases h
  | .dict ds, e, v, b, r1, r2, h => by
    obtain ⟨a, o, vs, rfl, q, r⟩ := r1
    cases e with
    | dict es =>
      obtain ⟨a', o', vs', e', q', r'⟩ := r2
      cases e'
      rw [q] at q'
      cases q'
      rw [veq, if_pos (by rw [RepD.length r, RepD.length r'])] at h
      obtain ⟨_, _, ws, rr, ob, es1, ep, _, _, _, _, _, nd⟩ := (show ObjOk X.prog X.w H s.heap a (.dK vs) from (I.hok a _ q).2)
      exact veqd_self I vs es (kv_nodup rr nd) r' ds vs b r (fun _ z => z) h
    | _ => cases h
theorem veqs_self (I : Inv X pins σ H s) : ∀ (ds es : List Val) (vs : List V) (b : Bool), Reps X.K μ H ds vs → Reps X.K μ H es vs → veqs ds es = some b → b = true
  | [], es, vs, b, r1, r2, h => by
    cases (show vs = [] from r1)
    cases es with
    | nil => exact (Option.some.inj h).symm
    | cons e es => obtain ⟨_, _, z, _⟩ := r2; cases z
  | d :: ds, es, vs, b, r1, r2, h => by
    obtain ⟨v, r, rfl, q1, t1⟩ := r1
    cases es with
    | nil => cases (show v :: r = [] from r2)
    | cons e es =>
      obtain ⟨_, _, z, q2, t2⟩ := r2
      cases z
      rw [veqs] at h
      obtain ⟨c, c', h1, h2, rfl⟩ := both_some h
      rw [veq_self I d e v c q1 q2 h1, veqs_self I ds es r c' t1 t2 h2]; rfl
theorem veqd_self (I : Inv X pins σ H s) (kvs : List (Key × V)) (es : List (Val × Val)) (nd : (kvs.map (·.1)).Nodup) (re : RepD X.K μ H es kvs) : ∀ (ds : List (Val × Val)) (vs : List (Key × V)) (b : Bool), RepD X.K μ H ds vs → (∀ p ∈ vs, p ∈ kvs) → veqd ds es = some b → b = true
  | [], vs, b, r1, _, h => by rw [veqd] at h; exact (Option.some.inj h).symm
  | (k, d) :: ds, vs, b, r1, hm, h => by
    obtain ⟨κ, v, r, rfl, ek, q, t⟩ := r1
    have hv := valV_mem nd (hm _ List.mem_cons_self)
    rw [veqd] at h
    rcases re.val ek with ⟨_, z⟩ | ⟨e, v', ge, ge', re'⟩
    · rw [hv] at z; cases z
    · rw [hv] at ge'
      cases ge'
      rw [ge] at h
      obtain ⟨c, c', h1, h2, rfl⟩ := both_some h
      rw [veq_self I d e v c q re' h1, veqd_self I kvs es nd re ds r c' t (fun p hp => hm p (List.mem_cons_of_mem _ hp)) h2]; rfl
end
end

section
variable {X : Cx} {pins : List (Addr × Obj)} {σ : L2.St} {H : Hp} {s : Shared} {μ : List Addr} {A : Around}
theorem veq0_in (I : Inv X pins σ H s) (hu : A.units < cLine) {d e : Val} {v u : V} {v' u' : Value} {b : Bool} (r1 : RepB X.K μ H d v) (r2 : RepB X.K μ H e u) (e1 : RelV v v') (e2 : RelV u u') (h : veq0 d e = some b) : EqAt A s v' u' b := by
  have ls : ∀ (ds : List Val) (v : V) (v' : Value), RepB X.K μ H (.list ds) v → RelV v v' → ∃ l its, v' = .ref l ∧ s.heap.IsList l its := by
    intro ds v v' r e
    obtain ⟨a, vs, rfl, q, _⟩ := r
    cases e
    obtain ⟨its, _, p, _⟩ := I.list q
    exact ⟨a, _, rfl, p.isList⟩
  have ts : ∀ (ds : List Val) (v : V) (v' : Value), RepB X.K μ H (.tup ds) v → RelV v v' → ∃ l its, v' = .ref l ∧ s.heap.IsTuple l its := by
    intro ds v v' r e
    obtain ⟨a, vs, rfl, q, _⟩ := r
    cases e
    obtain ⟨its, _, p, _⟩ := I.tuple q
    exact ⟨a, _, rfl, p⟩
  cases d with
  | none =>
    cases (show v = .non from r1); cases e1
    cases e with
    | none => cases (show u = .non from r2); cases e2; cases h; exact .same _
    | bool c => cases (show u = .bl c from r2); cases e2; cases h; exact .none_bool c
    | int c => cases (show u = .int c from r2); obtain ⟨t, rfl⟩ := e2; cases h; exact .none_int c t
    | str c => cases (show u = .str c from r2); obtain ⟨t, rfl⟩ := e2; cases h; exact .none_str c t
    | tup es => obtain ⟨l, its, rfl, p⟩ := ts es u u' r2 e2; cases h; exact .none_tuple p hu
    | list es => obtain ⟨l, its, rfl, p⟩ := ls es u u' r2 e2; cases h; exact .none_list p hu
    | dict _ => cases h
    | ref _ => cases h
  | bool k =>
    cases (show v = .bl k from r1); cases e1
    cases e with
    | none => cases (show u = .non from r2); cases e2; cases h; exact .bool_none k
    | bool c => cases (show u = .bl c from r2); cases e2; cases h; exact .bool_bool k c
    | int c => cases (show u = .int c from r2); obtain ⟨t, rfl⟩ := e2; cases h; exact .bool_int k c t
    | str c => cases (show u = .str c from r2); obtain ⟨t, rfl⟩ := e2; cases h; exact .bool_str k c t
    | tup es => obtain ⟨l, its, rfl, p⟩ := ts es u u' r2 e2; cases h; exact .bool_tuple k p hu
    | list es => obtain ⟨l, its, rfl, p⟩ := ls es u u' r2 e2; cases h; exact .bool_list k p hu
    | dict _ => cases h
    | ref _ => cases h
  | int k =>
    cases (show v = .int k from r1); obtain ⟨t0, rfl⟩ := e1
    cases e with
    | none => cases (show u = .non from r2); cases e2; cases h; exact .int_none k t0
    | bool c => cases (show u = .bl c from r2); cases e2; cases h; exact .int_bool k t0 c
    | int c => cases (show u = .int c from r2); obtain ⟨t, rfl⟩ := e2; cases h; exact .int_int k t0 c t
    | str c => cases (show u = .str c from r2); obtain ⟨t, rfl⟩ := e2; cases h; exact .int_str k t0 c t
    | tup es => obtain ⟨l, its, rfl, p⟩ := ts es u u' r2 e2; cases h; exact .int_tuple k t0 p hu
    | list es => obtain ⟨l, its, rfl, p⟩ := ls es u u' r2 e2; cases h; exact .int_list k t0 p hu
    | dict _ => cases h
    | ref _ => cases h
  | str k =>
    cases (show v = .str k from r1); obtain ⟨t0, rfl⟩ := e1
    cases e with
    | none => cases (show u = .non from r2); cases e2; cases h; exact .str_none k t0
    | bool c => cases (show u = .bl c from r2); cases e2; cases h; exact .str_bool k t0 c
    | int c => cases (show u = .int c from r2); obtain ⟨t, rfl⟩ := e2; cases h; exact .str_int k t0 c t
    | str c => cases (show u = .str c from r2); obtain ⟨t, rfl⟩ := e2; cases h; exact .str_str k t0 c t
    | tup es => obtain ⟨l, its, rfl, p⟩ := ts es u u' r2 e2; cases h; exact .str_tuple k t0 p hu
    | list es => obtain ⟨l, its, rfl, p⟩ := ls es u u' r2 e2; cases h; exact .str_list k t0 p hu
    | dict _ => cases h
    | ref _ => cases h
  | list ds =>
    obtain ⟨l0, its0, rfl, p0⟩ := ls ds v v' r1 e1
    cases e with
    | none => cases (show u = .non from r2); cases e2; cases h; exact .list_none p0 hu
    | bool c => cases (show u = .bl c from r2); cases e2; cases h; exact .list_bool c p0 hu
    | int c => cases (show u = .int c from r2); obtain ⟨t, rfl⟩ := e2; cases h; exact .list_int c t p0 hu
    | str c => cases (show u = .str c from r2); obtain ⟨t, rfl⟩ := e2; cases h; exact .list_str c t p0 hu
    | tup es => obtain ⟨l, its, rfl, p⟩ := ts es u u' r2 e2; cases h; exact .list_tuple p0 p hu
    | list _ => cases h
    | dict _ => cases h
    | ref _ => cases h
  | tup ds =>
    obtain ⟨l0, its0, rfl, p0⟩ := ts ds v v' r1 e1
    cases e with
    | none => cases (show u = .non from r2); cases e2; cases h; exact .tuple_none p0 hu
    | bool c => cases (show u = .bl c from r2); cases e2; cases h; exact .tuple_bool c p0 hu
    | int c => cases (show u = .int c from r2); obtain ⟨t, rfl⟩ := e2; cases h; exact .tuple_int c t p0 hu
    | str c => cases (show u = .str c from r2); obtain ⟨t, rfl⟩ := e2; cases h; exact .tuple_str c t p0 hu
    | list es => obtain ⟨l, its, rfl, p⟩ := ls es u u' r2 e2; cases h; exact .tuple_list p0 p hu
    | tup _ => cases h
    | dict _ => cases h
    | ref _ => cases h
  | dict _ => cases e <;> cases h
  | ref _ => cases e <;> cases h

theorem veqs_sizes : ∀ (ds es : List Val) (b : Bool), veqs ds es = some b → ds.length ≠ es.length → b = false
  | [], [], b, h, n => (n rfl).elim
  | d :: ds, e :: es, b, h, n => by
    rw [veqs] at h
    obtain ⟨c, c', h1, h2, rfl⟩ := both_some h
    rw [veqs_sizes ds es c' h2 (fun z => n (by rw [List.length_cons, List.length_cons, z])), Bool.and_false]
  | [], _ :: _, b, h, n => (Option.some.inj h).symm
  | _ :: _, [], b, h, n => (Option.some.inj h).symm
mutual
/-- == as it is asked between items -/
theorem veq_in (I : Inv X pins σ H s) : ∀ (d e : Val) (v u : V) (v' u' : Value) (b : Bool) (A : Around), A.units + vdep d < cLine → Rep X.K μ H d v → RepB X.K μ H e u → RelV v v' → RelV u u' → veq d e = some b → EqIn X.prog X.w A s v' u' b
  | .tup ds, e, v, u, v', u', b, A, hu, r1, r2, e1, e2, h => by
    rw [vdep] at hu
    cases e with
    | tup es =>
      have h0 := h
      have r10 := r1
      have r20 := r2
      obtain ⟨a, vs, rfl, q, r⟩ := r1
      obtain ⟨a', vs', rfl, q', r'⟩ := r2
      cases e1; cases e2
      by_cases ha : a = a'
      · subst ha
        rw [veq_self I _ _ _ b r10 r20 h0]
        exact (EqAt.same _).inModel _ _
      · obtain ⟨its, w1, p, _⟩ := I.tuple q
        obtain ⟨its', w2, p', _⟩ := I.tuple q'
        rw [veq] at h
        obtain ⟨bs, hb, hl, hj⟩ := veqs_in I ds es vs vs' its its' b A.in1 (by show A.units + 1 + _ < cLine; omega) r r' w1 w2 h
        refine EqIn.of_refs ha fun E Q hq => SeqAt.rcIn_tuples (e := fun i => bs.getD i false) p p' (by omega) (fun j h1 h2 => ?_) ?_
        · have z := hj j (by simpa using h1) (by simpa using h2)
          simpa using z
        · rw [List.size_toArray, List.size_toArray, ← hl, all_range, hb] at *
          exact hq
    | none => exact (veq0_in I (by omega) r1.b r2 e1 e2 h).inModel _ _
    | bool _ => exact (veq0_in I (by omega) r1.b r2 e1 e2 h).inModel _ _
    | int _ => exact (veq0_in I (by omega) r1.b r2 e1 e2 h).inModel _ _
    | str _ => exact (veq0_in I (by omega) r1.b r2 e1 e2 h).inModel _ _
    | list _ => exact (veq0_in I (by omega) r1.b r2 e1 e2 h).inModel _ _
    | dict _ => cases h
    | ref _ => cases h
  | .list ds, e, v, u, v', u', b, A, hu, r1, r2, e1, e2, h => by
    rw [vdep] at hu
    cases e with
    | list es =>
      have h0 := h
      have r10 := r1
      have r20 := r2
      obtain ⟨a, vs, rfl, q, r⟩ := r1
      obtain ⟨a', vs', rfl, q', r'⟩ := r2
      cases e1; cases e2
      by_cases ha : a = a'
      · subst ha
        have ev : vs = vs' := I.list_inj q.sq q'
        subst ev
        rw [veq, if_pos (by rw [Reps.length r, Reps.length r'])] at h
        rw [veqs_self I ds es vs b r r' h]
        exact (EqAt.same _).inModel _ _
      · obtain ⟨its, w1, p, _⟩ := I.list q.sq
        obtain ⟨its', w2, p', _⟩ := I.list q'
        have l1 := Reps.length r
        have l2 := Reps.length r'
        have l3 := w1.length
        have l4 := w2.length
        rw [veq] at h
        by_cases hn : ds.length = es.length
        · rw [if_pos hn] at h
          obtain ⟨bs, hb, hl, hj⟩ := veqs_in I ds es vs vs' its its' b A.in1 (by show A.units + 1 + _ < cLine; omega) r r' w1 w2 h
          have hz : its.length = its'.length := by omega
          refine EqIn.of_refs ha fun E Q hq => SeqAt.rcIn_lists (e := fun i => bs.getD i false) p.isList p'.isList (by simpa using hz) (by omega) (fun j h1 h2 => ?_) ?_
          · have z := hj j (by simpa using h1) (by simpa using h2)
            simpa using z
          · have hl' : bs.length = its.length := by rw [hl]; omega
            have hz' : (its.length == its'.length) = true := by simpa using hz
            rw [hz', Bool.and_true] at hb
            rw [List.size_toArray, ← hl', all_range, hb]
            exact hq
        · rw [if_neg hn] at h
          cases h
          refine (EqAt.of_refs ha (SeqAt.RcAt.lists_lengths p.isList p'.isList ?_ (by omega))).inModel _ _
          simp only [List.size_toArray, bne_iff_ne, ne_eq]
          omega
    | none => exact (veq0_in I (by omega) r1.b r2 e1 e2 h).inModel _ _
    | bool _ => exact (veq0_in I (by omega) r1.b r2 e1 e2 h).inModel _ _
    | int _ => exact (veq0_in I (by omega) r1.b r2 e1 e2 h).inModel _ _
    | str _ => exact (veq0_in I (by omega) r1.b r2 e1 e2 h).inModel _ _
    | tup _ => exact (veq0_in I (by omega) r1.b r2 e1 e2 h).inModel _ _
    | dict _ => cases h
    | ref _ => cases h
  | .dict ds, e, v, u, v', u', b, A, hu, r1, r2, e1, e2, h => by
    rw [vdep] at hu
    cases e with
    | dict es =>
      have h0 := h
      have r10 := r1
      have r20 := r2
      obtain ⟨a, o, vs, rfl, q, r⟩ := r1
      obtain ⟨a', vs', rfl, q', r'⟩ := r2
      cases e1; cases e2
      by_cases ha : a = a'
      · subst ha
        have ev : vs = vs' := by
          rcases q' with q' | ⟨o', q'⟩
          · rw [q] at q'; cases q'
          · rw [q] at q'; cases q'; rfl
        subst ev
        rw [veq, if_pos (by rw [RepD.length r, RepD.length r'])] at h
        obtain ⟨_, _, ws, rr, ob, es1, ep, _, _, _, _, _, nd⟩ := (show ObjOk X.prog X.w H s.heap a (.dK vs) from (I.hok a _ q).2)
        rw [veqd_self I vs es (kv_nodup rr nd) r' ds vs b r (fun _ z => z) h]
        exact (EqAt.same _).inModel _ _
      · refine EqIn.of_refs ha fun E Q hq => ?_
        obtain ⟨_, ya, va, ra, da⟩ := (show ObjOk X.prog X.w H s.heap a (.dK vs) from (I.hok a _ q).2)
        obtain ⟨_, yb, vb, rb, db⟩ := dk_rd I.hok q'
        have l1 := RepD.length r
        have l2 := RepD.length r'
        have l3 : vs.length = va.length := Paired.length ra
        have l4 : vs'.length = vb.length := Paired.length rb
        rw [veq] at h
        by_cases hn : ds.length = es.length
        · rw [if_pos hn] at h
          have hits := veqd_in I es vs' vb r' rb ds vs va b A.in1 (by show A.units + 1 + _ < cLine; omega) r ra h
          refine PySem.W.keq_eqIn (knd := mixKind X.prog X.w) (r := b) ya yb da db (by omega) (fun _ => hits) ?_
          rw [show (va.length == vb.length) = true by simp; omega, Bool.true_and]
          exact hq
        · rw [if_neg hn] at h
          cases h
          refine PySem.W.keq_eqIn (knd := mixKind X.prog X.w) (r := false) ya yb da db (by omega) (fun z => absurd z (by omega)) ?_
          rw [Bool.and_false]
          exact hq
    | _ => cases h
  | .none, e, v, u, v', u', b, A, hu, r1, r2, e1, e2, h => by
    have hu : A.units + 1 < cLine := hu
    refine (veq0_in I (by omega) r1.b r2 e1 e2 ?_).inModel _ _
    cases e <;> exact h
  | .bool _, e, v, u, v', u', b, A, hu, r1, r2, e1, e2, h => by
    have hu : A.units + 1 < cLine := hu
    refine (veq0_in I (by omega) r1.b r2 e1 e2 ?_).inModel _ _
    cases e <;> exact h
  | .int _, e, v, u, v', u', b, A, hu, r1, r2, e1, e2, h => by
    have hu : A.units + 1 < cLine := hu
    refine (veq0_in I (by omega) r1.b r2 e1 e2 ?_).inModel _ _
    cases e <;> exact h
  | .str _, e, v, u, v', u', b, A, hu, r1, r2, e1, e2, h => by
    have hu : A.units + 1 < cLine := hu
    refine (veq0_in I (by omega) r1.b r2 e1 e2 ?_).inModel _ _
    cases e <;> exact h
  | .ref _, e, v, u, v', u', b, A, hu, r1, r2, e1, e2, h => by cases e <;> cases h
theorem veqs_in (I : Inv X pins σ H s) : ∀ (ds es : List Val) (vs us : List V) (vs' us' : List Value) (b : Bool) (A : Around), A.units + vdeps ds < cLine → Reps X.K μ H ds vs → Reps X.K μ H es us → Vals vs vs' → Vals us us' → veqs ds es = some b →
    ∃ bs : List Bool, (bs.all id && vs'.length == us'.length) = b ∧ bs.length = min vs'.length us'.length ∧ ∀ (j : Nat) (h1 : j < vs'.length) (h2 : j < us'.length), EqIn X.prog X.w A s vs'[j] us'[j] (bs.getD j false)
  | [], es, vs, us, vs', us', b, A, hu, r1, r2, w1, w2, h => by
    cases (show vs = [] from r1)
    cases w1
    refine ⟨[], ?_, by simp, fun j h1 => by cases h1⟩
    cases es with
    | nil => cases (show us = [] from r2); cases w2; exact Option.some.inj h
    | cons e es => obtain ⟨_, _, rfl, _, _⟩ := r2; cases w2; exact Option.some.inj h
  | d :: ds, es, vs, us, vs', us', b, A, hu, r1, r2, w1, w2, h => by
    obtain ⟨v, r, rfl, q1, t1⟩ := r1
    rw [vdeps] at hu
    cases w1 with
    | cons e1 w1 =>
      cases es with
      | nil => cases (show us = [] from r2); cases w2; exact ⟨[], by cases Option.some.inj h; rfl, by simp, fun j h1 h2 => by cases h2⟩
      | cons e es =>
        obtain ⟨u, r', rfl, q2, t2⟩ := r2
        cases w2 with
        | cons e2 w2 =>
          rw [veqs] at h
          obtain ⟨c, c', h1, h2, rfl⟩ := both_some h
          obtain ⟨bs, hb, hl, hj⟩ := veqs_in I ds es r r' _ _ c' A (by omega) t1 t2 w1 w2 h2
          refine ⟨c :: bs, ?_, by simp [hl], fun j g1 g2 => ?_⟩
          · rw [← hb]; simp [Bool.and_assoc]
          · cases j with
            | zero => exact veq_in I d e v u _ _ c A (by omega) q1 q2.b e1 e2 h1
            | succ j => exact hj j (Nat.lt_of_succ_lt_succ g1) (Nat.lt_of_succ_lt_succ g2)
theorem veqd_in (I : Inv X pins σ H s) (es : List (Val × Val)) (us : List (Key × V)) (vb : List (Key × Value)) (re : RepD X.K μ H es us) (rb : KV us vb) : ∀ (ds : List (Val × Val)) (vs : List (Key × V)) (va : List (Key × Value)) (b : Bool) (A : Around), A.units + vdepd ds < cLine →
    RepD X.K μ H ds vs → KV vs va → veqd ds es = some b → PySem.W.KeqHitsIn X.prog X.w A s vb va b
  | [], vs, va, b, A, hu, r1, w1, h => by
    cases (show vs = [] from r1)
    cases (show va = [] by cases w1; rfl)
    rw [veqd] at h
    cases h
    exact .nil
  | (k, d) :: ds, vs, va, b, A, hu, r1, w1, h => by
    obtain ⟨κ, v, r, rfl, ek, q1, t1⟩ := r1
    rw [vdepd] at hu
    cases w1 with
    | @cons _ pv _ va' hp w1 =>
      obtain ⟨κ', v'⟩ := pv
      obtain ⟨e0, e1⟩ := hp
      dsimp only at e0 e1
      subst e0
      rw [veqd] at h
      have rv := rb.val κ
      rcases re.val ek with ⟨z1, z2⟩ | ⟨e, u, z1, z2, q2⟩
      · rw [z1] at h
        cases h
        rw [z2] at rv
        refine .miss ?_
        exact rv.none_of
      · rw [z1] at h
        obtain ⟨c, c', h1, h2, rfl⟩ := both_some h
        rw [z2] at rv
        obtain ⟨y, hy, ry⟩ := rv.some_of
        exact .hit hy (veq_in I d e v u v' y c A (by omega) q1 q2.b e1 ry h1) (veqd_in I es us vb re rb ds r _ c' A (by omega) t1 w1 h2)
end
end
end PV

/-! PvJ: ==, !=, in, not in as operators. -/
namespace PV
open PySem PySem.Spec L2
open PySem.SeqAt (EqIn EqAt)

section
variable {X : Cx} {pins : List (Addr × Obj)} {σ : L2.St} {H : Hp} {s : Shared} {μ : List Addr} {A : Around}
theorem veq0_rc (I : Inv X pins σ H s) (hu : A.units < cLine) {d e : Val} {v u : V} {v' u' : Value} {b : Bool} (r1 : RepB X.K μ H d v) (r2 : RepB X.K μ H e u) (e1 : RelV v v') (e2 : RelV u u') (h : veq0 d e = some b) : SeqAt.RcAt A s v' u' b := by
  have ls : ∀ (ds : List Val) (v : V) (v' : Value), RepB X.K μ H (.list ds) v → RelV v v' → ∃ l its, v' = .ref l ∧ s.heap.IsList l its := by
    intro ds v v' r e
    obtain ⟨a, vs, rfl, q, _⟩ := r
    cases e
    obtain ⟨its, _, p, _⟩ := I.list q
    exact ⟨a, _, rfl, p.isList⟩
  have ts : ∀ (ds : List Val) (v : V) (v' : Value), RepB X.K μ H (.tup ds) v → RelV v v' → ∃ l its, v' = .ref l ∧ s.heap.IsTuple l its := by
    intro ds v v' r e
    obtain ⟨a, vs, rfl, q, _⟩ := r
    cases e
    obtain ⟨its, _, p, _⟩ := I.tuple q
    exact ⟨a, _, rfl, p⟩
  cases d with
  | none =>
    cases (show v = .non from r1); cases e1
    cases e with
    | none => cases (show u = .non from r2); cases e2; cases h; exact .none_none
    | bool c => cases (show u = .bl c from r2); cases e2; cases h; exact .none_bool c
    | int c => cases (show u = .int c from r2); obtain ⟨t, rfl⟩ := e2; cases h; exact .none_int c t
    | str c => cases (show u = .str c from r2); obtain ⟨t, rfl⟩ := e2; cases h; exact .none_str c t
    | tup es => obtain ⟨l, its, rfl, p⟩ := ts es u u' r2 e2; cases h; exact .none_tuple p hu
    | list es => obtain ⟨l, its, rfl, p⟩ := ls es u u' r2 e2; cases h; exact .none_list p hu
    | dict _ => cases h
    | ref _ => cases h
  | bool k =>
    cases (show v = .bl k from r1); cases e1
    cases e with
    | none => cases (show u = .non from r2); cases e2; cases h; exact .bool_none k
    | bool c => cases (show u = .bl c from r2); cases e2; cases h; exact .bool_bool k c
    | int c => cases (show u = .int c from r2); obtain ⟨t, rfl⟩ := e2; cases h; exact .bool_int k c t
    | str c => cases (show u = .str c from r2); obtain ⟨t, rfl⟩ := e2; cases h; exact .bool_str k c t
    | tup es => obtain ⟨l, its, rfl, p⟩ := ts es u u' r2 e2; cases h; exact .bool_tuple k p hu
    | list es => obtain ⟨l, its, rfl, p⟩ := ls es u u' r2 e2; cases h; exact .bool_list k p hu
    | dict _ => cases h
    | ref _ => cases h
  | int k =>
    cases (show v = .int k from r1); obtain ⟨t0, rfl⟩ := e1
    cases e with
    | none => cases (show u = .non from r2); cases e2; cases h; exact .int_none k t0
    | bool c => cases (show u = .bl c from r2); cases e2; cases h; exact .int_bool k t0 c
    | int c => cases (show u = .int c from r2); obtain ⟨t, rfl⟩ := e2; cases h; exact .int_int k t0 c t
    | str c => cases (show u = .str c from r2); obtain ⟨t, rfl⟩ := e2; cases h; exact .int_str k t0 c t
    | tup es => obtain ⟨l, its, rfl, p⟩ := ts es u u' r2 e2; cases h; exact .int_tuple k t0 p hu
    | list es => obtain ⟨l, its, rfl, p⟩ := ls es u u' r2 e2; cases h; exact .int_list k t0 p hu
    | dict _ => cases h
    | ref _ => cases h
  | str k =>
    cases (show v = .str k from r1); obtain ⟨t0, rfl⟩ := e1
    cases e with
    | none => cases (show u = .non from r2); cases e2; cases h; exact .str_none k t0
    | bool c => cases (show u = .bl c from r2); cases e2; cases h; exact .str_bool k t0 c
    | int c => cases (show u = .int c from r2); obtain ⟨t, rfl⟩ := e2; cases h; exact .str_int k t0 c t
    | str c => cases (show u = .str c from r2); obtain ⟨t, rfl⟩ := e2; cases h; exact .str_str k t0 c t
    | tup es => obtain ⟨l, its, rfl, p⟩ := ts es u u' r2 e2; cases h; exact .str_tuple k t0 p hu
    | list es => obtain ⟨l, its, rfl, p⟩ := ls es u u' r2 e2; cases h; exact .str_list k t0 p hu
    | dict _ => cases h
    | ref _ => cases h
  | list ds =>
    obtain ⟨l0, its0, rfl, p0⟩ := ls ds v v' r1 e1
    cases e with
    | none => cases (show u = .non from r2); cases e2; cases h; exact .list_none p0 hu
    | bool c => cases (show u = .bl c from r2); cases e2; cases h; exact .list_bool c p0 hu
    | int c => cases (show u = .int c from r2); obtain ⟨t, rfl⟩ := e2; cases h; exact .list_int c t p0 hu
    | str c => cases (show u = .str c from r2); obtain ⟨t, rfl⟩ := e2; cases h; exact .list_str c t p0 hu
    | tup es => obtain ⟨l, its, rfl, p⟩ := ts es u u' r2 e2; cases h; exact .list_tuple p0 p hu
    | list _ => cases h
    | dict _ => cases h
    | ref _ => cases h
  | tup ds =>
    obtain ⟨l0, its0, rfl, p0⟩ := ts ds v v' r1 e1
    cases e with
    | none => cases (show u = .non from r2); cases e2; cases h; exact .tuple_none p0 hu
    | bool c => cases (show u = .bl c from r2); cases e2; cases h; exact .tuple_bool c p0 hu
    | int c => cases (show u = .int c from r2); obtain ⟨t, rfl⟩ := e2; cases h; exact .tuple_int c t p0 hu
    | str c => cases (show u = .str c from r2); obtain ⟨t, rfl⟩ := e2; cases h; exact .tuple_str c t p0 hu
    | list es => obtain ⟨l, its, rfl, p⟩ := ls es u u' r2 e2; cases h; exact .tuple_list p0 p hu
    | tup _ => cases h
    | dict _ => cases h
    | ref _ => cases h
  | dict _ => cases e <;> cases h
  | ref _ => cases e <;> cases h


theorem veq0_ne (I : Inv X pins σ H s) (hu : A.units < cLine) {d e : Val} {v u : V} {v' u' : Value} {b : Bool} (r1 : RepB X.K μ H d v) (r2 : RepB X.K μ H e u) (e1 : RelV v v') (e2 : RelV u u') (h : veq0 d e = some b) : SeqAt.RcNeAt A s v' u' (!b) := by
  have ls : ∀ (ds : List Val) (v : V) (v' : Value), RepB X.K μ H (.list ds) v → RelV v v' → ∃ l its, v' = .ref l ∧ s.heap.IsList l its := by
    intro ds v v' r e
    obtain ⟨a, vs, rfl, q, _⟩ := r
    cases e
    obtain ⟨its, _, p, _⟩ := I.list q
    exact ⟨a, _, rfl, p.isList⟩
  have ts : ∀ (ds : List Val) (v : V) (v' : Value), RepB X.K μ H (.tup ds) v → RelV v v' → ∃ l its, v' = .ref l ∧ s.heap.IsTuple l its := by
    intro ds v v' r e
    obtain ⟨a, vs, rfl, q, _⟩ := r
    cases e
    obtain ⟨its, _, p, _⟩ := I.tuple q
    exact ⟨a, _, rfl, p⟩
  cases d with
  | none =>
    cases (show v = .non from r1); cases e1
    cases e with
    | none => cases (show u = .non from r2); cases e2; cases h; exact .none_none
    | bool c => cases (show u = .bl c from r2); cases e2; cases h; exact .none_bool c
    | int c => cases (show u = .int c from r2); obtain ⟨t, rfl⟩ := e2; cases h; exact .none_int c t
    | str c => cases (show u = .str c from r2); obtain ⟨t, rfl⟩ := e2; cases h; exact .none_str c t
    | tup es => obtain ⟨l, its, rfl, p⟩ := ts es u u' r2 e2; cases h; exact .none_tuple p hu
    | list es => obtain ⟨l, its, rfl, p⟩ := ls es u u' r2 e2; cases h; exact .none_list p hu
    | dict _ => cases h
    | ref _ => cases h
  | bool k =>
    cases (show v = .bl k from r1); cases e1
    cases e with
    | none => cases (show u = .non from r2); cases e2; cases h; exact .bool_none k
    | bool c => cases (show u = .bl c from r2); cases e2; cases h; exact .bool_bool k c
    | int c => cases (show u = .int c from r2); obtain ⟨t, rfl⟩ := e2; cases h; exact .bool_int k c t
    | str c => cases (show u = .str c from r2); obtain ⟨t, rfl⟩ := e2; cases h; exact .bool_str k c t
    | tup es => obtain ⟨l, its, rfl, p⟩ := ts es u u' r2 e2; cases h; exact .bool_tuple k p hu
    | list es => obtain ⟨l, its, rfl, p⟩ := ls es u u' r2 e2; cases h; exact .bool_list k p hu
    | dict _ => cases h
    | ref _ => cases h
  | int k =>
    cases (show v = .int k from r1); obtain ⟨t0, rfl⟩ := e1
    cases e with
    | none => cases (show u = .non from r2); cases e2; cases h; exact .int_none k t0
    | bool c => cases (show u = .bl c from r2); cases e2; cases h; exact .int_bool k t0 c
    | int c => cases (show u = .int c from r2); obtain ⟨t, rfl⟩ := e2; cases h; exact .int_int k t0 c t
    | str c => cases (show u = .str c from r2); obtain ⟨t, rfl⟩ := e2; cases h; exact .int_str k t0 c t
    | tup es => obtain ⟨l, its, rfl, p⟩ := ts es u u' r2 e2; cases h; exact .int_tuple k t0 p hu
    | list es => obtain ⟨l, its, rfl, p⟩ := ls es u u' r2 e2; cases h; exact .int_list k t0 p hu
    | dict _ => cases h
    | ref _ => cases h
  | str k =>
    cases (show v = .str k from r1); obtain ⟨t0, rfl⟩ := e1
    cases e with
    | none => cases (show u = .non from r2); cases e2; cases h; exact .str_none k t0
    | bool c => cases (show u = .bl c from r2); cases e2; cases h; exact .str_bool k t0 c
    | int c => cases (show u = .int c from r2); obtain ⟨t, rfl⟩ := e2; cases h; exact .str_int k t0 c t
    | str c => cases (show u = .str c from r2); obtain ⟨t, rfl⟩ := e2; cases h; exact .str_str k t0 c t
    | tup es => obtain ⟨l, its, rfl, p⟩ := ts es u u' r2 e2; cases h; exact .str_tuple k t0 p hu
    | list es => obtain ⟨l, its, rfl, p⟩ := ls es u u' r2 e2; cases h; exact .str_list k t0 p hu
    | dict _ => cases h
    | ref _ => cases h
  | list ds =>
    obtain ⟨l0, its0, rfl, p0⟩ := ls ds v v' r1 e1
    cases e with
    | none => cases (show u = .non from r2); cases e2; cases h; exact .list_none p0 hu
    | bool c => cases (show u = .bl c from r2); cases e2; cases h; exact .list_bool c p0 hu
    | int c => cases (show u = .int c from r2); obtain ⟨t, rfl⟩ := e2; cases h; exact .list_int c t p0 hu
    | str c => cases (show u = .str c from r2); obtain ⟨t, rfl⟩ := e2; cases h; exact .list_str c t p0 hu
    | tup es => obtain ⟨l, its, rfl, p⟩ := ts es u u' r2 e2; cases h; exact .list_tuple p0 p hu
    | list _ => cases h
    | dict _ => cases h
    | ref _ => cases h
  | tup ds =>
    obtain ⟨l0, its0, rfl, p0⟩ := ts ds v v' r1 e1
    cases e with
    | none => cases (show u = .non from r2); cases e2; cases h; exact .tuple_none p0 hu
    | bool c => cases (show u = .bl c from r2); cases e2; cases h; exact .tuple_bool c p0 hu
    | int c => cases (show u = .int c from r2); obtain ⟨t, rfl⟩ := e2; cases h; exact .tuple_int c t p0 hu
    | str c => cases (show u = .str c from r2); obtain ⟨t, rfl⟩ := e2; cases h; exact .tuple_str c t p0 hu
    | list es => obtain ⟨l, its, rfl, p⟩ := ls es u u' r2 e2; cases h; exact .tuple_list p0 p hu
    | tup _ => cases h
    | dict _ => cases h
    | ref _ => cases h
  | dict _ => cases e <;> cases h
  | ref _ => cases e <;> cases h


end

/-! ### membership -/
section
variable {prog : Program} {w : World}
open AutoSeq1 (wpAny_loadPart')
open MeetsSeq MeetsSeq2 MeetsSeq3 SeqRoads2
theorem pvIn_loop (l : Addr) (arr : Array Value) (n : Nat) (dd : Option Addr) (sl : Array (Option Value)) (z : Value) (k : Nat) :
    ∀ (i : Nat) (bs : List Bool), arr.size - i = k → MeetsIn prog w (Builtin.«list.__contains__.loop» ⟨[.ref l, z, rawInt i], []⟩)
      (fun A R s => s.heap.get? l = some { cls := .type "list", dict := dd, data := .seq arr n, slots := sl } ∧
        Paired (fun y b => EqIn prog w A.in1 s y z b) (arr.toList.drop i) bs ∧ R (.ok (.ret (.bool (bs.any id)))) s) := by
  induction k with
  | zero =>
    intro i bs hk A R s hyp
    obtain ⟨hp, g, d, tk, os⟩ := s
    obtain ⟨lo, pr, fin⟩ := hyp
    wp_walk using wpAny_loadPart' lo
    have none_ : arr[((i : Nat) : Int).toNat]? = none := by simp; omega
    have emp : arr.toList.drop i = [] := by simp; omega
    rw [emp] at pr
    cases pr
    rw [none_]
    wp_walk
    exact fin
  | succ k ih =>
    intro i bs hk A R s hyp
    obtain ⟨hp, g, d, tk, os⟩ := s
    obtain ⟨lo, pr, fin⟩ := hyp
    wp_walk using wpAny_loadPart' lo
    have lt_ : i < arr.size := by omega
    have some_ : arr[((i : Nat) : Int).toNat]? = some arr[i] := by simp [lt_]
    have split_ : arr.toList.drop i = arr[i] :: arr.toList.drop (i + 1) := by simp [List.drop_eq_getElem_cons, lt_]
    rw [split_] at pr
    rw [some_]
    cases pr with
    | @cons _ b _ bs' p0 pr' =>
    refine wpAny_bind (p0 _ _ ?_)
    cases b with
    | true => wp_walk; exact fin
    | false =>
      have cast_ : ((i : Int) + 1) = ((i + 1 : Nat) : Int) := by push_cast; rfl
      wp_walk
      rw [cast_]
      refine ⟨plainId_quiet plain_contains_loop _, codeAny_builtin entry_contains_loop ?_⟩
      rw [Around.under_plainId plain_contains_loop _]
      exact ih (i + 1) bs' (by omega) A R _ ⟨lo, pr', fin⟩
theorem pvIn_list (l : Addr) (arr : Array Value) (n : Nat) (dd : Option Addr) (sl : Array (Option Value)) (z : Value) (bs : List Bool) :
    MeetsIn prog w (Builtin.«list.__contains__» ⟨[.ref l, z], []⟩)
      (fun A R s => s.heap.get? l = some { cls := .type "list", dict := dd, data := .seq arr n, slots := sl } ∧
        Paired (fun y b => EqIn prog w A.in1 s y z b) arr.toList bs ∧ R (.ok (.ret (.bool (bs.any id)))) s) := by
  intro A R s hyp
  obtain ⟨hp, g, d, tk, os⟩ := s
  obtain ⟨lo, pr, fin⟩ := hyp
  wp_walk using wpAny_loadPart' lo
  refine ⟨plainId_quiet plain_contains_loop _, codeAny_builtin entry_contains_loop ?_⟩
  rw [Around.under_plainId plain_contains_loop _]
  exact pvIn_loop l arr n dd sl z _ 0 bs rfl A R _ ⟨lo, by simpa using pr, fin⟩
theorem pvIn_tuple (l : Addr) (arr : Array Value) (n : Nat) (dd : Option Addr) (sl : Array (Option Value)) (z : Value) (bs : List Bool) :
    MeetsIn prog w (Builtin.«tuple.__contains__» ⟨[.ref l, z], []⟩)
      (fun A R s => s.heap.get? l = some { cls := .type "tuple", dict := dd, data := .seq arr n, slots := sl } ∧
        Paired (fun y b => EqIn prog w A.in1 s y z b) arr.toList bs ∧ R (.ok (.ret (.bool (bs.any id)))) s) :=
  .of_wp fun A R s hyp => by
    obtain ⟨hp, g, d, tk, os⟩ := s
    obtain ⟨lo, pr, fin⟩ := hyp
    wp_walk using wpAny_loadPart' lo, wpAny_forIn_array _ (fun rest b s' => b.1 = none ∧ s' = ⟨hp, g, d, tk, os⟩ ∧ ∃ cs : List Bool, Paired (fun y b => EqIn prog w A.in1 ⟨hp, g, d, tk, os⟩ y z b) rest cs ∧ R (.ok (.ret (.bool (cs.any id)))) ⟨hp, g, d, tk, os⟩) _
    case turn =>
      rintro y rest b s' ⟨hb, rfl, cs, pr', hR⟩
      cases pr' with
      | @cons _ c _ cs' p0 pr' =>
      refine wpAny_bind (p0 _ _ ?_)
      cases c with
      | true => wp_walk; exact ⟨_, rfl, by simpa using hR⟩
      | false => wp_walk; exact ⟨rfl, rfl, cs', pr', hR⟩
    case fin =>
      rintro ⟨b1, b2⟩ s' ⟨hb, rfl, cs, pr', hR⟩
      simp only at hb
      subst hb
      cases pr'
      wp_walk
      exact ⟨_, rfl, hR⟩
    case h =>
      exact ⟨rfl, rfl, bs, pr, fin⟩
variable {A : Around} {E : Value → Shared → Prop} {s : Shared}
theorem pvIn_run {T id : String} {B : Builtin} {c x : Value} {S : PySem.Spec} {Q : Value → Shared → Prop} {neg : Bool} (ty : s.TypeIs c T) (slot : PySem.Slot T "__contains__" id)
    (entry : entryFor table id = some B) (args : argsOk id ⟨[c, x], []⟩) (g : MeetsIn prog w (B ⟨[c, x], []⟩) S)
    (h : S A (wants (fun v s' => ∃ b, v = .bool b ∧ Q (.bool (if neg then !b else b)) s') E) s) : wpAny (model prog w) A (compareOp (if neg then .NotIn else .In) x c) Q E s := by
  have k : ∀ (Q' : Bool → Shared → Prop), (∀ b s', Q (.bool (if neg then !b else b)) s' → Q' b s') → wpAny (model prog w) A (contains c x) Q' E s := fun Q' hq =>
    wpAny_contains_slot ty slot (wpAny_mono (call_meetsIn slot ty entry args g h) (fun v s' ⟨b, e, q⟩ => by subst e; exact wpAny_truthy_bool (hq b s' q)) fun _ _ e => e)
  cases neg with
  | true =>
    show wpAny _ A (do return .bool (!(← contains c x))) Q E s
    exact wpAny_bind (k _ fun b s' q => wpAny_pure q)
  | false =>
    show wpAny _ A (do return .bool (← contains c x)) Q E s
    exact wpAny_bind (k _ fun b s' q => wpAny_pure q)
end

def vins (x : Val) : List Val → Option (List Bool)
  | [] => some []
  | d :: ds => match veq d x, vins x ds with
    | some b, some c => some (b :: c)
    | _, _ => none
theorem vins_run {X : Cx} {pins : List (Addr × Obj)} {σ : L2.St} {H : Hp} {s : Shared} {μ : List Addr} {A : Around} (I : Inv X pins σ H s) {x : Val} {u : V} {u' : Value} (r2 : RepB X.K μ H x u) (e2 : RelV u u') :
    ∀ (ds : List Val) (vs : List V) (vs' : List Value) (bs : List Bool), A.units + vdeps ds < cLine → Reps X.K μ H ds vs → Vals vs vs' → vins x ds = some bs → Paired (fun y b => EqIn X.prog X.w A s y u' b) vs' bs
  | [], vs, vs', bs, hu, r, w, h => by
    cases (show vs = [] from r)
    cases w
    cases h
    exact .nil
  | d :: ds, vs, vs', bs, hu, r, w, h => by
    obtain ⟨v, t, rfl, q, r⟩ := r
    rw [vdeps] at hu
    cases w with
    | cons e1 w =>
      rw [vins] at h
      cases e1' : veq d x with
      | none => rw [e1'] at h; cases h
      | some b =>
        cases e2' : vins x ds with
        | none => rw [e1', e2'] at h; cases h
        | some c =>
          rw [e1', e2'] at h
          cases h
          exact .cons (veq_in I d x v u _ u' b A (by omega) q r2 e1 e2 e1') (vins_run I r2 e2 ds t _ c (by omega) r w e2')
end PV

/-! PvK: operators on values. -/
namespace PV
open PySem PySem.Spec L2
open PySem.SeqAt (EqIn EqAt)

def RoomV (X : Cx) : Prop := X.A.units + 100 < cLine

section
variable {X : Cx} {cl : Nat → Addr} {K : PySem.W.Frag} {μ : List Addr} {H H' : Hp}
theorem Reps.append : ∀ {ds es : List Val} {vs us : List V}, Reps K μ H ds vs → Reps K μ H es us → Reps K μ H (ds ++ es) (vs ++ us)
  | [], es, vs, us, r, q => by cases (show vs = [] from r); exact q
  | d :: ds, es, vs, us, r, q => by obtain ⟨v, t, rfl, h, r⟩ := r; exact ⟨v, t ++ us, rfl, h, Reps.append r q⟩
theorem lst_new {p : Addr} {ds : List Val} {vs : List V} (hn : H p = none) (r : Reps K μ H ds vs) : RNew K cl μ H (upd H p (.lst vs)) (.fr (.lst ds)) (.ref p) :=
  ⟨p, rfl, hn, vs, upd_same, Reps.mono (List.prefix_refl _) (Ext.new hn).mono _ _ r⟩
theorem tup_new {p : Addr} {ds : List Val} {vs : List V} (hn : H p = none) (r : Reps K μ H ds vs) : RNew K cl μ H (upd H p (.tup vs)) (.sh (.tup ds)) (.ref p) :=
  ⟨p, vs, rfl, SqT.of upd_same, Reps.mono (List.prefix_refl _) (Ext.new hn).mono _ _ r⟩
end

/-! ### arithmetic -/
def fAdd : Val → Val → Option RV
  | .int i, .int j => some (.sh (.int (i + j)))
  | .str x, .str y => if x.length + y.length ≤ 16777216 then some (.sh (.str (x ++ y))) else none
  | .list ds, .list es => if ds.length + es.length ≤ 16777216 then some (.fr (.lst (ds ++ es))) else none
  | .tup ds, .tup es => if ds.length + es.length ≤ 16777216 then some (.sh (.tup (ds ++ es))) else none
  | _, _ => none
theorem op_addV {X : Cx} {cl : Nat → Addr} : OpV X cl (binaryOp .Add) fAdd := by
  refine ⟨fun pins s σ H x y v u Q I rx ry ⟨μ, dx, dy, r, r1, r2, e, q⟩ => ?_⟩
  cases dx with
  | int i =>
    cases dy with
    | int j =>
      cases e
      cases (show x = .int i from r1); cases (show y = .int j from r2)
      exact op_add pins s σ H _ _ v u Q I rx ry ⟨i, j, rfl, rfl, q _ H (Ext.refl _) rfl⟩
    | _ => cases e
  | str i =>
    cases dy with
    | str j =>
      simp only [fAdd] at e
      split at e
      · rename_i hz
        cases e
        cases (show x = .str i from r1); cases (show y = .str j from r2)
        exact op_add_str pins s σ H _ _ v u Q I rx ry ⟨i, j, rfl, rfl, by rw [sizeLine_eq]; exact hz, q _ H (Ext.refl _) rfl⟩
      · cases e
    | _ => cases e
  | list ds =>
    cases dy with
    | list es =>
      simp only [fAdd] at e
      split at e
      · rename_i hz
        cases e
        obtain ⟨a, vs, rfl, q1, t1⟩ := r1
        obtain ⟨b, us, rfl, q2, t2⟩ := r2
        cases rx; cases ry
        obtain ⟨its, w1, pl1, _⟩ := I.list q1
        obtain ⟨its2, w2, pl2, _⟩ := I.list q2
        obtain ⟨⟨c1, dd, da1, sl⟩, e1, hc1, n, hd1⟩ := id pl1.isList
        obtain ⟨⟨c2, dd2, da2, sl2⟩, e2, hc2, n2, hd2⟩ := id pl2.isList
        simp only at hc1 hd1 hc2 hd2
        subst hc1 hd1 hc2 hd2
        have l1 := Reps.length t1
        have l2 := Reps.length t2
        have l3 := w1.length
        have l4 := w2.length
        refine PySem.concat_meets ⟨_, e1, rfl⟩ ⟨_, e2, rfl⟩ noFill_list_add seq_list_add PySem.F.slot_list_add PySem.F.entry_list_add (PySem.F.args_list_add_2 _ _) (PyProof.Rows.list_addW a b its.toArray its2.toArray n n2 dd dd2 sl sl2 (by rw [List.size_toArray, List.size_toArray, sizeLine_eq]; omega)) ⟨e1, e2, ?_⟩
        have ea : its.toArray ++ its2.toArray = (its ++ its2).toArray := by simp
        rw [ea]
        exact ⟨.ref _, _, I.lnew (t' := s.toks) (w1.append w2) (by rw [List.length_append, sizeLine_eq]; omega), rfl, q _ _ (Ext.new I.fresh) (lst_new I.fresh (t1.append t2))⟩
      · cases e
    | _ => cases e
  | tup ds =>
    cases dy with
    | tup es =>
      simp only [fAdd] at e
      split at e
      · rename_i hz
        cases e
        obtain ⟨a, vs, rfl, q1, t1⟩ := id r1
        obtain ⟨b, us, rfl, q2, t2⟩ := id r2
        have l1 := Reps.length t1
        have l2 := Reps.length t2
        by_cases hv : vs = []
        · subst hv
          cases rx; cases ry
          obtain ⟨its, w1, p1, _⟩ := I.tuple q1
          obtain ⟨its2, w2, p2, _⟩ := I.tuple q2
          cases w1
          refine cat_tup0 p1 p2 ⟨.ref b, H, I, rfl, q _ H (Ext.refl _) ?_⟩
          have : ds = [] := List.length_eq_zero_iff.mp l1
          subst this
          exact r2
        · refine op_catT pins s σ H _ _ v u Q I rx ry ⟨a, b, vs, us, rfl, rfl, q1, q2, hv, by rw [sizeLine_eq]; omega, fun hu => ?_, fun hu p hn => ?_⟩
          · subst hu
            refine q _ H (Ext.refl _) ?_
            have : es = [] := List.length_eq_zero_iff.mp l2
            subst this
            rw [List.append_nil]
            exact r1
          · exact q _ _ (Ext.new hn) (tup_new hn (t1.append t2))
      · cases e
    | _ => cases e
  | _ => cases dy <;> cases e

/-- ints in, under C -/
def fI (C : Int → Int → Bool) (g : Int → Int → Int) : Val → Val → Option RV
  | .int i, .int j => if C i j = true then some (.sh (.int (g i j))) else none
  | _, _ => none
theorem opv_int {X : Cx} {cl : Nat → Addr} {F : Value → Value → Sem Value} {C : Int → Int → Bool} {g : Int → Int → Int} (h : OpR X F (rI (fun i j => C i j = true) fun i j => .int (g i j))) : OpV X cl F (fI C g) := by
  refine ⟨fun pins s σ H x y v u Q I rx ry ⟨μ, dx, dy, r, r1, r2, e, q⟩ => ?_⟩
  cases dx with
  | int i =>
    cases dy with
    | int j =>
      simp only [fI] at e
      split at e
      · rename_i hz
        cases e
        cases (show x = .int i from r1); cases (show y = .int j from r2)
        exact h pins s σ H _ _ v u Q I rx ry ⟨i, j, rfl, rfl, hz, q _ H (Ext.refl _) rfl⟩
      · cases e
    | _ => cases e
  | _ => cases dy <;> cases e
def cMul (i j : Int) : Bool := decide ((-(2 ^ 64) < i ∧ i < 2 ^ 64) ∨ (-(2 ^ 64) < j ∧ j < 2 ^ 64))
def cDiv (i j : Int) : Bool := decide (0 < j ∧ j < 1073741824)
def cMod (i j : Int) : Bool := decide (0 < j)
def cPow (i j : Int) : Bool := decide (0 ≤ j ∧ j ≤ 1000000 ∧ i.natAbs < 2 ^ 64)
theorem cMul_ok {i j : Int} (c : cMul i j = true) : CMul i j := by
  have := of_decide_eq_true c
  exact this
theorem cDiv_ok {i j : Int} (c : cDiv i j = true) : CDiv i j := by
  have := of_decide_eq_true c
  exact this
theorem cMod_ok {i j : Int} (c : cMod i j = true) : 0 < j := by
  have := of_decide_eq_true c
  exact this
theorem cPow_ok {i j : Int} (c : cPow i j = true) : CPow i j := by
  have := of_decide_eq_true c
  exact this
def fSub := fI (fun _ _ => true) fun i j => i - j
def fMul := fI cMul fun i j => i * j
def fDiv := fI cDiv fun i j => i / j
def fMod := fI cMod fun i j => i % j
def fPow := fI cPow fun i j => i ^ j.toNat
theorem op_subV {X : Cx} {cl : Nat → Addr} : OpV X cl (binaryOp .Sub) fSub :=
  opv_int fun pins s σ H x y v u Q I rx ry ⟨i, j, e1, e2, _, q⟩ => op_sub pins s σ H x y v u Q I rx ry ⟨i, j, e1, e2, q⟩
theorem op_mulV {X : Cx} {cl : Nat → Addr} : OpV X cl (binaryOp .Mult) fMul :=
  opv_int fun pins s σ H x y v u Q I rx ry ⟨i, j, e1, e2, c, q⟩ => op_mul pins s σ H x y v u Q I rx ry ⟨i, j, e1, e2, cMul_ok c, q⟩
theorem op_divV {X : Cx} {cl : Nat → Addr} : OpV X cl (binaryOp .FloorDiv) fDiv :=
  opv_int fun pins s σ H x y v u Q I rx ry ⟨i, j, e1, e2, c, q⟩ => op_fdiv pins s σ H x y v u Q I rx ry ⟨i, j, e1, e2, cDiv_ok c, q⟩
theorem op_modV {X : Cx} {cl : Nat → Addr} : OpV X cl (binaryOp .Mod) fMod :=
  opv_int fun pins s σ H x y v u Q I rx ry ⟨i, j, e1, e2, c, q⟩ => op_mod pins s σ H x y v u Q I rx ry ⟨i, j, e1, e2, cMod_ok c, q⟩
theorem op_powV {X : Cx} {cl : Nat → Addr} : OpV X cl (binaryOp .Pow) fPow :=
  opv_int fun pins s σ H x y v u Q I rx ry ⟨i, j, e1, e2, c, q⟩ => op_pow pins s σ H x y v u Q I rx ry ⟨i, j, e1, e2, cPow_ok c, q⟩

/-! ### order -/
def fCmp (gi : Int → Int → Bool) (gs : Str → Str → Option Bool) : Val → Val → Option RV
  | .int i, .int j => some (.sh (.bool (gi i j)))
  | .str x, .str y => match gs x y with
    | some b => some (.sh (.bool b))
    | none => none
  | _, _ => none
def noS : Str → Str → Option Bool := fun _ _ => none
theorem opv_cmp {X : Cx} {cl : Nat → Addr} {F : Value → Value → Sem Value} {gi : Int → Int → Bool} {gs : Str → Str → Option Bool} (h : OpR X F (rI0 fun i j => .bl (gi i j)))
    (hs : ∀ i j b, gs i j = some b → ∀ pins s σ H v u Q, L2.Inv X pins σ H s → RelV (.str i) v → RelV (.str j) u → Q (.bl b) H → wpAny (model X.prog X.w) X.A (F v u) (EP X pins σ Q) X.xe s) : OpV X cl F (fCmp gi gs) := by
  refine ⟨fun pins s σ H x y v u Q I rx ry ⟨μ, dx, dy, r, r1, r2, e, q⟩ => ?_⟩
  cases dx with
  | int i =>
    cases dy with
    | int j =>
      cases e
      cases (show x = .int i from r1); cases (show y = .int j from r2)
      exact h pins s σ H _ _ v u Q I rx ry ⟨i, j, rfl, rfl, q _ H (Ext.refl _) rfl⟩
    | _ => cases e
  | str i =>
    cases dy with
    | str j =>
      simp only [fCmp] at e
      cases eb : gs i j with
      | none => rw [eb] at e; cases e
      | some b =>
        rw [eb] at e
        cases e
        cases (show x = .str i from r1); cases (show y = .str j from r2)
        exact hs i j b eb pins s σ H v u Q I rx ry (q _ H (Ext.refl _) rfl)
    | _ => cases e
  | _ => cases dy <;> cases e
def fLt := fCmp (fun i j => decide (i < j)) fun x y => some (decide (x.cps.toList < y.cps.toList))
def fLe := fCmp (fun i j => decide (i ≤ j)) noS
def fGt := fCmp (fun i j => decide (j < i)) noS
def fGe := fCmp (fun i j => decide (j ≤ i)) noS
theorem op_ltV {X : Cx} {cl : Nat → Addr} : OpV X cl (compareOp .Lt) fLt :=
  opv_cmp op_lt fun i j b e pins s σ H v u Q I r1 r2 q => by cases e; exact op_lt_str pins s σ H _ _ v u Q I r1 r2 ⟨i, j, rfl, rfl, q⟩
theorem op_leV {X : Cx} {cl : Nat → Addr} : OpV X cl (compareOp .LtE) fLe := opv_cmp op_le fun i j b e => by cases e
theorem op_gtV {X : Cx} {cl : Nat → Addr} : OpV X cl (compareOp .Gt) fGt := opv_cmp op_gt fun i j b e => by cases e
theorem op_geV {X : Cx} {cl : Nat → Addr} : OpV X cl (compareOp .GtE) fGe := opv_cmp op_ge fun i j b e => by cases e

/-! ### is -/
def isNone : Val → Bool
  | .none => true
  | _ => false
theorem isNone_v {K : PySem.W.Frag} {μ : List Addr} {H : Hp} {d : Val} {v : V} (r : RepB K μ H d v) : decide (v = .non) = isNone d := by
  cases d with
  | none => cases (show v = .non from r); rfl
  | bool b => cases (show v = .bl b from r); rfl
  | int b => cases (show v = .int b from r); rfl
  | str b => cases (show v = .str b from r); rfl
  | tup _ => obtain ⟨a, _, rfl, _⟩ := r; rfl
  | list _ => obtain ⟨a, _, rfl, _⟩ := r; rfl
  | dict _ => obtain ⟨a, _, rfl, _⟩ := r; rfl
  | ref _ => obtain ⟨a, rfl, _⟩ := r; rfl
def fIs (neg : Bool) : Val → Val → Option RV
  | d, .none => some (.sh (.bool (if neg then !isNone d else isNone d)))
  | .bool a, .bool b => some (.sh (.bool (if neg then !(decide (a = b)) else decide (a = b))))
  | _, _ => none
theorem op_isV {X : Cx} {cl : Nat → Addr} : OpV X cl (compareOp .Is) (fIs false) := by
  refine ⟨fun pins s σ H x y v u Q I rx ry ⟨μ, dx, dy, r, r1, r2, e, q⟩ => ?_⟩
  cases dy with
  | none =>
    have e' : r = .sh (.bool (isNone dx)) := by cases dx <;> exact (Option.some.inj e).symm
    subst e'
    cases (show y = .non from r2)
    exact op_isN pins s σ H _ _ v u Q I rx ry ⟨rfl, by rw [isNone_v r1]; exact q _ H (Ext.refl _) rfl⟩
  | bool b =>
    cases dx with
    | bool a =>
      cases e
      cases (show x = .bl a from r1); cases (show y = .bl b from r2)
      exact op_isBl pins s σ H _ _ v u Q I rx ry ⟨a, b, rfl, rfl, q _ H (Ext.refl _) rfl⟩
    | _ => cases e
  | _ => cases dx <;> cases e
theorem op_isnotV {X : Cx} {cl : Nat → Addr} : OpV X cl (compareOp .IsNot) (fIs true) := by
  refine ⟨fun pins s σ H x y v u Q I rx ry ⟨μ, dx, dy, r, r1, r2, e, q⟩ => ?_⟩
  cases dy with
  | none =>
    have e' : r = .sh (.bool (!isNone dx)) := by cases dx <;> exact (Option.some.inj e).symm
    subst e'
    cases (show y = .non from r2)
    exact op_notN pins s σ H _ _ v u Q I rx ry ⟨rfl, by rw [isNone_v r1]; exact q _ H (Ext.refl _) rfl⟩
  | bool b =>
    cases dx with
    | bool a =>
      cases e
      cases (show x = .bl a from r1); cases (show y = .bl b from r2)
      exact op_notBl pins s σ H _ _ v u Q I rx ry ⟨a, b, rfl, rfl, q _ H (Ext.refl _) rfl⟩
    | _ => cases e
  | _ => cases dx <;> cases e

/-! ### ==, != -/
def oB : Option Bool → Option RV
  | some b => some (.sh (.bool b))
  | none => none
def deep (d : Val) : Option Bool → Option Bool := fun b => if vdep d ≤ 60 then b else none
def fEq (d e : Val) : Option RV := oB (deep d (veq d e))
theorem fin_b {X : Cx} {pins : List (Addr × Obj)} {σ : L2.St} {H : Hp} {s : Shared} {Q : VK} {b : Bool} (I : L2.Inv X pins σ H s) (q : Q (.bl b) H) : EP X pins σ Q (.bool b) s := ⟨.bl b, H, I, rfl, q⟩
theorem op_eqV' {X : Cx} {cl : Nat → Addr} (hu : RoomV X) : OpV X cl (compareOp .Eq) fEq := by
  refine ⟨fun pins s σ H x y v u Q I rx ry ⟨μ, dx, dy, r, r1, r2, e, q⟩ => ?_⟩
  have hu : X.A.units + 100 < cLine := hu
  unfold fEq deep at e
  split at e
  case isFalse => cases e
  case isTrue hd =>
  cases ev : veq dx dy with
  | none => rw [ev] at e; cases e
  | some b =>
  rw [ev] at e
  cases e
  have fin : ∀ b', b' = b → EP X pins σ Q (.bool b') s := fun b' z => by subst z; exact fin_b I (q _ H (Ext.refl _) rfl)
  have zero : veq0 dx dy = some b → wpAny (model X.prog X.w) X.A (compareOp .Eq v u) (EP X pins σ Q) X.xe s := fun z => veq0_rc I (by omega) r1 r2 rx ry z X.prog X.w X.xe (EP X pins σ Q) (fin b rfl)
  cases dx with
  | list ds =>
    cases dy with
    | list es =>
      rw [vdep] at hd
      obtain ⟨a, vs, rfl, q1, t1⟩ := r1
      obtain ⟨a', us, rfl, q2, t2⟩ := r2
      cases rx; cases ry
      obtain ⟨its, w1, p, _⟩ := I.list q1
      obtain ⟨its', w2, p', _⟩ := I.list q2
      have l1 := Reps.length t1
      have l2 := Reps.length t2
      have l3 := w1.length
      have l4 := w2.length
      rw [veq] at ev
      by_cases hn : ds.length = es.length
      · rw [if_pos hn] at ev
        obtain ⟨bs, hb, hl, hj⟩ := veqs_in I ds es vs us its its' b X.A.in1 (by show X.A.units + 1 + _ < cLine; omega) t1 t2 w1 w2 ev
        have hz : its.length = its'.length := by omega
        refine SeqAt.rcIn_lists (e := fun i => bs.getD i false) p.isList p'.isList (by simpa using hz) (by omega) (fun j h1 h2 => ?_) (fin _ ?_)
        · have z := hj j (by simpa using h1) (by simpa using h2)
          simpa using z
        · have hl' : bs.length = its.length := by rw [hl]; omega
          have hz' : (its.length == its'.length) = true := by simpa using hz
          rw [hz', Bool.and_true] at hb
          rw [List.size_toArray, ← hl', all_range, hb]
      · rw [if_neg hn] at ev
        cases ev
        exact SeqAt.RcAt.lists_lengths p.isList p'.isList (by simp only [List.size_toArray, bne_iff_ne, ne_eq]; omega) (by omega) X.prog X.w X.xe (EP X pins σ Q) (fin _ rfl)
    | dict _ => cases ev
    | ref _ => cases ev
    | _ => exact zero ev
  | tup ds =>
    cases dy with
    | tup es =>
      rw [vdep] at hd
      obtain ⟨a, vs, rfl, q1, t1⟩ := r1
      obtain ⟨a', us, rfl, q2, t2⟩ := r2
      cases rx; cases ry
      obtain ⟨its, w1, p, _⟩ := I.tuple q1
      obtain ⟨its', w2, p', _⟩ := I.tuple q2
      rw [veq] at ev
      obtain ⟨bs, hb, hl, hj⟩ := veqs_in I ds es vs us its its' b X.A.in1 (by show X.A.units + 1 + _ < cLine; omega) t1 t2 w1 w2 ev
      refine SeqAt.rcIn_tuples (e := fun i => bs.getD i false) p p' (by omega) (fun j h1 h2 => ?_) (fin _ ?_)
      · have z := hj j (by simpa using h1) (by simpa using h2)
        simpa using z
      · rw [List.size_toArray, List.size_toArray, ← hl, all_range]; exact hb
    | dict _ => cases ev
    | ref _ => cases ev
    | _ => exact zero ev
  | dict ds =>
    cases dy with
    | dict es =>
      rw [vdep] at hd
      obtain ⟨a, vs, rfl, q1, t1⟩ := r1
      obtain ⟨a', us, rfl, q2, t2⟩ := r2
      cases rx; cases ry
      obtain ⟨_, ya, va, ra, da⟩ := dk_rd I.hok q1
      obtain ⟨_, yb, vb, rb, db⟩ := dk_rd I.hok q2
      have l1 := RepD.length t1
      have l2 := RepD.length t2
      have l3 : vs.length = va.length := Paired.length ra
      have l4 : us.length = vb.length := Paired.length rb
      rw [veq] at ev
      by_cases hn : ds.length = es.length
      · rw [if_pos hn] at ev
        have hits := veqd_in I es us vb t2 rb ds vs va b X.A.in1 (by show X.A.units + 1 + _ < cLine; omega) t1 ra ev
        refine PySem.W.keq_eqIn (knd := mixKind X.prog X.w) (r := b) ya yb da db (by omega) (fun _ => hits) (fin _ ?_)
        rw [show (va.length == vb.length) = true by simp; omega, Bool.true_and]
      · rw [if_neg hn] at ev
        cases ev
        exact PySem.W.keq_eqIn (knd := mixKind X.prog X.w) (r := false) ya yb da db (by omega) (fun z => absurd z (by omega)) (fin _ (by rw [Bool.and_false]))
    | _ => cases ev
  | none => exact zero (by cases dy <;> exact ev)
  | bool _ => exact zero (by cases dy <;> exact ev)
  | int _ => exact zero (by cases dy <;> exact ev)
  | str _ => exact zero (by cases dy <;> exact ev)
  | ref _ => cases dy <;> cases ev
end PV

/-! PvL: != , in, index, slices, chains. -/
namespace PV
open PySem PySem.Spec L2
open PySem.SeqAt (EqIn EqAt)

mutual
def toPy : Val → Option PyData
  | .none => some .none
  | .bool b => some (.bool b)
  | .int i => some (.int i)
  | .str x => some (.str x)
  | .tup ds => (toPys ds).map .tuple
  | .list ds => (toPys ds).map .list
  | _ => none
def toPys : List Val → Option (List PyData)
  | [] => some []
  | d :: ds => match toPy d, toPys ds with
    | some p, some ps => some (p :: ps)
    | _, _ => none
end
section
variable {K : PySem.W.Frag} {μ : List Addr} {H : Hp}
mutual
theorem dp_of : ∀ (d : Val) (v : V) (p : PyData), RepB K μ H d v → toPy d = some p → Dp K H v p
  | .none, v, p, r, h => by cases (show v = .non from r); cases h; exact .non
  | .bool b, v, p, r, h => by cases (show v = .bl b from r); cases h; exact .bl b
  | .int b, v, p, r, h => by cases (show v = .int b from r); cases h; exact .int b
  | .str b, v, p, r, h => by cases (show v = .str b from r); cases h; exact .str b
  | .tup ds, v, p, r, h => by
    obtain ⟨a, vs, rfl, q, t⟩ := r
    rw [toPy] at h
    cases e : toPys ds with
    | none => rw [e] at h; cases h
    | some ps => rw [e] at h; cases h; exact .tup q (dps_of ds vs ps t e)
  | .list ds, v, p, r, h => by
    obtain ⟨a, vs, rfl, q, t⟩ := r
    rw [toPy] at h
    cases e : toPys ds with
    | none => rw [e] at h; cases h
    | some ps => rw [e] at h; cases h; exact .lst q (dps_of ds vs ps t e)
  | .dict _, v, p, r, h => by cases h
  | .ref _, v, p, r, h => by cases h
theorem dps_of : ∀ (ds : List Val) (vs : List V) (ps : List PyData), Reps K μ H ds vs → toPys ds = some ps → DpAll K H vs ps
  | [], vs, ps, r, h => by cases (show vs = [] from r); cases h; exact .nil
  | d :: ds, vs, ps, r, h => by
    obtain ⟨v, t, rfl, q, r⟩ := r
    rw [toPys] at h
    cases e1 : toPy d with
    | none => rw [e1] at h; cases h
    | some p =>
      cases e2 : toPys ds with
      | none => rw [e1, e2] at h; cases h
      | some ps' => rw [e1, e2] at h; cases h; exact .cons (dp_of d v p q.b e1) (dps_of ds t ps' r e2)
end
end
def fNe (d e : Val) : Option RV := match veq0 d e with
  | some b => some (.sh (.bool (!b)))
  | none => match toPy d, toPy e with
    | some p, some q => if SeqAt.shaped p = true ∧ SeqAt.shaped q = true then some (.sh (.bool (!PyData.eqv p q))) else none
    | _, _ => none
theorem op_neV {X : Cx} {cl : Nat → Addr} (hu : RoomV X) : OpV X cl (compareOp .NotEq) fNe := by
  refine ⟨fun pins s σ H x y v u Q I rx ry ⟨μ, dx, dy, r, r1, r2, e, q⟩ => ?_⟩
  have hu : X.A.units + 100 < cLine := hu
  unfold fNe at e
  cases e0 : veq0 dx dy with
  | some b =>
    rw [e0] at e
    cases e
    exact veq0_ne I (by omega) r1 r2 rx ry e0 X.prog X.w X.xe (EP X pins σ Q) (fin_b I (q _ H (Ext.refl _) rfl))
  | none =>
    rw [e0] at e
    dsimp only at e
    cases e1 : toPy dx with
    | none => rw [e1] at e; cases e
    | some p =>
      cases e2 : toPy dy with
      | none => rw [e1, e2] at e; cases e
      | some p' =>
        rw [e1, e2] at e
        dsimp only at e
        split at e
        · rename_i hs
          cases e
          exact op_neD (by omega) pins s σ H x y v u Q I rx ry ⟨p, p', dp_of _ _ _ r1 e1, dp_of _ _ _ r2 e2, hs.1, hs.2, q _ H (Ext.refl _) rfl⟩
        · cases e

/-! ### in -/
def occ (x y : Str) : Bool := !(Builtin.Str.occurrences y x 0 y.length 1).isEmpty
def vin (x y : Val) : Option Bool := match y with
  | .list ds => if vdeps ds ≤ 60 then (vins x ds).map fun bs => bs.any id else none
  | .tup ds => if vdeps ds ≤ 60 then (vins x ds).map fun bs => bs.any id else none
  | .dict kvs => match x.key with
    | some _ => some (dget kvs x).isSome
    | none => none
  | .str t => match x with
    | .str c => some (occ c t)
    | _ => none
  | _ => none
def fIn (neg : Bool) (x y : Val) : Option RV := oB ((vin x y).map fun b => if neg then !b else b)
theorem dget_rel {K : PySem.W.Frag} {μ : List Addr} {H : Hp} {k : Val} {κ : Key} {ds : List (Val × Val)} {kvs : List (Key × V)} (hk : k.key = some κ) (r : RepD K μ H ds kvs) : (valV kvs κ).isSome = (dget ds k).isSome := by
  rcases r.val hk with ⟨h1, h2⟩ | ⟨d, v, h1, h2, _⟩
  · rw [h1, h2]; rfl
  · rw [h1, h2]; rfl
theorem key_repB {K : PySem.W.Frag} {μ : List Addr} {H : Hp} {d : Val} {κ : Key} {v : V} (h : d.key = some κ) (r : RepB K μ H d v) : v = kV κ := by
  cases d with
  | int i => cases h; exact r
  | str x => cases h; exact r
  | _ => cases h
theorem op_inN {X : Cx} {cl : Nat → Addr} (hu : RoomV X) (neg : Bool) : OpV X cl (compareOp (if neg then .NotIn else .In)) (fIn neg) := by
  refine ⟨fun pins s σ H x y v u Q I rx ry ⟨μ, dx, dy, r, r1, r2, e, q⟩ => ?_⟩
  have hu : X.A.units + 100 < cLine := hu
  unfold fIn at e
  cases ev : vin dx dy with
  | none => rw [ev] at e; cases e
  | some b =>
  rw [ev] at e
  cases e
  have fin : ∀ b', b' = b → EP X pins σ Q (.bool (if neg = true then !b' else b')) s := fun b' z => by subst z; exact fin_b I (q _ H (Ext.refl _) rfl)
  unfold vin at ev
  cases dy with
  | list ds =>
    dsimp only at ev
    split at ev
    · rename_i hd
      cases eb : vins dx ds with
      | none => rw [eb] at ev; cases ev
      | some bs =>
        rw [eb] at ev
        cases ev
        obtain ⟨a, vs, rfl, q1, t1⟩ := r2
        cases ry
        obtain ⟨its, w1, p, _⟩ := I.list q1
        obtain ⟨⟨cls, dd, data, sl⟩, ho, hc, n, hdt⟩ := id p.isList
        simp only at hc hdt
        subst hc hdt
        exact pvIn_run ⟨_, ho, rfl⟩ PySem.F.slot_list_contains PySem.F.entry_list_contains (PySem.F.args_list_contains_2 _ _) (pvIn_list a its.toArray n dd sl v bs)
          ⟨ho, by simpa using vins_run I (A := X.A.in1) r1 rx ds vs its bs (by show X.A.units + 1 + _ < cLine; omega) t1 w1 eb, _, rfl, fin _ rfl⟩
    · cases ev
  | tup ds =>
    dsimp only at ev
    split at ev
    · rename_i hd
      cases eb : vins dx ds with
      | none => rw [eb] at ev; cases ev
      | some bs =>
        rw [eb] at ev
        cases ev
        obtain ⟨a, vs, rfl, q1, t1⟩ := r2
        cases ry
        obtain ⟨its, w1, p, _⟩ := I.tuple q1
        obtain ⟨⟨cls, dd, data, sl⟩, ho, hc, n, hdt⟩ := id p
        simp only at hc hdt
        subst hc hdt
        exact pvIn_run ⟨_, ho, rfl⟩ PySem.F.slot_tuple_contains PySem.F.entry_tuple_contains (PySem.F.args_tuple_contains_2 _ _) (pvIn_tuple a its.toArray n dd sl v bs)
          ⟨ho, by simpa using vins_run I (A := X.A.in1) r1 rx ds vs its bs (by show X.A.units + 1 + _ < cLine; omega) t1 w1 eb, _, rfl, fin _ rfl⟩
    · cases ev
  | dict kvs =>
    dsimp only at ev
    cases ek : dx.key with
    | none => rw [ek] at ev; cases ev
    | some κ =>
      rw [ek] at ev
      cases ev
      obtain ⟨a, vs, rfl, q1, t1⟩ := r2
      cases ry
      have ex := key_repB ek r1
      subst ex
      have g : DGet H a (kV κ) (valV vs κ) := .inl ⟨vs, κ, q1, rfl, rfl⟩
      cases neg with
      | false => exact d_in (by omega) I g rx fun s3 I3 => ⟨.bl _, H, I3, rfl, by rw [dget_rel ek t1]; exact q _ H (Ext.refl _) rfl⟩
      | true => exact d_notIn (by omega) I g rx fun s3 I3 => ⟨.bl _, H, I3, rfl, by rw [dget_rel ek t1]; exact q _ H (Ext.refl _) rfl⟩
  | str t =>
    dsimp only at ev
    cases dx with
    | str c =>
      cases ev
      cases (show x = .str c from r1); cases (show y = .str t from r2)
      cases neg with
      | false => exact op_in_str pins s σ H _ _ v u Q I rx ry ⟨c, t, rfl, rfl, q _ H (Ext.refl _) rfl⟩
      | true => exact op_notin_str pins s σ H _ _ v u Q I rx ry ⟨c, t, rfl, rfl, q _ H (Ext.refl _) rfl⟩
    | _ => cases ev
  | _ => cases ev
theorem op_inV {X : Cx} {cl : Nat → Addr} (hu : RoomV X) : OpV X cl (compareOp .In) (fIn false) := op_inN hu false
theorem op_notinV {X : Cx} {cl : Nat → Addr} (hu : RoomV X) : OpV X cl (compareOp .NotIn) (fIn true) := op_inN hu true

/-! ### index -/
def oS : Option Val → Option RV
  | some d => some (.sh d)
  | none => none
def fIx : Val → Val → Option RV
  | .list ds, .int i => oS (atI ds i)
  | .tup ds, .int i => oS (atI ds i)
  | .str x, .int i => if x.length ≤ 16777216 then (atI x.cps.toList i).map fun c => .sh (.str ⟨#[c]⟩) else none
  | .dict kvs, k => match k.key with
    | some _ => oS (dget kvs k)
    | none => none
  | _, _ => none
theorem Reps.atI {K : PySem.W.Frag} {μ : List Addr} {H : Hp} {ds : List Val} {vs : List V} {i : Int} {d : Val} (r : Reps K μ H ds vs) (h : L2.atI ds i = some d) : ∃ v, L2.atI vs i = some v ∧ Rep K μ H d v := by
  unfold L2.atI at h ⊢
  rw [Reps.length r] at h
  cases e : ixN vs.length i with
  | none => rw [e] at h; cases h
  | some j =>
    rw [e] at h
    obtain ⟨v, h1, h2⟩ := Reps.get r (show ds[j]? = some d from h)
    exact ⟨v, h1, h2⟩
theorem ixV {X : Cx} {cl : Nat → Addr} (hu : RoomV X) : IxV X cl fIx := by
  refine ⟨fun value slice pins s σ H x y v u Q I rx ry ⟨μ, dx, dy, r, r1, r2, e, q⟩ hs => ?_⟩
  have hu : X.A.units + 100 < cLine := hu
  cases dx with
  | list ds =>
    cases dy with
    | int i =>
      obtain ⟨a, vs, rfl, q1, t1⟩ := r1
      cases (show y = .int i from r2)
      cases ed : atI ds i with
      | none => simp only [fIx, ed] at e; cases e
      | some d =>
        simp only [fIx, ed] at e
        cases e
        obtain ⟨z, e1, rz⟩ := t1.atI ed
        exact ix_list value slice pins s σ H _ _ v u Q I rx ry ⟨a, vs, i, z, rfl, rfl, q1, e1, q _ H (Ext.refl _) rz⟩ hs
    | _ => cases e
  | tup ds =>
    cases dy with
    | int i =>
      obtain ⟨a, vs, rfl, q1, t1⟩ := r1
      cases (show y = .int i from r2)
      cases ed : atI ds i with
      | none => simp only [fIx, ed] at e; cases e
      | some d =>
        simp only [fIx, ed] at e
        cases e
        obtain ⟨z, e1, rz⟩ := t1.atI ed
        exact ix_tup value slice pins s σ H _ _ v u Q I rx ry ⟨a, vs, i, z, rfl, rfl, q1, e1, q _ H (Ext.refl _) rz⟩ hs
    | _ => cases e
  | str c =>
    cases dy with
    | int i =>
      cases (show x = .str c from r1); cases (show y = .int i from r2)
      simp only [fIx] at e
      split at e
      · rename_i hz
        cases ed : atI c.cps.toList i with
        | none => rw [ed] at e; cases e
        | some d =>
          rw [ed] at e
          cases e
          exact ix_str value slice pins s σ H _ _ v u Q I rx ry ⟨c, i, d, rfl, rfl, by rw [sizeLine_eq]; exact hz, ed, q _ H (Ext.refl _) rfl⟩ hs
      · cases e
    | _ => cases e
  | dict kvs =>
    have e' : (match dy.key with | some _ => oS (dget kvs dy) | none => none) = some r := by cases dy <;> exact e
    cases ek : dy.key with
    | none => rw [ek] at e'; cases e'
    | some κ =>
      rw [ek] at e'
      obtain ⟨a, vs, rfl, q1, t1⟩ := r1
      have ey := key_repB ek r2
      subst ey
      cases rx
      rcases t1.val ek with ⟨z, _⟩ | ⟨d, w, h1, h2, rw'⟩
      · rw [z] at e'; cases e'
      · rw [h1] at e'
        cases e'
        have g : DGet H a (kV κ) (some w) := by rw [← h2]; exact .inl ⟨vs, κ, q1, rfl, rfl⟩
        exact PyProof.Rows.tail_any (dict_typeIs I g) PySem.F.slot_dict_getitem.lookup (d_getItem (by omega) I g ry fun w' s3 I3 rw2 => ⟨w, H, I3, rw2, q _ H (Ext.refl _) rw'⟩) hs
  | _ => cases e
end PV

/-! PvM: slices, chains, signs, stores by index, calls of what is built in. -/
namespace PV
open PySem PySem.Spec L2

/-! ### slices -/
def cutD (xs : List Val) (lo hi : Option Int) : List Val := (xs.drop (HT.sIx xs.length 0 lo)).take (HT.sIx xs.length xs.length hi - HT.sIx xs.length 0 lo)
section
variable {K : PySem.W.Frag} {μ : List Addr} {H : Hp}
theorem Reps.drop : ∀ (n : Nat) {ds : List Val} {vs : List V}, Reps K μ H ds vs → Reps K μ H (ds.drop n) (vs.drop n)
  | 0, _, _, r => r
  | n + 1, [], vs, r => by cases (show vs = [] from r); rfl
  | n + 1, d :: ds, vs, r => by obtain ⟨v, t, rfl, _, r⟩ := r; exact Reps.drop n r
theorem Reps.take : ∀ (n : Nat) {ds : List Val} {vs : List V}, Reps K μ H ds vs → Reps K μ H (ds.take n) (vs.take n)
  | 0, _, _, r => rfl
  | n + 1, [], vs, r => by cases (show vs = [] from r); rfl
  | n + 1, d :: ds, vs, r => by obtain ⟨v, t, rfl, q, r⟩ := r; exact ⟨v, _, rfl, q, Reps.take n r⟩
theorem Reps.reverse : ∀ {ds : List Val} {vs : List V}, Reps K μ H ds vs → Reps K μ H ds.reverse vs.reverse
  | [], vs, r => by cases (show vs = [] from r); rfl
  | d :: ds, vs, r => by
    obtain ⟨v, t, rfl, q, r⟩ := r
    rw [List.reverse_cons, List.reverse_cons]
    exact Reps.append (Reps.reverse r) ⟨v, [], rfl, q, rfl⟩
theorem Reps.cut {ds : List Val} {vs : List V} (r : Reps K μ H ds vs) (lo hi : Option Int) : Reps K μ H (cutD ds lo hi) (cutV vs lo hi) := by
  unfold cutD cutV
  rw [Reps.length r]
  exact (r.drop _).take _
end
def fSl (d : Val) (lo hi : Option Int) : Option RV := match d with
  | .list ds => some (.fr (.lst (cutD ds lo hi)))
  | .tup ds => some (.sh (.tup (cutD ds lo hi)))
  | .str z => if z.length ≤ 16777216 then some (.sh (.str (cutS z lo hi))) else none
  | _ => none
theorem slV {X : Cx} {cl : Nat → Addr} : SlR X fun x lo hi H Q => ∃ μ dx r, RepB X.K μ H dx x ∧ fSl dx lo hi = some r ∧ ∀ v H', Ext H H' → RNew X.K cl μ H H' r v → Q v H' := by
  intro pins s σ H x v vl vu lo hi sl Q I rx hs pl pu ⟨μ, dx, r, r1, e, q⟩
  cases dx with
  | list ds =>
    cases e
    obtain ⟨a, vs, rfl, q1, t1⟩ := r1
    exact sl_list pins s σ H _ v vl vu lo hi sl Q I rx hs pl pu ⟨a, vs, rfl, q1, fun p hn => q _ _ (Ext.new hn) (lst_new hn (t1.cut lo hi))⟩
  | tup ds =>
    cases e
    obtain ⟨a, vs, rfl, q1, t1⟩ := id r1
    refine sl_tupA pins s σ H _ v vl vu lo hi sl Q I rx hs pl pu ⟨a, vs, rfl, q1, fun hw => q _ H (Ext.refl _) ?_, fun _ p hn => q _ _ (Ext.new hn) (tup_new hn (t1.cut lo hi))⟩
    have ec : cutD ds lo hi = ds := by
      unfold cutD
      rw [Reps.length t1, hw.1, hw.2, List.drop_zero, ← Reps.length t1, Nat.sub_zero, List.take_length]
    rw [ec]
    exact r1
  | str z =>
    simp only [fSl] at e
    split at e
    · rename_i hz
      cases e
      cases (show x = .str z from r1)
      exact sl_str pins s σ H _ v vl vu lo hi sl Q I rx hs pl pu ⟨z, rfl, by rw [sizeLine_eq]; exact hz, q _ H (Ext.refl _) rfl⟩
    · cases e
  | _ => cases e
/-- a part of a slice: left out, or an int -/
structure SP (X : Cx) (cl : Nat → Addr) (W : WX) (e : Option Expr) (m : M (Option Int)) : Prop where
  po : PO X e fun σ H Q => ∃ G μ st, Rel X.K cl G μ H σ st ∧ Post X.K cl W G μ H σ (fun _ _ _ a b => a = b) Q (m st)
def asI : Val → M (Option Int)
  | .int i => ret (some i)
  | _ => stk
section
variable {X : Cx} {cl : Nat → Addr} {W : WX} {e : Expr} {lo hi : Option Expr} {m : M Val} {ml mh : M (Option Int)} {mo : M Opd} {pos p2 : Pos}
theorem sp_none : SP X cl W none (ret none) := by
  refine ⟨⟨fun pins s σ H Q I hw => po_none.run pins s σ H Q I ?_⟩⟩
  obtain ⟨G, μ, st, rel, hw⟩ := hw
  exact hw none H μ (List.prefix_refl _) (Mono.refl H) rel rfl
theorem sp_some (h : SV X cl W e m) : SP X cl W (some e) (bnd m asI) := by
  refine ⟨⟨fun pins s σ H Q I hw => (po_some h.pe).run pins s σ H Q I ?_⟩⟩
  obtain ⟨G, μ, st, rel, hw⟩ := hw
  refine ⟨G, μ, st, rel, (Post.split hw).imp (List.prefix_refl _) (Mono.refl H) fun v H1 ⟨μ1, x, st1, p1, m1, rel1, q1, hw1⟩ => ?_⟩
  cases x with
  | int i => cases (show v = .int i from q1); exact ⟨i, rfl, hw1 (some i) H1 μ1 (List.prefix_refl _) (Mono.refl _) rel1 rfl⟩
  | _ => exact hw1.elim
def mSl (mo : M Opd) (ml mh : M (Option Int)) : M RV := bnd mo fun x => bnd ml fun l => bnd mh fun h => k1 (fun d => fSl d l h) x
theorem se_slice (ho : SO X cl W e mo) (hl : SP X cl W lo ml) (hh : SP X cl W hi mh) : SE X cl W (.Subscript e (.Slice lo hi none p2) pos) (mSl mo ml mh) := by
  refine ⟨⟨fun pins s σ H Q I hw => (pe_slice (slV (cl := cl)) ho.pe hl.po hh.po).run pins s σ H Q I ?_⟩⟩
  obtain ⟨G, μ, st, rel, hw⟩ := hw
  refine ⟨G, μ, st, rel, (Post.split hw).imp (List.prefix_refl _) (Mono.refl H) fun v H1 ⟨μ1, x, st1, p1, m1, rel1, q1, hw1⟩ => ?_⟩
  refine ⟨G, μ1, st1, rel1, (Post.split hw1).imp (List.prefix_refl _) (Mono.refl H1) fun l H2 ⟨μ2, l', st2, p2, m2, rel2, q2, hw2⟩ => ?_⟩
  subst q2
  refine ⟨G, μ2, st2, rel2, (Post.split hw2).imp (List.prefix_refl _) (Mono.refl H2) fun h H3 ⟨μ3, h', st3, p3, m3, rel3, q3, hw3⟩ => ?_⟩
  subst q3
  exact k1_post rel3 hw3 ((q1.mono p2 m2 (st' := st2)).mono p3 m3)
def fRev : Val → Option RV
  | .list ds => some (.fr (.lst ds.reverse))
  | _ => none
theorem se_rev {k : Nat} {q1 q2 q3 : Pos} (ho : SO X cl W e mo) : SE X cl W (.Subscript e (.Slice none none (some (.UnaryOp .USub (.Constant (.int 1) k q1) q2)) q3) pos) (app1 fRev mo) := by
  refine ⟨⟨fun pins s σ H Q I hw => (pe_revL ho.pe).run pins s σ H Q I ?_⟩⟩
  obtain ⟨G, μ, st, rel, hw⟩ := hw
  refine ⟨G, μ, st, rel, (Post.split hw).imp (List.prefix_refl _) (Mono.refl H) fun v H1 ⟨μ1, x, st1, p1, m1, rel1, q1, hw1⟩ => ?_⟩
  obtain ⟨μ', dx, r, r1, er, q⟩ := k1_post rel1 hw1 q1
  cases dx with
  | list ds =>
    cases er
    obtain ⟨a, vs, rfl, h1, t1⟩ := r1
    exact ⟨a, vs, rfl, h1, fun p hn => q _ _ (Ext.new hn) (lst_new hn t1.reverse)⟩
  | _ => cases er

/-! ### -x -/
def fNeg : Val → Option RV
  | .int i => some (.sh (.int (-i)))
  | _ => none
theorem se_neg (ho : SO X cl W e mo) : SE X cl W (.UnaryOp .USub e pos) (app1 fNeg mo) := by
  refine ⟨⟨fun pins s σ H Q I hw => (pe_un un_neg ho.pe).run pins s σ H Q I ?_⟩⟩
  obtain ⟨G, μ, st, rel, hw⟩ := hw
  refine ⟨G, μ, st, rel, (Post.split hw).imp (List.prefix_refl _) (Mono.refl H) fun v H1 ⟨μ1, x, st1, p1, m1, rel1, q1, hw1⟩ => ?_⟩
  obtain ⟨μ', dx, r, r1, er, q⟩ := k1_post rel1 hw1 q1
  cases dx with
  | int i => cases er; cases (show v = .int i from r1); exact ⟨i, rfl, q _ H1 (Ext.refl _) rfl⟩
  | _ => cases er

/-! ### a op b op c -/
def asRB : Option RV → Option Bool
  | some (.sh (.bool b)) => some b
  | _ => none
def mChain (f g : Val → Val → Option RV) (ma mb mc : M Opd) : M Bool := bnd ma fun x => bnd mb fun y => bnd (bnd (k2 f x y) asB') fun b => if b = true then bnd mc fun z => bnd (k2 g y z) asB' else ret false
section
variable {a b c : Expr} {op op' : CmpOp} {f g : Val → Val → Option RV} {ma mb mc : M Opd}
theorem chain_t (ho : OpV X cl (compareOp op) f) (ho' : OpV X cl (compareOp op') g) {σ : L2.St} {H : Hp} {Q : Bool → Hp → Prop} (hw : tST X cl W (mChain f g ma mb mc) σ H Q) :
    tChain (fun x y H Q => ∃ μ dx dy r, RepB X.K μ H dx x ∧ RepB X.K μ H dy y ∧ f dx dy = some r ∧ ∀ v H', Ext H H' → RNew X.K cl μ H H' r v → Q v H')
      (fun x y H Q => ∃ μ dx dy r, RepB X.K μ H dx x ∧ RepB X.K μ H dy y ∧ g dx dy = some r ∧ ∀ v H', Ext H H' → RNew X.K cl μ H H' r v → Q v H')
      (fun σ H Q => ∃ G μ st, Rel X.K cl G μ H σ st ∧ Post X.K cl W G μ H σ (ROp X.K σ) Q (ma st)) (fun σ H Q => ∃ G μ st, Rel X.K cl G μ H σ st ∧ Post X.K cl W G μ H σ (ROp X.K σ) Q (mb st))
      (fun σ H Q => ∃ G μ st, Rel X.K cl G μ H σ st ∧ Post X.K cl W G μ H σ (ROp X.K σ) Q (mc st)) σ H fun v H' => ∃ k, v = .bl k ∧ Q k H' := by
  obtain ⟨G, μ, st, rel, hw⟩ := hw
  refine ⟨G, μ, st, rel, (Post.split hw).imp (List.prefix_refl _) (Mono.refl H) fun v H1 ⟨μ1, x, st1, p1, m1, rel1, q1, hw1⟩ => ?_⟩
  refine ⟨G, μ1, st1, rel1, (Post.split hw1).imp (List.prefix_refl _) (Mono.refl H1) fun u H2 ⟨μ2, y, st2, p2, m2, rel2, q2, hw2⟩ => ?_⟩
  have hw3 := Post.split (R1 := fun _ _ _ a (b : Bool) => a = b) hw2
  refine k2_post (Q := fun z H3 => ∃ k, z = V.bl k ∧ (if k = true then _ else _)) (G := G) (W := W) (cl := cl) (σ := σ) rel2 ?_ (q1.mono p2 m2) q2
  refine (Post.split hw3).imp (List.prefix_refl _) (Mono.refl H2) fun z H3 ⟨μ3, r, st3, p3, m3, rel3, q3, hw4⟩ => ?_
  cases r with
  | fr o => exact hw4.elim
  | sh d =>
    cases d with
    | bool k =>
      cases (show z = .bl k from q3)
      refine ⟨k, rfl, ?_⟩
      obtain ⟨μ4, k', st4, p4, m4, rel4, rfl, hw5⟩ := hw4 k H3 μ3 (List.prefix_refl _) (Mono.refl _) rel3 rfl
      cases k' with
      | false =>
        rw [if_neg Bool.false_ne_true]
        exact ⟨false, rfl, hw5 false H3 μ4 (List.prefix_refl _) (Mono.refl _) rel4 rfl⟩
      | true =>
        rw [if_pos rfl]
        refine ⟨G, μ4, st4, rel4, (Post.split hw5).imp (List.prefix_refl _) (Mono.refl _) fun w H5 ⟨μ5, z5, st5, p5, m5, rel5, q5, hw6⟩ => ?_⟩
        refine k2_post (G := G) (W := W) (cl := cl) (σ := σ) rel5 ?_ ((q2.mono p4 m4 (st' := st4)).mono p5 m5) q5
        refine (Post.split hw6).imp (List.prefix_refl _) (Mono.refl _) fun z H6 ⟨μ6, r, st6, p6, m6, rel6, q6, hw7⟩ => ?_
        cases r with
        | fr o => exact hw7.elim
        | sh d =>
          cases d with
          | bool k => cases (show z = .bl k from q6); exact ⟨k, rfl, hw7 k H6 μ6 (List.prefix_refl _) (Mono.refl _) rel6 rfl⟩
          | _ => exact hw7.elim
    | _ => exact hw4.elim
theorem st_chain (ho : OpV X cl (compareOp op) f) (ho' : OpV X cl (compareOp op') g) (ha : SO X cl W a ma) (hb : SO X cl W b mb) (hc : SO X cl W c mc)
    (hm : lastMarks [op, op'] [b, c] = false := by with_unfolding_all rfl) : ST X cl W (.Compare a [op, op'] [b, c] pos) (mChain f g ma mb mc) :=
  ⟨⟨fun pins s σ H Q I hw => (pt_chain ho.run ho'.run ha.pe hb.pe hc.pe hm).run pins s σ H Q I (chain_t ho ho' hw)⟩⟩
theorem sv_chain (ho : OpV X cl (compareOp op) f) (ho' : OpV X cl (compareOp op') g) (ha : SO X cl W a ma) (hb : SO X cl W b mb) (hc : SO X cl W c mc)
    (hm : lastMarks [op, op'] [b, c] = false := by with_unfolding_all rfl) : SV X cl W (.Compare a [op, op'] [b, c] pos) (bnd (mChain f g ma mb mc) fun b => ret (.bool b)) := by
  refine ⟨⟨fun pins s σ H Q I hw => (pe_chain ho.run ho'.run ha.pe hb.pe hc.pe hm).run pins s σ H Q I ?_⟩⟩
  have hw' : tST X cl W (mChain f g ma mb mc) σ H fun k H' => Q (.bl k) H' := by
    obtain ⟨G, μ, st, rel, hw⟩ := hw
    refine ⟨G, μ, st, rel, (Post.split hw).imp (List.prefix_refl _) (Mono.refl H) fun v H1 ⟨μ1, x, st1, p1, m1, rel1, q1, hw1⟩ => ?_⟩
    subst q1
    exact hw1 _ H1 μ1 (List.prefix_refl _) (Mono.refl _) rel1 rfl
  have z := chain_t ho ho' hw'
  obtain ⟨G, μ, st, rel, z⟩ := z
  refine ⟨G, μ, st, rel, z.imp (List.prefix_refl _) (Mono.refl H) fun v H1 ⟨G1, μ1, st1, rel1, z1⟩ => ⟨G1, μ1, st1, rel1, z1.imp (List.prefix_refl _) (Mono.refl H1) fun u H2 ⟨μ2, dx, dy, r, r1, r2, er, z2⟩ => ⟨μ2, dx, dy, r, r1, r2, er, fun w H3 ex rn => ?_⟩⟩⟩
  obtain ⟨k, ek, z3⟩ := z2 w H3 ex rn
  refine ⟨k, ek, ?_⟩
  cases k with
  | false =>
    rw [if_neg Bool.false_ne_true] at z3 ⊢
    obtain ⟨k', e', z4⟩ := z3
    cases e'
    exact z4
  | true =>
    rw [if_pos rfl] at z3 ⊢
    obtain ⟨G4, μ4, st4, rel4, z4⟩ := z3
    refine ⟨G4, μ4, st4, rel4, z4.imp (List.prefix_refl _) (Mono.refl H3) fun w' H5 ⟨μ5, dx, dy, r, r1, r2, er, z5⟩ => ⟨μ5, dx, dy, r, r1, r2, er, fun w6 H6 ex6 rn6 => ?_⟩⟩
    obtain ⟨k', e', z6⟩ := z5 w6 H6 ex6 rn6
    subst e'
    exact z6
end
end
end PV

/-! PvN: sorting, calls of what is built in. -/
namespace PV
open PySem PySem.Spec L2

/-! ### sorting -/
section
variable {α : Type} (le : α → α → Bool)
def insB (x : α) : List α → List α
  | [] => [x]
  | y :: r => if le x y = true then x :: y :: r else y :: insB x r
def srtB : List α → List α
  | [] => []
  | x :: r => insB le x (srtB r)
variable {le}
theorem insB_perm (x : α) : ∀ l : List α, (insB le x l).Perm (x :: l)
  | [] => .refl _
  | y :: r => by
    unfold insB
    split
    · exact .refl _
    · exact ((insB_perm x r).cons y).trans (.swap x y r)
theorem srtB_perm : ∀ l : List α, (srtB le l).Perm l
  | [] => .refl _
  | x :: r => (insB_perm x _).trans ((srtB_perm r).cons x)
theorem insB_sorted (tot : ∀ a b, le a b = false → le b a = true) (tr : ∀ a b c, le a b = true → le b c = true → le a c = true) (x : α) : ∀ l : List α, l.Pairwise (fun a b => le a b = true) → (insB le x l).Pairwise (fun a b => le a b = true)
  | [], _ => by simp [insB]
  | y :: r, h => by
    unfold insB
    rw [List.pairwise_cons] at h
    split
    · rename_i hxy
      rw [List.pairwise_cons]
      refine ⟨fun z hz => ?_, List.pairwise_cons.mpr h⟩
      rcases List.mem_cons.mp hz with e | hz
      · rw [e]; exact hxy
      · exact tr x y z hxy (h.1 z hz)
    · rename_i hxy
      rw [List.pairwise_cons]
      refine ⟨fun z hz => ?_, insB_sorted tot tr x r h.2⟩
      rcases List.mem_cons.mp ((insB_perm x r).mem_iff.mp hz) with e | hz
      · rw [e]; exact tot x y (by simpa using hxy)
      · exact h.1 z hz
theorem srtB_sorted (tot : ∀ a b, le a b = false → le b a = true) (tr : ∀ a b c, le a b = true → le b c = true → le a c = true) : ∀ l : List α, (srtB le l).Pairwise (fun a b => le a b = true)
  | [] => .nil
  | x :: r => insB_sorted tot tr x _ (srtB_sorted tot tr r)
theorem srtB_eq (tot : ∀ a b, le a b = false → le b a = true) (tr : ∀ a b c, le a b = true → le b c = true → le a c = true) (as : ∀ a b, le a b = true → le b a = true → a = b) {xs ys : List α} (p : ys.Perm xs) (s : ys.Pairwise fun a b => le a b = true) : ys = srtB le xs :=
  List.Perm.eq_of_pairwise (fun a b _ _ => as a b) s (srtB_sorted tot tr xs) (p.trans (srtB_perm xs).symm)
end
def leL (a b : List Nat) : Bool := !ltCps b a
theorem leL_cons {a b : Nat} {r t : List Nat} : leL (a :: r) (b :: t) = true ↔ a < b ∨ (a = b ∧ leL r t = true) := by
  unfold leL
  simp only [ltCps, Bool.not_eq_true', Bool.or_eq_false_iff, decide_eq_false_iff_not, Bool.and_eq_false_iff, beq_eq_false_iff_ne]
  constructor
  · rintro ⟨h1, h2⟩
    by_cases e : a = b
    · rcases h2 with h2 | h2
      · exact absurd e.symm h2
      · exact .inr ⟨e, h2⟩
    · exact .inl (by omega)
  · rintro (h | ⟨rfl, h⟩)
    · exact ⟨by omega, .inl (by omega)⟩
    · exact ⟨by omega, .inr h⟩
theorem leL_nil (b : List Nat) : leL [] b = true := by cases b <;> simp [leL, ltCps]
theorem leL_nil' {a : Nat} {r : List Nat} : leL (a :: r) [] = false := by simp [leL, ltCps]
theorem leL_tot : ∀ a b : List Nat, leL a b = false → leL b a = true
  | [], b, h => by rw [leL_nil] at h; cases h
  | _ :: _, [], h => leL_nil _
  | a :: r, b :: t, h => by
    have h' : ¬ leL (a :: r) (b :: t) = true := by rw [h]; exact Bool.false_ne_true
    rw [leL_cons] at h' ⊢
    by_cases e : a = b
    · subst e
      refine .inr ⟨rfl, leL_tot r t ?_⟩
      cases z : leL r t with
      | false => rfl
      | true => exact absurd (.inr ⟨rfl, z⟩) h'
    · refine .inl ?_
      have : ¬ a < b := fun z => h' (.inl z)
      omega
theorem leL_as : ∀ a b : List Nat, leL a b = true → leL b a = true → a = b
  | [], [], _, _ => rfl
  | [], _ :: _, _, h => by rw [leL_nil'] at h; cases h
  | _ :: _, [], h, _ => by rw [leL_nil'] at h; cases h
  | a :: r, b :: t, h, h' => by
    rw [leL_cons] at h h'
    rcases h with h | ⟨rfl, h⟩
    · rcases h' with h' | ⟨e, _⟩ <;> omega
    · rcases h' with h' | ⟨_, h'⟩
      · omega
      · rw [leL_as r t h h']
theorem leL_tr : ∀ a b c : List Nat, leL a b = true → leL b c = true → leL a c = true
  | [], _, c, _, _ => leL_nil c
  | _ :: _, [], _, h, _ => by rw [leL_nil'] at h; cases h
  | _ :: _, _ :: _, [], _, h => by rw [leL_nil'] at h; cases h
  | a :: r, b :: t, c :: u, h, h' => by
    rw [leL_cons] at h h' ⊢
    rcases h with h | ⟨rfl, h⟩
    · rcases h' with h' | ⟨rfl, _⟩
      · exact .inl (by omega)
      · exact .inl h
    · rcases h' with h' | ⟨rfl, h'⟩
      · exact .inl h'
      · exact .inr ⟨rfl, leL_tr r t u h h'⟩
def leS (a b : Str) : Bool := leL a.cps.toList b.cps.toList
theorem leS_as (a b : Str) (h : leS a b = true) (h' : leS b a = true) : a = b := by
  have := leL_as _ _ h h'
  cases a; cases b
  simpa using this
theorem rising_pw : ∀ (l : List Str) (p : Str), PyProof.Rows.risingS p l = true → (p :: l).Pairwise fun a b => leS a b = true
  | [], p, _ => by simp
  | x :: r, p, h => by
    simp only [PyProof.Rows.risingS, Bool.and_eq_true] at h
    have ih := rising_pw r x h.2
    have h1 : leS p x = true := h.1
    rw [List.pairwise_cons]
    refine ⟨fun z hz => ?_, ih⟩
    rcases List.mem_cons.mp hz with e | hz
    · rw [e]; exact h1
    · exact leL_tr _ _ _ h1 ((List.pairwise_cons.mp ih).1 z hz)
theorem sortedS_eq {xs ys : List Str} (p : ys.Perm xs) (h : PyProof.Rows.sortedS ys = true) : ys = srtB leS xs := by
  refine srtB_eq (le := leS) (fun a b => leL_tot _ _) (fun a b c => leL_tr _ _ _) leS_as p ?_
  cases ys with
  | nil => exact .nil
  | cons y r => exact rising_pw r y h
def leI (a b : Int) : Bool := decide (a ≤ b)
theorem sortedI_eq {xs ys : List Int} (p : ys.Perm xs) (h : ys.Pairwise (· ≤ ·)) : ys = srtB leI xs := by
  refine srtB_eq (le := leI) (fun a b => ?_) (fun a b c => ?_) (fun a b => ?_) p (h.imp fun z => by simpa [leI] using z)
  · simp [leI]; omega
  · simp [leI]; omega
  · simp [leI]; omega

/-! ### calls -/
def strsOf : List Val → Option (List Str)
  | [] => some []
  | .str x :: r => (strsOf r).map (x :: ·)
  | _ => none
def intsOf : List Val → Option (List Int)
  | [] => some []
  | .int x :: r => (intsOf r).map (x :: ·)
  | _ => none
def blsOf : List Val → Option (List Bool)
  | [] => some []
  | .bool x :: r => (blsOf r).map (x :: ·)
  | _ => none
section
variable {K : PySem.W.Frag} {μ : List Addr} {H : Hp}
theorem strs_rep : ∀ {ds : List Val} {vs : List V} {xs : List Str}, strsOf ds = some xs → Reps K μ H ds vs → vs = xs.map V.str
  | [], vs, xs, h, r => by cases h; cases (show vs = [] from r); rfl
  | d :: ds, vs, xs, h, r => by
    obtain ⟨v, t, rfl, q, r⟩ := r
    cases d with
    | str x =>
      simp only [strsOf] at h
      cases e : strsOf ds with
      | none => rw [e] at h; cases h
      | some ys => rw [e] at h; cases h; cases (show v = .str x from q); rw [strs_rep e r]; rfl
    | _ => cases h
theorem ints_rep : ∀ {ds : List Val} {vs : List V} {xs : List Int}, intsOf ds = some xs → Reps K μ H ds vs → vs = xs.map V.int
  | [], vs, xs, h, r => by cases h; cases (show vs = [] from r); rfl
  | d :: ds, vs, xs, h, r => by
    obtain ⟨v, t, rfl, q, r⟩ := r
    cases d with
    | int x =>
      simp only [intsOf] at h
      cases e : intsOf ds with
      | none => rw [e] at h; cases h
      | some ys => rw [e] at h; cases h; cases (show v = .int x from q); rw [ints_rep e r]; rfl
    | _ => cases h
theorem bls_rep : ∀ {ds : List Val} {vs : List V} {xs : List Bool}, blsOf ds = some xs → Reps K μ H ds vs → vs = xs.map V.bl
  | [], vs, xs, h, r => by cases h; cases (show vs = [] from r); rfl
  | d :: ds, vs, xs, h, r => by
    obtain ⟨v, t, rfl, q, r⟩ := r
    cases d with
    | bool x =>
      simp only [blsOf] at h
      cases e : blsOf ds with
      | none => rw [e] at h; cases h
      | some ys => rw [e] at h; cases h; cases (show v = .bl x from q); rw [bls_rep e r]; rfl
    | _ => cases h
theorem rep_strs : ∀ (xs : List Str), Reps K μ H (xs.map Val.str) (xs.map V.str)
  | [] => rfl
  | x :: r => ⟨_, _, rfl, rfl, rep_strs r⟩
theorem rep_ints : ∀ (xs : List Int), Reps K μ H (xs.map Val.int) (xs.map V.int)
  | [] => rfl
  | x :: r => ⟨_, _, rfl, rfl, rep_ints r⟩
theorem repD_strs : ∀ {ds : List (Val × Val)} {kvs : List (Key × V)} {xs : List Str}, strsOf (ds.map (·.1)) = some xs → RepD K μ H ds kvs → kvs.map (·.1) = xs.map Sum.inr
  | [], kvs, xs, h, r => by cases h; cases (show kvs = [] from r); rfl
  | (k, d) :: ds, kvs, xs, h, r => by
    obtain ⟨κ, v, t, rfl, ek, q, r⟩ := r
    rw [List.map_cons] at h
    cases k with
    | str x =>
      simp only [strsOf] at h
      cases e : strsOf (ds.map (·.1)) with
      | none => rw [e] at h; cases h
      | some ys => rw [e] at h; cases h; cases ek; rw [List.map_cons, List.map_cons, repD_strs e r]
    | _ => cases h
theorem repD_keys : ∀ {ds : List (Val × Val)} {kvs : List (Key × V)}, RepD K μ H ds kvs → Reps K μ H (ds.map (·.1)) (kvs.map fun kv => kV kv.1)
  | [], kvs, r => by cases (show kvs = [] from r); rfl
  | (k, d) :: ds, kvs, r => by
    obtain ⟨κ, v, t, rfl, ek, q, r⟩ := r
    exact ⟨_, _, rfl, key_rep ek, repD_keys r⟩
end

def resAll (st : State) : List Opd → Option (List Val)
  | [] => some []
  | x :: r => match res st x, resAll st r with
    | some d, some ds => some (d :: ds)
    | _, _ => none
def kN (f : List Val → Option RV) (xs : List Opd) : M RV := fun st => match resAll st xs with
  | some ds => match f ds with
    | some r => .ok r st
    | none => .stuck
  | none => .stuck
def appN (f : List Val → Option RV) (ms : M (List Opd)) : M RV := bnd ms fun xs => kN f xs
theorem resAll_b {K : PySem.W.Frag} {cl : Nat → Addr} {G H : Hp} {μ : List Addr} {σ : L2.St} {st : State} (rel : Rel K cl G μ H σ st) : ∀ {xs : List Opd} {vs : List V} {ds : List Val}, Paired (ROp K σ μ H st) xs vs → resAll st xs = some ds → RepBs K μ H ds vs
  | _, _, ds, .nil, h => by cases h; rfl
  | x :: xs, v :: vs, ds, .cons r t, h => by
    rw [resAll] at h
    cases e1 : res st x with
    | none => rw [e1] at h; cases h
    | some d =>
      cases e2 : resAll st xs with
      | none => rw [e1, e2] at h; cases h
      | some es => rw [e1, e2] at h; cases h; exact ⟨v, vs, rfl, res_b rel r e1, resAll_b rel t e2⟩
section
variable {X : Cx} {cl : Nat → Addr} {W : WX} {e : Expr} {es : List Expr} {x : Str} {id T : String} {f : List Val → Option RV} {ms : M (List Opd)} {p pos : Pos}
theorem callN_post {G H : Hp} {μ : List Addr} {σ : L2.St} {st : State} {Q : VK} (rel : Rel X.K cl G μ H σ st) (hw : Post X.K cl W G μ H σ (RRV X.K cl G σ) Q (appN f ms st)) :
    Post X.K cl W G μ H σ (fun μ H st d v => Paired (ROp X.K σ μ H st) d v) (fun vs H => ∃ μ ds r, RepBs X.K μ H ds vs ∧ f ds = some r ∧ ∀ v H', Ext H H' → RNew X.K cl μ H H' r v → Q v H') (ms st) := by
  refine (Post.split hw).imp (List.prefix_refl _) (Mono.refl H) fun vs H1 ⟨μ1, xs, st1, p1, m1, rel1, q1, hw1⟩ => ?_
  unfold kN at hw1
  cases e1 : resAll st1 xs with
  | none => rw [e1] at hw1; exact hw1.elim
  | some ds =>
    rw [e1] at hw1
    dsimp only at hw1
    cases e3 : f ds with
    | none => rw [e3] at hw1; exact hw1.elim
    | some r =>
      rw [e3] at hw1
      exact ⟨μ1, ds, r, resAll_b rel1 q1 e1, e3, fun v H' e q => hw1 v H' μ1 (List.prefix_refl _) e.mono (rel1.ext e) (q.rrv rel1)⟩
theorem se_callB (hc : CallV X cl (.builtin id) f) (hg : Gl X x) (hm : X.mg x = none) (hv : bootBuiltins x = some (.builtin id)) (ha : SOs X cl W (e :: es) ms) (hn : x ≠ "__name__" := by decide) (hdb : (x == ("__debug__" : Str)) = false := by decide)
    (he : starEach (e :: es) X.env = (false, eval e X.env) :: starEach es X.env := by rfl) (hpl : (backTo pos (starEach es X.env)).any (·.1) = false := by rfl) : SE X cl W (.Call (.Name x p) (e :: es) [] pos) (appN f ms) :=
  ⟨⟨fun pins s σ H Q I hw => (pe_callB hc.run hg hm hv ha.pa hn hdb he hpl).run pins s σ H Q I (let ⟨G, μ, st, rel, h⟩ := hw; ⟨G, μ, st, rel, callN_post rel h⟩)⟩⟩
theorem se_callT (hc : CallV X cl (.type T) f) (hg : Gl X x) (hm : X.mg x = none) (hv : bootBuiltins x = some (.type T)) (ha : SOs X cl W (e :: es) ms) (hn : x ≠ "__name__" := by decide) (hdb : (x == ("__debug__" : Str)) = false := by decide)
    (he : starEach (e :: es) X.env = (false, eval e X.env) :: starEach es X.env := by rfl) (hpl : (backTo pos (starEach es X.env)).any (·.1) = false := by rfl) : SE X cl W (.Call (.Name x p) (e :: es) [] pos) (appN f ms) :=
  ⟨⟨fun pins s σ H Q I hw => (pe_callTy hc.run hg hm hv ha.pa hn hdb he hpl).run pins s σ H Q I (let ⟨G, μ, st, rel, h⟩ := hw; ⟨G, μ, st, rel, callN_post rel h⟩)⟩⟩
end

def fLen : List Val → Option RV
  | [.list ds] => some (.sh (.int ds.length))
  | [.tup ds] => some (.sh (.int ds.length))
  | [.dict ds] => some (.sh (.int ds.length))
  | [.str x] => if x.length ≤ 16777216 then some (.sh (.int x.length)) else none
  | _ => none
theorem one_of {K : PySem.W.Frag} {μ : List Addr} {H : Hp} {d : Val} {xs : List V} (r : RepBs K μ H [d] xs) : ∃ x, xs = [x] ∧ RepB K μ H d x := by
  obtain ⟨v, t, rfl, q, r⟩ := r
  cases (show t = [] from r)
  exact ⟨v, rfl, q⟩
section
variable {X : Cx} {cl : Nat → Addr}
theorem call_lenV : CallV X cl (.builtin "len") fLen := by
  refine ⟨fun pins s σ H xs us Q I rs ⟨μ, ds, r, rb, e, q⟩ => ?_⟩
  cases ds with
  | nil => cases e
  | cons d ds =>
    cases ds with
    | cons _ _ => cases d <;> cases e
    | nil =>
      obtain ⟨x, rfl, r1⟩ := one_of rb
      cases d with
      | list ds =>
        cases e
        obtain ⟨a, vs, rfl, h1, t1⟩ := r1
        rw [Reps.length t1] at q
        exact call_len_seq pins s σ H _ us Q I rs ⟨a, vs, rfl, .inl h1, q _ H (Ext.refl _) rfl⟩
      | tup ds =>
        cases e
        obtain ⟨a, vs, rfl, h1, t1⟩ := r1
        rw [Reps.length t1] at q
        exact call_len_seq pins s σ H _ us Q I rs ⟨a, vs, rfl, .inr h1, q _ H (Ext.refl _) rfl⟩
      | dict ds =>
        cases e
        obtain ⟨a, vs, rfl, h1, t1⟩ := r1
        rw [RepD.length t1] at q
        obtain ⟨u, rfl, rx⟩ := vals1 rs
        cases rx
        exact d_len I h1 fun t s' I' => ⟨.int vs.length, H, I', ⟨t, rfl⟩, q _ H (Ext.refl _) rfl⟩
      | str z =>
        simp only [fLen] at e
        split at e
        · rename_i hz
          cases e
          cases (show x = .str z from r1)
          exact call_len_str pins s σ H _ us Q I rs ⟨z, rfl, by rw [sizeLine_eq]; exact hz, q _ H (Ext.refl _) rfl⟩
        · cases e
      | _ => cases e
def fList : List Val → Option RV
  | [.list ds] => some (.fr (.lst ds))
  | [.tup ds] => some (.fr (.lst ds))
  | [.dict ds] => some (.fr (.lst (ds.map (·.1))))
  | _ => none
theorem call_listV (hc : X.calm = true) : CallV X cl (.type "list") fList := by
  refine ⟨fun pins s σ H xs us Q I rs ⟨μ, ds, r, rb, e, q⟩ => ?_⟩
  cases ds with
  | nil => cases e
  | cons d ds =>
    cases ds with
    | cons _ _ => cases d <;> cases e
    | nil =>
      obtain ⟨x, rfl, r1⟩ := one_of rb
      cases d with
      | list ds =>
        cases e
        obtain ⟨a, vs, rfl, h1, t1⟩ := r1
        exact call_list_of pins s σ H _ us Q I rs ⟨a, vs, rfl, .inl h1, fun l hl => q _ _ (Ext.new hl) (lst_new hl t1)⟩
      | tup ds =>
        cases e
        obtain ⟨a, vs, rfl, h1, t1⟩ := r1
        exact call_list_of pins s σ H _ us Q I rs ⟨a, vs, rfl, .inr h1, fun l hl => q _ _ (Ext.new hl) (lst_new hl t1)⟩
      | dict ds =>
        cases e
        obtain ⟨a, vs, rfl, h1, t1⟩ := r1
        exact call_listD hc pins s σ H _ us Q I rs ⟨a, vs, rfl, h1, fun l hl => q _ _ (Ext.new hl) (lst_new hl (repD_keys t1))⟩
      | _ => cases e
def fTuple : List Val → Option RV
  | [.list ds] => some (.sh (.tup ds))
  | [.tup ds] => some (.sh (.tup ds))
  | _ => none
theorem call_tupleV : CallV X cl (.type "tuple") fTuple := by
  refine ⟨fun pins s σ H xs us Q I rs ⟨μ, ds, r, rb, e, q⟩ => ?_⟩
  cases ds with
  | nil => cases e
  | cons d ds =>
    cases ds with
    | cons _ _ => cases d <;> cases e
    | nil =>
      obtain ⟨x, rfl, r1⟩ := one_of rb
      cases d with
      | list ds =>
        cases e
        obtain ⟨a, vs, rfl, h1, t1⟩ := r1
        exact call_tuple_of pins s σ H _ us Q I rs ⟨a, vs, rfl, .inl ⟨h1, fun l hl => q _ _ (Ext.new hl) (tup_new hl t1)⟩⟩
      | tup ds =>
        cases e
        obtain ⟨a, vs, rfl, h1, t1⟩ := id r1
        exact call_tuple_of pins s σ H _ us Q I rs ⟨a, vs, rfl, .inr ⟨h1, q _ H (Ext.refl _) r1⟩⟩
      | _ => cases e
def fInt : List Val → Option RV
  | [.int i] => some (.sh (.int i))
  | [.bool b] => some (.sh (.int (if b then 1 else 0)))
  | _ => none
theorem call_intV : CallV X cl (.type "int") fInt := by
  refine ⟨fun pins s σ H xs us Q I rs ⟨μ, ds, r, rb, e, q⟩ => ?_⟩
  cases ds with
  | nil => cases e
  | cons d ds =>
    cases ds with
    | cons _ _ => cases d <;> cases e
    | nil =>
      obtain ⟨x, rfl, r1⟩ := one_of rb
      cases d with
      | int i =>
        cases e
        cases (show x = .int i from r1)
        exact call_int1 pins s σ H _ us Q I rs (.inl ⟨i, rfl, q _ H (Ext.refl _) rfl⟩)
      | bool i =>
        cases e
        cases (show x = .bl i from r1)
        exact call_int1 pins s σ H _ us Q I rs (.inr ⟨i, rfl, q _ H (Ext.refl _) rfl⟩)
      | _ => cases e
def fAll : List Val → Option RV
  | [.list ds] => (blsOf ds).map fun bs => .sh (.bool (bs.all id))
  | _ => none
def fAny : List Val → Option RV
  | [.list ds] => (blsOf ds).map fun bs => .sh (.bool (bs.any id))
  | _ => none
theorem call_allV (hc : X.calm = true) : CallV X cl (.builtin "all") fAll := by
  refine ⟨fun pins s σ H xs us Q I rs ⟨μ, ds, r, rb, e, q⟩ => ?_⟩
  cases ds with
  | nil => cases e
  | cons d ds =>
    cases ds with
    | cons _ _ => cases d <;> cases e
    | nil =>
      obtain ⟨x, rfl, r1⟩ := one_of rb
      cases d with
      | list ds =>
        simp only [fAll] at e
        cases eb : blsOf ds with
        | none => rw [eb] at e; cases e
        | some bs =>
          rw [eb] at e
          cases e
          obtain ⟨a, vs, rfl, h1, t1⟩ := r1
          have ev := bls_rep eb t1
          subst ev
          exact cr_all hc pins s σ H _ us Q I rs ⟨a, bs, rfl, h1, q _ H (Ext.refl _) rfl⟩
      | _ => cases e
theorem call_anyV (hc : X.calm = true) : CallV X cl (.builtin "any") fAny := by
  refine ⟨fun pins s σ H xs us Q I rs ⟨μ, ds, r, rb, e, q⟩ => ?_⟩
  cases ds with
  | nil => cases e
  | cons d ds =>
    cases ds with
    | cons _ _ => cases d <;> cases e
    | nil =>
      obtain ⟨x, rfl, r1⟩ := one_of rb
      cases d with
      | list ds =>
        simp only [fAny] at e
        cases eb : blsOf ds with
        | none => rw [eb] at e; cases e
        | some bs =>
          rw [eb] at e
          cases e
          obtain ⟨a, vs, rfl, h1, t1⟩ := r1
          have ev := bls_rep eb t1
          subst ev
          exact cr_any hc pins s σ H _ us Q I rs ⟨a, bs, rfl, h1, q _ H (Ext.refl _) rfl⟩
      | _ => cases e
def srtV (ds : List Val) : Option RV := match strsOf ds with
  | some xs => if xs.length < 64 then some (.fr (.lst ((srtB leS xs).map .str))) else none
  | none => match intsOf ds with
    | some xs => if xs.length < 64 then some (.fr (.lst ((srtB leI xs).map .int))) else none
    | none => none
def fSorted : List Val → Option RV
  | [.list ds] => srtV ds
  | [.dict kvs] => match strsOf (kvs.map (·.1)) with
    | some xs => if xs.length < 64 then some (.fr (.lst ((srtB leS xs).map .str))) else none
    | none => none
  | _ => none
theorem call_sortedV (hc : X.calm = true) : CallV X cl (.builtin "sorted") fSorted := by
  refine ⟨fun pins s σ H xs us Q I rs ⟨μ, ds, r, rb, e, q⟩ => ?_⟩
  cases ds with
  | nil => cases e
  | cons d ds =>
    cases ds with
    | cons _ _ => cases d <;> cases e
    | nil =>
      obtain ⟨x, rfl, r1⟩ := one_of rb
      cases d with
      | list ds =>
        simp only [fSorted, srtV] at e
        obtain ⟨a, vs, rfl, h1, t1⟩ := r1
        cases es : strsOf ds with
        | some zs =>
          rw [es] at e
          dsimp only at e
          split at e
          · rename_i hz
            cases e
            have ev := strs_rep es t1
            subst ev
            refine cr_sortedS pins s σ H _ us Q I rs ⟨a, zs, rfl, h1, hz, fun ys p hp hs hn => ?_⟩
            have := sortedS_eq hp hs
            subst this
            exact q _ _ (Ext.new hn) (lst_new hn (rep_strs _))
          · cases e
        | none =>
          rw [es] at e
          dsimp only at e
          cases ei : intsOf ds with
          | none => rw [ei] at e; cases e
          | some zs =>
            rw [ei] at e
            dsimp only at e
            split at e
            · rename_i hz
              cases e
              have ev := ints_rep ei t1
              subst ev
              refine cr_sorted pins s σ H _ us Q I rs ⟨a, zs, rfl, h1, hz, fun ys p hp hs hn => ?_⟩
              have := sortedI_eq hp hs
              subst this
              exact q _ _ (Ext.new hn) (lst_new hn (rep_ints _))
            · cases e
      | dict kvs =>
        simp only [fSorted] at e
        obtain ⟨a, vs, rfl, h1, t1⟩ := r1
        cases es : strsOf (kvs.map (·.1)) with
        | none => rw [es] at e; cases e
        | some zs =>
          rw [es] at e
          dsimp only at e
          split at e
          · rename_i hz
            cases e
            refine call_sortedD hc pins s σ H _ us Q I rs ⟨a, vs, zs, rfl, h1, repD_strs es t1, hz, fun ys p hp hs hn => ?_⟩
            have := sortedS_eq hp hs
            subst this
            exact q _ _ (Ext.new hn) (lst_new hn (rep_strs _))
          · cases e
      | _ => cases e
end
end PV

/-! PvO: isinstance, dict(..), shared things, stores by index, pairs stored at once. -/
namespace PV
open PySem PySem.Spec L2

/-! ### a fresh thing is shared from now on -/
def toSto (r : RV) : M Val := fun st => match r with
  | .sh d => .ok d st
  | .fr o => .ok (.ref st.S.length) { st with S := st.S ++ [o] }
section
variable {X : Cx} {cl : Nat → Addr} {W : WX} {e : Expr}
theorem sv_sto {m : M RV} (h : SE X cl W e m) : SV X cl W e (bnd m toSto) := by
  refine ⟨⟨fun pins s σ H Q I hw => h.pe.run pins s σ H Q I ?_⟩⟩
  obtain ⟨G, μ, st, rel, hw⟩ := hw
  refine ⟨G, μ, st, rel, ?_⟩
  unfold bnd at hw
  cases em : m st with
  | stuck => rw [em] at hw; exact hw
  | exc C fs st' => rw [em] at hw; exact hw
  | ok r st' =>
    rw [em] at hw
    cases r with
    | sh d => exact fun v H' μ' p mo r q => hw v H' μ' p mo r q
    | fr o =>
      intro v H' μ' p mo r q
      obtain ⟨a, rfl, ob, g, n, no⟩ := q
      refine hw _ H' (μ' ++ [a]) (p.trans (List.prefix_append _ _)) mo (r.newSto ob g n no) ⟨a, rfl, ?_⟩
      rw [r.sto.len]; simp
end

/-! ### isinstance -/
inductive Ty where
  | bool | int | str | list | tuple | dict
  deriving DecidableEq
def Ty.nm : Ty → String
  | .bool => "bool" | .int => "int" | .str => "str" | .list => "list" | .tuple => "tuple" | .dict => "dict"
def tyN : Val → Option String
  | .none => some "NoneType" | .bool _ => some "bool" | .int _ => some "int" | .str _ => some "str" | .list _ => some "list" | .tup _ => some "tuple" | .dict _ => some "dict" | .ref _ => none
def isTy : Val → Ty → Option Bool
  | .ref _, _ => none
  | .bool _, .bool => some true
  | .bool _, .int => some true
  | .int _, .int => some true
  | .str _, .str => some true
  | .list _, .list => some true
  | .tup _, .tuple => some true
  | .dict _, .dict => some true
  | _, _ => some false
theorem isTy_kit {K : PySem.W.Frag} {d : Val} {T : Ty} {n : String} {b : Bool} (hn : tyN d = some n) (h : isTy d T = some b) : PySem.W.kitOne K (.type n) (.type T.nm) = some b := by
  refine kit_ty ?_
  cases d <;> cases T <;> first | (cases hn; done) | (cases hn; cases h; decide +kernel)
theorem tyN_x {K : PySem.W.Frag} {μ : List Addr} {H : Hp} {d : Val} {v : V} {n : String} (r : RepB K μ H d v) (hn : tyN d = some n) : TyX K H v (.type n) := by
  cases d with
  | none => cases hn; cases (show v = .non from r); exact .base .non
  | bool b => cases hn; cases (show v = .bl b from r); exact .base (.bl b)
  | int b => cases hn; cases (show v = .int b from r); exact .base (.int b)
  | str b => cases hn; cases (show v = .str b from r); exact .base (.str b)
  | list ds =>
    cases hn
    obtain ⟨a, vs, rfl, q, _⟩ := r
    rcases q with (q | ⟨o, q⟩) | ⟨o, its, n, h1, h2, _⟩
    · exact .base (.lst q)
    · exact .base (.frz q)
    · exact .kList h1 h2
  | tup ds =>
    cases hn
    obtain ⟨a, vs, rfl, q, _⟩ := r
    rcases q with (q | ⟨o, q⟩) | ⟨o, its, n, h1, h2, _⟩
    · exact .base (.tup q)
    · exact .fTuple q (o := o)
    · exact .kTuple h1 h2
  | dict ds =>
    cases hn
    obtain ⟨a, vs, rfl, q, _⟩ := r
    rcases q with q | ⟨o, q⟩
    · exact .base (.dK q)
    · exact .fDict q (o := o)
  | ref _ => cases hn
theorem isTy_n {d : Val} {T : Ty} {b : Bool} (h : isTy d T = some b) : ∃ n, tyN d = some n := by
  cases d with
  | ref _ => cases T <;> cases h
  | _ => exact ⟨_, rfl⟩
/-- several types: the first that fits -/
def isTys (d : Val) : List Ty → Option Bool
  | [] => match tyN d with
    | some _ => some false
    | none => none
  | T :: r => match isTy d T with
    | some true => some true
    | some false => isTys d r
    | none => none
theorem isTys_kit {K : PySem.W.Frag} {d : Val} {n : String} (hn : tyN d = some n) : ∀ {Ts : List Ty} {b : Bool}, isTys d Ts = some b → PySem.W.kitAny K (.type n) (Ts.map fun T => .type T.nm) = some b
  | [], b, h => by rw [isTys, hn] at h; cases h; rfl
  | T :: r, b, h => by
    rw [isTys] at h
    cases e : isTy d T with
    | none => rw [e] at h; cases h
    | some c =>
      rw [e] at h
      unfold PySem.W.kitAny
      rw [List.map_cons]
      dsimp only
      rw [isTy_kit hn e]
      cases c with
      | true => exact h
      | false => exact isTys_kit hn h
def fIsi (T : Ty) (d : Val) : Option RV := oB (isTy d T)
def fIsis (Ts : List Ty) (d : Val) : Option RV := oB (isTys d Ts)
section
variable {X : Cx} {cl : Nat → Addr} {W : WX} {e : Expr} {x : Str} {mo : M Opd} {p p1 p2 pos : Pos}
/-- a built-in type by its name -/
theorem pe_tyN {T : String} (hg : Gl X x) (hm : X.mg x = none) (hv : bootBuiltins x = some (.type T)) (hn : x ≠ "__name__" := by decide) (hdb : (x == ("__debug__" : Str)) = false := by decide) : PE X (.Name x pos) (tC (.ty T)) :=
  ⟨fun pins s σ H Q I h => ld_blt I hg hm hv ⟨.ty T, H, I, rfl, h⟩ hn hdb⟩
theorem se_isi {T : Ty} {f : Str} (hf : f = "isinstance") (hgf : Gl X f) (hmf : X.mg f = none) (hg : Gl X x) (hm : X.mg x = none) (hv : bootBuiltins x = some (.type T.nm)) (ho : SO X cl W e mo)
    (hn : x ≠ "__name__" := by decide) (hdb : (x == ("__debug__" : Str)) = false := by decide)
    (he : starEach [e, .Name x p1] X.env = (false, eval e X.env) :: starEach [.Name x p1] X.env := by rfl) : SE X cl W (.Call (.Name f p) [e, .Name x p1] [] pos) (app1 (fIsi T) mo) := by
  subst hf
  refine ⟨⟨fun pins s σ H Q I hw => (pe_callB (call_isi (X := X)) hgf hmf (by rfl) (pa_cons ho.pe (pa_cons (pe_tyN hg hm hv hn hdb) pa_nil) he) (he := he)).run pins s σ H Q I ?_⟩⟩
  obtain ⟨G, μ, st, rel, hw⟩ := hw
  refine ⟨G, μ, st, rel, (Post.split hw).imp (List.prefix_refl _) (Mono.refl H) fun v H1 ⟨μ1, x, st1, p1, m1, rel1, q1, hw1⟩ => ?_⟩
  obtain ⟨μ', dx, r, r1, er, q⟩ := k1_post rel1 hw1 q1
  unfold fIsi at er
  cases eb : isTy dx T with
  | none => rw [eb] at er; cases er
  | some b =>
    rw [eb] at er
    cases er
    obtain ⟨n, hn⟩ := isTy_n eb
    exact ⟨v, .ty T.nm, .type n, .type T.nm, b, rfl, .ty _, tyN_x r1 hn, isTy_kit hn eb, q _ H1 (Ext.refl _) rfl⟩
/-- the names of the types of a tuple -/
def TyNs (X : Cx) : List Expr → List Ty → Prop
  | [], [] => True
  | .Name x _ :: es, T :: Ts => (Gl X x ∧ X.mg x = none ∧ bootBuiltins x = some (.type T.nm) ∧ x ≠ "__name__" ∧ (x == ("__debug__" : Str)) = false) ∧ TyNs X es Ts
  | _, _ => False
theorem pa_tys : ∀ {es : List Expr} {Ts : List Ty}, TyNs X es Ts → PA X es fun σ H Q => Q (Ts.map fun T => V.ty T.nm) H
  | [], [], _ => ⟨fun pos pins s σ H Q I h => pa_nil.run pos pins s σ H Q I h⟩
  | .Name x q :: es, T :: Ts, h => by
    obtain ⟨⟨h1, h2, h3, h4, h5⟩, h6⟩ := h
    have z := pa_cons (pe_tyN (pos := q) h1 h2 h3 h4 h5) (pa_tys h6) rfl
    exact ⟨fun pos pins s σ H Q I h => z.run pos pins s σ H Q I h⟩
  | .Name _ _ :: _, [], h => h.elim
theorem cls_tys (Ts : List Ty) : Paired ClsV (Ts.map fun T => V.ty T.nm) (Ts.map fun T => Value.type T.nm) := by
  induction Ts with
  | nil => exact .nil
  | cons T r ih => exact .cons (.ty _) ih
theorem se_isis {es : List Expr} {Ts : List Ty} {f : Str} {k : Nat} (hf : f = "isinstance") (hgf : Gl X f) (hmf : X.mg f = none) (hT : TyNs X es Ts) (hl : Ts.length ≤ 1000) (ho : SO X cl W e mo)
    (he : starEach [e, .Tuple es k p1] X.env = (false, eval e X.env) :: starEach [.Tuple es k p1] X.env := by rfl) : SE X cl W (.Call (.Name f p) [e, .Tuple es k p1] [] pos) (app1 (fIsis Ts) mo) := by
  subst hf
  refine ⟨⟨fun pins s σ H Q I hw => (pe_callB (call_isiT (X := X)) hgf hmf (by rfl) (pa_cons ho.pe (pa_cons (pe_tup (pa_tys hT)) pa_nil) he) (he := he)).run pins s σ H Q I ?_⟩⟩
  obtain ⟨G, μ, st, rel, hw⟩ := hw
  refine ⟨G, μ, st, rel, (Post.split hw).imp (List.prefix_refl _) (Mono.refl H) fun v H1 ⟨μ1, x, st1, p1, m1, rel1, q1, hw1⟩ => ?_⟩
  obtain ⟨μ', dx, r, r1, er, q⟩ := k1_post rel1 hw1 q1
  refine ⟨by rw [List.length_map, sizeLine_eq]; omega, fun tp hn => ?_⟩
  unfold fIsis at er
  cases eb : isTys dx Ts with
  | none => rw [eb] at er; cases er
  | some b =>
    rw [eb] at er
    cases er
    have ex : Ext H1 (L2.upd H1 tp (.tup (Ts.map fun T => V.ty T.nm))) := Ext.new hn
    obtain ⟨n, hnn⟩ : ∃ n, tyN dx = some n := by
      cases Ts with
      | nil =>
        rw [isTys] at eb
        cases e : tyN dx with
        | none => rw [e] at eb; cases eb
        | some n => exact ⟨n, rfl⟩
      | cons T r =>
        rw [isTys] at eb
        cases e : isTy dx T with
        | none => rw [e] at eb; cases eb
        | some c => exact isTy_n e
    refine ⟨v, tp, _, .type n, _, b, rfl, upd_same, cls_tys Ts, ?_, isTys_kit hnn eb, q _ _ ex rfl⟩
    have r1' : RepB X.K μ' (L2.upd H1 tp (.tup (Ts.map fun T => V.ty T.nm))) dx v := by
      cases dx with
      | list ds => obtain ⟨a, vs, e, h, t⟩ := r1; exact ⟨a, vs, e, h.elim (fun h => .inl (h.elim (fun z => .inl (ex _ _ z)) (fun ⟨o, z⟩ => .inr ⟨o, ex _ _ z⟩))) .inr, Reps.mono (List.prefix_refl _) ex.mono _ _ t⟩
      | dict ds => obtain ⟨a, vs, e, h, t⟩ := r1; exact ⟨a, vs, e, h.elim (fun z => .inl (ex _ _ z)) (fun ⟨o, z⟩ => .inr ⟨o, ex _ _ z⟩), RepD.mono (List.prefix_refl _) ex.mono _ _ t⟩
      | none => exact r1
      | bool _ => exact r1
      | int _ => exact r1
      | str _ => exact r1
      | tup _ => exact Rep.mono (List.prefix_refl _) ex.mono _ _ r1
      | ref _ => exact r1
    exact tyN_x r1' hnn
end

/-! ### dict(..) -/
def pairsOf : List Val → Option (List (Val × Val))
  | [] => some []
  | .tup [k, d] :: r => match k.key, pairsOf r with
    | some _, some ps => some ((k, d) :: ps)
    | _, _ => none
  | _ => none
def mergeD (ds es : List (Val × Val)) : List (Val × Val) := es.foldl (fun acc p => dput acc p.1 p.2) ds
def fDict : List Val → Option RV
  | [.list ds] => (pairsOf ds).map fun ps => .fr (.dct (mergeD [] ps))
  | [.dict ds] => some (.fr (.dct ds))
  | _ => none
section
variable {K : PySem.W.Frag} {μ : List Addr} {H : Hp}
theorem pairsOf_cons {d : Val} {ds : List Val} {ps : List (Val × Val)} (h : pairsOf (d :: ds) = some ps) : ∃ k d' κ ps', d = .tup [k, d'] ∧ k.key = some κ ∧ pairsOf ds = some ps' ∧ ps = (k, d') :: ps' := by
  cases d with
  | tup xs =>
    match xs, h with
    | [], h => cases h
    | [_], h => cases h
    | [k, d'], h =>
      simp only [pairsOf] at h
      cases ek : k.key with
      | none => rw [ek] at h; cases h
      | some κ =>
        cases ep : pairsOf ds with
        | none => rw [ek, ep] at h; cases h
        | some ps' => rw [ek, ep] at h; cases h; exact ⟨k, d', κ, ps', rfl, ek, rfl, rfl⟩
    | _ :: _ :: _ :: _, h => cases h
  | _ => cases h
theorem pairs_rep : ∀ {ds : List Val} {vs : List V} {ps : List (Val × Val)}, pairsOf ds = some ps → Reps K μ H ds vs → ∃ (as : List Addr) (kvs : List (Key × V)), vs = as.map V.ref ∧ Paired (fun p (kv : Key × V) => SqT K H p [kV kv.1, kv.2]) as kvs ∧ RepD K μ H ps kvs
  | [], vs, ps, h, r => by cases h; cases (show vs = [] from r); exact ⟨[], [], rfl, .nil, rfl⟩
  | d :: ds, vs, ps, h, r => by
    obtain ⟨v, t, rfl, q, r⟩ := r
    obtain ⟨k, d', κ, ps', rfl, ek, ep, rfl⟩ := pairsOf_cons h
    obtain ⟨as, kvs, rfl, pr, rd⟩ := pairs_rep ep r
    obtain ⟨a, us, rfl, qa, v1, t1, rfl, hk, v2, t2, rfl, hd, e3⟩ := q
    cases (show t2 = [] from e3)
    have e4 := key_repB ek hk.b
    subst e4
    exact ⟨a :: as, (κ, v2) :: kvs, rfl, .cons qa pr, κ, v2, kvs, rfl, ek, hd, rd⟩
theorem RepD.merge : ∀ {es : List (Val × Val)} {us : List (Key × V)} {ds : List (Val × Val)} {vs : List (Key × V)}, RepD K μ H ds vs → RepD K μ H es us → RepD K μ H (mergeD ds es) (mergeK vs us)
  | [], us, ds, vs, r, q => by cases (show us = [] from q); exact r
  | (k, d) :: es, us, ds, vs, r, q => by
    obtain ⟨κ, v, t, rfl, ek, hd, q⟩ := q
    show RepD K μ H (mergeD (dput ds k d) es) (mergeK (putK vs κ v) t)
    exact RepD.merge (RepD.put ek hd r) q
end
theorem call_dictV {X : Cx} {cl : Nat → Addr} (hc : X.calm = true) : CallV X cl (.type "dict") fDict := by
  refine ⟨fun pins s σ H xs us Q I rs ⟨μ, ds, r, rb, e, q⟩ => ?_⟩
  cases ds with
  | nil => cases e
  | cons d ds =>
    cases ds with
    | cons _ _ => cases d <;> cases e
    | nil =>
      obtain ⟨x, rfl, r1⟩ := one_of rb
      cases d with
      | list ds =>
        simp only [fDict] at e
        cases ep : pairsOf ds with
        | none => rw [ep] at e; cases e
        | some ps =>
          rw [ep] at e
          cases e
          obtain ⟨a, vs, rfl, h1, t1⟩ := r1
          obtain ⟨as, kvs, rfl, pr, rd⟩ := pairs_rep ep t1
          refine call_dictP hc pins s σ H _ us Q I rs ⟨a, as, kvs, rfl, h1, pr, fun p hn => q _ _ (Ext.new hn) ⟨p, rfl, hn, _, upd_same, ?_⟩⟩
          exact RepD.merge (K := X.K) (ds := []) (vs := []) rfl (RepD.mono (List.prefix_refl _) (Ext.new hn).mono _ _ rd)
      | dict ds =>
        cases e
        obtain ⟨a, vs, rfl, h1, t1⟩ := r1
        exact call_dictD pins s σ H _ us Q I rs ⟨a, vs, rfl, h1, fun p hn => q _ _ (Ext.new hn) ⟨p, rfl, hn, _, upd_same, RepD.mono (List.prefix_refl _) (Ext.new hn).mono _ _ t1⟩⟩
      | _ => cases e
end PV

/-! PvP: methods of what is built in. -/
namespace PV
open PySem PySem.Spec L2

/-- the thing that may be changed behind an operand, and how the state is with it changed -/
def recv (st : State) : Opd → Option (MO × (MO → State))
  | .val (.ref n) => match st.S[n]? with
    | some o => some (o, fun o' => { st with S := st.S.set n o' })
    | none => none
  | .slot i => match st.ρ[i]? with
    | some (.own o) => some (o, fun o' => { st with ρ := st.ρ.set i (.own o') })
    | some (.shr (.ref n)) => match st.S[n]? with
      | some o => some (o, fun o' => { st with S := st.S.set n o' })
      | none => none
    | _ => none
  | _ => none
section
variable {K : PySem.W.Frag} {cl : Nat → Addr} {G H : Hp} {μ : List Addr} {σ : L2.St} {st : State} {x : Opd} {v : V} {o : MO} {wr : MO → State}
theorem recv_run (rel : Rel K cl G μ H σ st) (r : ROp K σ μ H st x v) (h : recv st x = some (o, wr)) :
    ∃ a, v = .ref a ∧ ObjR K cl μ H o a ∧ ∀ (u : HO) (o' : MO), ObjR K cl μ (L2.upd H a u) o' a → Rel K cl G μ (L2.upd H a u) σ (wr o') := by
  have sto : ∀ (n : Nat) (v : V), Rep K μ H (.ref n) v → (match st.S[n]? with | some o => some (o, fun o' => ({ st with S := st.S.set n o' } : State)) | none => none) = some (o, wr) →
      ∃ a, v = .ref a ∧ ObjR K cl μ H o a ∧ ∀ (u : HO) (o' : MO), ObjR K cl μ (L2.upd H a u) o' a → Rel K cl G μ (L2.upd H a u) σ (wr o') := by
    intro n v r h
    obtain ⟨a, rfl, ea⟩ := r
    cases es : st.S[n]? with
    | none => rw [es] at h; cases h
    | some o1 =>
      rw [es] at h
      cases h
      exact ⟨a, rfl, rel.sto.at_ n _ a es ea, fun u o' q => rel.setSto es ea q⟩
  cases x with
  | val d =>
    cases d with
    | ref n => exact sto n v r h
    | _ => cases h
  | slot i =>
    cases es : st.ρ[i]? with
    | none => simp only [recv, es] at h; cases h
    | some s =>
      have q := rel.slot i s (some v) es r
      cases s with
      | unb => simp only [recv, es] at h; cases h
      | own o1 =>
        simp only [recv, es] at h
        cases h
        obtain ⟨a, ea, ob⟩ := q
        cases ea
        exact ⟨a, rfl, ob, fun u o' q => rel.setOwn es r ⟨a, rfl, q⟩⟩
      | shr d =>
        obtain ⟨v', e1, rv⟩ := q
        cases e1
        cases d with
        | ref n => simp only [recv, es] at h; exact sto n v rv h
        | _ => simp only [recv, es] at h; cases h
end
/-- m, if the operand is a list (a dict) that may be changed -/
def chkL (x : Opd) {α : Type} (m : M α) : M α := fun st => match recv st x with
  | some (.lst _, _) => m st
  | _ => .stuck
def chkD (x : Opd) {α : Type} (m : M α) : M α := fun st => match recv st x with
  | some (.dct _, _) => m st
  | _ => .stuck
def onL (x : Opd) {α : Type} (f : List Val → Option (α × List Val)) : M α := fun st => match recv st x with
  | some (.lst ds, wr) => match f ds with
    | some (r, ds') => .ok r (wr (.lst ds'))
    | none => .stuck
  | _ => .stuck
def onD (x : Opd) {α : Type} (f : List (Val × Val) → Option (α × List (Val × Val))) : M α := fun st => match recv st x with
  | some (.dct ds, wr) => match f ds with
    | some (r, ds') => .ok r (wr (.dct ds'))
    | none => .stuck
  | _ => .stuck
section
variable {K : PySem.W.Frag} {cl : Nat → Addr} {W : WX} {G H : Hp} {μ : List Addr} {σ : L2.St} {st : State} {x : Opd} {v : V} {α β : Type} {R : List Addr → Hp → State → α → β → Prop} {Q : β → Hp → Prop}
theorem chkL_run {m : M α} (hw : Post K cl W G μ H σ R Q (chkL x m st)) (rel : Rel K cl G μ H σ st) (r : ROp K σ μ H st x v) : (∃ a xs, v = .ref a ∧ H a = some (.lst xs)) ∧ Post K cl W G μ H σ R Q (m st) := by
  unfold chkL at hw
  cases e : recv st x with
  | none => rw [e] at hw; exact hw.elim
  | some ow =>
    obtain ⟨o, wr⟩ := ow
    rw [e] at hw
    cases o with
    | lst ds =>
      obtain ⟨a, rfl, ⟨vs, ea, _⟩, _⟩ := recv_run rel r e
      exact ⟨⟨a, vs, rfl, ea⟩, hw⟩
    | dct _ => exact hw.elim
    | ins _ _ => exact hw.elim
theorem chkD_run {m : M α} (hw : Post K cl W G μ H σ R Q (chkD x m st)) (rel : Rel K cl G μ H σ st) (r : ROp K σ μ H st x v) : (∃ a xs, v = .ref a ∧ H a = some (.dK xs)) ∧ Post K cl W G μ H σ R Q (m st) := by
  unfold chkD at hw
  cases e : recv st x with
  | none => rw [e] at hw; exact hw.elim
  | some ow =>
    obtain ⟨o, wr⟩ := ow
    rw [e] at hw
    cases o with
    | dct ds =>
      obtain ⟨a, rfl, ⟨vs, ea, _⟩, _⟩ := recv_run rel r e
      exact ⟨⟨a, vs, rfl, ea⟩, hw⟩
    | lst _ => exact hw.elim
    | ins _ _ => exact hw.elim
/-- the list behind an operand is changed -/
theorem onL_run {f : List Val → Option (α × List Val)} (hw : Post K cl W G μ H σ R Q (onL x f st)) (rel : Rel K cl G μ H σ st) (r : ROp K σ μ H st x v) :
    ∃ a vs ds ds' d, v = .ref a ∧ H a = some (.lst vs) ∧ Reps K μ H ds vs ∧ f ds = some (d, ds') ∧ ∃ st', ∀ us, Reps K μ H ds' us → Mono H (L2.upd H a (.lst us)) ∧ ∀ b, R μ (L2.upd H a (.lst us)) st' d b → Q b (L2.upd H a (.lst us)) := by
  unfold onL at hw
  cases e : recv st x with
  | none => rw [e] at hw; exact hw.elim
  | some ow =>
    obtain ⟨o, wr⟩ := ow
    rw [e] at hw
    cases o with
    | dct _ => exact hw.elim
    | ins _ _ => exact hw.elim
    | lst ds =>
      dsimp only at hw
      obtain ⟨a, rfl, ⟨vs, ea, rs⟩, wk⟩ := recv_run rel r e
      cases ef : f ds with
      | none => rw [ef] at hw; exact hw.elim
      | some p =>
        obtain ⟨d, ds'⟩ := p
        rw [ef] at hw
        refine ⟨a, vs, ds, ds', d, rfl, ea, rs, ef, wr (.lst ds'), fun us ru => ?_⟩
        have mo : Mono H (L2.upd H a (.lst us)) := mono_upd (.inl (by rw [ea]; trivial))
        exact ⟨mo, fun b rr => hw b _ μ (List.prefix_refl _) mo (wk _ _ ⟨us, upd_same, Reps.mono (List.prefix_refl _) mo _ _ ru⟩) rr⟩
theorem onD_run {f : List (Val × Val) → Option (α × List (Val × Val))} (hw : Post K cl W G μ H σ R Q (onD x f st)) (rel : Rel K cl G μ H σ st) (r : ROp K σ μ H st x v) :
    ∃ a vs ds ds' d, v = .ref a ∧ H a = some (.dK vs) ∧ RepD K μ H ds vs ∧ f ds = some (d, ds') ∧ ∃ st', ∀ us, RepD K μ H ds' us → Mono H (L2.upd H a (.dK us)) ∧ ∀ b, R μ (L2.upd H a (.dK us)) st' d b → Q b (L2.upd H a (.dK us)) := by
  unfold onD at hw
  cases e : recv st x with
  | none => rw [e] at hw; exact hw.elim
  | some ow =>
    obtain ⟨o, wr⟩ := ow
    rw [e] at hw
    cases o with
    | lst _ => exact hw.elim
    | ins _ _ => exact hw.elim
    | dct ds =>
      dsimp only at hw
      obtain ⟨a, rfl, ⟨vs, ea, rs⟩, wk⟩ := recv_run rel r e
      cases ef : f ds with
      | none => rw [ef] at hw; exact hw.elim
      | some p =>
        obtain ⟨d, ds'⟩ := p
        rw [ef] at hw
        refine ⟨a, vs, ds, ds', d, rfl, ea, rs, ef, wr (.dct ds'), fun us ru => ?_⟩
        have mo : Mono H (L2.upd H a (.dK us)) := mono_upd (.inl (by rw [ea]; trivial))
        exact ⟨mo, fun b rr => hw b _ μ (List.prefix_refl _) mo (wk _ _ ⟨us, upd_same, RepD.mono (List.prefix_refl _) mo _ _ ru⟩) rr⟩
end

/-! ### lists -/
section
variable {K : PySem.W.Frag} {μ : List Addr} {H : Hp}
theorem Reps.eraseIdx : ∀ (n : Nat) {ds : List Val} {vs : List V}, Reps K μ H ds vs → Reps K μ H (ds.eraseIdx n) (vs.eraseIdx n)
  | 0, [], vs, r => by cases (show vs = [] from r); rfl
  | n + 1, [], vs, r => by cases (show vs = [] from r); rfl
  | 0, d :: ds, vs, r => by obtain ⟨v, t, rfl, _, r⟩ := r; exact r
  | n + 1, d :: ds, vs, r => by obtain ⟨v, t, rfl, q, r⟩ := r; exact ⟨v, _, rfl, q, Reps.eraseIdx n r⟩
theorem Reps.dropLast {ds : List Val} {vs : List V} (r : Reps K μ H ds vs) : Reps K μ H ds.dropLast vs.dropLast := by
  rw [List.dropLast_eq_take, List.dropLast_eq_take, Reps.length r]
  exact r.take _
theorem Reps.set {d : Val} {v : V} (q : Rep K μ H d v) : ∀ (n : Nat) {ds : List Val} {vs : List V}, Reps K μ H ds vs → Reps K μ H (ds.set n d) (vs.set n v)
  | n, [], vs, r => by cases (show vs = [] from r); exact rfl
  | 0, _ :: ds, vs, r => by obtain ⟨v', t, rfl, _, r⟩ := r; exact ⟨v, t, rfl, q, r⟩
  | n + 1, _ :: ds, vs, r => by obtain ⟨v', t, rfl, q', r⟩ := r; exact ⟨v', _, rfl, q', Reps.set q n r⟩
end
/-- o.append(e) -/
def mApp (mo : M Opd) (me : M Val) : M RV := bnd mo fun x => chkL x (bnd me fun d => onL x fun ds => if ds.length < 16777216 then some (.sh .none, ds ++ [d]) else none)
/-- o.pop() -/
def mPop (mo : M Opd) : M RV := bnd mo fun x => chkL x (onL x fun ds => match ds[ds.length - 1]? with
  | some d => some (.sh d, ds.dropLast)
  | none => none)
/-- o.pop(e) -/
def mPopAt (mo : M Opd) (me : M Val) : M RV := bnd mo fun x => chkL x (bnd me fun i => onL x fun ds => match i with
  | .int i => match ixN ds.length i with
    | some j => match ds[j]? with
      | some d => some (.sh d, ds.eraseIdx j)
      | none => none
    | none => none
  | _ => none)
section
variable {X : Cx} {cl : Nat → Addr} {W : WX} {o e : Expr} {mo : M Opd} {me : M Val} {apos cpos : Pos}
theorem se_append (ho : SO X cl W o mo) (he : SV X cl W e me) (hbase : attributeBase o "append" X.env (eval o X.env) = eval o X.env := by rfl)
    (hfew : ((backTo cpos (starEach [e] X.env)).all (fun x => !x.1) && (backToKw cpos (keywordEach [] X.env)).all (fun x => x.1.isSome)
      && decide (([e] : List Expr).length + ([] : List Keyword).length + (if ([] : List Keyword).isEmpty then 0 else 1) < 30)) = true := by rfl)
    (hline : (apos.endLine == cpos.line) = true := by rfl) (hs : starEach [e] X.env = (false, eval e X.env) :: starEach [] X.env := by rfl) : SE X cl W (.Call (.Attribute o "append" apos) [e] [] cpos) (mApp mo me) := by
  refine ⟨⟨fun pins s σ H Q I hw => (pe_bm PySem.F.plainAttrs_list PySem.F.slot_list_append PySem.F.type_list_append mt_append ho.pe (pa_cons he.pe pa_nil hs) hbase hfew hline hs rfl).run pins s σ H Q I ?_⟩⟩
  obtain ⟨G, μ, st, rel, hw⟩ := hw
  refine ⟨G, μ, st, rel, (Post.split hw).imp (List.prefix_refl _) (Mono.refl H) fun v H1 ⟨μ1, x, st1, p1, m1, rel1, q1, hw1⟩ => ?_⟩
  obtain ⟨⟨a, xs, rfl, ea⟩, hw1⟩ := chkL_run hw1 rel1 q1
  refine ⟨.inl ⟨rfl, xs, .inl (.inl ea)⟩, G, μ1, st1, rel1, (Post.split hw1).imp (List.prefix_refl _) (Mono.refl _) fun u H2 ⟨μ2, d, st2, p2, m2, rel2, q2, hw2⟩ => ?_⟩
  obtain ⟨a', vs, ds, ds', r, e1, ea2, rs, ef, st', wk⟩ := onL_run hw2 rel2 (q1.mono p2 m2)
  cases e1
  split at ef
  · rename_i hz
    cases ef
    obtain ⟨mo', wk⟩ := wk (vs ++ [u]) (rs.append ⟨u, [], rfl, q2, rfl⟩)
    exact ⟨a, vs, u, rfl, rfl, ea2, by rw [← Reps.length rs, sizeLine_eq]; exact hz, wk _ rfl⟩
  · cases ef
theorem se_pop0 (ho : SO X cl W o mo) (hbase : attributeBase o "pop" X.env (eval o X.env) = eval o X.env := by rfl) (hline : (apos.endLine == cpos.line) = true := by rfl) : SE X cl W (.Call (.Attribute o "pop" apos) [] [] cpos) (mPop mo) := by
  refine ⟨⟨fun pins s σ H Q I hw => (pe_bm0 PySem.F.plainAttrs_list PySem.F.slot_list_pop PySem.F.type_list_pop mt_pop ho.pe hbase hline).run pins s σ H Q I ?_⟩⟩
  obtain ⟨G, μ, st, rel, hw⟩ := hw
  refine ⟨G, μ, st, rel, (Post.split hw).imp (List.prefix_refl _) (Mono.refl H) fun v H1 ⟨μ1, x, st1, p1, m1, rel1, q1, hw1⟩ => ?_⟩
  obtain ⟨⟨a, xs, rfl, ea⟩, hw1⟩ := chkL_run hw1 rel1 q1
  obtain ⟨a', vs, ds, ds', r, e1, ea2, rs, ef, st', wk⟩ := onL_run hw1 rel1 q1
  cases e1
  cases ed : ds[ds.length - 1]? with
  | none => rw [ed] at ef; cases ef
  | some d =>
    rw [ed] at ef
    cases ef
    obtain ⟨u, eu, ru⟩ := Reps.get rs ed
    obtain ⟨mo', wk⟩ := wk vs.dropLast rs.dropLast
    refine ⟨.inl ⟨rfl, xs, .inl (.inl ea)⟩, a, vs, u, rfl, rfl, ea2, by rw [← Reps.length rs]; exact eu, wk _ ?_⟩
    exact Rep.mono (List.prefix_refl _) mo' _ _ ru
theorem se_popAt (ho : SO X cl W o mo) (he : SV X cl W e me) (hbase : attributeBase o "pop" X.env (eval o X.env) = eval o X.env := by rfl)
    (hfew : ((backTo cpos (starEach [e] X.env)).all (fun x => !x.1) && (backToKw cpos (keywordEach [] X.env)).all (fun x => x.1.isSome)
      && decide (([e] : List Expr).length + ([] : List Keyword).length + (if ([] : List Keyword).isEmpty then 0 else 1) < 30)) = true := by rfl)
    (hline : (apos.endLine == cpos.line) = true := by rfl) (hs : starEach [e] X.env = (false, eval e X.env) :: starEach [] X.env := by rfl) : SE X cl W (.Call (.Attribute o "pop" apos) [e] [] cpos) (mPopAt mo me) := by
  refine ⟨⟨fun pins s σ H Q I hw => (pe_bm PySem.F.plainAttrs_list PySem.F.slot_list_pop PySem.F.type_list_pop mt_popAt ho.pe (pa_sz (pa_cons he.pe pa_nil hs)) hbase hfew hline hs rfl).run pins s σ H Q I ?_⟩⟩
  obtain ⟨G, μ, st, rel, hw⟩ := hw
  refine ⟨G, μ, st, rel, (Post.split hw).imp (List.prefix_refl _) (Mono.refl H) fun v H1 ⟨μ1, x, st1, p1, m1, rel1, q1, hw1⟩ => ?_⟩
  obtain ⟨⟨a, xs, rfl, ea⟩, hw1⟩ := chkL_run hw1 rel1 q1
  refine ⟨.inl ⟨rfl, xs, .inl (.inl ea)⟩, G, μ1, st1, rel1, (Post.split hw1).imp (List.prefix_refl _) (Mono.refl _) fun u H2 ⟨μ2, d, st2, p2, m2, rel2, q2, hw2⟩ sz => ?_⟩
  obtain ⟨a', vs, ds, ds', r, e1, ea2, rs, ef, st', wk⟩ := onL_run hw2 rel2 (q1.mono p2 m2)
  cases e1
  cases d with
  | int i =>
    dsimp only at ef
    cases ej : ixN ds.length i with
    | none => rw [ej] at ef; cases ef
    | some j =>
      rw [ej] at ef
      dsimp only at ef
      cases ed : ds[j]? with
      | none => rw [ed] at ef; cases ef
      | some d =>
        rw [ed] at ef
        cases ef
        obtain ⟨w, ew, rw'⟩ := Reps.get rs ed
        obtain ⟨mo', wk⟩ := wk (vs.eraseIdx j) (rs.eraseIdx j)
        obtain ⟨h1, h2, h3, h4⟩ := ixN_seq ej
        have hl := Reps.length rs
        have hz : vs.length ≤ sizeLine := sz _ _ ea2
        have h63 := line63
        refine ⟨a, vs, i, j, w, rfl, by rw [show u = .int i from q2], ea2, by omega, by omega, by rw [← hl]; exact h1, ew, wk _ ?_⟩
        exact Rep.mono (List.prefix_refl _) mo' _ _ rw'
  | _ => cases ef
end
end PV

/-! PvQ: dicts' methods, stores by index, pairs stored at once, dict displays. -/
namespace PV
open PySem PySem.Spec L2

/-- the dict that an operand is, to be read -/
def isD (st : State) (x : Opd) : Bool := match res st x with
  | some (.dict _) => true
  | _ => false
def chkR (x : Opd) {α : Type} (m : M α) : M α := fun st => if isD st x = true then m st else .stuck
def fGet1 (d k : Val) : Option RV := match d with
  | .dict ds => match k.key with
    | some _ => some (.sh ((dget ds k).getD .none))
    | none => none
  | _ => none
def fGet2 (d k z : Val) : Option RV := match d with
  | .dict ds => match k.key with
    | some _ => some (.sh ((dget ds k).getD z))
    | none => none
  | _ => none
def kO (f : Option RV) : M RV := fun st => match f with
  | some r => .ok r st
  | none => .stuck
def mGet1 (mo : M Opd) (me : M Val) : M RV := bnd mo fun x => chkR x (bnd me fun k => k1 (fun d => fGet1 d k) x)
def mGet2 (mo : M Opd) (me mz : M Val) : M RV := bnd mo fun x => chkR x (bnd me fun k => bnd mz fun z => k1 (fun d => fGet2 d k z) x)
section
variable {X : Cx} {cl : Nat → Addr} {W : WX} {o e f : Expr} {mo : M Opd} {me mz : M Val} {apos cpos : Pos}
theorem chkR_run {K : PySem.W.Frag} {G H : Hp} {μ : List Addr} {σ : L2.St} {st : State} {x : Opd} {v : V} {α β : Type} {R : List Addr → Hp → State → α → β → Prop} {Q : β → Hp → Prop} {m : M α} (hw : Post K cl W G μ H σ R Q (chkR x m st)) (rel : Rel K cl G μ H σ st) (r : ROp K σ μ H st x v) :
    (∃ a xs, v = .ref a ∧ Rd H a (.dK xs)) ∧ Post K cl W G μ H σ R Q (m st) := by
  unfold chkR isD at hw
  cases e : res st x with
  | none => rw [e] at hw; exact hw.elim
  | some d =>
    rw [e] at hw
    have rb := res_b rel r e
    cases d with
    | dict ds => obtain ⟨a, vs, rfl, q, _⟩ := rb; exact ⟨⟨a, vs, rfl, q⟩, hw⟩
    | _ => exact hw.elim
theorem get_some {K : PySem.W.Frag} {μ : List Addr} {H : Hp} {k : Val} {κ : Key} {ds : List (Val × Val)} {vs : List (Key × V)} {z : Val} {w : V} (ek : k.key = some κ) (r : RepD K μ H ds vs) (q : Rep K μ H z w) : Rep K μ H ((dget ds k).getD z) ((valV vs κ).getD w) := by
  rcases r.val ek with ⟨h1, h2⟩ | ⟨d, v, h1, h2, rd⟩
  · rw [h1, h2]; exact q
  · rw [h1, h2]; exact rd
theorem k1_at {K : PySem.W.Frag} {G H : Hp} {μ : List Addr} {σ : L2.St} {st : State} {Q : VK} {f : Val → Option RV} {x : Opd} {v : V} (rel : Rel K cl G μ H σ st) (hw : Post K cl W G μ H σ (RRV K cl G σ) Q (k1 f x st)) (rx : ROp K σ μ H st x v) :
    ∃ dx r, RepB K μ H dx v ∧ f dx = some r ∧ ∀ v H', Ext H H' → RNew K cl μ H H' r v → Q v H' := by
  unfold k1 at hw
  cases e1 : res st x with
  | none => rw [e1] at hw; exact hw.elim
  | some dx =>
    rw [e1] at hw
    dsimp only at hw
    cases e3 : f dx with
    | none => rw [e3] at hw; exact hw.elim
    | some r =>
      rw [e3] at hw
      exact ⟨dx, r, res_b rel rx e1, e3, fun v H' e q => hw v H' μ (List.prefix_refl _) e.mono (rel.ext e) (q.rrv rel)⟩
theorem se_get1 (hu : RoomV X) (ho : SO X cl W o mo) (he : SV X cl W e me) (m : M1 X o "get" apos e cpos) : SE X cl W (.Call (.Attribute o "get" apos) [e] [] cpos) (mGet1 mo me) := by
  refine ⟨⟨fun pins s σ H Q I hw => (pe_dget1 (by have : X.A.units + 100 < cLine := hu; omega) ho.pe he.pe m).run pins s σ H Q I ?_⟩⟩
  obtain ⟨G, μ, st, rel, hw⟩ := hw
  refine ⟨G, μ, st, rel, (Post.split hw).imp (List.prefix_refl _) (Mono.refl H) fun v H1 ⟨μ1, x, st1, p1, m1, rel1, q1, hw1⟩ => ?_⟩
  obtain ⟨⟨a, xs, rfl, ea⟩, hw1⟩ := chkR_run hw1 rel1 q1
  refine ⟨a, rfl, .inl ⟨xs, ea⟩, G, μ1, st1, rel1, (Post.split hw1).imp (List.prefix_refl _) (Mono.refl _) fun u H2 ⟨μ2, k, st2, p2, m2, rel2, q2, hw2⟩ => ?_⟩
  obtain ⟨μ', dx, r, r1, er, q⟩ := k1_post rel2 hw2 (q1.mono p2 m2)
  cases dx with
  | dict ds =>
    simp only [fGet1] at er
    cases ek : k.key with
    | none => rw [ek] at er; cases er
    | some κ =>
      rw [ek] at er
      cases er
      obtain ⟨a', vs, e1, q3, t1⟩ := r1
      cases e1
      have ey := key_repB ek q2.b
      subst ey
      exact ⟨_, .inl ⟨vs, κ, q3, rfl, rfl⟩, q _ H2 (Ext.refl _) (get_some ek t1 rfl)⟩
  | _ => cases er
theorem se_get2 (hu : RoomV X) (ho : SO X cl W o mo) (he : SV X cl W e me) (hf : SV X cl W f mz) (m : M2 X o "get" apos e f cpos) : SE X cl W (.Call (.Attribute o "get" apos) [e, f] [] cpos) (mGet2 mo me mz) := by
  refine ⟨⟨fun pins s σ H Q I hw => (pe_dget2 (by have : X.A.units + 100 < cLine := hu; omega) ho.pe he.pe hf.pe m).run pins s σ H Q I ?_⟩⟩
  obtain ⟨G, μ, st, rel, hw⟩ := hw
  refine ⟨G, μ, st, rel, (Post.split hw).imp (List.prefix_refl _) (Mono.refl H) fun v H1 ⟨μ1, x, st1, p1, m1, rel1, q1, hw1⟩ => ?_⟩
  obtain ⟨⟨a, xs, rfl, ea⟩, hw1⟩ := chkR_run hw1 rel1 q1
  refine ⟨a, rfl, .inl ⟨xs, ea⟩, G, μ1, st1, rel1, (Post.split hw1).imp (List.prefix_refl _) (Mono.refl _) fun u H2 ⟨μ2, k, st2, p2, m2, rel2, q2, hw2⟩ => ?_⟩
  refine ⟨G, μ2, st2, rel2, (Post.split hw2).imp (List.prefix_refl _) (Mono.refl _) fun w H3 ⟨μ3, z, st3, p3, m3, rel3, q3, hw3⟩ => ?_⟩
  obtain ⟨dx, r, r1, er, q⟩ := k1_at rel3 hw3 ((q1.mono p2 m2 (st' := st2)).mono p3 m3)
  cases dx with
  | dict ds =>
    simp only [fGet2] at er
    cases ek : k.key with
    | none => rw [ek] at er; cases er
    | some κ =>
      rw [ek] at er
      cases er
      obtain ⟨a', vs, e1, q4, t1⟩ := r1
      cases e1
      have ey := key_repB ek q2.b
      subst ey
      exact ⟨_, .inl ⟨vs, κ, q4, rfl, rfl⟩, q _ H3 (Ext.refl _) (get_some ek t1 q3)⟩
  | _ => cases er

/-! ### d.pop(k), d.pop(k, z) -/
def mDPop1 (mo : M Opd) (me : M Val) : M RV := bnd mo fun x => chkD x (bnd me fun k => onD x fun ds => match k.key with
  | some _ => match dget ds k with
    | some d => some (.sh d, ddrop ds k)
    | none => none
  | none => none)
theorem se_dpop1 (ho : SO X cl W o mo) (he : SV X cl W e me) (m : M1 X o "pop" apos e cpos) : SE X cl W (.Call (.Attribute o "pop" apos) [e] [] cpos) (mDPop1 mo me) := by
  refine ⟨⟨fun pins s σ H Q I hw => (pe_dpop1 ho.pe he.pe m).run pins s σ H Q I ?_⟩⟩
  obtain ⟨G, μ, st, rel, hw⟩ := hw
  refine ⟨G, μ, st, rel, (Post.split hw).imp (List.prefix_refl _) (Mono.refl H) fun v H1 ⟨μ1, x, st1, p1, m1, rel1, q1, hw1⟩ => ?_⟩
  obtain ⟨⟨a, xs, rfl, ea⟩, hw1⟩ := chkD_run hw1 rel1 q1
  refine ⟨a, rfl, .inl ⟨xs, .inl ea⟩, G, μ1, st1, rel1, (Post.split hw1).imp (List.prefix_refl _) (Mono.refl _) fun u H2 ⟨μ2, k, st2, p2, m2, rel2, q2, hw2⟩ => ?_⟩
  obtain ⟨a', vs, ds, ds', r, e1, ea2, rs, ef, st', wk⟩ := onD_run hw2 rel2 (q1.mono p2 m2)
  cases e1
  cases ek : k.key with
  | none => rw [ek] at ef; cases ef
  | some κ =>
    rw [ek] at ef
    dsimp only at ef
    cases ed : dget ds k with
    | none => rw [ed] at ef; cases ef
    | some d =>
      rw [ed] at ef
      cases ef
      have ey := key_repB ek q2.b
      rcases rs.val ek with ⟨h1, _⟩ | ⟨d', w, h1, h2, rd⟩
      · rw [ed] at h1; cases h1
      · rw [ed] at h1; cases h1
        obtain ⟨mo', wk⟩ := wk _ (rs.drop ek)
        exact ⟨vs, κ, w, ea2, ey, h2, wk _ (Rep.mono (List.prefix_refl _) mo' _ _ rd)⟩

/-! ### list(d.items()) -/
theorem se_listItems {p pos : Pos} (hc : X.calm = true) (ho : SO X cl W o mo) (hg : Gl X "list") (hm : X.mg "list" = none) (hbase : attributeBase o "items" X.env (eval o X.env) = eval o X.env := by rfl) (hline : (apos.endLine == cpos.line) = true := by rfl)
    (hs : starEach [.Call (.Attribute o "items" apos) [] [] cpos] X.env = (false, eval (.Call (.Attribute o "items" apos) [] [] cpos) X.env) :: starEach [] X.env := by rfl) :
    SE X cl W (.Call (.Name "list" p) [.Call (.Attribute o "items" apos) [] [] cpos] [] pos) (bnd mo fun x => k1 (fun d => match d with
      | .dict ds => some (.fr (.lst (ds.map fun p => .tup [p.1, p.2])))
      | _ => none) x) := by
  refine ⟨⟨fun pins s σ H Q I hw => ?_⟩⟩
  have go : ∀ (u : Value) (s1 : Shared), (∃ v H1, L2.Inv X pins σ H1 s1 ∧ RelV v u ∧ ∃ d kvs, v = V.ref d ∧ Rd H1 d (.dK kvs) ∧
      ∀ (H' : Hp) (p : Addr) (ts : List Addr), Ext H1 H' → H1 p = none → H' p = some (.lst (ts.map V.ref)) → Paired (fun (t : Addr) (q : Key × V) => H' t = some (.tup [kV q.1, q.2])) ts kvs → Q (.ref p) H') →
      s1.TypeIs u "dict" ∧ (∀ b, u = .ref b → ∃ ob, s1.heap.get? b = some ob ∧ ob.dict = none) ∧
        wpAny (model X.prog X.w) X.A (callWith cpos (.builtin "dict.items") [u] [] []) (fun v1 s2 => wpAny (model X.prog X.w) X.A (spliced []) (fun vs s3 => wpAny (model X.prog X.w) X.A (call (.type "list") (v1 :: vs)) (EP X pins σ Q) X.xe s3) X.xe s2) X.xe s1 := by
    intro u s1 ⟨v, H1, I1, r1, d, kvs, e, hd, q⟩
    subst e
    obtain rfl : u = Value.ref d := r1
    obtain ⟨hz, hs0, vs, kv, hdo⟩ := dk_rd I1.hok hd
    obtain ⟨ep, hat⟩ := hdo.dictAt
    have lk : kvs.length = vs.length := Paired.length kv
    refine ⟨hdo.typeIs, hdo.mapOf.noDict, ?_⟩
    have I2 : L2.Inv X pins σ H1 { s1 with heap := s1.heap.push { cls := .type "dict_items", data := .fields #[.ref d] } } := I1.kept (t' := s1.toks) fun b ob q => Heap.get?_push_of_some _ q
    refine method_meetsIn PySem.F.slot_dict_items PySem.F.entry_dict_items rfl (PySem.evalArgs_none ⟨rfl, hdo.typeIs, PySem.F.args_dict_items_1 _, _, meets_dict_items (mixKind X.prog X.w) d hs0, ⟨vs, hdo⟩, ?_⟩)
    refine Calls.spliced_nil (PySem.W.kdx_call (knd := mixKind X.prog X.w) (kvs := vs) (ep := ep) (I1.ok.hd hc) ⟨_, Heap.get?_push_size _ rfl, rfl, rfl⟩ (hat.push _) (by omega) fun h' tk acc c as hk hS hl hG hacc => ?_)
    obtain ⟨H', k1', k2', _, _, k5', k6', J⟩ := LiI.items_laid (tk := tk) I2 hz kv hk hS hl hG hacc
    exact ⟨.ref _, H', J, rfl, q H' _ as k1' k2' k5' k6'⟩
  refine wpAny_Call_Name_kw (ld_blt I hg hm (by rfl) (PyProof.Rows.callWith_type1 ?_ hs rfl))
  rw [hs]
  refine Calls.spliced_cons (wpAny_Call_method (T := "dict") (id := "dict.items") hbase rfl hline PySem.F.plainAttrs_dict PySem.F.slot_dict_items PySem.F.type_dict_items (thn (ho.pe.run pins s σ H (fun v H1 => ∃ d kvs, v = V.ref d ∧ Rd H1 d (.dK kvs) ∧
      ∀ (H' : Hp) (p : Addr) (ts : List Addr), Ext H1 H' → H1 p = none → H' p = some (.lst (ts.map V.ref)) → Paired (fun (t : Addr) (q : Key × V) => H' t = some (.tup [kV q.1, q.2])) ts kvs → Q (.ref p) H') I ?_) fun u s1 ⟨v, H1, I1, r1, q1⟩ => go u s1 ⟨v, H1, I1, r1, q1⟩))
  obtain ⟨G, μ, st, rel, hw⟩ := hw
  refine ⟨G, μ, st, rel, (Post.split hw).imp (List.prefix_refl _) (Mono.refl H) fun v H1 ⟨μ1, x, st1, p1, m1, rel1, q1, hw1⟩ => ?_⟩
  obtain ⟨dx, r, r1, er, q⟩ := k1_at rel1 hw1 q1
  cases dx with
  | dict ds =>
    cases er
    obtain ⟨d, kvs, rfl, hd, t1⟩ := r1
    refine ⟨d, kvs, rfl, hd, fun H' p ts ex hn hp pr => q _ H' ex ⟨p, rfl, hn, ts.map V.ref, hp, ?_⟩⟩
    have t2 := RepD.mono (List.prefix_refl _) ex.mono _ _ t1
    clear hp q t1 hd
    induction pr generalizing ds with
    | nil =>
      cases ds with
      | nil => rfl
      | cons d ds => obtain ⟨_, _, _, z, _⟩ := t2; cases z
    | @cons t kv ts kvs h _ ih =>
      cases ds with
      | nil => cases t2
      | cons d ds =>
        obtain ⟨k, d⟩ := d
        obtain ⟨κ, w, rest, z, ek, rd, t3⟩ := t2
        cases z
        exact ⟨.ref t, ts.map V.ref, rfl, ⟨t, _, rfl, SqT.of h, _, _, rfl, key_rep ek, _, _, rfl, rd, rfl⟩, ih ds t3⟩
  | _ => cases er
end
end PV

/-! PvR: stores by index, pairs stored at once, dict displays, len by an own method. -/
namespace PV
open PySem PySem.Spec L2

/-! ### o[i] = e -/
def tSetV : TSet := fun o i v H Q => rSetL o i v H Q ∨ ∃ a H4, o = .ref a ∧ DPut H a i v H4 ∧ Q H4
theorem psetV {X : Cx} (hu : RoomV X) : PSet X tSetV := by
  have hu : X.A.units + 100 < cLine := hu
  intro pins s σ H o i v ov iv u Q I ro ri rv h
  rcases h with h | ⟨a, H4, rfl, g, q⟩
  · exact set_list pins s σ H o i v ov iv u Q I ro ri rv h
  · obtain rfl : ov = Value.ref a := ro
    exact d_setItem (by omega) I g ri rv fun s4 I4 => ⟨H4, I4, q⟩
/-- the thing behind an operand with the entry written -/
def putIx (o : MO) (i d : Val) : Option MO := match o with
  | .lst ds => match i with
    | .int j => match ixN ds.length j with
      | some n => some (.lst (ds.set n d))
      | none => none
    | _ => none
  | .dct ds => match i.key with
    | some _ => if ds.length < 16777216 then some (.dct (dput ds i d)) else none
    | none => none
  | .ins _ _ => none
def mSetIx (mv : M Val) (mo : M Opd) (mi : M Val) : M Fl := bnd mv fun d => bnd mo fun x => bnd mi fun i => fun st => match recv st x with
  | some (o, wr) => match putIx o i d with
    | some o' => .ok .nx (wr o')
    | none => .stuck
  | none => .stuck
section
variable {X : Cx} {cl : Nat → Addr} {W : WX} {o i e value : Expr} {mo : M Opd} {mi mv : M Val} {pos pos' : Pos}
theorem ss_setIx (hu : RoomV X) (hv : SV X cl W value mv) (ho : SO X cl W o mo) (hi : SV X cl W i mi)
    (ha : ∀ v, assign (.Subscript o i pos') X.env v = (do
      let ov ← holding [v] (eval o X.env)
      let iv ← holding [v, ov] (eval i X.env)
      standAt pos'
      holding [v, ov, iv] (setItem ov iv v)
      release [v, ov, iv] []) := by intro _; rfl)
    (hs : swapsWithSole [.Subscript o i pos'] value pos.line X.env = pure false := by rfl) (hw : swappedStores [.Subscript o i pos'] value X.env = pure none := by rfl)
    (h1 : (assignEach [.Subscript o i pos'] X.env).map (·.2) = [assign (.Subscript o i pos') X.env] := by rfl) : SS X cl W (.Assign [.Subscript o i pos'] value pos) (mSetIx mv mo mi) := by
  refine ⟨⟨fun pins s σ H D I h => (ps_asg hv.pe (pg_sub ho.pe hi.pe (psetV hu) ha) hs hw h1).run pins s σ H D I ?_⟩⟩
  obtain ⟨G, μ, st, rel, hw⟩ := h
  refine ⟨G, μ, st, rel, (PostS.split hw).imp (List.prefix_refl _) (Mono.refl H) fun v H1 ⟨μ1, d, st1, p1, m1, rel1, q1, hw1⟩ => ?_⟩
  refine ⟨G, μ1, st1, rel1, (PostS.split hw1).imp (List.prefix_refl _) (Mono.refl _) fun u H2 ⟨μ2, x, st2, p2, m2, rel2, q2, hw2⟩ => ?_⟩
  refine ⟨G, μ2, st2, rel2, (PostS.split hw2).imp (List.prefix_refl _) (Mono.refl _) fun y H3 ⟨μ3, i', st3, p3, m3, rel3, q3, hw3⟩ => ?_⟩
  cases er : recv st3 x with
  | none => rw [er] at hw3; exact hw3.elim
  | some ow =>
    obtain ⟨ob, wr⟩ := ow
    rw [er] at hw3
    dsimp only at hw3
    cases ep : putIx ob i' d with
    | none => rw [ep] at hw3; exact hw3.elim
    | some o' =>
      rw [ep] at hw3
      obtain ⟨a, rfl, obr, wk⟩ := recv_run rel3 (q2.mono p3 m3) er
      have q1' := Rep.mono p3 m3 _ _ (Rep.mono p2 m2 _ _ q1)
      cases ob with
      | lst ds =>
        cases i' with
        | int j =>
          simp only [putIx] at ep
          cases ej : ixN ds.length j with
          | none => rw [ej] at ep; cases ep
          | some n =>
            rw [ej] at ep
            cases ep
            obtain ⟨vs, ea, rs⟩ := obr
            have mo' : Mono H3 (L2.upd H3 a (.lst (vs.set n v))) := mono_upd (.inl (by rw [ea]; trivial))
            refine .inl ⟨a, vs, j, n, rfl, q3, ea, by rw [← Reps.length rs]; exact ej, ?_⟩
            exact hw3 _ _ μ3 (List.prefix_refl _) mo' (wk _ _ ⟨_, upd_same, Reps.mono (List.prefix_refl _) mo' _ _ (rs.set q1' n)⟩)
        | _ => cases ep
      | dct ds =>
        simp only [putIx] at ep
        cases ek : i'.key with
        | none => rw [ek] at ep; cases ep
        | some κ =>
          rw [ek] at ep
          dsimp only at ep
          split at ep
          · rename_i hz
            cases ep
            obtain ⟨vs, ea, rs⟩ := obr
            have ey := key_repB ek q3.b
            subst ey
            have mo' : Mono H3 (L2.upd H3 a (.dK (putK vs κ v))) := mono_upd (.inl (by rw [ea]; trivial))
            refine .inr ⟨a, _, rfl, .inl ⟨vs, κ, ea, rfl, by rw [← RepD.length rs, sizeLine_eq]; exact hz, rfl⟩, ?_⟩
            exact hw3 _ _ μ3 (List.prefix_refl _) mo' (wk _ _ ⟨_, upd_same, RepD.mono (List.prefix_refl _) mo' _ _ (rs.put ek q1')⟩)
          · cases ep
      | ins _ _ => cases ep

/-! ### x, y = a, b -/
def mPar (i j : Nat) (ma mb : M RV) : M Fl := bnd ma fun r => bnd mb fun q => bnd (mStore i r) fun _ => bnd (mStore j q) fun _ => ret .nx
theorem RRV.addr {K : PySem.W.Frag} {G H : Hp} {μ : List Addr} {σ : L2.St} {st : State} {o : MO} {v : V} (q : RRV K cl G σ μ H st (.fr o) v) : ∃ a u, v = .ref a ∧ H a = some u ∧ ObjR K cl μ H o a ∧ G a = none ∧ a ∉ μ ∧ ∀ (i : Nat) (o' : MO), st.ρ[i]? = some (.own o') → σ[i]? ≠ some (some (.ref a)) := by
  obtain ⟨a, e, ob, g, n, no⟩ := q
  obtain ⟨u, eu⟩ := ob.ex
  exact ⟨a, u, e, eu, ob, g, n, no⟩
theorem store2 {K : PySem.W.Frag} {G H : Hp} {μ : List Addr} {σ : L2.St} {st : State} {r1 r2 : RV} {v u : V} {i j : Nat} (hij : i ≠ j) (rel : Rel K cl G μ H σ st) (q1 : RRV K cl G σ μ H st r1 v) (q2 : RRV K cl G σ μ H st r2 u)
    (ap : ∀ o o2, r1 = .fr o → r2 = .fr o2 → v ≠ u) : Rel K cl G μ H ((σ.set i (some v)).set j (some u)) { st with ρ := (st.ρ.set i r1.slot).set j r2.slot } := by
  refine rel_store (r := r2) (rel_store (i := i) rel q1) ?_
  cases r2 with
  | sh d2 => exact q2
  | fr o2 =>
    obtain ⟨a2, e2, ob2, g2, n2, no2⟩ := q2
    subst e2
    refine ⟨a2, rfl, ob2, g2, n2, fun k o' h1 h2 => ?_⟩
    have h1 : (st.ρ.set i r1.slot)[k]? = some (.own o') := h1
    by_cases hk : k = i
    · subst hk
      by_cases hl : k < st.ρ.length
      · rw [List.getElem?_set_self hl] at h1
        rw [List.getElem?_set_self (by rw [← rel.len]; exact hl)] at h2
        cases r1 with
        | sh d => cases h1
        | fr o =>
          have := ap o o2 rfl rfl
          cases h2
          exact this rfl
      · rw [List.getElem?_eq_none (by rw [List.length_set]; omega)] at h1; cases h1
    · rw [List.getElem?_set_ne (Ne.symm hk)] at h1 h2
      exact no2 k o' h1 h2
theorem ss_par {ii j : Nat} {x y : Str} {a b : Expr} {ma mb : M RV} {px py pt : Pos} {kt k2 pt2} (hc : X.calm = true) (hN : X.N.Nodup) (hi : X.N[ii]? = some x) (hj : X.N[j]? = some y) (hij : ii ≠ j)
    (hx : X.env.scope.names.lookup x = some .local) (hy : X.env.scope.names.lookup y = some .local) (ha : SE X cl W a ma) (hb : SE X cl W b mb)
    (hw : swappedStores [.Tuple [.Name x px, .Name y py] kt pt] (.Tuple [a, b] k2 pt2) X.env = pure (some [x, y]))
    (he : starEach [a, b] X.env = (false, eval a X.env) :: starEach [b] X.env := by rfl) (he2 : starEach [b] X.env = (false, eval b X.env) :: starEach [] X.env := by rfl)
    (hs : swapsWithSole [.Tuple [.Name x px, .Name y py] kt pt] (.Tuple [a, b] k2 pt2) pos.line X.env = pure false := by rfl) :
    SS X cl W (.Assign [.Tuple [.Name x px, .Name y py] kt pt] (.Tuple [a, b] k2 pt2) pos) (mPar ii j ma mb) := by
  refine ⟨⟨fun pins s σ H D I h => (ps_par hc hN hi hj hij hx hy (pa_cons ha.pe (pa_cons hb.pe pa_nil he2) he) hw hs).run pins s σ H D I ?_⟩⟩
  obtain ⟨G, μ, st, rel, hw⟩ := h
  refine ⟨G, μ, st, rel, (PostS.split hw).imp (List.prefix_refl _) (Mono.refl H) fun v H1 ⟨μ1, r, st1, p1, m1, rel1, q1, hw1⟩ => ?_⟩
  cases r with
  | sh d =>
    refine ⟨G, μ1, st1, rel1, (PostS.split hw1).imp (List.prefix_refl _) (Mono.refl _) fun u H2 ⟨μ2, r2, st2, p2, m2, rel2, q2, hw2⟩ => ?_⟩
    have q1' : RRV X.K cl G σ μ2 H2 st2 (.sh d) v := Rep.mono p2 m2 _ _ q1
    exact ⟨v, u, rfl, hw2 _ H2 μ2 (List.prefix_refl _) (Mono.refl _) (store2 hij rel2 q1' q2 fun o _ e => nomatch e)⟩
  | fr o =>
    obtain ⟨a1, u1, rfl, eu, ob, g, n, no⟩ := RRV.addr q1
    refine ⟨L2.upd G a1 u1, μ1, st1, rel1.prot eu n no, ?_⟩
    unfold bnd at hw1
    cases em : mb st1 with
    | stuck => rw [em] at hw1; exact hw1.elim
    | exc C fs st' => rw [em] at hw1; exact fun c d H' μ' p m rel' q => hw1 c d σ H' μ' p m (rel'.weak g) q
    | ok r2 st2 =>
      rw [em] at hw1
      intro u H2 μ2 p2 m2 rel2 q2
      obtain ⟨e2, n2, no2⟩ := rel2.protN
      have q1' : RRV X.K cl G σ μ2 H2 st2 (.fr o) (.ref a1) := ⟨a1, rfl, ob.mono p2 m2 (fun w hw => by rw [eu] at hw; cases hw; exact e2), g, n2, no2⟩
      have q2' : RRV X.K cl G σ μ2 H2 st2 r2 u := by
        cases r2 with
        | sh d => exact q2
        | fr o2 =>
          obtain ⟨a2, e, ob2, g2, n3, no3⟩ := q2
          have ne : a2 ≠ a1 := fun z => by rw [z, upd_same] at g2; cases g2
          exact ⟨a2, e, ob2, by rw [upd_ne ne] at g2; exact g2, n3, no3⟩
      refine ⟨.ref a1, u, rfl, hw1 _ H2 μ2 p2 m2 (store2 hij (rel2.weak g) q1' q2' fun _ o2 _ e z => ?_)⟩
      subst e
      obtain ⟨a2, e, _, g2, _⟩ := q2
      rw [← z] at e
      cases e
      rw [upd_same] at g2; cases g2

/-! ### {k: v, ..} -/
def mDisp : List (M Val × M Val) → M (List (Val × Val))
  | [] => ret []
  | (mk, mv) :: r => bnd mk fun k => bnd mv fun d => bnd (mDisp r) fun ps => ret ((k, d) :: ps)
def keysOk (ps : List (Val × Val)) : Bool := ps.all fun p => p.1.key.isSome
structure SPs (X : Cx) (cl : Nat → Addr) (W : WX) (pos : Pos) (keys : List (Option Expr)) (values : List Expr) (ms : List (M Val × M Val)) : Prop where
  ex : ∃ trs, PPs X pos keys values trs ∧ ∀ σ H (Q : List (V × V) → Hp → Prop), (∃ G μ st, Rel X.K cl G μ H σ st ∧ Post X.K cl W G μ H σ (fun μ H _ ds vs => Paired (fun (p : Val × Val) (q : V × V) => Rep X.K μ H p.1 q.1 ∧ Rep X.K μ H p.2 q.2) ds vs) Q (mDisp ms st)) → tPairs trs σ H Q
theorem sps_nil : SPs X cl W pos [] [] [] := ⟨⟨[], pps_nil, fun σ H Q ⟨G, μ, st, rel, hw⟩ => hw [] H μ (List.prefix_refl _) (Mono.refl H) rel .nil⟩⟩
theorem sps_cons {k v : Expr} {ks : List (Option Expr)} {vs : List Expr} {mk mv : M Val} {ms : List (M Val × M Val)} (hk : SV X cl W k mk) (hv : SV X cl W v mv) (hr : SPs X cl W pos ks vs ms) : SPs X cl W pos (some k :: ks) (v :: vs) ((mk, mv) :: ms) := by
  obtain ⟨trs, hp, hq⟩ := hr.ex
  refine ⟨⟨_, pps_cons hk.pe hv.pe hp, fun σ H Q ⟨G, μ, st, rel, hw⟩ => ?_⟩⟩
  refine ⟨G, μ, st, rel, (Post.split hw).imp (List.prefix_refl _) (Mono.refl H) fun x H1 ⟨μ1, d1, st1, p1, m1, rel1, q1, hw1⟩ => ?_⟩
  refine ⟨G, μ1, st1, rel1, (Post.split hw1).imp (List.prefix_refl _) (Mono.refl H1) fun y H2 ⟨μ2, d2, st2, p2, m2, rel2, q2, hw2⟩ => ?_⟩
  refine hq σ H2 _ ⟨G, μ2, st2, rel2, (Post.split hw2).imp (List.prefix_refl _) (Mono.refl H2) fun ps H3 ⟨μ3, ds, st3, p3, m3, rel3, q3, hw3⟩ => ?_⟩
  exact hw3 _ H3 μ3 (List.prefix_refl _) (Mono.refl _) rel3 (.cons ⟨Rep.mono p3 m3 _ _ (Rep.mono p2 m2 _ _ q1), Rep.mono p3 m3 _ _ q2⟩ q3)
theorem pairs_keys {K : PySem.W.Frag} {μ : List Addr} {H : Hp} : ∀ {ds : List (Val × Val)} {vs : List (V × V)}, Paired (fun (p : Val × Val) (q : V × V) => Rep K μ H p.1 q.1 ∧ Rep K μ H p.2 q.2) ds vs → keysOk ds = true →
    ∃ kvs : List (Key × V), vs = kvs.map (fun kv => (kV kv.1, kv.2)) ∧ RepD K μ H ds kvs
  | _, _, .nil, _ => ⟨[], rfl, rfl⟩
  | (k, d) :: ds, (x, y) :: vs, .cons h t, hk => by
    have hk' : (k.key.isSome && keysOk ds) = true := hk
    rw [Bool.and_eq_true] at hk'
    obtain ⟨kvs, e, r⟩ := pairs_keys t hk'.2
    cases ek : k.key with
    | none => rw [ek] at hk'; cases hk'.1
    | some κ =>
      have ex := key_repB ek h.1.b
      dsimp only at ex
      subst ex e
      exact ⟨(κ, y) :: kvs, rfl, κ, y, kvs, rfl, ek, h.2, r⟩
theorem se_disp {keys : List (Option Expr)} {values : List Expr} {ms : List (M Val × M Val)} (h : SPs X cl W pos keys values ms) (hall : keys.all (·.isSome) = true := by rfl) (hl : keys.length = values.length := by rfl) (h0 : keys ≠ [] := by simp) (h15 : keys.length ≤ 15 := by decide) :
    SE X cl W (.Dict keys values pos) (bnd (mDisp ms) fun ps => if keysOk ps = true ∧ ps.length ≤ 15 then ret (.fr (.dct (mergeD [] ps))) else stk) := by
  obtain ⟨trs, hp, hq⟩ := h.ex
  refine ⟨⟨fun pins s σ H Q I hw => (pe_disp hp hall hl h0 h15).run pins s σ H Q I ?_⟩⟩
  intro p hn
  obtain ⟨G, μ, st, rel, hw⟩ := hw
  obtain ⟨g1, g2, g3⟩ := rel.noneG hn
  have ex : Ext H (L2.upd H p (.dK [])) := Ext.new hn
  refine hq σ _ _ ⟨L2.upd G p (.dK []), μ, st, (rel.ext ex).prot upd_same g2 g3, ?_⟩
  unfold bnd at hw
  cases em : mDisp ms st with
  | stuck => rw [em] at hw; exact hw.elim
  | exc C fs st' => rw [em] at hw; exact fun c d H' μ' p m rel' q => hw c d H' μ' p (ex.mono.trans m) (rel'.weak g1) q
  | ok ps st' =>
    rw [em] at hw
    intro vs H2 μ2 p2 m2 rel2 q2
    dsimp only at hw
    split at hw
    · rename_i hk
      obtain ⟨e2, n2, no2⟩ := rel2.protN
      obtain ⟨kvs, e, rd⟩ := pairs_keys q2 hk.1
      subst e
      have mo' : Mono H2 (L2.upd H2 p (.dK (mergeK [] kvs))) := mono_upd (.inl (by rw [e2]; trivial))
      refine ⟨e2, kvs, rfl, by rw [← RepD.length rd]; exact hk.2, ?_⟩
      refine hw _ _ μ2 p2 ((ex.mono.trans m2).trans mo') ((rel2.weak g1).upd (.inl (by rw [e2]; trivial)) g1 n2 no2) ⟨p, rfl, ⟨_, upd_same, ?_⟩, g1, n2, no2⟩
      exact RepD.merge (K := X.K) (ds := []) (vs := []) rfl (RepD.mono (List.prefix_refl _) mo' _ _ rd)
    · exact hw.elim
end
end PV

/-! PvS: len by an own method. -/
namespace PV
open PySem PySem.Spec L2

def mLenI (c : Nat) (F : Fn) (mo : M Opd) : M RV := bnd mo fun x => fun st => match insAt c st x with
  | some (n, _) => match F [.ref n] st.S with
    | .ok (.sh (.int i)) S' => if 0 ≤ i ∧ i < 2 ^ 63 then .ok (.sh (.int i)) { st with S := S' } else .stuck
    | _ => .stuck
  | none => .stuck
section
variable {X : Cx} {cl : Nat → Addr} {W : WX} {k c : Nat} {f : Addr} {fd : FuncData} {ps : List Str} {F : Fn} {e : Expr} {mo : M Opd} {x : Str} {p pos : Pos}
theorem never_at {X : Cx} {σ : L2.St} : PassesAt (L2.CX X.prog X.w) X σ (fun _ _ _ => False) := fun pins H s e s' I c => by
  obtain ⟨_, _, _, _, _, _, _, _, _, _, _, _, z⟩ := c
  exact z.elim
theorem call_lenI {sp : Sp} (Fo : FnOk X.prog X.w X.K X.mg X.base (L2.CX X.prog X.w) k f fd ps sp) (hr : Room k X.A.in1) (hb : Binds X.K fd ps [])
    (hs : PySem.W.findIn X.K (.ref (cl c)) "__len__" = some (some (.ref f))) (hf : PySem.W.isFn X.K (.ref f) = true) :
    CallR X (.builtin "len") fun xs H Q => ∃ a dx fs, xs = [V.ref a] ∧ H a = some (.ins (cl c) dx fs) ∧ sp [.ref a] H (fun v H' => ∃ i : Int, v = .int i ∧ 0 ≤ i ∧ i < 2 ^ 63 ∧ Q (.int i) H') fun _ _ _ => False := by
  intro pins s σ H xs us Q I rs ⟨a, dx, fs, exs, ea, q⟩
  subst exs
  obtain ⟨u, rfl, rx⟩ := vals1 rs
  cases rx
  obtain ⟨mA, O, _⟩ := ins_get I.hok ea
  obtain ⟨od, J, _⟩ := O.look
  obtain ⟨m1, hF⟩ := I.fr
  refine PySem.W.len_K hF I.ok.mod.kin J hs hf ?_
  have hl := Fo.len _ _ _ _ q
  refine wpAny_call (codeAny_mono (Fo.run X.A.in1 X.stack s H ⟨[.ref a], []⟩ [.ref a] [.ref a] _ _ hr I.env0.in1 (by
    have := hb s [.ref a] I.kIn (by simpa using hl)
    simpa using this) (.cons rfl .nil) q) fun r s' hq => ?_)
  cases r with
  | error e => exact (never_at pins H s e s' I hq)
  | ok fl =>
    cases fl with
    | next => exact False.elim hq
    | brk => exact False.elim hq
    | cont => exact False.elim hq
    | ret u =>
      obtain ⟨v, H', I', rv, i, rfl, h0, h1, qq⟩ := I.after hq
      obtain ⟨t, rfl⟩ := rv
      exact ⟨⟨h0, h1⟩, .int i, H', I'.tok _, ⟨_, rfl⟩, qq⟩
theorem se_lenI (h : DefOk X.prog X.w X.K X.mg X.base cl k f fd ps F) (hb : Binds X.K fd ps []) (hs : PySem.W.findIn X.K (.ref (cl c)) "__len__" = some (some (.ref f))) (hf : PySem.W.isFn X.K (.ref f) = true) (hr : Room k X.A.in1)
    (hx : x = "len") (hg : Gl X x) (hm : X.mg x = none) (ho : SO X cl W e mo) (hps : ps.length = 1)
    (he : starEach [e] X.env = (false, eval e X.env) :: starEach [] X.env := by rfl) : SE X cl W (.Call (.Name x p) [e] [] pos) (mLenI c F mo) := by
  subst hx
  refine ⟨⟨fun pins s σ H Q I hw => (pe_callB (call_lenI (cl := cl) (c := c) h hr hb hs hf) hg hm (by rfl) (pa_cons ho.pe pa_nil he) (he := he)).run pins s σ H Q I ?_⟩⟩
  obtain ⟨G, μ, st, rel, hw⟩ := hw
  refine ⟨G, μ, st, rel, (Post.split hw).imp (List.prefix_refl _) (Mono.refl H) fun v H1 ⟨μ1, x, st1, p1, m1, rel1, q1, hw1⟩ => ?_⟩
  cases ei : insAt c st1 x with
  | none => rw [ei] at hw1; exact hw1.elim
  | some nf =>
    obtain ⟨n, fs⟩ := nf
    rw [ei] at hw1
    dsimp only at hw1
    obtain ⟨es1, a, rfl, ea⟩ := insAt_val rel1 q1 ei
    obtain ⟨dx, fs', eo, rf⟩ := rel1.sto.at_ n _ a es1 ea
    refine ⟨a, dx, fs', rfl, eo, hps.symm, μ1, [.ref n], st1.S, ⟨.ref a, [], rfl, ⟨a, rfl, ea⟩, rfl⟩, rel1.g0, ?_⟩
    cases eF : F [.ref n] st1.S with
    | stuck => rw [eF] at hw1; exact hw1.elim
    | exc C fs S' => rw [eF] at hw1; exact hw1.elim
    | ok r S' =>
      rw [eF] at hw1
      cases r with
      | fr o => exact hw1.elim
      | sh d =>
        cases d with
        | int i =>
          dsimp only at hw1
          split at hw1
          · rename_i hi
            intro v H' μ' p m s q
            exact ⟨i, q, hi.1, hi.2, hw1 _ H' μ' p m (rel1.after p m s) rfl⟩
          · exact hw1.elim
        | _ => exact hw1.elim
end
end PV

/-! PvT: what printed derivations lean on. -/
namespace PV
open PySem PySem.Spec L2

theorem roomV {X : Cx} {k : Nat} (hr : Room k X.A) : RoomV X := by
  have := hr.un
  show X.A.units + 100 < cLine
  omega
section
variable {P : Program} {w : World} {K : PySem.W.Frag} {mg : Str → Option Value} {base : Heap} {N : List Str} {qual : Str} {scope : Scope} {f : Addr} {cd : Value} {A : Around} {outer : List Env} {s : Shared} {H : Hp} {E : XK}
theorem takes_cx : Takes (cxOf (L2.CX P w) P w K mg base N qual scope f cd A outer s H E) (fun c d _ H' => E c d H') := takes_of rfl rfl rfl (E₁ := fun e' s'' => L2.CX P w outer H s E e' s'') rfl
theorem owns_cx : PassesOwn (model P w) (cxOf (L2.CX P w) P w K mg base N qual scope f cd A outer s H E).A (cxOf (L2.CX P w) P w K mg base N qual scope f cd A outer s H E).env (cxOf (L2.CX P w) P w K mg base N qual scope f cd A outer s H E).xe :=
  passes_of (X := cxOf (L2.CX P w) P w K mg base N qual scope f cd A outer s H E) (K := fun e s'' => L2.CX P w outer H s E e s'') (E₁ := fun e' s'' => L2.CX P w outer H s E e' s'') rfl
theorem takes_F {X : Cx} : Takes X wF := takes0
/-- a def of which nothing is asked -/
def Fstk : Fn := fun _ _ => .stuck
theorem def_stk {cl : Nat → Addr} {k : Nat} {fd : FuncData} {ps : List Str} : DefOk P w K mg base cl k f fd ps Fstk :=
  ⟨fun vs H Q E h => h.1, fun A outer s H args us vs Q E _ _ _ _ h => by obtain ⟨_, _, _, _, _, _, z⟩ := h; exact z.elim⟩
end
/-- a def by its body -/
theorem def_by {P : Program} {w : World} {K : PySem.W.Frag} {mg : Str → Option Value} {base : Heap} {cl : Nat → Addr} {k n : Nat} {f : Addr} {fd : FuncData} {ps : List Str} {x qual : Str} {st : Stmt} {N : List Str} {b : M Fl} (F : L2.Fun K x qual st f fd) (S : FnScope N ps (defScope st)) (hn : N.length = n)
    (hb : ∀ (cdv : Value) (A : Around) (outer : List Env) (s : Shared) (H : Hp) (E : XK), Room k (A.deeper (PyProof.Rows.envOfC qual (defScope st) s.heap.objs.size f cdv)) →
      SSs (cxOf (L2.CX P w) P w K mg base N qual (defScope st) f cdv A outer s H E) cl (fun c d _ H' => E c d H') (defBody st) b) : DefOk P w K mg base cl (k + 1) f fd ps (mDef n b) := by
  subst hn
  exact def_ok F S hb
section
variable {X : Cx} {cl : Nat → Addr} {W : WX} {x : Str} {pos : Pos}
theorem sv_gstr {z : Str} (hg : Gl X x) (hm : ∃ t, X.mg x = some (.str z t)) (hd : (x == ("__debug__" : Str)) = false := by decide) : SV X cl W (.Name x pos) (ret (.str z)) := by
  obtain ⟨t, hm⟩ := hm
  exact sv_c (pe_glob (v := .str z) hg hm ⟨t, rfl⟩ hd) fun _ _ => rfl
end

/-! ### comprehensions, the slots told -/
section
variable {X : Cx} {cl : Nat → Addr} {W : WX} {elt kx vx tg iter : Expr} {ifs : List Expr} {scope : Scope} {own : List (Str × Nat)} {ws vs : List Nat} {pos : Pos} {mi : M (List Val)} {t : RV → M Unit} {mc : M Bool} {me mk : M Val}
theorem se_lcN (hc : X.calm = true) (hN : X.N.Nodup) (hi : SI X cl W tg iter mi) (ok : BlkOk X.N X.env.scope scope own) (hv : own.map (·.2) = vs) (hsub : ∀ i ∈ ws, i ∈ vs)
    (hg : ∀ (s : Shared) (H : Hp) (C : Addr) (cs : List (Str × Addr)) (fp : List Addr), SG (X.blk s H scope (compEnvC scope cs C X.env) fp) cl wF tg ws t)
    (ht : ∀ (s : Shared) (H : Hp) (C : Addr) (cs : List (Str × Addr)) (fp : List Addr), SQ (X.blk s H scope (compEnvC scope cs C X.env) fp) cl wF ifs mc)
    (he : ∀ (s : Shared) (H : Hp) (C : Addr) (cs : List (Str × Addr)) (fp : List Addr), SV (X.blk s H scope (compEnvC scope cs C X.env) fp) cl wF elt me) (hs : ∀ x, foldedSetIterable iter X.env x = pure x := by intro _; rfl) :
    SE X cl W (.ListComp elt [⟨tg, iter, ifs, 0⟩] scope pos) (mLc vs mi t mc me) := by
  subst hv
  exact se_lc hc hN hi ok hsub hg ht he hs
theorem ss_setLcN {i : Nat} {y : Str} {py spos : Pos} (hc : X.calm = true) (hN : X.N.Nodup) (hy : X.N[i]? = some y) (hyl : X.env.scope.names.lookup y = some .local)
    (hsw : swapsWith (.ListComp elt [⟨tg, iter, ifs, 0⟩] scope pos) (some (.Name y py)) spos.line X.env = pure true) (hi : SI X cl W tg iter mi) (ok : BlkOk X.N X.env.scope scope own) (hv : own.map (·.2) = vs) (hsub : ∀ i ∈ ws, i ∈ vs)
    (hg : ∀ (s : Shared) (H : Hp) (C : Addr) (cs : List (Str × Addr)) (fp : List Addr), SG (X.blk s H scope (compEnvC scope cs C X.env) fp) cl wF tg ws t)
    (ht : ∀ (s : Shared) (H : Hp) (C : Addr) (cs : List (Str × Addr)) (fp : List Addr), SQ (X.blk s H scope (compEnvC scope cs C X.env) fp) cl wF ifs mc)
    (he : ∀ (s : Shared) (H : Hp) (C : Addr) (cs : List (Str × Addr)) (fp : List Addr), SV (X.blk s H scope (compEnvC scope cs C X.env) fp) cl wF elt me) (hs : ∀ x, foldedSetIterable iter X.env x = pure x := by intro _; rfl) :
    SS X cl W (.Assign [.Name y py] (.ListComp elt [⟨tg, iter, ifs, 0⟩] scope pos) spos) (bnd (mLc vs mi t mc me) fun r => bnd (mStore i r) fun _ => ret .nx) := by
  subst hv
  exact ss_setLc hc hN hy hyl hsw hi ok hsub hg ht he hs
theorem se_dcN (hc : X.calm = true) (hN : X.N.Nodup) (hi : SI X cl W tg iter mi) (ok : BlkOk X.N X.env.scope scope own) (hv : own.map (·.2) = vs) (hsub : ∀ i ∈ ws, i ∈ vs)
    (hg : ∀ (s : Shared) (H : Hp) (C : Addr) (cs : List (Str × Addr)) (fp : List Addr), SG (X.blk s H scope (compEnvC scope cs C X.env) fp) cl wF tg ws t)
    (ht : ∀ (s : Shared) (H : Hp) (C : Addr) (cs : List (Str × Addr)) (fp : List Addr), SQ (X.blk s H scope (compEnvC scope cs C X.env) fp) cl wF ifs mc)
    (hk : ∀ (s : Shared) (H : Hp) (C : Addr) (cs : List (Str × Addr)) (fp : List Addr), SV (X.blk s H scope (compEnvC scope cs C X.env) fp) cl wF kx mk)
    (he : ∀ (s : Shared) (H : Hp) (C : Addr) (cs : List (Str × Addr)) (fp : List Addr), SV (X.blk s H scope (compEnvC scope cs C X.env) fp) cl wF vx me) (hs : ∀ x, foldedSetIterable iter X.env x = pure x := by intro _; rfl) :
    SE X cl W (.DictComp kx vx [⟨tg, iter, ifs, 0⟩] scope pos) (mDc vs mi t mc mk me) := by
  subst hv
  exact se_dc hc hN hi ok hsub hg ht hk he hs
theorem ss_setDcN {i : Nat} {y : Str} {py spos : Pos} (hc : X.calm = true) (hN : X.N.Nodup) (hy : X.N[i]? = some y) (hyl : X.env.scope.names.lookup y = some .local)
    (hsw : swapsWith (.DictComp kx vx [⟨tg, iter, ifs, 0⟩] scope pos) (some (.Name y py)) spos.line X.env = pure true) (hi : SI X cl W tg iter mi) (ok : BlkOk X.N X.env.scope scope own) (hv : own.map (·.2) = vs) (hsub : ∀ i ∈ ws, i ∈ vs)
    (hg : ∀ (s : Shared) (H : Hp) (C : Addr) (cs : List (Str × Addr)) (fp : List Addr), SG (X.blk s H scope (compEnvC scope cs C X.env) fp) cl wF tg ws t)
    (ht : ∀ (s : Shared) (H : Hp) (C : Addr) (cs : List (Str × Addr)) (fp : List Addr), SQ (X.blk s H scope (compEnvC scope cs C X.env) fp) cl wF ifs mc)
    (hk : ∀ (s : Shared) (H : Hp) (C : Addr) (cs : List (Str × Addr)) (fp : List Addr), SV (X.blk s H scope (compEnvC scope cs C X.env) fp) cl wF kx mk)
    (he : ∀ (s : Shared) (H : Hp) (C : Addr) (cs : List (Str × Addr)) (fp : List Addr), SV (X.blk s H scope (compEnvC scope cs C X.env) fp) cl wF vx me) (hs : ∀ x, foldedSetIterable iter X.env x = pure x := by intro _; rfl) :
    SS X cl W (.Assign [.Name y py] (.DictComp kx vx [⟨tg, iter, ifs, 0⟩] scope pos) spos) (bnd (mDc vs mi t mc mk me) fun r => bnd (mStore i r) fun _ => ret .nx) := by
  subst hv
  exact ss_setDc hc hN hy hyl hsw hi ok hsub hg ht hk he hs
end
end PV

/-! PvU: a comprehension over a list that a name has of its own, and keeps. -/
namespace PV
open PySem PySem.Spec L2

/-- the list of the name j, lent -/
def lend (j : Nat) (st : State) : Option (List Val × State) := match st.ρ[j]? with
  | some (.own (.lst ds)) => if ds.length ≤ 16777216 then some (ds, { st with ρ := st.ρ.set j .unb }) else none
  | _ => none
def giveBack (j : Nat) (ds : List Val) (st : State) : State := { st with ρ := st.ρ.set j (.own (.lst ds)) }
def mLcO (vs : List Nat) (j : Nat) (t : RV → M Unit) (c : M Bool) (e : M Val) : M RV := fun st => match lend j st with
  | some (ds, st1) => match mLcGo vs t c e ds [] st1 with
    | .ok ys st' => .ok (.fr (.lst ys)) (giveBack j ds (restS vs st1 st'))
    | _ => .stuck
  | none => .stuck
theorem back_rel {K : PySem.W.Frag} {cl : Nat → Addr} {G H : Hp} {μ : List Addr} {σ : L2.St} {st : State} {j : Nat} {a : Addr} {ds : List Val} {us : List V} (rel : Rel K cl (L2.upd G a (.lst us)) μ H σ st) (g : G a = none) (hσ : σ[j]? = some (some (.ref a))) (r : Reps K μ H ds us) :
    Rel K cl G μ H σ (giveBack j ds st) := by
  obtain ⟨e, n, no⟩ := rel.protN
  have h := rel.weak g
  have hl : j < st.ρ.length := by rw [h.len]; exact (List.getElem?_eq_some_iff.mp hσ).1
  have get : ∀ (i : Nat), i ≠ j → (st.ρ.set j (Slot.own (.lst ds)))[i]? = st.ρ[i]? := fun i hi => List.getElem?_set_ne (Ne.symm hi)
  have self : (st.ρ.set j (Slot.own (.lst ds)))[j]? = some (.own (.lst ds)) := List.getElem?_set_self hl
  refine ⟨h.sto, by show (st.ρ.set j _).length = _; rw [List.length_set]; exact h.len, fun i s w e1 e2 => ?_, fun i o b e1 e2 => ?_, fun i k o1 o2 b e1 e2 e3 e4 => ?_⟩
  · have e1 : (st.ρ.set j (Slot.own (.lst ds)))[i]? = some s := e1
    by_cases hi : i = j
    · subst hi
      rw [self] at e1
      cases e1
      rw [hσ] at e2
      cases e2
      exact ⟨a, rfl, us, e, r⟩
    · rw [get i hi] at e1
      exact h.slot i s w e1 e2
  · have e1 : (st.ρ.set j (Slot.own (.lst ds)))[i]? = some (.own o) := e1
    by_cases hi : i = j
    · subst hi
      rw [hσ] at e2
      cases e2
      exact ⟨g, n⟩
    · rw [get i hi] at e1
      exact h.own i o b e1 e2
  · have e1 : (st.ρ.set j (Slot.own (.lst ds)))[i]? = some (.own o1) := e1
    have e2 : (st.ρ.set j (Slot.own (.lst ds)))[k]? = some (.own o2) := e2
    by_cases hi : i = j
    · by_cases hk : k = j
      · rw [hi, hk]
      · subst hi
        rw [hσ] at e3
        cases e3
        rw [get k hk] at e2
        exact absurd e4 (no k o2 e2)
    · by_cases hk : k = j
      · subst hk
        rw [hσ] at e4
        cases e4
        rw [get i hi] at e1
        exact absurd e3 (no i o1 e1)
      · rw [get i hi] at e1
        rw [get k hk] at e2
        exact h.apart i k o1 o2 b e1 e2 e3 e4
section
variable {X : Cx} {cl : Nat → Addr} {W : WX} {elt tg iter : Expr} {ifs : List Expr} {scope : Scope} {own : List (Str × Nat)} {ws vs : List Nat} {pos : Pos} {t : RV → M Unit} {mc : M Bool} {me : M Val}
theorem lcO_read {j : Nat} {x : Str} {σ : L2.St} {H : Hp} {Q : VK} (hsub : ∀ i ∈ ws, i ∈ vs) (hj : j ∉ vs) (hw : ∃ G μ st, Rel X.K cl G μ H σ st ∧ Post X.K cl W G μ H σ (RRV X.K cl G σ) Q (mLcO vs j t mc me st)) :
    tLc (fun σ H R => ∃ v, σ[j]? = some (some v) ∧ ∃ a, v = V.ref a ∧ (∃ xs, SqL X.K H a xs) ∧ R (Itl X.K a) H) (tSG X cl wF ws t) (tST X cl wF mc) (tSV X cl wF me) vs σ H Q := by
  obtain ⟨G, μ, st, rel, hw⟩ := hw
  unfold mLcO lend at hw
  cases es : st.ρ[j]? with
  | none => rw [es] at hw; exact hw.elim
  | some sl =>
  rw [es] at hw
  cases sl with
  | unb => exact hw.elim
  | shr d => exact hw.elim
  | own o =>
  cases o with
  | dct _ => exact hw.elim
  | ins _ _ => exact hw.elim
  | lst ds =>
  dsimp only at hw
  by_cases hz : ds.length ≤ 16777216
  case neg => rw [if_neg hz] at hw; exact hw.elim
  rw [if_pos hz] at hw
  dsimp only at hw
  obtain ⟨w, ew, sr⟩ := rel.get es
  obtain ⟨a, rfl, us, ea, ru⟩ := sr
  obtain ⟨ga, na⟩ := rel.own j _ a es ew
  have noA : ∀ (i : Nat) (o' : MO), (st.ρ.set j Slot.unb)[i]? = some (.own o') → σ[i]? ≠ some (some (.ref a)) := fun i o' e1 e2 => by
    by_cases hi : i = j
    · subst hi
      rw [List.getElem?_set_self (List.getElem?_eq_some_iff.mp es).1] at e1; cases e1
    · rw [List.getElem?_set_ne (Ne.symm hi)] at e1
      exact hi (rel.apart i j o' _ a e1 es e2 ew)
  have rel1 : Rel X.K cl (L2.upd G a (.lst us)) μ H σ { st with ρ := st.ρ.set j .unb } := (rel.forget j).prot ea na noA
  refine ⟨.ref a, ew, a, rfl, ⟨us, .inl (.inl ea)⟩, fun D nD => ?_⟩
  cases eg : mLcGo vs t mc me ds [] { st with ρ := st.ρ.set j .unb } with
  | stuck => rw [eg] at hw; exact hw.elim
  | exc C fs st' => rw [eg] at hw; exact hw.elim
  | ok ys st' =>
    rw [eg] at hw
    have neD : D ≠ a := fun z => by rw [z, ea] at nD; cases nD
    obtain ⟨g1, g2, g3⟩ := rel1.noneG nD
    have ex : Ext H (L2.upd H D (.lst [])) := Ext.new nD
    -- the lent list stands as it stood
    have keepA : ∀ {μ2 : List Addr} {H2 : Hp} {st2 : State} {vacc : List V}, Rel X.K cl (L2.upd (L2.upd G a (.lst us)) D (.lst vacc)) μ2 H2 (wipe σ vs) (wipeS vs st2) → H2 a = some (.lst us) := fun r =>
      r.sto.keep a _ (by rw [upd_ne (Ne.symm neD)]; exact upd_same)
    have lenU := Reps.length ru
    refine ⟨fun i k H2 => k = ds.length - i ∧ i ≤ ds.length ∧ ∃ μ2 st2 acc vacc, μ <+: μ2 ∧ Mono H H2 ∧ H2 D = some (.lst vacc) ∧ Reps X.K μ2 H2 acc vacc ∧ acc.length ≤ i ∧
      Rel X.K cl (L2.upd (L2.upd G a (.lst us)) D (.lst vacc)) μ2 H2 (wipe σ vs) (wipeS vs st2) ∧ mLcGo vs t mc me (ds.drop i) acc st2 = .ok ys st', ⟨ds.length, by simp, Nat.zero_le _, μ, _, [], [], List.prefix_refl _, ex.mono, upd_same, rfl, Nat.le_refl _, ?_, eg⟩, ?_⟩
    · exact (((rel1.ext ex).prot upd_same g2 g3)).wipe vs
    rintro i k H2 ⟨rfl, hi, μ2, st2, acc, vacc, p2, m2, eD, ra, hl, rel2, hg⟩
    have ea2 := keepA rel2
    by_cases hlt : i < ds.length
    · refine .inr ⟨⟨us, us[i]'(by omega), .inl (.inl ea2), List.getElem?_eq_getElem (by omega)⟩, fun H2 => ∃ μ2 st2 acc vacc, μ <+: μ2 ∧ Mono H H2 ∧ H2 D = some (.lst vacc) ∧ Reps X.K μ2 H2 acc vacc ∧ acc.length ≤ i + 1 ∧
        Rel X.K cl (L2.upd (L2.upd G a (.lst us)) D (.lst vacc)) μ2 H2 (wipe σ vs) (wipeS vs st2) ∧ mLcGo vs t mc me (ds.drop (i + 1)) acc st2 = .ok ys st', fun H' z => ⟨ds.length - (i + 1), by omega, rfl, hlt, z⟩, fun v H3 y => ?_⟩
      have hd : ds[i]? = some ds[i] := List.getElem?_eq_getElem hlt
      obtain ⟨rfl, y⟩ := y
      obtain ⟨v', h1, h2⟩ := Reps.get ru hd
      have h3 := y us (.inl (.inl ea2))
      rw [h1] at h3
      cases h3
      rw [List.drop_eq_getElem_cons hlt] at hg
      unfold mLcGo at hg
      obtain ⟨_, s4, e4, hg4⟩ := bnd_ok hg
      refine ⟨_, μ2, wipeS vs st2, .sh ds[i], rel2, Rep.mono p2 m2 _ _ h2, ?_⟩
      rw [e4]
      intro σ4 H4 μ4 p4 m4 rel4 same
      have ew : wipe σ4 vs = wipe σ vs := by
        have h1 := same.wipe hsub
        rw [h1]
        exact SameB.wipe (vs := vs) ⟨wipe_len σ vs, fun j hj => wipe_out hj⟩ fun _ z => z
      refine ⟨ew, _, μ4, s4, rel4, ?_⟩
      obtain ⟨b, s5, e5, hg5⟩ := bnd_ok hg4
      rw [e5]
      intro b' H5 μ5 p5 m5 rel5 eb
      subst eb
      have ra5 : Reps X.K μ5 H5 acc vacc := Reps.mono (p4.trans p5) (m4.trans m5) _ _ ra
      have m15 : Mono H H5 := (m2.trans m4).trans m5
      have p15 := (p2.trans p4).trans p5
      cases b with
      | false =>
        rw [if_neg Bool.false_ne_true] at hg5 ⊢
        refine ⟨μ5, s5, acc, vacc, p15, m15, rel5.protN.1, ra5, Nat.le_succ_of_le hl, ?_, hg5⟩
        have z := rel5.wipe vs
        rw [ew] at z
        exact z
      | true =>
        rw [if_pos rfl] at hg5 ⊢
        obtain ⟨d, s6, e6, hg6⟩ := bnd_ok hg5
        refine ⟨_, μ5, s5, rel5, ?_⟩
        rw [e6]
        intro y6 H6 μ6 p6 m6 rel6 r6
        have e6D := rel6.protN.1
        have mo : Mono H6 (L2.upd H6 D (.lst (vacc ++ [y6]))) := mono_upd (.inl (by rw [e6D]; trivial))
        refine ⟨vacc, e6D, ?_, μ6, s6, acc ++ [d], vacc ++ [y6], p15.trans p6, (m15.trans m6).trans mo, upd_same, ?_, by rw [List.length_append]; simp; omega, ?_, hg6⟩
        · have h1 := Reps.length ra
          rw [sizeLine_eq]
          omega
        · exact Reps.snoc (Rep.mono (List.prefix_refl _) mo _ _ r6) (Reps.mono p6 (m6.trans mo) _ _ ra5)
        · have z := (rel6.reprot (o' := .lst (vacc ++ [y6])) g1 trivial).wipe vs
          rw [ew] at z
          exact z
    · have e : i = ds.length := by omega
      subst e
      rw [List.drop_length] at hg
      unfold mLcGo at hg
      cases hg
      refine .inl ⟨⟨us, .inl (.inl ea2), by omega⟩, ?_⟩
      obtain ⟨_, n2, no2⟩ := rel2.protN
      have relR : Rel X.K cl (L2.upd G a (.lst us)) μ2 H2 σ _ := Rel.rest (vs := vs) rel1 p2 m2 (rel2.weak g1)
      have g1' : G D = none := by rw [upd_ne neD] at g1; exact g1
      refine hw _ H2 μ2 p2 m2 (back_rel relR ga ew (Reps.mono p2 m2 _ _ ru)) ⟨D, rfl, ⟨vacc, eD, ra⟩, g1', n2, fun k o' e1 e2 => ?_⟩
      by_cases hk : k = j
      · subst hk
        rw [ew] at e2
        cases e2
        exact neD rfl
      · have e1 : ((restS vs _ _).ρ.set j (Slot.own (.lst ds)))[k]? = some (.own o') := e1
        rw [List.getElem?_set_ne (Ne.symm hk)] at e1
        obtain ⟨hkv, q⟩ := restOwn e1
        exact no2 k o' q (by rw [wipe_out hkv]; exact e2)
/-- [e for .. in x], x the name of an own list that goes on being one's own -/
theorem se_lcO {j : Nat} {x : Str} {px : Pos} (hc : X.calm = true) (hN : X.N.Nodup) (hx : X.N[j]? = some x) (hvis : Vis X.env.scope x) (ok : BlkOk X.N X.env.scope scope own) (hv : own.map (·.2) = vs) (hsub : ∀ i ∈ ws, i ∈ vs) (hj : j ∉ vs)
    (hg : ∀ (s : Shared) (H : Hp) (C : Addr) (cs : List (Str × Addr)) (fp : List Addr), SG (X.blk s H scope (compEnvC scope cs C X.env) fp) cl wF tg ws t)
    (ht : ∀ (s : Shared) (H : Hp) (C : Addr) (cs : List (Str × Addr)) (fp : List Addr), SQ (X.blk s H scope (compEnvC scope cs C X.env) fp) cl wF ifs mc)
    (he : ∀ (s : Shared) (H : Hp) (C : Addr) (cs : List (Str × Addr)) (fp : List Addr), SV (X.blk s H scope (compEnvC scope cs C X.env) fp) cl wF elt me) (hs : ∀ y, foldedSetIterable (.Name x px) X.env y = pure y := by intro _; rfl)
    (hd : (x == ("__debug__" : Str)) = false := by decide) (hcd : (x == ("__classdict__" : Str)) = false := by decide) :
    SE X cl W (.ListComp elt [⟨tg, .Name x px, ifs, 0⟩] scope pos) (mLcO vs j t mc me) := by
  subst hv
  exact ⟨⟨fun pins s σ H Q I hw => (pe_lc hc hN (pi_list (pe_var (i := j) hx hvis hd hcd)) ok (fun s H C cs fp => (hg s H C cs fp).pg) (fun s H C cs fp => (ht s H C cs fp).pts) (fun s H C cs fp => (he s H C cs fp).pe) hs).run pins s σ H Q I (lcO_read (x := x) hsub hj hw)⟩⟩
end
end PV

/-! PvV: from a law's def to the walk. -/
namespace PV
open PySem PySem.Spec L2

/-- what is asked of a law's def -/
def spLaw (K : PySem.W.Frag) : Sp := fun vs H Q _ => ∃ (a : Addr) (ns : List Int), vs = [.ref a] ∧ Only H ∧ SqL K H a (ns.map V.int) ∧ ns.length ≤ 63 ∧ ∀ H', Q (.bl true) H'
/-- the law's def answers True -/
def Tells (F : Fn) : Prop := ∀ ns : List Int, ns.length ≤ 63 → ∃ S', F [.list (ns.map .int)] [] = .ok (.sh (.bool true)) S'
theorem law_fn {P : Program} {w : World} {K : PySem.W.Frag} {mg : Str → Option Value} {base : Heap} {cl : Nat → Addr} {k : Nat} {f : Addr} {fd : FuncData} {x : Str} {F : Fn} (h : DefOk P w K mg base cl k f fd [x] F) (hM : Tells F) :
    FnOk P w K mg base (L2.CX P w) k f fd [x] (spLaw K) := by
  refine FnOk.imp h fun vs H Q E ⟨a, ns, ev, hO, hS, hl, q⟩ => ?_
  subst ev
  obtain ⟨S', e⟩ := hM ns hl
  refine ⟨rfl, [], [.list (ns.map .int)], [], ⟨.ref a, [], rfl, ⟨a, ns.map V.int, rfl, ?_, rep_ints ns⟩, rfl⟩, ⟨rfl, fun n o b e => by simp at e, by simp, fun b z => by simp at z, fun b o e => ?_⟩, ?_⟩
  · rcases hS with (hS | ⟨o, hS⟩) | hS
    · rcases hO a with z | ⟨o, xs, z⟩
      · rw [hS] at z; cases z
      · rw [hS] at z; cases z
    · exact .inl ⟨o, hS⟩
    · exact .inr hS
  · unfold G0 at e
    split at e
    · cases e
    · exact e
  · rw [e]
    intro v H' μ' p m s r
    cases (show v = .bl true from r)
    exact q H'
theorem walkV {l : PySem.W.OpenLaw} {q : Program} {loose : List Str} {XP : (Str → Option Value) → Heap → Prop} {YP : World → Heap → Prop} {d : DefRec} {K : Params → PySem.W.Frag} {k : Nat} {x : Str} {F : Fn} (hr : Room k callerA) (hM : Tells F) (hn : l.most = some 63) (hdf : d.params.defaults = [])
    (hY : ∀ (w : World) (h : Heap), YP w h → (K w.params).In h)
    (hF : ∀ (w : World) (mg : Str → Option Value) (fa : Addr) (h : Heap), (K w.params).In h → h.Ns mainGlobals mg → mg d.name = some (.ref fa) →
      ∃ fd : FuncData, (∀ (s : Shared) (u : Value), BindsTo s fd ⟨[u], []⟩ [(x, u)]) ∧ ∀ base : Heap, (K w.params).In base → base.Ns mainGlobals mg → ∃ cl, DefOk l.prog w (K w.params) mg base cl k fa fd [x] F) :
    PySem.W.WalkO q loose XP YP l.row.toRowW d [] (fun f vs => PySem.call f vs) := by
  refine L2.walk_of (n := 63) (k := k) (x := x) (CX := fun w => L2.CX l.prog w) (sp := fun w => spLaw (K w.params)) hn (by decide) hdf hr hY (fun w mg fa h KX G hmg => ?_) (fun w H a ns hl hO hS => ⟨a, ns, rfl, hO, hS, hl, fun _ => rfl⟩) fun w H s e s' c => ?_
  · obtain ⟨fd, h1, h2⟩ := hF w mg fa h KX G hmg
    exact ⟨fd, h1, fun base b1 b2 => by obtain ⟨cl, h3⟩ := h2 base b1 b2; exact law_fn h3 hM⟩
  · obtain ⟨_, _, _, _, _, _, _, _, _, _, _, _, z⟩ := c
    exact z.elim
end PV

/-! PvW: what a body answers, from behind. -/
namespace PV
open PySem PySem.Spec L2

def Ok {α : Type} (o : Out α) (P : α → State → Prop) : Prop := match o with
  | .ok a s => P a s
  | _ => False
def FOk (o : FOut) (P : RV → List MO → Prop) : Prop := match o with
  | .ok r S => P r S
  | _ => False
section
variable {α β : Type} {m : M α} {f : α → M β} {st : State} {P : β → State → Prop} {a : α}
theorem ok_bnd : Ok (bnd m f st) P ↔ Ok (m st) fun a s => Ok (f a s) P := by
  unfold bnd Ok
  cases m st <;> rfl
theorem ok_ret {P : α → State → Prop} : Ok (ret a st) P ↔ P a st := Iff.rfl
theorem ok_mk {a : α} {s : State} {P : α → State → Prop} : Ok (.ok a s) P ↔ P a s := Iff.rfl
theorem Ok.mono {o : Out α} {P Q : α → State → Prop} (h : Ok o P) (k : ∀ a s, P a s → Q a s) : Ok o Q := by
  cases o with
  | ok a s => exact k a s h
  | exc _ _ _ => exact h
  | stuck => exact h
theorem FOk.mono {o : FOut} {P Q : RV → List MO → Prop} (h : FOk o P) (k : ∀ a s, P a s → Q a s) : FOk o Q := by
  cases o with
  | ok a s => exact k a s h
  | exc _ _ _ => exact h
  | stuck => exact h
end
theorem ok_call {F : Fn} {ds : List Val} {st : State} {P : RV → State → Prop} : Ok (mCall F ds st) P ↔ FOk (F ds st.S) fun r S' => P r { st with S := S' } := by
  unfold mCall Ok FOk
  cases F ds st.S <;> rfl
/-- a body's end -/
def EndP (P : RV → List MO → Prop) : Fl → State → Prop
  | .rt r, s => P r s.S
  | .nx, s => P (.sh .none) s.S
  | _, _ => False
theorem fok_def {n : Nat} {b : M Fl} {ds : List Val} {S : List MO} {P : RV → List MO → Prop} : FOk (mDef n b ds S) P ↔ Ok (b ⟨ds.map .shr ++ List.replicate (n - ds.length) .unb, S⟩) (EndP P) := by
  unfold mDef Ok FOk EndP
  cases b ⟨ds.map .shr ++ List.replicate (n - ds.length) .unb, S⟩ with
  | stuck => rfl
  | exc _ _ _ => rfl
  | ok f s => cases f <;> rfl
/-- the goal of what follows a statement -/
def SeqP (n : M Fl) (P : Fl → State → Prop) : Fl → State → Prop
  | .nx, s => Ok (n s) P
  | .bk, s => P .bk s
  | .ct, s => P .ct s
  | .rt r, s => P (.rt r) s
theorem ok_seq {m n : M Fl} {st : State} {P : Fl → State → Prop} : Ok (mSeq m n st) P ↔ Ok (m st) (SeqP n P) := by
  unfold mSeq
  rw [ok_bnd]
  constructor
  · intro h
    refine h.mono fun a s q => ?_
    cases a <;> exact q
  · intro h
    refine h.mono fun a s q => ?_
    cases a <;> exact q
theorem ok_mIf {α : Type} {c : M Bool} {m n : M α} {st : State} {P : α → State → Prop} : Ok (mIf c m n st) P ↔ Ok (c st) fun b s => if b = true then Ok (m s) P else Ok (n s) P := by
  unfold mIf
  rw [ok_bnd]
  constructor
  · intro h
    refine h.mono fun a s q => ?_
    cases a <;> exact q
  · intro h
    refine h.mono fun a s q => ?_
    cases a <;> exact q

/-! ### the primitives -/
section
variable {st : State}
theorem ok_oVar {i : Nat} {P : Opd → State → Prop} : Ok (oVar i st) P ↔ match st.ρ[i]? with
    | some .unb => False
    | some _ => P (.slot i) st
    | none => False := by
  unfold oVar Ok
  cases st.ρ[i]? with
  | none => rfl
  | some s => cases s <;> rfl
theorem ok_vVar {i : Nat} {P : Val → State → Prop} : Ok (vVar i st) P ↔ match st.ρ[i]? with
    | some (.shr d) => P d st
    | some (.own o) => match o.fz with
      | some d => P d { st with ρ := st.ρ.set i (.shr d) }
      | none => False
    | _ => False := by
  unfold vVar Ok
  cases st.ρ[i]? with
  | none => rfl
  | some s =>
    cases s with
    | unb => rfl
    | shr d => rfl
    | own o => dsimp only; cases o.fz <;> rfl
theorem ok_mVar {i : Nat} {P : RV → State → Prop} : Ok (mVar i st) P ↔ match st.ρ[i]? with
    | some (.shr d) => P (.sh d) st
    | some (.own o) => P (.fr o) { st with ρ := st.ρ.set i .unb }
    | _ => False := by
  unfold mVar Ok
  cases st.ρ[i]? with
  | none => rfl
  | some s => cases s <;> rfl
def OkO {α : Type} (x : Option α) (P : α → Prop) : Prop := match x with
  | some a => P a
  | none => False
theorem okO_some {α : Type} {a : α} {P : α → Prop} : OkO (some a) P ↔ P a := Iff.rfl
theorem okO_none {α : Type} {P : α → Prop} : OkO (none : Option α) P ↔ False := Iff.rfl
theorem ok_k1 {f : Val → Option RV} {x : Opd} {P : RV → State → Prop} : Ok (k1 f x st) P ↔ OkO (res st x) fun d => OkO (f d) fun r => P r st := by
  unfold k1 Ok OkO
  cases res st x with
  | none => rfl
  | some d => dsimp only; cases f d <;> rfl
theorem ok_k2 {f : Val → Val → Option RV} {x y : Opd} {P : RV → State → Prop} : Ok (k2 f x y st) P ↔ OkO (res st x) fun d => OkO (res st y) fun e => OkO (f d e) fun r => P r st := by
  unfold k2 Ok OkO
  cases res st x with
  | none => rfl
  | some d =>
    dsimp only
    cases res st y with
    | none => rfl
    | some e => dsimp only; cases f d e <;> rfl
theorem ok_kN {f : List Val → Option RV} {xs : List Opd} {P : RV → State → Prop} : Ok (kN f xs st) P ↔ OkO (resAll st xs) fun ds => OkO (f ds) fun r => P r st := by
  unfold kN Ok OkO
  cases resAll st xs with
  | none => rfl
  | some d => dsimp only; cases f d <;> rfl
theorem ok_frz {r : RV} {P : Val → State → Prop} : Ok (frz r st) P ↔ match r with
    | .sh d => P d st
    | .fr o => OkO o.fz fun d => P d st := by
  cases r with
  | sh d => rfl
  | fr o =>
    show Ok (ofO o.fz st) P ↔ OkO o.fz fun d => P d st
    cases o.fz <;> rfl
theorem ok_asB {d : Val} {P : Bool → State → Prop} : Ok (asB d st) P ↔ match d with
    | .bool b => P b st
    | _ => False := by cases d <;> rfl
theorem ok_asB' {r : RV} {P : Bool → State → Prop} : Ok (asB' r st) P ↔ match r with
    | .sh (.bool b) => P b st
    | _ => False := by
  cases r with
  | fr o => rfl
  | sh d => cases d <;> rfl
theorem ok_asI {d : Val} {P : Option Int → State → Prop} : Ok (asI d st) P ↔ match d with
    | .int i => P (some i) st
    | _ => False := by cases d <;> rfl
theorem ok_toSto {r : RV} {P : Val → State → Prop} : Ok (toSto r st) P ↔ match r with
    | .sh d => P d st
    | .fr o => P (.ref st.S.length) { st with S := st.S ++ [o] } := by cases r <;> rfl
theorem ok_mStore {i : Nat} {r : RV} {P : Unit → State → Prop} : Ok (mStore i r st) P ↔ P () { st with ρ := st.ρ.set i r.slot } := Iff.rfl
theorem ok_mSetIx {mv : M Val} {mo : M Opd} {mi : M Val} {P : Fl → State → Prop} : Ok (mSetIx mv mo mi st) P ↔ Ok (mv st) fun d s1 => Ok (mo s1) fun x s2 => Ok (mi s2) fun i s3 => OkO (recv s3 x) fun p => OkO (putIx p.1 i d) fun o' => P .nx (p.2 o') := by
  unfold mSetIx
  rw [ok_bnd]
  refine iff_of_eq (congrArg _ (funext fun d => funext fun s1 => propext ?_))
  rw [ok_bnd]
  refine iff_of_eq (congrArg _ (funext fun x => funext fun s2 => propext ?_))
  rw [ok_bnd]
  refine iff_of_eq (congrArg _ (funext fun i => funext fun s3 => propext ?_))
  unfold Ok OkO
  cases recv s3 x with
  | none => rfl
  | some p => dsimp only; cases putIx p.1 i d <;> rfl
theorem ok_onL {α : Type} {x : Opd} {f : List Val → Option (α × List Val)} {P : α → State → Prop} : Ok (onL x f st) P ↔ OkO (recv st x) fun p => match p.1 with
    | .lst ds => OkO (f ds) fun q => P q.1 (p.2 (.lst q.2))
    | _ => False := by
  unfold onL Ok OkO
  cases recv st x with
  | none => rfl
  | some p =>
    obtain ⟨o, wr⟩ := p
    cases o with
    | lst ds => dsimp only; cases f ds <;> rfl
    | dct _ => rfl
    | ins _ _ => rfl
theorem ok_chkL {α : Type} {x : Opd} {m : M α} {P : α → State → Prop} : Ok (chkL x m st) P ↔ OkO (recv st x) fun p => match p.1 with
    | .lst _ => Ok (m st) P
    | _ => False := by
  unfold chkL OkO
  cases recv st x with
  | none => rfl
  | some p =>
    obtain ⟨o, wr⟩ := p
    cases o <;> rfl
theorem ok_while {c : M Bool} {b : M Fl} {n : Nat} {P : Fl → State → Prop} : Ok (mWhile c b (n + 1) st) P ↔ Ok (c st) fun k s => if k = true then Ok (b s) fun f s' => match f with
    | .nx => Ok (mWhile c b n s') P
    | .ct => Ok (mWhile c b n s') P
    | .bk => P .nx s'
    | .rt r => P (.rt r) s' else P .nx s := by
  rw [mWhile, ok_bnd]
  refine iff_of_eq (congrArg _ (funext fun k => funext fun s => propext ?_))
  cases k with
  | false => rfl
  | true =>
    rw [if_pos rfl, if_pos rfl, ok_bnd]
    refine iff_of_eq (congrArg _ (funext fun f => funext fun s' => propext ?_))
    cases f <;> rfl
end

/-! ### what operands are -/
section
variable {st : State} {ρ : List Slot} {S : List MO}
theorem res_val {d : Val} : res st (.val d) = some (deref st.S d) := rfl
def slotV (S : List MO) : Option Slot → Option Val
  | some (.shr d) => some (deref S d)
  | some (.own o) => o.fz
  | _ => none
theorem res_slot {i : Nat} : res st (.slot i) = slotV st.S st.ρ[i]? := by
  show (match st.ρ[i]? with
    | some (.shr d) => some (deref st.S d)
    | some (.own o) => o.fz
    | _ => none) = slotV st.S st.ρ[i]?
  unfold slotV
  cases st.ρ[i]? with
  | none => rfl
  | some s => cases s <;> rfl
theorem slotV_shr {d : Val} : slotV S (some (.shr d)) = some (deref S d) := rfl
theorem slotV_own {o : MO} : slotV S (some (.own o)) = o.fz := rfl
theorem deref_non : deref S .none = .none := rfl
theorem deref_bool {b : Bool} : deref S (.bool b) = .bool b := rfl
theorem deref_int {b : Int} : deref S (.int b) = .int b := rfl
theorem deref_str {b : Str} : deref S (.str b) = .str b := rfl
theorem deref_tup {b : List Val} : deref S (.tup b) = .tup b := rfl
theorem deref_list {b : List Val} : deref S (.list b) = .list b := rfl
theorem deref_dict {b : List (Val × Val)} : deref S (.dict b) = .dict b := rfl
def deS (n : Nat) : Option MO → Val
  | some (.lst ds) => .list ds
  | some (.dct ds) => .dict ds
  | _ => .ref n
theorem deref_ref {n : Nat} : deref S (.ref n) = deS n S[n]? := by
  show (match S[n]? with
    | some (.lst ds) => Val.list ds
    | some (.dct ds) => .dict ds
    | _ => .ref n) = deS n S[n]?
  unfold deS
  cases S[n]? with
  | none => rfl
  | some o => cases o <;> rfl
theorem deS_lst {n : Nat} {ds : List Val} : deS n (some (.lst ds)) = .list ds := rfl
theorem deS_dct {n : Nat} {ds : List (Val × Val)} : deS n (some (.dct ds)) = .dict ds := rfl
theorem deS_ins {n c : Nat} {fs : List (Str × Val)} : deS n (some (.ins c fs)) = .ref n := rfl
theorem fz_lst {ds : List Val} : MO.fz (.lst ds) = some (.list ds) := rfl
theorem fz_dct {ds : List (Val × Val)} : MO.fz (.dct ds) = some (.dict ds) := rfl
theorem ok_frz_sh {d : Val} {P : Val → State → Prop} : Ok (frz (.sh d) st) P ↔ P d st := Iff.rfl
theorem ok_frz_lst {ds : List Val} {P : Val → State → Prop} : Ok (frz (.fr (.lst ds)) st) P ↔ P (.list ds) st := Iff.rfl
theorem ok_frz_dct {ds : List (Val × Val)} {P : Val → State → Prop} : Ok (frz (.fr (.dct ds)) st) P ↔ P (.dict ds) st := Iff.rfl
theorem ok_asB_b {b : Bool} {P : Bool → State → Prop} : Ok (asB (.bool b) st) P ↔ P b st := Iff.rfl
theorem ok_asB'_b {b : Bool} {P : Bool → State → Prop} : Ok (asB' (.sh (.bool b)) st) P ↔ P b st := Iff.rfl
theorem ok_asI_i {i : Int} {P : Option Int → State → Prop} : Ok (asI (.int i) st) P ↔ P (some i) st := Iff.rfl
theorem ok_app2 {f : Val → Val → Option RV} {m n : M Opd} {P : RV → State → Prop} : Ok (app2 f m n st) P ↔ Ok (m st) fun x s => Ok (n s) fun y s' => Ok (k2 f x y s') P := by
  unfold app2
  rw [ok_bnd]
  exact iff_of_eq (congrArg _ (funext fun x => funext fun s => propext ok_bnd))
theorem ok_app1 {f : Val → Option RV} {m : M Opd} {P : RV → State → Prop} : Ok (app1 f m st) P ↔ Ok (m st) fun x s => Ok (k1 f x s) P := ok_bnd
theorem ok_appN {f : List Val → Option RV} {m : M (List Opd)} {P : RV → State → Prop} : Ok (appN f m st) P ↔ Ok (m st) fun x s => Ok (kN f x s) P := ok_bnd
theorem ok_mAnd {m n : M Bool} {P : Bool → State → Prop} : Ok (mAnd m n st) P ↔ Ok (m st) fun b s => if b = true then Ok (n s) P else P false s := by
  unfold mAnd
  rw [ok_bnd]
  refine iff_of_eq (congrArg _ (funext fun b => funext fun s => propext ?_))
  cases b <;> exact Iff.rfl
theorem ok_mOr {m n : M Bool} {P : Bool → State → Prop} : Ok (mOr m n st) P ↔ Ok (m st) fun b s => if b = true then P true s else Ok (n s) P := by
  unfold mOr
  rw [ok_bnd]
  refine iff_of_eq (congrArg _ (funext fun b => funext fun s => propext ?_))
  cases b <;> exact Iff.rfl
theorem ok_mNot {m : M Bool} {P : Bool → State → Prop} : Ok (mNot m st) P ↔ Ok (m st) fun b s => P (!b) s := ok_bnd
theorem ix_list_i {ds : List Val} {i : Int} : fIx (.list ds) (.int i) = oS (L2.atI ds i) := rfl
theorem ix_tup_i {ds : List Val} {i : Int} : fIx (.tup ds) (.int i) = oS (L2.atI ds i) := rfl
theorem oS_some {d : Val} : oS (some d) = some (.sh d) := rfl
theorem eq_ii {i j : Int} : fEq (.int i) (.int j) = some (.sh (.bool (i == j))) := rfl
theorem eq_ss {i j : Str} : fEq (.str i) (.str j) = some (.sh (.bool (i == j))) := rfl
theorem ne_ii {i j : Int} : fNe (.int i) (.int j) = some (.sh (.bool (!(i == j)))) := rfl
theorem ne_ss {i j : Str} : fNe (.str i) (.str j) = some (.sh (.bool (!(i == j)))) := rfl
theorem add_ii {i j : Int} : fAdd (.int i) (.int j) = some (.sh (.int (i + j))) := rfl
theorem sub_ii {i j : Int} : fSub (.int i) (.int j) = some (.sh (.int (i - j))) := rfl
theorem mul_ii {i j : Int} (h : cMul i j = true) : fMul (.int i) (.int j) = some (.sh (.int (i * j))) := by
  show (if cMul i j = true then _ else _) = _
  rw [if_pos h]
theorem div_ii {i j : Int} (h : cDiv i j = true) : fDiv (.int i) (.int j) = some (.sh (.int (i / j))) := by
  show (if cDiv i j = true then _ else _) = _
  rw [if_pos h]
theorem mod_ii {i j : Int} (h : cMod i j = true) : fMod (.int i) (.int j) = some (.sh (.int (i % j))) := by
  show (if cMod i j = true then _ else _) = _
  rw [if_pos h]
theorem pow_ii {i j : Int} (h : cPow i j = true) : fPow (.int i) (.int j) = some (.sh (.int (i ^ j.toNat))) := by
  show (if cPow i j = true then _ else _) = _
  rw [if_pos h]
theorem gt_ii {i j : Int} : fGt (.int i) (.int j) = some (.sh (.bool (decide (j < i)))) := rfl
theorem ge_ii {i j : Int} : fGe (.int i) (.int j) = some (.sh (.bool (decide (j ≤ i)))) := rfl
theorem lt_ii {i j : Int} : fLt (.int i) (.int j) = some (.sh (.bool (decide (i < j)))) := rfl
theorem le_ii {i j : Int} : fLe (.int i) (.int j) = some (.sh (.bool (decide (i ≤ j)))) := rfl
theorem int_i {i : Int} : fInt [.int i] = some (.sh (.int i)) := rfl
end

theorem at0 {α : Type} {a : α} {l : List α} : L2.atI (a :: l) 0 = some a := atI_nat (j := 0) rfl
theorem at1 {α : Type} {a b : α} {l : List α} : L2.atI (a :: b :: l) 1 = some b := atI_nat (j := 1) rfl
theorem at2 {α : Type} {a b c : α} {l : List α} : L2.atI (a :: b :: c :: l) 2 = some c := atI_nat (j := 2) rfl
theorem at3 {α : Type} {a b c d : α} {l : List α} : L2.atI (a :: b :: c :: d :: l) 3 = some d := atI_nat (j := 3) rfl
theorem toPys_ints : ∀ ns : List Int, toPys (ns.map .int) = some (ns.map .int)
  | [] => rfl
  | n :: ns => by
    show toPys (.int n :: ns.map .int) = _
    rw [toPys, toPys_ints ns]
    rfl
theorem ne_ints (ns : List Int) : fNe (.list (ns.map .int)) (.list []) = some (.sh (.bool (!ns.isEmpty))) := by
  have e : toPy (.list (ns.map .int)) = some (.list (ns.map .int)) := by rw [toPy, toPys_ints]; rfl
  have s1 := PySem.W.ke_shaped_ints ns
  have s2 := PySem.W.ke_shaped_ints []
  show (match toPy (.list (ns.map .int)), toPy (.list []) with
    | some p, some q => if SeqAt.shaped p = true ∧ SeqAt.shaped q = true then some (RV.sh (.bool (!PyData.eqv p q))) else none
    | _, _ => none) = _
  rw [e, show toPy (.list []) = some (.list []) from rfl]
  dsimp only
  rw [if_pos ⟨s1, s2⟩]
  cases ns <;> simp [PyData.eqv, PyData.eqvAll]

theorem ixN0 {n : Nat} : ixN (n + 1) 0 = some 0 := by
  unfold ixN
  rw [if_pos (by decide), if_pos (by omega)]
  rfl
theorem seqP_nx {n : M Fl} {P : Fl → State → Prop} {s : State} : SeqP n P .nx s ↔ Ok (n s) P := Iff.rfl
theorem seqP_rt {n : M Fl} {P : Fl → State → Prop} {r : RV} {s : State} : SeqP n P (.rt r) s ↔ P (.rt r) s := Iff.rfl
theorem seqP_bk {n : M Fl} {P : Fl → State → Prop} {s : State} : SeqP n P .bk s ↔ P .bk s := Iff.rfl
theorem seqP_ct {n : M Fl} {P : Fl → State → Prop} {s : State} : SeqP n P .ct s ↔ P .ct s := Iff.rfl
theorem endP_rt {P : RV → List MO → Prop} {r : RV} {s : State} : EndP P (.rt r) s ↔ P r s.S := Iff.rfl
theorem endP_nx {P : RV → List MO → Prop} {s : State} : EndP P .nx s ↔ P (.sh .none) s.S := Iff.rfl
theorem ok_oCons {m : M Opd} {n : M (List Opd)} {st : State} {P : List Opd → State → Prop} : Ok (oCons m n st) P ↔ Ok (m st) fun x s => Ok (n s) fun xs s' => P (x :: xs) s' := by
  unfold oCons
  rw [ok_bnd]
  exact iff_of_eq (congrArg _ (funext fun x => funext fun s => propext ok_bnd))
theorem ok_mCons {m : M Val} {n : M (List Val)} {st : State} {P : List Val → State → Prop} : Ok (mCons m n st) P ↔ Ok (m st) fun x s => Ok (n s) fun xs s' => P (x :: xs) s' := by
  unfold mCons
  rw [ok_bnd]
  exact iff_of_eq (congrArg _ (funext fun x => funext fun s => propext ok_bnd))
theorem resAll_nil {st : State} : resAll st [] = some [] := rfl
def resC : Option Val → Option (List Val) → Option (List Val)
  | some d, some ds => some (d :: ds)
  | _, _ => none
theorem resAll_cons {st : State} {x : Opd} {xs : List Opd} : resAll st (x :: xs) = resC (res st x) (resAll st xs) := by
  rw [resAll]
  cases res st x with
  | none => rfl
  | some d => cases resAll st xs <;> rfl
theorem resC_some {d : Val} {ds : List Val} : resC (some d) (some ds) = some (d :: ds) := rfl
theorem put_list {ds : List Val} {j : Int} {d : Val} : putIx (.lst ds) (.int j) d = (ixN ds.length j).map fun n => .lst (ds.set n d) := by
  show (match ixN ds.length j with | some n => some (MO.lst (ds.set n d)) | none => none) = _
  cases ixN ds.length j <;> rfl
theorem ixN_of {n : Nat} {j : Nat} (h : j < n) : ixN n (j : Int) = some j := by
  unfold ixN
  rw [if_pos (by omega), if_pos (by omega)]
  simp
theorem ix4_0 : ixN 4 0 = some 0 := rfl
theorem ix4_1 : ixN 4 1 = some 1 := rfl
theorem ix4_2 : ixN 4 2 = some 2 := rfl
theorem ix4_3 : ixN 4 3 = some 3 := rfl

/-! ### comprehensions -/
theorem ok_mLc {vs : List Nat} {mi : M (List Val)} {t : RV → M Unit} {c : M Bool} {e : M Val} {st : State} {P : RV → State → Prop} : Ok (mLc vs mi t c e st) P ↔ Ok (mi st) fun ds s => Ok (mLcGo vs t c e ds [] s) fun ys s' => P (.fr (.lst ys)) (restS vs s s') := by
  unfold mLc
  rw [ok_bnd]
  refine iff_of_eq (congrArg _ (funext fun ds => funext fun s => propext ?_))
  unfold Ok
  cases mLcGo vs t c e ds [] s <;> rfl
theorem ok_lc_nil {vs : List Nat} {t : RV → M Unit} {c : M Bool} {e : M Val} {acc : List Val} {st : State} {P : List Val → State → Prop} : Ok (mLcGo vs t c e [] acc st) P ↔ P acc (wipeS vs st) := Iff.rfl
theorem ok_lc_cons {vs : List Nat} {t : RV → M Unit} {c : M Bool} {e : M Val} {d : Val} {ds acc : List Val} {st : State} {P : List Val → State → Prop} :
    Ok (mLcGo vs t c e (d :: ds) acc st) P ↔ Ok (t (.sh d) (wipeS vs st)) fun _ s1 => Ok (c s1) fun b s2 => if b = true then Ok (e s2) fun y s3 => Ok (mLcGo vs t c e ds (acc ++ [y]) s3) P else Ok (mLcGo vs t c e ds acc s2) P := by
  show Ok (bnd (t (.sh d)) _ (wipeS vs st)) P ↔ _
  rw [ok_bnd]
  refine iff_of_eq (congrArg _ (funext fun u => funext fun s1 => propext ?_))
  rw [ok_bnd]
  refine iff_of_eq (congrArg _ (funext fun b => funext fun s2 => propext ?_))
  cases b with
  | true => rw [if_pos rfl, if_pos rfl, ok_bnd]
  | false => rw [if_neg Bool.false_ne_true, if_neg Bool.false_ne_true]
theorem ok_mDc {vs : List Nat} {mi : M (List Val)} {t : RV → M Unit} {c : M Bool} {k e : M Val} {st : State} {P : RV → State → Prop} : Ok (mDc vs mi t c k e st) P ↔ Ok (mi st) fun ds s => Ok (mDcGo vs t c k e ds [] s) fun ys s' => P (.fr (.dct ys)) (restS vs s s') := by
  unfold mDc
  rw [ok_bnd]
  refine iff_of_eq (congrArg _ (funext fun ds => funext fun s => propext ?_))
  unfold Ok
  cases mDcGo vs t c k e ds [] s <;> rfl
/-! ### loops -/
def ForP (t : RV → M Unit) (b : M Fl) (ds : List Val) (P : Fl → State → Prop) : Fl → State → Prop
  | .nx, s => Ok (mFor t b ds s) P
  | .ct, s => Ok (mFor t b ds s) P
  | .bk, s => P .nx s
  | .rt r, s => P (.rt r) s
theorem ok_for_nil {t : RV → M Unit} {b : M Fl} {st : State} {P : Fl → State → Prop} : Ok (mFor t b [] st) P ↔ P .nx st := Iff.rfl
theorem ok_for_cons {t : RV → M Unit} {b : M Fl} {d : Val} {ds : List Val} {st : State} {P : Fl → State → Prop} : Ok (mFor t b (d :: ds) st) P ↔ Ok (t (.sh d) st) fun _ s1 => Ok (b s1) (ForP t b ds P) := by
  rw [mFor, ok_bnd]
  refine iff_of_eq (congrArg _ (funext fun u => funext fun s1 => propext ?_))
  rw [ok_bnd]
  refine iff_of_eq (congrArg _ (funext fun f => funext fun s2 => propext ?_))
  cases f <;> rfl

theorem len_list {ds : List Val} : fLen [.list ds] = some (.sh (.int ds.length)) := rfl
theorem len_tup {ds : List Val} : fLen [.tup ds] = some (.sh (.int ds.length)) := rfl
theorem list_list {ds : List Val} : fList [.list ds] = some (.fr (.lst ds)) := rfl
theorem list_tup {ds : List Val} : fList [.tup ds] = some (.fr (.lst ds)) := rfl
end PV

namespace K02
open PySem PySem.Spec L2 PV
/-! ### what the defs compute -/
def b__law_start : M Fl := (bnd (bnd (mCons (bnd (appN fList (oCons (oVar 0) (ret []))) toSto) (mCons (ret (.int 0)) (mCons (ret (.int 0)) (mCons (ret (.int 11)) (ret []))))) fun ds => ret (.fr (.lst ds))) fun r => ret (.rt r))
def F__law_start : Fn := mDef 1 b__law_start
def w1c__law_draw : M Bool := (mAnd (bnd (app2 (fEq) (bnd (bnd (app2 fIx (oVar 0) (bnd (ret (.int 1)) fun d => ret (.val d))) frz) fun d => ret (.val d)) (bnd (ret (.int 0)) fun d => ret (.val d))) asB') (bnd (app2 (fNe) (bnd (bnd (app2 fIx (oVar 0) (bnd (ret (.int 0)) fun d => ret (.val d))) frz) fun d => ret (.val d)) (bnd (bnd (bnd (ret []) fun ds => ret (.fr (.lst ds))) frz) fun d => ret (.val d))) asB'))
def w2b__law_draw : M Fl := (mSeq (bnd (mPopAt (bnd (bnd (app2 fIx (oVar 0) (bnd (ret (.int 0)) fun d => ret (.val d))) frz) fun d => ret (.val d)) (ret (.int 0))) fun r => bnd (mStore 2 r) fun _ => ret .nx) (mSeq (mSetIx (bnd (app2 fMod (bnd (bnd (appN fInt (oCons (bnd (bnd (app2 fAdd (bnd (bnd (app2 fAdd (bnd (bnd (app2 fMul (bnd (bnd (app2 fIx (oVar 0) (bnd (ret (.int 3)) fun d => ret (.val d))) frz) fun d => ret (.val d)) (bnd (ret (.int 8191)) fun d => ret (.val d))) frz) fun d => ret (.val d)) (oVar 2)) frz) fun d => ret (.val d)) (bnd (ret (.int 3)) fun d => ret (.val d))) frz) fun d => ret (.val d)) (ret []))) frz) fun d => ret (.val d)) (bnd (ret (.int 2147483647)) fun d => ret (.val d))) frz) (oVar 0) (ret (.int 3))) (mSetIx (bnd (mIf (bnd (app2 (fGe) (oVar 2) (bnd (bnd (app2 fPow (bnd (ret (.int 10)) fun d => ret (.val d)) (bnd (ret (.int 18)) fun d => ret (.val d))) frz) fun d => ret (.val d))) asB') (bnd (vVar 2) fun d => ret (.sh d)) (bnd (ret (.int 0)) fun d => ret (.sh d))) frz) (oVar 0) (ret (.int 1)))))
def b__law_draw : M Fl := (mSeq (mSetIx (bnd (app2 fAdd (bnd (bnd (app2 fIx (oVar 0) (bnd (ret (.int 2)) fun d => ret (.val d))) frz) fun d => ret (.val d)) (bnd (ret (.int 1)) fun d => ret (.val d))) frz) (oVar 0) (ret (.int 2))) (mSeq (mWhile w1c__law_draw
  w2b__law_draw 100) (mSeq (mIf (bnd (app2 (fGt) (bnd (bnd (app2 fIx (oVar 0) (bnd (ret (.int 1)) fun d => ret (.val d))) frz) fun d => ret (.val d)) (bnd (ret (.int 0)) fun d => ret (.val d))) asB')
  (mSeq (bnd (app2 fMod (bnd (bnd (appN fInt (oCons (bnd (bnd (app2 fIx (oVar 0) (bnd (ret (.int 1)) fun d => ret (.val d))) frz) fun d => ret (.val d)) (ret []))) frz) fun d => ret (.val d)) (oVar 1)) fun r => bnd (mStore 3 r) fun _ => ret .nx) (mSeq (mSetIx (bnd (app2 fDiv (bnd (bnd (app2 fIx (oVar 0) (bnd (ret (.int 1)) fun d => ret (.val d))) frz) fun d => ret (.val d)) (oVar 1)) frz) (oVar 0) (ret (.int 1))) (bnd (mVar 3) fun r => ret (.rt r))))
  (ret .nx)) (mSeq (bnd (app2 fMod (bnd (bnd (appN fInt (oCons (bnd (bnd (app2 fPow (bnd (bnd (app2 fAdd (bnd (bnd (app2 fAdd (bnd (bnd (app2 fIx (oVar 0) (bnd (ret (.int 3)) fun d => ret (.val d))) frz) fun d => ret (.val d)) (bnd (bnd (app2 fMul (bnd (ret (.int 7919)) fun d => ret (.val d)) (bnd (bnd (app2 fIx (oVar 0) (bnd (ret (.int 2)) fun d => ret (.val d))) frz) fun d => ret (.val d))) frz) fun d => ret (.val d))) frz) fun d => ret (.val d)) (bnd (ret (.int 104729)) fun d => ret (.val d))) frz) fun d => ret (.val d)) (bnd (ret (.int 5)) fun d => ret (.val d))) frz) fun d => ret (.val d)) (ret []))) frz) fun d => ret (.val d)) (bnd (ret (.int 2147483629)) fun d => ret (.val d))) fun r => bnd (mStore 4 r) fun _ => ret .nx) (bnd (app2 fMod (bnd (bnd (app2 fMod (bnd (bnd (appN fInt (oCons (bnd (bnd (app2 fPow (bnd (bnd (app2 fAdd (bnd (bnd (app2 fAdd (bnd (bnd (app2 fMul (oVar 4) (bnd (ret (.int 48271)) fun d => ret (.val d))) frz) fun d => ret (.val d)) (bnd (bnd (app2 fMul (bnd (ret (.int 30011)) fun d => ret (.val d)) (bnd (bnd (app2 fIx (oVar 0) (bnd (ret (.int 2)) fun d => ret (.val d))) frz) fun d => ret (.val d))) frz) fun d => ret (.val d))) frz) fun d => ret (.val d)) (bnd (ret (.int 29)) fun d => ret (.val d))) frz) fun d => ret (.val d)) (bnd (ret (.int 3)) fun d => ret (.val d))) frz) fun d => ret (.val d)) (ret []))) frz) fun d => ret (.val d)) (bnd (ret (.int 1000000007)) fun d => ret (.val d))) frz) fun d => ret (.val d)) (oVar 1)) fun r => ret (.rt r))))))
def F__law_draw : Fn := mDef 5 b__law_draw
def k1e__law_mixed : M Val := (bnd (mPopAt (oVar 2) (bnd (bnd (mCons (vVar 0) (mCons (bnd (appN fLen (oCons (oVar 2) (ret []))) frz) (ret []))) fun ds => mCall F__law_draw ds) frz)) frz)
def b__law_mixed : M Fl := (mSeq (bnd (appN fList (oCons (oVar 1) (ret []))) fun r => bnd (mStore 2 r) fun _ => ret .nx) (bnd (mLc [3] (bnd (mCons (bnd (appN fLen (oCons (oVar 2) (ret []))) frz) (ret [])) itR1) (mStore 3) (ret true) k1e__law_mixed) fun r => ret (.rt r)))
def F__law_mixed : Fn := mDef 4 b__law_mixed
def b__law_hands : M Fl := (bnd (mSl (bnd (bnd (bnd (mCons (vVar 0) (mCons (bnd (bnd (mCons (ret (.str "a")) (mCons (ret (.str "b")) (mCons (ret (.str "c1")) (mCons (ret (.str "d")) (mCons (ret (.str "zed")) (mCons (ret (.str "m9")) (ret []))))))) fun ds => ret (.fr (.lst ds))) frz) (ret []))) fun ds => mCall F__law_mixed ds) frz) fun d => ret (.val d)) (ret none) (bnd (vVar 1) asI)) fun r => ret (.rt r))
def F__law_hands : Fn := mDef 2 b__law_hands
def b__law_pick : M Fl := (bnd (app2 fIx (oVar 1) (bnd (bnd (bnd (mCons (vVar 0) (mCons (bnd (appN fLen (oCons (oVar 1) (ret []))) frz) (ret []))) fun ds => mCall F__law_draw ds) frz) fun d => ret (.val d))) fun r => ret (.rt r))
def F__law_pick : Fn := mDef 2 b__law_pick
def l1b__law_map : M Fl := (mSeq (mPar 8 9 (bnd (mCons (vVar 0) (mCons (ret (.int 3)) (ret []))) fun ds => mCall F__law_draw ds) (bnd (mCons (vVar 0) (mCons (ret (.int 2)) (ret []))) fun ds => mCall F__law_draw ds)) (mIf (mAnd (bnd (app2 (fNe) (oVar 7) (oVar 5)) asB') (mOr (bnd (app2 (fEq) (oVar 2) (bnd (ret (.int 5)) fun d => ret (.val d))) asB') (bnd (bnd (app2 fIx (bnd (bnd (bnd (mCons (bnd (app2 (fEq) (oVar 7) (oVar 4)) frz) (mCons (bnd (app2 (fEq) (oVar 8) (bnd (ret (.int 0)) fun d => ret (.val d))) frz) (mCons (bnd (app2 (fEq) (oVar 9) (bnd (ret (.int 0)) fun d => ret (.val d))) frz) (mCons (bnd (app2 (fGt) (oVar 8) (bnd (ret (.int 0)) fun d => ret (.val d))) frz) (ret []))))) fun ds => ret (.fr (.lst ds))) frz) fun d => ret (.val d)) (bnd (bnd (app2 fMod (oVar 2) (bnd (ret (.int 4)) fun d => ret (.val d))) frz) fun d => ret (.val d))) frz) asB)))
  (bnd (mApp (oVar 6) (vVar 7)) fun _ => ret .nx)
  (ret .nx)))
def l2b__law_map : M Fl := (mSeq (bnd (bnd (mCons (vVar 5) (ret [])) fun ds => ret (.fr (.lst ds))) fun r => bnd (mStore 6 r) fun _ => ret .nx) (mSeq (bnd (bnd (vVar 1) itA) fun ds => mFor (mStore 7)
  l1b__law_map ds) (mSetIx (bnd (bnd (mCons (vVar 0) (mCons (vVar 6) (ret []))) fun ds => mCall F__law_mixed ds) frz) (oVar 3) (vVar 5))))
def b__law_map : M Fl := (mSeq (mPar 2 3 (bnd (mCons (vVar 0) (mCons (ret (.int 6)) (ret []))) fun ds => mCall F__law_draw ds) (ret (.fr (.dct [])))) (mSeq (bnd (bnd (mCons (vVar 0) (mCons (vVar 1) (ret []))) fun ds => mCall F__law_pick ds) fun r => bnd (mStore 4 r) fun _ => ret .nx) (mSeq (bnd (bnd (bnd (bnd (mCons (vVar 0) (mCons (vVar 1) (ret []))) fun ds => mCall F__law_mixed ds) frz) itA) fun ds => mFor (mStore 5)
  l2b__law_map ds) (bnd (mVar 3) fun r => ret (.rt r)))))
def F__law_map : Fn := mDef 10 b__law_map
def k1e__law_plain_map : M Val := (bnd (mCons (vVar 1) (mCons (bnd (appN fSorted (oCons (bnd (bnd (app2 fIx (oVar 0) (oVar 1)) frz) fun d => ret (.val d)) (ret []))) frz) (ret []))) fun ds => ret (.tup ds))
def b__law_plain_map : M Fl := (bnd (appN fDict (oCons (bnd (bnd (mLc [1] (bnd (bnd (appN fSorted (oCons (oVar 0) (ret []))) frz) itA) (mStore 1) (ret true) k1e__law_plain_map) frz) fun d => ret (.val d)) (ret []))) fun r => ret (.rt r))
def F__law_plain_map : Fn := mDef 2 b__law_plain_map
def k1e__law_maps : M Val := (bnd (bnd (mCons (vVar 6) (ret [])) fun ds => mCall F__law_plain_map ds) frz)
def l2b__law_maps : M Fl := (mSeq (bnd (bnd (mCons (vVar 0) (mCons (vVar 1) (ret []))) fun ds => mCall F__law_map ds) fun r => bnd (mStore 5 r) fun _ => ret .nx) (mIf (bnd (app2 (fIn true) (bnd (bnd (bnd (mCons (vVar 5) (ret [])) fun ds => mCall F__law_plain_map ds) frz) fun d => ret (.val d)) (bnd (bnd (mLcO [6] 3 (mStore 6) (ret true) k1e__law_maps) frz) fun d => ret (.val d))) asB')
  (bnd (mApp (oVar 3) (vVar 5)) fun _ => ret .nx)
  (ret .nx)))
def b__law_maps : M Fl := (mSeq (bnd (bnd (ret []) fun ds => ret (.fr (.lst ds))) fun r => bnd (mStore 3 r) fun _ => ret .nx) (mSeq (bnd (bnd (mCons (vVar 2) (ret [])) itR1) fun ds => mFor (mStore 4)
  l2b__law_maps ds) (bnd (mVar 3) fun r => ret (.rt r))))
def F__law_maps : Fn := mDef 7 b__law_maps
def k1e__law_row : M Val := (bnd (bnd (mCons (vVar 0) (mCons (bnd (appN fLen (oCons (oVar 1) (ret []))) frz) (ret []))) fun ds => mCall F__law_draw ds) frz)
def b__law_row : M Fl := (bnd (mLc [3] (bnd (mCons (bnd (bnd (mCons (vVar 0) (mCons (bnd (app2 fAdd (oVar 2) (bnd (ret (.int 1)) fun d => ret (.val d))) frz) (ret []))) fun ds => mCall F__law_draw ds) frz) (ret [])) itR1) (mStore 3) (ret true) k1e__law_row) fun r => ret (.rt r))
def F__law_row : Fn := mDef 4 b__law_row
def b_is_list : M Fl := (bnd (app1 (fIsis [.list, .tuple]) (oVar 0)) fun r => ret (.rt r))
def F_is_list : Fn := mDef 1 b_is_list
def k1e_is_name : M Val := (vOr (bnd (app2 (fIn false) (oVar 1) (bnd (ret (.str "abcdefghijklmnopqrstuvwxyz")) fun d => ret (.val d))) frz) (bnd (app2 (fIn false) (oVar 1) (bnd (ret (.str "0123456789")) fun d => ret (.val d))) frz))
def b_is_name : M Fl := (mSeq (mIf (mOr (mNot (bnd (bnd (app1 (fIsi .str) (oVar 0)) frz) asB)) (mOr (mNot (mChain (fLe) (fLe) (bnd (ret (.int 1)) fun d => ret (.val d)) (bnd (bnd (appN fLen (oCons (oVar 0) (ret []))) frz) fun d => ret (.val d)) (bnd (ret (.int 8)) fun d => ret (.val d)))) (bnd (app2 (fIn true) (bnd (bnd (app2 fIx (oVar 0) (bnd (ret (.int 0)) fun d => ret (.val d))) frz) fun d => ret (.val d)) (bnd (ret (.str "abcdefghijklmnopqrstuvwxyz")) fun d => ret (.val d))) asB')))
  (bnd (bnd (ret (.bool false)) fun d => ret (.sh d)) fun r => ret (.rt r))
  (ret .nx)) (bnd (appN fAll (oCons (bnd (bnd (mLc [1] (bnd (vVar 0) itA) (mStore 1) (ret true) k1e_is_name) frz) fun d => ret (.val d)) (ret []))) fun r => ret (.rt r)))
def F_is_name : Fn := mDef 2 b_is_name
def l1b_checked_hands : M Fl := (mSeq (mIf (mOr (mNot (bnd (bnd (bnd (mCons (vVar 3) (ret [])) fun ds => mCall F_is_name ds) frz) asB)) (bnd (app2 (fIn false) (oVar 3) (oVar 1)) asB'))
  stk
  (ret .nx)) (bnd (mApp (oVar 1) (vVar 3)) fun _ => ret .nx))
def b_checked_hands : M Fl := (mSeq (mIf (mNot (bnd (bnd (bnd (mCons (vVar 0) (ret [])) fun ds => mCall F_is_list ds) frz) asB))
  stk
  (ret .nx)) (mSeq (bnd (bnd (ret []) fun ds => ret (.fr (.lst ds))) fun r => bnd (mStore 1 r) fun _ => ret .nx) (mSeq (bnd (bnd (mCons (vVar 0) (ret [])) itE) fun ds => mFor (mUnpack 2 (tCons (mStore 2) (tCons (mStore 3) tNil)))
  l1b_checked_hands ds) (mSeq (mIf (bnd (app2 (fLt) (bnd (bnd (appN fLen (oCons (oVar 1) (ret []))) frz) fun d => ret (.val d)) (bnd (ret (.int 2)) fun d => ret (.val d))) asB')
  stk
  (ret .nx)) (bnd (appN fSorted (oCons (oVar 1) (ret []))) fun r => ret (.rt r))))))
def F_checked_hands : Fn := mDef 4 b_checked_hands
def b_is_hand_of : M Fl := (bnd (bnd (vAnd (bnd (bnd (mCons (vVar 0) (ret [])) fun ds => mCall F_is_name ds) frz) (bnd (app2 (fIn false) (oVar 0) (oVar 1)) frz)) fun d => ret (.sh d)) fun r => ret (.rt r))
def F_is_hand_of : Fn := mDef 2 b_is_hand_of
def k1e_is_map : M Val := (bnd (bnd (mCons (vVar 4) (mCons (vVar 1) (ret []))) fun ds => mCall F_is_hand_of ds) frz)
def k2k_is_map : M Val := (vVar 4)
def k3e_is_map : M Val := (ret (.bool true))
def l4b_is_map : M Fl := (mSeq (bnd (mGet1 (oVar 0) (vVar 2)) fun r => bnd (mStore 3 r) fun _ => ret .nx) (mSeq (mIf (mOr (mNot (bnd (bnd (bnd (mCons (vVar 3) (ret [])) fun ds => mCall F_is_list ds) frz) asB)) (mNot (bnd (bnd (appN fAll (oCons (bnd (bnd (mLc [4] (bnd (vVar 3) itA) (mStore 4) (ret true) k1e_is_map) frz) fun d => ret (.val d)) (ret []))) frz) asB)))
  (bnd (bnd (ret (.bool false)) fun d => ret (.sh d)) fun r => ret (.rt r))
  (ret .nx)) (mIf (mOr (bnd (app2 (fIn true) (oVar 2) (oVar 3)) asB') (bnd (app2 (fNe) (bnd (bnd (appN fLen (oCons (bnd (bnd (mDc [4] (bnd (vVar 3) itA) (mStore 4) (ret true) k2k_is_map k3e_is_map) frz) fun d => ret (.val d)) (ret []))) frz) fun d => ret (.val d)) (bnd (bnd (appN fLen (oCons (oVar 3) (ret []))) frz) fun d => ret (.val d))) asB'))
  (bnd (bnd (ret (.bool false)) fun d => ret (.sh d)) fun r => ret (.rt r))
  (ret .nx))))
def b_is_map : M Fl := (mSeq (mIf (mOr (mNot (bnd (bnd (app1 (fIsi .dict) (oVar 0)) frz) asB)) (bnd (app2 (fNe) (bnd (bnd (appN fLen (oCons (oVar 0) (ret []))) frz) fun d => ret (.val d)) (bnd (bnd (appN fLen (oCons (oVar 1) (ret []))) frz) fun d => ret (.val d))) asB'))
  (bnd (bnd (ret (.bool false)) fun d => ret (.sh d)) fun r => ret (.rt r))
  (ret .nx)) (mSeq (bnd (bnd (vVar 1) itA) fun ds => mFor (mStore 2)
  l4b_is_map ds) (bnd (bnd (ret (.bool true)) fun d => ret (.sh d)) fun r => ret (.rt r))))
def F_is_map : Fn := mDef 5 b_is_map
def k1k_checked_maps : M Val := (vVar 6)
def k2e_checked_maps : M Val := (bnd (appN fSorted (oCons (bnd (bnd (app2 fIx (oVar 4) (oVar 6)) frz) fun d => ret (.val d)) (ret []))) frz)
def l3b_checked_maps : M Fl := (mSeq (mIf (mNot (bnd (bnd (bnd (mCons (vVar 4) (mCons (vVar 1) (ret []))) fun ds => mCall F_is_map ds) frz) asB))
  stk
  (ret .nx)) (mSeq (bnd (mDc [6] (bnd (vVar 1) itA) (mStore 6) (ret true) k1k_checked_maps k2e_checked_maps) fun r => bnd (mStore 5 r) fun _ => ret .nx) (mSeq (mIf (bnd (app2 (fIn false) (oVar 5) (oVar 2)) asB')
  stk
  (ret .nx)) (bnd (mApp (oVar 2) (vVar 5)) fun _ => ret .nx))))
def b_checked_maps : M Fl := (mSeq (mIf (mOr (mNot (bnd (bnd (bnd (mCons (vVar 0) (ret [])) fun ds => mCall F_is_list ds) frz) asB)) (bnd (app2 (fEq) (bnd (bnd (appN fLen (oCons (oVar 0) (ret []))) frz) fun d => ret (.val d)) (bnd (ret (.int 0)) fun d => ret (.val d))) asB'))
  stk
  (ret .nx)) (mSeq (bnd (bnd (ret []) fun ds => ret (.fr (.lst ds))) fun r => bnd (mStore 2 r) fun _ => ret .nx) (mSeq (bnd (bnd (mCons (vVar 0) (ret [])) itE) fun ds => mFor (mUnpack 2 (tCons (mStore 3) (tCons (mStore 4) tNil)))
  l3b_checked_maps ds) (bnd (mVar 2) fun r => ret (.rt r)))))
def F_checked_maps : Fn := mDef 7 b_checked_maps
def b_Maps___init__ : M Fl := (mSeq (mSetFld 5 "own_hands" (bnd (bnd (mCons (vVar 1) (ret [])) fun ds => mCall F_checked_hands ds) frz) (oVar 0)) (mSetFld 5 "own_maps" (bnd (bnd (mCons (vVar 2) (mCons (mFld 5 "own_hands" (oVar 0)) (ret []))) fun ds => mCall F_checked_maps ds) frz) (oVar 0)))
def F_Maps___init__ : Fn := mDef 3 b_Maps___init__
def k1e__law_worths : M Val := (bnd (mCons (vVar 3) (mCons (bnd (bnd (mCons (vVar 0) (mCons (vVar 2) (ret []))) fun ds => mCall F__law_pick ds) frz) (ret []))) fun ds => ret (.tup ds))
def b__law_worths : M Fl := (mSeq (bnd (bnd (mCons (vVar 0) (mCons (bnd (bnd (mCons (bnd (bnd (mCons (ret (.int 0)) (mCons (ret (.int 1)) (ret []))) fun ds => ret (.fr (.lst ds))) frz) (mCons (bnd (bnd (mCons (ret (.int 0)) (mCons (ret (.int 1)) (ret []))) fun ds => ret (.fr (.lst ds))) frz) (mCons (bnd (bnd (mCons (ret (.int 1)) (ret [])) fun ds => ret (.fr (.lst ds))) frz) (mCons (bnd (bnd (mCons (bnd (app1 fNeg (bnd (ret (.int 3)) fun d => ret (.val d))) frz) (mCons (ret (.int 7)) (mCons (bnd (app2 fPow (bnd (ret (.int 10)) fun d => ret (.val d)) (bnd (ret (.int 8)) fun d => ret (.val d))) frz) (ret [])))) fun ds => ret (.fr (.lst ds))) frz) (ret []))))) fun ds => ret (.fr (.lst ds))) frz) (ret []))) fun ds => mCall F__law_pick ds) fun r => bnd (mStore 2 r) fun _ => ret .nx) (bnd (appN fDict (oCons (bnd (bnd (mLc [3] (bnd (bnd (bnd (mCons (vVar 0) (mCons (vVar 1) (ret []))) fun ds => mCall F__law_mixed ds) frz) itA) (mStore 3) (ret true) k1e__law_worths) frz) fun d => ret (.val d)) (ret []))) fun r => ret (.rt r)))
def F__law_worths : Fn := mDef 4 b__law_worths
def k1e__law_bent_course : M Val := (bnd (mCons (vVar 8) (mCons (bnd (app2 fIx (oVar 3) (oVar 8)) frz) (ret []))) fun ds => ret (.tup ds))
def k2e__law_bent_course : M Val := (bnd (mCons (vVar 8) (mCons (bnd (mIf (bnd (app2 (fEq) (oVar 8) (oVar 6)) asB') (bnd (vVar 10) fun d => ret (.sh d)) (app2 fIx (oVar 3) (oVar 8))) frz) (ret []))) fun ds => ret (.tup ds))
def k3e__law_bent_course : M Val := (bnd (mCons (vVar 8) (mCons (bnd (app2 fIx (oVar 3) (oVar 8)) frz) (ret []))) fun ds => ret (.tup ds))
def k4e__law_bent_course : M Val := (bnd (mCons (vVar 8) (mCons (bnd (mIf (bnd (app2 (fEq) (oVar 8) (oVar 6)) asB') (bnd (vVar 10) fun d => ret (.sh d)) (bnd (vVar 17) fun d => ret (.sh d))) frz) (ret []))) fun ds => ret (.tup ds))
def s5__law_bent_course : M Fl := (bnd (bnd (bnd (mCons (bnd (bnd (mCons (vVar 0) (mCons (ret (.int 11)) (ret []))) fun ds => mCall F__law_draw ds) frz) (mCons (bnd (bnd (mCons (vVar 0) (mCons (vVar 1) (ret []))) fun ds => mCall F__law_pick ds) frz) (ret []))) fun ds => ret (.tup ds)) fun d => ret (.sh d)) fun r => bnd ((mUnpack 2 (tCons (mStore 5) (tCons (mStore 6) tNil))) r) fun _ => ret .nx)
def s6__law_bent_course : M Fl := (bnd (mLc [8] (bnd (bnd (appN fSorted (oCons (oVar 3) (ret []))) frz) itA) (mStore 8) (ret true) k1e__law_bent_course) fun r => bnd (mStore 7 r) fun _ => ret .nx)
def s7__law_bent_course : M Fl := (bnd (bnd (mCons (ret .none) (mCons (ret (.int 5)) (mCons (ret (.str "ab")) (mCons (bnd (bnd (ret []) fun ds => ret (.fr (.lst ds))) frz) (mCons (bnd (ret (.fr (.dct []))) frz) (mCons (bnd (bnd (mCons (vVar 3) (ret [])) fun ds => ret (.fr (.lst ds))) frz) (mCons (bnd (bnd (mCons (vVar 3) (mCons (vVar 4) (mCons (vVar 4) (ret [])))) fun ds => ret (.fr (.lst ds))) frz) (mCons (bnd (bnd (mDisp [((ret (.str "a")), (ret (.int 1)))]) fun ps => if keysOk ps = true ∧ ps.length ≤ 15 then ret (.fr (.dct (mergeD [] ps))) else stk) frz) (mCons (ret (.bool true)) (mCons (vVar 3) (ret []))))))))))) fun ds => ret (.fr (.lst ds))) fun r => bnd (mStore 9 r) fun _ => ret .nx)
def s8__law_bent_course : M Fl := (mIf (bnd (app2 (fEq) (oVar 5) (bnd (ret (.int 0)) fun d => ret (.val d))) asB')
  (bnd (bnd (mCons (vVar 0) (mCons (vVar 9) (ret []))) fun ds => mCall F__law_pick ds) fun r => ret (.rt r))
  (ret .nx))
def s9__law_bent_course : M Fl := (bnd (bnd (mCons (vVar 0) (mCons (bnd (bnd (mCons (ret .none) (mCons (ret (.str "1")) (mCons (ret (.bool true)) (mCons (bnd (bnd (mCons (ret (.int 1)) (ret [])) fun ds => ret (.fr (.lst ds))) frz) (mCons (bnd (ret (.fr (.dct []))) frz) (ret [])))))) fun ds => ret (.fr (.lst ds))) frz) (ret []))) fun ds => mCall F__law_pick ds) fun r => bnd (mStore 10 r) fun _ => ret .nx)
def s10__law_bent_course : M Fl := (bnd (appN fDict (oCons (bnd (bnd (mLc [8] (bnd (vVar 3) itA) (mStore 8) (ret true) k2e__law_bent_course) frz) fun d => ret (.val d)) (ret []))) fun r => bnd (mStore 11 r) fun _ => ret .nx)
def s11__law_bent_course : M Fl := (bnd (appN fDict (oCons (bnd (bnd (mLc [8] (bnd (vVar 3) itA) (mStore 8) (bnd (app2 (fNe) (oVar 8) (oVar 6)) asB') k3e__law_bent_course) frz) fun d => ret (.val d)) (ret []))) fun r => bnd (mStore 12 r) fun _ => ret .nx)
def s12__law_bent_course : M Fl := (bnd (appN fDict (oCons (bnd (bnd (app2 fAdd (bnd (bnd (bnd (oVar 3) fun x => k1 (fun d => match d with
      | .dict ds => some (.fr (.lst (ds.map fun p => .tup [p.1, p.2])))
      | _ => none) x) frz) fun d => ret (.val d)) (bnd (bnd (bnd (mCons (bnd (mCons (ret (.str "nobody")) (mCons (ret (.int 0)) (ret []))) fun ds => ret (.tup ds)) (ret [])) fun ds => ret (.fr (.lst ds))) frz) fun d => ret (.val d))) frz) fun d => ret (.val d)) (ret []))) fun r => bnd (mStore 13 r) fun _ => ret .nx)
def s13__law_bent_course : M Fl := (bnd (app2 fAdd (oVar 7) (bnd (bnd (mSl (oVar 7) (ret none) (bnd (ret (.int 1)) asI)) frz) fun d => ret (.val d))) fun r => bnd (mStore 14 r) fun _ => ret .nx)
def s14__law_bent_course : M Fl := (bnd (app2 fAdd (bnd (bnd (bnd (mCons (bnd (mCons (bnd (app2 fIx (bnd (bnd (app2 fIx (oVar 7) (bnd (ret (.int 0)) fun d => ret (.val d))) frz) fun d => ret (.val d)) (bnd (ret (.int 0)) fun d => ret (.val d))) frz) (mCons (bnd (app2 fIx (bnd (bnd (app2 fIx (oVar 7) (bnd (ret (.int 0)) fun d => ret (.val d))) frz) fun d => ret (.val d)) (bnd (ret (.int 1)) fun d => ret (.val d))) frz) (ret []))) fun ds => ret (.tup ds)) (ret [])) fun ds => ret (.fr (.lst ds))) frz) fun d => ret (.val d)) (bnd (bnd (mSl (oVar 7) (ret none) (bnd (bnd (app1 fNeg (bnd (ret (.int 1)) fun d => ret (.val d))) frz) asI)) frz) fun d => ret (.val d))) fun r => bnd (mStore 15 r) fun _ => ret .nx)
def s15__law_bent_course : M Fl := (bnd (bnd (mCons (vVar 11) (mCons (vVar 12) (mCons (vVar 13) (mCons (vVar 14) (mCons (vVar 15) (mCons (bnd (mLc [8, 17] (bnd (vVar 7) itA) (mUnpack 2 (tCons (mStore 8) (tCons (mStore 17) tNil))) (ret true) k4e__law_bent_course) frz) (ret []))))))) fun ds => ret (.fr (.lst ds))) fun r => bnd (mStore 16 r) fun _ => ret .nx)
def s16__law_bent_course : M Fl := (mIf (bnd (app2 (fLt) (oVar 5) (bnd (ret (.int 7)) fun d => ret (.val d))) asB')
  (bnd (bnd (mCons (bnd (app2 fIx (oVar 16) (bnd (bnd (app2 fSub (oVar 5) (bnd (ret (.int 1)) fun d => ret (.val d))) frz) fun d => ret (.val d))) frz) (mCons (vVar 4) (ret []))) fun ds => ret (.fr (.lst ds))) fun r => ret (.rt r))
  (ret .nx))
def s17__law_bent_course : M Fl := (bnd (bnd (mCons (vVar 0) (mCons (bnd (app2 fAdd (bnd (bnd (appN fLen (oCons (oVar 4) (ret []))) frz) fun d => ret (.val d)) (bnd (ret (.int 1)) fun d => ret (.val d))) frz) (ret []))) fun ds => mCall F__law_draw ds) fun r => bnd (mStore 18 r) fun _ => ret .nx)
def s18__law_bent_course : M Fl := (bnd (bnd (mCons (vVar 0) (mCons (bnd (bnd (mCons (bnd (app1 fNeg (bnd (ret (.int 1)) fun d => ret (.val d))) frz) (mCons (bnd (appN fLen (oCons (oVar 2) (ret []))) frz) (mCons (ret .none) (mCons (ret (.str "0")) (mCons (ret (.bool true)) (mCons (bnd (bnd (mCons (ret (.int 0)) (ret [])) fun ds => ret (.fr (.lst ds))) frz) (ret []))))))) fun ds => ret (.fr (.lst ds))) frz) (ret []))) fun ds => mCall F__law_pick ds) fun r => bnd (mStore 10 r) fun _ => ret .nx)
def s19__law_bent_course : M Fl := (bnd (bnd (mCons (vVar 3) (mCons (bnd (app2 fIx (bnd (bnd (bnd (mCons (bnd (app2 fAdd (bnd (bnd (app2 fAdd (bnd (bnd (mSl (oVar 4) (ret none) (bnd (vVar 18) asI)) frz) fun d => ret (.val d)) (bnd (bnd (bnd (mCons (vVar 10) (ret [])) fun ds => ret (.fr (.lst ds))) frz) fun d => ret (.val d))) frz) fun d => ret (.val d)) (bnd (bnd (mSl (oVar 4) (bnd (vVar 18) asI) (ret none)) frz) fun d => ret (.val d))) frz) (mCons (ret .none) (mCons (ret (.int 5)) (mCons (bnd (ret (.fr (.dct []))) frz) (ret []))))) fun ds => ret (.fr (.lst ds))) frz) fun d => ret (.val d)) (bnd (bnd (app2 fMod (bnd (bnd (app2 fSub (oVar 5) (bnd (ret (.int 7)) fun d => ret (.val d))) frz) fun d => ret (.val d)) (bnd (ret (.int 4)) fun d => ret (.val d))) frz) fun d => ret (.val d))) frz) (ret []))) fun ds => ret (.fr (.lst ds))) fun r => ret (.rt r))
def b__law_bent_course : M Fl := (mSeq s5__law_bent_course (mSeq s6__law_bent_course (mSeq s7__law_bent_course (mSeq s8__law_bent_course (mSeq s9__law_bent_course (mSeq s10__law_bent_course (mSeq s11__law_bent_course (mSeq s12__law_bent_course (mSeq s13__law_bent_course (mSeq s14__law_bent_course (mSeq s15__law_bent_course (mSeq s16__law_bent_course (mSeq s17__law_bent_course (mSeq s18__law_bent_course s19__law_bent_course))))))))))))))
def F__law_bent_course : Fn := mDef 19 b__law_bent_course
def b_is_integer : M Fl := (bnd (bnd (vAnd (bnd (app1 (fIsi .int) (oVar 0)) frz) (vNot (bnd (app1 (fIsi .bool) (oVar 0)) frz))) fun d => ret (.sh d)) fun r => ret (.rt r))
def F_is_integer : Fn := mDef 1 b_is_integer
def b_Maps___len__ : M Fl := (bnd (appN fLen (oCons (bnd (mFld 5 "own_maps" (oVar 0)) fun d => ret (.val d)) (ret []))) fun r => ret (.rt r))
def F_Maps___len__ : Fn := mDef 1 b_Maps___len__
def b_is_index : M Fl := (bnd (bnd (vAnd (bnd (bnd (mCons (vVar 1) (ret [])) fun ds => mCall F_is_integer ds) frz) (bnd (mChain (fLe) (fLt) (bnd (ret (.int 0)) fun d => ret (.val d)) (oVar 1) (bnd (bnd (mLenI 5 F_Maps___len__ (oVar 0)) frz) fun d => ret (.val d))) fun b => ret (.bool b))) fun d => ret (.sh d)) fun r => ret (.rt r))
def F_is_index : Fn := mDef 2 b_is_index
def k1e_is_row : M Val := (bnd (bnd (mCons (vVar 0) (mCons (vVar 2) (ret []))) fun ds => mCall F_is_index ds) frz)
def b_is_row : M Fl := (bnd (bnd (vAnd (bnd (bnd (mCons (vVar 1) (ret [])) fun ds => mCall F_is_list ds) frz) (bnd (appN fAll (oCons (bnd (bnd (mLc [2] (bnd (vVar 1) itA) (mStore 2) (ret true) k1e_is_row) frz) fun d => ret (.val d)) (ret []))) frz)) fun d => ret (.sh d)) fun r => ret (.rt r))
def F_is_row : Fn := mDef 3 b_is_row
def k1e_kept_worths_1 : M Val := (vAnd (bnd (app2 (fIn false) (oVar 2) (oVar 0)) frz) (bnd (bnd (mCons (bnd (app2 fIx (oVar 0) (oVar 2)) frz) (ret [])) fun ds => mCall F_is_integer ds) frz))
def k2k_kept_worths_1 : M Val := (vVar 2)
def k3e_kept_worths_1 : M Val := (bnd (app2 fIx (oVar 0) (oVar 2)) frz)
def k4e_kept_worths_1 : M Val := (vAnd (bnd (bnd (mCons (vVar 3) (ret [])) fun ds => mCall F_is_list ds) frz) (vAnd (bnd (app2 (fEq) (bnd (bnd (appN fLen (oCons (oVar 3) (ret []))) frz) fun d => ret (.val d)) (bnd (ret (.int 2)) fun d => ret (.val d))) frz) (bnd (bnd (mCons (bnd (app2 fIx (oVar 3) (bnd (ret (.int 0)) fun d => ret (.val d))) frz) (mCons (vVar 1) (ret []))) fun ds => mCall F_is_hand_of ds) frz)))
def k5k_kept_worths_1 : M Val := (bnd (app2 fIx (oVar 3) (bnd (ret (.int 0)) fun d => ret (.val d))) frz)
def k6e_kept_worths_1 : M Val := (bnd (app2 fIx (oVar 3) (bnd (ret (.int 1)) fun d => ret (.val d))) frz)
def b_kept_worths_1 : M Fl := (mSeq (mIf (bnd (bnd (app1 (fIsi .dict) (oVar 0)) frz) asB)
  (mSeq (mIf (mOr (bnd (app2 (fNe) (bnd (bnd (appN fLen (oCons (oVar 0) (ret []))) frz) fun d => ret (.val d)) (bnd (bnd (appN fLen (oCons (oVar 1) (ret []))) frz) fun d => ret (.val d))) asB') (mNot (bnd (bnd (appN fAll (oCons (bnd (bnd (mLc [2] (bnd (vVar 1) itA) (mStore 2) (ret true) k1e_kept_worths_1) frz) fun d => ret (.val d)) (ret []))) frz) asB)))
  (bnd (bnd (ret .none) fun d => ret (.sh d)) fun r => ret (.rt r))
  (ret .nx)) (bnd (mDc [2] (bnd (vVar 1) itA) (mStore 2) (ret true) k2k_kept_worths_1 k3e_kept_worths_1) fun r => ret (.rt r)))
  (ret .nx)) (mSeq (mIf (mOr (mNot (bnd (bnd (bnd (mCons (vVar 0) (ret [])) fun ds => mCall F_is_list ds) frz) asB)) (bnd (app2 (fNe) (bnd (bnd (appN fLen (oCons (oVar 0) (ret []))) frz) fun d => ret (.val d)) (bnd (bnd (appN fLen (oCons (oVar 1) (ret []))) frz) fun d => ret (.val d))) asB'))
  (bnd (bnd (ret .none) fun d => ret (.sh d)) fun r => ret (.rt r))
  (ret .nx)) (mSeq (mIf (mNot (bnd (bnd (appN fAll (oCons (bnd (bnd (mLc [3] (bnd (vVar 0) itA) (mStore 3) (ret true) k4e_kept_worths_1) frz) fun d => ret (.val d)) (ret []))) frz) asB))
  (bnd (bnd (ret .none) fun d => ret (.sh d)) fun r => ret (.rt r))
  (ret .nx)) (mSeq (bnd (mDc [3] (bnd (vVar 0) itA) (mStore 3) (ret true) k5k_kept_worths_1 k6e_kept_worths_1) fun r => bnd (mStore 4 r) fun _ => ret .nx) (bnd (mIf (bnd (app2 (fEq) (bnd (bnd (appN fLen (oCons (oVar 4) (ret []))) frz) fun d => ret (.val d)) (bnd (bnd (appN fLen (oCons (oVar 1) (ret []))) frz) fun d => ret (.val d))) asB') (bnd (mCons (vVar 4) (mCons (vVar 1) (ret []))) fun ds => mCall Fstk ds) (bnd (ret .none) fun d => ret (.sh d))) fun r => ret (.rt r))))))
def F_kept_worths_1 : Fn := mDef 5 b_kept_worths_1
def k1e_kept_worths_2 : M Val := (vAnd (bnd (app2 (fIn false) (oVar 2) (oVar 0)) frz) (bnd (bnd (mCons (bnd (app2 fIx (oVar 0) (oVar 2)) frz) (ret [])) fun ds => mCall F_is_integer ds) frz))
def k2k_kept_worths_2 : M Val := (vVar 2)
def k3e_kept_worths_2 : M Val := (bnd (app2 fIx (oVar 0) (oVar 2)) frz)
def k4e_kept_worths_2 : M Val := (vAnd (bnd (bnd (mCons (vVar 3) (ret [])) fun ds => mCall F_is_list ds) frz) (vAnd (bnd (app2 (fEq) (bnd (bnd (appN fLen (oCons (oVar 3) (ret []))) frz) fun d => ret (.val d)) (bnd (ret (.int 2)) fun d => ret (.val d))) frz) (bnd (bnd (mCons (bnd (app2 fIx (oVar 3) (bnd (ret (.int 0)) fun d => ret (.val d))) frz) (mCons (vVar 1) (ret []))) fun ds => mCall F_is_hand_of ds) frz)))
def k5k_kept_worths_2 : M Val := (bnd (app2 fIx (oVar 3) (bnd (ret (.int 0)) fun d => ret (.val d))) frz)
def k6e_kept_worths_2 : M Val := (bnd (app2 fIx (oVar 3) (bnd (ret (.int 1)) fun d => ret (.val d))) frz)
def b_kept_worths_2 : M Fl := (mSeq (mIf (bnd (bnd (app1 (fIsi .dict) (oVar 0)) frz) asB)
  (mSeq (mIf (mOr (bnd (app2 (fNe) (bnd (bnd (appN fLen (oCons (oVar 0) (ret []))) frz) fun d => ret (.val d)) (bnd (bnd (appN fLen (oCons (oVar 1) (ret []))) frz) fun d => ret (.val d))) asB') (mNot (bnd (bnd (appN fAll (oCons (bnd (bnd (mLc [2] (bnd (vVar 1) itA) (mStore 2) (ret true) k1e_kept_worths_2) frz) fun d => ret (.val d)) (ret []))) frz) asB)))
  (bnd (bnd (ret .none) fun d => ret (.sh d)) fun r => ret (.rt r))
  (ret .nx)) (bnd (mDc [2] (bnd (vVar 1) itA) (mStore 2) (ret true) k2k_kept_worths_2 k3e_kept_worths_2) fun r => ret (.rt r)))
  (ret .nx)) (mSeq (mIf (mOr (mNot (bnd (bnd (bnd (mCons (vVar 0) (ret [])) fun ds => mCall F_is_list ds) frz) asB)) (bnd (app2 (fNe) (bnd (bnd (appN fLen (oCons (oVar 0) (ret []))) frz) fun d => ret (.val d)) (bnd (bnd (appN fLen (oCons (oVar 1) (ret []))) frz) fun d => ret (.val d))) asB'))
  (bnd (bnd (ret .none) fun d => ret (.sh d)) fun r => ret (.rt r))
  (ret .nx)) (mSeq (mIf (mNot (bnd (bnd (appN fAll (oCons (bnd (bnd (mLc [3] (bnd (vVar 0) itA) (mStore 3) (ret true) k4e_kept_worths_2) frz) fun d => ret (.val d)) (ret []))) frz) asB))
  (bnd (bnd (ret .none) fun d => ret (.sh d)) fun r => ret (.rt r))
  (ret .nx)) (mSeq (bnd (mDc [3] (bnd (vVar 0) itA) (mStore 3) (ret true) k5k_kept_worths_2 k6e_kept_worths_2) fun r => bnd (mStore 4 r) fun _ => ret .nx) (bnd (mIf (bnd (app2 (fEq) (bnd (bnd (appN fLen (oCons (oVar 4) (ret []))) frz) fun d => ret (.val d)) (bnd (bnd (appN fLen (oCons (oVar 1) (ret []))) frz) fun d => ret (.val d))) asB') (bnd (mCons (vVar 4) (mCons (vVar 1) (ret []))) fun ds => mCall F_kept_worths_1 ds) (bnd (ret .none) fun d => ret (.sh d))) fun r => ret (.rt r))))))
def F_kept_worths_2 : Fn := mDef 5 b_kept_worths_2
abbrev F_kept_worths : Fn := F_kept_worths_2
def b_Maps_hands : M Fl := (bnd (appN fList (oCons (bnd (mFld 5 "own_hands" (oVar 0)) fun d => ret (.val d)) (ret []))) fun r => ret (.rt r))
def F_Maps_hands : Fn := mDef 1 b_Maps_hands
def b_is_course : M Fl := (mSeq (mIf (mOr (mNot (bnd (bnd (bnd (mCons (vVar 1) (ret [])) fun ds => mCall F_is_list ds) frz) asB)) (bnd (app2 (fNe) (bnd (bnd (appN fLen (oCons (oVar 1) (ret []))) frz) fun d => ret (.val d)) (bnd (ret (.int 2)) fun d => ret (.val d))) asB'))
  (bnd (bnd (ret (.bool false)) fun d => ret (.sh d)) fun r => ret (.rt r))
  (ret .nx)) (bnd (bnd (vAnd (bnd (app2 (fIs true) (bnd (bnd (bnd (mCons (bnd (app2 fIx (oVar 1) (bnd (ret (.int 0)) fun d => ret (.val d))) frz) (mCons (bnd (mMeth 5 "hands" F_Maps_hands (oVar 0) (ret [])) frz) (ret []))) fun ds => mCall F_kept_worths ds) frz) fun d => ret (.val d)) (bnd (ret .none) fun d => ret (.val d))) frz) (bnd (bnd (mCons (vVar 0) (mCons (bnd (app2 fIx (oVar 1) (bnd (ret (.int 1)) fun d => ret (.val d))) frz) (ret []))) fun ds => mCall F_is_row ds) frz)) fun d => ret (.sh d)) fun r => ret (.rt r)))
def F_is_course : Fn := mDef 2 b_is_course
def k1e_law : M Val := (bnd (mCons (vVar 9) (mCons (bnd (app2 fIx (oVar 6) (oVar 9)) frz) (ret []))) fun ds => ret (.tup ds))
def k2e_law : M Val := (bnd (appN fList (oCons (oVar 11) (ret []))) frz)
def l3b_law : M Fl := (mIf (mOr (bnd (app2 (fIs true) (bnd (bnd (bnd (mCons (vVar 5) (mCons (bnd (mCons (vVar 10) (mCons (vVar 12) (ret []))) fun ds => ret (.tup ds)) (ret []))) fun ds => mCall F_is_course ds) frz) fun d => ret (.val d)) (bnd (ret (.bool true)) fun d => ret (.val d))) asB') (bnd (app2 (fIs true) (bnd (bnd (bnd (mCons (vVar 5) (mCons (bnd (bnd (mCons (vVar 10) (mCons (vVar 12) (ret []))) fun ds => ret (.fr (.lst ds))) frz) (ret []))) fun ds => mCall F_is_course ds) frz) fun d => ret (.val d)) (bnd (ret (.bool true)) fun d => ret (.val d))) asB'))
  (bnd (bnd (ret (.bool false)) fun d => ret (.sh d)) fun r => ret (.rt r))
  (ret .nx))
def l4b_law : M Fl := (bnd (bnd (bnd (mCons (vVar 7) (mCons (bnd (appN fTuple (oCons (oVar 7) (ret []))) frz) (ret []))) fun ds => ret (.tup ds)) itA) fun ds => mFor (mStore 12)
  l3b_law ds)
def s5_law : M Fl := (bnd (bnd (mCons (vVar 1) (mCons (vVar 3) (mCons (vVar 4) (mCons (vVar 6) (mCons (vVar 7) (ret [])))))) fun ds => mCall F__law_bent_course ds) fun r => bnd (mStore 14 r) fun _ => ret .nx)
def s6_law : M Fl := (mIf (bnd (app2 (fIs true) (bnd (bnd (bnd (mCons (vVar 5) (mCons (vVar 14) (ret []))) fun ds => mCall F_is_course ds) frz) fun d => ret (.val d)) (bnd (ret (.bool false)) fun d => ret (.val d))) asB')
  (bnd (bnd (ret (.bool false)) fun d => ret (.sh d)) fun r => ret (.rt r))
  (ret .nx))
def l7b_law : M Fl := (mSeq s5_law s6_law)
def s8_law : M Fl := (bnd (bnd (mCons (vVar 1) (mCons (bnd (app2 fAdd (bnd (ret (.int 2)) fun d => ret (.val d)) (bnd (bnd (bnd (mCons (vVar 1) (mCons (ret (.int 4)) (ret []))) fun ds => mCall F__law_draw ds) frz) fun d => ret (.val d))) frz) (ret []))) fun ds => mCall F__law_hands ds) fun r => bnd (mStore 3 r) fun _ => ret .nx)
def s9_law : M Fl := (bnd (bnd (mCons (vVar 1) (mCons (vVar 3) (mCons (bnd (app2 fAdd (bnd (ret (.int 1)) fun d => ret (.val d)) (bnd (bnd (bnd (mCons (vVar 1) (mCons (ret (.int 4)) (ret []))) fun ds => mCall F__law_draw ds) frz) fun d => ret (.val d))) frz) (ret [])))) fun ds => mCall F__law_maps ds) fun r => bnd (mStore 4 r) fun _ => ret .nx)
def s10_law : M Fl := (bnd (bnd (bnd (mCons (bnd (bnd (mCons (vVar 3) (mCons (vVar 4) (ret []))) fun ds => mMake 5 F_Maps___init__ ds) frz) (mCons (bnd (bnd (mCons (vVar 1) (mCons (vVar 3) (ret []))) fun ds => mCall F__law_worths ds) frz) (ret []))) fun ds => ret (.tup ds)) fun d => ret (.sh d)) fun r => bnd ((mUnpack 2 (tCons (mStore 5) (tCons (mStore 6) tNil))) r) fun _ => ret .nx)
def s11_law : M Fl := (bnd (bnd (mCons (vVar 1) (mCons (vVar 4) (mCons (ret (.int 6)) (ret [])))) fun ds => mCall F__law_row ds) fun r => bnd (mStore 7 r) fun _ => ret .nx)
def s12_law : M Fl := (bnd (mLc [9] (bnd (bnd (appN fSorted (oCons (oVar 6) (ret []))) frz) itA) (mStore 9) (ret true) k1e_law) fun r => bnd (mStore 8 r) fun _ => ret .nx)
def s13_law : M Fl := (bnd (bnd (bnd (mCons (vVar 6) (mCons (vVar 8) (mCons (bnd (appN fTuple (oCons (bnd (bnd (bnd (mCons (vVar 1) (mCons (vVar 8) (ret []))) fun ds => mCall F__law_mixed ds) frz) fun d => ret (.val d)) (ret []))) frz) (mCons (bnd (mLc [11] (bnd (bnd (app1 fRev (oVar 8)) frz) itA) (mStore 11) (ret true) k2e_law) frz) (ret []))))) fun ds => ret (.tup ds)) itA) fun ds => mFor (mStore 10)
  l4b_law ds)
def s14_law : M Fl := (bnd (bnd (mCons (ret (.int 5)) (ret [])) itR1) fun ds => mFor (mStore 13)
  l7b_law ds)
def l15b_law : M Fl := (mSeq s8_law (mSeq s9_law (mSeq s10_law (mSeq s11_law (mSeq s12_law (mSeq s13_law s14_law))))))
def s16_law : M Fl := (bnd (bnd (bnd (bnd (mCons (vVar 0) (ret [])) fun ds => mCall F__law_start ds) toSto) fun d => ret (.sh d)) fun r => bnd (mStore 1 r) fun _ => ret .nx)
def s17_law : M Fl := (bnd (bnd (mCons (ret (.int 8)) (ret [])) itR1) fun ds => mFor (mStore 2)
  l15b_law ds)
def s18_law : M Fl := (bnd (bnd (ret (.bool true)) fun d => ret (.sh d)) fun r => ret (.rt r))
def b_law : M Fl := (mSeq s16_law (mSeq s17_law s18_law))
def F_law : Fn := mDef 15 b_law
end K02

namespace K02
open PySem PySem.Spec L2 PV
def top (i : Nat) : Stmt := PySem.Challenge.pw_breakplans_k02_courses_told.main.body.getD i (.Pass ⟨0, 0, 0, 0⟩)
abbrev s__law_start : Stmt := top 23
abbrev s__law_draw : Stmt := top 24
abbrev s__law_mixed : Stmt := top 26
abbrev s__law_hands : Stmt := top 27
abbrev s__law_pick : Stmt := top 25
abbrev s__law_map : Stmt := top 28
abbrev s__law_plain_map : Stmt := top 29
abbrev s__law_maps : Stmt := top 30
abbrev s__law_row : Stmt := top 32
abbrev s_is_list : Stmt := top 9
abbrev s_is_name : Stmt := top 11
abbrev s_checked_hands : Stmt := top 12
abbrev s_is_hand_of : Stmt := top 13
abbrev s_is_map : Stmt := top 16
abbrev s_checked_maps : Stmt := top 17
abbrev s_Maps___init__ : Stmt := inClass (top 18) 0
abbrev s__law_worths : Stmt := top 31
abbrev s__law_bent_course : Stmt := top 33
abbrev s_is_integer : Stmt := top 10
abbrev s_Maps___len__ : Stmt := inClass (top 18) 4
abbrev s_is_index : Stmt := top 19
abbrev s_is_row : Stmt := top 20
abbrev s_kept_worths : Stmt := top 14
abbrev s_Maps_hands : Stmt := inClass (top 18) 1
abbrev s_is_course : Stmt := top 21
abbrev s_law : Stmt := top 34
/-! ### what the top has written -/
structure Txt (K : PySem.W.Frag) (mg : Str → Option Value) (fa : Nat → Addr) (fdd : Nat → FuncData) (cl : Nat → Addr) : Prop where
  f__law_start : L2.Fun K "_law_start" "_law_start" s__law_start (fa 0) (fdd 0)
  k__law_start : PySem.W.keepIn K (.ref (fa 0)) = true
  b__law_start : Binds K (fdd 0) ["_law_script"] []
  g__law_start : mg "_law_start" = some (.ref (fa 0))
  f__law_draw : L2.Fun K "_law_draw" "_law_draw" s__law_draw (fa 1) (fdd 1)
  k__law_draw : PySem.W.keepIn K (.ref (fa 1)) = true
  b__law_draw : Binds K (fdd 1) ["_law_stream", "_law_many"] []
  g__law_draw : mg "_law_draw" = some (.ref (fa 1))
  f__law_mixed : L2.Fun K "_law_mixed" "_law_mixed" s__law_mixed (fa 2) (fdd 2)
  k__law_mixed : PySem.W.keepIn K (.ref (fa 2)) = true
  b__law_mixed : Binds K (fdd 2) ["_law_stream", "_law_some"] []
  g__law_mixed : mg "_law_mixed" = some (.ref (fa 2))
  f__law_hands : L2.Fun K "_law_hands" "_law_hands" s__law_hands (fa 3) (fdd 3)
  k__law_hands : PySem.W.keepIn K (.ref (fa 3)) = true
  b__law_hands : Binds K (fdd 3) ["_law_stream", "_law_many"] []
  g__law_hands : mg "_law_hands" = some (.ref (fa 3))
  f__law_pick : L2.Fun K "_law_pick" "_law_pick" s__law_pick (fa 4) (fdd 4)
  k__law_pick : PySem.W.keepIn K (.ref (fa 4)) = true
  b__law_pick : Binds K (fdd 4) ["_law_stream", "_law_some"] []
  g__law_pick : mg "_law_pick" = some (.ref (fa 4))
  f__law_map : L2.Fun K "_law_map" "_law_map" s__law_map (fa 5) (fdd 5)
  k__law_map : PySem.W.keepIn K (.ref (fa 5)) = true
  b__law_map : Binds K (fdd 5) ["_law_stream", "_law_hands_here"] []
  g__law_map : mg "_law_map" = some (.ref (fa 5))
  f__law_plain_map : L2.Fun K "_law_plain_map" "_law_plain_map" s__law_plain_map (fa 6) (fdd 6)
  k__law_plain_map : PySem.W.keepIn K (.ref (fa 6)) = true
  b__law_plain_map : Binds K (fdd 6) ["_law_one"] []
  g__law_plain_map : mg "_law_plain_map" = some (.ref (fa 6))
  f__law_maps : L2.Fun K "_law_maps" "_law_maps" s__law_maps (fa 7) (fdd 7)
  k__law_maps : PySem.W.keepIn K (.ref (fa 7)) = true
  b__law_maps : Binds K (fdd 7) ["_law_stream", "_law_hands_here", "_law_many"] []
  g__law_maps : mg "_law_maps" = some (.ref (fa 7))
  f__law_row : L2.Fun K "_law_row" "_law_row" s__law_row (fa 8) (fdd 8)
  k__law_row : PySem.W.keepIn K (.ref (fa 8)) = true
  b__law_row : Binds K (fdd 8) ["_law_stream", "_law_maps_here", "_law_most"] []
  g__law_row : mg "_law_row" = some (.ref (fa 8))
  f_is_list : L2.Fun K "is_list" "is_list" s_is_list (fa 9) (fdd 9)
  k_is_list : PySem.W.keepIn K (.ref (fa 9)) = true
  b_is_list : Binds K (fdd 9) ["thing"] []
  g_is_list : mg "is_list" = some (.ref (fa 9))
  f_is_name : L2.Fun K "is_name" "is_name" s_is_name (fa 10) (fdd 10)
  k_is_name : PySem.W.keepIn K (.ref (fa 10)) = true
  b_is_name : Binds K (fdd 10) ["thing"] []
  g_is_name : mg "is_name" = some (.ref (fa 10))
  f_checked_hands : L2.Fun K "checked_hands" "checked_hands" s_checked_hands (fa 11) (fdd 11)
  k_checked_hands : PySem.W.keepIn K (.ref (fa 11)) = true
  b_checked_hands : Binds K (fdd 11) ["hands"] []
  g_checked_hands : mg "checked_hands" = some (.ref (fa 11))
  f_is_hand_of : L2.Fun K "is_hand_of" "is_hand_of" s_is_hand_of (fa 12) (fdd 12)
  k_is_hand_of : PySem.W.keepIn K (.ref (fa 12)) = true
  b_is_hand_of : Binds K (fdd 12) ["thing", "hands"] []
  g_is_hand_of : mg "is_hand_of" = some (.ref (fa 12))
  f_is_map : L2.Fun K "is_map" "is_map" s_is_map (fa 13) (fdd 13)
  k_is_map : PySem.W.keepIn K (.ref (fa 13)) = true
  b_is_map : Binds K (fdd 13) ["thing", "hands"] []
  g_is_map : mg "is_map" = some (.ref (fa 13))
  f_checked_maps : L2.Fun K "checked_maps" "checked_maps" s_checked_maps (fa 14) (fdd 14)
  k_checked_maps : PySem.W.keepIn K (.ref (fa 14)) = true
  b_checked_maps : Binds K (fdd 14) ["maps", "hands"] []
  g_checked_maps : mg "checked_maps" = some (.ref (fa 14))
  f_Maps___init__ : L2.Fun K "__init__" "Maps.__init__" s_Maps___init__ (fa 15) (fdd 15)
  k_Maps___init__ : PySem.W.keepIn K (.ref (fa 15)) = true
  b_Maps___init__ : Binds K (fdd 15) ["self", "hands", "maps"] []
  mk5 : Mk K (cl 5) (fa 15)
  gC5 : mg "Maps" = some (.ref (cl 5))
  f__law_worths : L2.Fun K "_law_worths" "_law_worths" s__law_worths (fa 16) (fdd 16)
  k__law_worths : PySem.W.keepIn K (.ref (fa 16)) = true
  b__law_worths : Binds K (fdd 16) ["_law_stream", "_law_hands_here"] []
  g__law_worths : mg "_law_worths" = some (.ref (fa 16))
  f__law_bent_course : L2.Fun K "_law_bent_course" "_law_bent_course" s__law_bent_course (fa 17) (fdd 17)
  k__law_bent_course : PySem.W.keepIn K (.ref (fa 17)) = true
  b__law_bent_course : Binds K (fdd 17) ["_law_stream", "_law_hands_here", "_law_maps_here", "_law_worths_here", "_law_row_here"] []
  g__law_bent_course : mg "_law_bent_course" = some (.ref (fa 17))
  f_is_integer : L2.Fun K "is_integer" "is_integer" s_is_integer (fa 18) (fdd 18)
  k_is_integer : PySem.W.keepIn K (.ref (fa 18)) = true
  b_is_integer : Binds K (fdd 18) ["thing"] []
  g_is_integer : mg "is_integer" = some (.ref (fa 18))
  f_Maps___len__ : L2.Fun K "__len__" "Maps.__len__" s_Maps___len__ (fa 19) (fdd 19)
  k_Maps___len__ : PySem.W.keepIn K (.ref (fa 19)) = true
  b_Maps___len__ : Binds K (fdd 19) ["self"] []
  L5 : PySem.W.findIn K (.ref (cl 5)) "__len__" = some (some (.ref (fa 19)))
  i_Maps___len__ : PySem.W.isFn K (.ref (fa 19)) = true
  f_is_index : L2.Fun K "is_index" "is_index" s_is_index (fa 20) (fdd 20)
  k_is_index : PySem.W.keepIn K (.ref (fa 20)) = true
  b_is_index : Binds K (fdd 20) ["world", "thing"] []
  g_is_index : mg "is_index" = some (.ref (fa 20))
  f_is_row : L2.Fun K "is_row" "is_row" s_is_row (fa 21) (fdd 21)
  k_is_row : PySem.W.keepIn K (.ref (fa 21)) = true
  b_is_row : Binds K (fdd 21) ["world", "thing"] []
  g_is_row : mg "is_row" = some (.ref (fa 21))
  f_kept_worths : L2.Fun K "kept_worths" "kept_worths" s_kept_worths (fa 22) (fdd 22)
  k_kept_worths : PySem.W.keepIn K (.ref (fa 22)) = true
  b_kept_worths : Binds K (fdd 22) ["thing", "hands"] []
  g_kept_worths : mg "kept_worths" = some (.ref (fa 22))
  f_Maps_hands : L2.Fun K "hands" "Maps.hands" s_Maps_hands (fa 23) (fdd 23)
  k_Maps_hands : PySem.W.keepIn K (.ref (fa 23)) = true
  b_Maps_hands : Binds K (fdd 23) ["self"] []
  m_Maps_hands : Meth K (cl 5) "hands" (fa 23)
  f_is_course : L2.Fun K "is_course" "is_course" s_is_course (fa 24) (fdd 24)
  k_is_course : PySem.W.keepIn K (.ref (fa 24)) = true
  b_is_course : Binds K (fdd 24) ["world", "thing"] []
  g_is_course : mg "is_course" = some (.ref (fa 24))
  f_law : L2.Fun K "law" "law" s_law (fa 25) (fdd 25)
  k_law : PySem.W.keepIn K (.ref (fa 25)) = true
  b_law : Binds K (fdd 25) ["_law_script"] []
  g_law : mg "law" = some (.ref (fa 25))
  C5 : Cls K (cl 5)
  N5_own_hands : NoAttr K (cl 5) "own_hands"
  N5_own_maps : NoAttr K (cl 5) "own_maps"
  n_all : mg "all" = none
  n_bool : mg "bool" = none
  n_dict : mg "dict" = none
  n_enumerate : mg "enumerate" = none
  n_int : mg "int" = none
  n_isinstance : mg "isinstance" = none
  n_len : mg "len" = none
  n_list : mg "list" = none
  n_range : mg "range" = none
  n_sorted : mg "sorted" = none
  n_str : mg "str" = none
  n_tuple : mg "tuple" = none
  c_FIGURES : ∃ t, mg "FIGURES" = some (.str "0123456789" t)
  c_SMALL : ∃ t, mg "SMALL" = some (.str "abcdefghijklmnopqrstuvwxyz" t)
section
variable {P : Program} {w : World} {K : PySem.W.Frag} {mg : Str → Option Value} {base : Heap} {fa : Nat → Addr} {fdd : Nat → FuncData} {cl : Nat → Addr}
theorem sc__law_start : FnScope ["_law_script"] ["_law_script"] (defScope s__law_start) := ⟨rfl, rfl, rfl, by decide +kernel, rfl, by decide +kernel, by decide +kernel⟩
theorem ok__law_start (T : Txt K mg fa fdd cl) : DefOk P w K mg base cl 2 (fa 0) (fdd 0) ["_law_script"] F__law_start :=
  have sc := sc__law_start
  def_by (k := 1) (b := b__law_start) T.f__law_start sc rfl fun cdv A outer s H E hr =>
  (sss_one (ss_ret (se_lst (svs_cons (sv_sto (se_callT (call_listV rfl) rfl T.n_list (by rfl) (sos_cons (so_var (i := 0) rfl (by first | exact Or.inl rfl | exact Or.inr (Or.inl rfl) | exact Or.inr (Or.inr rfl))) sos_nil))) (svs_cons sv_int (svs_cons sv_int (svs_cons sv_int svs_nil)))))))
theorem sc__law_draw : FnScope ["_law_stream", "_law_many", "_law_cell", "_law_digit", "_law_mixed_here"] ["_law_stream", "_law_many"] (defScope s__law_draw) := ⟨rfl, rfl, rfl, by decide +kernel, rfl, by decide +kernel, by decide +kernel⟩
theorem ok__law_draw (T : Txt K mg fa fdd cl) : DefOk P w K mg base cl 2 (fa 1) (fdd 1) ["_law_stream", "_law_many"] F__law_draw :=
  have sc := sc__law_draw
  def_by (k := 1) (b := b__law_draw) T.f__law_draw sc rfl fun cdv A outer s H E hr =>
  (sss_cons (ss_setIx (roomV hr) (sv_of (se_bin op_addV (so_of (sv_of (se_ix (ixV (roomV hr)) (so_var (i := 0) rfl (by first | exact Or.inl rfl | exact Or.inr (Or.inl rfl) | exact Or.inr (Or.inr rfl))) (so_of sv_int) (fun _ _ => rfl)))) (so_of sv_int))) (so_var (i := 0) rfl (by first | exact Or.inl rfl | exact Or.inr (Or.inl rfl) | exact Or.inr (Or.inr rfl))) sv_int)
  (sss_cons (ss_while 100 owns_cx (STW.t (stw_and (st_cmp (op_eqV' (roomV hr)) (so_of (sv_of (se_ix (ixV (roomV hr)) (so_var (i := 0) rfl (by first | exact Or.inl rfl | exact Or.inr (Or.inl rfl) | exact Or.inr (Or.inr rfl))) (so_of sv_int) (fun _ _ => rfl)))) (so_of sv_int) (nomark _)) (stw_and1 (st_cmp (op_neV (roomV hr)) (so_of (sv_of (se_ix (ixV (roomV hr)) (so_var (i := 0) rfl (by first | exact Or.inl rfl | exact Or.inr (Or.inl rfl) | exact Or.inr (Or.inr rfl))) (so_of sv_int) (fun _ _ => rfl)))) (so_of (sv_of (se_lst svs_nil))) (nomark _)))))
  (sss_cons (ss_set (i := 2) (se_popAt (so_of (sv_of (se_ix (ixV (roomV hr)) (so_var (i := 0) rfl (by first | exact Or.inl rfl | exact Or.inr (Or.inl rfl) | exact Or.inr (Or.inr rfl))) (so_of sv_int) (fun _ _ => rfl)))) sv_int) sc.nd rfl (by first | exact Or.inl rfl | exact Or.inr rfl))
  (sss_cons (ss_setIx (roomV hr) (sv_of (se_bin op_modV (so_of (sv_of (se_callT (call_intV) rfl T.n_int (by rfl) (sos_cons (so_of (sv_of (se_bin op_addV (so_of (sv_of (se_bin op_addV (so_of (sv_of (se_bin op_mulV (so_of (sv_of (se_ix (ixV (roomV hr)) (so_var (i := 0) rfl (by first | exact Or.inl rfl | exact Or.inr (Or.inl rfl) | exact Or.inr (Or.inr rfl))) (so_of sv_int) (fun _ _ => rfl)))) (so_of sv_int)))) (so_var (i := 2) rfl (by first | exact Or.inl rfl | exact Or.inr (Or.inl rfl) | exact Or.inr (Or.inr rfl)))))) (so_of sv_int)))) sos_nil)))) (so_of sv_int))) (so_var (i := 0) rfl (by first | exact Or.inl rfl | exact Or.inr (Or.inl rfl) | exact Or.inr (Or.inr rfl))) sv_int)
  (sss_one (ss_setIx (roomV hr) (sv_of (se_if (st_cmp op_geV (so_var (i := 2) rfl (by first | exact Or.inl rfl | exact Or.inr (Or.inl rfl) | exact Or.inr (Or.inr rfl))) (so_of (sv_of (se_bin op_powV (so_of sv_int) (so_of sv_int)))) (nomark _)) (se_of (sv_var (i := 2) rfl (by first | exact Or.inl rfl | exact Or.inr (Or.inl rfl) | exact Or.inr (Or.inr rfl)))) (se_of sv_int))) (so_var (i := 0) rfl (by first | exact Or.inl rfl | exact Or.inr (Or.inl rfl) | exact Or.inr (Or.inr rfl))) sv_int)))))
  (sss_cons (ss_if (st_cmp op_gtV (so_of (sv_of (se_ix (ixV (roomV hr)) (so_var (i := 0) rfl (by first | exact Or.inl rfl | exact Or.inr (Or.inl rfl) | exact Or.inr (Or.inr rfl))) (so_of sv_int) (fun _ _ => rfl)))) (so_of sv_int) (nomark _))
  (sss_cons (ss_set (i := 3) (se_bin op_modV (so_of (sv_of (se_callT (call_intV) rfl T.n_int (by rfl) (sos_cons (so_of (sv_of (se_ix (ixV (roomV hr)) (so_var (i := 0) rfl (by first | exact Or.inl rfl | exact Or.inr (Or.inl rfl) | exact Or.inr (Or.inr rfl))) (so_of sv_int) (fun _ _ => rfl)))) sos_nil)))) (so_var (i := 1) rfl (by first | exact Or.inl rfl | exact Or.inr (Or.inl rfl) | exact Or.inr (Or.inr rfl)))) sc.nd rfl (by first | exact Or.inl rfl | exact Or.inr rfl))
  (sss_cons (ss_setIx (roomV hr) (sv_of (se_bin op_divV (so_of (sv_of (se_ix (ixV (roomV hr)) (so_var (i := 0) rfl (by first | exact Or.inl rfl | exact Or.inr (Or.inl rfl) | exact Or.inr (Or.inr rfl))) (so_of sv_int) (fun _ _ => rfl)))) (so_var (i := 1) rfl (by first | exact Or.inl rfl | exact Or.inr (Or.inl rfl) | exact Or.inr (Or.inr rfl))))) (so_var (i := 0) rfl (by first | exact Or.inl rfl | exact Or.inr (Or.inl rfl) | exact Or.inr (Or.inr rfl))) sv_int)
  (sss_one (ss_ret (se_mvar (i := 3) rfl (by first | exact Or.inl rfl | exact Or.inr (Or.inl rfl) | exact Or.inr (Or.inr rfl)))))))
  sss_nil)
  (sss_cons (ss_set (i := 4) (se_bin op_modV (so_of (sv_of (se_callT (call_intV) rfl T.n_int (by rfl) (sos_cons (so_of (sv_of (se_bin op_powV (so_of (sv_of (se_bin op_addV (so_of (sv_of (se_bin op_addV (so_of (sv_of (se_ix (ixV (roomV hr)) (so_var (i := 0) rfl (by first | exact Or.inl rfl | exact Or.inr (Or.inl rfl) | exact Or.inr (Or.inr rfl))) (so_of sv_int) (fun _ _ => rfl)))) (so_of (sv_of (se_bin op_mulV (so_of sv_int) (so_of (sv_of (se_ix (ixV (roomV hr)) (so_var (i := 0) rfl (by first | exact Or.inl rfl | exact Or.inr (Or.inl rfl) | exact Or.inr (Or.inr rfl))) (so_of sv_int) (fun _ _ => rfl)))))))))) (so_of sv_int)))) (so_of sv_int)))) sos_nil)))) (so_of sv_int)) sc.nd rfl (by first | exact Or.inl rfl | exact Or.inr rfl))
  (sss_one (ss_ret (se_bin op_modV (so_of (sv_of (se_bin op_modV (so_of (sv_of (se_callT (call_intV) rfl T.n_int (by rfl) (sos_cons (so_of (sv_of (se_bin op_powV (so_of (sv_of (se_bin op_addV (so_of (sv_of (se_bin op_addV (so_of (sv_of (se_bin op_mulV (so_var (i := 4) rfl (by first | exact Or.inl rfl | exact Or.inr (Or.inl rfl) | exact Or.inr (Or.inr rfl))) (so_of sv_int)))) (so_of (sv_of (se_bin op_mulV (so_of sv_int) (so_of (sv_of (se_ix (ixV (roomV hr)) (so_var (i := 0) rfl (by first | exact Or.inl rfl | exact Or.inr (Or.inl rfl) | exact Or.inr (Or.inr rfl))) (so_of sv_int) (fun _ _ => rfl)))))))))) (so_of sv_int)))) (so_of sv_int)))) sos_nil)))) (so_of sv_int)))) (so_var (i := 1) rfl (by first | exact Or.inl rfl | exact Or.inr (Or.inl rfl) | exact Or.inr (Or.inr rfl))))))))))
theorem sc__law_mixed : FnScope ["_law_stream", "_law_some", "_law_left", "_law_k"] ["_law_stream", "_law_some"] (defScope s__law_mixed) := ⟨rfl, rfl, rfl, by decide +kernel, rfl, by decide +kernel, by decide +kernel⟩
theorem ok__law_mixed (T : Txt K mg fa fdd cl) : DefOk P w K mg base cl 3 (fa 2) (fdd 2) ["_law_stream", "_law_some"] F__law_mixed :=
  have sc := sc__law_mixed
  def_by (k := 2) (b := b__law_mixed) T.f__law_mixed sc rfl fun cdv A outer s H E hr =>
  (sss_cons (ss_set (i := 2) (se_callT (call_listV rfl) rfl T.n_list (by rfl) (sos_cons (so_var (i := 1) rfl (by first | exact Or.inl rfl | exact Or.inr (Or.inl rfl) | exact Or.inr (Or.inr rfl))) sos_nil)) sc.nd rfl (by first | exact Or.inl rfl | exact Or.inr rfl))
  (sss_one (ss_ret (se_lcN rfl sc.nd (si_range1 (svs_cons (sv_of (se_callB (call_lenV) rfl T.n_len (by rfl) (sos_cons (so_var (i := 2) rfl (by first | exact Or.inl rfl | exact Or.inr (Or.inl rfl) | exact Or.inr (Or.inr rfl))) sos_nil))) svs_nil) rfl T.n_range) (blkOk_by (own := [("_law_k", 3)]) (by kernel_rfl)) rfl (by decide) (fun _ _ _ _ _ => (sg_name (i := 3) sc.nd rfl (by first | exact Or.inl rfl | exact Or.inr rfl))) (fun _ _ _ _ _ => sq_nil) (fun _ _ _ _ _ => (sv_of (se_popAt (so_var (i := 2) rfl (by first | exact Or.inl rfl | exact Or.inr (Or.inl rfl) | exact Or.inr (Or.inr rfl))) (sv_of (se_call (k := 2) (F := F__law_draw) ⟨(ok__law_draw T), T.g__law_draw, T.k__law_draw, T.b__law_draw⟩ (Room.mono hr (by decide)) takes_F rfl (svs_cons (sv_var (i := 0) rfl (by first | exact Or.inl rfl | exact Or.inr (Or.inl rfl) | exact Or.inr (Or.inr rfl))) (svs_cons (sv_of (se_callB (call_lenV) rfl T.n_len (by rfl) (sos_cons (so_var (i := 2) rfl (by first | exact Or.inl rfl | exact Or.inr (Or.inl rfl) | exact Or.inr (Or.inr rfl))) sos_nil))) svs_nil)))))))))))
theorem sc__law_hands : FnScope ["_law_stream", "_law_many"] ["_law_stream", "_law_many"] (defScope s__law_hands) := ⟨rfl, rfl, rfl, by decide +kernel, rfl, by decide +kernel, by decide +kernel⟩
theorem ok__law_hands (T : Txt K mg fa fdd cl) : DefOk P w K mg base cl 4 (fa 3) (fdd 3) ["_law_stream", "_law_many"] F__law_hands :=
  have sc := sc__law_hands
  def_by (k := 3) (b := b__law_hands) T.f__law_hands sc rfl fun cdv A outer s H E hr =>
  (sss_one (ss_ret (se_slice (so_of (sv_of (se_call (k := 3) (F := F__law_mixed) ⟨(ok__law_mixed T), T.g__law_mixed, T.k__law_mixed, T.b__law_mixed⟩ (Room.mono hr (by decide)) takes_cx rfl (svs_cons (sv_var (i := 0) rfl (by first | exact Or.inl rfl | exact Or.inr (Or.inl rfl) | exact Or.inr (Or.inr rfl))) (svs_cons (sv_of (se_lst (svs_cons sv_str (svs_cons sv_str (svs_cons sv_str (svs_cons sv_str (svs_cons sv_str (svs_cons sv_str svs_nil)))))))) svs_nil))))) sp_none (sp_some (sv_var (i := 1) rfl (by first | exact Or.inl rfl | exact Or.inr (Or.inl rfl) | exact Or.inr (Or.inr rfl)))))))
theorem sc__law_pick : FnScope ["_law_stream", "_law_some"] ["_law_stream", "_law_some"] (defScope s__law_pick) := ⟨rfl, rfl, rfl, by decide +kernel, rfl, by decide +kernel, by decide +kernel⟩
theorem ok__law_pick (T : Txt K mg fa fdd cl) : DefOk P w K mg base cl 3 (fa 4) (fdd 4) ["_law_stream", "_law_some"] F__law_pick :=
  have sc := sc__law_pick
  def_by (k := 2) (b := b__law_pick) T.f__law_pick sc rfl fun cdv A outer s H E hr =>
  (sss_one (ss_ret (se_ix (ixV (roomV hr)) (so_var (i := 1) rfl (by first | exact Or.inl rfl | exact Or.inr (Or.inl rfl) | exact Or.inr (Or.inr rfl))) (so_of (sv_of (se_call (k := 2) (F := F__law_draw) ⟨(ok__law_draw T), T.g__law_draw, T.k__law_draw, T.b__law_draw⟩ (Room.mono hr (by decide)) takes_cx rfl (svs_cons (sv_var (i := 0) rfl (by first | exact Or.inl rfl | exact Or.inr (Or.inl rfl) | exact Or.inr (Or.inr rfl))) (svs_cons (sv_of (se_callB (call_lenV) rfl T.n_len (by rfl) (sos_cons (so_var (i := 1) rfl (by first | exact Or.inl rfl | exact Or.inr (Or.inl rfl) | exact Or.inr (Or.inr rfl))) sos_nil))) svs_nil))))) (fun _ _ => rfl))))
theorem sc__law_map : FnScope ["_law_stream", "_law_hands_here", "_law_way", "_law_found", "_law_star", "_law_hand", "_law_heard", "_law_other", "_law_third", "_law_half"] ["_law_stream", "_law_hands_here"] (defScope s__law_map) := ⟨rfl, rfl, rfl, by decide +kernel, rfl, by decide +kernel, by decide +kernel⟩
theorem ok__law_map (T : Txt K mg fa fdd cl) : DefOk P w K mg base cl 4 (fa 5) (fdd 5) ["_law_stream", "_law_hands_here"] F__law_map :=
  have sc := sc__law_map
  def_by (k := 3) (b := b__law_map) T.f__law_map sc rfl fun cdv A outer s H E hr =>
  (sss_cons (ss_par (ii := 2) (j := 3) rfl sc.nd rfl rfl (by decide) rfl rfl (se_call (k := 2) (F := F__law_draw) ⟨(ok__law_draw T), T.g__law_draw, T.k__law_draw, T.b__law_draw⟩ (Room.mono hr (by decide)) takes_cx rfl (svs_cons (sv_var (i := 0) rfl (by first | exact Or.inl rfl | exact Or.inr (Or.inl rfl) | exact Or.inr (Or.inr rfl))) (svs_cons sv_int svs_nil))) se_dict0 rfl)
  (sss_cons (ss_set (i := 4) (se_call (k := 3) (F := F__law_pick) ⟨(ok__law_pick T), T.g__law_pick, T.k__law_pick, T.b__law_pick⟩ (Room.mono hr (by decide)) takes_cx rfl (svs_cons (sv_var (i := 0) rfl (by first | exact Or.inl rfl | exact Or.inr (Or.inl rfl) | exact Or.inr (Or.inr rfl))) (svs_cons (sv_var (i := 1) rfl (by first | exact Or.inl rfl | exact Or.inr (Or.inl rfl) | exact Or.inr (Or.inr rfl))) svs_nil))) sc.nd rfl (by first | exact Or.inl rfl | exact Or.inr rfl))
  (sss_cons (ss_for owns_cx rfl (si_any (sv_of (se_call (k := 3) (F := F__law_mixed) ⟨(ok__law_mixed T), T.g__law_mixed, T.k__law_mixed, T.b__law_mixed⟩ (Room.mono hr (by decide)) takes_cx rfl (svs_cons (sv_var (i := 0) rfl (by first | exact Or.inl rfl | exact Or.inr (Or.inl rfl) | exact Or.inr (Or.inr rfl))) (svs_cons (sv_var (i := 1) rfl (by first | exact Or.inl rfl | exact Or.inr (Or.inl rfl) | exact Or.inr (Or.inr rfl))) svs_nil))))) (sg_name (i := 5) sc.nd rfl (by first | exact Or.inl rfl | exact Or.inr rfl))
  (sss_cons (ss_set (i := 6) (se_lst (svs_cons (sv_var (i := 5) rfl (by first | exact Or.inl rfl | exact Or.inr (Or.inl rfl) | exact Or.inr (Or.inr rfl))) svs_nil)) sc.nd rfl (by first | exact Or.inl rfl | exact Or.inr rfl))
  (sss_cons (ss_for owns_cx rfl (si_any (sv_var (i := 1) rfl (by first | exact Or.inl rfl | exact Or.inr (Or.inl rfl) | exact Or.inr (Or.inr rfl)))) (sg_name (i := 7) sc.nd rfl (by first | exact Or.inl rfl | exact Or.inr rfl))
  (sss_cons (ss_par (ii := 8) (j := 9) rfl sc.nd rfl rfl (by decide) rfl rfl (se_call (k := 2) (F := F__law_draw) ⟨(ok__law_draw T), T.g__law_draw, T.k__law_draw, T.b__law_draw⟩ (Room.mono hr (by decide)) takes_cx rfl (svs_cons (sv_var (i := 0) rfl (by first | exact Or.inl rfl | exact Or.inr (Or.inl rfl) | exact Or.inr (Or.inr rfl))) (svs_cons sv_int svs_nil))) (se_call (k := 2) (F := F__law_draw) ⟨(ok__law_draw T), T.g__law_draw, T.k__law_draw, T.b__law_draw⟩ (Room.mono hr (by decide)) takes_cx rfl (svs_cons (sv_var (i := 0) rfl (by first | exact Or.inl rfl | exact Or.inr (Or.inl rfl) | exact Or.inr (Or.inr rfl))) (svs_cons sv_int svs_nil))) rfl)
  (sss_one (ss_if (STW.t (stw_and (st_cmp (op_neV (roomV hr)) (so_var (i := 7) rfl (by first | exact Or.inl rfl | exact Or.inr (Or.inl rfl) | exact Or.inr (Or.inr rfl))) (so_var (i := 5) rfl (by first | exact Or.inl rfl | exact Or.inr (Or.inl rfl) | exact Or.inr (Or.inr rfl))) (nomark _)) (stw_and1 (STW.t (stw_or (st_cmp (op_eqV' (roomV hr)) (so_var (i := 2) rfl (by first | exact Or.inl rfl | exact Or.inr (Or.inl rfl) | exact Or.inr (Or.inr rfl))) (so_of sv_int) (nomark _)) (stw_or1 (st_val (sv_of (se_ix (ixV (roomV hr)) (so_of (sv_of (se_lst (svs_cons (sv_of (se_cmp (op_eqV' (roomV hr)) (so_var (i := 7) rfl (by first | exact Or.inl rfl | exact Or.inr (Or.inl rfl) | exact Or.inr (Or.inr rfl))) (so_var (i := 4) rfl (by first | exact Or.inl rfl | exact Or.inr (Or.inl rfl) | exact Or.inr (Or.inr rfl))) (nomark _))) (svs_cons (sv_of (se_cmp (op_eqV' (roomV hr)) (so_var (i := 8) rfl (by first | exact Or.inl rfl | exact Or.inr (Or.inl rfl) | exact Or.inr (Or.inr rfl))) (so_of sv_int) (nomark _))) (svs_cons (sv_of (se_cmp (op_eqV' (roomV hr)) (so_var (i := 9) rfl (by first | exact Or.inl rfl | exact Or.inr (Or.inl rfl) | exact Or.inr (Or.inr rfl))) (so_of sv_int) (nomark _))) (svs_cons (sv_of (se_cmp op_gtV (so_var (i := 8) rfl (by first | exact Or.inl rfl | exact Or.inr (Or.inl rfl) | exact Or.inr (Or.inr rfl))) (so_of sv_int) (nomark _))) svs_nil))))))) (so_of (sv_of (se_bin op_modV (so_var (i := 2) rfl (by first | exact Or.inl rfl | exact Or.inr (Or.inl rfl) | exact Or.inr (Or.inr rfl))) (so_of sv_int)))) (fun _ _ => rfl))))))))))
  (sss_one (ss_expr (se_append (so_var (i := 6) rfl (by first | exact Or.inl rfl | exact Or.inr (Or.inl rfl) | exact Or.inr (Or.inr rfl))) (sv_var (i := 7) rfl (by first | exact Or.inl rfl | exact Or.inr (Or.inl rfl) | exact Or.inr (Or.inr rfl))))))
  sss_nil))))
  (sss_one (ss_setIx (roomV hr) (sv_of (se_call (k := 3) (F := F__law_mixed) ⟨(ok__law_mixed T), T.g__law_mixed, T.k__law_mixed, T.b__law_mixed⟩ (Room.mono hr (by decide)) takes_cx rfl (svs_cons (sv_var (i := 0) rfl (by first | exact Or.inl rfl | exact Or.inr (Or.inl rfl) | exact Or.inr (Or.inr rfl))) (svs_cons (sv_var (i := 6) rfl (by first | exact Or.inl rfl | exact Or.inr (Or.inl rfl) | exact Or.inr (Or.inr rfl))) svs_nil)))) (so_var (i := 3) rfl (by first | exact Or.inl rfl | exact Or.inr (Or.inl rfl) | exact Or.inr (Or.inr rfl))) (sv_var (i := 5) rfl (by first | exact Or.inl rfl | exact Or.inr (Or.inl rfl) | exact Or.inr (Or.inr rfl))))))))
  (sss_one (ss_ret (se_mvar (i := 3) rfl (by first | exact Or.inl rfl | exact Or.inr (Or.inl rfl) | exact Or.inr (Or.inr rfl))))))))
theorem sc__law_plain_map : FnScope ["_law_one", "_law_hand"] ["_law_one"] (defScope s__law_plain_map) := ⟨rfl, rfl, rfl, by decide +kernel, rfl, by decide +kernel, by decide +kernel⟩
theorem ok__law_plain_map (T : Txt K mg fa fdd cl) : DefOk P w K mg base cl 2 (fa 6) (fdd 6) ["_law_one"] F__law_plain_map :=
  have sc := sc__law_plain_map
  def_by (k := 1) (b := b__law_plain_map) T.f__law_plain_map sc rfl fun cdv A outer s H E hr =>
  (sss_one (ss_ret (se_callT (call_dictV rfl) rfl T.n_dict (by rfl) (sos_cons (so_of (sv_of (se_lcN rfl sc.nd (si_any (sv_of (se_callB (call_sortedV rfl) rfl T.n_sorted (by rfl) (sos_cons (so_var (i := 0) rfl (by first | exact Or.inl rfl | exact Or.inr (Or.inl rfl) | exact Or.inr (Or.inr rfl))) sos_nil)))) (blkOk_by (own := [("_law_hand", 1)]) (by kernel_rfl)) rfl (by decide) (fun _ _ _ _ _ => (sg_name (i := 1) sc.nd rfl (by first | exact Or.inl rfl | exact Or.inr rfl))) (fun _ _ _ _ _ => sq_nil) (fun _ _ _ _ _ => (sv_tup (svs_cons (sv_var (i := 1) rfl (by first | exact Or.inl rfl | exact Or.inr (Or.inl rfl) | exact Or.inr (Or.inr rfl))) (svs_cons (sv_of (se_callB (call_sortedV rfl) rfl T.n_sorted (by rfl) (sos_cons (so_of (sv_of (se_ix (ixV (roomV hr)) (so_var (i := 0) rfl (by first | exact Or.inl rfl | exact Or.inr (Or.inl rfl) | exact Or.inr (Or.inr rfl))) (so_var (i := 1) rfl (by first | exact Or.inl rfl | exact Or.inr (Or.inl rfl) | exact Or.inr (Or.inr rfl))) (fun _ _ => rfl)))) sos_nil))) svs_nil))))))) sos_nil))))
theorem sc__law_maps : FnScope ["_law_stream", "_law_hands_here", "_law_many", "_law_found", "_law_k", "_law_one", "_law_other"] ["_law_stream", "_law_hands_here", "_law_many"] (defScope s__law_maps) := ⟨rfl, rfl, rfl, by decide +kernel, rfl, by decide +kernel, by decide +kernel⟩
theorem ok__law_maps (T : Txt K mg fa fdd cl) : DefOk P w K mg base cl 5 (fa 7) (fdd 7) ["_law_stream", "_law_hands_here", "_law_many"] F__law_maps :=
  have sc := sc__law_maps
  def_by (k := 4) (b := b__law_maps) T.f__law_maps sc rfl fun cdv A outer s H E hr =>
  (sss_cons (ss_set (i := 3) (se_lst svs_nil) sc.nd rfl (by first | exact Or.inl rfl | exact Or.inr rfl))
  (sss_cons (ss_for owns_cx rfl (si_range1 (svs_cons (sv_var (i := 2) rfl (by first | exact Or.inl rfl | exact Or.inr (Or.inl rfl) | exact Or.inr (Or.inr rfl))) svs_nil) rfl T.n_range) (sg_name (i := 4) sc.nd rfl (by first | exact Or.inl rfl | exact Or.inr rfl))
  (sss_cons (ss_set (i := 5) (se_call (k := 4) (F := F__law_map) ⟨(ok__law_map T), T.g__law_map, T.k__law_map, T.b__law_map⟩ (Room.mono hr (by decide)) takes_cx rfl (svs_cons (sv_var (i := 0) rfl (by first | exact Or.inl rfl | exact Or.inr (Or.inl rfl) | exact Or.inr (Or.inr rfl))) (svs_cons (sv_var (i := 1) rfl (by first | exact Or.inl rfl | exact Or.inr (Or.inl rfl) | exact Or.inr (Or.inr rfl))) svs_nil))) sc.nd rfl (by first | exact Or.inl rfl | exact Or.inr rfl))
  (sss_one (ss_if (st_cmp (op_notinV (roomV hr)) (so_of (sv_of (se_call (k := 2) (F := F__law_plain_map) ⟨(ok__law_plain_map T), T.g__law_plain_map, T.k__law_plain_map, T.b__law_plain_map⟩ (Room.mono hr (by decide)) takes_cx rfl (svs_cons (sv_var (i := 5) rfl (by first | exact Or.inl rfl | exact Or.inr (Or.inl rfl) | exact Or.inr (Or.inr rfl))) svs_nil)))) (so_of (sv_of (se_lcO (j := 3) rfl sc.nd rfl (by first | exact Or.inl rfl | exact Or.inr (Or.inl rfl) | exact Or.inr (Or.inr rfl)) (blkOk_by (own := [("_law_other", 6)]) (by kernel_rfl)) rfl (by decide) (by decide) (fun _ _ _ _ _ => (sg_name (i := 6) sc.nd rfl (by first | exact Or.inl rfl | exact Or.inr rfl))) (fun _ _ _ _ _ => sq_nil) (fun _ _ _ _ _ => (sv_of (se_call (k := 2) (F := F__law_plain_map) ⟨(ok__law_plain_map T), T.g__law_plain_map, T.k__law_plain_map, T.b__law_plain_map⟩ (Room.mono hr (by decide)) takes_F rfl (svs_cons (sv_var (i := 6) rfl (by first | exact Or.inl rfl | exact Or.inr (Or.inl rfl) | exact Or.inr (Or.inr rfl))) svs_nil))))))) (by with_unfolding_all rfl))
  (sss_one (ss_expr (se_append (so_var (i := 3) rfl (by first | exact Or.inl rfl | exact Or.inr (Or.inl rfl) | exact Or.inr (Or.inr rfl))) (sv_var (i := 5) rfl (by first | exact Or.inl rfl | exact Or.inr (Or.inl rfl) | exact Or.inr (Or.inr rfl))))))
  sss_nil))))
  (sss_one (ss_ret (se_mvar (i := 3) rfl (by first | exact Or.inl rfl | exact Or.inr (Or.inl rfl) | exact Or.inr (Or.inr rfl)))))))
theorem sc__law_row : FnScope ["_law_stream", "_law_maps_here", "_law_most", "_law_k"] ["_law_stream", "_law_maps_here", "_law_most"] (defScope s__law_row) := ⟨rfl, rfl, rfl, by decide +kernel, rfl, by decide +kernel, by decide +kernel⟩
theorem ok__law_row (T : Txt K mg fa fdd cl) : DefOk P w K mg base cl 3 (fa 8) (fdd 8) ["_law_stream", "_law_maps_here", "_law_most"] F__law_row :=
  have sc := sc__law_row
  def_by (k := 2) (b := b__law_row) T.f__law_row sc rfl fun cdv A outer s H E hr =>
  (sss_one (ss_ret (se_lcN rfl sc.nd (si_range1 (svs_cons (sv_of (se_call (k := 2) (F := F__law_draw) ⟨(ok__law_draw T), T.g__law_draw, T.k__law_draw, T.b__law_draw⟩ (Room.mono hr (by decide)) takes_cx rfl (svs_cons (sv_var (i := 0) rfl (by first | exact Or.inl rfl | exact Or.inr (Or.inl rfl) | exact Or.inr (Or.inr rfl))) (svs_cons (sv_of (se_bin op_addV (so_var (i := 2) rfl (by first | exact Or.inl rfl | exact Or.inr (Or.inl rfl) | exact Or.inr (Or.inr rfl))) (so_of sv_int))) svs_nil)))) svs_nil) rfl T.n_range) (blkOk_by (own := [("_law_k", 3)]) (by kernel_rfl)) rfl (by decide) (fun _ _ _ _ _ => (sg_name (i := 3) sc.nd rfl (by first | exact Or.inl rfl | exact Or.inr rfl))) (fun _ _ _ _ _ => sq_nil) (fun _ _ _ _ _ => (sv_of (se_call (k := 2) (F := F__law_draw) ⟨(ok__law_draw T), T.g__law_draw, T.k__law_draw, T.b__law_draw⟩ (Room.mono hr (by decide)) takes_F rfl (svs_cons (sv_var (i := 0) rfl (by first | exact Or.inl rfl | exact Or.inr (Or.inl rfl) | exact Or.inr (Or.inr rfl))) (svs_cons (sv_of (se_callB (call_lenV) rfl T.n_len (by rfl) (sos_cons (so_var (i := 1) rfl (by first | exact Or.inl rfl | exact Or.inr (Or.inl rfl) | exact Or.inr (Or.inr rfl))) sos_nil))) svs_nil))))))))
theorem sc_is_list : FnScope ["thing"] ["thing"] (defScope s_is_list) := ⟨rfl, rfl, rfl, by decide +kernel, rfl, by decide +kernel, by decide +kernel⟩
theorem ok_is_list (T : Txt K mg fa fdd cl) : DefOk P w K mg base cl 2 (fa 9) (fdd 9) ["thing"] F_is_list :=
  have sc := sc_is_list
  def_by (k := 1) (b := b_is_list) T.f_is_list sc rfl fun cdv A outer s H E hr =>
  (sss_one (ss_ret (se_isis (Ts := [.list, .tuple]) rfl rfl T.n_isinstance ⟨⟨rfl, T.n_list, by rfl, by decide, by decide⟩, ⟨⟨rfl, T.n_tuple, by rfl, by decide, by decide⟩, trivial⟩⟩ (by decide) (so_var (i := 0) rfl (by first | exact Or.inl rfl | exact Or.inr (Or.inl rfl) | exact Or.inr (Or.inr rfl))))))
theorem sc_is_name : FnScope ["thing", "sign"] ["thing"] (defScope s_is_name) := ⟨rfl, rfl, rfl, by decide +kernel, rfl, by decide +kernel, by decide +kernel⟩
theorem ok_is_name (T : Txt K mg fa fdd cl) : DefOk P w K mg base cl 2 (fa 10) (fdd 10) ["thing"] F_is_name :=
  have sc := sc_is_name
  def_by (k := 1) (b := b_is_name) T.f_is_name sc rfl fun cdv A outer s H E hr =>
  (sss_cons (ss_if (STW.t (stw_or (st_not (st_val (sv_of (se_isi (T := .str) rfl rfl T.n_isinstance rfl T.n_str (by rfl) (so_var (i := 0) rfl (by first | exact Or.inl rfl | exact Or.inr (Or.inl rfl) | exact Or.inr (Or.inr rfl))))))) (stw_or (st_not (st_chain op_leV op_leV (so_of sv_int) (so_of (sv_of (se_callB (call_lenV) rfl T.n_len (by rfl) (sos_cons (so_var (i := 0) rfl (by first | exact Or.inl rfl | exact Or.inr (Or.inl rfl) | exact Or.inr (Or.inr rfl))) sos_nil)))) (so_of sv_int))) (stw_or1 (st_cmp (op_notinV (roomV hr)) (so_of (sv_of (se_ix (ixV (roomV hr)) (so_var (i := 0) rfl (by first | exact Or.inl rfl | exact Or.inr (Or.inl rfl) | exact Or.inr (Or.inr rfl))) (so_of sv_int) (fun _ _ => rfl)))) (so_of (sv_gstr rfl T.c_SMALL)) (by with_unfolding_all rfl))))))
  (sss_one (ss_ret (se_of sv_bl)))
  sss_nil)
  (sss_one (ss_ret (se_callB (call_allV rfl) rfl T.n_all (by rfl) (sos_cons (so_of (sv_of (se_lcN rfl sc.nd (si_any (sv_var (i := 0) rfl (by first | exact Or.inl rfl | exact Or.inr (Or.inl rfl) | exact Or.inr (Or.inr rfl)))) (blkOk_by (own := [("sign", 1)]) (by kernel_rfl)) rfl (by decide) (fun _ _ _ _ _ => (sg_name (i := 1) sc.nd rfl (by first | exact Or.inl rfl | exact Or.inr rfl))) (fun _ _ _ _ _ => sq_nil) (fun _ _ _ _ _ => (sv_or (sv_of (se_cmp (op_inV (roomV hr)) (so_var (i := 1) rfl (by first | exact Or.inl rfl | exact Or.inr (Or.inl rfl) | exact Or.inr (Or.inr rfl))) (so_of (sv_gstr rfl T.c_SMALL)) (by with_unfolding_all rfl))) (sv_one (sv_of (se_cmp (op_inV (roomV hr)) (so_var (i := 1) rfl (by first | exact Or.inl rfl | exact Or.inr (Or.inl rfl) | exact Or.inr (Or.inr rfl))) (so_of (sv_gstr rfl T.c_FIGURES)) (by with_unfolding_all rfl))))))))) sos_nil)))))
theorem sc_checked_hands : FnScope ["hands", "found", "index", "hand"] ["hands"] (defScope s_checked_hands) := ⟨rfl, rfl, rfl, by decide +kernel, rfl, by decide +kernel, by decide +kernel⟩
theorem ok_checked_hands (T : Txt K mg fa fdd cl) : DefOk P w K mg base cl 3 (fa 11) (fdd 11) ["hands"] F_checked_hands :=
  have sc := sc_checked_hands
  def_by (k := 2) (b := b_checked_hands) T.f_checked_hands sc rfl fun cdv A outer s H E hr =>
  (sss_cons (ss_if (st_not (st_val (sv_of (se_call (k := 2) (F := F_is_list) ⟨(ok_is_list T), T.g_is_list, T.k_is_list, T.b_is_list⟩ (Room.mono hr (by decide)) takes_cx rfl (svs_cons (sv_var (i := 0) rfl (by first | exact Or.inl rfl | exact Or.inr (Or.inl rfl) | exact Or.inr (Or.inr rfl))) svs_nil)))))
  (sss_one ss_never)
  sss_nil)
  (sss_cons (ss_set (i := 1) (se_lst svs_nil) sc.nd rfl (by first | exact Or.inl rfl | exact Or.inr rfl))
  (sss_cons (ss_for owns_cx rfl (si_enum (svs_cons (sv_var (i := 0) rfl (by first | exact Or.inl rfl | exact Or.inr (Or.inl rfl) | exact Or.inr (Or.inr rfl))) svs_nil) rfl T.n_enumerate) (sg_tup rfl (sgs_cons (sg_name (i := 2) sc.nd rfl (by first | exact Or.inl rfl | exact Or.inr rfl)) (sgs_cons (sg_name (i := 3) sc.nd rfl (by first | exact Or.inl rfl | exact Or.inr rfl)) sgs_nil)))
  (sss_cons (ss_if (STW.t (stw_or (st_not (st_val (sv_of (se_call (k := 2) (F := F_is_name) ⟨(ok_is_name T), T.g_is_name, T.k_is_name, T.b_is_name⟩ (Room.mono hr (by decide)) takes_cx rfl (svs_cons (sv_var (i := 3) rfl (by first | exact Or.inl rfl | exact Or.inr (Or.inl rfl) | exact Or.inr (Or.inr rfl))) svs_nil))))) (stw_or1 (st_cmp (op_inV (roomV hr)) (so_var (i := 3) rfl (by first | exact Or.inl rfl | exact Or.inr (Or.inl rfl) | exact Or.inr (Or.inr rfl))) (so_var (i := 1) rfl (by first | exact Or.inl rfl | exact Or.inr (Or.inl rfl) | exact Or.inr (Or.inr rfl))) (by with_unfolding_all rfl)))))
  (sss_one ss_never)
  sss_nil)
  (sss_one (ss_expr (se_append (so_var (i := 1) rfl (by first | exact Or.inl rfl | exact Or.inr (Or.inl rfl) | exact Or.inr (Or.inr rfl))) (sv_var (i := 3) rfl (by first | exact Or.inl rfl | exact Or.inr (Or.inl rfl) | exact Or.inr (Or.inr rfl))))))))
  (sss_cons (ss_if (st_cmp op_ltV (so_of (sv_of (se_callB (call_lenV) rfl T.n_len (by rfl) (sos_cons (so_var (i := 1) rfl (by first | exact Or.inl rfl | exact Or.inr (Or.inl rfl) | exact Or.inr (Or.inr rfl))) sos_nil)))) (so_of sv_int) (nomark _))
  (sss_one ss_never)
  sss_nil)
  (sss_one (ss_ret (se_callB (call_sortedV rfl) rfl T.n_sorted (by rfl) (sos_cons (so_var (i := 1) rfl (by first | exact Or.inl rfl | exact Or.inr (Or.inl rfl) | exact Or.inr (Or.inr rfl))) sos_nil))))))))
theorem sc_is_hand_of : FnScope ["thing", "hands"] ["thing", "hands"] (defScope s_is_hand_of) := ⟨rfl, rfl, rfl, by decide +kernel, rfl, by decide +kernel, by decide +kernel⟩
theorem ok_is_hand_of (T : Txt K mg fa fdd cl) : DefOk P w K mg base cl 3 (fa 12) (fdd 12) ["thing", "hands"] F_is_hand_of :=
  have sc := sc_is_hand_of
  def_by (k := 2) (b := b_is_hand_of) T.f_is_hand_of sc rfl fun cdv A outer s H E hr =>
  (sss_one (ss_ret (se_of (sv_and (sv_of (se_call (k := 2) (F := F_is_name) ⟨(ok_is_name T), T.g_is_name, T.k_is_name, T.b_is_name⟩ (Room.mono hr (by decide)) takes_cx rfl (svs_cons (sv_var (i := 0) rfl (by first | exact Or.inl rfl | exact Or.inr (Or.inl rfl) | exact Or.inr (Or.inr rfl))) svs_nil))) (sv_one (sv_of (se_cmp (op_inV (roomV hr)) (so_var (i := 0) rfl (by first | exact Or.inl rfl | exact Or.inr (Or.inl rfl) | exact Or.inr (Or.inr rfl))) (so_var (i := 1) rfl (by first | exact Or.inl rfl | exact Or.inr (Or.inl rfl) | exact Or.inr (Or.inr rfl))) (by with_unfolding_all rfl))))))))
theorem sc_is_map : FnScope ["thing", "hands", "hand", "heard", "other"] ["thing", "hands"] (defScope s_is_map) := ⟨rfl, rfl, rfl, by decide +kernel, rfl, by decide +kernel, by decide +kernel⟩
theorem ok_is_map (T : Txt K mg fa fdd cl) : DefOk P w K mg base cl 4 (fa 13) (fdd 13) ["thing", "hands"] F_is_map :=
  have sc := sc_is_map
  def_by (k := 3) (b := b_is_map) T.f_is_map sc rfl fun cdv A outer s H E hr =>
  (sss_cons (ss_if (STW.t (stw_or (st_not (st_val (sv_of (se_isi (T := .dict) rfl rfl T.n_isinstance rfl T.n_dict (by rfl) (so_var (i := 0) rfl (by first | exact Or.inl rfl | exact Or.inr (Or.inl rfl) | exact Or.inr (Or.inr rfl))))))) (stw_or1 (st_cmp (op_neV (roomV hr)) (so_of (sv_of (se_callB (call_lenV) rfl T.n_len (by rfl) (sos_cons (so_var (i := 0) rfl (by first | exact Or.inl rfl | exact Or.inr (Or.inl rfl) | exact Or.inr (Or.inr rfl))) sos_nil)))) (so_of (sv_of (se_callB (call_lenV) rfl T.n_len (by rfl) (sos_cons (so_var (i := 1) rfl (by first | exact Or.inl rfl | exact Or.inr (Or.inl rfl) | exact Or.inr (Or.inr rfl))) sos_nil)))) (nomark _)))))
  (sss_one (ss_ret (se_of sv_bl)))
  sss_nil)
  (sss_cons (ss_for owns_cx rfl (si_any (sv_var (i := 1) rfl (by first | exact Or.inl rfl | exact Or.inr (Or.inl rfl) | exact Or.inr (Or.inr rfl)))) (sg_name (i := 2) sc.nd rfl (by first | exact Or.inl rfl | exact Or.inr rfl))
  (sss_cons (ss_set (i := 3) (se_get1 (roomV hr) (so_var (i := 0) rfl (by first | exact Or.inl rfl | exact Or.inr (Or.inl rfl) | exact Or.inr (Or.inr rfl))) (sv_var (i := 2) rfl (by first | exact Or.inl rfl | exact Or.inr (Or.inl rfl) | exact Or.inr (Or.inr rfl))) ⟨rfl, rfl, rfl, rfl⟩) sc.nd rfl (by first | exact Or.inl rfl | exact Or.inr rfl))
  (sss_cons (ss_if (STW.t (stw_or (st_not (st_val (sv_of (se_call (k := 2) (F := F_is_list) ⟨(ok_is_list T), T.g_is_list, T.k_is_list, T.b_is_list⟩ (Room.mono hr (by decide)) takes_cx rfl (svs_cons (sv_var (i := 3) rfl (by first | exact Or.inl rfl | exact Or.inr (Or.inl rfl) | exact Or.inr (Or.inr rfl))) svs_nil))))) (stw_or1 (st_not (st_val (sv_of (se_callB (call_allV rfl) rfl T.n_all (by rfl) (sos_cons (so_of (sv_of (se_lcN rfl sc.nd (si_any (sv_var (i := 3) rfl (by first | exact Or.inl rfl | exact Or.inr (Or.inl rfl) | exact Or.inr (Or.inr rfl)))) (blkOk_by (own := [("other", 4)]) (by kernel_rfl)) rfl (by decide) (fun _ _ _ _ _ => (sg_name (i := 4) sc.nd rfl (by first | exact Or.inl rfl | exact Or.inr rfl))) (fun _ _ _ _ _ => sq_nil) (fun _ _ _ _ _ => (sv_of (se_call (k := 3) (F := F_is_hand_of) ⟨(ok_is_hand_of T), T.g_is_hand_of, T.k_is_hand_of, T.b_is_hand_of⟩ (Room.mono hr (by decide)) takes_F rfl (svs_cons (sv_var (i := 4) rfl (by first | exact Or.inl rfl | exact Or.inr (Or.inl rfl) | exact Or.inr (Or.inr rfl))) (svs_cons (sv_var (i := 1) rfl (by first | exact Or.inl rfl | exact Or.inr (Or.inl rfl) | exact Or.inr (Or.inr rfl))) svs_nil)))))))) sos_nil))))))))
  (sss_one (ss_ret (se_of sv_bl)))
  sss_nil)
  (sss_one (ss_if (STW.t (stw_or (st_cmp (op_notinV (roomV hr)) (so_var (i := 2) rfl (by first | exact Or.inl rfl | exact Or.inr (Or.inl rfl) | exact Or.inr (Or.inr rfl))) (so_var (i := 3) rfl (by first | exact Or.inl rfl | exact Or.inr (Or.inl rfl) | exact Or.inr (Or.inr rfl))) (by with_unfolding_all rfl)) (stw_or1 (st_cmp (op_neV (roomV hr)) (so_of (sv_of (se_callB (call_lenV) rfl T.n_len (by rfl) (sos_cons (so_of (sv_of (se_dcN rfl sc.nd (si_any (sv_var (i := 3) rfl (by first | exact Or.inl rfl | exact Or.inr (Or.inl rfl) | exact Or.inr (Or.inr rfl)))) (blkOk_by (own := [("other", 4)]) (by kernel_rfl)) rfl (by decide) (fun _ _ _ _ _ => (sg_name (i := 4) sc.nd rfl (by first | exact Or.inl rfl | exact Or.inr rfl))) (fun _ _ _ _ _ => sq_nil) (fun _ _ _ _ _ => (sv_var (i := 4) rfl (by first | exact Or.inl rfl | exact Or.inr (Or.inl rfl) | exact Or.inr (Or.inr rfl)))) (fun _ _ _ _ _ => sv_bl)))) sos_nil)))) (so_of (sv_of (se_callB (call_lenV) rfl T.n_len (by rfl) (sos_cons (so_var (i := 3) rfl (by first | exact Or.inl rfl | exact Or.inr (Or.inl rfl) | exact Or.inr (Or.inr rfl))) sos_nil)))) (nomark _)))))
  (sss_one (ss_ret (se_of sv_bl)))
  sss_nil)))))
  (sss_one (ss_ret (se_of sv_bl)))))
theorem sc_checked_maps : FnScope ["maps", "hands", "found", "index", "thing", "kept", "hand"] ["maps", "hands"] (defScope s_checked_maps) := ⟨rfl, rfl, rfl, by decide +kernel, rfl, by decide +kernel, by decide +kernel⟩
theorem ok_checked_maps (T : Txt K mg fa fdd cl) : DefOk P w K mg base cl 5 (fa 14) (fdd 14) ["maps", "hands"] F_checked_maps :=
  have sc := sc_checked_maps
  def_by (k := 4) (b := b_checked_maps) T.f_checked_maps sc rfl fun cdv A outer s H E hr =>
  (sss_cons (ss_if (STW.t (stw_or (st_not (st_val (sv_of (se_call (k := 2) (F := F_is_list) ⟨(ok_is_list T), T.g_is_list, T.k_is_list, T.b_is_list⟩ (Room.mono hr (by decide)) takes_cx rfl (svs_cons (sv_var (i := 0) rfl (by first | exact Or.inl rfl | exact Or.inr (Or.inl rfl) | exact Or.inr (Or.inr rfl))) svs_nil))))) (stw_or1 (st_cmp (op_eqV' (roomV hr)) (so_of (sv_of (se_callB (call_lenV) rfl T.n_len (by rfl) (sos_cons (so_var (i := 0) rfl (by first | exact Or.inl rfl | exact Or.inr (Or.inl rfl) | exact Or.inr (Or.inr rfl))) sos_nil)))) (so_of sv_int) (nomark _)))))
  (sss_one ss_never)
  sss_nil)
  (sss_cons (ss_set (i := 2) (se_lst svs_nil) sc.nd rfl (by first | exact Or.inl rfl | exact Or.inr rfl))
  (sss_cons (ss_for owns_cx rfl (si_enum (svs_cons (sv_var (i := 0) rfl (by first | exact Or.inl rfl | exact Or.inr (Or.inl rfl) | exact Or.inr (Or.inr rfl))) svs_nil) rfl T.n_enumerate) (sg_tup rfl (sgs_cons (sg_name (i := 3) sc.nd rfl (by first | exact Or.inl rfl | exact Or.inr rfl)) (sgs_cons (sg_name (i := 4) sc.nd rfl (by first | exact Or.inl rfl | exact Or.inr rfl)) sgs_nil)))
  (sss_cons (ss_if (st_not (st_val (sv_of (se_call (k := 4) (F := F_is_map) ⟨(ok_is_map T), T.g_is_map, T.k_is_map, T.b_is_map⟩ (Room.mono hr (by decide)) takes_cx rfl (svs_cons (sv_var (i := 4) rfl (by first | exact Or.inl rfl | exact Or.inr (Or.inl rfl) | exact Or.inr (Or.inr rfl))) (svs_cons (sv_var (i := 1) rfl (by first | exact Or.inl rfl | exact Or.inr (Or.inl rfl) | exact Or.inr (Or.inr rfl))) svs_nil))))))
  (sss_one ss_never)
  sss_nil)
  (sss_cons (ss_setDcN (i := 5) rfl sc.nd rfl rfl (sw_trueD rfl rfl rfl rfl) (si_any (sv_var (i := 1) rfl (by first | exact Or.inl rfl | exact Or.inr (Or.inl rfl) | exact Or.inr (Or.inr rfl)))) (blkOk_by (own := [("hand", 6)]) (by kernel_rfl)) rfl (by decide) (fun _ _ _ _ _ => (sg_name (i := 6) sc.nd rfl (by first | exact Or.inl rfl | exact Or.inr rfl))) (fun _ _ _ _ _ => sq_nil) (fun _ _ _ _ _ => (sv_var (i := 6) rfl (by first | exact Or.inl rfl | exact Or.inr (Or.inl rfl) | exact Or.inr (Or.inr rfl)))) (fun _ _ _ _ _ => (sv_of (se_callB (call_sortedV rfl) rfl T.n_sorted (by rfl) (sos_cons (so_of (sv_of (se_ix (ixV (roomV hr)) (so_var (i := 4) rfl (by first | exact Or.inl rfl | exact Or.inr (Or.inl rfl) | exact Or.inr (Or.inr rfl))) (so_var (i := 6) rfl (by first | exact Or.inl rfl | exact Or.inr (Or.inl rfl) | exact Or.inr (Or.inr rfl))) (fun _ _ => rfl)))) sos_nil)))))
  (sss_cons (ss_if (st_cmp (op_inV (roomV hr)) (so_var (i := 5) rfl (by first | exact Or.inl rfl | exact Or.inr (Or.inl rfl) | exact Or.inr (Or.inr rfl))) (so_var (i := 2) rfl (by first | exact Or.inl rfl | exact Or.inr (Or.inl rfl) | exact Or.inr (Or.inr rfl))) (by with_unfolding_all rfl))
  (sss_one ss_never)
  sss_nil)
  (sss_one (ss_expr (se_append (so_var (i := 2) rfl (by first | exact Or.inl rfl | exact Or.inr (Or.inl rfl) | exact Or.inr (Or.inr rfl))) (sv_var (i := 5) rfl (by first | exact Or.inl rfl | exact Or.inr (Or.inl rfl) | exact Or.inr (Or.inr rfl))))))))))
  (sss_one (ss_ret (se_mvar (i := 2) rfl (by first | exact Or.inl rfl | exact Or.inr (Or.inl rfl) | exact Or.inr (Or.inr rfl))))))))
theorem sc_Maps___init__ : FnScope ["self", "hands", "maps"] ["self", "hands", "maps"] (defScope s_Maps___init__) := ⟨rfl, rfl, rfl, by decide +kernel, rfl, by decide +kernel, by decide +kernel⟩
theorem ok_Maps___init__ (T : Txt K mg fa fdd cl) : DefOk P w K mg base cl 6 (fa 15) (fdd 15) ["self", "hands", "maps"] F_Maps___init__ :=
  have sc := sc_Maps___init__
  def_by (k := 5) (b := b_Maps___init__) T.f_Maps___init__ sc rfl fun cdv A outer s H E hr =>
  (sss_cons (ss_fld T.C5 T.N5_own_hands (sv_of (se_call (k := 3) (F := F_checked_hands) ⟨(ok_checked_hands T), T.g_checked_hands, T.k_checked_hands, T.b_checked_hands⟩ (Room.mono hr (by decide)) takes_cx rfl (svs_cons (sv_var (i := 1) rfl (by first | exact Or.inl rfl | exact Or.inr (Or.inl rfl) | exact Or.inr (Or.inr rfl))) svs_nil))) (so_var (i := 0) rfl (by first | exact Or.inl rfl | exact Or.inr (Or.inl rfl) | exact Or.inr (Or.inr rfl))))
  (sss_one (ss_fld T.C5 T.N5_own_maps (sv_of (se_call (k := 5) (F := F_checked_maps) ⟨(ok_checked_maps T), T.g_checked_maps, T.k_checked_maps, T.b_checked_maps⟩ (Room.mono hr (by decide)) takes_cx rfl (svs_cons (sv_var (i := 2) rfl (by first | exact Or.inl rfl | exact Or.inr (Or.inl rfl) | exact Or.inr (Or.inr rfl))) (svs_cons (sv_fld T.C5 T.N5_own_hands (so_var (i := 0) rfl (by first | exact Or.inl rfl | exact Or.inr (Or.inl rfl) | exact Or.inr (Or.inr rfl)))) svs_nil)))) (so_var (i := 0) rfl (by first | exact Or.inl rfl | exact Or.inr (Or.inl rfl) | exact Or.inr (Or.inr rfl))))))
theorem sc__law_worths : FnScope ["_law_stream", "_law_hands_here", "_law_some", "_law_hand"] ["_law_stream", "_law_hands_here"] (defScope s__law_worths) := ⟨rfl, rfl, rfl, by decide +kernel, rfl, by decide +kernel, by decide +kernel⟩
theorem ok__law_worths (T : Txt K mg fa fdd cl) : DefOk P w K mg base cl 4 (fa 16) (fdd 16) ["_law_stream", "_law_hands_here"] F__law_worths :=
  have sc := sc__law_worths
  def_by (k := 3) (b := b__law_worths) T.f__law_worths sc rfl fun cdv A outer s H E hr =>
  (sss_cons (ss_set (i := 2) (se_call (k := 3) (F := F__law_pick) ⟨(ok__law_pick T), T.g__law_pick, T.k__law_pick, T.b__law_pick⟩ (Room.mono hr (by decide)) takes_cx rfl (svs_cons (sv_var (i := 0) rfl (by first | exact Or.inl rfl | exact Or.inr (Or.inl rfl) | exact Or.inr (Or.inr rfl))) (svs_cons (sv_of (se_lst (svs_cons (sv_of (se_lst (svs_cons sv_int (svs_cons sv_int svs_nil)))) (svs_cons (sv_of (se_lst (svs_cons sv_int (svs_cons sv_int svs_nil)))) (svs_cons (sv_of (se_lst (svs_cons sv_int svs_nil))) (svs_cons (sv_of (se_lst (svs_cons (sv_of (se_neg (so_of sv_int))) (svs_cons sv_int (svs_cons (sv_of (se_bin op_powV (so_of sv_int) (so_of sv_int))) svs_nil))))) svs_nil)))))) svs_nil))) sc.nd rfl (by first | exact Or.inl rfl | exact Or.inr rfl))
  (sss_one (ss_ret (se_callT (call_dictV rfl) rfl T.n_dict (by rfl) (sos_cons (so_of (sv_of (se_lcN rfl sc.nd (si_any (sv_of (se_call (k := 3) (F := F__law_mixed) ⟨(ok__law_mixed T), T.g__law_mixed, T.k__law_mixed, T.b__law_mixed⟩ (Room.mono hr (by decide)) takes_cx rfl (svs_cons (sv_var (i := 0) rfl (by first | exact Or.inl rfl | exact Or.inr (Or.inl rfl) | exact Or.inr (Or.inr rfl))) (svs_cons (sv_var (i := 1) rfl (by first | exact Or.inl rfl | exact Or.inr (Or.inl rfl) | exact Or.inr (Or.inr rfl))) svs_nil))))) (blkOk_by (own := [("_law_hand", 3)]) (by kernel_rfl)) rfl (by decide) (fun _ _ _ _ _ => (sg_name (i := 3) sc.nd rfl (by first | exact Or.inl rfl | exact Or.inr rfl))) (fun _ _ _ _ _ => sq_nil) (fun _ _ _ _ _ => (sv_tup (svs_cons (sv_var (i := 3) rfl (by first | exact Or.inl rfl | exact Or.inr (Or.inl rfl) | exact Or.inr (Or.inr rfl))) (svs_cons (sv_of (se_call (k := 3) (F := F__law_pick) ⟨(ok__law_pick T), T.g__law_pick, T.k__law_pick, T.b__law_pick⟩ (Room.mono hr (by decide)) takes_F rfl (svs_cons (sv_var (i := 0) rfl (by first | exact Or.inl rfl | exact Or.inr (Or.inl rfl) | exact Or.inr (Or.inr rfl))) (svs_cons (sv_var (i := 2) rfl (by first | exact Or.inl rfl | exact Or.inr (Or.inl rfl) | exact Or.inr (Or.inr rfl))) svs_nil)))) svs_nil))))))) sos_nil)))))
theorem sc__law_bent_course : FnScope ["_law_stream", "_law_hands_here", "_law_maps_here", "_law_worths_here", "_law_row_here", "_law_way", "_law_hand", "_law_pairs", "_law_other", "_law_some", "_law_odd", "_law_bad", "_law_lacks", "_law_more", "_law_longer", "_law_doubled", "_law_firsts", "_law_w", "_law_at"] ["_law_stream", "_law_hands_here", "_law_maps_here", "_law_worths_here", "_law_row_here"] (defScope s__law_bent_course) := ⟨rfl, rfl, rfl, by decide +kernel, rfl, by decide +kernel, by decide +kernel⟩
theorem ok__law_bent_course (T : Txt K mg fa fdd cl) : DefOk P w K mg base cl 4 (fa 17) (fdd 17) ["_law_stream", "_law_hands_here", "_law_maps_here", "_law_worths_here", "_law_row_here"] F__law_bent_course :=
  have sc := sc__law_bent_course
  def_by (k := 3) (b := b__law_bent_course) T.f__law_bent_course sc rfl fun cdv A outer s H E hr =>
  (sss_cons (ss_asg (se_of (sv_tup (svs_cons (sv_of (se_call (k := 2) (F := F__law_draw) ⟨(ok__law_draw T), T.g__law_draw, T.k__law_draw, T.b__law_draw⟩ (Room.mono hr (by decide)) takes_cx rfl (svs_cons (sv_var (i := 0) rfl (by first | exact Or.inl rfl | exact Or.inr (Or.inl rfl) | exact Or.inr (Or.inr rfl))) (svs_cons sv_int svs_nil)))) (svs_cons (sv_of (se_call (k := 3) (F := F__law_pick) ⟨(ok__law_pick T), T.g__law_pick, T.k__law_pick, T.b__law_pick⟩ (Room.mono hr (by decide)) takes_cx rfl (svs_cons (sv_var (i := 0) rfl (by first | exact Or.inl rfl | exact Or.inr (Or.inl rfl) | exact Or.inr (Or.inr rfl))) (svs_cons (sv_var (i := 1) rfl (by first | exact Or.inl rfl | exact Or.inr (Or.inl rfl) | exact Or.inr (Or.inr rfl))) svs_nil)))) svs_nil)))) (sg_tup rfl (sgs_cons (sg_name (i := 5) sc.nd rfl (by first | exact Or.inl rfl | exact Or.inr rfl)) (sgs_cons (sg_name (i := 6) sc.nd rfl (by first | exact Or.inl rfl | exact Or.inr rfl)) sgs_nil))))
  (sss_cons (ss_setLcN (i := 7) rfl sc.nd rfl rfl (sw_true rfl rfl rfl rfl) (si_any (sv_of (se_callB (call_sortedV rfl) rfl T.n_sorted (by rfl) (sos_cons (so_var (i := 3) rfl (by first | exact Or.inl rfl | exact Or.inr (Or.inl rfl) | exact Or.inr (Or.inr rfl))) sos_nil)))) (blkOk_by (own := [("_law_other", 8)]) (by kernel_rfl)) rfl (by decide) (fun _ _ _ _ _ => (sg_name (i := 8) sc.nd rfl (by first | exact Or.inl rfl | exact Or.inr rfl))) (fun _ _ _ _ _ => sq_nil) (fun _ _ _ _ _ => (sv_tup (svs_cons (sv_var (i := 8) rfl (by first | exact Or.inl rfl | exact Or.inr (Or.inl rfl) | exact Or.inr (Or.inr rfl))) (svs_cons (sv_of (se_ix (ixV (roomV hr)) (so_var (i := 3) rfl (by first | exact Or.inl rfl | exact Or.inr (Or.inl rfl) | exact Or.inr (Or.inr rfl))) (so_var (i := 8) rfl (by first | exact Or.inl rfl | exact Or.inr (Or.inl rfl) | exact Or.inr (Or.inr rfl))) (fun _ _ => rfl))) svs_nil)))))
  (sss_cons (ss_set (i := 9) (se_lst (svs_cons sv_non (svs_cons sv_int (svs_cons sv_str (svs_cons (sv_of (se_lst svs_nil)) (svs_cons (sv_of se_dict0) (svs_cons (sv_of (se_lst (svs_cons (sv_var (i := 3) rfl (by first | exact Or.inl rfl | exact Or.inr (Or.inl rfl) | exact Or.inr (Or.inr rfl))) svs_nil))) (svs_cons (sv_of (se_lst (svs_cons (sv_var (i := 3) rfl (by first | exact Or.inl rfl | exact Or.inr (Or.inl rfl) | exact Or.inr (Or.inr rfl))) (svs_cons (sv_var (i := 4) rfl (by first | exact Or.inl rfl | exact Or.inr (Or.inl rfl) | exact Or.inr (Or.inr rfl))) (svs_cons (sv_var (i := 4) rfl (by first | exact Or.inl rfl | exact Or.inr (Or.inl rfl) | exact Or.inr (Or.inr rfl))) svs_nil))))) (svs_cons (sv_of (se_disp (sps_cons sv_str sv_int sps_nil))) (svs_cons sv_bl (svs_cons (sv_var (i := 3) rfl (by first | exact Or.inl rfl | exact Or.inr (Or.inl rfl) | exact Or.inr (Or.inr rfl))) svs_nil))))))))))) sc.nd rfl (by first | exact Or.inl rfl | exact Or.inr rfl))
  (sss_cons (ss_if (st_cmp (op_eqV' (roomV hr)) (so_var (i := 5) rfl (by first | exact Or.inl rfl | exact Or.inr (Or.inl rfl) | exact Or.inr (Or.inr rfl))) (so_of sv_int) (nomark _))
  (sss_one (ss_ret (se_call (k := 3) (F := F__law_pick) ⟨(ok__law_pick T), T.g__law_pick, T.k__law_pick, T.b__law_pick⟩ (Room.mono hr (by decide)) takes_cx rfl (svs_cons (sv_var (i := 0) rfl (by first | exact Or.inl rfl | exact Or.inr (Or.inl rfl) | exact Or.inr (Or.inr rfl))) (svs_cons (sv_var (i := 9) rfl (by first | exact Or.inl rfl | exact Or.inr (Or.inl rfl) | exact Or.inr (Or.inr rfl))) svs_nil)))))
  sss_nil)
  (sss_cons (ss_set (i := 10) (se_call (k := 3) (F := F__law_pick) ⟨(ok__law_pick T), T.g__law_pick, T.k__law_pick, T.b__law_pick⟩ (Room.mono hr (by decide)) takes_cx rfl (svs_cons (sv_var (i := 0) rfl (by first | exact Or.inl rfl | exact Or.inr (Or.inl rfl) | exact Or.inr (Or.inr rfl))) (svs_cons (sv_of (se_lst (svs_cons sv_non (svs_cons sv_str (svs_cons sv_bl (svs_cons (sv_of (se_lst (svs_cons sv_int svs_nil))) (svs_cons (sv_of se_dict0) svs_nil))))))) svs_nil))) sc.nd rfl (by first | exact Or.inl rfl | exact Or.inr rfl))
  (sss_cons (ss_set (i := 11) (se_callT (call_dictV rfl) rfl T.n_dict (by rfl) (sos_cons (so_of (sv_of (se_lcN rfl sc.nd (si_any (sv_var (i := 3) rfl (by first | exact Or.inl rfl | exact Or.inr (Or.inl rfl) | exact Or.inr (Or.inr rfl)))) (blkOk_by (own := [("_law_other", 8)]) (by kernel_rfl)) rfl (by decide) (fun _ _ _ _ _ => (sg_name (i := 8) sc.nd rfl (by first | exact Or.inl rfl | exact Or.inr rfl))) (fun _ _ _ _ _ => sq_nil) (fun _ _ _ _ _ => (sv_tup (svs_cons (sv_var (i := 8) rfl (by first | exact Or.inl rfl | exact Or.inr (Or.inl rfl) | exact Or.inr (Or.inr rfl))) (svs_cons (sv_of (se_if (st_cmp (op_eqV' (roomV hr)) (so_var (i := 8) rfl (by first | exact Or.inl rfl | exact Or.inr (Or.inl rfl) | exact Or.inr (Or.inr rfl))) (so_var (i := 6) rfl (by first | exact Or.inl rfl | exact Or.inr (Or.inl rfl) | exact Or.inr (Or.inr rfl))) (nomark _)) (se_of (sv_var (i := 10) rfl (by first | exact Or.inl rfl | exact Or.inr (Or.inl rfl) | exact Or.inr (Or.inr rfl)))) (se_ix (ixV (roomV hr)) (so_var (i := 3) rfl (by first | exact Or.inl rfl | exact Or.inr (Or.inl rfl) | exact Or.inr (Or.inr rfl))) (so_var (i := 8) rfl (by first | exact Or.inl rfl | exact Or.inr (Or.inl rfl) | exact Or.inr (Or.inr rfl))) (fun _ _ => rfl)))) svs_nil))))))) sos_nil)) sc.nd rfl (by first | exact Or.inl rfl | exact Or.inr rfl))
  (sss_cons (ss_set (i := 12) (se_callT (call_dictV rfl) rfl T.n_dict (by rfl) (sos_cons (so_of (sv_of (se_lcN rfl sc.nd (si_any (sv_var (i := 3) rfl (by first | exact Or.inl rfl | exact Or.inr (Or.inl rfl) | exact Or.inr (Or.inr rfl)))) (blkOk_by (own := [("_law_other", 8)]) (by kernel_rfl)) rfl (by decide) (fun _ _ _ _ _ => (sg_name (i := 8) sc.nd rfl (by first | exact Or.inl rfl | exact Or.inr rfl))) (fun _ _ _ _ _ => (sq_one (st_cmp (op_neV (roomV hr)) (so_var (i := 8) rfl (by first | exact Or.inl rfl | exact Or.inr (Or.inl rfl) | exact Or.inr (Or.inr rfl))) (so_var (i := 6) rfl (by first | exact Or.inl rfl | exact Or.inr (Or.inl rfl) | exact Or.inr (Or.inr rfl))) (nomark _)))) (fun _ _ _ _ _ => (sv_tup (svs_cons (sv_var (i := 8) rfl (by first | exact Or.inl rfl | exact Or.inr (Or.inl rfl) | exact Or.inr (Or.inr rfl))) (svs_cons (sv_of (se_ix (ixV (roomV hr)) (so_var (i := 3) rfl (by first | exact Or.inl rfl | exact Or.inr (Or.inl rfl) | exact Or.inr (Or.inr rfl))) (so_var (i := 8) rfl (by first | exact Or.inl rfl | exact Or.inr (Or.inl rfl) | exact Or.inr (Or.inr rfl))) (fun _ _ => rfl))) svs_nil))))))) sos_nil)) sc.nd rfl (by first | exact Or.inl rfl | exact Or.inr rfl))
  (sss_cons (ss_set (i := 13) (se_callT (call_dictV rfl) rfl T.n_dict (by rfl) (sos_cons (so_of (sv_of (se_bin op_addV (so_of (sv_of (se_listItems rfl (so_var (i := 3) rfl (by first | exact Or.inl rfl | exact Or.inr (Or.inl rfl) | exact Or.inr (Or.inr rfl))) rfl T.n_list))) (so_of (sv_of (se_lst (svs_cons (sv_tup (svs_cons sv_str (svs_cons sv_int svs_nil))) svs_nil))))))) sos_nil)) sc.nd rfl (by first | exact Or.inl rfl | exact Or.inr rfl))
  (sss_cons (ss_set (i := 14) (se_bin op_addV (so_var (i := 7) rfl (by first | exact Or.inl rfl | exact Or.inr (Or.inl rfl) | exact Or.inr (Or.inr rfl))) (so_of (sv_of (se_slice (so_var (i := 7) rfl (by first | exact Or.inl rfl | exact Or.inr (Or.inl rfl) | exact Or.inr (Or.inr rfl))) sp_none (sp_some sv_int))))) sc.nd rfl (by first | exact Or.inl rfl | exact Or.inr rfl))
  (sss_cons (ss_set (i := 15) (se_bin op_addV (so_of (sv_of (se_lst (svs_cons (sv_tup (svs_cons (sv_of (se_ix (ixV (roomV hr)) (so_of (sv_of (se_ix (ixV (roomV hr)) (so_var (i := 7) rfl (by first | exact Or.inl rfl | exact Or.inr (Or.inl rfl) | exact Or.inr (Or.inr rfl))) (so_of sv_int) (fun _ _ => rfl)))) (so_of sv_int) (fun _ _ => rfl))) (svs_cons (sv_of (se_ix (ixV (roomV hr)) (so_of (sv_of (se_ix (ixV (roomV hr)) (so_var (i := 7) rfl (by first | exact Or.inl rfl | exact Or.inr (Or.inl rfl) | exact Or.inr (Or.inr rfl))) (so_of sv_int) (fun _ _ => rfl)))) (so_of sv_int) (fun _ _ => rfl))) svs_nil))) svs_nil)))) (so_of (sv_of (se_slice (so_var (i := 7) rfl (by first | exact Or.inl rfl | exact Or.inr (Or.inl rfl) | exact Or.inr (Or.inr rfl))) sp_none (sp_some (sv_of (se_neg (so_of sv_int)))))))) sc.nd rfl (by first | exact Or.inl rfl | exact Or.inr rfl))
  (sss_cons (ss_set (i := 16) (se_lst (svs_cons (sv_var (i := 11) rfl (by first | exact Or.inl rfl | exact Or.inr (Or.inl rfl) | exact Or.inr (Or.inr rfl))) (svs_cons (sv_var (i := 12) rfl (by first | exact Or.inl rfl | exact Or.inr (Or.inl rfl) | exact Or.inr (Or.inr rfl))) (svs_cons (sv_var (i := 13) rfl (by first | exact Or.inl rfl | exact Or.inr (Or.inl rfl) | exact Or.inr (Or.inr rfl))) (svs_cons (sv_var (i := 14) rfl (by first | exact Or.inl rfl | exact Or.inr (Or.inl rfl) | exact Or.inr (Or.inr rfl))) (svs_cons (sv_var (i := 15) rfl (by first | exact Or.inl rfl | exact Or.inr (Or.inl rfl) | exact Or.inr (Or.inr rfl))) (svs_cons (sv_of (se_lcN rfl sc.nd (si_any (sv_var (i := 7) rfl (by first | exact Or.inl rfl | exact Or.inr (Or.inl rfl) | exact Or.inr (Or.inr rfl)))) (blkOk_by (own := [("_law_other", 8), ("_law_w", 17)]) (by kernel_rfl)) rfl (by decide) (fun _ _ _ _ _ => (sg_tup rfl (sgs_cons (sg_name (i := 8) sc.nd rfl (by first | exact Or.inl rfl | exact Or.inr rfl)) (sgs_cons (sg_name (i := 17) sc.nd rfl (by first | exact Or.inl rfl | exact Or.inr rfl)) sgs_nil)))) (fun _ _ _ _ _ => sq_nil) (fun _ _ _ _ _ => (sv_tup (svs_cons (sv_var (i := 8) rfl (by first | exact Or.inl rfl | exact Or.inr (Or.inl rfl) | exact Or.inr (Or.inr rfl))) (svs_cons (sv_of (se_if (st_cmp (op_eqV' (roomV hr)) (so_var (i := 8) rfl (by first | exact Or.inl rfl | exact Or.inr (Or.inl rfl) | exact Or.inr (Or.inr rfl))) (so_var (i := 6) rfl (by first | exact Or.inl rfl | exact Or.inr (Or.inl rfl) | exact Or.inr (Or.inr rfl))) (nomark _)) (se_of (sv_var (i := 10) rfl (by first | exact Or.inl rfl | exact Or.inr (Or.inl rfl) | exact Or.inr (Or.inr rfl)))) (se_of (sv_var (i := 17) rfl (by first | exact Or.inl rfl | exact Or.inr (Or.inl rfl) | exact Or.inr (Or.inr rfl)))))) svs_nil)))))) svs_nil))))))) sc.nd rfl (by first | exact Or.inl rfl | exact Or.inr rfl))
  (sss_cons (ss_if (st_cmp op_ltV (so_var (i := 5) rfl (by first | exact Or.inl rfl | exact Or.inr (Or.inl rfl) | exact Or.inr (Or.inr rfl))) (so_of sv_int) (nomark _))
  (sss_one (ss_ret (se_lst (svs_cons (sv_of (se_ix (ixV (roomV hr)) (so_var (i := 16) rfl (by first | exact Or.inl rfl | exact Or.inr (Or.inl rfl) | exact Or.inr (Or.inr rfl))) (so_of (sv_of (se_bin op_subV (so_var (i := 5) rfl (by first | exact Or.inl rfl | exact Or.inr (Or.inl rfl) | exact Or.inr (Or.inr rfl))) (so_of sv_int)))) (fun _ _ => rfl))) (svs_cons (sv_var (i := 4) rfl (by first | exact Or.inl rfl | exact Or.inr (Or.inl rfl) | exact Or.inr (Or.inr rfl))) svs_nil)))))
  sss_nil)
  (sss_cons (ss_set (i := 18) (se_call (k := 2) (F := F__law_draw) ⟨(ok__law_draw T), T.g__law_draw, T.k__law_draw, T.b__law_draw⟩ (Room.mono hr (by decide)) takes_cx rfl (svs_cons (sv_var (i := 0) rfl (by first | exact Or.inl rfl | exact Or.inr (Or.inl rfl) | exact Or.inr (Or.inr rfl))) (svs_cons (sv_of (se_bin op_addV (so_of (sv_of (se_callB (call_lenV) rfl T.n_len (by rfl) (sos_cons (so_var (i := 4) rfl (by first | exact Or.inl rfl | exact Or.inr (Or.inl rfl) | exact Or.inr (Or.inr rfl))) sos_nil)))) (so_of sv_int))) svs_nil))) sc.nd rfl (by first | exact Or.inl rfl | exact Or.inr rfl))
  (sss_cons (ss_set (i := 10) (se_call (k := 3) (F := F__law_pick) ⟨(ok__law_pick T), T.g__law_pick, T.k__law_pick, T.b__law_pick⟩ (Room.mono hr (by decide)) takes_cx rfl (svs_cons (sv_var (i := 0) rfl (by first | exact Or.inl rfl | exact Or.inr (Or.inl rfl) | exact Or.inr (Or.inr rfl))) (svs_cons (sv_of (se_lst (svs_cons (sv_of (se_neg (so_of sv_int))) (svs_cons (sv_of (se_callB (call_lenV) rfl T.n_len (by rfl) (sos_cons (so_var (i := 2) rfl (by first | exact Or.inl rfl | exact Or.inr (Or.inl rfl) | exact Or.inr (Or.inr rfl))) sos_nil))) (svs_cons sv_non (svs_cons sv_str (svs_cons sv_bl (svs_cons (sv_of (se_lst (svs_cons sv_int svs_nil))) svs_nil)))))))) svs_nil))) sc.nd rfl (by first | exact Or.inl rfl | exact Or.inr rfl))
  (sss_one (ss_ret (se_lst (svs_cons (sv_var (i := 3) rfl (by first | exact Or.inl rfl | exact Or.inr (Or.inl rfl) | exact Or.inr (Or.inr rfl))) (svs_cons (sv_of (se_ix (ixV (roomV hr)) (so_of (sv_of (se_lst (svs_cons (sv_of (se_bin op_addV (so_of (sv_of (se_bin op_addV (so_of (sv_of (se_slice (so_var (i := 4) rfl (by first | exact Or.inl rfl | exact Or.inr (Or.inl rfl) | exact Or.inr (Or.inr rfl))) sp_none (sp_some (sv_var (i := 18) rfl (by first | exact Or.inl rfl | exact Or.inr (Or.inl rfl) | exact Or.inr (Or.inr rfl))))))) (so_of (sv_of (se_lst (svs_cons (sv_var (i := 10) rfl (by first | exact Or.inl rfl | exact Or.inr (Or.inl rfl) | exact Or.inr (Or.inr rfl))) svs_nil))))))) (so_of (sv_of (se_slice (so_var (i := 4) rfl (by first | exact Or.inl rfl | exact Or.inr (Or.inl rfl) | exact Or.inr (Or.inr rfl))) (sp_some (sv_var (i := 18) rfl (by first | exact Or.inl rfl | exact Or.inr (Or.inl rfl) | exact Or.inr (Or.inr rfl)))) sp_none))))) (svs_cons sv_non (svs_cons sv_int (svs_cons (sv_of se_dict0) svs_nil))))))) (so_of (sv_of (se_bin op_modV (so_of (sv_of (se_bin op_subV (so_var (i := 5) rfl (by first | exact Or.inl rfl | exact Or.inr (Or.inl rfl) | exact Or.inr (Or.inr rfl))) (so_of sv_int)))) (so_of sv_int)))) (fun _ _ => rfl))) svs_nil)))))))))))))))))))
theorem sc_is_integer : FnScope ["thing"] ["thing"] (defScope s_is_integer) := ⟨rfl, rfl, rfl, by decide +kernel, rfl, by decide +kernel, by decide +kernel⟩
theorem ok_is_integer (T : Txt K mg fa fdd cl) : DefOk P w K mg base cl 2 (fa 18) (fdd 18) ["thing"] F_is_integer :=
  have sc := sc_is_integer
  def_by (k := 1) (b := b_is_integer) T.f_is_integer sc rfl fun cdv A outer s H E hr =>
  (sss_one (ss_ret (se_of (sv_and (sv_of (se_isi (T := .int) rfl rfl T.n_isinstance rfl T.n_int (by rfl) (so_var (i := 0) rfl (by first | exact Or.inl rfl | exact Or.inr (Or.inl rfl) | exact Or.inr (Or.inr rfl))))) (sv_one (sv_not (sv_of (se_isi (T := .bool) rfl rfl T.n_isinstance rfl T.n_bool (by rfl) (so_var (i := 0) rfl (by first | exact Or.inl rfl | exact Or.inr (Or.inl rfl) | exact Or.inr (Or.inr rfl)))))))))))
theorem sc_Maps___len__ : FnScope ["self"] ["self"] (defScope s_Maps___len__) := ⟨rfl, rfl, rfl, by decide +kernel, rfl, by decide +kernel, by decide +kernel⟩
theorem ok_Maps___len__ (T : Txt K mg fa fdd cl) : DefOk P w K mg base cl 2 (fa 19) (fdd 19) ["self"] F_Maps___len__ :=
  have sc := sc_Maps___len__
  def_by (k := 1) (b := b_Maps___len__) T.f_Maps___len__ sc rfl fun cdv A outer s H E hr =>
  (sss_one (ss_ret (se_callB (call_lenV) rfl T.n_len (by rfl) (sos_cons (so_of (sv_fld T.C5 T.N5_own_maps (so_var (i := 0) rfl (by first | exact Or.inl rfl | exact Or.inr (Or.inl rfl) | exact Or.inr (Or.inr rfl))))) sos_nil))))
theorem sc_is_index : FnScope ["world", "thing"] ["world", "thing"] (defScope s_is_index) := ⟨rfl, rfl, rfl, by decide +kernel, rfl, by decide +kernel, by decide +kernel⟩
theorem ok_is_index (T : Txt K mg fa fdd cl) : DefOk P w K mg base cl 4 (fa 20) (fdd 20) ["world", "thing"] F_is_index :=
  have sc := sc_is_index
  def_by (k := 3) (b := b_is_index) T.f_is_index sc rfl fun cdv A outer s H E hr =>
  (sss_one (ss_ret (se_of (sv_and (sv_of (se_call (k := 2) (F := F_is_integer) ⟨(ok_is_integer T), T.g_is_integer, T.k_is_integer, T.b_is_integer⟩ (Room.mono hr (by decide)) takes_cx rfl (svs_cons (sv_var (i := 1) rfl (by first | exact Or.inl rfl | exact Or.inr (Or.inl rfl) | exact Or.inr (Or.inr rfl))) svs_nil))) (sv_one (sv_chain op_leV op_ltV (so_of sv_int) (so_var (i := 1) rfl (by first | exact Or.inl rfl | exact Or.inr (Or.inl rfl) | exact Or.inr (Or.inr rfl))) (so_of (sv_of (se_lenI (k := 2) (c := 5) (F := F_Maps___len__) (ok_Maps___len__ T) T.b_Maps___len__ T.L5 T.i_Maps___len__ (Room.in1 (Room.mono hr (by decide))) rfl rfl T.n_len (so_var (i := 0) rfl (by first | exact Or.inl rfl | exact Or.inr (Or.inl rfl) | exact Or.inr (Or.inr rfl))) rfl)))))))))
theorem sc_is_row : FnScope ["world", "thing", "index"] ["world", "thing"] (defScope s_is_row) := ⟨rfl, rfl, rfl, by decide +kernel, rfl, by decide +kernel, by decide +kernel⟩
theorem ok_is_row (T : Txt K mg fa fdd cl) : DefOk P w K mg base cl 5 (fa 21) (fdd 21) ["world", "thing"] F_is_row :=
  have sc := sc_is_row
  def_by (k := 4) (b := b_is_row) T.f_is_row sc rfl fun cdv A outer s H E hr =>
  (sss_one (ss_ret (se_of (sv_and (sv_of (se_call (k := 2) (F := F_is_list) ⟨(ok_is_list T), T.g_is_list, T.k_is_list, T.b_is_list⟩ (Room.mono hr (by decide)) takes_cx rfl (svs_cons (sv_var (i := 1) rfl (by first | exact Or.inl rfl | exact Or.inr (Or.inl rfl) | exact Or.inr (Or.inr rfl))) svs_nil))) (sv_one (sv_of (se_callB (call_allV rfl) rfl T.n_all (by rfl) (sos_cons (so_of (sv_of (se_lcN rfl sc.nd (si_any (sv_var (i := 1) rfl (by first | exact Or.inl rfl | exact Or.inr (Or.inl rfl) | exact Or.inr (Or.inr rfl)))) (blkOk_by (own := [("index", 2)]) (by kernel_rfl)) rfl (by decide) (fun _ _ _ _ _ => (sg_name (i := 2) sc.nd rfl (by first | exact Or.inl rfl | exact Or.inr rfl))) (fun _ _ _ _ _ => sq_nil) (fun _ _ _ _ _ => (sv_of (se_call (k := 4) (F := F_is_index) ⟨(ok_is_index T), T.g_is_index, T.k_is_index, T.b_is_index⟩ (Room.mono hr (by decide)) takes_F rfl (svs_cons (sv_var (i := 0) rfl (by first | exact Or.inl rfl | exact Or.inr (Or.inl rfl) | exact Or.inr (Or.inr rfl))) (svs_cons (sv_var (i := 2) rfl (by first | exact Or.inl rfl | exact Or.inr (Or.inl rfl) | exact Or.inr (Or.inr rfl))) svs_nil)))))))) sos_nil))))))))
theorem sc_kept_worths : FnScope ["thing", "hands", "hand", "pair", "found"] ["thing", "hands"] (defScope s_kept_worths) := ⟨rfl, rfl, rfl, by decide +kernel, rfl, by decide +kernel, by decide +kernel⟩
theorem ok_kept_worths_1 (T : Txt K mg fa fdd cl) : DefOk P w K mg base cl 4 (fa 22) (fdd 22) ["thing", "hands"] F_kept_worths_1 :=
  have sc := sc_kept_worths
  def_by (k := 3) (b := b_kept_worths_1) T.f_kept_worths sc rfl fun cdv A outer s H E hr =>
  (sss_cons (ss_if (st_val (sv_of (se_isi (T := .dict) rfl rfl T.n_isinstance rfl T.n_dict (by rfl) (so_var (i := 0) rfl (by first | exact Or.inl rfl | exact Or.inr (Or.inl rfl) | exact Or.inr (Or.inr rfl))))))
  (sss_cons (ss_if (STW.t (stw_or (st_cmp (op_neV (roomV hr)) (so_of (sv_of (se_callB (call_lenV) rfl T.n_len (by rfl) (sos_cons (so_var (i := 0) rfl (by first | exact Or.inl rfl | exact Or.inr (Or.inl rfl) | exact Or.inr (Or.inr rfl))) sos_nil)))) (so_of (sv_of (se_callB (call_lenV) rfl T.n_len (by rfl) (sos_cons (so_var (i := 1) rfl (by first | exact Or.inl rfl | exact Or.inr (Or.inl rfl) | exact Or.inr (Or.inr rfl))) sos_nil)))) (nomark _)) (stw_or1 (st_not (st_val (sv_of (se_callB (call_allV rfl) rfl T.n_all (by rfl) (sos_cons (so_of (sv_of (se_lcN rfl sc.nd (si_any (sv_var (i := 1) rfl (by first | exact Or.inl rfl | exact Or.inr (Or.inl rfl) | exact Or.inr (Or.inr rfl)))) (blkOk_by (own := [("hand", 2)]) (by kernel_rfl)) rfl (by decide) (fun _ _ _ _ _ => (sg_name (i := 2) sc.nd rfl (by first | exact Or.inl rfl | exact Or.inr rfl))) (fun _ _ _ _ _ => sq_nil) (fun _ _ _ _ _ => (sv_and (sv_of (se_cmp (op_inV (roomV hr)) (so_var (i := 2) rfl (by first | exact Or.inl rfl | exact Or.inr (Or.inl rfl) | exact Or.inr (Or.inr rfl))) (so_var (i := 0) rfl (by first | exact Or.inl rfl | exact Or.inr (Or.inl rfl) | exact Or.inr (Or.inr rfl))) (by with_unfolding_all rfl))) (sv_one (sv_of (se_call (k := 2) (F := F_is_integer) ⟨(ok_is_integer T), T.g_is_integer, T.k_is_integer, T.b_is_integer⟩ (Room.mono hr (by decide)) takes_F rfl (svs_cons (sv_of (se_ix (ixV (roomV hr)) (so_var (i := 0) rfl (by first | exact Or.inl rfl | exact Or.inr (Or.inl rfl) | exact Or.inr (Or.inr rfl))) (so_var (i := 2) rfl (by first | exact Or.inl rfl | exact Or.inr (Or.inl rfl) | exact Or.inr (Or.inr rfl))) (fun _ _ => rfl))) svs_nil))))))))) sos_nil))))))))
  (sss_one (ss_ret (se_of sv_non)))
  sss_nil)
  (sss_one (ss_ret (se_dcN rfl sc.nd (si_any (sv_var (i := 1) rfl (by first | exact Or.inl rfl | exact Or.inr (Or.inl rfl) | exact Or.inr (Or.inr rfl)))) (blkOk_by (own := [("hand", 2)]) (by kernel_rfl)) rfl (by decide) (fun _ _ _ _ _ => (sg_name (i := 2) sc.nd rfl (by first | exact Or.inl rfl | exact Or.inr rfl))) (fun _ _ _ _ _ => sq_nil) (fun _ _ _ _ _ => (sv_var (i := 2) rfl (by first | exact Or.inl rfl | exact Or.inr (Or.inl rfl) | exact Or.inr (Or.inr rfl)))) (fun _ _ _ _ _ => (sv_of (se_ix (ixV (roomV hr)) (so_var (i := 0) rfl (by first | exact Or.inl rfl | exact Or.inr (Or.inl rfl) | exact Or.inr (Or.inr rfl))) (so_var (i := 2) rfl (by first | exact Or.inl rfl | exact Or.inr (Or.inl rfl) | exact Or.inr (Or.inr rfl))) (fun _ _ => rfl))))))))
  sss_nil)
  (sss_cons (ss_if (STW.t (stw_or (st_not (st_val (sv_of (se_call (k := 2) (F := F_is_list) ⟨(ok_is_list T), T.g_is_list, T.k_is_list, T.b_is_list⟩ (Room.mono hr (by decide)) takes_cx rfl (svs_cons (sv_var (i := 0) rfl (by first | exact Or.inl rfl | exact Or.inr (Or.inl rfl) | exact Or.inr (Or.inr rfl))) svs_nil))))) (stw_or1 (st_cmp (op_neV (roomV hr)) (so_of (sv_of (se_callB (call_lenV) rfl T.n_len (by rfl) (sos_cons (so_var (i := 0) rfl (by first | exact Or.inl rfl | exact Or.inr (Or.inl rfl) | exact Or.inr (Or.inr rfl))) sos_nil)))) (so_of (sv_of (se_callB (call_lenV) rfl T.n_len (by rfl) (sos_cons (so_var (i := 1) rfl (by first | exact Or.inl rfl | exact Or.inr (Or.inl rfl) | exact Or.inr (Or.inr rfl))) sos_nil)))) (nomark _)))))
  (sss_one (ss_ret (se_of sv_non)))
  sss_nil)
  (sss_cons (ss_if (st_not (st_val (sv_of (se_callB (call_allV rfl) rfl T.n_all (by rfl) (sos_cons (so_of (sv_of (se_lcN rfl sc.nd (si_any (sv_var (i := 0) rfl (by first | exact Or.inl rfl | exact Or.inr (Or.inl rfl) | exact Or.inr (Or.inr rfl)))) (blkOk_by (own := [("pair", 3)]) (by kernel_rfl)) rfl (by decide) (fun _ _ _ _ _ => (sg_name (i := 3) sc.nd rfl (by first | exact Or.inl rfl | exact Or.inr rfl))) (fun _ _ _ _ _ => sq_nil) (fun _ _ _ _ _ => (sv_and (sv_of (se_call (k := 2) (F := F_is_list) ⟨(ok_is_list T), T.g_is_list, T.k_is_list, T.b_is_list⟩ (Room.mono hr (by decide)) takes_F rfl (svs_cons (sv_var (i := 3) rfl (by first | exact Or.inl rfl | exact Or.inr (Or.inl rfl) | exact Or.inr (Or.inr rfl))) svs_nil))) (sv_and (sv_of (se_cmp (op_eqV' (roomV hr)) (so_of (sv_of (se_callB (call_lenV) rfl T.n_len (by rfl) (sos_cons (so_var (i := 3) rfl (by first | exact Or.inl rfl | exact Or.inr (Or.inl rfl) | exact Or.inr (Or.inr rfl))) sos_nil)))) (so_of sv_int) (nomark _))) (sv_one (sv_of (se_call (k := 3) (F := F_is_hand_of) ⟨(ok_is_hand_of T), T.g_is_hand_of, T.k_is_hand_of, T.b_is_hand_of⟩ (Room.mono hr (by decide)) takes_F rfl (svs_cons (sv_of (se_ix (ixV (roomV hr)) (so_var (i := 3) rfl (by first | exact Or.inl rfl | exact Or.inr (Or.inl rfl) | exact Or.inr (Or.inr rfl))) (so_of sv_int) (fun _ _ => rfl))) (svs_cons (sv_var (i := 1) rfl (by first | exact Or.inl rfl | exact Or.inr (Or.inl rfl) | exact Or.inr (Or.inr rfl))) svs_nil))))))))))) sos_nil)))))
  (sss_one (ss_ret (se_of sv_non)))
  sss_nil)
  (sss_cons (ss_setDcN (i := 4) rfl sc.nd rfl rfl (sw_trueD rfl rfl rfl rfl) (si_any (sv_var (i := 0) rfl (by first | exact Or.inl rfl | exact Or.inr (Or.inl rfl) | exact Or.inr (Or.inr rfl)))) (blkOk_by (own := [("pair", 3)]) (by kernel_rfl)) rfl (by decide) (fun _ _ _ _ _ => (sg_name (i := 3) sc.nd rfl (by first | exact Or.inl rfl | exact Or.inr rfl))) (fun _ _ _ _ _ => sq_nil) (fun _ _ _ _ _ => (sv_of (se_ix (ixV (roomV hr)) (so_var (i := 3) rfl (by first | exact Or.inl rfl | exact Or.inr (Or.inl rfl) | exact Or.inr (Or.inr rfl))) (so_of sv_int) (fun _ _ => rfl)))) (fun _ _ _ _ _ => (sv_of (se_ix (ixV (roomV hr)) (so_var (i := 3) rfl (by first | exact Or.inl rfl | exact Or.inr (Or.inl rfl) | exact Or.inr (Or.inr rfl))) (so_of sv_int) (fun _ _ => rfl)))))
  (sss_one (ss_ret (se_if (st_cmp (op_eqV' (roomV hr)) (so_of (sv_of (se_callB (call_lenV) rfl T.n_len (by rfl) (sos_cons (so_var (i := 4) rfl (by first | exact Or.inl rfl | exact Or.inr (Or.inl rfl) | exact Or.inr (Or.inr rfl))) sos_nil)))) (so_of (sv_of (se_callB (call_lenV) rfl T.n_len (by rfl) (sos_cons (so_var (i := 1) rfl (by first | exact Or.inl rfl | exact Or.inr (Or.inl rfl) | exact Or.inr (Or.inr rfl))) sos_nil)))) (nomark _)) (se_call (k := 1) (F := Fstk) ⟨def_stk, T.g_kept_worths, T.k_kept_worths, T.b_kept_worths⟩ (Room.mono hr (by decide)) takes_cx rfl (svs_cons (sv_var (i := 4) rfl (by first | exact Or.inl rfl | exact Or.inr (Or.inl rfl) | exact Or.inr (Or.inr rfl))) (svs_cons (sv_var (i := 1) rfl (by first | exact Or.inl rfl | exact Or.inr (Or.inl rfl) | exact Or.inr (Or.inr rfl))) svs_nil))) (se_of sv_non))))))))
theorem ok_kept_worths_2 (T : Txt K mg fa fdd cl) : DefOk P w K mg base cl 5 (fa 22) (fdd 22) ["thing", "hands"] F_kept_worths_2 :=
  have sc := sc_kept_worths
  def_by (k := 4) (b := b_kept_worths_2) T.f_kept_worths sc rfl fun cdv A outer s H E hr =>
  (sss_cons (ss_if (st_val (sv_of (se_isi (T := .dict) rfl rfl T.n_isinstance rfl T.n_dict (by rfl) (so_var (i := 0) rfl (by first | exact Or.inl rfl | exact Or.inr (Or.inl rfl) | exact Or.inr (Or.inr rfl))))))
  (sss_cons (ss_if (STW.t (stw_or (st_cmp (op_neV (roomV hr)) (so_of (sv_of (se_callB (call_lenV) rfl T.n_len (by rfl) (sos_cons (so_var (i := 0) rfl (by first | exact Or.inl rfl | exact Or.inr (Or.inl rfl) | exact Or.inr (Or.inr rfl))) sos_nil)))) (so_of (sv_of (se_callB (call_lenV) rfl T.n_len (by rfl) (sos_cons (so_var (i := 1) rfl (by first | exact Or.inl rfl | exact Or.inr (Or.inl rfl) | exact Or.inr (Or.inr rfl))) sos_nil)))) (nomark _)) (stw_or1 (st_not (st_val (sv_of (se_callB (call_allV rfl) rfl T.n_all (by rfl) (sos_cons (so_of (sv_of (se_lcN rfl sc.nd (si_any (sv_var (i := 1) rfl (by first | exact Or.inl rfl | exact Or.inr (Or.inl rfl) | exact Or.inr (Or.inr rfl)))) (blkOk_by (own := [("hand", 2)]) (by kernel_rfl)) rfl (by decide) (fun _ _ _ _ _ => (sg_name (i := 2) sc.nd rfl (by first | exact Or.inl rfl | exact Or.inr rfl))) (fun _ _ _ _ _ => sq_nil) (fun _ _ _ _ _ => (sv_and (sv_of (se_cmp (op_inV (roomV hr)) (so_var (i := 2) rfl (by first | exact Or.inl rfl | exact Or.inr (Or.inl rfl) | exact Or.inr (Or.inr rfl))) (so_var (i := 0) rfl (by first | exact Or.inl rfl | exact Or.inr (Or.inl rfl) | exact Or.inr (Or.inr rfl))) (by with_unfolding_all rfl))) (sv_one (sv_of (se_call (k := 2) (F := F_is_integer) ⟨(ok_is_integer T), T.g_is_integer, T.k_is_integer, T.b_is_integer⟩ (Room.mono hr (by decide)) takes_F rfl (svs_cons (sv_of (se_ix (ixV (roomV hr)) (so_var (i := 0) rfl (by first | exact Or.inl rfl | exact Or.inr (Or.inl rfl) | exact Or.inr (Or.inr rfl))) (so_var (i := 2) rfl (by first | exact Or.inl rfl | exact Or.inr (Or.inl rfl) | exact Or.inr (Or.inr rfl))) (fun _ _ => rfl))) svs_nil))))))))) sos_nil))))))))
  (sss_one (ss_ret (se_of sv_non)))
  sss_nil)
  (sss_one (ss_ret (se_dcN rfl sc.nd (si_any (sv_var (i := 1) rfl (by first | exact Or.inl rfl | exact Or.inr (Or.inl rfl) | exact Or.inr (Or.inr rfl)))) (blkOk_by (own := [("hand", 2)]) (by kernel_rfl)) rfl (by decide) (fun _ _ _ _ _ => (sg_name (i := 2) sc.nd rfl (by first | exact Or.inl rfl | exact Or.inr rfl))) (fun _ _ _ _ _ => sq_nil) (fun _ _ _ _ _ => (sv_var (i := 2) rfl (by first | exact Or.inl rfl | exact Or.inr (Or.inl rfl) | exact Or.inr (Or.inr rfl)))) (fun _ _ _ _ _ => (sv_of (se_ix (ixV (roomV hr)) (so_var (i := 0) rfl (by first | exact Or.inl rfl | exact Or.inr (Or.inl rfl) | exact Or.inr (Or.inr rfl))) (so_var (i := 2) rfl (by first | exact Or.inl rfl | exact Or.inr (Or.inl rfl) | exact Or.inr (Or.inr rfl))) (fun _ _ => rfl))))))))
  sss_nil)
  (sss_cons (ss_if (STW.t (stw_or (st_not (st_val (sv_of (se_call (k := 2) (F := F_is_list) ⟨(ok_is_list T), T.g_is_list, T.k_is_list, T.b_is_list⟩ (Room.mono hr (by decide)) takes_cx rfl (svs_cons (sv_var (i := 0) rfl (by first | exact Or.inl rfl | exact Or.inr (Or.inl rfl) | exact Or.inr (Or.inr rfl))) svs_nil))))) (stw_or1 (st_cmp (op_neV (roomV hr)) (so_of (sv_of (se_callB (call_lenV) rfl T.n_len (by rfl) (sos_cons (so_var (i := 0) rfl (by first | exact Or.inl rfl | exact Or.inr (Or.inl rfl) | exact Or.inr (Or.inr rfl))) sos_nil)))) (so_of (sv_of (se_callB (call_lenV) rfl T.n_len (by rfl) (sos_cons (so_var (i := 1) rfl (by first | exact Or.inl rfl | exact Or.inr (Or.inl rfl) | exact Or.inr (Or.inr rfl))) sos_nil)))) (nomark _)))))
  (sss_one (ss_ret (se_of sv_non)))
  sss_nil)
  (sss_cons (ss_if (st_not (st_val (sv_of (se_callB (call_allV rfl) rfl T.n_all (by rfl) (sos_cons (so_of (sv_of (se_lcN rfl sc.nd (si_any (sv_var (i := 0) rfl (by first | exact Or.inl rfl | exact Or.inr (Or.inl rfl) | exact Or.inr (Or.inr rfl)))) (blkOk_by (own := [("pair", 3)]) (by kernel_rfl)) rfl (by decide) (fun _ _ _ _ _ => (sg_name (i := 3) sc.nd rfl (by first | exact Or.inl rfl | exact Or.inr rfl))) (fun _ _ _ _ _ => sq_nil) (fun _ _ _ _ _ => (sv_and (sv_of (se_call (k := 2) (F := F_is_list) ⟨(ok_is_list T), T.g_is_list, T.k_is_list, T.b_is_list⟩ (Room.mono hr (by decide)) takes_F rfl (svs_cons (sv_var (i := 3) rfl (by first | exact Or.inl rfl | exact Or.inr (Or.inl rfl) | exact Or.inr (Or.inr rfl))) svs_nil))) (sv_and (sv_of (se_cmp (op_eqV' (roomV hr)) (so_of (sv_of (se_callB (call_lenV) rfl T.n_len (by rfl) (sos_cons (so_var (i := 3) rfl (by first | exact Or.inl rfl | exact Or.inr (Or.inl rfl) | exact Or.inr (Or.inr rfl))) sos_nil)))) (so_of sv_int) (nomark _))) (sv_one (sv_of (se_call (k := 3) (F := F_is_hand_of) ⟨(ok_is_hand_of T), T.g_is_hand_of, T.k_is_hand_of, T.b_is_hand_of⟩ (Room.mono hr (by decide)) takes_F rfl (svs_cons (sv_of (se_ix (ixV (roomV hr)) (so_var (i := 3) rfl (by first | exact Or.inl rfl | exact Or.inr (Or.inl rfl) | exact Or.inr (Or.inr rfl))) (so_of sv_int) (fun _ _ => rfl))) (svs_cons (sv_var (i := 1) rfl (by first | exact Or.inl rfl | exact Or.inr (Or.inl rfl) | exact Or.inr (Or.inr rfl))) svs_nil))))))))))) sos_nil)))))
  (sss_one (ss_ret (se_of sv_non)))
  sss_nil)
  (sss_cons (ss_setDcN (i := 4) rfl sc.nd rfl rfl (sw_trueD rfl rfl rfl rfl) (si_any (sv_var (i := 0) rfl (by first | exact Or.inl rfl | exact Or.inr (Or.inl rfl) | exact Or.inr (Or.inr rfl)))) (blkOk_by (own := [("pair", 3)]) (by kernel_rfl)) rfl (by decide) (fun _ _ _ _ _ => (sg_name (i := 3) sc.nd rfl (by first | exact Or.inl rfl | exact Or.inr rfl))) (fun _ _ _ _ _ => sq_nil) (fun _ _ _ _ _ => (sv_of (se_ix (ixV (roomV hr)) (so_var (i := 3) rfl (by first | exact Or.inl rfl | exact Or.inr (Or.inl rfl) | exact Or.inr (Or.inr rfl))) (so_of sv_int) (fun _ _ => rfl)))) (fun _ _ _ _ _ => (sv_of (se_ix (ixV (roomV hr)) (so_var (i := 3) rfl (by first | exact Or.inl rfl | exact Or.inr (Or.inl rfl) | exact Or.inr (Or.inr rfl))) (so_of sv_int) (fun _ _ => rfl)))))
  (sss_one (ss_ret (se_if (st_cmp (op_eqV' (roomV hr)) (so_of (sv_of (se_callB (call_lenV) rfl T.n_len (by rfl) (sos_cons (so_var (i := 4) rfl (by first | exact Or.inl rfl | exact Or.inr (Or.inl rfl) | exact Or.inr (Or.inr rfl))) sos_nil)))) (so_of (sv_of (se_callB (call_lenV) rfl T.n_len (by rfl) (sos_cons (so_var (i := 1) rfl (by first | exact Or.inl rfl | exact Or.inr (Or.inl rfl) | exact Or.inr (Or.inr rfl))) sos_nil)))) (nomark _)) (se_call (k := 4) (F := F_kept_worths_1) ⟨(ok_kept_worths_1 T), T.g_kept_worths, T.k_kept_worths, T.b_kept_worths⟩ (Room.mono hr (by decide)) takes_cx rfl (svs_cons (sv_var (i := 4) rfl (by first | exact Or.inl rfl | exact Or.inr (Or.inl rfl) | exact Or.inr (Or.inr rfl))) (svs_cons (sv_var (i := 1) rfl (by first | exact Or.inl rfl | exact Or.inr (Or.inl rfl) | exact Or.inr (Or.inr rfl))) svs_nil))) (se_of sv_non))))))))
theorem ok_kept_worths (T : Txt K mg fa fdd cl) : DefOk P w K mg base cl 5 (fa 22) (fdd 22) ["thing", "hands"] F_kept_worths := ok_kept_worths_2 T
theorem sc_Maps_hands : FnScope ["self"] ["self"] (defScope s_Maps_hands) := ⟨rfl, rfl, rfl, by decide +kernel, rfl, by decide +kernel, by decide +kernel⟩
theorem ok_Maps_hands (T : Txt K mg fa fdd cl) : DefOk P w K mg base cl 2 (fa 23) (fdd 23) ["self"] F_Maps_hands :=
  have sc := sc_Maps_hands
  def_by (k := 1) (b := b_Maps_hands) T.f_Maps_hands sc rfl fun cdv A outer s H E hr =>
  (sss_one (ss_ret (se_callT (call_listV rfl) rfl T.n_list (by rfl) (sos_cons (so_of (sv_fld T.C5 T.N5_own_hands (so_var (i := 0) rfl (by first | exact Or.inl rfl | exact Or.inr (Or.inl rfl) | exact Or.inr (Or.inr rfl))))) sos_nil))))
theorem sc_is_course : FnScope ["world", "thing"] ["world", "thing"] (defScope s_is_course) := ⟨rfl, rfl, rfl, by decide +kernel, rfl, by decide +kernel, by decide +kernel⟩
theorem ok_is_course (T : Txt K mg fa fdd cl) : DefOk P w K mg base cl 6 (fa 24) (fdd 24) ["world", "thing"] F_is_course :=
  have sc := sc_is_course
  def_by (k := 5) (b := b_is_course) T.f_is_course sc rfl fun cdv A outer s H E hr =>
  (sss_cons (ss_if (STW.t (stw_or (st_not (st_val (sv_of (se_call (k := 2) (F := F_is_list) ⟨(ok_is_list T), T.g_is_list, T.k_is_list, T.b_is_list⟩ (Room.mono hr (by decide)) takes_cx rfl (svs_cons (sv_var (i := 1) rfl (by first | exact Or.inl rfl | exact Or.inr (Or.inl rfl) | exact Or.inr (Or.inr rfl))) svs_nil))))) (stw_or1 (st_cmp (op_neV (roomV hr)) (so_of (sv_of (se_callB (call_lenV) rfl T.n_len (by rfl) (sos_cons (so_var (i := 1) rfl (by first | exact Or.inl rfl | exact Or.inr (Or.inl rfl) | exact Or.inr (Or.inr rfl))) sos_nil)))) (so_of sv_int) (nomark _)))))
  (sss_one (ss_ret (se_of sv_bl)))
  sss_nil)
  (sss_one (ss_ret (se_of (sv_and (sv_of (se_cmp op_isnotV (so_of (sv_of (se_call (k := 5) (F := F_kept_worths) ⟨(ok_kept_worths T), T.g_kept_worths, T.k_kept_worths, T.b_kept_worths⟩ (Room.mono hr (by decide)) takes_cx rfl (svs_cons (sv_of (se_ix (ixV (roomV hr)) (so_var (i := 1) rfl (by first | exact Or.inl rfl | exact Or.inr (Or.inl rfl) | exact Or.inr (Or.inr rfl))) (so_of sv_int) (fun _ _ => rfl))) (svs_cons (sv_of (se_meth0 (k := 2) (c := 5) (F := F_Maps_hands) ⟨ok_Maps_hands T, T.C5, T.m_Maps_hands, T.b_Maps_hands⟩ (Room.mono hr (by decide)) takes_cx (so_var (i := 0) rfl (by first | exact Or.inl rfl | exact Or.inr (Or.inl rfl) | exact Or.inr (Or.inr rfl))))) svs_nil))))) (so_of sv_non) (nomark _))) (sv_one (sv_of (se_call (k := 5) (F := F_is_row) ⟨(ok_is_row T), T.g_is_row, T.k_is_row, T.b_is_row⟩ (Room.mono hr (by decide)) takes_cx rfl (svs_cons (sv_var (i := 0) rfl (by first | exact Or.inl rfl | exact Or.inr (Or.inl rfl) | exact Or.inr (Or.inr rfl))) (svs_cons (sv_of (se_ix (ixV (roomV hr)) (so_var (i := 1) rfl (by first | exact Or.inl rfl | exact Or.inr (Or.inl rfl) | exact Or.inr (Or.inr rfl))) (so_of sv_int) (fun _ _ => rfl))) svs_nil))))))))))
theorem sc_law : FnScope ["_law_script", "_law_stream", "_law_turn", "_law_hands_here", "_law_maps_here", "_law_world", "_law_worths_here", "_law_row_here", "_law_pairs", "_law_hand", "_law_first", "_law_pair", "_law_second", "_law_k", "_law_thing"] ["_law_script"] (defScope s_law) := ⟨rfl, rfl, rfl, by decide +kernel, rfl, by decide +kernel, by decide +kernel⟩
theorem ok_law (T : Txt K mg fa fdd cl) : DefOk P w K mg base cl 8 (fa 25) (fdd 25) ["_law_script"] F_law :=
  have sc := sc_law
  def_by (k := 7) (b := b_law) T.f_law sc rfl fun cdv A outer s H E hr =>
  (sss_cons (ss_set (i := 1) (se_of (sv_sto (se_call (k := 2) (F := F__law_start) ⟨(ok__law_start T), T.g__law_start, T.k__law_start, T.b__law_start⟩ (Room.mono hr (by decide)) takes_cx rfl (svs_cons (sv_var (i := 0) rfl (by first | exact Or.inl rfl | exact Or.inr (Or.inl rfl) | exact Or.inr (Or.inr rfl))) svs_nil)))) sc.nd rfl (by first | exact Or.inl rfl | exact Or.inr rfl))
  (sss_cons (ss_for owns_cx rfl (si_range1 (svs_cons sv_int svs_nil) rfl T.n_range) (sg_name (i := 2) sc.nd rfl (by first | exact Or.inl rfl | exact Or.inr rfl))
  (sss_cons (ss_set (i := 3) (se_call (k := 4) (F := F__law_hands) ⟨(ok__law_hands T), T.g__law_hands, T.k__law_hands, T.b__law_hands⟩ (Room.mono hr (by decide)) takes_cx rfl (svs_cons (sv_var (i := 1) rfl (by first | exact Or.inl rfl | exact Or.inr (Or.inl rfl) | exact Or.inr (Or.inr rfl))) (svs_cons (sv_of (se_bin op_addV (so_of sv_int) (so_of (sv_of (se_call (k := 2) (F := F__law_draw) ⟨(ok__law_draw T), T.g__law_draw, T.k__law_draw, T.b__law_draw⟩ (Room.mono hr (by decide)) takes_cx rfl (svs_cons (sv_var (i := 1) rfl (by first | exact Or.inl rfl | exact Or.inr (Or.inl rfl) | exact Or.inr (Or.inr rfl))) (svs_cons sv_int svs_nil))))))) svs_nil))) sc.nd rfl (by first | exact Or.inl rfl | exact Or.inr rfl))
  (sss_cons (ss_set (i := 4) (se_call (k := 5) (F := F__law_maps) ⟨(ok__law_maps T), T.g__law_maps, T.k__law_maps, T.b__law_maps⟩ (Room.mono hr (by decide)) takes_cx rfl (svs_cons (sv_var (i := 1) rfl (by first | exact Or.inl rfl | exact Or.inr (Or.inl rfl) | exact Or.inr (Or.inr rfl))) (svs_cons (sv_var (i := 3) rfl (by first | exact Or.inl rfl | exact Or.inr (Or.inl rfl) | exact Or.inr (Or.inr rfl))) (svs_cons (sv_of (se_bin op_addV (so_of sv_int) (so_of (sv_of (se_call (k := 2) (F := F__law_draw) ⟨(ok__law_draw T), T.g__law_draw, T.k__law_draw, T.b__law_draw⟩ (Room.mono hr (by decide)) takes_cx rfl (svs_cons (sv_var (i := 1) rfl (by first | exact Or.inl rfl | exact Or.inr (Or.inl rfl) | exact Or.inr (Or.inr rfl))) (svs_cons sv_int svs_nil))))))) svs_nil)))) sc.nd rfl (by first | exact Or.inl rfl | exact Or.inr rfl))
  (sss_cons (ss_asg (se_of (sv_tup (svs_cons (sv_of (se_make (k := 6) (c := 5) (F := F_Maps___init__) ⟨ok_Maps___init__ T, T.gC5, T.mk5, T.b_Maps___init__⟩ (Room.mono hr (by decide)) takes_cx rfl (svs_cons (sv_var (i := 3) rfl (by first | exact Or.inl rfl | exact Or.inr (Or.inl rfl) | exact Or.inr (Or.inr rfl))) (svs_cons (sv_var (i := 4) rfl (by first | exact Or.inl rfl | exact Or.inr (Or.inl rfl) | exact Or.inr (Or.inr rfl))) svs_nil)))) (svs_cons (sv_of (se_call (k := 4) (F := F__law_worths) ⟨(ok__law_worths T), T.g__law_worths, T.k__law_worths, T.b__law_worths⟩ (Room.mono hr (by decide)) takes_cx rfl (svs_cons (sv_var (i := 1) rfl (by first | exact Or.inl rfl | exact Or.inr (Or.inl rfl) | exact Or.inr (Or.inr rfl))) (svs_cons (sv_var (i := 3) rfl (by first | exact Or.inl rfl | exact Or.inr (Or.inl rfl) | exact Or.inr (Or.inr rfl))) svs_nil)))) svs_nil)))) (sg_tup rfl (sgs_cons (sg_name (i := 5) sc.nd rfl (by first | exact Or.inl rfl | exact Or.inr rfl)) (sgs_cons (sg_name (i := 6) sc.nd rfl (by first | exact Or.inl rfl | exact Or.inr rfl)) sgs_nil))))
  (sss_cons (ss_set (i := 7) (se_call (k := 3) (F := F__law_row) ⟨(ok__law_row T), T.g__law_row, T.k__law_row, T.b__law_row⟩ (Room.mono hr (by decide)) takes_cx rfl (svs_cons (sv_var (i := 1) rfl (by first | exact Or.inl rfl | exact Or.inr (Or.inl rfl) | exact Or.inr (Or.inr rfl))) (svs_cons (sv_var (i := 4) rfl (by first | exact Or.inl rfl | exact Or.inr (Or.inl rfl) | exact Or.inr (Or.inr rfl))) (svs_cons sv_int svs_nil)))) sc.nd rfl (by first | exact Or.inl rfl | exact Or.inr rfl))
  (sss_cons (ss_setLcN (i := 8) rfl sc.nd rfl rfl (sw_true rfl rfl rfl rfl) (si_any (sv_of (se_callB (call_sortedV rfl) rfl T.n_sorted (by rfl) (sos_cons (so_var (i := 6) rfl (by first | exact Or.inl rfl | exact Or.inr (Or.inl rfl) | exact Or.inr (Or.inr rfl))) sos_nil)))) (blkOk_by (own := [("_law_hand", 9)]) (by kernel_rfl)) rfl (by decide) (fun _ _ _ _ _ => (sg_name (i := 9) sc.nd rfl (by first | exact Or.inl rfl | exact Or.inr rfl))) (fun _ _ _ _ _ => sq_nil) (fun _ _ _ _ _ => (sv_tup (svs_cons (sv_var (i := 9) rfl (by first | exact Or.inl rfl | exact Or.inr (Or.inl rfl) | exact Or.inr (Or.inr rfl))) (svs_cons (sv_of (se_ix (ixV (roomV hr)) (so_var (i := 6) rfl (by first | exact Or.inl rfl | exact Or.inr (Or.inl rfl) | exact Or.inr (Or.inr rfl))) (so_var (i := 9) rfl (by first | exact Or.inl rfl | exact Or.inr (Or.inl rfl) | exact Or.inr (Or.inr rfl))) (fun _ _ => rfl))) svs_nil)))))
  (sss_cons (ss_for owns_cx rfl (si_any (sv_tup (svs_cons (sv_var (i := 6) rfl (by first | exact Or.inl rfl | exact Or.inr (Or.inl rfl) | exact Or.inr (Or.inr rfl))) (svs_cons (sv_var (i := 8) rfl (by first | exact Or.inl rfl | exact Or.inr (Or.inl rfl) | exact Or.inr (Or.inr rfl))) (svs_cons (sv_of (se_callT (call_tupleV) rfl T.n_tuple (by rfl) (sos_cons (so_of (sv_of (se_call (k := 3) (F := F__law_mixed) ⟨(ok__law_mixed T), T.g__law_mixed, T.k__law_mixed, T.b__law_mixed⟩ (Room.mono hr (by decide)) takes_cx rfl (svs_cons (sv_var (i := 1) rfl (by first | exact Or.inl rfl | exact Or.inr (Or.inl rfl) | exact Or.inr (Or.inr rfl))) (svs_cons (sv_var (i := 8) rfl (by first | exact Or.inl rfl | exact Or.inr (Or.inl rfl) | exact Or.inr (Or.inr rfl))) svs_nil))))) sos_nil))) (svs_cons (sv_of (se_lcN rfl sc.nd (si_any (sv_of (se_rev (so_var (i := 8) rfl (by first | exact Or.inl rfl | exact Or.inr (Or.inl rfl) | exact Or.inr (Or.inr rfl)))))) (blkOk_by (own := [("_law_pair", 11)]) (by kernel_rfl)) rfl (by decide) (fun _ _ _ _ _ => (sg_name (i := 11) sc.nd rfl (by first | exact Or.inl rfl | exact Or.inr rfl))) (fun _ _ _ _ _ => sq_nil) (fun _ _ _ _ _ => (sv_of (se_callT (call_listV rfl) rfl T.n_list (by rfl) (sos_cons (so_var (i := 11) rfl (by first | exact Or.inl rfl | exact Or.inr (Or.inl rfl) | exact Or.inr (Or.inr rfl))) sos_nil)))))) svs_nil)))))) (sg_name (i := 10) sc.nd rfl (by first | exact Or.inl rfl | exact Or.inr rfl))
  (sss_one (ss_for owns_cx rfl (si_any (sv_tup (svs_cons (sv_var (i := 7) rfl (by first | exact Or.inl rfl | exact Or.inr (Or.inl rfl) | exact Or.inr (Or.inr rfl))) (svs_cons (sv_of (se_callT (call_tupleV) rfl T.n_tuple (by rfl) (sos_cons (so_var (i := 7) rfl (by first | exact Or.inl rfl | exact Or.inr (Or.inl rfl) | exact Or.inr (Or.inr rfl))) sos_nil))) svs_nil)))) (sg_name (i := 12) sc.nd rfl (by first | exact Or.inl rfl | exact Or.inr rfl))
  (sss_one (ss_if (STW.t (stw_or (st_cmp op_isnotV (so_of (sv_of (se_call (k := 6) (F := F_is_course) ⟨(ok_is_course T), T.g_is_course, T.k_is_course, T.b_is_course⟩ (Room.mono hr (by decide)) takes_cx rfl (svs_cons (sv_var (i := 5) rfl (by first | exact Or.inl rfl | exact Or.inr (Or.inl rfl) | exact Or.inr (Or.inr rfl))) (svs_cons (sv_tup (svs_cons (sv_var (i := 10) rfl (by first | exact Or.inl rfl | exact Or.inr (Or.inl rfl) | exact Or.inr (Or.inr rfl))) (svs_cons (sv_var (i := 12) rfl (by first | exact Or.inl rfl | exact Or.inr (Or.inl rfl) | exact Or.inr (Or.inr rfl))) svs_nil))) svs_nil))))) (so_of sv_bl) (nomark _)) (stw_or1 (st_cmp op_isnotV (so_of (sv_of (se_call (k := 6) (F := F_is_course) ⟨(ok_is_course T), T.g_is_course, T.k_is_course, T.b_is_course⟩ (Room.mono hr (by decide)) takes_cx rfl (svs_cons (sv_var (i := 5) rfl (by first | exact Or.inl rfl | exact Or.inr (Or.inl rfl) | exact Or.inr (Or.inr rfl))) (svs_cons (sv_of (se_lst (svs_cons (sv_var (i := 10) rfl (by first | exact Or.inl rfl | exact Or.inr (Or.inl rfl) | exact Or.inr (Or.inr rfl))) (svs_cons (sv_var (i := 12) rfl (by first | exact Or.inl rfl | exact Or.inr (Or.inl rfl) | exact Or.inr (Or.inr rfl))) svs_nil)))) svs_nil))))) (so_of sv_bl) (nomark _)))))
  (sss_one (ss_ret (se_of sv_bl)))
  sss_nil)))))
  (sss_one (ss_for owns_cx rfl (si_range1 (svs_cons sv_int svs_nil) rfl T.n_range) (sg_name (i := 13) sc.nd rfl (by first | exact Or.inl rfl | exact Or.inr rfl))
  (sss_cons (ss_set (i := 14) (se_call (k := 4) (F := F__law_bent_course) ⟨(ok__law_bent_course T), T.g__law_bent_course, T.k__law_bent_course, T.b__law_bent_course⟩ (Room.mono hr (by decide)) takes_cx rfl (svs_cons (sv_var (i := 1) rfl (by first | exact Or.inl rfl | exact Or.inr (Or.inl rfl) | exact Or.inr (Or.inr rfl))) (svs_cons (sv_var (i := 3) rfl (by first | exact Or.inl rfl | exact Or.inr (Or.inl rfl) | exact Or.inr (Or.inr rfl))) (svs_cons (sv_var (i := 4) rfl (by first | exact Or.inl rfl | exact Or.inr (Or.inl rfl) | exact Or.inr (Or.inr rfl))) (svs_cons (sv_var (i := 6) rfl (by first | exact Or.inl rfl | exact Or.inr (Or.inl rfl) | exact Or.inr (Or.inr rfl))) (svs_cons (sv_var (i := 7) rfl (by first | exact Or.inl rfl | exact Or.inr (Or.inl rfl) | exact Or.inr (Or.inr rfl))) svs_nil)))))) sc.nd rfl (by first | exact Or.inl rfl | exact Or.inr rfl))
  (sss_one (ss_if (st_cmp op_isnotV (so_of (sv_of (se_call (k := 6) (F := F_is_course) ⟨(ok_is_course T), T.g_is_course, T.k_is_course, T.b_is_course⟩ (Room.mono hr (by decide)) takes_cx rfl (svs_cons (sv_var (i := 5) rfl (by first | exact Or.inl rfl | exact Or.inr (Or.inl rfl) | exact Or.inr (Or.inr rfl))) (svs_cons (sv_var (i := 14) rfl (by first | exact Or.inl rfl | exact Or.inr (Or.inl rfl) | exact Or.inr (Or.inr rfl))) svs_nil))))) (so_of sv_bl) (nomark _))
  (sss_one (ss_ret (se_of sv_bl)))
  sss_nil))))))))))))
  (sss_one (ss_ret (se_of sv_bl)))))
end
end K02

namespace K02
open PySem PySem.Spec L2 PV
/-! ### the head -/
set_option maxHeartbeats 4000000 in
theorem all_mk {P : Program} {w : World} {K : PySem.W.Frag} {h : Heap} {mg : Str → Option Value} {fz : Addr} (X : K.In h) (G : h.Ns mainGlobals mg) (hfa : mg "law" = some (.ref fz))
    {f0 f1 f2 f3 f4 f5 f6 f7 f8 f9 f10 f11 f12 f13 f14 f15 f16 f17 f18 f19 f20 f21 f22 f23 f24 f25 C5 : Addr}
    {od0 an0 od1 an1 od2 an2 od3 an3 od4 an4 od5 an5 od6 an6 od7 an7 od8 an8 od9 an9 od10 an10 od11 an11 od12 an12 od13 an13 od14 an14 od15 an15 od16 an16 od17 an17 od18 an18 od19 an19 od20 an20 od21 an21 od22 an22 od23 an23 od24 an24 od25 an25 : Option Addr} {sl0 sl1 sl2 sl3 sl4 sl5 sl6 sl7 sl8 sl9 sl10 sl11 sl12 sl13 sl14 sl15 sl16 sl17 sl18 sl19 sl20 sl21 sl22 sl23 sl24 sl25 : Array (Option Value)} {oc0 kV0 dc0 pm0 cd0 ct0 oc1 kV1 dc1 pm1 cd1 ct1 oc2 kV2 dc2 pm2 cd2 ct2 oc3 kV3 dc3 pm3 cd3 ct3 oc4 kV4 dc4 pm4 cd4 ct4 oc5 kV5 dc5 pm5 cd5 ct5 oc6 kV6 dc6 pm6 cd6 ct6 oc7 kV7 dc7 pm7 cd7 ct7 oc8 kV8 dc8 pm8 cd8 ct8 oc9 kV9 dc9 pm9 cd9 ct9 oc10 kV10 dc10 pm10 cd10 ct10 oc11 kV11 dc11 pm11 cd11 ct11 oc12 kV12 dc12 pm12 cd12 ct12 oc13 kV13 dc13 pm13 cd13 ct13 oc14 kV14 dc14 pm14 cd14 ct14 oc15 kV15 dc15 pm15 cd15 ct15 oc16 kV16 dc16 pm16 cd16 ct16 oc17 kV17 dc17 pm17 cd17 ct17 oc18 kV18 dc18 pm18 cd18 ct18 oc19 kV19 dc19 pm19 cd19 ct19 oc20 kV20 dc20 pm20 cd20 ct20 oc21 kV21 dc21 pm21 cd21 ct21 oc22 kV22 dc22 pm22 cd22 ct22 oc23 kV23 dc23 pm23 cd23 ct23 oc24 kV24 dc24 pm24 cd24 ct24 oc25 kV25 dc25 pm25 cd25 ct25 : Value}
    {t_FIGURES t_SMALL : Tok}
    (aC5 : PySem.W.nsIn K mainGlobals "Maps" = some (some (.ref C5)))
    (a0 : PySem.W.nsIn K mainGlobals "_law_start" = some (some (.ref f0)))
    (l0 : K.lookup f0 = some ⟨oc0, od0, .func (PySem.W.fnOf "_law_start" "_law_start" (defArgs s__law_start) (defBody s__law_start) (defScope s__law_start) .none kV0 dc0 pm0 an0 cd0 ct0), sl0⟩)
    (c0 : PySem.W.codeIn K cd0 "_law_start" = true)
    (k0 : PySem.W.keepIn K (.ref f0) = true)
    (a1 : PySem.W.nsIn K mainGlobals "_law_draw" = some (some (.ref f1)))
    (l1 : K.lookup f1 = some ⟨oc1, od1, .func (PySem.W.fnOf "_law_draw" "_law_draw" (defArgs s__law_draw) (defBody s__law_draw) (defScope s__law_draw) .none kV1 dc1 pm1 an1 cd1 ct1), sl1⟩)
    (c1 : PySem.W.codeIn K cd1 "_law_draw" = true)
    (k1 : PySem.W.keepIn K (.ref f1) = true)
    (a2 : PySem.W.nsIn K mainGlobals "_law_mixed" = some (some (.ref f2)))
    (l2 : K.lookup f2 = some ⟨oc2, od2, .func (PySem.W.fnOf "_law_mixed" "_law_mixed" (defArgs s__law_mixed) (defBody s__law_mixed) (defScope s__law_mixed) .none kV2 dc2 pm2 an2 cd2 ct2), sl2⟩)
    (c2 : PySem.W.codeIn K cd2 "_law_mixed" = true)
    (k2 : PySem.W.keepIn K (.ref f2) = true)
    (a3 : PySem.W.nsIn K mainGlobals "_law_hands" = some (some (.ref f3)))
    (l3 : K.lookup f3 = some ⟨oc3, od3, .func (PySem.W.fnOf "_law_hands" "_law_hands" (defArgs s__law_hands) (defBody s__law_hands) (defScope s__law_hands) .none kV3 dc3 pm3 an3 cd3 ct3), sl3⟩)
    (c3 : PySem.W.codeIn K cd3 "_law_hands" = true)
    (k3 : PySem.W.keepIn K (.ref f3) = true)
    (a4 : PySem.W.nsIn K mainGlobals "_law_pick" = some (some (.ref f4)))
    (l4 : K.lookup f4 = some ⟨oc4, od4, .func (PySem.W.fnOf "_law_pick" "_law_pick" (defArgs s__law_pick) (defBody s__law_pick) (defScope s__law_pick) .none kV4 dc4 pm4 an4 cd4 ct4), sl4⟩)
    (c4 : PySem.W.codeIn K cd4 "_law_pick" = true)
    (k4 : PySem.W.keepIn K (.ref f4) = true)
    (a5 : PySem.W.nsIn K mainGlobals "_law_map" = some (some (.ref f5)))
    (l5 : K.lookup f5 = some ⟨oc5, od5, .func (PySem.W.fnOf "_law_map" "_law_map" (defArgs s__law_map) (defBody s__law_map) (defScope s__law_map) .none kV5 dc5 pm5 an5 cd5 ct5), sl5⟩)
    (c5 : PySem.W.codeIn K cd5 "_law_map" = true)
    (k5 : PySem.W.keepIn K (.ref f5) = true)
    (a6 : PySem.W.nsIn K mainGlobals "_law_plain_map" = some (some (.ref f6)))
    (l6 : K.lookup f6 = some ⟨oc6, od6, .func (PySem.W.fnOf "_law_plain_map" "_law_plain_map" (defArgs s__law_plain_map) (defBody s__law_plain_map) (defScope s__law_plain_map) .none kV6 dc6 pm6 an6 cd6 ct6), sl6⟩)
    (c6 : PySem.W.codeIn K cd6 "_law_plain_map" = true)
    (k6 : PySem.W.keepIn K (.ref f6) = true)
    (a7 : PySem.W.nsIn K mainGlobals "_law_maps" = some (some (.ref f7)))
    (l7 : K.lookup f7 = some ⟨oc7, od7, .func (PySem.W.fnOf "_law_maps" "_law_maps" (defArgs s__law_maps) (defBody s__law_maps) (defScope s__law_maps) .none kV7 dc7 pm7 an7 cd7 ct7), sl7⟩)
    (c7 : PySem.W.codeIn K cd7 "_law_maps" = true)
    (k7 : PySem.W.keepIn K (.ref f7) = true)
    (a8 : PySem.W.nsIn K mainGlobals "_law_row" = some (some (.ref f8)))
    (l8 : K.lookup f8 = some ⟨oc8, od8, .func (PySem.W.fnOf "_law_row" "_law_row" (defArgs s__law_row) (defBody s__law_row) (defScope s__law_row) .none kV8 dc8 pm8 an8 cd8 ct8), sl8⟩)
    (c8 : PySem.W.codeIn K cd8 "_law_row" = true)
    (k8 : PySem.W.keepIn K (.ref f8) = true)
    (a9 : PySem.W.nsIn K mainGlobals "is_list" = some (some (.ref f9)))
    (l9 : K.lookup f9 = some ⟨oc9, od9, .func (PySem.W.fnOf "is_list" "is_list" (defArgs s_is_list) (defBody s_is_list) (defScope s_is_list) .none kV9 dc9 pm9 an9 cd9 ct9), sl9⟩)
    (c9 : PySem.W.codeIn K cd9 "is_list" = true)
    (k9 : PySem.W.keepIn K (.ref f9) = true)
    (a10 : PySem.W.nsIn K mainGlobals "is_name" = some (some (.ref f10)))
    (l10 : K.lookup f10 = some ⟨oc10, od10, .func (PySem.W.fnOf "is_name" "is_name" (defArgs s_is_name) (defBody s_is_name) (defScope s_is_name) .none kV10 dc10 pm10 an10 cd10 ct10), sl10⟩)
    (c10 : PySem.W.codeIn K cd10 "is_name" = true)
    (k10 : PySem.W.keepIn K (.ref f10) = true)
    (a11 : PySem.W.nsIn K mainGlobals "checked_hands" = some (some (.ref f11)))
    (l11 : K.lookup f11 = some ⟨oc11, od11, .func (PySem.W.fnOf "checked_hands" "checked_hands" (defArgs s_checked_hands) (defBody s_checked_hands) (defScope s_checked_hands) .none kV11 dc11 pm11 an11 cd11 ct11), sl11⟩)
    (c11 : PySem.W.codeIn K cd11 "checked_hands" = true)
    (k11 : PySem.W.keepIn K (.ref f11) = true)
    (a12 : PySem.W.nsIn K mainGlobals "is_hand_of" = some (some (.ref f12)))
    (l12 : K.lookup f12 = some ⟨oc12, od12, .func (PySem.W.fnOf "is_hand_of" "is_hand_of" (defArgs s_is_hand_of) (defBody s_is_hand_of) (defScope s_is_hand_of) .none kV12 dc12 pm12 an12 cd12 ct12), sl12⟩)
    (c12 : PySem.W.codeIn K cd12 "is_hand_of" = true)
    (k12 : PySem.W.keepIn K (.ref f12) = true)
    (a13 : PySem.W.nsIn K mainGlobals "is_map" = some (some (.ref f13)))
    (l13 : K.lookup f13 = some ⟨oc13, od13, .func (PySem.W.fnOf "is_map" "is_map" (defArgs s_is_map) (defBody s_is_map) (defScope s_is_map) .none kV13 dc13 pm13 an13 cd13 ct13), sl13⟩)
    (c13 : PySem.W.codeIn K cd13 "is_map" = true)
    (k13 : PySem.W.keepIn K (.ref f13) = true)
    (a14 : PySem.W.nsIn K mainGlobals "checked_maps" = some (some (.ref f14)))
    (l14 : K.lookup f14 = some ⟨oc14, od14, .func (PySem.W.fnOf "checked_maps" "checked_maps" (defArgs s_checked_maps) (defBody s_checked_maps) (defScope s_checked_maps) .none kV14 dc14 pm14 an14 cd14 ct14), sl14⟩)
    (c14 : PySem.W.codeIn K cd14 "checked_maps" = true)
    (k14 : PySem.W.keepIn K (.ref f14) = true)
    (a15 : PySem.W.findIn K (.ref C5) "__init__" = some (some (.ref f15)))
    (i15 : PySem.W.isFn K (.ref f15) = true)
    (l15 : K.lookup f15 = some ⟨oc15, od15, .func (PySem.W.fnOf "__init__" "Maps.__init__" (defArgs s_Maps___init__) (defBody s_Maps___init__) (defScope s_Maps___init__) .none kV15 dc15 pm15 an15 cd15 ct15), sl15⟩)
    (c15 : PySem.W.codeIn K cd15 "Maps.__init__" = true)
    (k15 : PySem.W.keepIn K (.ref f15) = true)
    (a16 : PySem.W.nsIn K mainGlobals "_law_worths" = some (some (.ref f16)))
    (l16 : K.lookup f16 = some ⟨oc16, od16, .func (PySem.W.fnOf "_law_worths" "_law_worths" (defArgs s__law_worths) (defBody s__law_worths) (defScope s__law_worths) .none kV16 dc16 pm16 an16 cd16 ct16), sl16⟩)
    (c16 : PySem.W.codeIn K cd16 "_law_worths" = true)
    (k16 : PySem.W.keepIn K (.ref f16) = true)
    (a17 : PySem.W.nsIn K mainGlobals "_law_bent_course" = some (some (.ref f17)))
    (l17 : K.lookup f17 = some ⟨oc17, od17, .func (PySem.W.fnOf "_law_bent_course" "_law_bent_course" (defArgs s__law_bent_course) (defBody s__law_bent_course) (defScope s__law_bent_course) .none kV17 dc17 pm17 an17 cd17 ct17), sl17⟩)
    (c17 : PySem.W.codeIn K cd17 "_law_bent_course" = true)
    (k17 : PySem.W.keepIn K (.ref f17) = true)
    (a18 : PySem.W.nsIn K mainGlobals "is_integer" = some (some (.ref f18)))
    (l18 : K.lookup f18 = some ⟨oc18, od18, .func (PySem.W.fnOf "is_integer" "is_integer" (defArgs s_is_integer) (defBody s_is_integer) (defScope s_is_integer) .none kV18 dc18 pm18 an18 cd18 ct18), sl18⟩)
    (c18 : PySem.W.codeIn K cd18 "is_integer" = true)
    (k18 : PySem.W.keepIn K (.ref f18) = true)
    (a19 : PySem.W.findIn K (.ref C5) "__len__" = some (some (.ref f19)))
    (i19 : PySem.W.isFn K (.ref f19) = true)
    (l19 : K.lookup f19 = some ⟨oc19, od19, .func (PySem.W.fnOf "__len__" "Maps.__len__" (defArgs s_Maps___len__) (defBody s_Maps___len__) (defScope s_Maps___len__) .none kV19 dc19 pm19 an19 cd19 ct19), sl19⟩)
    (c19 : PySem.W.codeIn K cd19 "Maps.__len__" = true)
    (k19 : PySem.W.keepIn K (.ref f19) = true)
    (a20 : PySem.W.nsIn K mainGlobals "is_index" = some (some (.ref f20)))
    (l20 : K.lookup f20 = some ⟨oc20, od20, .func (PySem.W.fnOf "is_index" "is_index" (defArgs s_is_index) (defBody s_is_index) (defScope s_is_index) .none kV20 dc20 pm20 an20 cd20 ct20), sl20⟩)
    (c20 : PySem.W.codeIn K cd20 "is_index" = true)
    (k20 : PySem.W.keepIn K (.ref f20) = true)
    (a21 : PySem.W.nsIn K mainGlobals "is_row" = some (some (.ref f21)))
    (l21 : K.lookup f21 = some ⟨oc21, od21, .func (PySem.W.fnOf "is_row" "is_row" (defArgs s_is_row) (defBody s_is_row) (defScope s_is_row) .none kV21 dc21 pm21 an21 cd21 ct21), sl21⟩)
    (c21 : PySem.W.codeIn K cd21 "is_row" = true)
    (k21 : PySem.W.keepIn K (.ref f21) = true)
    (a22 : PySem.W.nsIn K mainGlobals "kept_worths" = some (some (.ref f22)))
    (l22 : K.lookup f22 = some ⟨oc22, od22, .func (PySem.W.fnOf "kept_worths" "kept_worths" (defArgs s_kept_worths) (defBody s_kept_worths) (defScope s_kept_worths) .none kV22 dc22 pm22 an22 cd22 ct22), sl22⟩)
    (c22 : PySem.W.codeIn K cd22 "kept_worths" = true)
    (k22 : PySem.W.keepIn K (.ref f22) = true)
    (a23 : PySem.W.findIn K (.ref C5) "hands" = some (some (.ref f23)))
    (i23 : PySem.W.isFn K (.ref f23) = true)
    (l23 : K.lookup f23 = some ⟨oc23, od23, .func (PySem.W.fnOf "hands" "Maps.hands" (defArgs s_Maps_hands) (defBody s_Maps_hands) (defScope s_Maps_hands) .none kV23 dc23 pm23 an23 cd23 ct23), sl23⟩)
    (c23 : PySem.W.codeIn K cd23 "Maps.hands" = true)
    (k23 : PySem.W.keepIn K (.ref f23) = true)
    (a24 : PySem.W.nsIn K mainGlobals "is_course" = some (some (.ref f24)))
    (l24 : K.lookup f24 = some ⟨oc24, od24, .func (PySem.W.fnOf "is_course" "is_course" (defArgs s_is_course) (defBody s_is_course) (defScope s_is_course) .none kV24 dc24 pm24 an24 cd24 ct24), sl24⟩)
    (c24 : PySem.W.codeIn K cd24 "is_course" = true)
    (k24 : PySem.W.keepIn K (.ref f24) = true)
    (a25 : PySem.W.nsIn K mainGlobals "law" = some (some (.ref f25)))
    (l25 : K.lookup f25 = some ⟨oc25, od25, .func (PySem.W.fnOf "law" "law" (defArgs s_law) (defBody s_law) (defScope s_law) .none kV25 dc25 pm25 an25 cd25 ct25), sl25⟩)
    (c25 : PySem.W.codeIn K cd25 "law" = true)
    (k25 : PySem.W.keepIn K (.ref f25) = true)
    (pg5 : PySem.W.plainGet K C5 Str.empty = true)
    (hd5 : PySem.W.hasDictIn K C5 = true)
    (po5 : PySem.W.plainOver K C5 = true)
    (sa5 : PySem.W.findIn K (.ref C5) "__setattr__" = some (some (.builtin "object.__setattr__")))
    (ms5 : PySem.W.makesIn K C5 = true)
    (kc5 : PySem.W.keepIn K (.ref C5) = true)
    (n5_own_hands : PySem.W.findIn K (.ref C5) "own_hands" = some none)
    (n5_own_maps : PySem.W.findIn K (.ref C5) "own_maps" = some none)
    (z_all : PySem.W.nsIn K mainGlobals "all" = some none)
    (z_bool : PySem.W.nsIn K mainGlobals "bool" = some none)
    (z_dict : PySem.W.nsIn K mainGlobals "dict" = some none)
    (z_enumerate : PySem.W.nsIn K mainGlobals "enumerate" = some none)
    (z_int : PySem.W.nsIn K mainGlobals "int" = some none)
    (z_isinstance : PySem.W.nsIn K mainGlobals "isinstance" = some none)
    (z_len : PySem.W.nsIn K mainGlobals "len" = some none)
    (z_list : PySem.W.nsIn K mainGlobals "list" = some none)
    (z_range : PySem.W.nsIn K mainGlobals "range" = some none)
    (z_sorted : PySem.W.nsIn K mainGlobals "sorted" = some none)
    (z_str : PySem.W.nsIn K mainGlobals "str" = some none)
    (z_tuple : PySem.W.nsIn K mainGlobals "tuple" = some none)
    (s_FIGURES : PySem.W.nsIn K mainGlobals "FIGURES" = some (some (.str "0123456789" t_FIGURES)))
    (s_SMALL : PySem.W.nsIn K mainGlobals "SMALL" = some (some (.str "abcdefghijklmnopqrstuvwxyz" t_SMALL)))
    : ∃ fd : FuncData, (∀ (s : Shared) (v : Value), BindsTo s fd ⟨[v], []⟩ [("_law_script", v)]) ∧ ∀ base : Heap, K.In base → base.Ns mainGlobals mg → ∃ cl : Nat → Addr, DefOk P w K mg base cl 8 fz fd ["_law_script"] F_law := by
  have e := hfa.symm.trans (PySem.W.mg_of X G a25)
  cases e
  have F0 := fun_mk (st := s__law_start) l0 c0 k0
  have b0 := F0.binds (ps := ["_law_script"]) fun _ _ _ _ _ _ us hl => match us, hl with | [_], _ => rfl
  have F1 := fun_mk (st := s__law_draw) l1 c1 k1
  have b1 := F1.binds (ps := ["_law_stream", "_law_many"]) fun _ _ _ _ _ _ us hl => match us, hl with | [_, _], _ => rfl
  have F2 := fun_mk (st := s__law_mixed) l2 c2 k2
  have b2 := F2.binds (ps := ["_law_stream", "_law_some"]) fun _ _ _ _ _ _ us hl => match us, hl with | [_, _], _ => rfl
  have F3 := fun_mk (st := s__law_hands) l3 c3 k3
  have b3 := F3.binds (ps := ["_law_stream", "_law_many"]) fun _ _ _ _ _ _ us hl => match us, hl with | [_, _], _ => rfl
  have F4 := fun_mk (st := s__law_pick) l4 c4 k4
  have b4 := F4.binds (ps := ["_law_stream", "_law_some"]) fun _ _ _ _ _ _ us hl => match us, hl with | [_, _], _ => rfl
  have F5 := fun_mk (st := s__law_map) l5 c5 k5
  have b5 := F5.binds (ps := ["_law_stream", "_law_hands_here"]) fun _ _ _ _ _ _ us hl => match us, hl with | [_, _], _ => rfl
  have F6 := fun_mk (st := s__law_plain_map) l6 c6 k6
  have b6 := F6.binds (ps := ["_law_one"]) fun _ _ _ _ _ _ us hl => match us, hl with | [_], _ => rfl
  have F7 := fun_mk (st := s__law_maps) l7 c7 k7
  have b7 := F7.binds (ps := ["_law_stream", "_law_hands_here", "_law_many"]) fun _ _ _ _ _ _ us hl => match us, hl with | [_, _, _], _ => rfl
  have F8 := fun_mk (st := s__law_row) l8 c8 k8
  have b8 := F8.binds (ps := ["_law_stream", "_law_maps_here", "_law_most"]) fun _ _ _ _ _ _ us hl => match us, hl with | [_, _, _], _ => rfl
  have F9 := fun_mk (st := s_is_list) l9 c9 k9
  have b9 := F9.binds (ps := ["thing"]) fun _ _ _ _ _ _ us hl => match us, hl with | [_], _ => rfl
  have F10 := fun_mk (st := s_is_name) l10 c10 k10
  have b10 := F10.binds (ps := ["thing"]) fun _ _ _ _ _ _ us hl => match us, hl with | [_], _ => rfl
  have F11 := fun_mk (st := s_checked_hands) l11 c11 k11
  have b11 := F11.binds (ps := ["hands"]) fun _ _ _ _ _ _ us hl => match us, hl with | [_], _ => rfl
  have F12 := fun_mk (st := s_is_hand_of) l12 c12 k12
  have b12 := F12.binds (ps := ["thing", "hands"]) fun _ _ _ _ _ _ us hl => match us, hl with | [_, _], _ => rfl
  have F13 := fun_mk (st := s_is_map) l13 c13 k13
  have b13 := F13.binds (ps := ["thing", "hands"]) fun _ _ _ _ _ _ us hl => match us, hl with | [_, _], _ => rfl
  have F14 := fun_mk (st := s_checked_maps) l14 c14 k14
  have b14 := F14.binds (ps := ["maps", "hands"]) fun _ _ _ _ _ _ us hl => match us, hl with | [_, _], _ => rfl
  have F15 := fun_mk (st := s_Maps___init__) l15 c15 k15
  have b15 := F15.binds (ps := ["self", "hands", "maps"]) fun _ _ _ _ _ _ us hl => match us, hl with | [_, _, _], _ => rfl
  have F16 := fun_mk (st := s__law_worths) l16 c16 k16
  have b16 := F16.binds (ps := ["_law_stream", "_law_hands_here"]) fun _ _ _ _ _ _ us hl => match us, hl with | [_, _], _ => rfl
  have F17 := fun_mk (st := s__law_bent_course) l17 c17 k17
  have b17 := F17.binds (ps := ["_law_stream", "_law_hands_here", "_law_maps_here", "_law_worths_here", "_law_row_here"]) fun _ _ _ _ _ _ us hl => match us, hl with | [_, _, _, _, _], _ => rfl
  have F18 := fun_mk (st := s_is_integer) l18 c18 k18
  have b18 := F18.binds (ps := ["thing"]) fun _ _ _ _ _ _ us hl => match us, hl with | [_], _ => rfl
  have F19 := fun_mk (st := s_Maps___len__) l19 c19 k19
  have b19 := F19.binds (ps := ["self"]) fun _ _ _ _ _ _ us hl => match us, hl with | [_], _ => rfl
  have F20 := fun_mk (st := s_is_index) l20 c20 k20
  have b20 := F20.binds (ps := ["world", "thing"]) fun _ _ _ _ _ _ us hl => match us, hl with | [_, _], _ => rfl
  have F21 := fun_mk (st := s_is_row) l21 c21 k21
  have b21 := F21.binds (ps := ["world", "thing"]) fun _ _ _ _ _ _ us hl => match us, hl with | [_, _], _ => rfl
  have F22 := fun_mk (st := s_kept_worths) l22 c22 k22
  have b22 := F22.binds (ps := ["thing", "hands"]) fun _ _ _ _ _ _ us hl => match us, hl with | [_, _], _ => rfl
  have F23 := fun_mk (st := s_Maps_hands) l23 c23 k23
  have b23 := F23.binds (ps := ["self"]) fun _ _ _ _ _ _ us hl => match us, hl with | [_], _ => rfl
  have F24 := fun_mk (st := s_is_course) l24 c24 k24
  have b24 := F24.binds (ps := ["world", "thing"]) fun _ _ _ _ _ _ us hl => match us, hl with | [_, _], _ => rfl
  have F25 := fun_mk (st := s_law) l25 c25 k25
  have b25 := F25.binds (ps := ["_law_script"]) fun _ _ _ _ _ _ us hl => match us, hl with | [_], _ => rfl
  let fa : Nat → Addr := fun n => ([f0, f1, f2, f3, f4, f5, f6, f7, f8, f9, f10, f11, f12, f13, f14, f15, f16, f17, f18, f19, f20, f21, f22, f23, f24, fz] : List Addr).getD n fz
  let fdd : Nat → FuncData := fun n => ([PySem.W.fnOf "_law_start" "_law_start" (defArgs s__law_start) (defBody s__law_start) (defScope s__law_start) .none kV0 dc0 pm0 an0 cd0 ct0, PySem.W.fnOf "_law_draw" "_law_draw" (defArgs s__law_draw) (defBody s__law_draw) (defScope s__law_draw) .none kV1 dc1 pm1 an1 cd1 ct1, PySem.W.fnOf "_law_mixed" "_law_mixed" (defArgs s__law_mixed) (defBody s__law_mixed) (defScope s__law_mixed) .none kV2 dc2 pm2 an2 cd2 ct2, PySem.W.fnOf "_law_hands" "_law_hands" (defArgs s__law_hands) (defBody s__law_hands) (defScope s__law_hands) .none kV3 dc3 pm3 an3 cd3 ct3, PySem.W.fnOf "_law_pick" "_law_pick" (defArgs s__law_pick) (defBody s__law_pick) (defScope s__law_pick) .none kV4 dc4 pm4 an4 cd4 ct4, PySem.W.fnOf "_law_map" "_law_map" (defArgs s__law_map) (defBody s__law_map) (defScope s__law_map) .none kV5 dc5 pm5 an5 cd5 ct5, PySem.W.fnOf "_law_plain_map" "_law_plain_map" (defArgs s__law_plain_map) (defBody s__law_plain_map) (defScope s__law_plain_map) .none kV6 dc6 pm6 an6 cd6 ct6, PySem.W.fnOf "_law_maps" "_law_maps" (defArgs s__law_maps) (defBody s__law_maps) (defScope s__law_maps) .none kV7 dc7 pm7 an7 cd7 ct7, PySem.W.fnOf "_law_row" "_law_row" (defArgs s__law_row) (defBody s__law_row) (defScope s__law_row) .none kV8 dc8 pm8 an8 cd8 ct8, PySem.W.fnOf "is_list" "is_list" (defArgs s_is_list) (defBody s_is_list) (defScope s_is_list) .none kV9 dc9 pm9 an9 cd9 ct9, PySem.W.fnOf "is_name" "is_name" (defArgs s_is_name) (defBody s_is_name) (defScope s_is_name) .none kV10 dc10 pm10 an10 cd10 ct10, PySem.W.fnOf "checked_hands" "checked_hands" (defArgs s_checked_hands) (defBody s_checked_hands) (defScope s_checked_hands) .none kV11 dc11 pm11 an11 cd11 ct11, PySem.W.fnOf "is_hand_of" "is_hand_of" (defArgs s_is_hand_of) (defBody s_is_hand_of) (defScope s_is_hand_of) .none kV12 dc12 pm12 an12 cd12 ct12, PySem.W.fnOf "is_map" "is_map" (defArgs s_is_map) (defBody s_is_map) (defScope s_is_map) .none kV13 dc13 pm13 an13 cd13 ct13, PySem.W.fnOf "checked_maps" "checked_maps" (defArgs s_checked_maps) (defBody s_checked_maps) (defScope s_checked_maps) .none kV14 dc14 pm14 an14 cd14 ct14, PySem.W.fnOf "__init__" "Maps.__init__" (defArgs s_Maps___init__) (defBody s_Maps___init__) (defScope s_Maps___init__) .none kV15 dc15 pm15 an15 cd15 ct15, PySem.W.fnOf "_law_worths" "_law_worths" (defArgs s__law_worths) (defBody s__law_worths) (defScope s__law_worths) .none kV16 dc16 pm16 an16 cd16 ct16, PySem.W.fnOf "_law_bent_course" "_law_bent_course" (defArgs s__law_bent_course) (defBody s__law_bent_course) (defScope s__law_bent_course) .none kV17 dc17 pm17 an17 cd17 ct17, PySem.W.fnOf "is_integer" "is_integer" (defArgs s_is_integer) (defBody s_is_integer) (defScope s_is_integer) .none kV18 dc18 pm18 an18 cd18 ct18, PySem.W.fnOf "__len__" "Maps.__len__" (defArgs s_Maps___len__) (defBody s_Maps___len__) (defScope s_Maps___len__) .none kV19 dc19 pm19 an19 cd19 ct19, PySem.W.fnOf "is_index" "is_index" (defArgs s_is_index) (defBody s_is_index) (defScope s_is_index) .none kV20 dc20 pm20 an20 cd20 ct20, PySem.W.fnOf "is_row" "is_row" (defArgs s_is_row) (defBody s_is_row) (defScope s_is_row) .none kV21 dc21 pm21 an21 cd21 ct21, PySem.W.fnOf "kept_worths" "kept_worths" (defArgs s_kept_worths) (defBody s_kept_worths) (defScope s_kept_worths) .none kV22 dc22 pm22 an22 cd22 ct22, PySem.W.fnOf "hands" "Maps.hands" (defArgs s_Maps_hands) (defBody s_Maps_hands) (defScope s_Maps_hands) .none kV23 dc23 pm23 an23 cd23 ct23, PySem.W.fnOf "is_course" "is_course" (defArgs s_is_course) (defBody s_is_course) (defScope s_is_course) .none kV24 dc24 pm24 an24 cd24 ct24, PySem.W.fnOf "law" "law" (defArgs s_law) (defBody s_law) (defScope s_law) .none kV25 dc25 pm25 an25 cd25 ct25] : List FuncData).getD n (PySem.W.fnOf "law" "law" (defArgs s_law) (defBody s_law) (defScope s_law) .none kV25 dc25 pm25 an25 cd25 ct25)
  let cl : Nat → Addr := fun n => ([C5, C5, C5, C5, C5, C5] : List Addr).getD n C5
  have T : Txt K mg fa fdd cl := ⟨F0, k0, b0, PySem.W.mg_of X G a0, F1, k1, b1, PySem.W.mg_of X G a1, F2, k2, b2, PySem.W.mg_of X G a2, F3, k3, b3, PySem.W.mg_of X G a3, F4, k4, b4, PySem.W.mg_of X G a4, F5, k5, b5, PySem.W.mg_of X G a5, F6, k6, b6, PySem.W.mg_of X G a6, F7, k7, b7, PySem.W.mg_of X G a7, F8, k8, b8, PySem.W.mg_of X G a8, F9, k9, b9, PySem.W.mg_of X G a9, F10, k10, b10, PySem.W.mg_of X G a10, F11, k11, b11, PySem.W.mg_of X G a11, F12, k12, b12, PySem.W.mg_of X G a12, F13, k13, b13, PySem.W.mg_of X G a13, F14, k14, b14, PySem.W.mg_of X G a14, F15, k15, b15, ⟨ms5, a15, i15, kc5⟩, PySem.W.mg_of X G aC5, F16, k16, b16, PySem.W.mg_of X G a16, F17, k17, b17, PySem.W.mg_of X G a17, F18, k18, b18, PySem.W.mg_of X G a18, F19, k19, b19, a19, i19, F20, k20, b20, PySem.W.mg_of X G a20, F21, k21, b21, PySem.W.mg_of X G a21, F22, k22, b22, PySem.W.mg_of X G a22, F23, k23, b23, ⟨a23, i23, k23⟩, F24, k24, b24, PySem.W.mg_of X G a24, F25, k25, b25, PySem.W.mg_of X G a25, ⟨pg5, hd5, po5, sa5⟩, n5_own_hands, n5_own_maps, PySem.W.mg_none_of X G z_all, PySem.W.mg_none_of X G z_bool, PySem.W.mg_none_of X G z_dict, PySem.W.mg_none_of X G z_enumerate, PySem.W.mg_none_of X G z_int, PySem.W.mg_none_of X G z_isinstance, PySem.W.mg_none_of X G z_len, PySem.W.mg_none_of X G z_list, PySem.W.mg_none_of X G z_range, PySem.W.mg_none_of X G z_sorted, PySem.W.mg_none_of X G z_str, PySem.W.mg_none_of X G z_tuple, ⟨t_FIGURES, PySem.W.mg_of X G s_FIGURES⟩, ⟨t_SMALL, PySem.W.mg_of X G s_SMALL⟩⟩
  exact ⟨fdd 25, fun s v => .of_eq rfl, fun base _ _ => ⟨cl, ok_law T⟩⟩
end K02

namespace K02
open PySem hiding ret
open PySem.Spec L2 PV
/-- the stream stands in the store's first two places; n: no more draws than that were made -/
structure St (S : List MO) (T : List MO) (n : Nat) : Prop where
  ex : ∃ (cells : List Int) (c cnt mix : Int), S = .lst (cells.map .int) :: .lst [.ref 0, .int c, .int cnt, .int mix] :: T ∧ cells.length ≤ 63 ∧ 0 ≤ c ∧ 0 ≤ cnt ∧ cnt ≤ n ∧ 0 ≤ mix ∧ mix < 2147483647
theorem w_test {cells : List Int} {c cnt mix : Int} {T : List MO} {m : Int} {s2 s3 s4 : PV.Slot} {P : Bool → State → Prop}
    (h : P (c == 0 && !cells.isEmpty) ⟨[.shr (.ref 1), .shr (.int m), s2, s3, s4], .lst (cells.map .int) :: .lst [.ref 0, .int c, .int cnt, .int mix] :: T⟩) :
    Ok (w1c__law_draw ⟨[.shr (.ref 1), .shr (.int m), s2, s3, s4], .lst (cells.map .int) :: .lst [.ref 0, .int c, .int cnt, .int mix] :: T⟩) P := by
  unfold w1c__law_draw
  simp only [ok_mAnd, ok_bnd, ok_ret, ok_app2, ok_oVar, ok_k2, okO_some, res_val, res_slot, slotV_shr, deref_ref, deref_int, deref_list, deS_lst, List.getElem?_cons_zero, List.getElem?_cons_succ, ix_list_i, at0, at1, at2, at3, oS_some, ok_frz_sh, ok_frz_lst, eq_ii, ok_asB'_b, ne_ints]
  split
  · rename_i hc
    rw [hc, Bool.true_and] at h
    exact h
  · rename_i hc
    rw [show (c == 0) = false by simpa using hc, Bool.false_and] at h
    exact h
theorem w_body {z : Int} {cells : List Int} {c cnt mix : Int} {T : List MO} {m : Int} {s2 s3 s4 : PV.Slot} {P : Fl → State → Prop} (hm : 0 ≤ mix ∧ mix < 2147483647)
    (h : P .nx ⟨[.shr (.ref 1), .shr (.int m), .shr (.int z), s3, s4], .lst (cells.map .int) :: .lst [.ref 0, .int (if 10 ^ 18 ≤ z then z else 0), .int cnt, .int ((mix * 8191 + z + 3) % 2147483647)] :: T⟩) :
    Ok (w2b__law_draw ⟨[.shr (.ref 1), .shr (.int m), s2, s3, s4], .lst ((z :: cells).map .int) :: .lst [.ref 0, .int c, .int cnt, .int mix] :: T⟩) P := by
  unfold w2b__law_draw
  have hc : cMul mix 8191 = true := by simp [cMul]
  simp only [ok_seq, seqP_nx, seqP_rt, endP_rt, endP_nx, mPopAt, ok_bnd, ok_ret, ok_app2, ok_appN, ok_oVar, ok_vVar, ok_mVar, ok_k2, ok_kN, ok_oCons, okO_some, res_val, res_slot, resAll_nil, resAll_cons, resC_some, slotV_shr, slotV_own, deref_ref, deref_int, deref_list, deS_lst, List.getElem?_cons_zero, List.getElem?_cons_succ, ix_list_i, at0, at1, at2, at3, oS_some, ok_frz_sh, ok_frz_lst, eq_ii, ok_asB'_b, ne_ints, ok_chkL, recv, ok_onL, List.map_cons, List.length_cons, List.length_nil, ixN0, List.eraseIdx_cons_zero, ok_mStore, RV.slot, List.set_cons_zero, List.set_cons_succ, ok_mSetIx, put_list, Option.map_some, ix4_1, ix4_2, ix4_3, add_ii, int_i, ok_mIf, ge_ii, gt_ii, Nat.zero_add, Nat.reduceAdd, mul_ii hc]
  rw [mod_ii (by simp [cMod])]
  simp only [ok_seq, seqP_nx, seqP_rt, endP_rt, endP_nx, mPopAt, ok_bnd, ok_ret, ok_app2, ok_appN, ok_oVar, ok_vVar, ok_mVar, ok_k2, ok_kN, ok_oCons, okO_some, res_val, res_slot, resAll_nil, resAll_cons, resC_some, slotV_shr, slotV_own, deref_ref, deref_int, deref_list, deS_lst, List.getElem?_cons_zero, List.getElem?_cons_succ, ix_list_i, at0, at1, at2, at3, oS_some, ok_frz_sh, ok_frz_lst, eq_ii, ok_asB'_b, ne_ints, ok_chkL, recv, ok_onL, List.map_cons, List.length_cons, List.length_nil, ixN0, List.eraseIdx_cons_zero, ok_mStore, RV.slot, List.set_cons_zero, List.set_cons_succ, ok_mSetIx, put_list, Option.map_some, ix4_1, ix4_2, ix4_3, add_ii, int_i, ok_mIf, ge_ii, gt_ii, Nat.zero_add, Nat.reduceAdd]
  rw [pow_ii (by simp [cPow])]
  simp only [ok_seq, seqP_nx, seqP_rt, endP_rt, endP_nx, mPopAt, ok_bnd, ok_ret, ok_app2, ok_appN, ok_oVar, ok_vVar, ok_mVar, ok_k2, ok_kN, ok_oCons, okO_some, res_val, res_slot, resAll_nil, resAll_cons, resC_some, slotV_shr, slotV_own, deref_ref, deref_int, deref_list, deS_lst, List.getElem?_cons_zero, List.getElem?_cons_succ, ix_list_i, at0, at1, at2, at3, oS_some, ok_frz_sh, ok_frz_lst, eq_ii, ok_asB'_b, ne_ints, ok_chkL, recv, ok_onL, List.map_cons, List.length_cons, List.length_nil, ixN0, List.eraseIdx_cons_zero, ok_mStore, RV.slot, List.set_cons_zero, List.set_cons_succ, ok_mSetIx, put_list, Option.map_some, ix4_1, ix4_2, ix4_3, add_ii, int_i, ok_mIf, ge_ii, gt_ii, Nat.zero_add, Nat.reduceAdd]
  split
  · rename_i hz
    have hz : (10 : Int) ^ 18 ≤ z := of_decide_eq_true hz
    rw [if_pos hz] at h
    exact h
  · rename_i hz
    have hz : ¬ (10 : Int) ^ 18 ≤ z := fun q => hz (decide_eq_true q)
    rw [if_neg hz] at h
    exact h
/-- the loop: the cells are read until one is great -/
theorem w_loop {T : List MO} {m cnt : Int} {s3 s4 : PV.Slot} {P : Fl → State → Prop} : ∀ (cells : List Int) (c mix : Int) (s2 : PV.Slot) (N : Nat), cells.length < N → 0 ≤ c → 0 ≤ mix ∧ mix < 2147483647 →
    (∀ (cells' : List Int) (c' mix' : Int) (s2' : PV.Slot), cells'.length ≤ cells.length → 0 ≤ c' → 0 ≤ mix' ∧ mix' < 2147483647 → P .nx ⟨[.shr (.ref 1), .shr (.int m), s2', s3, s4], .lst (cells'.map .int) :: .lst [.ref 0, .int c', .int cnt, .int mix'] :: T⟩) →
    Ok (mWhile w1c__law_draw w2b__law_draw N ⟨[.shr (.ref 1), .shr (.int m), s2, s3, s4], .lst (cells.map .int) :: .lst [.ref 0, .int c, .int cnt, .int mix] :: T⟩) P
  | cells, c, mix, s2, 0, hN, _, _, _ => absurd hN (Nat.not_lt_zero _)
  | [], c, mix, s2, N + 1, hN, hc, hm, h => by
    rw [ok_while]
    refine w_test ?_
    rw [show (c == 0 && !([] : List Int).isEmpty) = false by simp, if_neg Bool.false_ne_true]
    exact h [] c mix s2 (Nat.le_refl _) hc hm
  | z :: cells, c, mix, s2, N + 1, hN, hc, hm, h => by
    rw [ok_while]
    refine w_test ?_
    by_cases h0 : c = 0
    · rw [show (c == 0 && !(z :: cells).isEmpty) = true by simp [h0], if_pos rfl]
      refine w_body hm ?_
      have hm' : 0 ≤ (mix * 8191 + z + 3) % 2147483647 ∧ (mix * 8191 + z + 3) % 2147483647 < 2147483647 := ⟨Int.emod_nonneg _ (by decide), Int.emod_lt_of_pos _ (by decide)⟩
      refine w_loop cells _ _ _ N (by simp at hN; omega) ?_ hm' fun cells' c' mix' s2' h1 h2 h3 => h cells' c' mix' s2' (by simp; omega) h2 h3
      split
      · rename_i hz
        have : (0 : Int) ≤ 10 ^ 18 := by decide
        omega
      · omega
    · rw [show (c == 0 && !(z :: cells).isEmpty) = false by simp [h0], if_neg Bool.false_ne_true]
      exact h (z :: cells) c mix s2 (Nat.le_refl _) hc hm
theorem draw_ok {S T : List MO} {n : Nat} {m : Int} (h : St S T n) (hn : n < 1000000) (hm : 0 < m) (hm2 : m < 1073741824) : FOk (F__law_draw [.ref 1, .int m] S) fun r S' => ∃ d : Int, r = .sh (.int d) ∧ 0 ≤ d ∧ d < m ∧ St S' T (n + 1) := by
  obtain ⟨cells, c, cnt, mix, rfl, hl, hc, h0, h1, h2, h3⟩ := h.ex
  unfold F__law_draw b__law_draw
  rw [fok_def]
  have e1 : ([.ref 1, .int m] : List Val).map PV.Slot.shr ++ List.replicate (5 - ([.ref 1, .int m] : List Val).length) PV.Slot.unb = [.shr (.ref 1), .shr (.int m), .unb, .unb, .unb] := rfl
  rw [e1]
  simp only [ok_seq, seqP_nx, seqP_rt, endP_rt, endP_nx, mPopAt, ok_bnd, ok_ret, ok_app2, ok_appN, ok_oVar, ok_vVar, ok_mVar, ok_k2, ok_kN, ok_oCons, okO_some, res_val, res_slot, resAll_nil, resAll_cons, resC_some, slotV_shr, slotV_own, deref_ref, deref_int, deref_list, deS_lst, List.getElem?_cons_zero, List.getElem?_cons_succ, ix_list_i, at0, at1, at2, at3, oS_some, ok_frz_sh, ok_frz_lst, eq_ii, ok_asB'_b, ne_ints, ok_chkL, recv, ok_onL, List.map_cons, List.length_cons, List.length_nil, ixN0, List.eraseIdx_cons_zero, ok_mStore, RV.slot, List.set_cons_zero, List.set_cons_succ, ok_mSetIx, put_list, Option.map_some, ix4_1, ix4_2, ix4_3, add_ii, int_i, ok_mIf, ge_ii, gt_ii, Nat.zero_add, Nat.reduceAdd]
  refine w_loop cells c mix .unb 100 (by omega) hc ⟨h2, h3⟩ fun cells' c' mix' s2' g1 g2 g3 => ?_
  have hM : cMod c' m = true := by simp [cMod, hm]
  have hD : cDiv c' m = true := by simp [cDiv, hm, hm2]
  simp only [ok_seq, seqP_nx, seqP_rt, endP_rt, endP_nx, mPopAt, ok_bnd, ok_ret, ok_app2, ok_appN, ok_oVar, ok_vVar, ok_mVar, ok_k2, ok_kN, ok_oCons, okO_some, res_val, res_slot, resAll_nil, resAll_cons, resC_some, slotV_shr, slotV_own, deref_ref, deref_int, deref_list, deS_lst, List.getElem?_cons_zero, List.getElem?_cons_succ, ix_list_i, at0, at1, at2, at3, oS_some, ok_frz_sh, ok_frz_lst, eq_ii, ok_asB'_b, ne_ints, ok_chkL, recv, ok_onL, List.map_cons, List.length_cons, List.length_nil, ixN0, List.eraseIdx_cons_zero, ok_mStore, RV.slot, List.set_cons_zero, List.set_cons_succ, ok_mSetIx, put_list, Option.map_some, ix4_1, ix4_2, ix4_3, add_ii, int_i, ok_mIf, ge_ii, gt_ii, Nat.zero_add, Nat.reduceAdd, mod_ii hM, div_ii hD]
  have two : (2 : Nat) ^ 64 = 18446744073709551616 := by decide
  split
  · exact ⟨_, rfl, Int.emod_nonneg _ (by omega), Int.emod_lt_of_pos _ hm, ⟨cells', c' / m, cnt + 1, mix', rfl, by omega, Int.ediv_nonneg g2 (by omega), by omega, by omega, g3.1, g3.2⟩⟩
  · have q1 : cMul 7919 (cnt + 1) = true := by simp [cMul]
    have q2 : cPow (mix' + 7919 * (cnt + 1) + 104729) 5 = true := decide_eq_true ⟨by decide, by decide, by rw [two]; omega⟩
    have q3 : cMod ((mix' + 7919 * (cnt + 1) + 104729) ^ (5 : Int).toNat) 2147483629 = true := by simp [cMod]
    have b1 : 0 ≤ (mix' + 7919 * (cnt + 1) + 104729) ^ (5 : Int).toNat % 2147483629 := Int.emod_nonneg _ (by decide)
    have b2 : (mix' + 7919 * (cnt + 1) + 104729) ^ (5 : Int).toNat % 2147483629 < 2147483629 := Int.emod_lt_of_pos _ (by decide)
    simp only [ok_seq, seqP_nx, seqP_rt, endP_rt, endP_nx, mPopAt, ok_bnd, ok_ret, ok_app2, ok_appN, ok_oVar, ok_vVar, ok_mVar, ok_k2, ok_kN, ok_oCons, okO_some, res_val, res_slot, resAll_nil, resAll_cons, resC_some, slotV_shr, slotV_own, deref_ref, deref_int, deref_list, deS_lst, List.getElem?_cons_zero, List.getElem?_cons_succ, ix_list_i, at0, at1, at2, at3, oS_some, ok_frz_sh, ok_frz_lst, eq_ii, ok_asB'_b, ne_ints, ok_chkL, recv, ok_onL, List.map_cons, List.length_cons, List.length_nil, ixN0, List.eraseIdx_cons_zero, ok_mStore, RV.slot, List.set_cons_zero, List.set_cons_succ, ok_mSetIx, put_list, Option.map_some, ix4_1, ix4_2, ix4_3, add_ii, int_i, ok_mIf, ge_ii, gt_ii, Nat.zero_add, Nat.reduceAdd, mul_ii q1, pow_ii q2, mod_ii q3]
    generalize (mix' + 7919 * (cnt + 1) + 104729) ^ (5 : Int).toNat % 2147483629 = M at b1 b2 ⊢
    have q4 : cMul M 48271 = true := by simp [cMul]
    have q5 : cMul 30011 (cnt + 1) = true := by simp [cMul]
    have q6 : cPow (M * 48271 + 30011 * (cnt + 1) + 29) 3 = true := decide_eq_true ⟨by decide, by decide, by rw [two]; omega⟩
    have q7 : cMod ((M * 48271 + 30011 * (cnt + 1) + 29) ^ (3 : Int).toNat) 1000000007 = true := by simp [cMod]
    have q8 : cMod ((M * 48271 + 30011 * (cnt + 1) + 29) ^ (3 : Int).toNat % 1000000007) m = true := by simp [cMod, hm]
    simp only [ok_seq, seqP_nx, seqP_rt, endP_rt, endP_nx, mPopAt, ok_bnd, ok_ret, ok_app2, ok_appN, ok_oVar, ok_vVar, ok_mVar, ok_k2, ok_kN, ok_oCons, okO_some, res_val, res_slot, resAll_nil, resAll_cons, resC_some, slotV_shr, slotV_own, deref_ref, deref_int, deref_list, deS_lst, List.getElem?_cons_zero, List.getElem?_cons_succ, ix_list_i, at0, at1, at2, at3, oS_some, ok_frz_sh, ok_frz_lst, eq_ii, ok_asB'_b, ne_ints, ok_chkL, recv, ok_onL, List.map_cons, List.length_cons, List.length_nil, ixN0, List.eraseIdx_cons_zero, ok_mStore, RV.slot, List.set_cons_zero, List.set_cons_succ, ok_mSetIx, put_list, Option.map_some, ix4_1, ix4_2, ix4_3, add_ii, int_i, ok_mIf, ge_ii, gt_ii, Nat.zero_add, Nat.reduceAdd, mul_ii q4, mul_ii q5, pow_ii q6, mod_ii q7, mod_ii q8]
    exact ⟨_, rfl, Int.emod_nonneg _ (by omega), Int.emod_lt_of_pos _ hm, ⟨cells', c', cnt + 1, mix', rfl, by omega, g2, by omega, by omega, g3.1, g3.2⟩⟩

theorem erase_perm {α : Type} : ∀ (l : List α) (j : Nat) (h : j < l.length), (l[j] :: l.eraseIdx j).Perm l
  | x :: l, 0, h => .refl _
  | x :: l, j + 1, h => by
    have h' : j < l.length := Nat.lt_of_succ_lt_succ h
    show (l[j] :: x :: l.eraseIdx j).Perm (x :: l)
    exact (List.Perm.swap x l[j] _).trans ((erase_perm l j h').cons x)
theorem frame2 {a b : Val} {k : Nat} : ([a, b] : List Val).map PV.Slot.shr ++ List.replicate (k + 2 - ([a, b] : List Val).length) PV.Slot.unb = [.shr a, .shr b] ++ List.replicate k PV.Slot.unb := by simp
theorem pick_ok {S T : List MO} {n : Nat} {xs : List Val} (h : St S T n) (hn : n < 1000000) (hx : xs ≠ []) (hl : xs.length ≤ 1000) : FOk (F__law_pick [.ref 1, .list xs] S) fun r S' => ∃ d, r = .sh d ∧ d ∈ xs ∧ St S' T (n + 1) := by
  unfold F__law_pick b__law_pick
  rw [fok_def]
  have e1 : ([.ref 1, .list xs] : List Val).map PV.Slot.shr ++ List.replicate (2 - ([.ref 1, .list xs] : List Val).length) PV.Slot.unb = [.shr (.ref 1), .shr (.list xs)] := rfl
  rw [e1]
  simp only [ok_seq, seqP_nx, seqP_rt, endP_rt, endP_nx, mPopAt, ok_bnd, ok_ret, ok_app2, ok_app1, ok_appN, ok_oVar, ok_vVar, ok_mVar, ok_k1, ok_k2, ok_kN, ok_oCons, ok_mCons, ok_call, okO_some, res_val, res_slot, resAll_nil, resAll_cons, resC_some, slotV_shr, slotV_own, deref_ref, deref_int, deref_list, deref_tup, deref_str, deref_bool, deref_dict, deref_non, deS_lst, fz_lst, fz_dct, List.getElem?_cons_zero, List.getElem?_cons_succ, ix_list_i, ix_tup_i, at0, at1, at2, at3, oS_some, ok_frz_sh, ok_frz_lst, ok_frz_dct, eq_ii, eq_ss, ok_asB_b, ok_asB'_b, ne_ii, ne_ss, ok_chkL, recv, ok_onL, List.map_cons, List.length_cons, List.length_nil, ixN0, List.eraseIdx_cons_zero, ok_mStore, RV.slot, List.set_cons_zero, List.set_cons_succ, ok_mSetIx, put_list, Option.map_some, add_ii, sub_ii, int_i, ok_mIf, ok_mAnd, ok_mOr, ok_mNot, ge_ii, gt_ii, lt_ii, le_ii, len_list, len_tup, list_list, list_tup, Nat.zero_add, Nat.reduceAdd]
  have hp : 0 < xs.length := List.length_pos_iff.mpr hx
  refine (draw_ok h hn (by omega) (by omega)).mono fun r S' ⟨d, e, h0, h1, h2⟩ => ?_
  subst e
  obtain ⟨j, rfl⟩ : ∃ j : Nat, d = j := ⟨d.toNat, by omega⟩
  have hj : j < xs.length := by omega
  have e2 : L2.atI xs (j : Int) = some xs[j] := atI_nat (List.getElem?_eq_getElem hj)
  simp only [ok_seq, seqP_nx, seqP_rt, endP_rt, endP_nx, mPopAt, ok_bnd, ok_ret, ok_app2, ok_app1, ok_appN, ok_oVar, ok_vVar, ok_mVar, ok_k1, ok_k2, ok_kN, ok_oCons, ok_mCons, ok_call, okO_some, res_val, res_slot, resAll_nil, resAll_cons, resC_some, slotV_shr, slotV_own, deref_ref, deref_int, deref_list, deref_tup, deref_str, deref_bool, deref_dict, deref_non, deS_lst, fz_lst, fz_dct, List.getElem?_cons_zero, List.getElem?_cons_succ, ix_list_i, ix_tup_i, at0, at1, at2, at3, oS_some, ok_frz_sh, ok_frz_lst, ok_frz_dct, eq_ii, eq_ss, ok_asB_b, ok_asB'_b, ne_ii, ne_ss, ok_chkL, recv, ok_onL, List.map_cons, List.length_cons, List.length_nil, ixN0, List.eraseIdx_cons_zero, ok_mStore, RV.slot, List.set_cons_zero, List.set_cons_succ, ok_mSetIx, put_list, Option.map_some, add_ii, sub_ii, int_i, ok_mIf, ok_mAnd, ok_mOr, ok_mNot, ge_ii, gt_ii, lt_ii, le_ii, len_list, len_tup, list_list, list_tup, Nat.zero_add, Nat.reduceAdd, e2]
  exact ⟨_, rfl, List.getElem_mem hj, h2⟩
theorem mixed_go {T : List MO} {st : Val} (s : PV.Slot) : ∀ (ks left acc : List Val) (S : List MO) (n : Nat) (s3 : PV.Slot) (P : List Val → State → Prop), ks.length = left.length → St S T n → n + ks.length < 1000000 → left.length ≤ 1000 →
    (∀ (ys : List Val) (S' : List MO), ys.Perm left → St S' T (n + ks.length) → P (acc ++ ys) ⟨[.shr (.ref 1), s, .own (.lst []), .unb], S'⟩) →
    Ok (mLcGo [3] (mStore 3) (ret true) k1e__law_mixed ks acc ⟨[.shr (.ref 1), s, .own (.lst left), s3], S⟩) P
  | [], [], acc, S, n, s3, P, hl, h, hn, hz, k => by
    rw [ok_lc_nil]
    have := k [] S (.refl _) h
    rw [List.append_nil] at this
    exact this
  | [], _ :: _, acc, S, n, s3, P, hl, h, hn, hz, k => by simp at hl
  | _ :: _, [], acc, S, n, s3, P, hl, h, hn, hz, k => by simp at hl
  | k0 :: ks, x :: left, acc, S, n, s3, P, hl, h, hn, hz, k => by
    rw [ok_lc_cons]
    have ew : wipeS [3] ⟨[.shr (.ref 1), s, .own (.lst (x :: left)), s3], S⟩ = ⟨[.shr (.ref 1), s, .own (.lst (x :: left)), .unb], S⟩ := rfl
    rw [ew]
    unfold k1e__law_mixed
    simp only [ok_seq, seqP_nx, seqP_rt, endP_rt, endP_nx, mPopAt, ok_bnd, ok_ret, ok_app2, ok_app1, ok_appN, ok_oVar, ok_vVar, ok_mVar, ok_k1, ok_k2, ok_kN, ok_oCons, ok_mCons, ok_call, okO_some, res_val, res_slot, resAll_nil, resAll_cons, resC_some, slotV_shr, slotV_own, deref_ref, deref_int, deref_list, deref_tup, deref_str, deref_bool, deref_dict, deref_non, deS_lst, fz_lst, fz_dct, List.getElem?_cons_zero, List.getElem?_cons_succ, ix_list_i, ix_tup_i, at0, at1, at2, at3, oS_some, ok_frz_sh, ok_frz_lst, ok_frz_dct, eq_ii, eq_ss, ok_asB_b, ok_asB'_b, ne_ii, ne_ss, ok_chkL, recv, ok_onL, List.map_cons, List.length_cons, List.length_nil, ixN0, List.eraseIdx_cons_zero, ok_mStore, RV.slot, List.set_cons_zero, List.set_cons_succ, ok_mSetIx, put_list, Option.map_some, add_ii, sub_ii, int_i, ok_mIf, ok_mAnd, ok_mOr, ok_mNot, ge_ii, gt_ii, lt_ii, le_ii, len_list, len_tup, list_list, list_tup, Nat.zero_add, Nat.reduceAdd, if_true]
    have hlen : (x :: left).length = left.length + 1 := rfl
    refine (draw_ok h (by simp at hn; omega) (by omega) (by simp at hz; omega)).mono fun r S' ⟨d, e, h0, h1, h2⟩ => ?_
    subst e
    obtain ⟨j, rfl⟩ : ∃ j : Nat, d = j := ⟨d.toNat, by omega⟩
    have hj : j < (x :: left).length := by rw [hlen]; omega
    have e2 : ixN (left.length + 1) (j : Int) = some j := ixN_of (by omega)
    have e3 : (x :: left)[j]? = some (x :: left)[j] := List.getElem?_eq_getElem hj
    simp only [ok_seq, seqP_nx, seqP_rt, endP_rt, endP_nx, mPopAt, ok_bnd, ok_ret, ok_app2, ok_app1, ok_appN, ok_oVar, ok_vVar, ok_mVar, ok_k1, ok_k2, ok_kN, ok_oCons, ok_mCons, ok_call, okO_some, res_val, res_slot, resAll_nil, resAll_cons, resC_some, slotV_shr, slotV_own, deref_ref, deref_int, deref_list, deref_tup, deref_str, deref_bool, deref_dict, deref_non, deS_lst, fz_lst, fz_dct, List.getElem?_cons_zero, List.getElem?_cons_succ, ix_list_i, ix_tup_i, at0, at1, at2, at3, oS_some, ok_frz_sh, ok_frz_lst, ok_frz_dct, eq_ii, eq_ss, ok_asB_b, ok_asB'_b, ne_ii, ne_ss, ok_chkL, recv, ok_onL, List.map_cons, List.length_cons, List.length_nil, ixN0, List.eraseIdx_cons_zero, ok_mStore, RV.slot, List.set_cons_zero, List.set_cons_succ, ok_mSetIx, put_list, Option.map_some, add_ii, sub_ii, int_i, ok_mIf, ok_mAnd, ok_mOr, ok_mNot, ge_ii, gt_ii, lt_ii, le_ii, len_list, len_tup, list_list, list_tup, Nat.zero_add, Nat.reduceAdd, e2, e3]
    refine mixed_go (st := st) s ks ((x :: left).eraseIdx j) _ S' (n + 1) _ P ?_ h2 (by simp at hn; omega) ?_ fun ys S2 p g => ?_
    · rw [List.length_eraseIdx_of_lt hj, hlen]
      simp at hl
      omega
    · rw [List.length_eraseIdx_of_lt hj]
      omega
    · rw [List.append_assoc]
      refine k _ S2 ?_ (by rw [show n + (k0 :: ks).length = n + 1 + ks.length by simp; omega]; exact g)
      exact (p.cons _).trans (erase_perm _ j hj)

theorem mixed_ok {S T : List MO} {n : Nat} {xs : List Val} (h : St S T n) (hn : n + xs.length < 1000000) (hl : xs.length ≤ 1000) : FOk (F__law_mixed [.ref 1, .list xs] S) fun r S' => ∃ ys, r = .fr (.lst ys) ∧ ys.Perm xs ∧ St S' T (n + xs.length) := by
  unfold F__law_mixed b__law_mixed
  rw [fok_def]
  have e1 : ([.ref 1, .list xs] : List Val).map PV.Slot.shr ++ List.replicate (4 - ([.ref 1, .list xs] : List Val).length) PV.Slot.unb = [.shr (.ref 1), .shr (.list xs), .unb, .unb] := rfl
  rw [e1]
  have e2 : okR (xs.length : Int) = true := by simp [okR]; omega
  simp only [ok_seq, seqP_nx, seqP_rt, endP_rt, endP_nx, mPopAt, ok_bnd, ok_ret, ok_app2, ok_app1, ok_appN, ok_oVar, ok_vVar, ok_mVar, ok_k1, ok_k2, ok_kN, ok_oCons, ok_mCons, ok_call, okO_some, res_val, res_slot, resAll_nil, resAll_cons, resC_some, slotV_shr, slotV_own, deref_ref, deref_int, deref_list, deref_tup, deref_str, deref_bool, deref_dict, deref_non, deS_lst, fz_lst, fz_dct, List.getElem?_cons_zero, List.getElem?_cons_succ, ix_list_i, ix_tup_i, at0, at1, at2, at3, oS_some, ok_frz_sh, ok_frz_lst, ok_frz_dct, eq_ii, eq_ss, ok_asB_b, ok_asB'_b, ne_ii, ne_ss, ok_chkL, recv, ok_onL, List.map_cons, List.length_cons, List.length_nil, ixN0, List.eraseIdx_cons_zero, ok_mStore, RV.slot, List.set_cons_zero, List.set_cons_succ, ok_mSetIx, put_list, Option.map_some, add_ii, sub_ii, int_i, ok_mIf, ok_mAnd, ok_mOr, ok_mNot, ge_ii, gt_ii, lt_ii, le_ii, len_list, len_tup, list_list, list_tup, Nat.zero_add, Nat.reduceAdd, ok_mLc, itR1, e2, if_true]
  have e3 : (vRange 0 (xs.length : Int)).length = xs.length := by simp [vRange]
  refine mixed_go (st := .none) _ (vRange 0 (xs.length : Int)) xs [] S n _ _ e3 h (by rw [e3]; exact hn) hl fun ys S' p g => ?_
  rw [e3] at g
  exact ⟨ys, rfl, p, g⟩
theorem start_ok {ns : List Int} (hl : ns.length ≤ 63) : FOk (F__law_start [.list (ns.map .int)] []) fun r S' => r = .fr (.lst [.ref 0, .int 0, .int 0, .int 11]) ∧ S' = [.lst (ns.map .int)] := by
  unfold F__law_start b__law_start
  rw [fok_def]
  have e1 : ([.list (ns.map .int)] : List Val).map PV.Slot.shr ++ List.replicate (1 - ([.list (ns.map .int)] : List Val).length) PV.Slot.unb = [.shr (.list (ns.map .int))] := rfl
  rw [e1]
  simp only [ok_seq, seqP_nx, seqP_rt, endP_rt, endP_nx, mPopAt, ok_bnd, ok_ret, ok_app2, ok_app1, ok_appN, ok_oVar, ok_vVar, ok_mVar, ok_k1, ok_k2, ok_kN, ok_oCons, ok_mCons, ok_call, okO_some, res_val, res_slot, resAll_nil, resAll_cons, resC_some, slotV_shr, slotV_own, deref_ref, deref_int, deref_list, deref_tup, deref_str, deref_bool, deref_dict, deref_non, deS_lst, fz_lst, fz_dct, List.getElem?_cons_zero, List.getElem?_cons_succ, ix_list_i, ix_tup_i, at0, at1, at2, at3, oS_some, ok_frz_sh, ok_frz_lst, ok_frz_dct, eq_ii, eq_ss, ok_asB_b, ok_asB'_b, ne_ii, ne_ss, ok_chkL, recv, ok_onL, List.map_cons, List.length_cons, List.length_nil, ixN0, List.eraseIdx_cons_zero, ok_mStore, RV.slot, List.set_cons_zero, List.set_cons_succ, ok_mSetIx, put_list, Option.map_some, add_ii, sub_ii, int_i, ok_mIf, ok_mAnd, ok_mOr, ok_mNot, ge_ii, gt_ii, lt_ii, le_ii, len_list, len_tup, list_list, list_tup, Nat.zero_add, Nat.reduceAdd, ok_toSto]
  exact ⟨trivial, rfl⟩
/-! ### hands -/
def unstr : Val → Str
  | .str x => x
  | _ => default
theorem unstr_map : ∀ xs : List Str, (xs.map Val.str).map unstr = xs
  | [] => rfl
  | x :: xs => by rw [List.map_cons, List.map_cons, unstr_map xs]; rfl
theorem all_str : ∀ ys : List Val, (∀ y ∈ ys, ∃ x, y = .str x) → ∃ zs : List Str, ys = zs.map .str
  | [], _ => ⟨[], rfl⟩
  | y :: ys, h => by
    obtain ⟨x, rfl⟩ := h y List.mem_cons_self
    obtain ⟨zs, rfl⟩ := all_str ys fun z hz => h z (List.mem_cons_of_mem _ hz)
    exact ⟨x :: zs, rfl⟩
theorem perm_str {ys : List Val} {xs : List Str} (p : ys.Perm (xs.map .str)) : ∃ zs : List Str, ys = zs.map .str ∧ zs.Perm xs := by
  obtain ⟨zs, rfl⟩ := all_str ys fun y hy => by
    obtain ⟨x, _, e⟩ := List.mem_map.mp (p.mem_iff.mp hy)
    exact ⟨x, e.symm⟩
  refine ⟨zs, rfl, ?_⟩
  have := p.map unstr
  rwa [unstr_map, unstr_map] at this
theorem cut_take {xs : List Val} {k : Nat} (h : k ≤ xs.length) : cutD xs none (some (k : Int)) = xs.take k := by
  have e1 : HT.sIx xs.length 0 none = 0 := rfl
  have e2 : HT.sIx xs.length xs.length (some (k : Int)) = k := by
    simp only [HT.sIx]
    rw [if_neg (by omega)]
    omega
  unfold cutD
  rw [e1, e2, List.drop_zero, Nat.sub_zero]
def six : List Str := ["a", "b", "c1", "d", "zed", "m9"]
theorem hands_ok {S T : List MO} {n k : Nat} (h : St S T n) (hn : n + 6 < 1000000) (hk : k ≤ 6) : FOk (F__law_hands [.ref 1, .int k] S) fun r S' => ∃ hs : List Str, r = .fr (.lst (hs.map .str)) ∧ hs.length = k ∧ hs.Nodup ∧ (∀ x ∈ hs, x ∈ six) ∧ St S' T (n + 6) := by
  unfold F__law_hands b__law_hands
  rw [fok_def]
  have e1 : ([.ref 1, .int (k : Int)] : List Val).map PV.Slot.shr ++ List.replicate (2 - ([.ref 1, .int (k : Int)] : List Val).length) PV.Slot.unb = [.shr (.ref 1), .shr (.int k)] := rfl
  rw [e1]
  simp only [ok_seq, seqP_nx, seqP_rt, endP_rt, endP_nx, mPopAt, ok_bnd, ok_ret, ok_app2, ok_app1, ok_appN, ok_oVar, ok_vVar, ok_mVar, ok_k1, ok_k2, ok_kN, ok_oCons, ok_mCons, ok_call, okO_some, res_val, res_slot, resAll_nil, resAll_cons, resC_some, slotV_shr, slotV_own, deref_ref, deref_int, deref_list, deref_tup, deref_str, deref_bool, deref_dict, deref_non, deS_lst, fz_lst, fz_dct, List.getElem?_cons_zero, List.getElem?_cons_succ, ix_list_i, ix_tup_i, at0, at1, at2, at3, oS_some, ok_frz_sh, ok_frz_lst, ok_frz_dct, eq_ii, eq_ss, ok_asB_b, ok_asB'_b, ne_ii, ne_ss, ok_chkL, recv, ok_onL, List.map_cons, List.length_cons, List.length_nil, ixN0, List.eraseIdx_cons_zero, ok_mStore, RV.slot, List.set_cons_zero, List.set_cons_succ, ok_mSetIx, put_list, Option.map_some, add_ii, sub_ii, int_i, ok_mIf, ok_mAnd, ok_mOr, ok_mNot, ge_ii, gt_ii, lt_ii, le_ii, len_list, len_tup, list_list, list_tup, Nat.zero_add, Nat.reduceAdd, mSl]
  refine (mixed_ok h (by simpa using hn) (by simp)).mono fun r S' ⟨ys, e, p, g⟩ => ?_
  subst e
  simp only [ok_seq, seqP_nx, seqP_rt, endP_rt, endP_nx, mPopAt, ok_bnd, ok_ret, ok_app2, ok_app1, ok_appN, ok_oVar, ok_vVar, ok_mVar, ok_k1, ok_k2, ok_kN, ok_oCons, ok_mCons, ok_call, okO_some, res_val, res_slot, resAll_nil, resAll_cons, resC_some, slotV_shr, slotV_own, deref_ref, deref_int, deref_list, deref_tup, deref_str, deref_bool, deref_dict, deref_non, deS_lst, fz_lst, fz_dct, List.getElem?_cons_zero, List.getElem?_cons_succ, ix_list_i, ix_tup_i, at0, at1, at2, at3, oS_some, ok_frz_sh, ok_frz_lst, ok_frz_dct, eq_ii, eq_ss, ok_asB_b, ok_asB'_b, ne_ii, ne_ss, ok_chkL, recv, ok_onL, List.map_cons, List.length_cons, List.length_nil, ixN0, List.eraseIdx_cons_zero, ok_mStore, RV.slot, List.set_cons_zero, List.set_cons_succ, ok_mSetIx, put_list, Option.map_some, add_ii, sub_ii, int_i, ok_mIf, ok_mAnd, ok_mOr, ok_mNot, ge_ii, gt_ii, lt_ii, le_ii, len_list, len_tup, list_list, list_tup, Nat.zero_add, Nat.reduceAdd, ok_asI_i]
  obtain ⟨zs, rfl, q⟩ := perm_str (xs := six) p
  have hz : zs.length = 6 := q.length_eq
  refine ⟨zs.take k, ?_, ?_, ?_, fun x hx => ?_, g⟩
  · rw [cut_take (by rw [List.length_map]; omega), List.map_take]
  · rw [List.length_take]; omega
  · exact (q.nodup_iff.mpr (by decide)).sublist (List.take_sublist _ _)
  · exact q.mem_iff.mp ((List.take_sublist _ _).subset hx)
end K02

namespace K02
open PySem hiding ret
open PySem.Spec L2 PV
/-! ### maps -/
theorem at_bool (a b c d : Bool) (j : Int) (h0 : 0 ≤ j) (h1 : j < 4) : ∃ x, L2.atI [Val.bool a, Val.bool b, Val.bool c, Val.bool d] j = some (.bool x) := by
  have : j = 0 ∨ j = 1 ∨ j = 2 ∨ j = 3 := by omega
  rcases this with rfl | rfl | rfl | rfl
  · exact ⟨a, at0⟩
  · exact ⟨b, at1⟩
  · exact ⟨c, at2⟩
  · exact ⟨d, at3⟩
theorem l1_ok {S T : List MO} {n : Nat} {hs fd : PV.Slot} {way : Int} {star hand other : Str} {heard : List Val} {s8 s9 : PV.Slot} {P : Fl → State → Prop} (h : St S T n) (hn : n + 2 < 1000000) (hw : 0 ≤ way ∧ way < 6) (hl : heard.length < 1000)
    (k1 : ∀ (S' : List MO) (a b : PV.Slot), St S' T (n + 2) → P .nx ⟨[.shr (.ref 1), hs, .shr (.int way), fd, .shr (.str star), .shr (.str hand), .own (.lst heard), .shr (.str other), a, b], S'⟩)
    (k2 : ∀ (S' : List MO) (a b : PV.Slot), St S' T (n + 2) → other ≠ hand → P .nx ⟨[.shr (.ref 1), hs, .shr (.int way), fd, .shr (.str star), .shr (.str hand), .own (.lst (heard ++ [.str other])), .shr (.str other), a, b], S'⟩) :
    Ok (l1b__law_map ⟨[.shr (.ref 1), hs, .shr (.int way), fd, .shr (.str star), .shr (.str hand), .own (.lst heard), .shr (.str other), s8, s9], S⟩) P := by
  unfold l1b__law_map
  simp only [ok_seq, seqP_nx, seqP_rt, endP_rt, endP_nx, mPopAt, ok_bnd, ok_ret, ok_app2, ok_app1, ok_appN, ok_oVar, ok_vVar, ok_mVar, ok_k1, ok_k2, ok_kN, ok_oCons, ok_mCons, ok_call, okO_some, res_val, res_slot, resAll_nil, resAll_cons, resC_some, slotV_shr, slotV_own, deref_ref, deref_int, deref_list, deref_tup, deref_str, deref_bool, deref_dict, deref_non, deS_lst, fz_lst, fz_dct, List.getElem?_cons_zero, List.getElem?_cons_succ, ix_list_i, ix_tup_i, at0, at1, at2, at3, oS_some, ok_frz_sh, ok_frz_lst, ok_frz_dct, eq_ii, eq_ss, ok_asB_b, ok_asB'_b, ne_ii, ne_ss, ok_chkL, recv, ok_onL, List.map_cons, List.length_cons, List.length_nil, ixN0, List.eraseIdx_cons_zero, ok_mStore, RV.slot, List.set_cons_zero, List.set_cons_succ, ok_mSetIx, put_list, Option.map_some, add_ii, sub_ii, int_i, ok_mIf, ok_mAnd, ok_mOr, ok_mNot, ge_ii, gt_ii, lt_ii, le_ii, len_list, len_tup, list_list, list_tup, Nat.zero_add, Nat.reduceAdd, mPar]
  refine (draw_ok h (by omega) (by decide) (by decide)).mono fun r S1 ⟨d, e, h0, h1, h2⟩ => ?_
  subst e
  simp only [ok_seq, seqP_nx, seqP_rt, endP_rt, endP_nx, mPopAt, ok_bnd, ok_ret, ok_app2, ok_app1, ok_appN, ok_oVar, ok_vVar, ok_mVar, ok_k1, ok_k2, ok_kN, ok_oCons, ok_mCons, ok_call, okO_some, res_val, res_slot, resAll_nil, resAll_cons, resC_some, slotV_shr, slotV_own, deref_ref, deref_int, deref_list, deref_tup, deref_str, deref_bool, deref_dict, deref_non, deS_lst, fz_lst, fz_dct, List.getElem?_cons_zero, List.getElem?_cons_succ, ix_list_i, ix_tup_i, at0, at1, at2, at3, oS_some, ok_frz_sh, ok_frz_lst, ok_frz_dct, eq_ii, eq_ss, ok_asB_b, ok_asB'_b, ne_ii, ne_ss, ok_chkL, recv, ok_onL, List.map_cons, List.length_cons, List.length_nil, ixN0, List.eraseIdx_cons_zero, ok_mStore, RV.slot, List.set_cons_zero, List.set_cons_succ, ok_mSetIx, put_list, Option.map_some, add_ii, sub_ii, int_i, ok_mIf, ok_mAnd, ok_mOr, ok_mNot, ge_ii, gt_ii, lt_ii, le_ii, len_list, len_tup, list_list, list_tup, Nat.zero_add, Nat.reduceAdd]
  refine (draw_ok h2 (by omega) (by decide) (by decide)).mono fun r S2 ⟨d2, e, g0, g1, g2⟩ => ?_
  subst e
  have hm : cMod way 4 = true := by simp [cMod]
  have app : ∀ (a b : PV.Slot), other ≠ hand → Ok (mApp (oVar 6) (vVar 7) ⟨[.shr (.ref 1), hs, .shr (.int way), fd, .shr (.str star), .shr (.str hand), .own (.lst heard), .shr (.str other), a, b], S2⟩) fun _ s => P .nx s := fun a b ho => by
    unfold mApp
    simp only [ok_seq, seqP_nx, seqP_rt, endP_rt, endP_nx, mPopAt, ok_bnd, ok_ret, ok_app2, ok_app1, ok_appN, ok_oVar, ok_vVar, ok_mVar, ok_k1, ok_k2, ok_kN, ok_oCons, ok_mCons, ok_call, okO_some, res_val, res_slot, resAll_nil, resAll_cons, resC_some, slotV_shr, slotV_own, deref_ref, deref_int, deref_list, deref_tup, deref_str, deref_bool, deref_dict, deref_non, deS_lst, fz_lst, fz_dct, List.getElem?_cons_zero, List.getElem?_cons_succ, ix_list_i, ix_tup_i, at0, at1, at2, at3, oS_some, ok_frz_sh, ok_frz_lst, ok_frz_dct, eq_ii, eq_ss, ok_asB_b, ok_asB'_b, ne_ii, ne_ss, ok_chkL, recv, ok_onL, List.map_cons, List.length_cons, List.length_nil, ixN0, List.eraseIdx_cons_zero, ok_mStore, RV.slot, List.set_cons_zero, List.set_cons_succ, ok_mSetIx, put_list, Option.map_some, add_ii, sub_ii, int_i, ok_mIf, ok_mAnd, ok_mOr, ok_mNot, ge_ii, gt_ii, lt_ii, le_ii, len_list, len_tup, list_list, list_tup, Nat.zero_add, Nat.reduceAdd]
    rw [if_pos (by omega)]
    exact k2 S2 a b g2 ho
  simp only [ok_seq, seqP_nx, seqP_rt, endP_rt, endP_nx, mPopAt, ok_bnd, ok_ret, ok_app2, ok_app1, ok_appN, ok_oVar, ok_vVar, ok_mVar, ok_k1, ok_k2, ok_kN, ok_oCons, ok_mCons, ok_call, okO_some, res_val, res_slot, resAll_nil, resAll_cons, resC_some, slotV_shr, slotV_own, deref_ref, deref_int, deref_list, deref_tup, deref_str, deref_bool, deref_dict, deref_non, deS_lst, fz_lst, fz_dct, List.getElem?_cons_zero, List.getElem?_cons_succ, ix_list_i, ix_tup_i, at0, at1, at2, at3, oS_some, ok_frz_sh, ok_frz_lst, ok_frz_dct, eq_ii, eq_ss, ok_asB_b, ok_asB'_b, ne_ii, ne_ss, ok_chkL, recv, ok_onL, List.map_cons, List.length_cons, List.length_nil, ixN0, List.eraseIdx_cons_zero, ok_mStore, RV.slot, List.set_cons_zero, List.set_cons_succ, ok_mSetIx, put_list, Option.map_some, add_ii, sub_ii, int_i, ok_mIf, ok_mAnd, ok_mOr, ok_mNot, ge_ii, gt_ii, lt_ii, le_ii, len_list, len_tup, list_list, list_tup, Nat.zero_add, Nat.reduceAdd, mod_ii hm]
  by_cases ho : other = hand
  · rw [show (!(other == hand)) = false by simp [ho], if_neg Bool.false_ne_true, if_neg Bool.false_ne_true]
    exact k1 S2 _ _ g2
  · rw [show (!(other == hand)) = true by simp [ho], if_pos rfl]
    obtain ⟨b, eb⟩ := at_bool (other == star) (d == 0) (d2 == 0) (decide (0 < d)) (way % 4) (Int.emod_nonneg _ (by decide)) (Int.emod_lt_of_pos _ (by decide))
    rw [eb]
    split
    · rw [if_pos True.intro]
      exact app _ _ ho
    · simp only [ok_seq, seqP_nx, seqP_rt, endP_rt, endP_nx, mPopAt, ok_bnd, ok_ret, ok_app2, ok_app1, ok_appN, ok_oVar, ok_vVar, ok_mVar, ok_k1, ok_k2, ok_kN, ok_oCons, ok_mCons, ok_call, okO_some, res_val, res_slot, resAll_nil, resAll_cons, resC_some, slotV_shr, slotV_own, deref_ref, deref_int, deref_list, deref_tup, deref_str, deref_bool, deref_dict, deref_non, deS_lst, fz_lst, fz_dct, List.getElem?_cons_zero, List.getElem?_cons_succ, ix_list_i, ix_tup_i, at0, at1, at2, at3, oS_some, ok_frz_sh, ok_frz_lst, ok_frz_dct, eq_ii, eq_ss, ok_asB_b, ok_asB'_b, ne_ii, ne_ss, ok_chkL, recv, ok_onL, List.map_cons, List.length_cons, List.length_nil, ixN0, List.eraseIdx_cons_zero, ok_mStore, RV.slot, List.set_cons_zero, List.set_cons_succ, ok_mSetIx, put_list, Option.map_some, add_ii, sub_ii, int_i, ok_mIf, ok_mAnd, ok_mOr, ok_mNot, ge_ii, gt_ii, lt_ii, le_ii, len_list, len_tup, list_list, list_tup, Nat.zero_add, Nat.reduceAdd]
      cases b with
      | true => rw [if_pos rfl]; exact app _ _ ho
      | false => rw [if_neg Bool.false_ne_true]; exact k1 S2 _ _ g2
theorem l1_loop {T : List MO} {hs fd : PV.Slot} {way : Int} {star hand : Str} (hw : 0 ≤ way ∧ way < 6) : ∀ (os heard : List Str) (S : List MO) (n : Nat) (s7 s8 s9 : PV.Slot) (P : Fl → State → Prop), St S T n → n + 2 * os.length < 1000000 → heard.length + os.length < 1000 → os.Nodup →
    (∀ x ∈ os, x ∈ heard → x = hand) → heard.Nodup → hand ∈ heard →
    (∀ (S' : List MO) (heard' : List Str) (a b c : PV.Slot), St S' T (n + 2 * os.length) → heard'.Nodup → hand ∈ heard' → (∀ x ∈ heard', x ∈ heard ∨ x ∈ os) → heard'.length ≤ heard.length + os.length →
      P .nx ⟨[.shr (.ref 1), hs, .shr (.int way), fd, .shr (.str star), .shr (.str hand), .own (.lst (heard'.map .str)), a, b, c], S'⟩) →
    Ok (mFor (mStore 7) l1b__law_map (os.map .str) ⟨[.shr (.ref 1), hs, .shr (.int way), fd, .shr (.str star), .shr (.str hand), .own (.lst (heard.map .str)), s7, s8, s9], S⟩) P
  | [], heard, S, n, s7, s8, s9, P, h, hn, hl, nd, hx, hnd, hh, k => by
    rw [List.map_nil, ok_for_nil]
    exact k S heard s7 s8 s9 h hnd hh (fun x hx => .inl hx) (by simp)
  | o :: os, heard, S, n, s7, s8, s9, P, h, hn, hl, nd, hx, hnd, hh, k => by
    rw [List.map_cons, ok_for_cons]
    simp only [List.length_cons] at hn hl
    rw [List.nodup_cons] at nd
    simp only [ok_mStore, RV.slot, List.set_cons_zero, List.set_cons_succ]
    have en : n + 2 * (o :: os).length = n + 2 + 2 * os.length := by simp; omega
    refine l1_ok h (by omega) hw (by rw [List.length_map]; omega) (fun S' a b g => ?_) (fun S' a b g ho => ?_)
    · refine l1_loop hw os heard S' (n + 2) _ a b P g (by omega) (by omega) nd.2 (fun x h1 h2 => hx x (List.mem_cons_of_mem _ h1) h2) hnd hh fun S2 heard' a b c g1 g2 g3 g4 g5 => ?_
      exact k S2 heard' a b c (by rw [en]; exact g1) g2 g3 (fun x h => (g4 x h).imp id (List.mem_cons_of_mem _)) (by simp; omega)
    · have hno : o ∉ heard := fun z => ho (hx o List.mem_cons_self z)
      have e : heard.map Val.str ++ [Val.str o] = (heard ++ [o]).map Val.str := by simp
      rw [e]
      refine l1_loop hw os (heard ++ [o]) S' (n + 2) _ a b P g (by omega) (by simp; omega) nd.2 (fun x h1 h2 => ?_) ?_ (List.mem_append_left _ hh) fun S2 heard' a b c g1 g2 g3 g4 g5 => ?_
      · rcases List.mem_append.mp h2 with h2 | h2
        · exact hx x (List.mem_cons_of_mem _ h1) h2
        · rw [List.mem_singleton] at h2
          subst h2
          exact absurd h1 nd.1
      · rw [List.nodup_append]
        refine ⟨hnd, by simp, fun x h1 y h2 => ?_⟩
        rw [List.mem_singleton] at h2
        subst h2
        exact fun z => hno (z ▸ h1)
      · refine k S2 heard' a b c (by rw [en]; exact g1) g2 g3 (fun x h => ?_) (by simp at g5 ⊢; omega)
        rcases g4 x h with z | z
        · rcases List.mem_append.mp z with z | z
          · exact .inl z
          · rw [List.mem_singleton] at z
            exact .inr (z ▸ List.mem_cons_self)
        · exact .inr (List.mem_cons_of_mem _ z)
theorem St.mono {S T : List MO} {n n' : Nat} (h : St S T n) (hn : n ≤ n') : St S T n' := by
  obtain ⟨cells, c, cnt, mix, e, h1, h2, h3, h4, h5, h6⟩ := h.ex
  exact ⟨cells, c, cnt, mix, e, h1, h2, h3, by omega, h5, h6⟩
/-- a map as a dict -/
def dictV (m : List (Str × List Str)) : List (Val × Val) := m.map fun p => (.str p.1, .list (p.2.map .str))
structure GoodM (hs : List Str) (m : List (Str × List Str)) : Prop where
  keys : (m.map (·.1)).Perm hs
  vals : ∀ p ∈ m, p.2.Nodup ∧ p.1 ∈ p.2 ∧ ∀ x ∈ p.2, x ∈ hs
theorem kEq_ss {a b : Str} : kEq (.str a) (.str b) = decide (a = b) := rfl
theorem dhas_map {k : Str} : ∀ m : List (Str × List Str), dhas (dictV m) (.str k) = decide (k ∈ m.map (·.1))
  | [] => by simp [dhas, dictV]
  | p :: m => by
    have ih := dhas_map (k := k) m
    show (kEq (.str p.1) (.str k) || dhas (dictV m) (.str k)) = _
    rw [ih, kEq_ss]
    by_cases h : p.1 = k
    · simp [h]
    · simp [h, Ne.symm h]
theorem dput_new {k : Str} {v : List Str} {m : List (Str × List Str)} (h : k ∉ m.map (·.1)) : dput (dictV m) (.str k) (.list (v.map .str)) = dictV (m ++ [(k, v)]) := by
  unfold dput
  rw [dhas_map, decide_eq_false h, if_neg Bool.false_ne_true]
  simp [dictV]
theorem l2_ok {S T : List MO} {n : Nat} {hs : List Str} {m : List (Str × List Str)} {way : Int} {star hand : Str} {s6 s7 s8 s9 : PV.Slot} {P : Fl → State → Prop} (h : St S T n) (hn : n + 30 < 1000000) (hw : 0 ≤ way ∧ way < 6) (hl : hs.length ≤ 6) (nd : hs.Nodup) (hh : hand ∈ hs) (hm : m.length ≤ 6) (hk : hand ∉ m.map (·.1))
    (k : ∀ (S' : List MO) (v : List Str) (a b c d : PV.Slot), St S' T (n + 30) → v.Nodup → hand ∈ v → (∀ x ∈ v, x ∈ hs) →
      P .nx ⟨[.shr (.ref 1), .shr (.list (hs.map .str)), .shr (.int way), .own (.dct (dictV (m ++ [(hand, v)]))), .shr (.str star), .shr (.str hand), a, b, c, d], S'⟩) :
    Ok (l2b__law_map ⟨[.shr (.ref 1), .shr (.list (hs.map .str)), .shr (.int way), .own (.dct (dictV m)), .shr (.str star), .shr (.str hand), s6, s7, s8, s9], S⟩) P := by
  unfold l2b__law_map
  simp only [ok_seq, seqP_nx, seqP_rt, endP_rt, endP_nx, mPopAt, ok_bnd, ok_ret, ok_app2, ok_app1, ok_appN, ok_oVar, ok_vVar, ok_mVar, ok_k1, ok_k2, ok_kN, ok_oCons, ok_mCons, ok_call, okO_some, res_val, res_slot, resAll_nil, resAll_cons, resC_some, slotV_shr, slotV_own, deref_ref, deref_int, deref_list, deref_tup, deref_str, deref_bool, deref_dict, deref_non, deS_lst, fz_lst, fz_dct, List.getElem?_cons_zero, List.getElem?_cons_succ, ix_list_i, ix_tup_i, at0, at1, at2, at3, oS_some, ok_frz_sh, ok_frz_lst, ok_frz_dct, eq_ii, eq_ss, ok_asB_b, ok_asB'_b, ne_ii, ne_ss, ok_chkL, recv, ok_onL, List.map_cons, List.length_cons, List.length_nil, ixN0, List.eraseIdx_cons_zero, ok_mStore, RV.slot, List.set_cons_zero, List.set_cons_succ, ok_mSetIx, put_list, Option.map_some, add_ii, sub_ii, int_i, ok_mIf, ok_mAnd, ok_mOr, ok_mNot, ge_ii, gt_ii, lt_ii, le_ii, len_list, len_tup, list_list, list_tup, Nat.zero_add, Nat.reduceAdd, itA]
  have e : [Val.str hand] = ([hand] : List Str).map Val.str := rfl
  rw [e]
  refine l1_loop hw hs [hand] S n s7 s8 s9 _ h (by omega) (by simp; omega) nd (fun x _ h2 => by simpa using h2) (by simp) (by simp) fun S' heard' a b c g1 g2 g3 g4 g5 => ?_
  simp at g5
  simp only [ok_seq, seqP_nx, seqP_rt, endP_rt, endP_nx, mPopAt, ok_bnd, ok_ret, ok_app2, ok_app1, ok_appN, ok_oVar, ok_vVar, ok_mVar, ok_k1, ok_k2, ok_kN, ok_oCons, ok_mCons, ok_call, okO_some, res_val, res_slot, resAll_nil, resAll_cons, resC_some, slotV_shr, slotV_own, deref_ref, deref_int, deref_list, deref_tup, deref_str, deref_bool, deref_dict, deref_non, deS_lst, fz_lst, fz_dct, List.getElem?_cons_zero, List.getElem?_cons_succ, ix_list_i, ix_tup_i, at0, at1, at2, at3, oS_some, ok_frz_sh, ok_frz_lst, ok_frz_dct, eq_ii, eq_ss, ok_asB_b, ok_asB'_b, ne_ii, ne_ss, ok_chkL, recv, ok_onL, List.map_cons, List.length_cons, List.length_nil, ixN0, List.eraseIdx_cons_zero, ok_mStore, RV.slot, List.set_cons_zero, List.set_cons_succ, ok_mSetIx, put_list, Option.map_some, add_ii, sub_ii, int_i, ok_mIf, ok_mAnd, ok_mOr, ok_mNot, ge_ii, gt_ii, lt_ii, le_ii, len_list, len_tup, list_list, list_tup, Nat.zero_add, Nat.reduceAdd]
  refine (mixed_ok g1 (by rw [List.length_map]; omega) (by rw [List.length_map]; omega)).mono fun r S2 ⟨ys, er, p, g⟩ => ?_
  subst er
  obtain ⟨zs, rfl, q⟩ := perm_str p
  have hx : (dictV m).length < 16777216 := by simp [dictV]; omega
  simp only [ok_seq, seqP_nx, seqP_rt, endP_rt, endP_nx, mPopAt, ok_bnd, ok_ret, ok_app2, ok_app1, ok_appN, ok_oVar, ok_vVar, ok_mVar, ok_k1, ok_k2, ok_kN, ok_oCons, ok_mCons, ok_call, okO_some, res_val, res_slot, resAll_nil, resAll_cons, resC_some, slotV_shr, slotV_own, deref_ref, deref_int, deref_list, deref_tup, deref_str, deref_bool, deref_dict, deref_non, deS_lst, fz_lst, fz_dct, List.getElem?_cons_zero, List.getElem?_cons_succ, ix_list_i, ix_tup_i, at0, at1, at2, at3, oS_some, ok_frz_sh, ok_frz_lst, ok_frz_dct, eq_ii, eq_ss, ok_asB_b, ok_asB'_b, ne_ii, ne_ss, ok_chkL, recv, ok_onL, List.map_cons, List.length_cons, List.length_nil, ixN0, List.eraseIdx_cons_zero, ok_mStore, RV.slot, List.set_cons_zero, List.set_cons_succ, ok_mSetIx, put_list, Option.map_some, add_ii, sub_ii, int_i, ok_mIf, ok_mAnd, ok_mOr, ok_mNot, ge_ii, gt_ii, lt_ii, le_ii, len_list, len_tup, list_list, list_tup, Nat.zero_add, Nat.reduceAdd, putIx, Val.key, if_pos hx]
  rw [dput_new hk]
  refine k S2 zs _ _ _ _ (g.mono (by rw [List.length_map]; omega)) (q.nodup_iff.mpr g2) (q.mem_iff.mpr g3) fun x hx => ?_
  rcases g4 x (q.mem_iff.mp hx) with z | z
  · rw [List.mem_singleton] at z
    exact z ▸ hh
  · exact z
theorem l2_loop {T : List MO} {hs : List Str} {way : Int} {star : Str} (hw : 0 ≤ way ∧ way < 6) (hl : hs.length ≤ 6) (nd : hs.Nodup) : ∀ (ks : List Str) (m : List (Str × List Str)) (S : List MO) (n : Nat) (s5 s6 s7 s8 s9 : PV.Slot) (P : Fl → State → Prop), St S T n → n + 30 * ks.length < 1000000 → m.length + ks.length ≤ 6 → (∀ x ∈ ks, x ∈ hs) →
    (m.map (·.1) ++ ks).Nodup → (∀ p ∈ m, p.2.Nodup ∧ p.1 ∈ p.2 ∧ ∀ x ∈ p.2, x ∈ hs) →
    (∀ (S' : List MO) (m' : List (Str × List Str)) (a b c d e : PV.Slot), St S' T (n + 30 * ks.length) → m'.map (·.1) = m.map (·.1) ++ ks → (∀ p ∈ m', p.2.Nodup ∧ p.1 ∈ p.2 ∧ ∀ x ∈ p.2, x ∈ hs) →
      P .nx ⟨[.shr (.ref 1), .shr (.list (hs.map .str)), .shr (.int way), .own (.dct (dictV m')), .shr (.str star), a, b, c, d, e], S'⟩) →
    Ok (mFor (mStore 5) l2b__law_map (ks.map .str) ⟨[.shr (.ref 1), .shr (.list (hs.map .str)), .shr (.int way), .own (.dct (dictV m)), .shr (.str star), s5, s6, s7, s8, s9], S⟩) P
  | [], m, S, n, s5, s6, s7, s8, s9, P, h, hn, hz, hx, ndm, hv, k => by
    rw [List.map_nil, ok_for_nil]
    exact k S m s5 s6 s7 s8 s9 h (by simp) hv
  | o :: ks, m, S, n, s5, s6, s7, s8, s9, P, h, hn, hz, hx, ndm, hv, k => by
    rw [List.map_cons, ok_for_cons]
    simp only [List.length_cons] at hn hz
    simp only [ok_mStore, RV.slot, List.set_cons_zero, List.set_cons_succ]
    have hno : o ∉ m.map (·.1) := fun z => by
      rw [List.nodup_append] at ndm
      exact ndm.2.2 o z o List.mem_cons_self rfl
    refine l2_ok h (by omega) hw hl nd (hx o List.mem_cons_self) (by omega) hno fun S' v a b c d g1 g2 g3 g4 => ?_
    have ek : (m ++ [(o, v)]).map (·.1) = m.map (·.1) ++ [o] := by simp
    refine l2_loop hw hl nd ks (m ++ [(o, v)]) S' (n + 30) _ a b c d P g1 (by omega) (by simp; omega) (fun x hx' => hx x (List.mem_cons_of_mem _ hx')) ?_ ?_ fun S2 m' a b c d e q1 q2 q3 => ?_
    · rw [ek, List.append_assoc]; exact ndm
    · intro p hp
      rcases List.mem_append.mp hp with hp | hp
      · exact hv p hp
      · rw [List.mem_singleton] at hp
        subst hp
        exact ⟨g2, g3, g4⟩
    · exact k S2 m' a b c d e (by rw [show n + 30 * (o :: ks).length = n + 30 + 30 * ks.length by simp; omega]; exact q1) (by rw [q2, ek, List.append_assoc]; rfl) q3
theorem map_ok {S T : List MO} {n : Nat} {hs : List Str} (h : St S T n) (hn : n + 200 < 1000000) (hl : hs.length ≤ 5) (h1 : hs ≠ []) (nd : hs.Nodup) : FOk (F__law_map [.ref 1, .list (hs.map .str)] S) fun r S' => ∃ m, r = .fr (.dct (dictV m)) ∧ GoodM hs m ∧ St S' T (n + 200) := by
  unfold F__law_map b__law_map
  rw [fok_def]
  have e1 : ([.ref 1, .list (hs.map .str)] : List Val).map PV.Slot.shr ++ List.replicate (10 - ([.ref 1, .list (hs.map .str)] : List Val).length) PV.Slot.unb = [.shr (.ref 1), .shr (.list (hs.map .str)), .unb, .unb, .unb, .unb, .unb, .unb, .unb, .unb] := rfl
  rw [e1]
  simp only [ok_seq, seqP_nx, seqP_rt, endP_rt, endP_nx, mPopAt, ok_bnd, ok_ret, ok_app2, ok_app1, ok_appN, ok_oVar, ok_vVar, ok_mVar, ok_k1, ok_k2, ok_kN, ok_oCons, ok_mCons, ok_call, okO_some, res_val, res_slot, resAll_nil, resAll_cons, resC_some, slotV_shr, slotV_own, deref_ref, deref_int, deref_list, deref_tup, deref_str, deref_bool, deref_dict, deref_non, deS_lst, fz_lst, fz_dct, List.getElem?_cons_zero, List.getElem?_cons_succ, ix_list_i, ix_tup_i, at0, at1, at2, at3, oS_some, ok_frz_sh, ok_frz_lst, ok_frz_dct, eq_ii, eq_ss, ok_asB_b, ok_asB'_b, ne_ii, ne_ss, ok_chkL, recv, ok_onL, List.map_cons, List.length_cons, List.length_nil, ixN0, List.eraseIdx_cons_zero, ok_mStore, RV.slot, List.set_cons_zero, List.set_cons_succ, ok_mSetIx, put_list, Option.map_some, add_ii, sub_ii, int_i, ok_mIf, ok_mAnd, ok_mOr, ok_mNot, ge_ii, gt_ii, lt_ii, le_ii, len_list, len_tup, list_list, list_tup, Nat.zero_add, Nat.reduceAdd, mPar, itA]
  refine (draw_ok h (by omega) (by decide) (by decide)).mono fun r S1 ⟨d, e, h0, h1', h2⟩ => ?_
  subst e
  simp only [ok_seq, seqP_nx, seqP_rt, endP_rt, endP_nx, mPopAt, ok_bnd, ok_ret, ok_app2, ok_app1, ok_appN, ok_oVar, ok_vVar, ok_mVar, ok_k1, ok_k2, ok_kN, ok_oCons, ok_mCons, ok_call, okO_some, res_val, res_slot, resAll_nil, resAll_cons, resC_some, slotV_shr, slotV_own, deref_ref, deref_int, deref_list, deref_tup, deref_str, deref_bool, deref_dict, deref_non, deS_lst, fz_lst, fz_dct, List.getElem?_cons_zero, List.getElem?_cons_succ, ix_list_i, ix_tup_i, at0, at1, at2, at3, oS_some, ok_frz_sh, ok_frz_lst, ok_frz_dct, eq_ii, eq_ss, ok_asB_b, ok_asB'_b, ne_ii, ne_ss, ok_chkL, recv, ok_onL, List.map_cons, List.length_cons, List.length_nil, ixN0, List.eraseIdx_cons_zero, ok_mStore, RV.slot, List.set_cons_zero, List.set_cons_succ, ok_mSetIx, put_list, Option.map_some, add_ii, sub_ii, int_i, ok_mIf, ok_mAnd, ok_mOr, ok_mNot, ge_ii, gt_ii, lt_ii, le_ii, len_list, len_tup, list_list, list_tup, Nat.zero_add, Nat.reduceAdd]
  refine (pick_ok h2 (by omega) (by simpa using h1) (by rw [List.length_map]; omega)).mono fun r S2 ⟨x, e, hx, g2⟩ => ?_
  subst e
  obtain ⟨star, _, rfl⟩ := List.mem_map.mp hx
  simp only [ok_seq, seqP_nx, seqP_rt, endP_rt, endP_nx, mPopAt, ok_bnd, ok_ret, ok_app2, ok_app1, ok_appN, ok_oVar, ok_vVar, ok_mVar, ok_k1, ok_k2, ok_kN, ok_oCons, ok_mCons, ok_call, okO_some, res_val, res_slot, resAll_nil, resAll_cons, resC_some, slotV_shr, slotV_own, deref_ref, deref_int, deref_list, deref_tup, deref_str, deref_bool, deref_dict, deref_non, deS_lst, fz_lst, fz_dct, List.getElem?_cons_zero, List.getElem?_cons_succ, ix_list_i, ix_tup_i, at0, at1, at2, at3, oS_some, ok_frz_sh, ok_frz_lst, ok_frz_dct, eq_ii, eq_ss, ok_asB_b, ok_asB'_b, ne_ii, ne_ss, ok_chkL, recv, ok_onL, List.map_cons, List.length_cons, List.length_nil, ixN0, List.eraseIdx_cons_zero, ok_mStore, RV.slot, List.set_cons_zero, List.set_cons_succ, ok_mSetIx, put_list, Option.map_some, add_ii, sub_ii, int_i, ok_mIf, ok_mAnd, ok_mOr, ok_mNot, ge_ii, gt_ii, lt_ii, le_ii, len_list, len_tup, list_list, list_tup, Nat.zero_add, Nat.reduceAdd]
  refine (mixed_ok g2 (by rw [List.length_map]; omega) (by rw [List.length_map]; omega)).mono fun r S3 ⟨ys, e, p, g3⟩ => ?_
  subst e
  obtain ⟨ks, rfl, q⟩ := perm_str p
  rw [List.length_map] at g3
  have hk := q.length_eq
  simp only [ok_seq, seqP_nx, seqP_rt, endP_rt, endP_nx, mPopAt, ok_bnd, ok_ret, ok_app2, ok_app1, ok_appN, ok_oVar, ok_vVar, ok_mVar, ok_k1, ok_k2, ok_kN, ok_oCons, ok_mCons, ok_call, okO_some, res_val, res_slot, resAll_nil, resAll_cons, resC_some, slotV_shr, slotV_own, deref_ref, deref_int, deref_list, deref_tup, deref_str, deref_bool, deref_dict, deref_non, deS_lst, fz_lst, fz_dct, List.getElem?_cons_zero, List.getElem?_cons_succ, ix_list_i, ix_tup_i, at0, at1, at2, at3, oS_some, ok_frz_sh, ok_frz_lst, ok_frz_dct, eq_ii, eq_ss, ok_asB_b, ok_asB'_b, ne_ii, ne_ss, ok_chkL, recv, ok_onL, List.map_cons, List.length_cons, List.length_nil, ixN0, List.eraseIdx_cons_zero, ok_mStore, RV.slot, List.set_cons_zero, List.set_cons_succ, ok_mSetIx, put_list, Option.map_some, add_ii, sub_ii, int_i, ok_mIf, ok_mAnd, ok_mOr, ok_mNot, ge_ii, gt_ii, lt_ii, le_ii, len_list, len_tup, list_list, list_tup, Nat.zero_add, Nat.reduceAdd]
  have e0 : ([] : List (Val × Val)) = dictV [] := rfl
  rw [e0]
  refine l2_loop ⟨h0, h1'⟩ (by omega) nd ks [] S3 _ _ _ _ _ _ _ g3 (by omega) (by simp; omega) (fun x hx => q.mem_iff.mp hx) (by simpa using q.nodup_iff.mpr nd) (fun p hp => by cases hp) fun S' m' a b c d e q1 q2 q3 => ?_
  simp only [ok_seq, seqP_nx, seqP_rt, endP_rt, endP_nx, mPopAt, ok_bnd, ok_ret, ok_app2, ok_app1, ok_appN, ok_oVar, ok_vVar, ok_mVar, ok_k1, ok_k2, ok_kN, ok_oCons, ok_mCons, ok_call, okO_some, res_val, res_slot, resAll_nil, resAll_cons, resC_some, slotV_shr, slotV_own, deref_ref, deref_int, deref_list, deref_tup, deref_str, deref_bool, deref_dict, deref_non, deS_lst, fz_lst, fz_dct, List.getElem?_cons_zero, List.getElem?_cons_succ, ix_list_i, ix_tup_i, at0, at1, at2, at3, oS_some, ok_frz_sh, ok_frz_lst, ok_frz_dct, eq_ii, eq_ss, ok_asB_b, ok_asB'_b, ne_ii, ne_ss, ok_chkL, recv, ok_onL, List.map_cons, List.length_cons, List.length_nil, ixN0, List.eraseIdx_cons_zero, ok_mStore, RV.slot, List.set_cons_zero, List.set_cons_succ, ok_mSetIx, put_list, Option.map_some, add_ii, sub_ii, int_i, ok_mIf, ok_mAnd, ok_mOr, ok_mNot, ge_ii, gt_ii, lt_ii, le_ii, len_list, len_tup, list_list, list_tup, Nat.zero_add, Nat.reduceAdd]
  refine ⟨m', rfl, ⟨?_, q3⟩, q1.mono (by omega)⟩
  rw [q2]
  simpa using q
end K02

namespace K02
open PySem hiding ret
open PySem.Spec L2 PV
/-! ### plain maps, compared -/
theorem veqs_strs : ∀ a b : List Str, ∃ x, veqs (a.map .str) (b.map .str) = some x
  | [], [] => ⟨true, rfl⟩
  | [], _ :: _ => ⟨false, rfl⟩
  | _ :: _, [] => ⟨false, rfl⟩
  | a :: as, b :: bs => by
    obtain ⟨x, e⟩ := veqs_strs as bs
    refine ⟨(a == b) && x, ?_⟩
    show veqs (.str a :: as.map .str) (.str b :: bs.map .str) = _
    rw [veqs, e]
    rfl
theorem veq_strs (a b : List Str) : ∃ x, veq (.list (a.map .str)) (.list (b.map .str)) = some x := by
  rw [veq]
  split
  · exact veqs_strs a b
  · exact ⟨false, rfl⟩
theorem dget_cons {k : Str} {p : Str × List Str} {m : List (Str × List Str)} : dget (dictV (p :: m)) (.str k) = if p.1 = k then some (.list (p.2.map .str)) else dget (dictV m) (.str k) := by
  show (if kEq (.str p.1) (.str k) = true then some (Val.list (p.2.map .str)) else dget (dictV m) (.str k)) = _
  rw [kEq_ss]
  by_cases h : p.1 = k
  · rw [if_pos h, if_pos (decide_eq_true h)]
  · rw [if_neg h, if_neg (by simp [h])]
theorem dget_some {k : Str} {m : List (Str × List Str)} {d : Val} (h : dget (dictV m) (.str k) = some d) : ∃ v, (k, v) ∈ m ∧ d = .list (v.map .str) := by
  induction m with
  | nil => cases h
  | cons p m ih =>
    rw [dget_cons] at h
    split at h
    · rename_i e
      cases h
      exact ⟨p.2, by rw [← e]; exact List.mem_cons_self, rfl⟩
    · obtain ⟨v, h1, h2⟩ := ih h
      exact ⟨v, List.mem_cons_of_mem _ h1, h2⟩
theorem dget_mem {k : Str} {v : List Str} {m : List (Str × List Str)} (nd : (m.map (·.1)).Nodup) (h : (k, v) ∈ m) : dget (dictV m) (.str k) = some (.list (v.map .str)) := by
  induction m with
  | nil => cases h
  | cons p m ih =>
    rw [List.map_cons, List.nodup_cons] at nd
    rw [dget_cons]
    rcases List.mem_cons.mp h with e | h
    · subst e; rw [if_pos rfl]
    · rw [if_neg (fun z : p.1 = k => nd.1 (by rw [z]; exact List.mem_map_of_mem (f := (·.1)) h))]
      exact ih nd.2 h
theorem veqd_tot (b : List (Str × List Str)) : ∀ a : List (Str × List Str), ∃ x, veqd (dictV a) (dictV b) = some x
  | [] => ⟨true, rfl⟩
  | p :: a => by
    obtain ⟨x, e⟩ := veqd_tot b a
    show ∃ y, veqd ((.str p.1, .list (p.2.map .str)) :: dictV a) (dictV b) = some y
    rw [veqd]
    cases eg : dget (dictV b) (.str p.1) with
    | none => exact ⟨false, rfl⟩
    | some d =>
      obtain ⟨v, _, rfl⟩ := dget_some eg
      obtain ⟨y, e2⟩ := veq_strs p.2 v
      dsimp only
      rw [e2, e]
      exact ⟨y && x, rfl⟩
/-- the plain maps' == -/
def eqM (a b : List (Str × List Str)) : Bool := veq (.dict (dictV a)) (.dict (dictV b)) == some true
theorem veq_eqM (a b : List (Str × List Str)) : veq (.dict (dictV a)) (.dict (dictV b)) = some (eqM a b) := by
  have h : ∃ x, veq (.dict (dictV a)) (.dict (dictV b)) = some x := by
    rw [veq]
    split
    · exact veqd_tot b a
    · exact ⟨false, rfl⟩
  obtain ⟨x, e⟩ := h
  unfold eqM
  rw [e]
  cases x <;> rfl
theorem vins_eqM (x : List (Str × List Str)) : ∀ l : List (List (Str × List Str)), vins (.dict (dictV x)) (l.map fun m => .dict (dictV m)) = some (l.map fun m => eqM m x)
  | [] => rfl
  | m :: l => by
    show vins (.dict (dictV x)) (.dict (dictV m) :: l.map _) = _
    rw [vins, veq_eqM, vins_eqM x l]
    rfl
theorem vdeps_strs : ∀ a : List Str, vdeps (a.map .str) ≤ 1
  | [] => by simp [vdeps]
  | a :: as => by
    have := vdeps_strs as
    show vdeps (.str a :: as.map .str) ≤ 1
    rw [vdeps]
    have e : vdep (.str a) = 1 := rfl
    omega
theorem vdepd_dictV : ∀ m : List (Str × List Str), vdepd (dictV m) ≤ 2
  | [] => by simp [vdepd, dictV]
  | p :: m => by
    have := vdepd_dictV m
    show vdepd ((.str p.1, .list (p.2.map .str)) :: dictV m) ≤ 2
    rw [vdepd, vdep]
    have := vdeps_strs p.2
    omega
theorem vdeps_maps : ∀ l : List (List (Str × List Str)), vdeps (l.map fun m => .dict (dictV m)) ≤ 3
  | [] => by simp [vdeps]
  | m :: l => by
    have := vdeps_maps l
    show vdeps (.dict (dictV m) :: l.map _) ≤ 3
    rw [vdeps, vdep]
    have := vdepd_dictV m
    omega
theorem in_maps (neg : Bool) (x : List (Str × List Str)) (l : List (List (Str × List Str))) : fIn neg (.dict (dictV x)) (.list (l.map fun m => .dict (dictV m))) = some (.sh (.bool (if neg then !(l.any fun m => eqM m x) else l.any fun m => eqM m x))) := by
  unfold fIn vin
  dsimp only
  rw [if_pos (Nat.le_trans (vdeps_maps l) (by decide)), vins_eqM]
  have e : (l.map fun m => eqM m x).any id = l.any fun m => eqM m x := by
    rw [List.any_map]; rfl
  show some (RV.sh (.bool (if neg then !((l.map fun m => eqM m x).any id) else (l.map fun m => eqM m x).any id))) = _
  rw [e]
/-! ### the plain map -/
/-- whom a hand hears -/
def hear (m : List (Str × List Str)) (k : Str) : List Str := match dget (dictV m) (.str k) with
  | some (.list ds) => ds.map unstr
  | _ => []
theorem hear_mem {k : Str} {v : List Str} {m : List (Str × List Str)} (nd : (m.map (·.1)).Nodup) (h : (k, v) ∈ m) : hear m k = v := by
  unfold hear
  rw [dget_mem nd h]
  exact unstr_map v
def plainM (ks : List Str) (m : List (Str × List Str)) : List (Str × List Str) := ks.map fun k => (k, srtB leS (hear m k))
theorem plainM_keys (m : List (Str × List Str)) : ∀ ks : List Str, (plainM ks m).map (·.1) = ks
  | [] => rfl
  | k :: ks => by
    show k :: (plainM ks m).map (·.1) = _
    rw [plainM_keys m ks]
theorem strsOf_map : ∀ a : List Str, strsOf (a.map .str) = some a
  | [] => rfl
  | a :: as => by
    show (strsOf (as.map .str)).map (a :: ·) = _
    rw [strsOf_map as]; rfl
theorem strsOf_keys (m : List (Str × List Str)) : strsOf ((dictV m).map (·.1)) = some (m.map (·.1)) := by
  have e : (dictV m).map (·.1) = (m.map (·.1)).map Val.str := by simp [dictV]
  rw [e, strsOf_map]
theorem sorted_dict {m : List (Str × List Str)} (h : m.length < 64) : fSorted [.dict (dictV m)] = some (.fr (.lst ((srtB leS (m.map (·.1))).map .str))) := by
  unfold fSorted
  dsimp only
  rw [strsOf_keys]
  dsimp only
  rw [if_pos (by rw [List.length_map]; exact h)]
theorem sorted_list {a : List Str} (h : a.length < 64) : fSorted [.list (a.map .str)] = some (.fr (.lst ((srtB leS a).map .str))) := by
  show srtV (a.map .str) = _
  unfold srtV
  rw [strsOf_map]
  dsimp only
  rw [if_pos h]
theorem pairs_map (f : Str → List Str) : ∀ ks : List Str, pairsOf (ks.map fun k => .tup [.str k, .list ((f k).map .str)]) = some (dictV (ks.map fun k => (k, f k)))
  | [] => rfl
  | k :: ks => by
    show (match (Val.str k).key, pairsOf (ks.map _) with
      | some _, some ps => some ((Val.str k, Val.list ((f k).map .str)) :: ps)
      | _, _ => none) = _
    rw [pairs_map f ks]
    rfl
theorem merge_dictV : ∀ b a : List (Str × List Str), (a.map (·.1) ++ b.map (·.1)).Nodup → mergeD (dictV a) (dictV b) = dictV (a ++ b)
  | [], a, _ => by rw [List.append_nil]; rfl
  | p :: b, a, h => by
    show mergeD (dput (dictV a) (.str p.1) (.list (p.2.map .str))) (dictV b) = _
    have hno : p.1 ∉ a.map (·.1) := fun z => by
      rw [List.nodup_append] at h
      exact h.2.2 p.1 z p.1 List.mem_cons_self rfl
    rw [dput_new hno, merge_dictV b (a ++ [(p.1, p.2)]) (by simpa using h), List.append_assoc]
    rfl
theorem ix_dict {m : List (Str × List Str)} {k : Str} : fIx (.dict (dictV m)) (.str k) = oS (dget (dictV m) (.str k)) := rfl
theorem plain_go {m : List (Str × List Str)} (nd : (m.map (·.1)).Nodup) (hv : ∀ p ∈ m, p.2.length < 64) : ∀ (ks : List Str) (acc : List Val) (s1 : PV.Slot) (S : List MO) (P : List Val → State → Prop), (∀ k ∈ ks, k ∈ m.map (·.1)) →
    (P (acc ++ ks.map fun k => .tup [.str k, .list ((srtB leS (hear m k)).map .str)]) ⟨[.shr (.dict (dictV m)), .unb], S⟩) →
    Ok (mLcGo [1] (mStore 1) (ret true) k1e__law_plain_map (ks.map .str) acc ⟨[.shr (.dict (dictV m)), s1], S⟩) P
  | [], acc, s1, S, P, _, k => by
    rw [List.map_nil, ok_lc_nil]
    rw [List.map_nil, List.append_nil] at k
    exact k
  | k0 :: ks, acc, s1, S, P, hk, k => by
    rw [List.map_cons, ok_lc_cons]
    have ew : wipeS [1] ⟨[.shr (.dict (dictV m)), s1], S⟩ = ⟨[.shr (.dict (dictV m)), .unb], S⟩ := rfl
    rw [ew]
    unfold k1e__law_plain_map
    obtain ⟨p, hp, e⟩ := List.mem_map.mp (hk k0 List.mem_cons_self)
    have hp' : (k0, p.2) ∈ m := by rw [← e]; exact hp
    have eg : dget (dictV m) (.str k0) = some (.list (p.2.map .str)) := dget_mem nd hp'
    have eh : hear m k0 = p.2 := hear_mem nd hp'
    simp only [ok_seq, seqP_nx, seqP_rt, endP_rt, endP_nx, mPopAt, ok_bnd, ok_ret, ok_app2, ok_app1, ok_appN, ok_oVar, ok_vVar, ok_mVar, ok_k1, ok_k2, ok_kN, ok_oCons, ok_mCons, ok_call, okO_some, res_val, res_slot, resAll_nil, resAll_cons, resC_some, slotV_shr, slotV_own, deref_ref, deref_int, deref_list, deref_tup, deref_str, deref_bool, deref_dict, deref_non, deS_lst, fz_lst, fz_dct, List.getElem?_cons_zero, List.getElem?_cons_succ, ix_list_i, ix_tup_i, at0, at1, at2, at3, oS_some, ok_frz_sh, ok_frz_lst, ok_frz_dct, eq_ii, eq_ss, ok_asB_b, ok_asB'_b, ne_ii, ne_ss, ok_chkL, recv, ok_onL, List.map_cons, List.length_cons, List.length_nil, ixN0, List.eraseIdx_cons_zero, ok_mStore, RV.slot, List.set_cons_zero, List.set_cons_succ, ok_mSetIx, put_list, Option.map_some, add_ii, sub_ii, int_i, ok_mIf, ok_mAnd, ok_mOr, ok_mNot, ge_ii, gt_ii, lt_ii, le_ii, len_list, len_tup, list_list, list_tup, Nat.zero_add, Nat.reduceAdd, if_true, ix_dict, eg, sorted_list (hv p hp)]
    refine plain_go nd hv ks _ _ S P (fun x hx => hk x (List.mem_cons_of_mem _ hx)) ?_
    rw [List.append_assoc]
    rw [List.map_cons, eh] at k
    exact k
theorem plain_ok {S : List MO} {m : List (Str × List Str)} (nd : (m.map (·.1)).Nodup) (hl : m.length < 64) (hv : ∀ p ∈ m, p.2.length < 64) : FOk (F__law_plain_map [.dict (dictV m)] S) fun r S' => r = .fr (.dct (dictV (plainM (srtB leS (m.map (·.1))) m))) ∧ S' = S := by
  unfold F__law_plain_map b__law_plain_map
  rw [fok_def]
  have e1 : ([.dict (dictV m)] : List Val).map PV.Slot.shr ++ List.replicate (2 - ([.dict (dictV m)] : List Val).length) PV.Slot.unb = [.shr (.dict (dictV m)), .unb] := rfl
  rw [e1]
  have pk : (srtB leS (m.map (·.1))).Perm (m.map (·.1)) := srtB_perm _
  simp only [ok_seq, seqP_nx, seqP_rt, endP_rt, endP_nx, mPopAt, ok_bnd, ok_ret, ok_app2, ok_app1, ok_appN, ok_oVar, ok_vVar, ok_mVar, ok_k1, ok_k2, ok_kN, ok_oCons, ok_mCons, ok_call, okO_some, res_val, res_slot, resAll_nil, resAll_cons, resC_some, slotV_shr, slotV_own, deref_ref, deref_int, deref_list, deref_tup, deref_str, deref_bool, deref_dict, deref_non, deS_lst, fz_lst, fz_dct, List.getElem?_cons_zero, List.getElem?_cons_succ, ix_list_i, ix_tup_i, at0, at1, at2, at3, oS_some, ok_frz_sh, ok_frz_lst, ok_frz_dct, eq_ii, eq_ss, ok_asB_b, ok_asB'_b, ne_ii, ne_ss, ok_chkL, recv, ok_onL, List.map_cons, List.length_cons, List.length_nil, ixN0, List.eraseIdx_cons_zero, ok_mStore, RV.slot, List.set_cons_zero, List.set_cons_succ, ok_mSetIx, put_list, Option.map_some, add_ii, sub_ii, int_i, ok_mIf, ok_mAnd, ok_mOr, ok_mNot, ge_ii, gt_ii, lt_ii, le_ii, len_list, len_tup, list_list, list_tup, Nat.zero_add, Nat.reduceAdd, ok_mLc, sorted_dict hl, itA]
  refine plain_go nd hv _ [] _ S _ (fun k hk => pk.mem_iff.mp hk) ?_
  rw [List.nil_append]
  have e2 : restS [1] ⟨[.shr (.dict (dictV m)), .unb], S⟩ ⟨[.shr (.dict (dictV m)), .unb], S⟩ = ⟨[.shr (.dict (dictV m)), .unb], S⟩ := rfl
  rw [e2]
  have e3 := pairs_map (fun k => srtB leS (hear m k)) (srtB leS (m.map (·.1)))
  have e4 : mergeD [] (dictV (plainM (srtB leS (m.map (·.1))) m)) = dictV (plainM (srtB leS (m.map (·.1))) m) := merge_dictV _ [] (by
    have : (plainM (srtB leS (m.map (·.1))) m).map (·.1) = srtB leS (m.map (·.1)) := plainM_keys _ _
    rw [this]
    simpa using pk.nodup_iff.mpr nd)
  have e5 : fDict [.list ((srtB leS (m.map (·.1))).map fun k => .tup [.str k, .list ((srtB leS (hear m k)).map .str)])] = some (.fr (.dct (dictV (plainM (srtB leS (m.map (·.1))) m)))) := by
    show (pairsOf _).map (fun ps => RV.fr (.dct (mergeD [] ps))) = _
    rw [e3]
    show some (RV.fr (.dct (mergeD [] (dictV (plainM (srtB leS (m.map (·.1))) m))))) = _
    rw [e4]
  simp only [ok_seq, seqP_nx, seqP_rt, endP_rt, endP_nx, mPopAt, ok_bnd, ok_ret, ok_app2, ok_app1, ok_appN, ok_oVar, ok_vVar, ok_mVar, ok_k1, ok_k2, ok_kN, ok_oCons, ok_mCons, ok_call, okO_some, res_val, res_slot, resAll_nil, resAll_cons, resC_some, slotV_shr, slotV_own, deref_ref, deref_int, deref_list, deref_tup, deref_str, deref_bool, deref_dict, deref_non, deS_lst, fz_lst, fz_dct, List.getElem?_cons_zero, List.getElem?_cons_succ, ix_list_i, ix_tup_i, at0, at1, at2, at3, oS_some, ok_frz_sh, ok_frz_lst, ok_frz_dct, eq_ii, eq_ss, ok_asB_b, ok_asB'_b, ne_ii, ne_ss, ok_chkL, recv, ok_onL, List.map_cons, List.length_cons, List.length_nil, ixN0, List.eraseIdx_cons_zero, ok_mStore, RV.slot, List.set_cons_zero, List.set_cons_succ, ok_mSetIx, put_list, Option.map_some, add_ii, sub_ii, int_i, ok_mIf, ok_mAnd, ok_mOr, ok_mNot, ge_ii, gt_ii, lt_ii, le_ii, len_list, len_tup, list_list, list_tup, Nat.zero_add, Nat.reduceAdd, e5]
  exact ⟨trivial, trivial⟩
end K02

namespace K02
open PySem hiding ret
open PySem.Spec L2 PV
theorem ok_mLcO {vs : List Nat} {j : Nat} {t : RV → M Unit} {c : M Bool} {e : M Val} {st : State} {P : RV → State → Prop} : Ok (mLcO vs j t c e st) P ↔ OkO (lend j st) fun p => Ok (mLcGo vs t c e p.1 [] p.2) fun ys s' => P (.fr (.lst ys)) (giveBack j p.1 (restS vs p.2 s')) := by
  unfold mLcO OkO
  cases lend j st with
  | none => exact Iff.rfl
  | some p =>
    obtain ⟨ds, s1⟩ := p
    unfold Ok
    dsimp only
    cases mLcGo vs t c e ds [] s1 <;> exact Iff.rfl
theorem nodup_le : ∀ (a b : List Str), a.Nodup → (∀ x ∈ a, x ∈ b) → a.length ≤ b.length
  | [], b, _, _ => Nat.zero_le _
  | x :: a, b, nd, h => by
    rw [List.nodup_cons] at nd
    have hx := h x List.mem_cons_self
    have ih := nodup_le a (b.erase x) nd.2 fun y hy => (List.mem_erase_of_ne (fun z : y = x => nd.1 (by rw [← z]; exact hy))).mpr (h y (List.mem_cons_of_mem _ hy))
    have e := List.length_erase_of_mem hx
    have : 0 < b.length := List.length_pos_of_mem hx
    rw [List.length_cons]
    omega
def pl (m : List (Str × List Str)) : List (Str × List Str) := plainM (srtB leS (m.map (·.1))) m
structure Fits (m : List (Str × List Str)) : Prop where
  nd : (m.map (·.1)).Nodup
  len : m.length < 64
  vals : ∀ p ∈ m, p.2.length < 64
theorem GoodM.fits {hs : List Str} {m : List (Str × List Str)} (g : GoodM hs m) (nd : hs.Nodup) (hl : hs.length ≤ 5) : Fits m := by
  refine ⟨g.keys.nodup_iff.mpr nd, ?_, fun p hp => ?_⟩
  · have := g.keys.length_eq
    rw [List.length_map] at this
    omega
  · obtain ⟨h1, _, h3⟩ := g.vals p hp
    have := nodup_le _ _ h1 h3
    omega
theorem maps_go {S : List MO} {a b c d e : PV.Slot} : ∀ (ms : List (List (Str × List Str))) (acc : List Val) (s6 : PV.Slot) (P : List Val → State → Prop), (∀ m ∈ ms, Fits m) →
    P (acc ++ ms.map fun m => .dict (dictV (pl m))) ⟨[a, b, c, .unb, d, e, .unb], S⟩ →
    Ok (mLcGo [6] (mStore 6) (ret true) k1e__law_maps (ms.map fun m => .dict (dictV m)) acc ⟨[a, b, c, .unb, d, e, s6], S⟩) P
  | [], acc, s6, P, _, k => by
    rw [List.map_nil, ok_lc_nil]
    rw [List.map_nil, List.append_nil] at k
    exact k
  | m :: ms, acc, s6, P, hf, k => by
    rw [List.map_cons, ok_lc_cons]
    have ew : wipeS [6] ⟨[a, b, c, .unb, d, e, s6], S⟩ = ⟨[a, b, c, .unb, d, e, .unb], S⟩ := rfl
    rw [ew]
    unfold k1e__law_maps
    simp only [ok_seq, seqP_nx, seqP_rt, endP_rt, endP_nx, mPopAt, ok_bnd, ok_ret, ok_app2, ok_app1, ok_appN, ok_oVar, ok_vVar, ok_mVar, ok_k1, ok_k2, ok_kN, ok_oCons, ok_mCons, ok_call, okO_some, res_val, res_slot, resAll_nil, resAll_cons, resC_some, slotV_shr, slotV_own, deref_ref, deref_int, deref_list, deref_tup, deref_str, deref_bool, deref_dict, deref_non, deS_lst, fz_lst, fz_dct, List.getElem?_cons_zero, List.getElem?_cons_succ, ix_list_i, ix_tup_i, at0, at1, at2, at3, oS_some, ok_frz_sh, ok_frz_lst, ok_frz_dct, eq_ii, eq_ss, ok_asB_b, ok_asB'_b, ne_ii, ne_ss, ok_chkL, recv, ok_onL, List.map_cons, List.length_cons, List.length_nil, ixN0, List.eraseIdx_cons_zero, ok_mStore, RV.slot, List.set_cons_zero, List.set_cons_succ, ok_mSetIx, put_list, Option.map_some, add_ii, sub_ii, int_i, ok_mIf, ok_mAnd, ok_mOr, ok_mNot, ge_ii, gt_ii, lt_ii, le_ii, len_list, len_tup, list_list, list_tup, Nat.zero_add, Nat.reduceAdd, if_true]
    have f := hf m List.mem_cons_self
    refine (plain_ok f.nd f.len f.vals).mono fun r S' ⟨er, es⟩ => ?_
    subst er es
    simp only [ok_seq, seqP_nx, seqP_rt, endP_rt, endP_nx, mPopAt, ok_bnd, ok_ret, ok_app2, ok_app1, ok_appN, ok_oVar, ok_vVar, ok_mVar, ok_k1, ok_k2, ok_kN, ok_oCons, ok_mCons, ok_call, okO_some, res_val, res_slot, resAll_nil, resAll_cons, resC_some, slotV_shr, slotV_own, deref_ref, deref_int, deref_list, deref_tup, deref_str, deref_bool, deref_dict, deref_non, deS_lst, fz_lst, fz_dct, List.getElem?_cons_zero, List.getElem?_cons_succ, ix_list_i, ix_tup_i, at0, at1, at2, at3, oS_some, ok_frz_sh, ok_frz_lst, ok_frz_dct, eq_ii, eq_ss, ok_asB_b, ok_asB'_b, ne_ii, ne_ss, ok_chkL, recv, ok_onL, List.map_cons, List.length_cons, List.length_nil, ixN0, List.eraseIdx_cons_zero, ok_mStore, RV.slot, List.set_cons_zero, List.set_cons_succ, ok_mSetIx, put_list, Option.map_some, add_ii, sub_ii, int_i, ok_mIf, ok_mAnd, ok_mOr, ok_mNot, ge_ii, gt_ii, lt_ii, le_ii, len_list, len_tup, list_list, list_tup, Nat.zero_add, Nat.reduceAdd]
    refine maps_go ms _ _ P (fun x hx => hf x (List.mem_cons_of_mem _ hx)) ?_
    rw [List.append_assoc]
    exact k
theorem maps_step {S T : List MO} {n : Nat} {hs : List Str} {ms : List (List (Str × List Str))} {s2 s4 s5 s6 : PV.Slot} {P : Fl → State → Prop} (h : St S T n) (hn : n + 200 < 1000000) (hl : hs.length ≤ 5) (h1 : hs ≠ []) (nd : hs.Nodup) (hz : ms.length < 1000)
    (hg : ∀ m ∈ ms, GoodM hs m) (hp : ms.Pairwise fun a b => eqM (pl a) (pl b) = false)
    (k : ∀ (S' : List MO) (ms' : List (List (Str × List Str))) (a b : PV.Slot), St S' T (n + 200) → (ms' = ms ∧ ms ≠ [] ∨ ∃ m, ms' = ms ++ [m]) → (∀ m ∈ ms', GoodM hs m) → ms'.Pairwise (fun a b => eqM (pl a) (pl b) = false) →
      P .nx ⟨[.shr (.ref 1), .shr (.list (hs.map .str)), s2, .own (.lst (ms'.map fun m => .dict (dictV m))), s4, a, b], S'⟩) :
    Ok (l2b__law_maps ⟨[.shr (.ref 1), .shr (.list (hs.map .str)), s2, .own (.lst (ms.map fun m => .dict (dictV m))), s4, s5, s6], S⟩) P := by
  unfold l2b__law_maps
  simp only [ok_seq, seqP_nx, seqP_rt, endP_rt, endP_nx, mPopAt, ok_bnd, ok_ret, ok_app2, ok_app1, ok_appN, ok_oVar, ok_vVar, ok_mVar, ok_k1, ok_k2, ok_kN, ok_oCons, ok_mCons, ok_call, okO_some, res_val, res_slot, resAll_nil, resAll_cons, resC_some, slotV_shr, slotV_own, deref_ref, deref_int, deref_list, deref_tup, deref_str, deref_bool, deref_dict, deref_non, deS_lst, fz_lst, fz_dct, List.getElem?_cons_zero, List.getElem?_cons_succ, ix_list_i, ix_tup_i, at0, at1, at2, at3, oS_some, ok_frz_sh, ok_frz_lst, ok_frz_dct, eq_ii, eq_ss, ok_asB_b, ok_asB'_b, ne_ii, ne_ss, ok_chkL, recv, ok_onL, List.map_cons, List.length_cons, List.length_nil, ixN0, List.eraseIdx_cons_zero, ok_mStore, RV.slot, List.set_cons_zero, List.set_cons_succ, ok_mSetIx, put_list, Option.map_some, add_ii, sub_ii, int_i, ok_mIf, ok_mAnd, ok_mOr, ok_mNot, ge_ii, gt_ii, lt_ii, le_ii, len_list, len_tup, list_list, list_tup, Nat.zero_add, Nat.reduceAdd]
  refine (map_ok h hn hl h1 nd).mono fun r S1 ⟨m, er, g, h2⟩ => ?_
  subst er
  have f := g.fits nd hl
  simp only [ok_seq, seqP_nx, seqP_rt, endP_rt, endP_nx, mPopAt, ok_bnd, ok_ret, ok_app2, ok_app1, ok_appN, ok_oVar, ok_vVar, ok_mVar, ok_k1, ok_k2, ok_kN, ok_oCons, ok_mCons, ok_call, okO_some, res_val, res_slot, resAll_nil, resAll_cons, resC_some, slotV_shr, slotV_own, deref_ref, deref_int, deref_list, deref_tup, deref_str, deref_bool, deref_dict, deref_non, deS_lst, fz_lst, fz_dct, List.getElem?_cons_zero, List.getElem?_cons_succ, ix_list_i, ix_tup_i, at0, at1, at2, at3, oS_some, ok_frz_sh, ok_frz_lst, ok_frz_dct, eq_ii, eq_ss, ok_asB_b, ok_asB'_b, ne_ii, ne_ss, ok_chkL, recv, ok_onL, List.map_cons, List.length_cons, List.length_nil, ixN0, List.eraseIdx_cons_zero, ok_mStore, RV.slot, List.set_cons_zero, List.set_cons_succ, ok_mSetIx, put_list, Option.map_some, add_ii, sub_ii, int_i, ok_mIf, ok_mAnd, ok_mOr, ok_mNot, ge_ii, gt_ii, lt_ii, le_ii, len_list, len_tup, list_list, list_tup, Nat.zero_add, Nat.reduceAdd]
  refine (plain_ok f.nd f.len f.vals).mono fun r S2 ⟨er, es⟩ => ?_
  subst er es
  have hz2 : (ms.map fun m => Val.dict (dictV m)).length ≤ 16777216 := by rw [List.length_map]; omega
  simp only [ok_seq, seqP_nx, seqP_rt, endP_rt, endP_nx, mPopAt, ok_bnd, ok_ret, ok_app2, ok_app1, ok_appN, ok_oVar, ok_vVar, ok_mVar, ok_k1, ok_k2, ok_kN, ok_oCons, ok_mCons, ok_call, okO_some, res_val, res_slot, resAll_nil, resAll_cons, resC_some, slotV_shr, slotV_own, deref_ref, deref_int, deref_list, deref_tup, deref_str, deref_bool, deref_dict, deref_non, deS_lst, fz_lst, fz_dct, List.getElem?_cons_zero, List.getElem?_cons_succ, ix_list_i, ix_tup_i, at0, at1, at2, at3, oS_some, ok_frz_sh, ok_frz_lst, ok_frz_dct, eq_ii, eq_ss, ok_asB_b, ok_asB'_b, ne_ii, ne_ss, ok_chkL, recv, ok_onL, List.map_cons, List.length_cons, List.length_nil, ixN0, List.eraseIdx_cons_zero, ok_mStore, RV.slot, List.set_cons_zero, List.set_cons_succ, ok_mSetIx, put_list, Option.map_some, add_ii, sub_ii, int_i, ok_mIf, ok_mAnd, ok_mOr, ok_mNot, ge_ii, gt_ii, lt_ii, le_ii, len_list, len_tup, list_list, list_tup, Nat.zero_add, Nat.reduceAdd, ok_mLcO, lend, if_pos hz2]
  refine maps_go ms [] _ _ (fun m hm => (hg m hm).fits nd hl) ?_
  rw [List.nil_append]
  have em : (ms.map fun m => Val.dict (dictV (pl m))) = (ms.map pl).map fun m => Val.dict (dictV m) := by rw [List.map_map]; rfl
  have ein := in_maps true (pl m) (ms.map pl)
  rw [← em, if_pos rfl] at ein
  show OkO (fIn true (.dict (dictV (pl m))) _) _
  rw [ein]
  simp only [ok_seq, seqP_nx, seqP_rt, endP_rt, endP_nx, mPopAt, ok_bnd, ok_ret, ok_app2, ok_app1, ok_appN, ok_oVar, ok_vVar, ok_mVar, ok_k1, ok_k2, ok_kN, ok_oCons, ok_mCons, ok_call, okO_some, res_val, res_slot, resAll_nil, resAll_cons, resC_some, slotV_shr, slotV_own, deref_ref, deref_int, deref_list, deref_tup, deref_str, deref_bool, deref_dict, deref_non, deS_lst, fz_lst, fz_dct, List.getElem?_cons_zero, List.getElem?_cons_succ, ix_list_i, ix_tup_i, at0, at1, at2, at3, oS_some, ok_frz_sh, ok_frz_lst, ok_frz_dct, eq_ii, eq_ss, ok_asB_b, ok_asB'_b, ne_ii, ne_ss, ok_chkL, recv, ok_onL, List.map_cons, List.length_cons, List.length_nil, ixN0, List.eraseIdx_cons_zero, ok_mStore, RV.slot, List.set_cons_zero, List.set_cons_succ, ok_mSetIx, put_list, Option.map_some, add_ii, sub_ii, int_i, ok_mIf, ok_mAnd, ok_mOr, ok_mNot, ge_ii, gt_ii, lt_ii, le_ii, len_list, len_tup, list_list, list_tup, Nat.zero_add, Nat.reduceAdd]
  have eb : giveBack 3 (ms.map fun m => Val.dict (dictV m)) (restS [6] ⟨[.shr (.ref 1), .shr (.list (hs.map .str)), s2, .unb, s4, .shr (.dict (dictV m)), s6], S2⟩ ⟨[.shr (.ref 1), .shr (.list (hs.map .str)), s2, .unb, s4, .shr (.dict (dictV m)), .unb], S2⟩) =
      ⟨[.shr (.ref 1), .shr (.list (hs.map .str)), s2, .own (.lst (ms.map fun m => Val.dict (dictV m))), s4, .shr (.dict (dictV m)), keepS (some s6)], S2⟩ := rfl
  rw [eb]
  cases hb : (ms.map pl).any fun x => eqM x (pl m) with
  | true =>
    rw [if_neg (by simp)]
    refine k S2 ms _ _ h2 (.inl ⟨rfl, fun z => ?_⟩) hg hp
    subst z
    cases hb
  | false =>
    rw [if_pos (by simp)]
    unfold mApp
    simp only [ok_seq, seqP_nx, seqP_rt, endP_rt, endP_nx, mPopAt, ok_bnd, ok_ret, ok_app2, ok_app1, ok_appN, ok_oVar, ok_vVar, ok_mVar, ok_k1, ok_k2, ok_kN, ok_oCons, ok_mCons, ok_call, okO_some, res_val, res_slot, resAll_nil, resAll_cons, resC_some, slotV_shr, slotV_own, deref_ref, deref_int, deref_list, deref_tup, deref_str, deref_bool, deref_dict, deref_non, deS_lst, fz_lst, fz_dct, List.getElem?_cons_zero, List.getElem?_cons_succ, ix_list_i, ix_tup_i, at0, at1, at2, at3, oS_some, ok_frz_sh, ok_frz_lst, ok_frz_dct, eq_ii, eq_ss, ok_asB_b, ok_asB'_b, ne_ii, ne_ss, ok_chkL, recv, ok_onL, List.map_cons, List.length_cons, List.length_nil, ixN0, List.eraseIdx_cons_zero, ok_mStore, RV.slot, List.set_cons_zero, List.set_cons_succ, ok_mSetIx, put_list, Option.map_some, add_ii, sub_ii, int_i, ok_mIf, ok_mAnd, ok_mOr, ok_mNot, ge_ii, gt_ii, lt_ii, le_ii, len_list, len_tup, list_list, list_tup, Nat.zero_add, Nat.reduceAdd, List.length_map]
    rw [if_pos (by omega)]
    have ea : (ms.map fun m => Val.dict (dictV m)) ++ [Val.dict (dictV m)] = (ms ++ [m]).map fun m => Val.dict (dictV m) := by simp
    simp only [ok_seq, seqP_nx, seqP_rt, endP_rt, endP_nx, mPopAt, ok_bnd, ok_ret, ok_app2, ok_app1, ok_appN, ok_oVar, ok_vVar, ok_mVar, ok_k1, ok_k2, ok_kN, ok_oCons, ok_mCons, ok_call, okO_some, res_val, res_slot, resAll_nil, resAll_cons, resC_some, slotV_shr, slotV_own, deref_ref, deref_int, deref_list, deref_tup, deref_str, deref_bool, deref_dict, deref_non, deS_lst, fz_lst, fz_dct, List.getElem?_cons_zero, List.getElem?_cons_succ, ix_list_i, ix_tup_i, at0, at1, at2, at3, oS_some, ok_frz_sh, ok_frz_lst, ok_frz_dct, eq_ii, eq_ss, ok_asB_b, ok_asB'_b, ne_ii, ne_ss, ok_chkL, recv, ok_onL, List.map_cons, List.length_cons, List.length_nil, ixN0, List.eraseIdx_cons_zero, ok_mStore, RV.slot, List.set_cons_zero, List.set_cons_succ, ok_mSetIx, put_list, Option.map_some, add_ii, sub_ii, int_i, ok_mIf, ok_mAnd, ok_mOr, ok_mNot, ge_ii, gt_ii, lt_ii, le_ii, len_list, len_tup, list_list, list_tup, Nat.zero_add, Nat.reduceAdd, ea]
    refine k S2 (ms ++ [m]) _ _ h2 (.inr ⟨m, rfl⟩) (fun x hx => ?_) ?_
    · rcases List.mem_append.mp hx with hx | hx
      · exact hg x hx
      · rw [List.mem_singleton] at hx; subst hx; exact g
    · rw [List.pairwise_append]
      refine ⟨hp, by simp, fun a ha b hb' => ?_⟩
      rw [List.mem_singleton] at hb'
      subst hb'
      rw [List.any_eq_false] at hb
      simpa using hb (pl a) (List.mem_map_of_mem ha)
theorem maps_loop {T : List MO} {hs : List Str} {s2 : PV.Slot} (hl : hs.length ≤ 5) (h1 : hs ≠ []) (nd : hs.Nodup) : ∀ (ks : List Val) (ms : List (List (Str × List Str))) (S : List MO) (n : Nat) (s4 s5 s6 : PV.Slot) (P : Fl → State → Prop), St S T n → n + 200 * ks.length < 1000000 → ms.length + ks.length < 1000 →
    (∀ m ∈ ms, GoodM hs m) → (ms.Pairwise fun a b => eqM (pl a) (pl b) = false) →
    (∀ (S' : List MO) (ms' : List (List (Str × List Str))) (a b c : PV.Slot), St S' T (n + 200 * ks.length) → (∀ m ∈ ms', GoodM hs m) → ms'.Pairwise (fun a b => eqM (pl a) (pl b) = false) → ms'.length ≤ ms.length + ks.length → (ms ≠ [] ∨ ks ≠ [] → ms' ≠ []) →
      P .nx ⟨[.shr (.ref 1), .shr (.list (hs.map .str)), s2, .own (.lst (ms'.map fun m => .dict (dictV m))), a, b, c], S'⟩) →
    Ok (mFor (mStore 4) l2b__law_maps ks ⟨[.shr (.ref 1), .shr (.list (hs.map .str)), s2, .own (.lst (ms.map fun m => .dict (dictV m))), s4, s5, s6], S⟩) P
  | [], ms, S, n, s4, s5, s6, P, h, hn, hz, hg, hp, k => by
    rw [ok_for_nil]
    exact k S ms s4 s5 s6 h hg hp (by simp) (fun z => z.elim id fun z => absurd rfl z)
  | o :: ks, ms, S, n, s4, s5, s6, P, h, hn, hz, hg, hp, k => by
    rw [ok_for_cons]
    simp only [List.length_cons] at hn hz
    simp only [ok_mStore, RV.slot, List.set_cons_zero, List.set_cons_succ]
    refine maps_step h (by omega) hl h1 nd (by omega) hg hp fun S' ms' a b g1 g2 g3 g4 => ?_
    have en : n + 200 * (o :: ks).length = n + 200 + 200 * ks.length := by simp; omega
    have hlen : ms'.length ≤ ms.length + 1 ∧ ms' ≠ [] := by
      rcases g2 with ⟨e, ne⟩ | ⟨m, e⟩
      · subst e; exact ⟨by omega, ne⟩
      · subst e; simp
    refine maps_loop hl h1 nd ks ms' S' (n + 200) _ a b P g1 (by omega) (by omega) g3 g4 fun S2 ms2 a b c q1 q2 q3 q4 q5 => ?_
    exact k S2 ms2 a b c (by rw [en]; exact q1) q2 q3 (by simp; omega) fun _ => q5 (.inl hlen.2)
theorem maps_ok {S T : List MO} {n k : Nat} {hs : List Str} (h : St S T n) (hn : n + 200 * k < 1000000) (hk : 1 ≤ k ∧ k ≤ 4) (hl : hs.length ≤ 5) (h1 : hs ≠ []) (nd : hs.Nodup) : FOk (F__law_maps [.ref 1, .list (hs.map .str), .int k] S) fun r S' => ∃ ms : List (List (Str × List Str)),
    r = .fr (.lst (ms.map fun m => .dict (dictV m))) ∧ (∀ m ∈ ms, GoodM hs m) ∧ ms.Pairwise (fun a b => eqM (pl a) (pl b) = false) ∧ ms.length ≤ k ∧ ms ≠ [] ∧ St S' T (n + 200 * k) := by
  unfold F__law_maps b__law_maps
  rw [fok_def]
  have e1 : ([.ref 1, .list (hs.map .str), .int k] : List Val).map PV.Slot.shr ++ List.replicate (7 - ([.ref 1, .list (hs.map .str), .int k] : List Val).length) PV.Slot.unb = [.shr (.ref 1), .shr (.list (hs.map .str)), .shr (.int k), .unb, .unb, .unb, .unb] := rfl
  rw [e1]
  have e2 : okR (k : Int) = true := by simp [okR]; omega
  have e3 : (vRange 0 (k : Int)).length = k := by simp [vRange]
  simp only [ok_seq, seqP_nx, seqP_rt, endP_rt, endP_nx, mPopAt, ok_bnd, ok_ret, ok_app2, ok_app1, ok_appN, ok_oVar, ok_vVar, ok_mVar, ok_k1, ok_k2, ok_kN, ok_oCons, ok_mCons, ok_call, okO_some, res_val, res_slot, resAll_nil, resAll_cons, resC_some, slotV_shr, slotV_own, deref_ref, deref_int, deref_list, deref_tup, deref_str, deref_bool, deref_dict, deref_non, deS_lst, fz_lst, fz_dct, List.getElem?_cons_zero, List.getElem?_cons_succ, ix_list_i, ix_tup_i, at0, at1, at2, at3, oS_some, ok_frz_sh, ok_frz_lst, ok_frz_dct, eq_ii, eq_ss, ok_asB_b, ok_asB'_b, ne_ii, ne_ss, ok_chkL, recv, ok_onL, List.map_cons, List.length_cons, List.length_nil, ixN0, List.eraseIdx_cons_zero, ok_mStore, RV.slot, List.set_cons_zero, List.set_cons_succ, ok_mSetIx, put_list, Option.map_some, add_ii, sub_ii, int_i, ok_mIf, ok_mAnd, ok_mOr, ok_mNot, ge_ii, gt_ii, lt_ii, le_ii, len_list, len_tup, list_list, list_tup, Nat.zero_add, Nat.reduceAdd, itR1, if_pos e2]
  have e0 : ([] : List Val) = ([] : List (List (Str × List Str))).map fun m => .dict (dictV m) := rfl
  rw [e0]
  refine maps_loop hl h1 nd (vRange 0 (k : Int)) [] S n _ _ _ _ h (by rw [e3]; exact hn) (by rw [e3]; simp; omega) (fun m hm => by cases hm) .nil fun S' ms a b c g1 g2 g3 g4 g5 => ?_
  rw [e3] at g1 g4
  simp only [ok_seq, seqP_nx, seqP_rt, endP_rt, endP_nx, mPopAt, ok_bnd, ok_ret, ok_app2, ok_app1, ok_appN, ok_oVar, ok_vVar, ok_mVar, ok_k1, ok_k2, ok_kN, ok_oCons, ok_mCons, ok_call, okO_some, res_val, res_slot, resAll_nil, resAll_cons, resC_some, slotV_shr, slotV_own, deref_ref, deref_int, deref_list, deref_tup, deref_str, deref_bool, deref_dict, deref_non, deS_lst, fz_lst, fz_dct, List.getElem?_cons_zero, List.getElem?_cons_succ, ix_list_i, ix_tup_i, at0, at1, at2, at3, oS_some, ok_frz_sh, ok_frz_lst, ok_frz_dct, eq_ii, eq_ss, ok_asB_b, ok_asB'_b, ne_ii, ne_ss, ok_chkL, recv, ok_onL, List.map_cons, List.length_cons, List.length_nil, ixN0, List.eraseIdx_cons_zero, ok_mStore, RV.slot, List.set_cons_zero, List.set_cons_succ, ok_mSetIx, put_list, Option.map_some, add_ii, sub_ii, int_i, ok_mIf, ok_mAnd, ok_mOr, ok_mNot, ge_ii, gt_ii, lt_ii, le_ii, len_list, len_tup, list_list, list_tup, Nat.zero_add, Nat.reduceAdd]
  refine ⟨ms, rfl, g2, g3, by simpa using g4, g5 (.inr fun z => ?_), g1⟩
  rw [z] at e3
  simp at e3
  omega
end K02

namespace K02
open PySem hiding ret
open PySem.Spec L2 PV
/-! ### names -/
theorem is_name_a {S : List MO} : F_is_name [.str "a"] S = .ok (.sh (.bool true)) S := by kernel_rfl
theorem is_name_b {S : List MO} : F_is_name [.str "b"] S = .ok (.sh (.bool true)) S := by kernel_rfl
theorem is_name_c {S : List MO} : F_is_name [.str "c1"] S = .ok (.sh (.bool true)) S := by kernel_rfl
theorem is_name_d {S : List MO} : F_is_name [.str "d"] S = .ok (.sh (.bool true)) S := by kernel_rfl
theorem is_name_z {S : List MO} : F_is_name [.str "zed"] S = .ok (.sh (.bool true)) S := by kernel_rfl
theorem is_name_m {S : List MO} : F_is_name [.str "m9"] S = .ok (.sh (.bool true)) S := by kernel_rfl
theorem is_name_n {S : List MO} : F_is_name [.str "nobody"] S = .ok (.sh (.bool true)) S := by kernel_rfl
theorem is_name_ok {S : List MO} {x : Str} (h : x ∈ six ∨ x = "nobody") : F_is_name [.str x] S = .ok (.sh (.bool true)) S := by
  rcases h with h | rfl
  · have h' : x = "a" ∨ x = "b" ∨ x = "c1" ∨ x = "d" ∨ x = "zed" ∨ x = "m9" := by simpa [six] using h
    rcases h' with rfl | rfl | rfl | rfl | rfl | rfl
    · exact is_name_a
    · exact is_name_b
    · exact is_name_c
    · exact is_name_d
    · exact is_name_z
    · exact is_name_m
  · exact is_name_n
theorem is_list_l {S : List MO} {ds : List Val} : F_is_list [.list ds] S = .ok (.sh (.bool true)) S := rfl
theorem is_list_t {S : List MO} {ds : List Val} : F_is_list [.tup ds] S = .ok (.sh (.bool true)) S := rfl
theorem is_list_d {S : List MO} {ds : List (Val × Val)} : F_is_list [.dict ds] S = .ok (.sh (.bool false)) S := rfl
theorem is_list_s {S : List MO} {x : Str} : F_is_list [.str x] S = .ok (.sh (.bool false)) S := rfl
theorem is_list_i {S : List MO} {x : Int} : F_is_list [.int x] S = .ok (.sh (.bool false)) S := rfl
theorem is_list_b {S : List MO} {x : Bool} : F_is_list [.bool x] S = .ok (.sh (.bool false)) S := rfl
theorem is_list_n {S : List MO} : F_is_list [.none] S = .ok (.sh (.bool false)) S := rfl
theorem is_integer_i {S : List MO} {x : Int} : F_is_integer [.int x] S = .ok (.sh (.bool true)) S := rfl
theorem is_integer_b {S : List MO} {x : Bool} : F_is_integer [.bool x] S = .ok (.sh (.bool false)) S := rfl
theorem is_integer_s {S : List MO} {x : Str} : F_is_integer [.str x] S = .ok (.sh (.bool false)) S := rfl
theorem is_integer_n {S : List MO} : F_is_integer [.none] S = .ok (.sh (.bool false)) S := rfl
theorem is_integer_l {S : List MO} {ds : List Val} : F_is_integer [.list ds] S = .ok (.sh (.bool false)) S := rfl
theorem is_integer_d {S : List MO} {ds : List (Val × Val)} : F_is_integer [.dict ds] S = .ok (.sh (.bool false)) S := rfl
theorem vins_strs (x : Str) : ∀ a : List Str, vins (.str x) (a.map .str) = some (a.map fun y => y == x)
  | [] => rfl
  | y :: a => by
    show vins (.str x) (.str y :: a.map .str) = _
    rw [vins, vins_strs x a]
    rfl
theorem any_eq (x : Str) (a : List Str) : (a.map fun y => y == x).any id = decide (x ∈ a) := by
  rw [List.any_map, Bool.eq_iff_iff]
  simp
theorem in_strs (x : Str) (a : List Str) (neg : Bool) : fIn neg (.str x) (.list (a.map .str)) = some (.sh (.bool (if neg then !decide (x ∈ a) else decide (x ∈ a)))) := by
  unfold fIn vin
  dsimp only
  rw [if_pos (Nat.le_trans (vdeps_strs a) (by decide)), vins_strs]
  show some (RV.sh (.bool (if neg then !((a.map fun y => y == x).any id) else (a.map fun y => y == x).any id))) = _
  rw [any_eq]
theorem fok_of {o : FOut} {r : RV} {S : List MO} {P : RV → List MO → Prop} (e : o = .ok r S) (h : P r S) : FOk o P := by
  subst e; exact h
theorem ok_unpack2 {t u : RV → M Unit} {a b : Val} {st : State} {P : Unit → State → Prop} : Ok (mUnpack 2 (tCons t (tCons u tNil)) (.sh (.tup [a, b])) st) P ↔ Ok (t (.sh a) st) fun _ s => Ok (u (.sh b) s) P := by
  show Ok (bnd (t (.sh a)) (fun _ => bnd (u (.sh b)) fun _ => ret ()) st) P ↔ _
  rw [ok_bnd]
  refine iff_of_eq (congrArg _ (funext fun _ => funext fun s => propext ?_))
  rw [ok_bnd]
  exact iff_of_eq (congrArg _ (funext fun _ => funext fun s => propext ok_ret))
def okName (x : Str) : Prop := x ∈ six ∨ x = "nobody"
theorem ch_loop {S : List MO} {s0 : PV.Slot} : ∀ (xs found : List Str) (i : Nat) (s2 s3 : PV.Slot) (P : Fl → State → Prop), (∀ x ∈ xs, okName x) → (found ++ xs).Nodup → found.length + xs.length < 1000 →
    (∀ a b : PV.Slot, P .nx ⟨[s0, .own (.lst ((found ++ xs).map .str)), a, b], S⟩) →
    Ok (mFor (mUnpack 2 (tCons (mStore 2) (tCons (mStore 3) tNil))) l1b_checked_hands (enumV i (xs.map .str)) ⟨[s0, .own (.lst (found.map .str)), s2, s3], S⟩) P
  | [], found, i, s2, s3, P, _, _, _, k => by
    show Ok (mFor _ _ [] _) P
    rw [ok_for_nil]
    have := k s2 s3
    rw [List.append_nil] at this
    exact this
  | x :: xs, found, i, s2, s3, P, hx, nd, hl, k => by
    show Ok (mFor _ _ (.tup [.int i, .str x] :: enumV (i + 1) (xs.map .str)) _) P
    rw [ok_for_cons, ok_unpack2]
    simp only [ok_mStore, RV.slot, List.set_cons_zero, List.set_cons_succ]
    unfold l1b_checked_hands
    simp only [List.length_cons] at hl
    have hno : x ∉ found := fun z => by
      rw [List.nodup_append] at nd
      exact nd.2.2 x z x List.mem_cons_self rfl
    simp only [ok_seq, seqP_nx, seqP_rt, endP_rt, endP_nx, mPopAt, ok_bnd, ok_ret, ok_app2, ok_app1, ok_appN, ok_oVar, ok_vVar, ok_mVar, ok_k1, ok_k2, ok_kN, ok_oCons, ok_mCons, ok_call, okO_some, res_val, res_slot, resAll_nil, resAll_cons, resC_some, slotV_shr, slotV_own, deref_ref, deref_int, deref_list, deref_tup, deref_str, deref_bool, deref_dict, deref_non, deS_lst, fz_lst, fz_dct, List.getElem?_cons_zero, List.getElem?_cons_succ, ix_list_i, ix_tup_i, at0, at1, at2, at3, oS_some, ok_frz_sh, ok_frz_lst, ok_frz_dct, eq_ii, eq_ss, ok_asB_b, ok_asB'_b, ne_ii, ne_ss, ok_chkL, recv, ok_onL, List.map_cons, List.length_cons, List.length_nil, ixN0, List.eraseIdx_cons_zero, ok_mStore, RV.slot, List.set_cons_zero, List.set_cons_succ, ok_mSetIx, put_list, Option.map_some, add_ii, sub_ii, int_i, ok_mIf, ok_mAnd, ok_mOr, ok_mNot, ge_ii, gt_ii, lt_ii, le_ii, len_list, len_tup, list_list, list_tup, Nat.zero_add, Nat.reduceAdd]
    refine fok_of (is_name_ok (hx x List.mem_cons_self)) ?_
    simp only [ok_seq, seqP_nx, seqP_rt, endP_rt, endP_nx, mPopAt, ok_bnd, ok_ret, ok_app2, ok_app1, ok_appN, ok_oVar, ok_vVar, ok_mVar, ok_k1, ok_k2, ok_kN, ok_oCons, ok_mCons, ok_call, okO_some, res_val, res_slot, resAll_nil, resAll_cons, resC_some, slotV_shr, slotV_own, deref_ref, deref_int, deref_list, deref_tup, deref_str, deref_bool, deref_dict, deref_non, deS_lst, fz_lst, fz_dct, List.getElem?_cons_zero, List.getElem?_cons_succ, ix_list_i, ix_tup_i, at0, at1, at2, at3, oS_some, ok_frz_sh, ok_frz_lst, ok_frz_dct, eq_ii, eq_ss, ok_asB_b, ok_asB'_b, ne_ii, ne_ss, ok_chkL, recv, ok_onL, List.map_cons, List.length_cons, List.length_nil, ixN0, List.eraseIdx_cons_zero, ok_mStore, RV.slot, List.set_cons_zero, List.set_cons_succ, ok_mSetIx, put_list, Option.map_some, add_ii, sub_ii, int_i, ok_mIf, ok_mAnd, ok_mOr, ok_mNot, ge_ii, gt_ii, lt_ii, le_ii, len_list, len_tup, list_list, list_tup, Nat.zero_add, Nat.reduceAdd, in_strs, decide_eq_false hno]
    unfold mApp
    simp only [ok_seq, seqP_nx, seqP_rt, endP_rt, endP_nx, mPopAt, ok_bnd, ok_ret, ok_app2, ok_app1, ok_appN, ok_oVar, ok_vVar, ok_mVar, ok_k1, ok_k2, ok_kN, ok_oCons, ok_mCons, ok_call, okO_some, res_val, res_slot, resAll_nil, resAll_cons, resC_some, slotV_shr, slotV_own, deref_ref, deref_int, deref_list, deref_tup, deref_str, deref_bool, deref_dict, deref_non, deS_lst, fz_lst, fz_dct, List.getElem?_cons_zero, List.getElem?_cons_succ, ix_list_i, ix_tup_i, at0, at1, at2, at3, oS_some, ok_frz_sh, ok_frz_lst, ok_frz_dct, eq_ii, eq_ss, ok_asB_b, ok_asB'_b, ne_ii, ne_ss, ok_chkL, recv, ok_onL, List.map_cons, List.length_cons, List.length_nil, ixN0, List.eraseIdx_cons_zero, ok_mStore, RV.slot, List.set_cons_zero, List.set_cons_succ, ok_mSetIx, put_list, Option.map_some, add_ii, sub_ii, int_i, ok_mIf, ok_mAnd, ok_mOr, ok_mNot, ge_ii, gt_ii, lt_ii, le_ii, len_list, len_tup, list_list, list_tup, Nat.zero_add, Nat.reduceAdd, List.length_map]
    rw [if_neg (by decide)]
    rw [if_neg (by decide)]
    rw [if_pos (by omega)]
    have e : found.map Val.str ++ [Val.str x] = (found ++ [x]).map Val.str := by simp
    simp only [ok_seq, seqP_nx, seqP_rt, endP_rt, endP_nx, mPopAt, ok_bnd, ok_ret, ok_app2, ok_app1, ok_appN, ok_oVar, ok_vVar, ok_mVar, ok_k1, ok_k2, ok_kN, ok_oCons, ok_mCons, ok_call, okO_some, res_val, res_slot, resAll_nil, resAll_cons, resC_some, slotV_shr, slotV_own, deref_ref, deref_int, deref_list, deref_tup, deref_str, deref_bool, deref_dict, deref_non, deS_lst, fz_lst, fz_dct, List.getElem?_cons_zero, List.getElem?_cons_succ, ix_list_i, ix_tup_i, at0, at1, at2, at3, oS_some, ok_frz_sh, ok_frz_lst, ok_frz_dct, eq_ii, eq_ss, ok_asB_b, ok_asB'_b, ne_ii, ne_ss, ok_chkL, recv, ok_onL, List.map_cons, List.length_cons, List.length_nil, ixN0, List.eraseIdx_cons_zero, ok_mStore, RV.slot, List.set_cons_zero, List.set_cons_succ, ok_mSetIx, put_list, Option.map_some, add_ii, sub_ii, int_i, ok_mIf, ok_mAnd, ok_mOr, ok_mNot, ge_ii, gt_ii, lt_ii, le_ii, len_list, len_tup, list_list, list_tup, Nat.zero_add, Nat.reduceAdd, e]
    refine ch_loop xs (found ++ [x]) (i + 1) _ _ P (fun y hy => hx y (List.mem_cons_of_mem _ hy)) (by rw [List.append_assoc]; exact nd) (by simp; omega) fun a b => ?_
    rw [List.append_assoc]
    exact k a b
theorem checked_hands_ok {S : List MO} {hs : List Str} (hx : ∀ x ∈ hs, okName x) (nd : hs.Nodup) (h2 : 2 ≤ hs.length) (hl : hs.length ≤ 5) : FOk (F_checked_hands [.list (hs.map .str)] S) fun r S' => r = .fr (.lst ((srtB leS hs).map .str)) ∧ S' = S := by
  unfold F_checked_hands b_checked_hands
  rw [fok_def]
  have e1 : ([.list (hs.map .str)] : List Val).map PV.Slot.shr ++ List.replicate (4 - ([.list (hs.map .str)] : List Val).length) PV.Slot.unb = [.shr (.list (hs.map .str)), .unb, .unb, .unb] := rfl
  rw [e1]
  simp only [ok_seq, seqP_nx, seqP_rt, endP_rt, endP_nx, mPopAt, ok_bnd, ok_ret, ok_app2, ok_app1, ok_appN, ok_oVar, ok_vVar, ok_mVar, ok_k1, ok_k2, ok_kN, ok_oCons, ok_mCons, ok_call, okO_some, res_val, res_slot, resAll_nil, resAll_cons, resC_some, slotV_shr, slotV_own, deref_ref, deref_int, deref_list, deref_tup, deref_str, deref_bool, deref_dict, deref_non, deS_lst, fz_lst, fz_dct, List.getElem?_cons_zero, List.getElem?_cons_succ, ix_list_i, ix_tup_i, at0, at1, at2, at3, oS_some, ok_frz_sh, ok_frz_lst, ok_frz_dct, eq_ii, eq_ss, ok_asB_b, ok_asB'_b, ne_ii, ne_ss, ok_chkL, recv, ok_onL, List.map_cons, List.length_cons, List.length_nil, ixN0, List.eraseIdx_cons_zero, ok_mStore, RV.slot, List.set_cons_zero, List.set_cons_succ, ok_mSetIx, put_list, Option.map_some, add_ii, sub_ii, int_i, ok_mIf, ok_mAnd, ok_mOr, ok_mNot, ge_ii, gt_ii, lt_ii, le_ii, len_list, len_tup, list_list, list_tup, Nat.zero_add, Nat.reduceAdd, itE]
  refine fok_of is_list_l ?_
  simp only [ok_seq, seqP_nx, seqP_rt, endP_rt, endP_nx, mPopAt, ok_bnd, ok_ret, ok_app2, ok_app1, ok_appN, ok_oVar, ok_vVar, ok_mVar, ok_k1, ok_k2, ok_kN, ok_oCons, ok_mCons, ok_call, okO_some, res_val, res_slot, resAll_nil, resAll_cons, resC_some, slotV_shr, slotV_own, deref_ref, deref_int, deref_list, deref_tup, deref_str, deref_bool, deref_dict, deref_non, deS_lst, fz_lst, fz_dct, List.getElem?_cons_zero, List.getElem?_cons_succ, ix_list_i, ix_tup_i, at0, at1, at2, at3, oS_some, ok_frz_sh, ok_frz_lst, ok_frz_dct, eq_ii, eq_ss, ok_asB_b, ok_asB'_b, ne_ii, ne_ss, ok_chkL, recv, ok_onL, List.map_cons, List.length_cons, List.length_nil, ixN0, List.eraseIdx_cons_zero, ok_mStore, RV.slot, List.set_cons_zero, List.set_cons_succ, ok_mSetIx, put_list, Option.map_some, add_ii, sub_ii, int_i, ok_mIf, ok_mAnd, ok_mOr, ok_mNot, ge_ii, gt_ii, lt_ii, le_ii, len_list, len_tup, list_list, list_tup, Nat.zero_add, Nat.reduceAdd]
  rw [if_neg (by decide)]
  have e0 : ([] : List Val) = ([] : List Str).map Val.str := rfl
  rw [e0]
  refine ch_loop hs [] 0 _ _ _ hx (by simpa using nd) (by simp; omega) fun a b => ?_
  rw [List.nil_append]
  simp only [ok_seq, seqP_nx, seqP_rt, endP_rt, endP_nx, mPopAt, ok_bnd, ok_ret, ok_app2, ok_app1, ok_appN, ok_oVar, ok_vVar, ok_mVar, ok_k1, ok_k2, ok_kN, ok_oCons, ok_mCons, ok_call, okO_some, res_val, res_slot, resAll_nil, resAll_cons, resC_some, slotV_shr, slotV_own, deref_ref, deref_int, deref_list, deref_tup, deref_str, deref_bool, deref_dict, deref_non, deS_lst, fz_lst, fz_dct, List.getElem?_cons_zero, List.getElem?_cons_succ, ix_list_i, ix_tup_i, at0, at1, at2, at3, oS_some, ok_frz_sh, ok_frz_lst, ok_frz_dct, eq_ii, eq_ss, ok_asB_b, ok_asB'_b, ne_ii, ne_ss, ok_chkL, recv, ok_onL, List.map_cons, List.length_cons, List.length_nil, ixN0, List.eraseIdx_cons_zero, ok_mStore, RV.slot, List.set_cons_zero, List.set_cons_succ, ok_mSetIx, put_list, Option.map_some, add_ii, sub_ii, int_i, ok_mIf, ok_mAnd, ok_mOr, ok_mNot, ge_ii, gt_ii, lt_ii, le_ii, len_list, len_tup, list_list, list_tup, Nat.zero_add, Nat.reduceAdd, List.length_map]
  rw [if_neg (by simp; omega)]
  simp only [ok_seq, seqP_nx, seqP_rt, endP_rt, endP_nx, mPopAt, ok_bnd, ok_ret, ok_app2, ok_app1, ok_appN, ok_oVar, ok_vVar, ok_mVar, ok_k1, ok_k2, ok_kN, ok_oCons, ok_mCons, ok_call, okO_some, res_val, res_slot, resAll_nil, resAll_cons, resC_some, slotV_shr, slotV_own, deref_ref, deref_int, deref_list, deref_tup, deref_str, deref_bool, deref_dict, deref_non, deS_lst, fz_lst, fz_dct, List.getElem?_cons_zero, List.getElem?_cons_succ, ix_list_i, ix_tup_i, at0, at1, at2, at3, oS_some, ok_frz_sh, ok_frz_lst, ok_frz_dct, eq_ii, eq_ss, ok_asB_b, ok_asB'_b, ne_ii, ne_ss, ok_chkL, recv, ok_onL, List.map_cons, List.length_cons, List.length_nil, ixN0, List.eraseIdx_cons_zero, ok_mStore, RV.slot, List.set_cons_zero, List.set_cons_succ, ok_mSetIx, put_list, Option.map_some, add_ii, sub_ii, int_i, ok_mIf, ok_mAnd, ok_mOr, ok_mNot, ge_ii, gt_ii, lt_ii, le_ii, len_list, len_tup, list_list, list_tup, Nat.zero_add, Nat.reduceAdd, sorted_list (a := hs) (by omega)]
  exact ⟨trivial, trivial⟩
end K02

namespace K02
open PySem hiding ret
open PySem.Spec L2 PV
theorem ok_vAnd_t {m n : M Val} {st : State} {P : Val → State → Prop} : Ok (vAnd m n st) P ↔ Ok (m st) fun d s => match d with
    | .bool true => Ok (n s) P
    | .bool false => P (.bool false) s
    | _ => False := by
  unfold vAnd
  rw [ok_bnd]
  refine iff_of_eq (congrArg _ (funext fun d => funext fun s => propext ?_))
  cases d with
  | bool b => cases b <;> exact Iff.rfl
  | _ => exact Iff.rfl
theorem is_hand_of_ok {S : List MO} {x : Str} {hs : List Str} (hx : okName x) : FOk (F_is_hand_of [.str x, .list (hs.map .str)] S) fun r S' => r = .sh (.bool (decide (x ∈ hs))) ∧ S' = S := by
  unfold F_is_hand_of b_is_hand_of
  rw [fok_def]
  have e1 : ([.str x, .list (hs.map .str)] : List Val).map PV.Slot.shr ++ List.replicate (2 - ([.str x, .list (hs.map .str)] : List Val).length) PV.Slot.unb = [.shr (.str x), .shr (.list (hs.map .str))] := rfl
  rw [e1]
  simp only [ok_seq, seqP_nx, seqP_rt, endP_rt, endP_nx, mPopAt, ok_bnd, ok_ret, ok_app2, ok_app1, ok_appN, ok_oVar, ok_vVar, ok_mVar, ok_k1, ok_k2, ok_kN, ok_oCons, ok_mCons, ok_call, okO_some, res_val, res_slot, resAll_nil, resAll_cons, resC_some, slotV_shr, slotV_own, deref_ref, deref_int, deref_list, deref_tup, deref_str, deref_bool, deref_dict, deref_non, deS_lst, fz_lst, fz_dct, List.getElem?_cons_zero, List.getElem?_cons_succ, ix_list_i, ix_tup_i, at0, at1, at2, at3, oS_some, ok_frz_sh, ok_frz_lst, ok_frz_dct, eq_ii, eq_ss, ok_asB_b, ok_asB'_b, ne_ii, ne_ss, ok_chkL, recv, ok_onL, List.map_cons, List.length_cons, List.length_nil, ixN0, List.eraseIdx_cons_zero, ok_mStore, RV.slot, List.set_cons_zero, List.set_cons_succ, ok_mSetIx, put_list, Option.map_some, add_ii, sub_ii, int_i, ok_mIf, ok_mAnd, ok_mOr, ok_mNot, ge_ii, gt_ii, lt_ii, le_ii, len_list, len_tup, list_list, list_tup, Nat.zero_add, Nat.reduceAdd, ok_vAnd_t]
  refine fok_of (is_name_ok hx) ?_
  simp only [ok_seq, seqP_nx, seqP_rt, endP_rt, endP_nx, mPopAt, ok_bnd, ok_ret, ok_app2, ok_app1, ok_appN, ok_oVar, ok_vVar, ok_mVar, ok_k1, ok_k2, ok_kN, ok_oCons, ok_mCons, ok_call, okO_some, res_val, res_slot, resAll_nil, resAll_cons, resC_some, slotV_shr, slotV_own, deref_ref, deref_int, deref_list, deref_tup, deref_str, deref_bool, deref_dict, deref_non, deS_lst, fz_lst, fz_dct, List.getElem?_cons_zero, List.getElem?_cons_succ, ix_list_i, ix_tup_i, at0, at1, at2, at3, oS_some, ok_frz_sh, ok_frz_lst, ok_frz_dct, eq_ii, eq_ss, ok_asB_b, ok_asB'_b, ne_ii, ne_ss, ok_chkL, recv, ok_onL, List.map_cons, List.length_cons, List.length_nil, ixN0, List.eraseIdx_cons_zero, ok_mStore, RV.slot, List.set_cons_zero, List.set_cons_succ, ok_mSetIx, put_list, Option.map_some, add_ii, sub_ii, int_i, ok_mIf, ok_mAnd, ok_mOr, ok_mNot, ge_ii, gt_ii, lt_ii, le_ii, len_list, len_tup, list_list, list_tup, Nat.zero_add, Nat.reduceAdd, in_strs]
  exact ⟨by rw [if_neg (by decide)], trivial⟩
theorem ok_dc_nil {vs : List Nat} {t : RV → M Unit} {c : M Bool} {k e : M Val} {acc : List (Val × Val)} {st : State} {P : List (Val × Val) → State → Prop} : Ok (mDcGo vs t c k e [] acc st) P ↔ P acc (wipeS vs st) := Iff.rfl
theorem ok_dc_cons {vs : List Nat} {t : RV → M Unit} {c : M Bool} {k e : M Val} {d : Val} {ds : List Val} {acc : List (Val × Val)} {st : State} {P : List (Val × Val) → State → Prop} :
    Ok (mDcGo vs t c k e (d :: ds) acc st) P ↔ Ok (t (.sh d) (wipeS vs st)) fun _ s1 => Ok (c s1) fun b s2 => if b = true then Ok (k s2) fun x s3 => Ok (e s3) fun y s4 => OkO x.key fun _ => Ok (mDcGo vs t c k e ds (dput acc x y) s4) P else Ok (mDcGo vs t c k e ds acc s2) P := by
  show Ok (bnd (t (.sh d)) _ (wipeS vs st)) P ↔ _
  rw [ok_bnd]
  refine iff_of_eq (congrArg _ (funext fun u => funext fun s1 => propext ?_))
  rw [ok_bnd]
  refine iff_of_eq (congrArg _ (funext fun b => funext fun s2 => propext ?_))
  cases b with
  | false => rw [if_neg Bool.false_ne_true, if_neg Bool.false_ne_true]
  | true =>
    rw [if_pos rfl, if_pos rfl, ok_bnd]
    refine iff_of_eq (congrArg _ (funext fun x => funext fun s3 => propext ?_))
    rw [ok_bnd]
    refine iff_of_eq (congrArg _ (funext fun y => funext fun s4 => propext ?_))
    cases x.key <;> exact Iff.rfl
theorem im_all {S : List MO} {hs : List Str} {s0 s2 s3 : PV.Slot} : ∀ (xs : List Str) (acc : List Val) (s4 : PV.Slot) (P : List Val → State → Prop), (∀ x ∈ xs, okName x ∧ x ∈ hs) →
    P (acc ++ xs.map fun _ => .bool true) ⟨[s0, .shr (.list (hs.map .str)), s2, s3, .unb], S⟩ →
    Ok (mLcGo [4] (mStore 4) (ret true) k1e_is_map (xs.map .str) acc ⟨[s0, .shr (.list (hs.map .str)), s2, s3, s4], S⟩) P
  | [], acc, s4, P, _, k => by
    rw [List.map_nil, ok_lc_nil]
    rw [List.map_nil, List.append_nil] at k
    exact k
  | x :: xs, acc, s4, P, hx, k => by
    rw [List.map_cons, ok_lc_cons]
    have ew : wipeS [4] ⟨[s0, .shr (.list (hs.map .str)), s2, s3, s4], S⟩ = ⟨[s0, .shr (.list (hs.map .str)), s2, s3, .unb], S⟩ := rfl
    rw [ew]
    unfold k1e_is_map
    simp only [ok_seq, seqP_nx, seqP_rt, endP_rt, endP_nx, mPopAt, ok_bnd, ok_ret, ok_app2, ok_app1, ok_appN, ok_oVar, ok_vVar, ok_mVar, ok_k1, ok_k2, ok_kN, ok_oCons, ok_mCons, ok_call, okO_some, res_val, res_slot, resAll_nil, resAll_cons, resC_some, slotV_shr, slotV_own, deref_ref, deref_int, deref_list, deref_tup, deref_str, deref_bool, deref_dict, deref_non, deS_lst, fz_lst, fz_dct, List.getElem?_cons_zero, List.getElem?_cons_succ, ix_list_i, ix_tup_i, at0, at1, at2, at3, oS_some, ok_frz_sh, ok_frz_lst, ok_frz_dct, eq_ii, eq_ss, ok_asB_b, ok_asB'_b, ne_ii, ne_ss, ok_chkL, recv, ok_onL, List.map_cons, List.length_cons, List.length_nil, ixN0, List.eraseIdx_cons_zero, ok_mStore, RV.slot, List.set_cons_zero, List.set_cons_succ, ok_mSetIx, put_list, Option.map_some, add_ii, sub_ii, int_i, ok_mIf, ok_mAnd, ok_mOr, ok_mNot, ge_ii, gt_ii, lt_ii, le_ii, len_list, len_tup, list_list, list_tup, Nat.zero_add, Nat.reduceAdd, if_true]
    obtain ⟨h1, h2⟩ := hx x List.mem_cons_self
    refine (is_hand_of_ok h1).mono fun r S' ⟨er, es⟩ => ?_
    subst er es
    rw [decide_eq_true h2]
    simp only [ok_seq, seqP_nx, seqP_rt, endP_rt, endP_nx, mPopAt, ok_bnd, ok_ret, ok_app2, ok_app1, ok_appN, ok_oVar, ok_vVar, ok_mVar, ok_k1, ok_k2, ok_kN, ok_oCons, ok_mCons, ok_call, okO_some, res_val, res_slot, resAll_nil, resAll_cons, resC_some, slotV_shr, slotV_own, deref_ref, deref_int, deref_list, deref_tup, deref_str, deref_bool, deref_dict, deref_non, deS_lst, fz_lst, fz_dct, List.getElem?_cons_zero, List.getElem?_cons_succ, ix_list_i, ix_tup_i, at0, at1, at2, at3, oS_some, ok_frz_sh, ok_frz_lst, ok_frz_dct, eq_ii, eq_ss, ok_asB_b, ok_asB'_b, ne_ii, ne_ss, ok_chkL, recv, ok_onL, List.map_cons, List.length_cons, List.length_nil, ixN0, List.eraseIdx_cons_zero, ok_mStore, RV.slot, List.set_cons_zero, List.set_cons_succ, ok_mSetIx, put_list, Option.map_some, add_ii, sub_ii, int_i, ok_mIf, ok_mAnd, ok_mOr, ok_mNot, ge_ii, gt_ii, lt_ii, le_ii, len_list, len_tup, list_list, list_tup, Nat.zero_add, Nat.reduceAdd]
    refine im_all xs _ _ P (fun y hy => hx y (List.mem_cons_of_mem _ hy)) ?_
    rw [List.append_assoc]
    exact k
theorem dput_keys {k d : Val} {kvs : List (Val × Val)} (h : dhas kvs k = false) : dput kvs k d = kvs ++ [(k, d)] := by
  unfold dput
  rw [h, if_neg Bool.false_ne_true]
theorem dhas_strs {x : Str} {d : Val} : ∀ xs : List Str, dhas (xs.map fun y => (Val.str y, d)) (.str x) = decide (x ∈ xs)
  | [] => rfl
  | y :: xs => by
    show (kEq (.str y) (.str x) || dhas (xs.map fun y => (Val.str y, d)) (.str x)) = _
    rw [dhas_strs xs, kEq_ss]
    by_cases h : y = x
    · simp [h]
    · simp [h, Ne.symm h]
theorem im_dict {S : List MO} {s0 s1 s2 s3 : PV.Slot} : ∀ (xs done : List Str) (s4 : PV.Slot) (P : List (Val × Val) → State → Prop), (done ++ xs).Nodup →
    P ((done ++ xs).map fun y => (Val.str y, Val.bool true)) ⟨[s0, s1, s2, s3, .unb], S⟩ →
    Ok (mDcGo [4] (mStore 4) (ret true) k2k_is_map k3e_is_map (xs.map .str) (done.map fun y => (Val.str y, Val.bool true)) ⟨[s0, s1, s2, s3, s4], S⟩) P
  | [], done, s4, P, _, k => by
    rw [List.map_nil, ok_dc_nil]
    rw [List.append_nil] at k
    exact k
  | x :: xs, done, s4, P, nd, k => by
    rw [List.map_cons, ok_dc_cons]
    have ew : wipeS [4] ⟨[s0, s1, s2, s3, s4], S⟩ = ⟨[s0, s1, s2, s3, .unb], S⟩ := rfl
    rw [ew]
    unfold k2k_is_map k3e_is_map
    have hno : x ∉ done := fun z => by
      rw [List.nodup_append] at nd
      exact nd.2.2 x z x List.mem_cons_self rfl
    simp only [ok_seq, seqP_nx, seqP_rt, endP_rt, endP_nx, mPopAt, ok_bnd, ok_ret, ok_app2, ok_app1, ok_appN, ok_oVar, ok_vVar, ok_mVar, ok_k1, ok_k2, ok_kN, ok_oCons, ok_mCons, ok_call, okO_some, res_val, res_slot, resAll_nil, resAll_cons, resC_some, slotV_shr, slotV_own, deref_ref, deref_int, deref_list, deref_tup, deref_str, deref_bool, deref_dict, deref_non, deS_lst, fz_lst, fz_dct, List.getElem?_cons_zero, List.getElem?_cons_succ, ix_list_i, ix_tup_i, at0, at1, at2, at3, oS_some, ok_frz_sh, ok_frz_lst, ok_frz_dct, eq_ii, eq_ss, ok_asB_b, ok_asB'_b, ne_ii, ne_ss, ok_chkL, recv, ok_onL, List.map_cons, List.length_cons, List.length_nil, ixN0, List.eraseIdx_cons_zero, ok_mStore, RV.slot, List.set_cons_zero, List.set_cons_succ, ok_mSetIx, put_list, Option.map_some, add_ii, sub_ii, int_i, ok_mIf, ok_mAnd, ok_mOr, ok_mNot, ge_ii, gt_ii, lt_ii, le_ii, len_list, len_tup, list_list, list_tup, Nat.zero_add, Nat.reduceAdd, if_true, Val.key]
    rw [dput_keys (by rw [dhas_strs, decide_eq_false hno])]
    have e : (done.map fun y => (Val.str y, Val.bool true)) ++ [(Val.str x, Val.bool true)] = (done ++ [x]).map fun y => (Val.str y, Val.bool true) := by simp
    rw [e]
    refine im_dict xs (done ++ [x]) _ P (by rw [List.append_assoc]; exact nd) ?_
    rw [List.append_assoc]
    exact k
theorem allV_true : ∀ xs : List Str, fAll [.list (xs.map fun _ => .bool true)] = some (.sh (.bool true)) := by
  intro xs
  have e : ∀ xs : List Str, blsOf (xs.map fun _ => .bool true) = some (xs.map fun _ => true) := by
    intro xs
    induction xs with
    | nil => rfl
    | cons x xs ih =>
      show (blsOf (xs.map fun _ => .bool true)).map (true :: ·) = _
      rw [ih]; rfl
  show (blsOf _).map (fun bs => RV.sh (.bool (bs.all id))) = _
  rw [e]
  simp
/-- one hand of a map, looked at -/
theorem im_step {S : List MO} {hs : List Str} {m : List (Str × List Str)} {h : Str} {v : List Str} {s3 s4 : PV.Slot} {P : Fl → State → Prop} (nd : (m.map (·.1)).Nodup) (hm : (h, v) ∈ m) (hv : v.Nodup ∧ h ∈ v ∧ ∀ x ∈ v, x ∈ hs) (hx : ∀ x ∈ hs, okName x)
    (k : ∀ a b : PV.Slot, P .nx ⟨[.shr (.dict (dictV m)), .shr (.list (hs.map .str)), .shr (.str h), a, b], S⟩) :
    Ok (l4b_is_map ⟨[.shr (.dict (dictV m)), .shr (.list (hs.map .str)), .shr (.str h), s3, s4], S⟩) P := by
  unfold l4b_is_map
  have eg : dget (dictV m) (.str h) = some (.list (v.map .str)) := dget_mem nd hm
  have e1 : fGet1 (.dict (dictV m)) (.str h) = some (.sh (.list (v.map .str))) := by
    show some (RV.sh ((dget (dictV m) (.str h)).getD .none)) = _
    rw [eg]; rfl
  unfold mGet1
  simp only [ok_seq, seqP_nx, seqP_rt, endP_rt, endP_nx, mPopAt, ok_bnd, ok_ret, ok_app2, ok_app1, ok_appN, ok_oVar, ok_vVar, ok_mVar, ok_k1, ok_k2, ok_kN, ok_oCons, ok_mCons, ok_call, okO_some, res_val, res_slot, resAll_nil, resAll_cons, resC_some, slotV_shr, slotV_own, deref_ref, deref_int, deref_list, deref_tup, deref_str, deref_bool, deref_dict, deref_non, deS_lst, fz_lst, fz_dct, List.getElem?_cons_zero, List.getElem?_cons_succ, ix_list_i, ix_tup_i, at0, at1, at2, at3, oS_some, ok_frz_sh, ok_frz_lst, ok_frz_dct, eq_ii, eq_ss, ok_asB_b, ok_asB'_b, ne_ii, ne_ss, ok_chkL, recv, ok_onL, List.map_cons, List.length_cons, List.length_nil, ixN0, List.eraseIdx_cons_zero, ok_mStore, RV.slot, List.set_cons_zero, List.set_cons_succ, ok_mSetIx, put_list, Option.map_some, add_ii, sub_ii, int_i, ok_mIf, ok_mAnd, ok_mOr, ok_mNot, ge_ii, gt_ii, lt_ii, le_ii, len_list, len_tup, list_list, list_tup, Nat.zero_add, Nat.reduceAdd, chkR, isD, if_true, e1]
  refine fok_of is_list_l ?_
  simp only [ok_seq, seqP_nx, seqP_rt, endP_rt, endP_nx, mPopAt, ok_bnd, ok_ret, ok_app2, ok_app1, ok_appN, ok_oVar, ok_vVar, ok_mVar, ok_k1, ok_k2, ok_kN, ok_oCons, ok_mCons, ok_call, okO_some, res_val, res_slot, resAll_nil, resAll_cons, resC_some, slotV_shr, slotV_own, deref_ref, deref_int, deref_list, deref_tup, deref_str, deref_bool, deref_dict, deref_non, deS_lst, fz_lst, fz_dct, List.getElem?_cons_zero, List.getElem?_cons_succ, ix_list_i, ix_tup_i, at0, at1, at2, at3, oS_some, ok_frz_sh, ok_frz_lst, ok_frz_dct, eq_ii, eq_ss, ok_asB_b, ok_asB'_b, ne_ii, ne_ss, ok_chkL, recv, ok_onL, List.map_cons, List.length_cons, List.length_nil, ixN0, List.eraseIdx_cons_zero, ok_mStore, RV.slot, List.set_cons_zero, List.set_cons_succ, ok_mSetIx, put_list, Option.map_some, add_ii, sub_ii, int_i, ok_mIf, ok_mAnd, ok_mOr, ok_mNot, ge_ii, gt_ii, lt_ii, le_ii, len_list, len_tup, list_list, list_tup, Nat.zero_add, Nat.reduceAdd]
  rw [if_neg (by decide)]
  simp only [ok_seq, seqP_nx, seqP_rt, endP_rt, endP_nx, mPopAt, ok_bnd, ok_ret, ok_app2, ok_app1, ok_appN, ok_oVar, ok_vVar, ok_mVar, ok_k1, ok_k2, ok_kN, ok_oCons, ok_mCons, ok_call, okO_some, res_val, res_slot, resAll_nil, resAll_cons, resC_some, slotV_shr, slotV_own, deref_ref, deref_int, deref_list, deref_tup, deref_str, deref_bool, deref_dict, deref_non, deS_lst, fz_lst, fz_dct, List.getElem?_cons_zero, List.getElem?_cons_succ, ix_list_i, ix_tup_i, at0, at1, at2, at3, oS_some, ok_frz_sh, ok_frz_lst, ok_frz_dct, eq_ii, eq_ss, ok_asB_b, ok_asB'_b, ne_ii, ne_ss, ok_chkL, recv, ok_onL, List.map_cons, List.length_cons, List.length_nil, ixN0, List.eraseIdx_cons_zero, ok_mStore, RV.slot, List.set_cons_zero, List.set_cons_succ, ok_mSetIx, put_list, Option.map_some, add_ii, sub_ii, int_i, ok_mIf, ok_mAnd, ok_mOr, ok_mNot, ge_ii, gt_ii, lt_ii, le_ii, len_list, len_tup, list_list, list_tup, Nat.zero_add, Nat.reduceAdd, ok_mLc, itA]
  refine im_all v [] _ _ (fun x hx' => ⟨hx x (hv.2.2 x hx'), hv.2.2 x hx'⟩) ?_
  rw [List.nil_append]
  simp only [ok_seq, seqP_nx, seqP_rt, endP_rt, endP_nx, mPopAt, ok_bnd, ok_ret, ok_app2, ok_app1, ok_appN, ok_oVar, ok_vVar, ok_mVar, ok_k1, ok_k2, ok_kN, ok_oCons, ok_mCons, ok_call, okO_some, res_val, res_slot, resAll_nil, resAll_cons, resC_some, slotV_shr, slotV_own, deref_ref, deref_int, deref_list, deref_tup, deref_str, deref_bool, deref_dict, deref_non, deS_lst, fz_lst, fz_dct, List.getElem?_cons_zero, List.getElem?_cons_succ, ix_list_i, ix_tup_i, at0, at1, at2, at3, oS_some, ok_frz_sh, ok_frz_lst, ok_frz_dct, eq_ii, eq_ss, ok_asB_b, ok_asB'_b, ne_ii, ne_ss, ok_chkL, recv, ok_onL, List.map_cons, List.length_cons, List.length_nil, ixN0, List.eraseIdx_cons_zero, ok_mStore, RV.slot, List.set_cons_zero, List.set_cons_succ, ok_mSetIx, put_list, Option.map_some, add_ii, sub_ii, int_i, ok_mIf, ok_mAnd, ok_mOr, ok_mNot, ge_ii, gt_ii, lt_ii, le_ii, len_list, len_tup, list_list, list_tup, Nat.zero_add, Nat.reduceAdd, allV_true]
  rw [if_neg (by decide)]
  have er : restS [4] ⟨[.shr (.dict (dictV m)), .shr (.list (hs.map .str)), .shr (.str h), .shr (.list (v.map .str)), s4], S⟩ ⟨[.shr (.dict (dictV m)), .shr (.list (hs.map .str)), .shr (.str h), .shr (.list (v.map .str)), .unb], S⟩ =
      ⟨[.shr (.dict (dictV m)), .shr (.list (hs.map .str)), .shr (.str h), .shr (.list (v.map .str)), keepS (some s4)], S⟩ := rfl
  rw [er]
  simp only [ok_seq, seqP_nx, seqP_rt, endP_rt, endP_nx, mPopAt, ok_bnd, ok_ret, ok_app2, ok_app1, ok_appN, ok_oVar, ok_vVar, ok_mVar, ok_k1, ok_k2, ok_kN, ok_oCons, ok_mCons, ok_call, okO_some, res_val, res_slot, resAll_nil, resAll_cons, resC_some, slotV_shr, slotV_own, deref_ref, deref_int, deref_list, deref_tup, deref_str, deref_bool, deref_dict, deref_non, deS_lst, fz_lst, fz_dct, List.getElem?_cons_zero, List.getElem?_cons_succ, ix_list_i, ix_tup_i, at0, at1, at2, at3, oS_some, ok_frz_sh, ok_frz_lst, ok_frz_dct, eq_ii, eq_ss, ok_asB_b, ok_asB'_b, ne_ii, ne_ss, ok_chkL, recv, ok_onL, List.map_cons, List.length_cons, List.length_nil, ixN0, List.eraseIdx_cons_zero, ok_mStore, RV.slot, List.set_cons_zero, List.set_cons_succ, ok_mSetIx, put_list, Option.map_some, add_ii, sub_ii, int_i, ok_mIf, ok_mAnd, ok_mOr, ok_mNot, ge_ii, gt_ii, lt_ii, le_ii, len_list, len_tup, list_list, list_tup, Nat.zero_add, Nat.reduceAdd, in_strs, decide_eq_true hv.2.1, ok_mDc, itA]
  rw [if_neg (by decide)]
  refine im_dict v [] _ _ (by simpa using hv.1) ?_
  rw [List.nil_append]
  have el : fLen [.dict (v.map fun y => (Val.str y, Val.bool true))] = some (.sh (.int v.length)) := by
    show some (RV.sh (.int ((v.map fun y => (Val.str y, Val.bool true)).length : Nat))) = _
    rw [List.length_map]
  have er2 : restS [4] ⟨[.shr (.dict (dictV m)), .shr (.list (hs.map .str)), .shr (.str h), .shr (.list (v.map .str)), keepS (some s4)], S⟩ ⟨[.shr (.dict (dictV m)), .shr (.list (hs.map .str)), .shr (.str h), .shr (.list (v.map .str)), .unb], S⟩ =
      ⟨[.shr (.dict (dictV m)), .shr (.list (hs.map .str)), .shr (.str h), .shr (.list (v.map .str)), keepS (some (keepS (some s4)))], S⟩ := rfl
  simp only [ok_seq, seqP_nx, seqP_rt, endP_rt, endP_nx, mPopAt, ok_bnd, ok_ret, ok_app2, ok_app1, ok_appN, ok_oVar, ok_vVar, ok_mVar, ok_k1, ok_k2, ok_kN, ok_oCons, ok_mCons, ok_call, okO_some, res_val, res_slot, resAll_nil, resAll_cons, resC_some, slotV_shr, slotV_own, deref_ref, deref_int, deref_list, deref_tup, deref_str, deref_bool, deref_dict, deref_non, deS_lst, fz_lst, fz_dct, List.getElem?_cons_zero, List.getElem?_cons_succ, ix_list_i, ix_tup_i, at0, at1, at2, at3, oS_some, ok_frz_sh, ok_frz_lst, ok_frz_dct, eq_ii, eq_ss, ok_asB_b, ok_asB'_b, ne_ii, ne_ss, ok_chkL, recv, ok_onL, List.map_cons, List.length_cons, List.length_nil, ixN0, List.eraseIdx_cons_zero, ok_mStore, RV.slot, List.set_cons_zero, List.set_cons_succ, ok_mSetIx, put_list, Option.map_some, add_ii, sub_ii, int_i, ok_mIf, ok_mAnd, ok_mOr, ok_mNot, ge_ii, gt_ii, lt_ii, le_ii, len_list, len_tup, list_list, list_tup, Nat.zero_add, Nat.reduceAdd, el, er2, List.length_map]
  rw [if_neg (by simp)]
  exact k _ _
theorem im_loop {S : List MO} {hs : List Str} {m : List (Str × List Str)} (nd : (m.map (·.1)).Nodup) (hv : ∀ p ∈ m, p.2.Nodup ∧ p.1 ∈ p.2 ∧ ∀ x ∈ p.2, x ∈ hs) (hx : ∀ x ∈ hs, okName x) : ∀ (ks : List Str) (s2 s3 s4 : PV.Slot) (P : Fl → State → Prop), (∀ x ∈ ks, x ∈ m.map (·.1)) →
    (∀ a b c : PV.Slot, P .nx ⟨[.shr (.dict (dictV m)), .shr (.list (hs.map .str)), a, b, c], S⟩) →
    Ok (mFor (mStore 2) l4b_is_map (ks.map .str) ⟨[.shr (.dict (dictV m)), .shr (.list (hs.map .str)), s2, s3, s4], S⟩) P
  | [], s2, s3, s4, P, _, k => by
    rw [List.map_nil, ok_for_nil]
    exact k s2 s3 s4
  | x :: ks, s2, s3, s4, P, hk, k => by
    rw [List.map_cons, ok_for_cons]
    simp only [ok_mStore, RV.slot, List.set_cons_zero, List.set_cons_succ]
    obtain ⟨p, hp, e⟩ := List.mem_map.mp (hk x List.mem_cons_self)
    subst e
    refine im_step nd (v := p.2) hp (hv p hp) hx fun a b => ?_
    exact im_loop nd hv hx ks _ a b P (fun y hy => hk y (List.mem_cons_of_mem _ hy)) k
theorem is_map_ok {S : List MO} {hs : List Str} {m : List (Str × List Str)} (g : GoodM hs m) (ndh : hs.Nodup) (hx : ∀ x ∈ hs, okName x) : FOk (F_is_map [.dict (dictV m), .list (hs.map .str)] S) fun r S' => r = .sh (.bool true) ∧ S' = S := by
  unfold F_is_map b_is_map
  rw [fok_def]
  have e1 : ([.dict (dictV m), .list (hs.map .str)] : List Val).map PV.Slot.shr ++ List.replicate (5 - ([.dict (dictV m), .list (hs.map .str)] : List Val).length) PV.Slot.unb = [.shr (.dict (dictV m)), .shr (.list (hs.map .str)), .unb, .unb, .unb] := rfl
  rw [e1]
  have e2 : fIsi .dict (.dict (dictV m)) = some (.sh (.bool true)) := rfl
  have el : fLen [.dict (dictV m)] = some (.sh (.int hs.length)) := by
    show some (RV.sh (.int ((dictV m).length : Nat))) = _
    have := g.keys.length_eq
    rw [List.length_map] at this
    rw [show (dictV m).length = hs.length by simp [dictV, this]]
  simp only [ok_seq, seqP_nx, seqP_rt, endP_rt, endP_nx, mPopAt, ok_bnd, ok_ret, ok_app2, ok_app1, ok_appN, ok_oVar, ok_vVar, ok_mVar, ok_k1, ok_k2, ok_kN, ok_oCons, ok_mCons, ok_call, okO_some, res_val, res_slot, resAll_nil, resAll_cons, resC_some, slotV_shr, slotV_own, deref_ref, deref_int, deref_list, deref_tup, deref_str, deref_bool, deref_dict, deref_non, deS_lst, fz_lst, fz_dct, List.getElem?_cons_zero, List.getElem?_cons_succ, ix_list_i, ix_tup_i, at0, at1, at2, at3, oS_some, ok_frz_sh, ok_frz_lst, ok_frz_dct, eq_ii, eq_ss, ok_asB_b, ok_asB'_b, ne_ii, ne_ss, ok_chkL, recv, ok_onL, List.map_cons, List.length_cons, List.length_nil, ixN0, List.eraseIdx_cons_zero, ok_mStore, RV.slot, List.set_cons_zero, List.set_cons_succ, ok_mSetIx, put_list, Option.map_some, add_ii, sub_ii, int_i, ok_mIf, ok_mAnd, ok_mOr, ok_mNot, ge_ii, gt_ii, lt_ii, le_ii, len_list, len_tup, list_list, list_tup, Nat.zero_add, Nat.reduceAdd, e2, el, itA, List.length_map]
  rw [if_neg (by decide), if_neg (by simp)]
  refine im_loop (g.keys.nodup_iff.mpr ndh) g.vals hx hs _ _ _ _ (fun x h => g.keys.mem_iff.mpr h) fun a b c => ?_
  simp only [ok_seq, seqP_nx, seqP_rt, endP_rt, endP_nx, mPopAt, ok_bnd, ok_ret, ok_app2, ok_app1, ok_appN, ok_oVar, ok_vVar, ok_mVar, ok_k1, ok_k2, ok_kN, ok_oCons, ok_mCons, ok_call, okO_some, res_val, res_slot, resAll_nil, resAll_cons, resC_some, slotV_shr, slotV_own, deref_ref, deref_int, deref_list, deref_tup, deref_str, deref_bool, deref_dict, deref_non, deS_lst, fz_lst, fz_dct, List.getElem?_cons_zero, List.getElem?_cons_succ, ix_list_i, ix_tup_i, at0, at1, at2, at3, oS_some, ok_frz_sh, ok_frz_lst, ok_frz_dct, eq_ii, eq_ss, ok_asB_b, ok_asB'_b, ne_ii, ne_ss, ok_chkL, recv, ok_onL, List.map_cons, List.length_cons, List.length_nil, ixN0, List.eraseIdx_cons_zero, ok_mStore, RV.slot, List.set_cons_zero, List.set_cons_succ, ok_mSetIx, put_list, Option.map_some, add_ii, sub_ii, int_i, ok_mIf, ok_mAnd, ok_mOr, ok_mNot, ge_ii, gt_ii, lt_ii, le_ii, len_list, len_tup, list_list, list_tup, Nat.zero_add, Nat.reduceAdd]
  exact ⟨trivial, trivial⟩
end K02

namespace K02
open PySem hiding ret
open PySem.Spec L2 PV
theorem srt_perm {a b : List Str} (p : a.Perm b) : srtB leS a = srtB leS b :=
  srtB_eq (le := leS) (fun a b => leL_tot _ _) (fun a b c => leL_tr _ _ _) leS_as ((srtB_perm a).trans p) (srtB_sorted (le := leS) (fun a b => leL_tot _ _) (fun a b c => leL_tr _ _ _) a)
theorem GoodM.perm {hs hs' : List Str} {m : List (Str × List Str)} (g : GoodM hs m) (p : hs.Perm hs') : GoodM hs' m :=
  ⟨g.keys.trans p, fun q hq => ⟨(g.vals q hq).1, (g.vals q hq).2.1, fun x hx => p.mem_iff.mp ((g.vals q hq).2.2 x hx)⟩⟩
theorem GoodM.pl {hs : List Str} {m : List (Str × List Str)} (g : GoodM hs m) : pl m = plainM (srtB leS hs) m := by
  unfold K02.pl
  rw [srt_perm g.keys]
theorem cm_dict {S : List MO} {m : List (Str × List Str)} {s0 s1 s2 s3 s5 : PV.Slot} (f : Fits m) : ∀ (ks : List Str) (done : List (Str × List Str)) (s6 : PV.Slot) (P : List (Val × Val) → State → Prop), (∀ k ∈ ks, k ∈ m.map (·.1)) → (done.map (·.1) ++ ks).Nodup →
    P (dictV (done ++ plainM ks m)) ⟨[s0, s1, s2, s3, .shr (.dict (dictV m)), s5, .unb], S⟩ →
    Ok (mDcGo [6] (mStore 6) (ret true) k1k_checked_maps k2e_checked_maps (ks.map .str) (dictV done) ⟨[s0, s1, s2, s3, .shr (.dict (dictV m)), s5, s6], S⟩) P
  | [], done, s6, P, _, _, k => by
    rw [List.map_nil, ok_dc_nil]
    have e : plainM [] m = [] := rfl
    rw [e, List.append_nil] at k
    exact k
  | x :: ks, done, s6, P, hk, nd, k => by
    rw [List.map_cons, ok_dc_cons]
    have ew : wipeS [6] ⟨[s0, s1, s2, s3, .shr (.dict (dictV m)), s5, s6], S⟩ = ⟨[s0, s1, s2, s3, .shr (.dict (dictV m)), s5, .unb], S⟩ := rfl
    rw [ew]
    unfold k1k_checked_maps k2e_checked_maps
    obtain ⟨p, hp, e⟩ := List.mem_map.mp (hk x List.mem_cons_self)
    subst e
    have eg : dget (dictV m) (.str p.1) = some (.list (p.2.map .str)) := dget_mem (v := p.2) f.nd hp
    have eh : hear m p.1 = p.2 := hear_mem (v := p.2) f.nd hp
    have hno : p.1 ∉ done.map (·.1) := fun z => by
      rw [List.nodup_append] at nd
      exact nd.2.2 _ z _ List.mem_cons_self rfl
    simp only [ok_seq, seqP_nx, seqP_rt, endP_rt, endP_nx, mPopAt, ok_bnd, ok_ret, ok_app2, ok_app1, ok_appN, ok_oVar, ok_vVar, ok_mVar, ok_k1, ok_k2, ok_kN, ok_oCons, ok_mCons, ok_call, okO_some, res_val, res_slot, resAll_nil, resAll_cons, resC_some, slotV_shr, slotV_own, deref_ref, deref_int, deref_list, deref_tup, deref_str, deref_bool, deref_dict, deref_non, deS_lst, fz_lst, fz_dct, List.getElem?_cons_zero, List.getElem?_cons_succ, ix_list_i, ix_tup_i, at0, at1, at2, at3, oS_some, ok_frz_sh, ok_frz_lst, ok_frz_dct, eq_ii, eq_ss, ok_asB_b, ok_asB'_b, ne_ii, ne_ss, ok_chkL, recv, ok_onL, List.map_cons, List.length_cons, List.length_nil, ixN0, List.eraseIdx_cons_zero, ok_mStore, RV.slot, List.set_cons_zero, List.set_cons_succ, ok_mSetIx, put_list, Option.map_some, add_ii, sub_ii, int_i, ok_mIf, ok_mAnd, ok_mOr, ok_mNot, ge_ii, gt_ii, lt_ii, le_ii, len_list, len_tup, list_list, list_tup, Nat.zero_add, Nat.reduceAdd, if_true, ix_dict, eg, sorted_list (f.vals p hp), Val.key]
    rw [dput_new hno]
    refine cm_dict f ks _ _ P (fun y hy => hk y (List.mem_cons_of_mem _ hy)) (by simpa using nd) ?_
    rw [List.append_assoc]
    have e2 : plainM (p.1 :: ks) m = [(p.1, srtB leS p.2)] ++ plainM ks m := by
      show (p.1, srtB leS (hear m p.1)) :: plainM ks m = _
      rw [eh]; rfl
    rw [e2] at k
    exact k
theorem cm_loop {S : List MO} {oh : List Str} {s0 : PV.Slot} (ndh : oh.Nodup) (hl : oh.length ≤ 5) (hx : ∀ x ∈ oh, okName x) (hs : oh = srtB leS oh) : ∀ (ms done : List (List (Str × List Str))) (i : Nat) (s3 s4 s5 s6 : PV.Slot) (P : Fl → State → Prop), (∀ m ∈ ms, GoodM oh m) →
    ((done ++ ms).Pairwise fun a b => eqM (pl a) (pl b) = false) → done.length + ms.length < 1000 →
    (∀ a b c d : PV.Slot, P .nx ⟨[s0, .shr (.list (oh.map .str)), .own (.lst ((done ++ ms).map fun m => .dict (dictV (pl m)))), a, b, c, d], S⟩) →
    Ok (mFor (mUnpack 2 (tCons (mStore 3) (tCons (mStore 4) tNil))) l3b_checked_maps (enumV i (ms.map fun m => .dict (dictV m))) ⟨[s0, .shr (.list (oh.map .str)), .own (.lst (done.map fun m => .dict (dictV (pl m)))), s3, s4, s5, s6], S⟩) P
  | [], done, i, s3, s4, s5, s6, P, _, _, _, k => by
    show Ok (mFor _ _ [] _) P
    rw [ok_for_nil]
    have := k s3 s4 s5 s6
    rw [List.append_nil] at this
    exact this
  | m :: ms, done, i, s3, s4, s5, s6, P, hg, hp, hz, k => by
    show Ok (mFor _ _ (.tup [.int i, .dict (dictV m)] :: enumV (i + 1) (ms.map fun m => .dict (dictV m))) _) P
    rw [ok_for_cons, ok_unpack2]
    simp only [ok_mStore, RV.slot, List.set_cons_zero, List.set_cons_succ]
    unfold l3b_checked_maps
    simp only [List.length_cons] at hz
    have g := hg m List.mem_cons_self
    have f := g.fits ndh hl
    simp only [ok_seq, seqP_nx, seqP_rt, endP_rt, endP_nx, mPopAt, ok_bnd, ok_ret, ok_app2, ok_app1, ok_appN, ok_oVar, ok_vVar, ok_mVar, ok_k1, ok_k2, ok_kN, ok_oCons, ok_mCons, ok_call, okO_some, res_val, res_slot, resAll_nil, resAll_cons, resC_some, slotV_shr, slotV_own, deref_ref, deref_int, deref_list, deref_tup, deref_str, deref_bool, deref_dict, deref_non, deS_lst, fz_lst, fz_dct, List.getElem?_cons_zero, List.getElem?_cons_succ, ix_list_i, ix_tup_i, at0, at1, at2, at3, oS_some, ok_frz_sh, ok_frz_lst, ok_frz_dct, eq_ii, eq_ss, ok_asB_b, ok_asB'_b, ne_ii, ne_ss, ok_chkL, recv, ok_onL, List.map_cons, List.length_cons, List.length_nil, ixN0, List.eraseIdx_cons_zero, ok_mStore, RV.slot, List.set_cons_zero, List.set_cons_succ, ok_mSetIx, put_list, Option.map_some, add_ii, sub_ii, int_i, ok_mIf, ok_mAnd, ok_mOr, ok_mNot, ge_ii, gt_ii, lt_ii, le_ii, len_list, len_tup, list_list, list_tup, Nat.zero_add, Nat.reduceAdd]
    refine (is_map_ok g ndh hx).mono fun r S' ⟨er, es⟩ => ?_
    subst er es
    simp only [ok_seq, seqP_nx, seqP_rt, endP_rt, endP_nx, mPopAt, ok_bnd, ok_ret, ok_app2, ok_app1, ok_appN, ok_oVar, ok_vVar, ok_mVar, ok_k1, ok_k2, ok_kN, ok_oCons, ok_mCons, ok_call, okO_some, res_val, res_slot, resAll_nil, resAll_cons, resC_some, slotV_shr, slotV_own, deref_ref, deref_int, deref_list, deref_tup, deref_str, deref_bool, deref_dict, deref_non, deS_lst, fz_lst, fz_dct, List.getElem?_cons_zero, List.getElem?_cons_succ, ix_list_i, ix_tup_i, at0, at1, at2, at3, oS_some, ok_frz_sh, ok_frz_lst, ok_frz_dct, eq_ii, eq_ss, ok_asB_b, ok_asB'_b, ne_ii, ne_ss, ok_chkL, recv, ok_onL, List.map_cons, List.length_cons, List.length_nil, ixN0, List.eraseIdx_cons_zero, ok_mStore, RV.slot, List.set_cons_zero, List.set_cons_succ, ok_mSetIx, put_list, Option.map_some, add_ii, sub_ii, int_i, ok_mIf, ok_mAnd, ok_mOr, ok_mNot, ge_ii, gt_ii, lt_ii, le_ii, len_list, len_tup, list_list, list_tup, Nat.zero_add, Nat.reduceAdd, ok_mDc, itA]
    rw [if_neg (by decide)]
    refine cm_dict f oh [] _ _ (fun x h => g.keys.mem_iff.mpr h) (by simpa using ndh) ?_
    rw [List.nil_append]
    have epl : plainM oh m = pl m := by rw [g.pl, ← hs]
    rw [epl]
    have em : (done.map fun m => Val.dict (dictV (pl m))) = (done.map pl).map fun m => Val.dict (dictV m) := by rw [List.map_map]; rfl
    have ein := in_maps false (pl m) (done.map pl)
    rw [← em, if_neg Bool.false_ne_true] at ein
    have hb : ((done.map pl).any fun x => eqM x (pl m)) = false := by
      rw [List.any_eq_false]
      intro x hx'
      obtain ⟨d, hd, rfl⟩ := List.mem_map.mp hx'
      rw [List.pairwise_append] at hp
      simpa using hp.2.2 d hd m List.mem_cons_self
    rw [hb] at ein
    have er : restS [6] ⟨[s0, .shr (.list (oh.map .str)), .own (.lst (done.map fun m => .dict (dictV (pl m)))), .shr (.int i), .shr (.dict (dictV m)), s5, s6], S'⟩ ⟨[s0, .shr (.list (oh.map .str)), .own (.lst (done.map fun m => .dict (dictV (pl m)))), .shr (.int i), .shr (.dict (dictV m)), s5, .unb], S'⟩ =
        ⟨[s0, .shr (.list (oh.map .str)), .own (.lst (done.map fun m => .dict (dictV (pl m)))), .shr (.int i), .shr (.dict (dictV m)), s5, keepS (some s6)], S'⟩ := rfl
    rw [er]
    unfold mApp
    simp only [ok_seq, seqP_nx, seqP_rt, endP_rt, endP_nx, mPopAt, ok_bnd, ok_ret, ok_app2, ok_app1, ok_appN, ok_oVar, ok_vVar, ok_mVar, ok_k1, ok_k2, ok_kN, ok_oCons, ok_mCons, ok_call, okO_some, res_val, res_slot, resAll_nil, resAll_cons, resC_some, slotV_shr, slotV_own, deref_ref, deref_int, deref_list, deref_tup, deref_str, deref_bool, deref_dict, deref_non, deS_lst, fz_lst, fz_dct, List.getElem?_cons_zero, List.getElem?_cons_succ, ix_list_i, ix_tup_i, at0, at1, at2, at3, oS_some, ok_frz_sh, ok_frz_lst, ok_frz_dct, eq_ii, eq_ss, ok_asB_b, ok_asB'_b, ne_ii, ne_ss, ok_chkL, recv, ok_onL, List.map_cons, List.length_cons, List.length_nil, ixN0, List.eraseIdx_cons_zero, ok_mStore, RV.slot, List.set_cons_zero, List.set_cons_succ, ok_mSetIx, put_list, Option.map_some, add_ii, sub_ii, int_i, ok_mIf, ok_mAnd, ok_mOr, ok_mNot, ge_ii, gt_ii, lt_ii, le_ii, len_list, len_tup, list_list, list_tup, Nat.zero_add, Nat.reduceAdd, ein, List.length_map]
    rw [if_neg (by decide), if_pos (by omega)]
    have ea : (done.map fun m => Val.dict (dictV (pl m))) ++ [Val.dict (dictV (pl m))] = (done ++ [m]).map fun m => Val.dict (dictV (pl m)) := by simp
    simp only [ok_seq, seqP_nx, seqP_rt, endP_rt, endP_nx, mPopAt, ok_bnd, ok_ret, ok_app2, ok_app1, ok_appN, ok_oVar, ok_vVar, ok_mVar, ok_k1, ok_k2, ok_kN, ok_oCons, ok_mCons, ok_call, okO_some, res_val, res_slot, resAll_nil, resAll_cons, resC_some, slotV_shr, slotV_own, deref_ref, deref_int, deref_list, deref_tup, deref_str, deref_bool, deref_dict, deref_non, deS_lst, fz_lst, fz_dct, List.getElem?_cons_zero, List.getElem?_cons_succ, ix_list_i, ix_tup_i, at0, at1, at2, at3, oS_some, ok_frz_sh, ok_frz_lst, ok_frz_dct, eq_ii, eq_ss, ok_asB_b, ok_asB'_b, ne_ii, ne_ss, ok_chkL, recv, ok_onL, List.map_cons, List.length_cons, List.length_nil, ixN0, List.eraseIdx_cons_zero, ok_mStore, RV.slot, List.set_cons_zero, List.set_cons_succ, ok_mSetIx, put_list, Option.map_some, add_ii, sub_ii, int_i, ok_mIf, ok_mAnd, ok_mOr, ok_mNot, ge_ii, gt_ii, lt_ii, le_ii, len_list, len_tup, list_list, list_tup, Nat.zero_add, Nat.reduceAdd, ea]
    refine cm_loop ndh hl hx hs ms (done ++ [m]) (i + 1) _ _ _ _ P (fun y hy => hg y (List.mem_cons_of_mem _ hy)) (by rw [List.append_assoc]; exact hp) (by simp; omega) fun a b c d => ?_
    rw [List.append_assoc]
    exact k a b c d
theorem checked_maps_ok {S : List MO} {oh : List Str} {ms : List (List (Str × List Str))} (ndh : oh.Nodup) (hl : oh.length ≤ 5) (hx : ∀ x ∈ oh, okName x) (hs : oh = srtB leS oh) (hg : ∀ m ∈ ms, GoodM oh m) (hp : ms.Pairwise fun a b => eqM (pl a) (pl b) = false) (hz : ms.length < 1000) (ne : ms ≠ []) :
    FOk (F_checked_maps [.list (ms.map fun m => .dict (dictV m)), .list (oh.map .str)] S) fun r S' => r = .fr (.lst (ms.map fun m => .dict (dictV (pl m)))) ∧ S' = S := by
  unfold F_checked_maps b_checked_maps
  rw [fok_def]
  have e1 : ([.list (ms.map fun m => .dict (dictV m)), .list (oh.map .str)] : List Val).map PV.Slot.shr ++ List.replicate (7 - ([.list (ms.map fun m => .dict (dictV m)), .list (oh.map .str)] : List Val).length) PV.Slot.unb = [.shr (.list (ms.map fun m => .dict (dictV m))), .shr (.list (oh.map .str)), .unb, .unb, .unb, .unb, .unb] := rfl
  rw [e1]
  simp only [ok_seq, seqP_nx, seqP_rt, endP_rt, endP_nx, mPopAt, ok_bnd, ok_ret, ok_app2, ok_app1, ok_appN, ok_oVar, ok_vVar, ok_mVar, ok_k1, ok_k2, ok_kN, ok_oCons, ok_mCons, ok_call, okO_some, res_val, res_slot, resAll_nil, resAll_cons, resC_some, slotV_shr, slotV_own, deref_ref, deref_int, deref_list, deref_tup, deref_str, deref_bool, deref_dict, deref_non, deS_lst, fz_lst, fz_dct, List.getElem?_cons_zero, List.getElem?_cons_succ, ix_list_i, ix_tup_i, at0, at1, at2, at3, oS_some, ok_frz_sh, ok_frz_lst, ok_frz_dct, eq_ii, eq_ss, ok_asB_b, ok_asB'_b, ne_ii, ne_ss, ok_chkL, recv, ok_onL, List.map_cons, List.length_cons, List.length_nil, ixN0, List.eraseIdx_cons_zero, ok_mStore, RV.slot, List.set_cons_zero, List.set_cons_succ, ok_mSetIx, put_list, Option.map_some, add_ii, sub_ii, int_i, ok_mIf, ok_mAnd, ok_mOr, ok_mNot, ge_ii, gt_ii, lt_ii, le_ii, len_list, len_tup, list_list, list_tup, Nat.zero_add, Nat.reduceAdd, itE]
  refine fok_of is_list_l ?_
  simp only [ok_seq, seqP_nx, seqP_rt, endP_rt, endP_nx, mPopAt, ok_bnd, ok_ret, ok_app2, ok_app1, ok_appN, ok_oVar, ok_vVar, ok_mVar, ok_k1, ok_k2, ok_kN, ok_oCons, ok_mCons, ok_call, okO_some, res_val, res_slot, resAll_nil, resAll_cons, resC_some, slotV_shr, slotV_own, deref_ref, deref_int, deref_list, deref_tup, deref_str, deref_bool, deref_dict, deref_non, deS_lst, fz_lst, fz_dct, List.getElem?_cons_zero, List.getElem?_cons_succ, ix_list_i, ix_tup_i, at0, at1, at2, at3, oS_some, ok_frz_sh, ok_frz_lst, ok_frz_dct, eq_ii, eq_ss, ok_asB_b, ok_asB'_b, ne_ii, ne_ss, ok_chkL, recv, ok_onL, List.map_cons, List.length_cons, List.length_nil, ixN0, List.eraseIdx_cons_zero, ok_mStore, RV.slot, List.set_cons_zero, List.set_cons_succ, ok_mSetIx, put_list, Option.map_some, add_ii, sub_ii, int_i, ok_mIf, ok_mAnd, ok_mOr, ok_mNot, ge_ii, gt_ii, lt_ii, le_ii, len_list, len_tup, list_list, list_tup, Nat.zero_add, Nat.reduceAdd, List.length_map]
  have hpos : 0 < ms.length := List.length_pos_iff.mpr ne
  rw [if_neg (by decide), if_neg (by simp; omega)]
  have e0 : ([] : List Val) = ([] : List (List (Str × List Str))).map fun m => .dict (dictV (pl m)) := rfl
  rw [e0]
  refine cm_loop ndh hl hx hs ms [] 0 _ _ _ _ _ hg (by simpa using hp) (by simp; omega) fun a b c d => ?_
  rw [List.nil_append]
  simp only [ok_seq, seqP_nx, seqP_rt, endP_rt, endP_nx, mPopAt, ok_bnd, ok_ret, ok_app2, ok_app1, ok_appN, ok_oVar, ok_vVar, ok_mVar, ok_k1, ok_k2, ok_kN, ok_oCons, ok_mCons, ok_call, okO_some, res_val, res_slot, resAll_nil, resAll_cons, resC_some, slotV_shr, slotV_own, deref_ref, deref_int, deref_list, deref_tup, deref_str, deref_bool, deref_dict, deref_non, deS_lst, fz_lst, fz_dct, List.getElem?_cons_zero, List.getElem?_cons_succ, ix_list_i, ix_tup_i, at0, at1, at2, at3, oS_some, ok_frz_sh, ok_frz_lst, ok_frz_dct, eq_ii, eq_ss, ok_asB_b, ok_asB'_b, ne_ii, ne_ss, ok_chkL, recv, ok_onL, List.map_cons, List.length_cons, List.length_nil, ixN0, List.eraseIdx_cons_zero, ok_mStore, RV.slot, List.set_cons_zero, List.set_cons_succ, ok_mSetIx, put_list, Option.map_some, add_ii, sub_ii, int_i, ok_mIf, ok_mAnd, ok_mOr, ok_mNot, ge_ii, gt_ii, lt_ii, le_ii, len_list, len_tup, list_list, list_tup, Nat.zero_add, Nat.reduceAdd]
  exact ⟨trivial, trivial⟩
end K02

namespace K02
open PySem hiding ret
open PySem.Spec L2 PV
theorem ok_mSetFld {c : Nat} {g : Str} {mv : M Val} {mo : M Opd} {st : State} {P : Fl → State → Prop} : Ok (mSetFld c g mv mo st) P ↔ Ok (mv st) fun d s1 => Ok (mo s1) fun x s2 => OkO (insAt c s2 x) fun p => if p.2.length < 1000 then P .nx { s2 with S := s2.S.set p.1 (.ins c (putV g d p.2)) } else False := by
  unfold mSetFld
  rw [ok_bnd]
  refine iff_of_eq (congrArg _ (funext fun d => funext fun s1 => propext ?_))
  rw [ok_bnd]
  refine iff_of_eq (congrArg _ (funext fun x => funext fun s2 => propext ?_))
  unfold OkO
  cases insAt c s2 x with
  | none => exact Iff.rfl
  | some p =>
    obtain ⟨n, fs⟩ := p
    unfold Ok
    dsimp only
    by_cases h : fs.length < 1000
    · rw [if_pos h, if_pos h]
    · rw [if_neg h, if_neg h]
theorem ok_mFld {c : Nat} {g : Str} {mo : M Opd} {st : State} {P : Val → State → Prop} : Ok (mFld c g mo st) P ↔ Ok (mo st) fun x s => OkO (insAt c s x) fun p => OkO (p.2.lookup g) fun d => P d s := by
  unfold mFld
  rw [ok_bnd]
  refine iff_of_eq (congrArg _ (funext fun x => funext fun s => propext ?_))
  unfold OkO
  cases insAt c s x with
  | none => exact Iff.rfl
  | some p =>
    obtain ⟨n, fs⟩ := p
    unfold Ok
    dsimp only
    cases fs.lookup g <;> exact Iff.rfl
def worldF (hs : List Str) (ms : List (List (Str × List Str))) : List (Str × Val) := [("own_hands", .list ((srtB leS hs).map .str)), ("own_maps", .list (ms.map fun m => .dict (dictV (pl m))))]
def worldO (hs : List Str) (ms : List (List (Str × List Str))) : MO := .ins 5 (worldF hs ms)
theorem srt_idem (a : List Str) : srtB leS a = srtB leS (srtB leS a) := (srt_perm (srtB_perm a)).symm
/-- the instance behind the first slot -/
theorem insAt_0 {c w : Nat} {fs : List (Str × Val)} {ρ : List PV.Slot} {S : List MO} (h : S[w]? = some (.ins c fs)) : insAt c ⟨.shr (.ref w) :: ρ, S⟩ (.slot 0) = some (w, fs) := by
  show (match S[w]? with
    | some (.ins c' fs) => if c' = c then some (w, fs) else none
    | _ => none) = _
  rw [h]
  dsimp only
  rw [if_pos rfl]
theorem init_ok {S : List MO} {w : Nat} {hs : List Str} {ms : List (List (Str × List Str))} (hw : S[w]? = some (.ins 5 [])) (hx : ∀ x ∈ hs, okName x) (nd : hs.Nodup) (h2 : 2 ≤ hs.length) (hl : hs.length ≤ 5) (hg : ∀ m ∈ ms, GoodM hs m) (hp : ms.Pairwise fun a b => eqM (pl a) (pl b) = false) (hz : ms.length < 1000) (ne : ms ≠ []) :
    FOk (F_Maps___init__ [.ref w, .list (hs.map .str), .list (ms.map fun m => .dict (dictV m))] S) fun r S' => r = .sh .none ∧ S' = S.set w (worldO hs ms) := by
  unfold F_Maps___init__ b_Maps___init__
  rw [fok_def]
  have e1 : ([.ref w, .list (hs.map .str), .list (ms.map fun m => .dict (dictV m))] : List Val).map PV.Slot.shr ++ List.replicate (3 - ([.ref w, .list (hs.map .str), .list (ms.map fun m => .dict (dictV m))] : List Val).length) PV.Slot.unb = [.shr (.ref w), .shr (.list (hs.map .str)), .shr (.list (ms.map fun m => .dict (dictV m)))] := rfl
  rw [e1]
  have pk : (srtB leS hs).Perm hs := srtB_perm hs
  simp only [ok_seq, seqP_nx, seqP_rt, endP_rt, endP_nx, mPopAt, ok_bnd, ok_ret, ok_app2, ok_app1, ok_appN, ok_oVar, ok_vVar, ok_mVar, ok_k1, ok_k2, ok_kN, ok_oCons, ok_mCons, ok_call, okO_some, res_val, res_slot, resAll_nil, resAll_cons, resC_some, slotV_shr, slotV_own, deref_ref, deref_int, deref_list, deref_tup, deref_str, deref_bool, deref_dict, deref_non, deS_lst, fz_lst, fz_dct, List.getElem?_cons_zero, List.getElem?_cons_succ, ix_list_i, ix_tup_i, at0, at1, at2, at3, oS_some, ok_frz_sh, ok_frz_lst, ok_frz_dct, eq_ii, eq_ss, ok_asB_b, ok_asB'_b, ne_ii, ne_ss, ok_chkL, recv, ok_onL, List.map_cons, List.length_cons, List.length_nil, ixN0, List.eraseIdx_cons_zero, ok_mStore, RV.slot, List.set_cons_zero, List.set_cons_succ, ok_mSetIx, put_list, Option.map_some, add_ii, sub_ii, int_i, ok_mIf, ok_mAnd, ok_mOr, ok_mNot, ge_ii, gt_ii, lt_ii, le_ii, len_list, len_tup, list_list, list_tup, Nat.zero_add, Nat.reduceAdd, ok_mSetFld]
  refine (checked_hands_ok hx nd h2 hl).mono fun r S' ⟨er, es⟩ => ?_
  subst er es
  simp only [ok_seq, seqP_nx, seqP_rt, endP_rt, endP_nx, mPopAt, ok_bnd, ok_ret, ok_app2, ok_app1, ok_appN, ok_oVar, ok_vVar, ok_mVar, ok_k1, ok_k2, ok_kN, ok_oCons, ok_mCons, ok_call, okO_some, res_val, res_slot, resAll_nil, resAll_cons, resC_some, slotV_shr, slotV_own, deref_ref, deref_int, deref_list, deref_tup, deref_str, deref_bool, deref_dict, deref_non, deS_lst, fz_lst, fz_dct, List.getElem?_cons_zero, List.getElem?_cons_succ, ix_list_i, ix_tup_i, at0, at1, at2, at3, oS_some, ok_frz_sh, ok_frz_lst, ok_frz_dct, eq_ii, eq_ss, ok_asB_b, ok_asB'_b, ne_ii, ne_ss, ok_chkL, recv, ok_onL, List.map_cons, List.length_cons, List.length_nil, ixN0, List.eraseIdx_cons_zero, ok_mStore, RV.slot, List.set_cons_zero, List.set_cons_succ, ok_mSetIx, put_list, Option.map_some, add_ii, sub_ii, int_i, ok_mIf, ok_mAnd, ok_mOr, ok_mNot, ge_ii, gt_ii, lt_ii, le_ii, len_list, len_tup, list_list, list_tup, Nat.zero_add, Nat.reduceAdd, insAt_0 hw]
  rw [if_pos (by decide)]
  have hwl : w < S'.length := (List.getElem?_eq_some_iff.mp hw).1
  have hw2 : (S'.set w (.ins 5 (putV "own_hands" (.list ((srtB leS hs).map .str)) [])))[w]? = some (.ins 5 [("own_hands", .list ((srtB leS hs).map .str))]) := List.getElem?_set_self hwl
  simp only [ok_seq, seqP_nx, seqP_rt, endP_rt, endP_nx, mPopAt, ok_bnd, ok_ret, ok_app2, ok_app1, ok_appN, ok_oVar, ok_vVar, ok_mVar, ok_k1, ok_k2, ok_kN, ok_oCons, ok_mCons, ok_call, okO_some, res_val, res_slot, resAll_nil, resAll_cons, resC_some, slotV_shr, slotV_own, deref_ref, deref_int, deref_list, deref_tup, deref_str, deref_bool, deref_dict, deref_non, deS_lst, fz_lst, fz_dct, List.getElem?_cons_zero, List.getElem?_cons_succ, ix_list_i, ix_tup_i, at0, at1, at2, at3, oS_some, ok_frz_sh, ok_frz_lst, ok_frz_dct, eq_ii, eq_ss, ok_asB_b, ok_asB'_b, ne_ii, ne_ss, ok_chkL, recv, ok_onL, List.map_cons, List.length_cons, List.length_nil, ixN0, List.eraseIdx_cons_zero, ok_mStore, RV.slot, List.set_cons_zero, List.set_cons_succ, ok_mSetIx, put_list, Option.map_some, add_ii, sub_ii, int_i, ok_mIf, ok_mAnd, ok_mOr, ok_mNot, ge_ii, gt_ii, lt_ii, le_ii, len_list, len_tup, list_list, list_tup, Nat.zero_add, Nat.reduceAdd, ok_mFld, insAt_0 hw2]
  have hlk : ([(("own_hands" : Str), Val.list ((srtB leS hs).map .str))] : List (Str × Val)).lookup ("own_hands" : Str) = some (Val.list ((srtB leS hs).map .str)) := rfl
  simp only [ok_seq, seqP_nx, seqP_rt, endP_rt, endP_nx, mPopAt, ok_bnd, ok_ret, ok_app2, ok_app1, ok_appN, ok_oVar, ok_vVar, ok_mVar, ok_k1, ok_k2, ok_kN, ok_oCons, ok_mCons, ok_call, okO_some, res_val, res_slot, resAll_nil, resAll_cons, resC_some, slotV_shr, slotV_own, deref_ref, deref_int, deref_list, deref_tup, deref_str, deref_bool, deref_dict, deref_non, deS_lst, fz_lst, fz_dct, List.getElem?_cons_zero, List.getElem?_cons_succ, ix_list_i, ix_tup_i, at0, at1, at2, at3, oS_some, ok_frz_sh, ok_frz_lst, ok_frz_dct, eq_ii, eq_ss, ok_asB_b, ok_asB'_b, ne_ii, ne_ss, ok_chkL, recv, ok_onL, List.map_cons, List.length_cons, List.length_nil, ixN0, List.eraseIdx_cons_zero, ok_mStore, RV.slot, List.set_cons_zero, List.set_cons_succ, ok_mSetIx, put_list, Option.map_some, add_ii, sub_ii, int_i, ok_mIf, ok_mAnd, ok_mOr, ok_mNot, ge_ii, gt_ii, lt_ii, le_ii, len_list, len_tup, list_list, list_tup, Nat.zero_add, Nat.reduceAdd, hlk]
  refine (checked_maps_ok (pk.nodup_iff.mpr nd) (by rw [pk.length_eq]; exact hl) (fun x h => hx x (pk.mem_iff.mp h)) (srt_idem hs) (fun m hm => (hg m hm).perm pk.symm) hp hz ne).mono fun r S2 ⟨er, es⟩ => ?_
  subst er es
  simp only [ok_seq, seqP_nx, seqP_rt, endP_rt, endP_nx, mPopAt, ok_bnd, ok_ret, ok_app2, ok_app1, ok_appN, ok_oVar, ok_vVar, ok_mVar, ok_k1, ok_k2, ok_kN, ok_oCons, ok_mCons, ok_call, okO_some, res_val, res_slot, resAll_nil, resAll_cons, resC_some, slotV_shr, slotV_own, deref_ref, deref_int, deref_list, deref_tup, deref_str, deref_bool, deref_dict, deref_non, deS_lst, fz_lst, fz_dct, List.getElem?_cons_zero, List.getElem?_cons_succ, ix_list_i, ix_tup_i, at0, at1, at2, at3, oS_some, ok_frz_sh, ok_frz_lst, ok_frz_dct, eq_ii, eq_ss, ok_asB_b, ok_asB'_b, ne_ii, ne_ss, ok_chkL, recv, ok_onL, List.map_cons, List.length_cons, List.length_nil, ixN0, List.eraseIdx_cons_zero, ok_mStore, RV.slot, List.set_cons_zero, List.set_cons_succ, ok_mSetIx, put_list, Option.map_some, add_ii, sub_ii, int_i, ok_mIf, ok_mAnd, ok_mOr, ok_mNot, ge_ii, gt_ii, lt_ii, le_ii, len_list, len_tup, list_list, list_tup, Nat.zero_add, Nat.reduceAdd, insAt_0 hw2]
  rw [if_pos (by decide)]
  refine ⟨trivial, ?_⟩
  rw [List.set_set]
  rfl
end K02

namespace K02
open PySem hiding ret
open PySem.Spec L2 PV
/-! ### worths -/
def wV (ws : List (Str × Int)) : List (Val × Val) := ws.map fun p => (.str p.1, .int p.2)
def wPairs (ws : List (Str × Int)) : List Val := ws.map fun p => .tup [.str p.1, .int p.2]
theorem pairs_w : ∀ ws : List (Str × Int), pairsOf (wPairs ws) = some (wV ws)
  | [] => rfl
  | p :: ws => by
    show (match (Val.str p.1).key, pairsOf (wPairs ws) with
      | some _, some ps => some ((Val.str p.1, Val.int p.2) :: ps)
      | _, _ => none) = _
    rw [pairs_w ws]
    rfl
theorem dhas_w {k : Str} : ∀ ws : List (Str × Int), dhas (wV ws) (.str k) = decide (k ∈ ws.map (·.1))
  | [] => by simp [dhas, wV]
  | p :: m => by
    have ih := dhas_w (k := k) m
    show (kEq (.str p.1) (.str k) || dhas (wV m) (.str k)) = _
    rw [ih, kEq_ss]
    by_cases h : p.1 = k
    · simp [h]
    · simp [h, Ne.symm h]
theorem merge_w : ∀ b a : List (Str × Int), (a.map (·.1) ++ b.map (·.1)).Nodup → mergeD (wV a) (wV b) = wV (a ++ b)
  | [], a, _ => by rw [List.append_nil]; rfl
  | p :: b, a, h => by
    show mergeD (dput (wV a) (.str p.1) (.int p.2)) (wV b) = _
    have hno : p.1 ∉ a.map (·.1) := fun z => by
      rw [List.nodup_append] at h
      exact h.2.2 p.1 z p.1 List.mem_cons_self rfl
    have e : dput (wV a) (.str p.1) (.int p.2) = wV (a ++ [p]) := by
      rw [dput_keys (by rw [dhas_w, decide_eq_false hno])]
      simp [wV]
    rw [e, merge_w b (a ++ [p]) (by simpa using h), List.append_assoc]
    rfl
theorem dict_w {ws : List (Str × Int)} (nd : (ws.map (·.1)).Nodup) : fDict [.list (wPairs ws)] = some (.fr (.dct (wV ws))) := by
  show (pairsOf _).map (fun ps => RV.fr (.dct (mergeD [] ps))) = _
  rw [pairs_w]
  have := merge_w ws [] (by simpa using nd)
  show some (RV.fr (.dct (mergeD [] (wV ws)))) = _
  have e0 : ([] : List (Val × Val)) = wV [] := rfl
  rw [e0, this]
  rfl
theorem worths_go {T : List MO} {some_ : List Int} {s1 : PV.Slot} (hs1 : some_ ≠ []) (hs2 : some_.length ≤ 1000) : ∀ (ks : List Str) (acc : List Val) (S : List MO) (n : Nat) (s3 : PV.Slot) (P : List Val → State → Prop), St S T n → n + ks.length < 1000000 →
    (∀ (ws : List (Str × Int)) (S' : List MO), ws.map (·.1) = ks → St S' T (n + ks.length) → P (acc ++ wPairs ws) ⟨[.shr (.ref 1), s1, .shr (.list (some_.map .int)), .unb], S'⟩) →
    Ok (mLcGo [3] (mStore 3) (ret true) k1e__law_worths (ks.map .str) acc ⟨[.shr (.ref 1), s1, .shr (.list (some_.map .int)), s3], S⟩) P
  | [], acc, S, n, s3, P, h, hn, k => by
    rw [List.map_nil, ok_lc_nil]
    have := k [] S rfl h
    have e : wPairs [] = [] := rfl
    rw [e, List.append_nil] at this
    exact this
  | x :: ks, acc, S, n, s3, P, h, hn, k => by
    rw [List.map_cons, ok_lc_cons]
    have ew : wipeS [3] ⟨[.shr (.ref 1), s1, .shr (.list (some_.map .int)), s3], S⟩ = ⟨[.shr (.ref 1), s1, .shr (.list (some_.map .int)), .unb], S⟩ := rfl
    rw [ew]
    unfold k1e__law_worths
    simp only [List.length_cons] at hn
    simp only [ok_seq, seqP_nx, seqP_rt, endP_rt, endP_nx, mPopAt, ok_bnd, ok_ret, ok_app2, ok_app1, ok_appN, ok_oVar, ok_vVar, ok_mVar, ok_k1, ok_k2, ok_kN, ok_oCons, ok_mCons, ok_call, okO_some, res_val, res_slot, resAll_nil, resAll_cons, resC_some, slotV_shr, slotV_own, deref_ref, deref_int, deref_list, deref_tup, deref_str, deref_bool, deref_dict, deref_non, deS_lst, fz_lst, fz_dct, List.getElem?_cons_zero, List.getElem?_cons_succ, ix_list_i, ix_tup_i, at0, at1, at2, at3, oS_some, ok_frz_sh, ok_frz_lst, ok_frz_dct, eq_ii, eq_ss, ok_asB_b, ok_asB'_b, ne_ii, ne_ss, ok_chkL, recv, ok_onL, List.map_cons, List.length_cons, List.length_nil, ixN0, List.eraseIdx_cons_zero, ok_mStore, RV.slot, List.set_cons_zero, List.set_cons_succ, ok_mSetIx, put_list, Option.map_some, add_ii, sub_ii, int_i, ok_mIf, ok_mAnd, ok_mOr, ok_mNot, ge_ii, gt_ii, lt_ii, le_ii, len_list, len_tup, list_list, list_tup, Nat.zero_add, Nat.reduceAdd, if_true]
    refine (pick_ok h (by omega) (by simpa using hs1) (by rw [List.length_map]; exact hs2)).mono fun r S' ⟨d, er, hd, g⟩ => ?_
    subst er
    obtain ⟨i, _, rfl⟩ := List.mem_map.mp hd
    simp only [ok_seq, seqP_nx, seqP_rt, endP_rt, endP_nx, mPopAt, ok_bnd, ok_ret, ok_app2, ok_app1, ok_appN, ok_oVar, ok_vVar, ok_mVar, ok_k1, ok_k2, ok_kN, ok_oCons, ok_mCons, ok_call, okO_some, res_val, res_slot, resAll_nil, resAll_cons, resC_some, slotV_shr, slotV_own, deref_ref, deref_int, deref_list, deref_tup, deref_str, deref_bool, deref_dict, deref_non, deS_lst, fz_lst, fz_dct, List.getElem?_cons_zero, List.getElem?_cons_succ, ix_list_i, ix_tup_i, at0, at1, at2, at3, oS_some, ok_frz_sh, ok_frz_lst, ok_frz_dct, eq_ii, eq_ss, ok_asB_b, ok_asB'_b, ne_ii, ne_ss, ok_chkL, recv, ok_onL, List.map_cons, List.length_cons, List.length_nil, ixN0, List.eraseIdx_cons_zero, ok_mStore, RV.slot, List.set_cons_zero, List.set_cons_succ, ok_mSetIx, put_list, Option.map_some, add_ii, sub_ii, int_i, ok_mIf, ok_mAnd, ok_mOr, ok_mNot, ge_ii, gt_ii, lt_ii, le_ii, len_list, len_tup, list_list, list_tup, Nat.zero_add, Nat.reduceAdd]
    refine worths_go hs1 hs2 ks _ S' (n + 1) _ P g (by omega) fun ws S2 e g2 => ?_
    rw [List.append_assoc]
    exact k ((x, i) :: ws) S2 (by rw [List.map_cons, e]) (by rw [show n + (x :: ks).length = n + 1 + ks.length by simp; omega]; exact g2)
theorem worths_ok {S T : List MO} {n : Nat} {hs : List Str} (h : St S T n) (hn : n + 20 < 1000000) (hl : hs.length ≤ 5) (nd : hs.Nodup) : FOk (F__law_worths [.ref 1, .list (hs.map .str)] S) fun r S' => ∃ ws : List (Str × Int), r = .fr (.dct (wV ws)) ∧ (ws.map (·.1)).Perm hs ∧ St S' T (n + 20) := by
  unfold F__law_worths b__law_worths
  rw [fok_def]
  have e1 : ([.ref 1, .list (hs.map .str)] : List Val).map PV.Slot.shr ++ List.replicate (4 - ([.ref 1, .list (hs.map .str)] : List Val).length) PV.Slot.unb = [.shr (.ref 1), .shr (.list (hs.map .str)), .unb, .unb] := rfl
  rw [e1]
  have en : fNeg (.int 3) = some (.sh (.int (-3))) := rfl
  have ep : fPow (.int 10) (.int 8) = some (.sh (.int 100000000)) := rfl
  simp only [ok_seq, seqP_nx, seqP_rt, endP_rt, endP_nx, mPopAt, ok_bnd, ok_ret, ok_app2, ok_app1, ok_appN, ok_oVar, ok_vVar, ok_mVar, ok_k1, ok_k2, ok_kN, ok_oCons, ok_mCons, ok_call, okO_some, res_val, res_slot, resAll_nil, resAll_cons, resC_some, slotV_shr, slotV_own, deref_ref, deref_int, deref_list, deref_tup, deref_str, deref_bool, deref_dict, deref_non, deS_lst, fz_lst, fz_dct, List.getElem?_cons_zero, List.getElem?_cons_succ, ix_list_i, ix_tup_i, at0, at1, at2, at3, oS_some, ok_frz_sh, ok_frz_lst, ok_frz_dct, eq_ii, eq_ss, ok_asB_b, ok_asB'_b, ne_ii, ne_ss, ok_chkL, recv, ok_onL, List.map_cons, List.length_cons, List.length_nil, ixN0, List.eraseIdx_cons_zero, ok_mStore, RV.slot, List.set_cons_zero, List.set_cons_succ, ok_mSetIx, put_list, Option.map_some, add_ii, sub_ii, int_i, ok_mIf, ok_mAnd, ok_mOr, ok_mNot, ge_ii, gt_ii, lt_ii, le_ii, len_list, len_tup, list_list, list_tup, Nat.zero_add, Nat.reduceAdd, en, ep]
  refine (pick_ok h (by omega) (by simp) (by simp)).mono fun r S1 ⟨d, er, hd, g1⟩ => ?_
  subst er
  obtain ⟨sm, rfl, q1, q2⟩ : ∃ sm : List Int, d = .list (sm.map .int) ∧ sm ≠ [] ∧ sm.length ≤ 1000 := by
    have hd' : d = .list [.int 0, .int 1] ∨ d = .list [.int 0, .int 1] ∨ d = .list [.int 1] ∨ d = .list [.int (-3), .int 7, .int 100000000] := by simpa using hd
    rcases hd' with rfl | rfl | rfl | rfl
    · exact ⟨[0, 1], rfl, by simp, by simp⟩
    · exact ⟨[0, 1], rfl, by simp, by simp⟩
    · exact ⟨[1], rfl, by simp, by simp⟩
    · exact ⟨[-3, 7, 100000000], rfl, by simp, by simp⟩
  simp only [ok_seq, seqP_nx, seqP_rt, endP_rt, endP_nx, mPopAt, ok_bnd, ok_ret, ok_app2, ok_app1, ok_appN, ok_oVar, ok_vVar, ok_mVar, ok_k1, ok_k2, ok_kN, ok_oCons, ok_mCons, ok_call, okO_some, res_val, res_slot, resAll_nil, resAll_cons, resC_some, slotV_shr, slotV_own, deref_ref, deref_int, deref_list, deref_tup, deref_str, deref_bool, deref_dict, deref_non, deS_lst, fz_lst, fz_dct, List.getElem?_cons_zero, List.getElem?_cons_succ, ix_list_i, ix_tup_i, at0, at1, at2, at3, oS_some, ok_frz_sh, ok_frz_lst, ok_frz_dct, eq_ii, eq_ss, ok_asB_b, ok_asB'_b, ne_ii, ne_ss, ok_chkL, recv, ok_onL, List.map_cons, List.length_cons, List.length_nil, ixN0, List.eraseIdx_cons_zero, ok_mStore, RV.slot, List.set_cons_zero, List.set_cons_succ, ok_mSetIx, put_list, Option.map_some, add_ii, sub_ii, int_i, ok_mIf, ok_mAnd, ok_mOr, ok_mNot, ge_ii, gt_ii, lt_ii, le_ii, len_list, len_tup, list_list, list_tup, Nat.zero_add, Nat.reduceAdd, ok_mLc]
  refine (mixed_ok g1 (by rw [List.length_map]; omega) (by rw [List.length_map]; omega)).mono fun r S2 ⟨ys, er, p, g2⟩ => ?_
  subst er
  obtain ⟨ks, rfl, q⟩ := perm_str p
  rw [List.length_map] at g2
  have hk := q.length_eq
  simp only [ok_seq, seqP_nx, seqP_rt, endP_rt, endP_nx, mPopAt, ok_bnd, ok_ret, ok_app2, ok_app1, ok_appN, ok_oVar, ok_vVar, ok_mVar, ok_k1, ok_k2, ok_kN, ok_oCons, ok_mCons, ok_call, okO_some, res_val, res_slot, resAll_nil, resAll_cons, resC_some, slotV_shr, slotV_own, deref_ref, deref_int, deref_list, deref_tup, deref_str, deref_bool, deref_dict, deref_non, deS_lst, fz_lst, fz_dct, List.getElem?_cons_zero, List.getElem?_cons_succ, ix_list_i, ix_tup_i, at0, at1, at2, at3, oS_some, ok_frz_sh, ok_frz_lst, ok_frz_dct, eq_ii, eq_ss, ok_asB_b, ok_asB'_b, ne_ii, ne_ss, ok_chkL, recv, ok_onL, List.map_cons, List.length_cons, List.length_nil, ixN0, List.eraseIdx_cons_zero, ok_mStore, RV.slot, List.set_cons_zero, List.set_cons_succ, ok_mSetIx, put_list, Option.map_some, add_ii, sub_ii, int_i, ok_mIf, ok_mAnd, ok_mOr, ok_mNot, ge_ii, gt_ii, lt_ii, le_ii, len_list, len_tup, list_list, list_tup, Nat.zero_add, Nat.reduceAdd, itA]
  refine worths_go q1 q2 ks [] S2 _ _ _ g2 (by omega) fun ws S3 e g3 => ?_
  rw [List.nil_append]
  have nd' : (ws.map (·.1)).Nodup := by rw [e]; exact q.nodup_iff.mpr nd
  simp only [ok_seq, seqP_nx, seqP_rt, endP_rt, endP_nx, mPopAt, ok_bnd, ok_ret, ok_app2, ok_app1, ok_appN, ok_oVar, ok_vVar, ok_mVar, ok_k1, ok_k2, ok_kN, ok_oCons, ok_mCons, ok_call, okO_some, res_val, res_slot, resAll_nil, resAll_cons, resC_some, slotV_shr, slotV_own, deref_ref, deref_int, deref_list, deref_tup, deref_str, deref_bool, deref_dict, deref_non, deS_lst, fz_lst, fz_dct, List.getElem?_cons_zero, List.getElem?_cons_succ, ix_list_i, ix_tup_i, at0, at1, at2, at3, oS_some, ok_frz_sh, ok_frz_lst, ok_frz_dct, eq_ii, eq_ss, ok_asB_b, ok_asB'_b, ne_ii, ne_ss, ok_chkL, recv, ok_onL, List.map_cons, List.length_cons, List.length_nil, ixN0, List.eraseIdx_cons_zero, ok_mStore, RV.slot, List.set_cons_zero, List.set_cons_succ, ok_mSetIx, put_list, Option.map_some, add_ii, sub_ii, int_i, ok_mIf, ok_mAnd, ok_mOr, ok_mNot, ge_ii, gt_ii, lt_ii, le_ii, len_list, len_tup, list_list, list_tup, Nat.zero_add, Nat.reduceAdd, dict_w nd']
  refine ⟨ws, rfl, by rw [e]; exact q, g3.mono (by omega)⟩
end K02

/-! PvX: more of what a body answers: calls by equations, comprehensions whose turns change nothing, instances. -/
namespace PV
open PySem hiding ret
open PySem.Spec L2

theorem fok_mk {r : RV} {S : List MO} {P : RV → List MO → Prop} : FOk (.ok r S) P ↔ P r S := Iff.rfl
theorem fok_eq {o : FOut} {r : RV} {S : List MO} : FOk o (fun r' S' => r' = r ∧ S' = S) ↔ o = .ok r S := by
  cases o with
  | ok a s =>
    show (a = r ∧ s = S) ↔ _
    constructor
    · rintro ⟨rfl, rfl⟩; rfl
    · intro h; cases h; exact ⟨rfl, rfl⟩
  | exc _ _ _ => exact ⟨fun h => h.elim, fun h => by cases h⟩
  | stuck => exact ⟨fun h => h.elim, fun h => by cases h⟩
def AndP (d : Val) (a b : Prop) : Prop := match d with
  | .bool true => a
  | .bool false => b
  | _ => False
theorem andP_b {x : Bool} {a b : Prop} : AndP (.bool x) a b ↔ if x = true then a else b := by cases x <;> exact Iff.rfl
theorem ok_vAnd {m n : M Val} {st : State} {P : Val → State → Prop} : Ok (vAnd m n st) P ↔ Ok (m st) fun d s => AndP d (Ok (n s) P) (P (.bool false) s) := by
  unfold vAnd
  rw [ok_bnd]
  refine iff_of_eq (congrArg _ (funext fun d => funext fun s => propext ?_))
  cases d with
  | bool b => cases b <;> exact Iff.rfl
  | _ => exact Iff.rfl
theorem ok_vOr {m n : M Val} {st : State} {P : Val → State → Prop} : Ok (vOr m n st) P ↔ Ok (m st) fun d s => AndP d (P (.bool true) s) (Ok (n s) P) := by
  unfold vOr
  rw [ok_bnd]
  refine iff_of_eq (congrArg _ (funext fun d => funext fun s => propext ?_))
  cases d with
  | bool b => cases b <;> exact Iff.rfl
  | _ => exact Iff.rfl
def NotP (d : Val) (p : Bool → Prop) : Prop := match d with
  | .bool b => p b
  | _ => False
theorem notP_b {x : Bool} {p : Bool → Prop} : NotP (.bool x) p ↔ p x := Iff.rfl
theorem ok_vNot {m : M Val} {st : State} {P : Val → State → Prop} : Ok (vNot m st) P ↔ Ok (m st) fun d s => NotP d fun b => P (.bool (!b)) s := by
  unfold vNot
  rw [ok_bnd]
  refine iff_of_eq (congrArg _ (funext fun d => funext fun s => propext ?_))
  cases d <;> exact Iff.rfl
theorem ok_mChain {f g : Val → Val → Option RV} {ma mb mc : M Opd} {st : State} {P : Bool → State → Prop} : Ok (mChain f g ma mb mc st) P ↔ Ok (ma st) fun x s => Ok (mb s) fun y s1 => Ok (k2 f x y s1) fun r s2 => Ok (asB' r s2) fun b s3 => if b = true then Ok (mc s3) fun z s4 => Ok (k2 g y z s4) fun r s5 => Ok (asB' r s5) P else P false s3 := by
  unfold mChain
  rw [ok_bnd]
  refine iff_of_eq (congrArg _ (funext fun x => funext fun s => propext ?_))
  rw [ok_bnd]
  refine iff_of_eq (congrArg _ (funext fun y => funext fun s1 => propext ?_))
  rw [ok_bnd, ok_bnd]
  refine iff_of_eq (congrArg _ (funext fun r => funext fun s2 => propext ?_))
  refine iff_of_eq (congrArg _ (funext fun b => funext fun s3 => propext ?_))
  cases b with
  | false => rw [if_neg Bool.false_ne_true, if_neg Bool.false_ne_true, ok_ret]
  | true =>
    rw [if_pos rfl, if_pos rfl, ok_bnd]
    refine iff_of_eq (congrArg _ (funext fun z => funext fun s4 => propext ?_))
    rw [ok_bnd]
/-! ### instances -/
def insO (c n : Nat) : Option MO → Option (Nat × List (Str × Val))
  | some (.ins c' fs) => if c' = c then some (n, fs) else none
  | _ => none
def insV (c : Nat) (S : List MO) : Option Slot → Option (Nat × List (Str × Val))
  | some (.shr (.ref n)) => insO c n S[n]?
  | _ => none
theorem insAt_slot {c i : Nat} {st : State} : insAt c st (.slot i) = insV c st.S st.ρ[i]? := by
  simp only [insAt, insV]
  generalize st.ρ[i]? = x
  cases x with
  | none => rfl
  | some s =>
    cases s with
    | shr d =>
      cases d with
      | ref n =>
        dsimp only
        unfold insO
        generalize st.S[n]? = y
        cases y with
        | none => rfl
        | some o => cases o <;> rfl
      | _ => rfl
    | _ => rfl
theorem insAt_ref {c n : Nat} {st : State} : insAt c st (.val (.ref n)) = insO c n st.S[n]? := by
  show (match st.S[n]? with
    | some (.ins c' fs) => if c' = c then some (n, fs) else none
    | _ => none) = insO c n st.S[n]?
  unfold insO
  generalize st.S[n]? = y
  cases y with
  | none => rfl
  | some o => cases o <;> rfl
theorem insV_ref {c n : Nat} {S : List MO} : insV c S (some (.shr (.ref n))) = insO c n S[n]? := rfl
theorem insO_some {c n : Nat} {fs : List (Str × Val)} : insO c n (some (.ins c fs)) = some (n, fs) := by
  show (if c = c then _ else _) = _
  rw [if_pos rfl]
theorem ok_mFld {c : Nat} {g : Str} {mo : M Opd} {st : State} {P : Val → State → Prop} : Ok (mFld c g mo st) P ↔ Ok (mo st) fun x s => OkO (insAt c s x) fun p => OkO (p.2.lookup g) fun d => P d s := by
  unfold mFld
  rw [ok_bnd]
  refine iff_of_eq (congrArg _ (funext fun x => funext fun s => propext ?_))
  unfold OkO
  cases insAt c s x with
  | none => exact Iff.rfl
  | some p =>
    obtain ⟨n, fs⟩ := p
    unfold Ok
    dsimp only
    cases fs.lookup g <;> exact Iff.rfl
theorem ok_mSetFld {c : Nat} {g : Str} {mv : M Val} {mo : M Opd} {st : State} {P : Fl → State → Prop} : Ok (mSetFld c g mv mo st) P ↔ Ok (mv st) fun d s1 => Ok (mo s1) fun x s2 => OkO (insAt c s2 x) fun p => if p.2.length < 1000 then P .nx { s2 with S := s2.S.set p.1 (.ins c (putV g d p.2)) } else False := by
  unfold mSetFld
  rw [ok_bnd]
  refine iff_of_eq (congrArg _ (funext fun d => funext fun s1 => propext ?_))
  rw [ok_bnd]
  refine iff_of_eq (congrArg _ (funext fun x => funext fun s2 => propext ?_))
  unfold OkO
  cases insAt c s2 x with
  | none => exact Iff.rfl
  | some p =>
    obtain ⟨n, fs⟩ := p
    unfold Ok
    dsimp only
    by_cases h : fs.length < 1000
    · rw [if_pos h, if_pos h]
    · rw [if_neg h, if_neg h]
def NoneP {α : Type} (x : Option α) (p : Prop) : Prop := match x with
  | none => p
  | some _ => False
theorem noneP_n {α : Type} {p : Prop} : NoneP (none : Option α) p ↔ p := Iff.rfl
theorem ok_mMeth {c : Nat} {m : Str} {F : Fn} {mo : M Opd} {ms : M (List Val)} {st : State} {P : RV → State → Prop} : Ok (mMeth c m F mo ms st) P ↔ Ok (mo st) fun x s => OkO (insAt c s x) fun p => NoneP (p.2.lookup m) (Ok (ms s) fun ds s' => FOk (F (.ref p.1 :: ds) s'.S) fun r S' => P r { s' with S := S' }) := by
  unfold mMeth
  rw [ok_bnd]
  refine iff_of_eq (congrArg _ (funext fun x => funext fun s => propext ?_))
  unfold OkO NoneP
  cases insAt c s x with
  | none => exact Iff.rfl
  | some p =>
    obtain ⟨n, fs⟩ := p
    dsimp only
    cases fs.lookup m with
    | some d => exact Iff.rfl
    | none =>
      dsimp only
      rw [ok_bnd]
      exact iff_of_eq (congrArg _ (funext fun ds => funext fun s' => propext ok_call))
theorem ok_mLenI {c : Nat} {F : Fn} {mo : M Opd} {st : State} {P : RV → State → Prop} : Ok (mLenI c F mo st) P ↔ Ok (mo st) fun x s => OkO (insAt c s x) fun p => FOk (F [.ref p.1] s.S) fun r S' => match r with
    | .sh (.int i) => 0 ≤ i ∧ i < 2 ^ 63 ∧ P (.sh (.int i)) { s with S := S' }
    | _ => False := by
  unfold mLenI
  rw [ok_bnd]
  refine iff_of_eq (congrArg _ (funext fun x => funext fun s => propext ?_))
  unfold OkO
  cases insAt c s x with
  | none => exact Iff.rfl
  | some p =>
    obtain ⟨n, fs⟩ := p
    unfold FOk
    dsimp only
    cases F [.ref n] s.S with
    | exc _ _ _ => exact Iff.rfl
    | stuck => exact Iff.rfl
    | ok r S' =>
      cases r with
      | fr o => exact Iff.rfl
      | sh d =>
        cases d with
        | int i =>
          dsimp only
          by_cases h : 0 ≤ i ∧ i < 2 ^ 63
          · rw [if_pos h]
            exact ⟨fun q => ⟨h.1, h.2, q⟩, fun q => q.2.2⟩
          · rw [if_neg h]
            exact ⟨fun q => q.elim, fun q => h ⟨q.1, q.2.1⟩⟩
        | _ => exact Iff.rfl
theorem ok_mMake {c : Nat} {F : Fn} {ds : List Val} {st : State} {P : RV → State → Prop} : Ok (mMake c F ds st) P ↔ FOk (F (.ref st.S.length :: ds) (st.S ++ [.ins c []])) fun r S' => match r with
    | .sh .none => P (.sh (.ref st.S.length)) { st with S := S' }
    | _ => False := by
  unfold mMake FOk
  cases F (.ref st.S.length :: ds) (st.S ++ [.ins c []]) with
  | exc _ _ _ => exact Iff.rfl
  | stuck => exact Iff.rfl
  | ok r S' =>
    cases r with
    | fr o => exact Iff.rfl
    | sh d => cases d <;> exact Iff.rfl
theorem ok_unpack2 {t u : RV → M Unit} {a b : Val} {st : State} {P : Unit → State → Prop} : Ok (mUnpack 2 (tCons t (tCons u tNil)) (.sh (.tup [a, b])) st) P ↔ Ok (t (.sh a) st) fun _ s => Ok (u (.sh b) s) P := by
  show Ok (bnd (t (.sh a)) (fun _ => bnd (u (.sh b)) fun _ => tNil []) st) P ↔ _
  rw [ok_bnd]
  refine iff_of_eq (congrArg _ (funext fun x => funext fun s => propext ?_))
  rw [ok_bnd]
  exact Iff.rfl
theorem set_self {ρ : List Slot} {i : Nat} {s : Slot} (h : ρ[i]? = some s) : ρ.set i s = ρ := by
  refine List.ext_getElem? fun j => ?_
  by_cases e : i = j
  · subst e
    rw [List.getElem?_set_self (List.getElem?_eq_some_iff.mp h).1, h]
  · rw [List.getElem?_set_ne e]
/-! ### comprehensions whose turns change nothing but the walker's slot -/
theorem set_unb {ρ : List Slot} {i : Nat} {d : Slot} : (ρ.set i d).set i .unb = ρ.set i .unb := List.set_set ..
theorem lc_map {i : Nat} {c : M Bool} {e : M Val} {p : Val → Bool} {f : Val → Val} {ρ : List Slot} {S : List MO} {P : List Val → State → Prop} : ∀ (ds acc : List Val),
    (∀ d ∈ ds, Ok (c ⟨ρ.set i (.shr d), S⟩) fun b s => b = p d ∧ s = ⟨ρ.set i (.shr d), S⟩) →
    (∀ d ∈ ds, p d = true → Ok (e ⟨ρ.set i (.shr d), S⟩) fun y s => y = f d ∧ s = ⟨ρ.set i (.shr d), S⟩) →
    P (acc ++ (ds.filter p).map f) ⟨ρ.set i .unb, S⟩ →
    ∀ s0 : Slot, Ok (mLcGo [i] (mStore i) c e ds acc ⟨ρ.set i s0, S⟩) P
  | [], acc, _, _, k, s0 => by
    rw [ok_lc_nil]
    have ew : wipeS [i] ⟨ρ.set i s0, S⟩ = ⟨ρ.set i .unb, S⟩ := by
      show State.mk ((ρ.set i s0).set i .unb) S = _
      rw [List.set_set]
    rw [ew]
    rw [List.filter_nil, List.map_nil, List.append_nil] at k
    exact k
  | d :: ds, acc, hc, he, k, s0 => by
    rw [ok_lc_cons]
    have ew : wipeS [i] ⟨ρ.set i s0, S⟩ = ⟨ρ.set i .unb, S⟩ := by
      show State.mk ((ρ.set i s0).set i .unb) S = _
      rw [List.set_set]
    rw [ew, ok_mStore]
    show Ok (c ⟨(ρ.set i .unb).set i (.shr d), S⟩) _
    rw [List.set_set]
    refine (hc d List.mem_cons_self).mono fun b s ⟨eb, es⟩ => ?_
    subst eb es
    have hc' := fun x hx => hc x (List.mem_cons_of_mem _ hx)
    have he' := fun x hx => he x (List.mem_cons_of_mem _ hx)
    by_cases hp : p d = true
    · rw [if_pos hp]
      refine (he d List.mem_cons_self hp).mono fun y s ⟨ey, es⟩ => ?_
      subst ey es
      refine lc_map ds _ hc' he' ?_ _
      rw [List.filter_cons, if_pos hp, List.map_cons] at k
      rw [List.append_assoc]
      exact k
    · rw [if_neg hp]
      refine lc_map ds _ hc' he' ?_ _
      rw [List.filter_cons, if_neg hp] at k
      exact k
/-- [e for v in ds] -/
theorem ok_lc1 {i : Nat} {e : M Val} {f : Val → Val} {ρ : List Slot} {S : List MO} {P : List Val → State → Prop} {ds : List Val}
    (he : ∀ d ∈ ds, Ok (e ⟨ρ.set i (.shr d), S⟩) fun y s => y = f d ∧ s = ⟨ρ.set i (.shr d), S⟩)
    (k : P (ds.map f) ⟨ρ.set i .unb, S⟩) : Ok (mLcGo [i] (mStore i) (PV.ret true) e ds [] ⟨ρ, S⟩) P := by
  have h := lc_map (p := fun _ => true) (c := PV.ret true) (i := i) (e := e) (f := f) (ρ := ρ) (S := S) (P := P) ds [] (fun d _ => ⟨rfl, rfl⟩) (fun d hd _ => he d hd) (by rw [List.filter_eq_self.mpr (fun _ _ => rfl)]; exact k)
  cases hs : ρ[i]? with
  | some s0 =>
    have := h s0
    rwa [set_self hs] at this
  | none =>
    have := h .unb
    rwa [List.set_eq_of_length_le (List.getElem?_eq_none_iff.mp hs)] at this
/-- [e for v in ds if c] -/
theorem ok_lc2 {i : Nat} {c : M Bool} {p : Val → Bool} {e : M Val} {f : Val → Val} {ρ : List Slot} {S : List MO} {P : List Val → State → Prop} {ds : List Val}
    (hc : ∀ d ∈ ds, Ok (c ⟨ρ.set i (.shr d), S⟩) fun b s => b = p d ∧ s = ⟨ρ.set i (.shr d), S⟩)
    (he : ∀ d ∈ ds, p d = true → Ok (e ⟨ρ.set i (.shr d), S⟩) fun y s => y = f d ∧ s = ⟨ρ.set i (.shr d), S⟩)
    (k : P ((ds.filter p).map f) ⟨ρ.set i .unb, S⟩) : Ok (mLcGo [i] (mStore i) c e ds [] ⟨ρ, S⟩) P := by
  have h := lc_map (p := p) (c := c) (i := i) (e := e) (f := f) (ρ := ρ) (S := S) (P := P) ds [] hc he k
  cases hs : ρ[i]? with
  | some s0 =>
    have := h s0
    rwa [set_self hs] at this
  | none =>
    have := h .unb
    rwa [List.set_eq_of_length_le (List.getElem?_eq_none_iff.mp hs)] at this
theorem ok_dc_nil {vs : List Nat} {t : RV → M Unit} {c : M Bool} {k e : M Val} {acc : List (Val × Val)} {st : State} {P : List (Val × Val) → State → Prop} : Ok (mDcGo vs t c k e [] acc st) P ↔ P acc (wipeS vs st) := Iff.rfl
theorem ok_dc_cons {vs : List Nat} {t : RV → M Unit} {c : M Bool} {k e : M Val} {d : Val} {ds : List Val} {acc : List (Val × Val)} {st : State} {P : List (Val × Val) → State → Prop} :
    Ok (mDcGo vs t c k e (d :: ds) acc st) P ↔ Ok (t (.sh d) (wipeS vs st)) fun _ s1 => Ok (c s1) fun b s2 => if b = true then Ok (k s2) fun x s3 => Ok (e s3) fun y s4 => OkO x.key fun _ => Ok (mDcGo vs t c k e ds (dput acc x y) s4) P else Ok (mDcGo vs t c k e ds acc s2) P := by
  show Ok (bnd (t (.sh d)) _ (wipeS vs st)) P ↔ _
  rw [ok_bnd]
  refine iff_of_eq (congrArg _ (funext fun u => funext fun s1 => propext ?_))
  rw [ok_bnd]
  refine iff_of_eq (congrArg _ (funext fun b => funext fun s2 => propext ?_))
  cases b with
  | false => rw [if_neg Bool.false_ne_true, if_neg Bool.false_ne_true]
  | true =>
    rw [if_pos rfl, if_pos rfl, ok_bnd]
    refine iff_of_eq (congrArg _ (funext fun x => funext fun s3 => propext ?_))
    rw [ok_bnd]
    refine iff_of_eq (congrArg _ (funext fun y => funext fun s4 => propext ?_))
    cases x.key <;> exact Iff.rfl
theorem dc_map {i : Nat} {k e : M Val} {g f : Val → Val} {ρ : List Slot} {S : List MO} {P : List (Val × Val) → State → Prop} : ∀ (ds : List Val) (acc : List (Val × Val)),
    (∀ d ∈ ds, Ok (k ⟨ρ.set i (.shr d), S⟩) fun y s => y = g d ∧ s = ⟨ρ.set i (.shr d), S⟩) →
    (∀ d ∈ ds, Ok (e ⟨ρ.set i (.shr d), S⟩) fun y s => y = f d ∧ s = ⟨ρ.set i (.shr d), S⟩) →
    (∀ d ∈ ds, (g d).key.isSome = true) →
    P (mergeD acc (ds.map fun d => (g d, f d))) ⟨ρ.set i .unb, S⟩ →
    ∀ s0 : Slot, Ok (mDcGo [i] (mStore i) (PV.ret true) k e ds acc ⟨ρ.set i s0, S⟩) P
  | [], acc, _, _, _, h, s0 => by
    rw [ok_dc_nil]
    have ew : wipeS [i] ⟨ρ.set i s0, S⟩ = ⟨ρ.set i .unb, S⟩ := by
      show State.mk ((ρ.set i s0).set i .unb) S = _
      rw [List.set_set]
    rw [ew]
    exact h
  | d :: ds, acc, hk, he, hs, h, s0 => by
    rw [ok_dc_cons]
    have ew : wipeS [i] ⟨ρ.set i s0, S⟩ = ⟨ρ.set i .unb, S⟩ := by
      show State.mk ((ρ.set i s0).set i .unb) S = _
      rw [List.set_set]
    rw [ew, ok_mStore, ok_ret, if_pos rfl]
    show Ok (k ⟨(ρ.set i .unb).set i (.shr d), S⟩) _
    rw [List.set_set]
    refine (hk d List.mem_cons_self).mono fun b s ⟨eb, es⟩ => ?_
    subst eb es
    refine (he d List.mem_cons_self).mono fun b s ⟨eb, es⟩ => ?_
    subst eb es
    have hd := hs d List.mem_cons_self
    cases ek : (g d).key with
    | none => rw [ek] at hd; cases hd
    | some κ =>
      rw [okO_some]
      exact dc_map ds _ (fun x hx => hk x (List.mem_cons_of_mem _ hx)) (fun x hx => he x (List.mem_cons_of_mem _ hx)) (fun x hx => hs x (List.mem_cons_of_mem _ hx)) h _
/-- {k: e for v in ds} -/
theorem ok_dc1 {i : Nat} {k e : M Val} {g f : Val → Val} {ρ : List Slot} {S : List MO} {P : List (Val × Val) → State → Prop} {ds : List Val}
    (hk : ∀ d ∈ ds, Ok (k ⟨ρ.set i (.shr d), S⟩) fun y s => y = g d ∧ s = ⟨ρ.set i (.shr d), S⟩)
    (he : ∀ d ∈ ds, Ok (e ⟨ρ.set i (.shr d), S⟩) fun y s => y = f d ∧ s = ⟨ρ.set i (.shr d), S⟩)
    (hs : ∀ d ∈ ds, (g d).key.isSome = true)
    (h : P (mergeD [] (ds.map fun d => (g d, f d))) ⟨ρ.set i .unb, S⟩) : Ok (mDcGo [i] (mStore i) (PV.ret true) k e ds [] ⟨ρ, S⟩) P := by
  have h' := dc_map (i := i) ds [] hk he hs h
  cases hr : ρ[i]? with
  | some s0 =>
    have := h' s0
    rwa [set_self hr] at this
  | none =>
    have := h' .unb
    rwa [List.set_eq_of_length_le (List.getElem?_eq_none_iff.mp hr)] at this
theorem bls_map (f : Val → Bool) : ∀ ds : List Val, blsOf (ds.map fun d => .bool (f d)) = some (ds.map f)
  | [] => rfl
  | d :: ds => by
    show (blsOf (ds.map fun d => .bool (f d))).map (f d :: ·) = _
    rw [bls_map f ds]; rfl
theorem all_map (f : Val → Bool) (ds : List Val) : fAll [.list (ds.map fun d => .bool (f d))] = some (.sh (.bool (ds.all f))) := by
  show (blsOf _).map (fun bs => RV.sh (.bool (bs.all id))) = _
  rw [bls_map]
  simp [List.all_map]
theorem any_map (f : Val → Bool) (ds : List Val) : fAny [.list (ds.map fun d => .bool (f d))] = some (.sh (.bool (ds.any f))) := by
  show (blsOf _).map (fun bs => RV.sh (.bool (bs.any id))) = _
  rw [bls_map]
  simp [List.any_map]
/-- a walk whose turns keep what Inv says -/
theorem for_inv {t : RV → M Unit} {b : M Fl} {P : Fl → State → Prop} (I : List Val → State → Prop)
    (step : ∀ d ds st, I (d :: ds) st → Ok (t (.sh d) st) fun _ s1 => Ok (b s1) fun f s => match f with
      | .nx => I ds s
      | .ct => I ds s
      | .bk => P .nx s
      | .rt r => P (.rt r) s)
    (last : ∀ st, I [] st → P .nx st) : ∀ (ds : List Val) (st : State), I ds st → Ok (mFor t b ds st) P
  | [], st, h => by rw [ok_for_nil]; exact last st h
  | d :: ds, st, h => by
    rw [ok_for_cons]
    refine (step d ds st h).mono fun _ s1 q => q.mono fun f s q => ?_
    cases f with
    | nx => exact for_inv I step last ds s q
    | ct => exact for_inv I step last ds s q
    | bk => exact q
    | rt r => exact q
theorem restS1 {i : Nat} {ρ ρ' : List Slot} {S S' : List MO} : restS [i] ⟨ρ, S⟩ ⟨ρ', S'⟩ = ⟨ρ'.set i (keepS ρ[i]?), S'⟩ := rfl
theorem restS2 {i j : Nat} {ρ ρ' : List Slot} {S S' : List MO} : restS [i, j] ⟨ρ, S⟩ ⟨ρ', S'⟩ = ⟨(ρ'.set j (keepS ρ[j]?)).set i (keepS ρ[i]?), S'⟩ := rfl
theorem wipeS1 {i : Nat} {ρ : List Slot} {S : List MO} : wipeS [i] ⟨ρ, S⟩ = ⟨ρ.set i .unb, S⟩ := rfl
theorem wipeS2 {i j : Nat} {ρ : List Slot} {S : List MO} : wipeS [i, j] ⟨ρ, S⟩ = ⟨(ρ.set j .unb).set i .unb, S⟩ := rfl
theorem keepS_unb : keepS (some .unb) = .unb := rfl
theorem keepS_shr {d : Val} : keepS (some (.shr d)) = .shr d := rfl
theorem keepS_own {o : MO} : keepS (some (.own o)) = .unb := rfl
theorem itA_l {ds : List Val} : itA (.list ds) = PV.ret ds := rfl
theorem itA_t {ds : List Val} : itA (.tup ds) = PV.ret ds := rfl
theorem itA_d {ds : List (Val × Val)} : itA (.dict ds) = PV.ret (ds.map (·.1)) := rfl
theorem sl_l {ds : List Val} {lo hi : Option Int} : fSl (.list ds) lo hi = some (.fr (.lst (cutD ds lo hi))) := rfl
theorem add_ll {ds es : List Val} (h : ds.length + es.length ≤ 16777216) : fAdd (.list ds) (.list es) = some (.fr (.lst (ds ++ es))) := by
  show (if _ then _ else _) = _
  rw [if_pos h]
theorem ok_mSl {mo : M Opd} {ml mh : M (Option Int)} {st : State} {P : RV → State → Prop} : Ok (mSl mo ml mh st) P ↔ Ok (mo st) fun x s => Ok (ml s) fun l s1 => Ok (mh s1) fun h s2 => OkO (res s2 x) fun d => OkO (fSl d l h) fun r => P r s2 := by
  unfold mSl
  rw [ok_bnd]
  refine iff_of_eq (congrArg _ (funext fun x => funext fun s => propext ?_))
  rw [ok_bnd]
  refine iff_of_eq (congrArg _ (funext fun l => funext fun s1 => propext ?_))
  rw [ok_bnd]
  refine iff_of_eq (congrArg _ (funext fun h => funext fun s2 => propext ?_))
  exact ok_k1
theorem set_self2 {ρ : List Slot} {i j : Nat} {s t : Slot} (h : ρ[i]? = some s) (h' : ρ[j]? = some t) : (ρ.set i s).set j t = ρ := by rw [set_self h, set_self h']
theorem lcP_go {i j : Nat} (hij : i ≠ j) {e : M Val} {f : Val → Val → Val} {ρ : List Slot} {S : List MO} {P : List Val → State → Prop} : ∀ (ps : List (Val × Val)) (acc : List Val),
    (∀ p ∈ ps, Ok (e ⟨(ρ.set i (.shr p.1)).set j (.shr p.2), S⟩) fun y s => y = f p.1 p.2 ∧ s = ⟨(ρ.set i (.shr p.1)).set j (.shr p.2), S⟩) →
    P (acc ++ ps.map fun p => f p.1 p.2) ⟨(ρ.set i .unb).set j .unb, S⟩ →
    ∀ s0 s1 : Slot, Ok (mLcGo [i, j] (mUnpack 2 (tCons (mStore i) (tCons (mStore j) tNil))) (PV.ret true) e (ps.map fun p => .tup [p.1, p.2]) acc ⟨(ρ.set i s0).set j s1, S⟩) P
  | [], acc, _, k, s0, s1 => by
    rw [List.map_nil, ok_lc_nil, wipeS2]
    have ew : (((ρ.set i s0).set j s1).set j .unb).set i .unb = (ρ.set i .unb).set j .unb := by
      rw [List.set_set, List.set_comm _ _ hij.symm, List.set_set]
    rw [ew]
    rw [List.map_nil, List.append_nil] at k
    exact k
  | p :: ps, acc, he, k, s0, s1 => by
    rw [List.map_cons, ok_lc_cons, wipeS2]
    have ew : (((ρ.set i s0).set j s1).set j .unb).set i .unb = (ρ.set i .unb).set j .unb := by
      rw [List.set_set, List.set_comm _ _ hij.symm, List.set_set]
    rw [ew, ok_unpack2, ok_mStore, ok_mStore, ok_ret, if_pos rfl]
    show Ok (e ⟨(((ρ.set i .unb).set j .unb).set i (.shr p.1)).set j (.shr p.2), S⟩) _
    have ex : (((ρ.set i .unb).set j .unb).set i (.shr p.1)).set j (.shr p.2) = (ρ.set i (.shr p.1)).set j (.shr p.2) := by
      rw [List.set_comm _ _ hij.symm, List.set_set, List.set_set]
    rw [ex]
    refine (he p List.mem_cons_self).mono fun y s ⟨ey, es⟩ => ?_
    subst ey es
    refine lcP_go hij ps _ (fun q hq => he q (List.mem_cons_of_mem _ hq)) ?_ _ _
    rw [List.append_assoc]
    exact k
/-- [e for v, w in pairs] -/
theorem ok_lcP {i j : Nat} {e : M Val} {f : Val → Val → Val} {ρ : List Slot} {S : List MO} {P : List Val → State → Prop} {ps : List (Val × Val)} (hij : i ≠ j) (hi : i < ρ.length) (hj : j < ρ.length)
    (he : ∀ p ∈ ps, Ok (e ⟨(ρ.set i (.shr p.1)).set j (.shr p.2), S⟩) fun y s => y = f p.1 p.2 ∧ s = ⟨(ρ.set i (.shr p.1)).set j (.shr p.2), S⟩)
    (k : P (ps.map fun p => f p.1 p.2) ⟨(ρ.set i .unb).set j .unb, S⟩) : Ok (mLcGo [i, j] (mUnpack 2 (tCons (mStore i) (tCons (mStore j) tNil))) (PV.ret true) e (ps.map fun p => .tup [p.1, p.2]) [] ⟨ρ, S⟩) P := by
  have := lcP_go hij (e := e) (f := f) (ρ := ρ) (S := S) (P := P) ps [] he (by rw [List.nil_append]; exact k) ρ[i] ρ[j]
  rwa [set_self2 (List.getElem?_eq_getElem hi) (List.getElem?_eq_getElem hj)] at this
end PV

namespace K02
open PySem hiding ret
open PySem.Spec L2 PV
/-! ### indexes and rows -/
def noRef : Val → Bool
  | .ref _ => false
  | _ => true
def isI : Val → Bool
  | .int _ => true
  | _ => false
theorem is_integer_any {S : List MO} {d : Val} (h : noRef d = true) : F_is_integer [d] S = .ok (.sh (.bool (isI d))) S := by
  cases d with
  | ref n => cases h
  | _ => rfl
def isL : Val → Bool
  | .list _ => true
  | .tup _ => true
  | _ => false
theorem is_list_any {S : List MO} {d : Val} (h : noRef d = true) : F_is_list [d] S = .ok (.sh (.bool (isL d))) S := by
  cases d with
  | ref n => cases h
  | _ => rfl
theorem frame1 (a : Val) (k : Nat) : ([a] : List Val).map PV.Slot.shr ++ List.replicate (k - ([a] : List Val).length) PV.Slot.unb = .shr a :: List.replicate (k - 1) PV.Slot.unb := rfl
theorem wl2 {hs : List Str} {ms : List (List (Str × List Str))} : (worldF hs ms).lookup ("own_maps" : Str) = some (.list (ms.map fun m => .dict (dictV (pl m)))) := rfl
theorem wl1 {hs : List Str} {ms : List (List (Str × List Str))} : (worldF hs ms).lookup ("own_hands" : Str) = some (.list ((srtB leS hs).map .str)) := rfl
theorem wl3 {hs : List Str} {ms : List (List (Str × List Str))} : (worldF hs ms).lookup ("hands" : Str) = none := rfl
theorem len_ok {S : List MO} {w : Nat} {hs : List Str} {ms : List (List (Str × List Str))} (hw : S[w]? = some (worldO hs ms)) : F_Maps___len__ [.ref w] S = .ok (.sh (.int ms.length)) S := by
  rw [← fok_eq]
  unfold F_Maps___len__ b_Maps___len__
  rw [fok_def, frame1]
  have hw' : S[w]? = some (.ins 5 (worldF hs ms)) := hw
  simp only [ok_seq, seqP_nx, seqP_rt, endP_rt, endP_nx, mPopAt, ok_bnd, ok_ret, ok_app2, ok_app1, ok_appN, ok_oVar, ok_vVar, ok_mVar, ok_k1, ok_k2, ok_kN, ok_oCons, ok_mCons, ok_call, okO_some, res_val, res_slot, resAll_nil, resAll_cons, resC_some, slotV_shr, slotV_own, deref_ref, deref_int, deref_list, deref_tup, deref_str, deref_bool, deref_dict, deref_non, deS_lst, fz_lst, fz_dct, List.getElem?_cons_zero, List.getElem?_cons_succ, ix_list_i, ix_tup_i, at0, at1, at2, at3, oS_some, ok_frz_sh, ok_frz_lst, ok_frz_dct, eq_ii, eq_ss, ok_asB_b, ok_asB'_b, ne_ii, ne_ss, ok_chkL, recv, ok_onL, List.map_cons, List.length_cons, List.length_nil, ixN0, List.eraseIdx_cons_zero, ok_mStore, RV.slot, List.set_cons_zero, List.set_cons_succ, ok_mSetIx, put_list, Option.map_some, add_ii, sub_ii, int_i, ok_mIf, ok_mAnd, ok_mOr, ok_mNot, ge_ii, gt_ii, lt_ii, le_ii, len_list, len_tup, list_list, list_tup, Nat.zero_add, Nat.reduceAdd, ok_vAnd, andP_b, ok_vOr, ok_vNot, notP_b, ok_mChain, insAt_slot, insAt_ref, insV_ref, insO_some, PV.ok_mFld, ok_mMeth, noneP_n, PV.ok_unpack2, fok_mk, Bool.false_eq_true, if_true, if_false, Bool.not_true, Bool.not_false, hw', wl2, List.length_map]
  exact ⟨trivial, trivial⟩
theorem hands_m {S : List MO} {w : Nat} {hs : List Str} {ms : List (List (Str × List Str))} (hw : S[w]? = some (worldO hs ms)) : F_Maps_hands [.ref w] S = .ok (.fr (.lst ((srtB leS hs).map .str))) S := by
  rw [← fok_eq]
  unfold F_Maps_hands b_Maps_hands
  rw [fok_def, frame1]
  have hw' : S[w]? = some (.ins 5 (worldF hs ms)) := hw
  simp only [ok_seq, seqP_nx, seqP_rt, endP_rt, endP_nx, mPopAt, ok_bnd, ok_ret, ok_app2, ok_app1, ok_appN, ok_oVar, ok_vVar, ok_mVar, ok_k1, ok_k2, ok_kN, ok_oCons, ok_mCons, ok_call, okO_some, res_val, res_slot, resAll_nil, resAll_cons, resC_some, slotV_shr, slotV_own, deref_ref, deref_int, deref_list, deref_tup, deref_str, deref_bool, deref_dict, deref_non, deS_lst, fz_lst, fz_dct, List.getElem?_cons_zero, List.getElem?_cons_succ, ix_list_i, ix_tup_i, at0, at1, at2, at3, oS_some, ok_frz_sh, ok_frz_lst, ok_frz_dct, eq_ii, eq_ss, ok_asB_b, ok_asB'_b, ne_ii, ne_ss, ok_chkL, recv, ok_onL, List.map_cons, List.length_cons, List.length_nil, ixN0, List.eraseIdx_cons_zero, ok_mStore, RV.slot, List.set_cons_zero, List.set_cons_succ, ok_mSetIx, put_list, Option.map_some, add_ii, sub_ii, int_i, ok_mIf, ok_mAnd, ok_mOr, ok_mNot, ge_ii, gt_ii, lt_ii, le_ii, len_list, len_tup, list_list, list_tup, Nat.zero_add, Nat.reduceAdd, ok_vAnd, andP_b, ok_vOr, ok_vNot, notP_b, ok_mChain, insAt_slot, insAt_ref, insV_ref, insO_some, PV.ok_mFld, ok_mMeth, noneP_n, PV.ok_unpack2, fok_mk, Bool.false_eq_true, if_true, if_false, Bool.not_true, Bool.not_false, hw', wl1]
  exact ⟨trivial, trivial⟩
def isIx (n : Nat) : Val → Bool
  | .int i => decide (0 ≤ i) && decide (i < n)
  | _ => false
theorem is_index_ok {S : List MO} {w : Nat} {hs : List Str} {ms : List (List (Str × List Str))} {d : Val} (hw : S[w]? = some (worldO hs ms)) (hz : ms.length < 1000) (hd : noRef d = true) : F_is_index [.ref w, d] S = .ok (.sh (.bool (isIx ms.length d))) S := by
  rw [← fok_eq]
  unfold F_is_index b_is_index
  rw [fok_def]
  have e1 : ([.ref w, d] : List Val).map PV.Slot.shr ++ List.replicate (2 - ([.ref w, d] : List Val).length) PV.Slot.unb = [.shr (.ref w), .shr d] := rfl
  rw [e1]
  have hw' : S[w]? = some (.ins 5 (worldF hs ms)) := hw
  simp only [ok_seq, seqP_nx, seqP_rt, endP_rt, endP_nx, mPopAt, ok_bnd, ok_ret, ok_app2, ok_app1, ok_appN, ok_oVar, ok_vVar, ok_mVar, ok_k1, ok_k2, ok_kN, ok_oCons, ok_mCons, ok_call, okO_some, res_val, res_slot, resAll_nil, resAll_cons, resC_some, slotV_shr, slotV_own, deref_ref, deref_int, deref_list, deref_tup, deref_str, deref_bool, deref_dict, deref_non, deS_lst, fz_lst, fz_dct, List.getElem?_cons_zero, List.getElem?_cons_succ, ix_list_i, ix_tup_i, at0, at1, at2, at3, oS_some, ok_frz_sh, ok_frz_lst, ok_frz_dct, eq_ii, eq_ss, ok_asB_b, ok_asB'_b, ne_ii, ne_ss, ok_chkL, recv, ok_onL, List.map_cons, List.length_cons, List.length_nil, ixN0, List.eraseIdx_cons_zero, ok_mStore, RV.slot, List.set_cons_zero, List.set_cons_succ, ok_mSetIx, put_list, Option.map_some, add_ii, sub_ii, int_i, ok_mIf, ok_mAnd, ok_mOr, ok_mNot, ge_ii, gt_ii, lt_ii, le_ii, len_list, len_tup, list_list, list_tup, Nat.zero_add, Nat.reduceAdd, ok_vAnd, andP_b, ok_vOr, ok_vNot, notP_b, ok_mChain, insAt_slot, insAt_ref, insV_ref, insO_some, PV.ok_mFld, ok_mMeth, noneP_n, PV.ok_unpack2, fok_mk, Bool.false_eq_true, if_true, if_false, Bool.not_true, Bool.not_false, is_integer_any hd]
  cases d with
  | int i =>
    simp only [ok_seq, seqP_nx, seqP_rt, endP_rt, endP_nx, mPopAt, ok_bnd, ok_ret, ok_app2, ok_app1, ok_appN, ok_oVar, ok_vVar, ok_mVar, ok_k1, ok_k2, ok_kN, ok_oCons, ok_mCons, ok_call, okO_some, res_val, res_slot, resAll_nil, resAll_cons, resC_some, slotV_shr, slotV_own, deref_ref, deref_int, deref_list, deref_tup, deref_str, deref_bool, deref_dict, deref_non, deS_lst, fz_lst, fz_dct, List.getElem?_cons_zero, List.getElem?_cons_succ, ix_list_i, ix_tup_i, at0, at1, at2, at3, oS_some, ok_frz_sh, ok_frz_lst, ok_frz_dct, eq_ii, eq_ss, ok_asB_b, ok_asB'_b, ne_ii, ne_ss, ok_chkL, recv, ok_onL, List.map_cons, List.length_cons, List.length_nil, ixN0, List.eraseIdx_cons_zero, ok_mStore, RV.slot, List.set_cons_zero, List.set_cons_succ, ok_mSetIx, put_list, Option.map_some, add_ii, sub_ii, int_i, ok_mIf, ok_mAnd, ok_mOr, ok_mNot, ge_ii, gt_ii, lt_ii, le_ii, len_list, len_tup, list_list, list_tup, Nat.zero_add, Nat.reduceAdd, ok_vAnd, andP_b, ok_vOr, ok_vNot, notP_b, ok_mChain, insAt_slot, insAt_ref, insV_ref, insO_some, PV.ok_mFld, ok_mMeth, noneP_n, PV.ok_unpack2, fok_mk, Bool.false_eq_true, if_true, if_false, Bool.not_true, Bool.not_false, isI, ok_mLenI, hw', len_ok hw]
    by_cases h0 : 0 ≤ i
    · simp only [decide_eq_true h0, if_true, isIx, Bool.true_and]
      refine ⟨by omega, by omega, ?_⟩
      exact ⟨trivial, trivial⟩
    · simp only [decide_eq_false h0, Bool.false_eq_true, if_false, isIx, Bool.false_and]
      exact ⟨trivial, trivial⟩
  | _ =>
    simp only [isI, Bool.false_eq_true, if_false, isIx]
    exact ⟨trivial, trivial⟩
def rowB (n : Nat) : Val → Bool
  | .list ds => ds.all (isIx n)
  | .tup ds => ds.all (isIx n)
  | _ => false
def noRefs : Val → Bool
  | .list ds => ds.all noRef
  | .tup ds => ds.all noRef
  | .ref _ => false
  | _ => true
theorem noRefs_1 {d : Val} (h : noRefs d = true) : noRef d = true := by
  cases d with
  | ref n => cases h
  | _ => rfl
theorem is_row_ok {S : List MO} {w : Nat} {hs : List Str} {ms : List (List (Str × List Str))} {d : Val} (hw : S[w]? = some (worldO hs ms)) (hz : ms.length < 1000) (hd : noRefs d = true) : F_is_row [.ref w, d] S = .ok (.sh (.bool (rowB ms.length d))) S := by
  rw [← fok_eq]
  unfold F_is_row b_is_row
  rw [fok_def]
  have e1 : ([.ref w, d] : List Val).map PV.Slot.shr ++ List.replicate (3 - ([.ref w, d] : List Val).length) PV.Slot.unb = [.shr (.ref w), .shr d, .unb] := rfl
  rw [e1]
  simp only [ok_seq, seqP_nx, seqP_rt, endP_rt, endP_nx, mPopAt, ok_bnd, ok_ret, ok_app2, ok_app1, ok_appN, ok_oVar, ok_vVar, ok_mVar, ok_k1, ok_k2, ok_kN, ok_oCons, ok_mCons, ok_call, okO_some, res_val, res_slot, resAll_nil, resAll_cons, resC_some, slotV_shr, slotV_own, deref_ref, deref_int, deref_list, deref_tup, deref_str, deref_bool, deref_dict, deref_non, deS_lst, fz_lst, fz_dct, List.getElem?_cons_zero, List.getElem?_cons_succ, ix_list_i, ix_tup_i, at0, at1, at2, at3, oS_some, ok_frz_sh, ok_frz_lst, ok_frz_dct, eq_ii, eq_ss, ok_asB_b, ok_asB'_b, ne_ii, ne_ss, ok_chkL, recv, ok_onL, List.map_cons, List.length_cons, List.length_nil, ixN0, List.eraseIdx_cons_zero, ok_mStore, RV.slot, List.set_cons_zero, List.set_cons_succ, ok_mSetIx, put_list, Option.map_some, add_ii, sub_ii, int_i, ok_mIf, ok_mAnd, ok_mOr, ok_mNot, ge_ii, gt_ii, lt_ii, le_ii, len_list, len_tup, list_list, list_tup, Nat.zero_add, Nat.reduceAdd, ok_vAnd, andP_b, ok_vOr, ok_vNot, notP_b, ok_mChain, insAt_slot, insAt_ref, insV_ref, insO_some, PV.ok_mFld, ok_mMeth, noneP_n, PV.ok_unpack2, fok_mk, Bool.false_eq_true, if_true, if_false, Bool.not_true, Bool.not_false, is_list_any (noRefs_1 hd)]
  have go : ∀ (s : PV.Slot) (ds : List Val), ds.all noRef = true → ∀ d ∈ ds, Ok (k1e_is_row ⟨[PV.Slot.shr (.ref w), s, .unb].set 2 (.shr d), S⟩) fun y t => y = .bool (isIx ms.length d) ∧ t = ⟨[PV.Slot.shr (.ref w), s, .unb].set 2 (.shr d), S⟩ := by
    intro s ds hn d hm
    unfold k1e_is_row
    simp only [ok_seq, seqP_nx, seqP_rt, endP_rt, endP_nx, mPopAt, ok_bnd, ok_ret, ok_app2, ok_app1, ok_appN, ok_oVar, ok_vVar, ok_mVar, ok_k1, ok_k2, ok_kN, ok_oCons, ok_mCons, ok_call, okO_some, res_val, res_slot, resAll_nil, resAll_cons, resC_some, slotV_shr, slotV_own, deref_ref, deref_int, deref_list, deref_tup, deref_str, deref_bool, deref_dict, deref_non, deS_lst, fz_lst, fz_dct, List.getElem?_cons_zero, List.getElem?_cons_succ, ix_list_i, ix_tup_i, at0, at1, at2, at3, oS_some, ok_frz_sh, ok_frz_lst, ok_frz_dct, eq_ii, eq_ss, ok_asB_b, ok_asB'_b, ne_ii, ne_ss, ok_chkL, recv, ok_onL, List.map_cons, List.length_cons, List.length_nil, ixN0, List.eraseIdx_cons_zero, ok_mStore, RV.slot, List.set_cons_zero, List.set_cons_succ, ok_mSetIx, put_list, Option.map_some, add_ii, sub_ii, int_i, ok_mIf, ok_mAnd, ok_mOr, ok_mNot, ge_ii, gt_ii, lt_ii, le_ii, len_list, len_tup, list_list, list_tup, Nat.zero_add, Nat.reduceAdd, ok_vAnd, andP_b, ok_vOr, ok_vNot, notP_b, ok_mChain, insAt_slot, insAt_ref, insV_ref, insO_some, PV.ok_mFld, ok_mMeth, noneP_n, PV.ok_unpack2, fok_mk, Bool.false_eq_true, if_true, if_false, Bool.not_true, Bool.not_false, is_index_ok hw hz (List.all_eq_true.mp hn d hm)]
    exact ⟨trivial, trivial⟩
  cases d with
  | list ds =>
    simp only [ok_seq, seqP_nx, seqP_rt, endP_rt, endP_nx, mPopAt, ok_bnd, ok_ret, ok_app2, ok_app1, ok_appN, ok_oVar, ok_vVar, ok_mVar, ok_k1, ok_k2, ok_kN, ok_oCons, ok_mCons, ok_call, okO_some, res_val, res_slot, resAll_nil, resAll_cons, resC_some, slotV_shr, slotV_own, deref_ref, deref_int, deref_list, deref_tup, deref_str, deref_bool, deref_dict, deref_non, deS_lst, fz_lst, fz_dct, List.getElem?_cons_zero, List.getElem?_cons_succ, ix_list_i, ix_tup_i, at0, at1, at2, at3, oS_some, ok_frz_sh, ok_frz_lst, ok_frz_dct, eq_ii, eq_ss, ok_asB_b, ok_asB'_b, ne_ii, ne_ss, ok_chkL, recv, ok_onL, List.map_cons, List.length_cons, List.length_nil, ixN0, List.eraseIdx_cons_zero, ok_mStore, RV.slot, List.set_cons_zero, List.set_cons_succ, ok_mSetIx, put_list, Option.map_some, add_ii, sub_ii, int_i, ok_mIf, ok_mAnd, ok_mOr, ok_mNot, ge_ii, gt_ii, lt_ii, le_ii, len_list, len_tup, list_list, list_tup, Nat.zero_add, Nat.reduceAdd, ok_vAnd, andP_b, ok_vOr, ok_vNot, notP_b, ok_mChain, insAt_slot, insAt_ref, insV_ref, insO_some, PV.ok_mFld, ok_mMeth, noneP_n, PV.ok_unpack2, fok_mk, Bool.false_eq_true, if_true, if_false, Bool.not_true, Bool.not_false, isL, ok_mLc, itA]
    refine ok_lc1 (f := fun d => .bool (isIx ms.length d)) (go _ ds hd) ?_
    simp only [ok_seq, seqP_nx, seqP_rt, endP_rt, endP_nx, mPopAt, ok_bnd, ok_ret, ok_app2, ok_app1, ok_appN, ok_oVar, ok_vVar, ok_mVar, ok_k1, ok_k2, ok_kN, ok_oCons, ok_mCons, ok_call, okO_some, res_val, res_slot, resAll_nil, resAll_cons, resC_some, slotV_shr, slotV_own, deref_ref, deref_int, deref_list, deref_tup, deref_str, deref_bool, deref_dict, deref_non, deS_lst, fz_lst, fz_dct, List.getElem?_cons_zero, List.getElem?_cons_succ, ix_list_i, ix_tup_i, at0, at1, at2, at3, oS_some, ok_frz_sh, ok_frz_lst, ok_frz_dct, eq_ii, eq_ss, ok_asB_b, ok_asB'_b, ne_ii, ne_ss, ok_chkL, recv, ok_onL, List.map_cons, List.length_cons, List.length_nil, ixN0, List.eraseIdx_cons_zero, ok_mStore, RV.slot, List.set_cons_zero, List.set_cons_succ, ok_mSetIx, put_list, Option.map_some, add_ii, sub_ii, int_i, ok_mIf, ok_mAnd, ok_mOr, ok_mNot, ge_ii, gt_ii, lt_ii, le_ii, len_list, len_tup, list_list, list_tup, Nat.zero_add, Nat.reduceAdd, ok_vAnd, andP_b, ok_vOr, ok_vNot, notP_b, ok_mChain, insAt_slot, insAt_ref, insV_ref, insO_some, PV.ok_mFld, ok_mMeth, noneP_n, PV.ok_unpack2, fok_mk, Bool.false_eq_true, if_true, if_false, Bool.not_true, Bool.not_false, all_map]
    exact ⟨rfl, rfl⟩
  | tup ds =>
    simp only [ok_seq, seqP_nx, seqP_rt, endP_rt, endP_nx, mPopAt, ok_bnd, ok_ret, ok_app2, ok_app1, ok_appN, ok_oVar, ok_vVar, ok_mVar, ok_k1, ok_k2, ok_kN, ok_oCons, ok_mCons, ok_call, okO_some, res_val, res_slot, resAll_nil, resAll_cons, resC_some, slotV_shr, slotV_own, deref_ref, deref_int, deref_list, deref_tup, deref_str, deref_bool, deref_dict, deref_non, deS_lst, fz_lst, fz_dct, List.getElem?_cons_zero, List.getElem?_cons_succ, ix_list_i, ix_tup_i, at0, at1, at2, at3, oS_some, ok_frz_sh, ok_frz_lst, ok_frz_dct, eq_ii, eq_ss, ok_asB_b, ok_asB'_b, ne_ii, ne_ss, ok_chkL, recv, ok_onL, List.map_cons, List.length_cons, List.length_nil, ixN0, List.eraseIdx_cons_zero, ok_mStore, RV.slot, List.set_cons_zero, List.set_cons_succ, ok_mSetIx, put_list, Option.map_some, add_ii, sub_ii, int_i, ok_mIf, ok_mAnd, ok_mOr, ok_mNot, ge_ii, gt_ii, lt_ii, le_ii, len_list, len_tup, list_list, list_tup, Nat.zero_add, Nat.reduceAdd, ok_vAnd, andP_b, ok_vOr, ok_vNot, notP_b, ok_mChain, insAt_slot, insAt_ref, insV_ref, insO_some, PV.ok_mFld, ok_mMeth, noneP_n, PV.ok_unpack2, fok_mk, Bool.false_eq_true, if_true, if_false, Bool.not_true, Bool.not_false, isL, ok_mLc, itA]
    refine ok_lc1 (f := fun d => .bool (isIx ms.length d)) (go _ ds hd) ?_
    simp only [ok_seq, seqP_nx, seqP_rt, endP_rt, endP_nx, mPopAt, ok_bnd, ok_ret, ok_app2, ok_app1, ok_appN, ok_oVar, ok_vVar, ok_mVar, ok_k1, ok_k2, ok_kN, ok_oCons, ok_mCons, ok_call, okO_some, res_val, res_slot, resAll_nil, resAll_cons, resC_some, slotV_shr, slotV_own, deref_ref, deref_int, deref_list, deref_tup, deref_str, deref_bool, deref_dict, deref_non, deS_lst, fz_lst, fz_dct, List.getElem?_cons_zero, List.getElem?_cons_succ, ix_list_i, ix_tup_i, at0, at1, at2, at3, oS_some, ok_frz_sh, ok_frz_lst, ok_frz_dct, eq_ii, eq_ss, ok_asB_b, ok_asB'_b, ne_ii, ne_ss, ok_chkL, recv, ok_onL, List.map_cons, List.length_cons, List.length_nil, ixN0, List.eraseIdx_cons_zero, ok_mStore, RV.slot, List.set_cons_zero, List.set_cons_succ, ok_mSetIx, put_list, Option.map_some, add_ii, sub_ii, int_i, ok_mIf, ok_mAnd, ok_mOr, ok_mNot, ge_ii, gt_ii, lt_ii, le_ii, len_list, len_tup, list_list, list_tup, Nat.zero_add, Nat.reduceAdd, ok_vAnd, andP_b, ok_vOr, ok_vNot, notP_b, ok_mChain, insAt_slot, insAt_ref, insV_ref, insO_some, PV.ok_mFld, ok_mMeth, noneP_n, PV.ok_unpack2, fok_mk, Bool.false_eq_true, if_true, if_false, Bool.not_true, Bool.not_false, all_map]
    exact ⟨rfl, rfl⟩
  | _ =>
    simp only [isL, Bool.false_eq_true, if_false, rowB]
    exact ⟨trivial, trivial⟩
end K02

namespace K02
open PySem hiding ret
open PySem.Spec L2 PV
/-! ### worths kept -/
def kvV (ws : List (Str × Val)) : List (Val × Val) := ws.map fun p => (.str p.1, p.2)
def getS : List (Str × Val) → Str → Option Val
  | [], _ => none
  | p :: r, k => if p.1 = k then some p.2 else getS r k
theorem dget_kv {k : Str} : ∀ ws : List (Str × Val), dget (kvV ws) (.str k) = getS ws k
  | [] => rfl
  | p :: ws => by
    show (if kEq (.str p.1) (.str k) = true then some p.2 else dget (kvV ws) (.str k)) = if p.1 = k then some p.2 else getS ws k
    rw [dget_kv ws, kEq_ss]
    by_cases h : p.1 = k <;> simp [h]
theorem dhas_kv {k : Str} : ∀ ws : List (Str × Val), dhas (kvV ws) (.str k) = (getS ws k).isSome
  | [] => rfl
  | p :: ws => by
    show (kEq (.str p.1) (.str k) || dhas (kvV ws) (.str k)) = (if p.1 = k then some p.2 else getS ws k).isSome
    rw [dhas_kv ws, kEq_ss]
    by_cases h : p.1 = k <;> simp [h]
/-- what is put by keys -/
def putS (ws : List (Str × Val)) (k : Str) (d : Val) : List (Str × Val) := if (getS ws k).isSome = true then ws.map (fun p => if p.1 = k then (p.1, d) else p) else ws ++ [(k, d)]
theorem dput_kv {k : Str} {d : Val} (ws : List (Str × Val)) : dput (kvV ws) (.str k) d = kvV (putS ws k d) := by
  unfold dput putS
  rw [dhas_kv]
  by_cases h : (getS ws k).isSome = true
  · rw [if_pos h, if_pos h]
    simp only [kvV, List.map_map]
    refine List.map_congr_left fun p _ => ?_
    simp only [Function.comp, kEq_ss]
    by_cases e : p.1 = k <;> simp [e]
  · rw [if_neg h, if_neg h]
    simp [kvV]
def mergeS (ws es : List (Str × Val)) : List (Str × Val) := es.foldl (fun acc p => putS acc p.1 p.2) ws
theorem merge_kv : ∀ (es ws : List (Str × Val)), mergeD (kvV ws) (kvV es) = kvV (mergeS ws es)
  | [], ws => rfl
  | p :: es, ws => by
    show mergeD (dput (kvV ws) (.str p.1) p.2) (kvV es) = kvV (mergeS (putS ws p.1 p.2) es)
    rw [dput_kv, merge_kv es]
theorem getS_none {k : Str} : ∀ {ws : List (Str × Val)}, getS ws k = none ↔ k ∉ ws.map (·.1)
  | [] => by simp [getS]
  | p :: ws => by
    show (if p.1 = k then some p.2 else getS ws k) = none ↔ _
    by_cases h : p.1 = k
    · simp [h]
    · rw [if_neg h, getS_none]
      simp [Ne.symm h]
theorem putS_keys {ws : List (Str × Val)} {k : Str} {d : Val} : (putS ws k d).map (·.1) = if k ∈ ws.map (·.1) then ws.map (·.1) else ws.map (·.1) ++ [k] := by
  unfold putS
  by_cases h : k ∈ ws.map (·.1)
  · have : (getS ws k).isSome = true := by
      cases e : getS ws k with
      | none => exact absurd h (getS_none.mp e)
      | some _ => rfl
    rw [if_pos this, if_pos h, List.map_map]
    refine List.map_congr_left fun p _ => ?_
    simp only [Function.comp]
    by_cases e : p.1 = k <;> simp [e]
  · rw [if_neg (by rw [getS_none.mpr h]; simp), if_neg h, List.map_append]
    rfl
theorem mergeS_nodup : ∀ (es ws : List (Str × Val)), (ws.map (·.1) ++ es.map (·.1)).Nodup → mergeS ws es = ws ++ es
  | [], ws, _ => by rw [List.append_nil]; rfl
  | p :: es, ws, h => by
    have hno : p.1 ∉ ws.map (·.1) := fun z => by
      rw [List.nodup_append] at h
      exact h.2.2 p.1 z p.1 List.mem_cons_self rfl
    show mergeS (putS ws p.1 p.2) es = _
    have e : putS ws p.1 p.2 = ws ++ [p] := by
      unfold putS
      rw [if_neg (by rw [getS_none.mpr hno]; simp)]
    rw [e, mergeS_nodup es _ (by simpa using h), List.append_assoc]
    rfl
theorem mergeS_le : ∀ (es ws : List (Str × Val)), (mergeS ws es).length ≤ ws.length + es.length
  | [], ws => Nat.le_refl _
  | p :: es, ws => by
    have h := mergeS_le es (putS ws p.1 p.2)
    have e : (putS ws p.1 p.2).length ≤ ws.length + 1 := by
      have := congrArg List.length (putS_keys (ws := ws) (k := p.1) (d := p.2))
      split at this <;> simp at this <;> omega
    show (mergeS (putS ws p.1 p.2) es).length ≤ ws.length + (es.length + 1)
    omega
theorem mergeS_eq : ∀ (es ws : List (Str × Val)), (ws.map (·.1)).Nodup → (mergeS ws es).length = ws.length + es.length → (ws.map (·.1) ++ es.map (·.1)).Nodup
  | [], ws, nd, _ => by simpa using nd
  | p :: es, ws, nd, h => by
    have h' : (mergeS (putS ws p.1 p.2) es).length = ws.length + (es.length + 1) := h
    have hle := mergeS_le es (putS ws p.1 p.2)
    have hk := putS_keys (ws := ws) (k := p.1) (d := p.2)
    by_cases hm : p.1 ∈ ws.map (·.1)
    · rw [if_pos hm] at hk
      have := congrArg List.length hk
      simp at this
      omega
    · rw [if_neg hm] at hk
      have hl := congrArg List.length hk
      simp at hl
      have nd' : ((putS ws p.1 p.2).map (·.1)).Nodup := by
        rw [hk, List.nodup_append]
        exact ⟨nd, by simp, fun a ha b hb => by rw [List.mem_singleton] at hb; subst hb; exact fun z => hm (z ▸ ha)⟩
      have := mergeS_eq es _ nd' (by rw [h', hl]; omega)
      rw [hk] at this
      simpa using this
def isIO : Option Val → Bool
  | some (.int _) => true
  | _ => false
/-- are those worths of the hands -/
def keptD (hs : List Str) (ws : List (Str × Val)) : Bool := decide (ws.length = hs.length) && hs.all fun h => isIO (getS ws h)
def noRefW (ws : List (Str × Val)) : Prop := ∀ p ∈ ws, noRef p.2 = true
theorem getS_mem {k : Str} {d : Val} : ∀ {ws : List (Str × Val)}, getS ws k = some d → (k, d) ∈ ws
  | [], h => by cases h
  | p :: ws, h => by
    have h' : (if p.1 = k then some p.2 else getS ws k) = some d := h
    by_cases e : p.1 = k
    · rw [if_pos e] at h'
      cases h'
      exact e ▸ List.mem_cons_self
    · rw [if_neg e] at h'
      exact List.mem_cons_of_mem _ (getS_mem h')
def isN : RV → Bool
  | .sh .none => true
  | _ => false
def notFr : RV → Bool
  | .fr (.ins _ _) => false
  | .sh (.ref _) => false
  | _ => true
theorem in_kv {ws : List (Str × Val)} {k : Str} : fIn false (.str k) (.dict (kvV ws)) = some (.sh (.bool (getS ws k).isSome)) := by
  show oB ((some (dget (kvV ws) (.str k)).isSome).map fun b => if false = true then !b else b) = _
  rw [dget_kv]; rfl
theorem ix_kv {ws : List (Str × Val)} {k : Str} : fIx (.dict (kvV ws)) (.str k) = oS (getS ws k) := by
  show oS (dget (kvV ws) (.str k)) = _
  rw [dget_kv]
theorem len_dict {kvs : List (Val × Val)} : fLen [.dict kvs] = some (.sh (.int kvs.length)) := rfl
theorem isi_dict {kvs : List (Val × Val)} : fIsi .dict (.dict kvs) = some (.sh (.bool true)) := rfl
theorem isi_dict_l {ds : List Val} : fIsi .dict (.list ds) = some (.sh (.bool false)) := rfl
theorem isi_dict_t {ds : List Val} : fIsi .dict (.tup ds) = some (.sh (.bool false)) := rfl

theorem kept_dict_1 {S : List MO} {hs : List Str} {ws : List (Str × Val)} (hr : noRefW ws) (nd : hs.Nodup) : FOk (F_kept_worths_1 [.dict (kvV ws), .list (hs.map .str)] S) fun r S' => (r = if keptD hs ws = true then .fr (.dct (kvV (hs.map fun h => (h, (getS ws h).getD .none)))) else .sh .none) ∧ S' = S := by
  unfold F_kept_worths_1 b_kept_worths_1
  rw [fok_def]
  have e1 : ([.dict (kvV ws), .list (hs.map .str)] : List Val).map PV.Slot.shr ++ List.replicate (5 - ([.dict (kvV ws), .list (hs.map .str)] : List Val).length) PV.Slot.unb = [.shr (.dict (kvV ws)), .shr (.list (hs.map .str)), .unb, .unb, .unb] := rfl
  rw [e1]
  have el : (kvV ws).length = ws.length := by simp [kvV]
  simp only [ok_seq, seqP_nx, seqP_rt, endP_rt, endP_nx, mPopAt, ok_bnd, ok_ret, ok_app2, ok_app1, ok_appN, ok_oVar, ok_vVar, ok_mVar, ok_k1, ok_k2, ok_kN, ok_oCons, ok_mCons, ok_call, okO_some, res_val, res_slot, resAll_nil, resAll_cons, resC_some, slotV_shr, slotV_own, deref_ref, deref_int, deref_list, deref_tup, deref_str, deref_bool, deref_dict, deref_non, deS_lst, fz_lst, fz_dct, List.getElem?_cons_zero, List.getElem?_cons_succ, ix_list_i, ix_tup_i, at0, at1, at2, at3, oS_some, ok_frz_sh, ok_frz_lst, ok_frz_dct, eq_ii, eq_ss, ok_asB_b, ok_asB'_b, ne_ii, ne_ss, ok_chkL, recv, ok_onL, List.map_cons, List.length_cons, List.length_nil, ixN0, List.eraseIdx_cons_zero, ok_mStore, RV.slot, List.set_cons_zero, List.set_cons_succ, ok_mSetIx, put_list, Option.map_some, add_ii, sub_ii, int_i, ok_mIf, ok_mAnd, ok_mOr, ok_mNot, ge_ii, gt_ii, lt_ii, le_ii, len_list, len_tup, list_list, list_tup, Nat.zero_add, Nat.reduceAdd, ok_vAnd, andP_b, ok_vOr, ok_vNot, notP_b, ok_mChain, insAt_slot, insAt_ref, insV_ref, insO_some, PV.ok_mFld, ok_mMeth, noneP_n, PV.ok_unpack2, fok_mk, Bool.false_eq_true, if_true, if_false, Bool.not_true, Bool.not_false, isi_dict, len_dict, List.length_map, el]
  by_cases hl : ws.length = hs.length
  · simp only [hl, beq_self_eq_true, Bool.not_true, Bool.false_eq_true, if_false, ok_mLc, itA, ok_ret]
    have key : ∀ h : Str, Ok (k1e_kept_worths_1 ⟨[PV.Slot.shr (.dict (kvV ws)), .shr (.list (hs.map .str)), .unb, .unb, .unb].set 2 (.shr (.str h)), S⟩) fun y s => y = .bool (isIO (getS ws h)) ∧ s = ⟨[PV.Slot.shr (.dict (kvV ws)), .shr (.list (hs.map .str)), .unb, .unb, .unb].set 2 (.shr (.str h)), S⟩ := by
      intro h
      unfold k1e_kept_worths_1
      simp only [ok_seq, seqP_nx, seqP_rt, endP_rt, endP_nx, mPopAt, ok_bnd, ok_ret, ok_app2, ok_app1, ok_appN, ok_oVar, ok_vVar, ok_mVar, ok_k1, ok_k2, ok_kN, ok_oCons, ok_mCons, ok_call, okO_some, res_val, res_slot, resAll_nil, resAll_cons, resC_some, slotV_shr, slotV_own, deref_ref, deref_int, deref_list, deref_tup, deref_str, deref_bool, deref_dict, deref_non, deS_lst, fz_lst, fz_dct, List.getElem?_cons_zero, List.getElem?_cons_succ, ix_list_i, ix_tup_i, at0, at1, at2, at3, oS_some, ok_frz_sh, ok_frz_lst, ok_frz_dct, eq_ii, eq_ss, ok_asB_b, ok_asB'_b, ne_ii, ne_ss, ok_chkL, recv, ok_onL, List.map_cons, List.length_cons, List.length_nil, ixN0, List.eraseIdx_cons_zero, ok_mStore, RV.slot, List.set_cons_zero, List.set_cons_succ, ok_mSetIx, put_list, Option.map_some, add_ii, sub_ii, int_i, ok_mIf, ok_mAnd, ok_mOr, ok_mNot, ge_ii, gt_ii, lt_ii, le_ii, len_list, len_tup, list_list, list_tup, Nat.zero_add, Nat.reduceAdd, ok_vAnd, andP_b, ok_vOr, ok_vNot, notP_b, ok_mChain, insAt_slot, insAt_ref, insV_ref, insO_some, PV.ok_mFld, ok_mMeth, noneP_n, PV.ok_unpack2, fok_mk, Bool.false_eq_true, if_true, if_false, Bool.not_true, Bool.not_false, in_kv]
      cases eg : getS ws h with
      | none =>
        simp only [Option.isSome_none, Bool.false_eq_true, if_false, isIO]
        exact ⟨trivial, trivial⟩
      | some d =>
        have hd := hr _ (getS_mem eg)
        simp only [ok_seq, seqP_nx, seqP_rt, endP_rt, endP_nx, mPopAt, ok_bnd, ok_ret, ok_app2, ok_app1, ok_appN, ok_oVar, ok_vVar, ok_mVar, ok_k1, ok_k2, ok_kN, ok_oCons, ok_mCons, ok_call, okO_some, res_val, res_slot, resAll_nil, resAll_cons, resC_some, slotV_shr, slotV_own, deref_ref, deref_int, deref_list, deref_tup, deref_str, deref_bool, deref_dict, deref_non, deS_lst, fz_lst, fz_dct, List.getElem?_cons_zero, List.getElem?_cons_succ, ix_list_i, ix_tup_i, at0, at1, at2, at3, oS_some, ok_frz_sh, ok_frz_lst, ok_frz_dct, eq_ii, eq_ss, ok_asB_b, ok_asB'_b, ne_ii, ne_ss, ok_chkL, recv, ok_onL, List.map_cons, List.length_cons, List.length_nil, ixN0, List.eraseIdx_cons_zero, ok_mStore, RV.slot, List.set_cons_zero, List.set_cons_succ, ok_mSetIx, put_list, Option.map_some, add_ii, sub_ii, int_i, ok_mIf, ok_mAnd, ok_mOr, ok_mNot, ge_ii, gt_ii, lt_ii, le_ii, len_list, len_tup, list_list, list_tup, Nat.zero_add, Nat.reduceAdd, ok_vAnd, andP_b, ok_vOr, ok_vNot, notP_b, ok_mChain, insAt_slot, insAt_ref, insV_ref, insO_some, PV.ok_mFld, ok_mMeth, noneP_n, PV.ok_unpack2, fok_mk, Bool.false_eq_true, if_true, if_false, Bool.not_true, Bool.not_false, Option.isSome_some, ix_kv, eg, is_integer_any hd]
        cases d <;> exact ⟨rfl, trivial⟩
    refine ok_lc1 (f := fun d => match d with | .str h => .bool (isIO (getS ws h)) | _ => .none) (fun d hd => ?_) ?_
    · obtain ⟨h, _, rfl⟩ := List.mem_map.mp hd
      exact key h
    · have em : (hs.map Val.str).map (fun d => match d with | .str h => Val.bool (isIO (getS ws h)) | _ => .none) = (hs.map Val.str).map fun d => .bool (match d with | .str h => isIO (getS ws h) | _ => false) := by
        rw [List.map_map, List.map_map]; rfl
      rw [em]
      have ea : (hs.map Val.str).all (fun d => match d with | .str h => isIO (getS ws h) | _ => false) = hs.all fun h => isIO (getS ws h) := by
        rw [List.all_map]; rfl
      simp only [ok_seq, seqP_nx, seqP_rt, endP_rt, endP_nx, mPopAt, ok_bnd, ok_ret, ok_app2, ok_app1, ok_appN, ok_oVar, ok_vVar, ok_mVar, ok_k1, ok_k2, ok_kN, ok_oCons, ok_mCons, ok_call, okO_some, res_val, res_slot, resAll_nil, resAll_cons, resC_some, slotV_shr, slotV_own, deref_ref, deref_int, deref_list, deref_tup, deref_str, deref_bool, deref_dict, deref_non, deS_lst, fz_lst, fz_dct, List.getElem?_cons_zero, List.getElem?_cons_succ, ix_list_i, ix_tup_i, at0, at1, at2, at3, oS_some, ok_frz_sh, ok_frz_lst, ok_frz_dct, eq_ii, eq_ss, ok_asB_b, ok_asB'_b, ne_ii, ne_ss, ok_chkL, recv, ok_onL, List.map_cons, List.length_cons, List.length_nil, ixN0, List.eraseIdx_cons_zero, ok_mStore, RV.slot, List.set_cons_zero, List.set_cons_succ, ok_mSetIx, put_list, Option.map_some, add_ii, sub_ii, int_i, ok_mIf, ok_mAnd, ok_mOr, ok_mNot, ge_ii, gt_ii, lt_ii, le_ii, len_list, len_tup, list_list, list_tup, Nat.zero_add, Nat.reduceAdd, ok_vAnd, andP_b, ok_vOr, ok_vNot, notP_b, ok_mChain, insAt_slot, insAt_ref, insV_ref, insO_some, PV.ok_mFld, ok_mMeth, noneP_n, PV.ok_unpack2, fok_mk, Bool.false_eq_true, if_true, if_false, Bool.not_true, Bool.not_false, all_map, ea]
      have ek : keptD hs ws = hs.all fun h => isIO (getS ws h) := by
        unfold keptD
        rw [decide_eq_true hl, Bool.true_and]
      rw [ek]
      by_cases ha : (hs.all fun h => isIO (getS ws h)) = true
      · rw [if_neg (by rw [ha]; decide), if_pos ha]
        simp only [ok_seq, seqP_nx, seqP_rt, endP_rt, endP_nx, mPopAt, ok_bnd, ok_ret, ok_app2, ok_app1, ok_appN, ok_oVar, ok_vVar, ok_mVar, ok_k1, ok_k2, ok_kN, ok_oCons, ok_mCons, ok_call, okO_some, res_val, res_slot, resAll_nil, resAll_cons, resC_some, slotV_shr, slotV_own, deref_ref, deref_int, deref_list, deref_tup, deref_str, deref_bool, deref_dict, deref_non, deS_lst, fz_lst, fz_dct, List.getElem?_cons_zero, List.getElem?_cons_succ, ix_list_i, ix_tup_i, at0, at1, at2, at3, oS_some, ok_frz_sh, ok_frz_lst, ok_frz_dct, eq_ii, eq_ss, ok_asB_b, ok_asB'_b, ne_ii, ne_ss, ok_chkL, recv, ok_onL, List.map_cons, List.length_cons, List.length_nil, ixN0, List.eraseIdx_cons_zero, ok_mStore, RV.slot, List.set_cons_zero, List.set_cons_succ, ok_mSetIx, put_list, Option.map_some, add_ii, sub_ii, int_i, ok_mIf, ok_mAnd, ok_mOr, ok_mNot, ge_ii, gt_ii, lt_ii, le_ii, len_list, len_tup, list_list, list_tup, Nat.zero_add, Nat.reduceAdd, ok_vAnd, andP_b, ok_vOr, ok_vNot, notP_b, ok_mChain, insAt_slot, insAt_ref, insV_ref, insO_some, PV.ok_mFld, ok_mMeth, noneP_n, PV.ok_unpack2, fok_mk, Bool.false_eq_true, if_true, if_false, Bool.not_true, Bool.not_false, ok_mDc, itA]
        have er : restS [2] ⟨[.shr (.dict (kvV ws)), .shr (.list (hs.map .str)), .unb, .unb, .unb], S⟩ ⟨[PV.Slot.shr (.dict (kvV ws)), .shr (.list (hs.map .str)), .unb, .unb, .unb].set 2 .unb, S⟩ = ⟨[.shr (.dict (kvV ws)), .shr (.list (hs.map .str)), .unb, .unb, .unb], S⟩ := rfl
        simp only [List.set_cons_succ, List.set_cons_zero] at er
        simp only [er, ok_seq, seqP_nx, seqP_rt, endP_rt, endP_nx, mPopAt, ok_bnd, ok_ret, ok_app2, ok_app1, ok_appN, ok_oVar, ok_vVar, ok_mVar, ok_k1, ok_k2, ok_kN, ok_oCons, ok_mCons, ok_call, okO_some, res_val, res_slot, resAll_nil, resAll_cons, resC_some, slotV_shr, slotV_own, deref_ref, deref_int, deref_list, deref_tup, deref_str, deref_bool, deref_dict, deref_non, deS_lst, fz_lst, fz_dct, List.getElem?_cons_zero, List.getElem?_cons_succ, ix_list_i, ix_tup_i, at0, at1, at2, at3, oS_some, ok_frz_sh, ok_frz_lst, ok_frz_dct, eq_ii, eq_ss, ok_asB_b, ok_asB'_b, ne_ii, ne_ss, ok_chkL, recv, ok_onL, List.map_cons, List.length_cons, List.length_nil, ixN0, List.eraseIdx_cons_zero, ok_mStore, RV.slot, List.set_cons_zero, List.set_cons_succ, ok_mSetIx, put_list, Option.map_some, add_ii, sub_ii, int_i, ok_mIf, ok_mAnd, ok_mOr, ok_mNot, ge_ii, gt_ii, lt_ii, le_ii, len_list, len_tup, list_list, list_tup, Nat.zero_add, Nat.reduceAdd, ok_vAnd, andP_b, ok_vOr, ok_vNot, notP_b, ok_mChain, insAt_slot, insAt_ref, insV_ref, insO_some, PV.ok_mFld, ok_mMeth, noneP_n, PV.ok_unpack2, fok_mk, Bool.false_eq_true, if_true, if_false, Bool.not_true, Bool.not_false]
        have hsome : ∀ h ∈ hs, ∃ d, getS ws h = some d := fun h hm => by
          have := List.all_eq_true.mp ha h hm
          cases eg : getS ws h with
          | none => rw [eg] at this; cases this
          | some d => exact ⟨d, rfl⟩
        refine ok_dc1 (g := fun d => d) (f := fun d => match d with | .str h => (getS ws h).getD .none | _ => .none) (fun d hd => ?_) (fun d hd => ?_) (fun d hd => ?_) ?_
        · obtain ⟨h, _, rfl⟩ := List.mem_map.mp hd
          unfold k2k_kept_worths_1
          simp only [ok_seq, seqP_nx, seqP_rt, endP_rt, endP_nx, mPopAt, ok_bnd, ok_ret, ok_app2, ok_app1, ok_appN, ok_oVar, ok_vVar, ok_mVar, ok_k1, ok_k2, ok_kN, ok_oCons, ok_mCons, ok_call, okO_some, res_val, res_slot, resAll_nil, resAll_cons, resC_some, slotV_shr, slotV_own, deref_ref, deref_int, deref_list, deref_tup, deref_str, deref_bool, deref_dict, deref_non, deS_lst, fz_lst, fz_dct, List.getElem?_cons_zero, List.getElem?_cons_succ, ix_list_i, ix_tup_i, at0, at1, at2, at3, oS_some, ok_frz_sh, ok_frz_lst, ok_frz_dct, eq_ii, eq_ss, ok_asB_b, ok_asB'_b, ne_ii, ne_ss, ok_chkL, recv, ok_onL, List.map_cons, List.length_cons, List.length_nil, ixN0, List.eraseIdx_cons_zero, ok_mStore, RV.slot, List.set_cons_zero, List.set_cons_succ, ok_mSetIx, put_list, Option.map_some, add_ii, sub_ii, int_i, ok_mIf, ok_mAnd, ok_mOr, ok_mNot, ge_ii, gt_ii, lt_ii, le_ii, len_list, len_tup, list_list, list_tup, Nat.zero_add, Nat.reduceAdd, ok_vAnd, andP_b, ok_vOr, ok_vNot, notP_b, ok_mChain, insAt_slot, insAt_ref, insV_ref, insO_some, PV.ok_mFld, ok_mMeth, noneP_n, PV.ok_unpack2, fok_mk, Bool.false_eq_true, if_true, if_false, Bool.not_true, Bool.not_false]
          exact ⟨trivial, trivial⟩
        · obtain ⟨h, hm, rfl⟩ := List.mem_map.mp hd
          unfold k3e_kept_worths_1
          obtain ⟨d, eg⟩ := hsome h hm
          simp only [ok_seq, seqP_nx, seqP_rt, endP_rt, endP_nx, mPopAt, ok_bnd, ok_ret, ok_app2, ok_app1, ok_appN, ok_oVar, ok_vVar, ok_mVar, ok_k1, ok_k2, ok_kN, ok_oCons, ok_mCons, ok_call, okO_some, res_val, res_slot, resAll_nil, resAll_cons, resC_some, slotV_shr, slotV_own, deref_ref, deref_int, deref_list, deref_tup, deref_str, deref_bool, deref_dict, deref_non, deS_lst, fz_lst, fz_dct, List.getElem?_cons_zero, List.getElem?_cons_succ, ix_list_i, ix_tup_i, at0, at1, at2, at3, oS_some, ok_frz_sh, ok_frz_lst, ok_frz_dct, eq_ii, eq_ss, ok_asB_b, ok_asB'_b, ne_ii, ne_ss, ok_chkL, recv, ok_onL, List.map_cons, List.length_cons, List.length_nil, ixN0, List.eraseIdx_cons_zero, ok_mStore, RV.slot, List.set_cons_zero, List.set_cons_succ, ok_mSetIx, put_list, Option.map_some, add_ii, sub_ii, int_i, ok_mIf, ok_mAnd, ok_mOr, ok_mNot, ge_ii, gt_ii, lt_ii, le_ii, len_list, len_tup, list_list, list_tup, Nat.zero_add, Nat.reduceAdd, ok_vAnd, andP_b, ok_vOr, ok_vNot, notP_b, ok_mChain, insAt_slot, insAt_ref, insV_ref, insO_some, PV.ok_mFld, ok_mMeth, noneP_n, PV.ok_unpack2, fok_mk, Bool.false_eq_true, if_true, if_false, Bool.not_true, Bool.not_false, ix_kv, eg]
          exact ⟨rfl, trivial⟩
        · obtain ⟨h, _, rfl⟩ := List.mem_map.mp hd
          rfl
        · simp only [ok_seq, seqP_nx, seqP_rt, endP_rt, endP_nx, mPopAt, ok_bnd, ok_ret, ok_app2, ok_app1, ok_appN, ok_oVar, ok_vVar, ok_mVar, ok_k1, ok_k2, ok_kN, ok_oCons, ok_mCons, ok_call, okO_some, res_val, res_slot, resAll_nil, resAll_cons, resC_some, slotV_shr, slotV_own, deref_ref, deref_int, deref_list, deref_tup, deref_str, deref_bool, deref_dict, deref_non, deS_lst, fz_lst, fz_dct, List.getElem?_cons_zero, List.getElem?_cons_succ, ix_list_i, ix_tup_i, at0, at1, at2, at3, oS_some, ok_frz_sh, ok_frz_lst, ok_frz_dct, eq_ii, eq_ss, ok_asB_b, ok_asB'_b, ne_ii, ne_ss, ok_chkL, recv, ok_onL, List.map_cons, List.length_cons, List.length_nil, ixN0, List.eraseIdx_cons_zero, ok_mStore, RV.slot, List.set_cons_zero, List.set_cons_succ, ok_mSetIx, put_list, Option.map_some, add_ii, sub_ii, int_i, ok_mIf, ok_mAnd, ok_mOr, ok_mNot, ge_ii, gt_ii, lt_ii, le_ii, len_list, len_tup, list_list, list_tup, Nat.zero_add, Nat.reduceAdd, ok_vAnd, andP_b, ok_vOr, ok_vNot, notP_b, ok_mChain, insAt_slot, insAt_ref, insV_ref, insO_some, PV.ok_mFld, ok_mMeth, noneP_n, PV.ok_unpack2, fok_mk, Bool.false_eq_true, if_true, if_false, Bool.not_true, Bool.not_false]
          refine ⟨?_, rfl⟩
          have e2 : ((hs.map Val.str).map fun d => (d, (match d with | .str h => (getS ws h).getD .none | _ => .none : Val))) = kvV (hs.map fun h => (h, (getS ws h).getD .none)) := by
            simp only [kvV, List.map_map]; rfl
          rw [e2]
          have e3 := merge_kv (hs.map fun h => (h, (getS ws h).getD Val.none)) []
          rw [mergeS_nodup _ _ (by rw [List.map_map]; show (([] : List Str) ++ hs.map fun h => h).Nodup; rw [List.map_id', List.nil_append]; exact nd)] at e3
          exact congrArg (fun z => RV.fr (.dct z)) e3
      · rw [if_pos (by simpa using ha), if_neg ha]
        exact ⟨rfl, rfl⟩
  · have hne : ((ws.length : Int) == (hs.length : Int)) = false := by simpa using fun z => hl (by exact_mod_cast z)
    simp only [ok_seq, seqP_nx, seqP_rt, endP_rt, endP_nx, mPopAt, ok_bnd, ok_ret, ok_app2, ok_app1, ok_appN, ok_oVar, ok_vVar, ok_mVar, ok_k1, ok_k2, ok_kN, ok_oCons, ok_mCons, ok_call, okO_some, res_val, res_slot, resAll_nil, resAll_cons, resC_some, slotV_shr, slotV_own, deref_ref, deref_int, deref_list, deref_tup, deref_str, deref_bool, deref_dict, deref_non, deS_lst, fz_lst, fz_dct, List.getElem?_cons_zero, List.getElem?_cons_succ, ix_list_i, ix_tup_i, at0, at1, at2, at3, oS_some, ok_frz_sh, ok_frz_lst, ok_frz_dct, eq_ii, eq_ss, ok_asB_b, ok_asB'_b, ne_ii, ne_ss, ok_chkL, recv, ok_onL, List.map_cons, List.length_cons, List.length_nil, ixN0, List.eraseIdx_cons_zero, ok_mStore, RV.slot, List.set_cons_zero, List.set_cons_succ, ok_mSetIx, put_list, Option.map_some, add_ii, sub_ii, int_i, ok_mIf, ok_mAnd, ok_mOr, ok_mNot, ge_ii, gt_ii, lt_ii, le_ii, len_list, len_tup, list_list, list_tup, Nat.zero_add, Nat.reduceAdd, ok_vAnd, andP_b, ok_vOr, ok_vNot, notP_b, ok_mChain, insAt_slot, insAt_ref, insV_ref, insO_some, PV.ok_mFld, ok_mMeth, noneP_n, PV.ok_unpack2, fok_mk, Bool.false_eq_true, if_true, if_false, Bool.not_true, Bool.not_false, hne]
    have ek : keptD hs ws = false := by
      unfold keptD
      rw [decide_eq_false hl, Bool.false_and]
    rw [ek]
    exact ⟨rfl, trivial⟩

theorem kept_dict_2 {S : List MO} {hs : List Str} {ws : List (Str × Val)} (hr : noRefW ws) (nd : hs.Nodup) : FOk (F_kept_worths_2 [.dict (kvV ws), .list (hs.map .str)] S) fun r S' => (r = if keptD hs ws = true then .fr (.dct (kvV (hs.map fun h => (h, (getS ws h).getD .none)))) else .sh .none) ∧ S' = S := by
  unfold F_kept_worths_2 b_kept_worths_2
  rw [fok_def]
  have e1 : ([.dict (kvV ws), .list (hs.map .str)] : List Val).map PV.Slot.shr ++ List.replicate (5 - ([.dict (kvV ws), .list (hs.map .str)] : List Val).length) PV.Slot.unb = [.shr (.dict (kvV ws)), .shr (.list (hs.map .str)), .unb, .unb, .unb] := rfl
  rw [e1]
  have el : (kvV ws).length = ws.length := by simp [kvV]
  simp only [ok_seq, seqP_nx, seqP_rt, endP_rt, endP_nx, mPopAt, ok_bnd, ok_ret, ok_app2, ok_app1, ok_appN, ok_oVar, ok_vVar, ok_mVar, ok_k1, ok_k2, ok_kN, ok_oCons, ok_mCons, ok_call, okO_some, res_val, res_slot, resAll_nil, resAll_cons, resC_some, slotV_shr, slotV_own, deref_ref, deref_int, deref_list, deref_tup, deref_str, deref_bool, deref_dict, deref_non, deS_lst, fz_lst, fz_dct, List.getElem?_cons_zero, List.getElem?_cons_succ, ix_list_i, ix_tup_i, at0, at1, at2, at3, oS_some, ok_frz_sh, ok_frz_lst, ok_frz_dct, eq_ii, eq_ss, ok_asB_b, ok_asB'_b, ne_ii, ne_ss, ok_chkL, recv, ok_onL, List.map_cons, List.length_cons, List.length_nil, ixN0, List.eraseIdx_cons_zero, ok_mStore, RV.slot, List.set_cons_zero, List.set_cons_succ, ok_mSetIx, put_list, Option.map_some, add_ii, sub_ii, int_i, ok_mIf, ok_mAnd, ok_mOr, ok_mNot, ge_ii, gt_ii, lt_ii, le_ii, len_list, len_tup, list_list, list_tup, Nat.zero_add, Nat.reduceAdd, ok_vAnd, andP_b, ok_vOr, ok_vNot, notP_b, ok_mChain, insAt_slot, insAt_ref, insV_ref, insO_some, PV.ok_mFld, ok_mMeth, noneP_n, PV.ok_unpack2, fok_mk, Bool.false_eq_true, if_true, if_false, Bool.not_true, Bool.not_false, isi_dict, len_dict, List.length_map, el]
  by_cases hl : ws.length = hs.length
  · simp only [hl, beq_self_eq_true, Bool.not_true, Bool.false_eq_true, if_false, ok_mLc, itA, ok_ret]
    have key : ∀ h : Str, Ok (k1e_kept_worths_2 ⟨[PV.Slot.shr (.dict (kvV ws)), .shr (.list (hs.map .str)), .unb, .unb, .unb].set 2 (.shr (.str h)), S⟩) fun y s => y = .bool (isIO (getS ws h)) ∧ s = ⟨[PV.Slot.shr (.dict (kvV ws)), .shr (.list (hs.map .str)), .unb, .unb, .unb].set 2 (.shr (.str h)), S⟩ := by
      intro h
      unfold k1e_kept_worths_2
      simp only [ok_seq, seqP_nx, seqP_rt, endP_rt, endP_nx, mPopAt, ok_bnd, ok_ret, ok_app2, ok_app1, ok_appN, ok_oVar, ok_vVar, ok_mVar, ok_k1, ok_k2, ok_kN, ok_oCons, ok_mCons, ok_call, okO_some, res_val, res_slot, resAll_nil, resAll_cons, resC_some, slotV_shr, slotV_own, deref_ref, deref_int, deref_list, deref_tup, deref_str, deref_bool, deref_dict, deref_non, deS_lst, fz_lst, fz_dct, List.getElem?_cons_zero, List.getElem?_cons_succ, ix_list_i, ix_tup_i, at0, at1, at2, at3, oS_some, ok_frz_sh, ok_frz_lst, ok_frz_dct, eq_ii, eq_ss, ok_asB_b, ok_asB'_b, ne_ii, ne_ss, ok_chkL, recv, ok_onL, List.map_cons, List.length_cons, List.length_nil, ixN0, List.eraseIdx_cons_zero, ok_mStore, RV.slot, List.set_cons_zero, List.set_cons_succ, ok_mSetIx, put_list, Option.map_some, add_ii, sub_ii, int_i, ok_mIf, ok_mAnd, ok_mOr, ok_mNot, ge_ii, gt_ii, lt_ii, le_ii, len_list, len_tup, list_list, list_tup, Nat.zero_add, Nat.reduceAdd, ok_vAnd, andP_b, ok_vOr, ok_vNot, notP_b, ok_mChain, insAt_slot, insAt_ref, insV_ref, insO_some, PV.ok_mFld, ok_mMeth, noneP_n, PV.ok_unpack2, fok_mk, Bool.false_eq_true, if_true, if_false, Bool.not_true, Bool.not_false, in_kv]
      cases eg : getS ws h with
      | none =>
        simp only [Option.isSome_none, Bool.false_eq_true, if_false, isIO]
        exact ⟨trivial, trivial⟩
      | some d =>
        have hd := hr _ (getS_mem eg)
        simp only [ok_seq, seqP_nx, seqP_rt, endP_rt, endP_nx, mPopAt, ok_bnd, ok_ret, ok_app2, ok_app1, ok_appN, ok_oVar, ok_vVar, ok_mVar, ok_k1, ok_k2, ok_kN, ok_oCons, ok_mCons, ok_call, okO_some, res_val, res_slot, resAll_nil, resAll_cons, resC_some, slotV_shr, slotV_own, deref_ref, deref_int, deref_list, deref_tup, deref_str, deref_bool, deref_dict, deref_non, deS_lst, fz_lst, fz_dct, List.getElem?_cons_zero, List.getElem?_cons_succ, ix_list_i, ix_tup_i, at0, at1, at2, at3, oS_some, ok_frz_sh, ok_frz_lst, ok_frz_dct, eq_ii, eq_ss, ok_asB_b, ok_asB'_b, ne_ii, ne_ss, ok_chkL, recv, ok_onL, List.map_cons, List.length_cons, List.length_nil, ixN0, List.eraseIdx_cons_zero, ok_mStore, RV.slot, List.set_cons_zero, List.set_cons_succ, ok_mSetIx, put_list, Option.map_some, add_ii, sub_ii, int_i, ok_mIf, ok_mAnd, ok_mOr, ok_mNot, ge_ii, gt_ii, lt_ii, le_ii, len_list, len_tup, list_list, list_tup, Nat.zero_add, Nat.reduceAdd, ok_vAnd, andP_b, ok_vOr, ok_vNot, notP_b, ok_mChain, insAt_slot, insAt_ref, insV_ref, insO_some, PV.ok_mFld, ok_mMeth, noneP_n, PV.ok_unpack2, fok_mk, Bool.false_eq_true, if_true, if_false, Bool.not_true, Bool.not_false, Option.isSome_some, ix_kv, eg, is_integer_any hd]
        cases d <;> exact ⟨rfl, trivial⟩
    refine ok_lc1 (f := fun d => match d with | .str h => .bool (isIO (getS ws h)) | _ => .none) (fun d hd => ?_) ?_
    · obtain ⟨h, _, rfl⟩ := List.mem_map.mp hd
      exact key h
    · have em : (hs.map Val.str).map (fun d => match d with | .str h => Val.bool (isIO (getS ws h)) | _ => .none) = (hs.map Val.str).map fun d => .bool (match d with | .str h => isIO (getS ws h) | _ => false) := by
        rw [List.map_map, List.map_map]; rfl
      rw [em]
      have ea : (hs.map Val.str).all (fun d => match d with | .str h => isIO (getS ws h) | _ => false) = hs.all fun h => isIO (getS ws h) := by
        rw [List.all_map]; rfl
      simp only [ok_seq, seqP_nx, seqP_rt, endP_rt, endP_nx, mPopAt, ok_bnd, ok_ret, ok_app2, ok_app1, ok_appN, ok_oVar, ok_vVar, ok_mVar, ok_k1, ok_k2, ok_kN, ok_oCons, ok_mCons, ok_call, okO_some, res_val, res_slot, resAll_nil, resAll_cons, resC_some, slotV_shr, slotV_own, deref_ref, deref_int, deref_list, deref_tup, deref_str, deref_bool, deref_dict, deref_non, deS_lst, fz_lst, fz_dct, List.getElem?_cons_zero, List.getElem?_cons_succ, ix_list_i, ix_tup_i, at0, at1, at2, at3, oS_some, ok_frz_sh, ok_frz_lst, ok_frz_dct, eq_ii, eq_ss, ok_asB_b, ok_asB'_b, ne_ii, ne_ss, ok_chkL, recv, ok_onL, List.map_cons, List.length_cons, List.length_nil, ixN0, List.eraseIdx_cons_zero, ok_mStore, RV.slot, List.set_cons_zero, List.set_cons_succ, ok_mSetIx, put_list, Option.map_some, add_ii, sub_ii, int_i, ok_mIf, ok_mAnd, ok_mOr, ok_mNot, ge_ii, gt_ii, lt_ii, le_ii, len_list, len_tup, list_list, list_tup, Nat.zero_add, Nat.reduceAdd, ok_vAnd, andP_b, ok_vOr, ok_vNot, notP_b, ok_mChain, insAt_slot, insAt_ref, insV_ref, insO_some, PV.ok_mFld, ok_mMeth, noneP_n, PV.ok_unpack2, fok_mk, Bool.false_eq_true, if_true, if_false, Bool.not_true, Bool.not_false, all_map, ea]
      have ek : keptD hs ws = hs.all fun h => isIO (getS ws h) := by
        unfold keptD
        rw [decide_eq_true hl, Bool.true_and]
      rw [ek]
      by_cases ha : (hs.all fun h => isIO (getS ws h)) = true
      · rw [if_neg (by rw [ha]; decide), if_pos ha]
        simp only [ok_seq, seqP_nx, seqP_rt, endP_rt, endP_nx, mPopAt, ok_bnd, ok_ret, ok_app2, ok_app1, ok_appN, ok_oVar, ok_vVar, ok_mVar, ok_k1, ok_k2, ok_kN, ok_oCons, ok_mCons, ok_call, okO_some, res_val, res_slot, resAll_nil, resAll_cons, resC_some, slotV_shr, slotV_own, deref_ref, deref_int, deref_list, deref_tup, deref_str, deref_bool, deref_dict, deref_non, deS_lst, fz_lst, fz_dct, List.getElem?_cons_zero, List.getElem?_cons_succ, ix_list_i, ix_tup_i, at0, at1, at2, at3, oS_some, ok_frz_sh, ok_frz_lst, ok_frz_dct, eq_ii, eq_ss, ok_asB_b, ok_asB'_b, ne_ii, ne_ss, ok_chkL, recv, ok_onL, List.map_cons, List.length_cons, List.length_nil, ixN0, List.eraseIdx_cons_zero, ok_mStore, RV.slot, List.set_cons_zero, List.set_cons_succ, ok_mSetIx, put_list, Option.map_some, add_ii, sub_ii, int_i, ok_mIf, ok_mAnd, ok_mOr, ok_mNot, ge_ii, gt_ii, lt_ii, le_ii, len_list, len_tup, list_list, list_tup, Nat.zero_add, Nat.reduceAdd, ok_vAnd, andP_b, ok_vOr, ok_vNot, notP_b, ok_mChain, insAt_slot, insAt_ref, insV_ref, insO_some, PV.ok_mFld, ok_mMeth, noneP_n, PV.ok_unpack2, fok_mk, Bool.false_eq_true, if_true, if_false, Bool.not_true, Bool.not_false, ok_mDc, itA]
        have er : restS [2] ⟨[.shr (.dict (kvV ws)), .shr (.list (hs.map .str)), .unb, .unb, .unb], S⟩ ⟨[PV.Slot.shr (.dict (kvV ws)), .shr (.list (hs.map .str)), .unb, .unb, .unb].set 2 .unb, S⟩ = ⟨[.shr (.dict (kvV ws)), .shr (.list (hs.map .str)), .unb, .unb, .unb], S⟩ := rfl
        simp only [List.set_cons_succ, List.set_cons_zero] at er
        simp only [er, ok_seq, seqP_nx, seqP_rt, endP_rt, endP_nx, mPopAt, ok_bnd, ok_ret, ok_app2, ok_app1, ok_appN, ok_oVar, ok_vVar, ok_mVar, ok_k1, ok_k2, ok_kN, ok_oCons, ok_mCons, ok_call, okO_some, res_val, res_slot, resAll_nil, resAll_cons, resC_some, slotV_shr, slotV_own, deref_ref, deref_int, deref_list, deref_tup, deref_str, deref_bool, deref_dict, deref_non, deS_lst, fz_lst, fz_dct, List.getElem?_cons_zero, List.getElem?_cons_succ, ix_list_i, ix_tup_i, at0, at1, at2, at3, oS_some, ok_frz_sh, ok_frz_lst, ok_frz_dct, eq_ii, eq_ss, ok_asB_b, ok_asB'_b, ne_ii, ne_ss, ok_chkL, recv, ok_onL, List.map_cons, List.length_cons, List.length_nil, ixN0, List.eraseIdx_cons_zero, ok_mStore, RV.slot, List.set_cons_zero, List.set_cons_succ, ok_mSetIx, put_list, Option.map_some, add_ii, sub_ii, int_i, ok_mIf, ok_mAnd, ok_mOr, ok_mNot, ge_ii, gt_ii, lt_ii, le_ii, len_list, len_tup, list_list, list_tup, Nat.zero_add, Nat.reduceAdd, ok_vAnd, andP_b, ok_vOr, ok_vNot, notP_b, ok_mChain, insAt_slot, insAt_ref, insV_ref, insO_some, PV.ok_mFld, ok_mMeth, noneP_n, PV.ok_unpack2, fok_mk, Bool.false_eq_true, if_true, if_false, Bool.not_true, Bool.not_false]
        have hsome : ∀ h ∈ hs, ∃ d, getS ws h = some d := fun h hm => by
          have := List.all_eq_true.mp ha h hm
          cases eg : getS ws h with
          | none => rw [eg] at this; cases this
          | some d => exact ⟨d, rfl⟩
        refine ok_dc1 (g := fun d => d) (f := fun d => match d with | .str h => (getS ws h).getD .none | _ => .none) (fun d hd => ?_) (fun d hd => ?_) (fun d hd => ?_) ?_
        · obtain ⟨h, _, rfl⟩ := List.mem_map.mp hd
          unfold k2k_kept_worths_2
          simp only [ok_seq, seqP_nx, seqP_rt, endP_rt, endP_nx, mPopAt, ok_bnd, ok_ret, ok_app2, ok_app1, ok_appN, ok_oVar, ok_vVar, ok_mVar, ok_k1, ok_k2, ok_kN, ok_oCons, ok_mCons, ok_call, okO_some, res_val, res_slot, resAll_nil, resAll_cons, resC_some, slotV_shr, slotV_own, deref_ref, deref_int, deref_list, deref_tup, deref_str, deref_bool, deref_dict, deref_non, deS_lst, fz_lst, fz_dct, List.getElem?_cons_zero, List.getElem?_cons_succ, ix_list_i, ix_tup_i, at0, at1, at2, at3, oS_some, ok_frz_sh, ok_frz_lst, ok_frz_dct, eq_ii, eq_ss, ok_asB_b, ok_asB'_b, ne_ii, ne_ss, ok_chkL, recv, ok_onL, List.map_cons, List.length_cons, List.length_nil, ixN0, List.eraseIdx_cons_zero, ok_mStore, RV.slot, List.set_cons_zero, List.set_cons_succ, ok_mSetIx, put_list, Option.map_some, add_ii, sub_ii, int_i, ok_mIf, ok_mAnd, ok_mOr, ok_mNot, ge_ii, gt_ii, lt_ii, le_ii, len_list, len_tup, list_list, list_tup, Nat.zero_add, Nat.reduceAdd, ok_vAnd, andP_b, ok_vOr, ok_vNot, notP_b, ok_mChain, insAt_slot, insAt_ref, insV_ref, insO_some, PV.ok_mFld, ok_mMeth, noneP_n, PV.ok_unpack2, fok_mk, Bool.false_eq_true, if_true, if_false, Bool.not_true, Bool.not_false]
          exact ⟨trivial, trivial⟩
        · obtain ⟨h, hm, rfl⟩ := List.mem_map.mp hd
          unfold k3e_kept_worths_2
          obtain ⟨d, eg⟩ := hsome h hm
          simp only [ok_seq, seqP_nx, seqP_rt, endP_rt, endP_nx, mPopAt, ok_bnd, ok_ret, ok_app2, ok_app1, ok_appN, ok_oVar, ok_vVar, ok_mVar, ok_k1, ok_k2, ok_kN, ok_oCons, ok_mCons, ok_call, okO_some, res_val, res_slot, resAll_nil, resAll_cons, resC_some, slotV_shr, slotV_own, deref_ref, deref_int, deref_list, deref_tup, deref_str, deref_bool, deref_dict, deref_non, deS_lst, fz_lst, fz_dct, List.getElem?_cons_zero, List.getElem?_cons_succ, ix_list_i, ix_tup_i, at0, at1, at2, at3, oS_some, ok_frz_sh, ok_frz_lst, ok_frz_dct, eq_ii, eq_ss, ok_asB_b, ok_asB'_b, ne_ii, ne_ss, ok_chkL, recv, ok_onL, List.map_cons, List.length_cons, List.length_nil, ixN0, List.eraseIdx_cons_zero, ok_mStore, RV.slot, List.set_cons_zero, List.set_cons_succ, ok_mSetIx, put_list, Option.map_some, add_ii, sub_ii, int_i, ok_mIf, ok_mAnd, ok_mOr, ok_mNot, ge_ii, gt_ii, lt_ii, le_ii, len_list, len_tup, list_list, list_tup, Nat.zero_add, Nat.reduceAdd, ok_vAnd, andP_b, ok_vOr, ok_vNot, notP_b, ok_mChain, insAt_slot, insAt_ref, insV_ref, insO_some, PV.ok_mFld, ok_mMeth, noneP_n, PV.ok_unpack2, fok_mk, Bool.false_eq_true, if_true, if_false, Bool.not_true, Bool.not_false, ix_kv, eg]
          exact ⟨rfl, trivial⟩
        · obtain ⟨h, _, rfl⟩ := List.mem_map.mp hd
          rfl
        · simp only [ok_seq, seqP_nx, seqP_rt, endP_rt, endP_nx, mPopAt, ok_bnd, ok_ret, ok_app2, ok_app1, ok_appN, ok_oVar, ok_vVar, ok_mVar, ok_k1, ok_k2, ok_kN, ok_oCons, ok_mCons, ok_call, okO_some, res_val, res_slot, resAll_nil, resAll_cons, resC_some, slotV_shr, slotV_own, deref_ref, deref_int, deref_list, deref_tup, deref_str, deref_bool, deref_dict, deref_non, deS_lst, fz_lst, fz_dct, List.getElem?_cons_zero, List.getElem?_cons_succ, ix_list_i, ix_tup_i, at0, at1, at2, at3, oS_some, ok_frz_sh, ok_frz_lst, ok_frz_dct, eq_ii, eq_ss, ok_asB_b, ok_asB'_b, ne_ii, ne_ss, ok_chkL, recv, ok_onL, List.map_cons, List.length_cons, List.length_nil, ixN0, List.eraseIdx_cons_zero, ok_mStore, RV.slot, List.set_cons_zero, List.set_cons_succ, ok_mSetIx, put_list, Option.map_some, add_ii, sub_ii, int_i, ok_mIf, ok_mAnd, ok_mOr, ok_mNot, ge_ii, gt_ii, lt_ii, le_ii, len_list, len_tup, list_list, list_tup, Nat.zero_add, Nat.reduceAdd, ok_vAnd, andP_b, ok_vOr, ok_vNot, notP_b, ok_mChain, insAt_slot, insAt_ref, insV_ref, insO_some, PV.ok_mFld, ok_mMeth, noneP_n, PV.ok_unpack2, fok_mk, Bool.false_eq_true, if_true, if_false, Bool.not_true, Bool.not_false]
          refine ⟨?_, rfl⟩
          have e2 : ((hs.map Val.str).map fun d => (d, (match d with | .str h => (getS ws h).getD .none | _ => .none : Val))) = kvV (hs.map fun h => (h, (getS ws h).getD .none)) := by
            simp only [kvV, List.map_map]; rfl
          rw [e2]
          have e3 := merge_kv (hs.map fun h => (h, (getS ws h).getD Val.none)) []
          rw [mergeS_nodup _ _ (by rw [List.map_map]; show (([] : List Str) ++ hs.map fun h => h).Nodup; rw [List.map_id', List.nil_append]; exact nd)] at e3
          exact congrArg (fun z => RV.fr (.dct z)) e3
      · rw [if_pos (by simpa using ha), if_neg ha]
        exact ⟨rfl, rfl⟩
  · have hne : ((ws.length : Int) == (hs.length : Int)) = false := by simpa using fun z => hl (by exact_mod_cast z)
    simp only [ok_seq, seqP_nx, seqP_rt, endP_rt, endP_nx, mPopAt, ok_bnd, ok_ret, ok_app2, ok_app1, ok_appN, ok_oVar, ok_vVar, ok_mVar, ok_k1, ok_k2, ok_kN, ok_oCons, ok_mCons, ok_call, okO_some, res_val, res_slot, resAll_nil, resAll_cons, resC_some, slotV_shr, slotV_own, deref_ref, deref_int, deref_list, deref_tup, deref_str, deref_bool, deref_dict, deref_non, deS_lst, fz_lst, fz_dct, List.getElem?_cons_zero, List.getElem?_cons_succ, ix_list_i, ix_tup_i, at0, at1, at2, at3, oS_some, ok_frz_sh, ok_frz_lst, ok_frz_dct, eq_ii, eq_ss, ok_asB_b, ok_asB'_b, ne_ii, ne_ss, ok_chkL, recv, ok_onL, List.map_cons, List.length_cons, List.length_nil, ixN0, List.eraseIdx_cons_zero, ok_mStore, RV.slot, List.set_cons_zero, List.set_cons_succ, ok_mSetIx, put_list, Option.map_some, add_ii, sub_ii, int_i, ok_mIf, ok_mAnd, ok_mOr, ok_mNot, ge_ii, gt_ii, lt_ii, le_ii, len_list, len_tup, list_list, list_tup, Nat.zero_add, Nat.reduceAdd, ok_vAnd, andP_b, ok_vOr, ok_vNot, notP_b, ok_mChain, insAt_slot, insAt_ref, insV_ref, insO_some, PV.ok_mFld, ok_mMeth, noneP_n, PV.ok_unpack2, fok_mk, Bool.false_eq_true, if_true, if_false, Bool.not_true, Bool.not_false, hne]
    have ek : keptD hs ws = false := by
      unfold keptD
      rw [decide_eq_false hl, Bool.false_and]
    rw [ek]
    exact ⟨rfl, trivial⟩
end K02

namespace K02
open PySem hiding ret
open PySem.Spec L2 PV
/-! ### worths kept, out of pairs -/
def pairV (l : Bool) (p : Str × Val) : Val := if l = true then .list [.str p.1, p.2] else .tup [.str p.1, p.2]
def seqV (l : Bool) (ds : List Val) : Val := if l = true then .list ds else .tup ds
def keptP (hs : List Str) (ws : List (Str × Val)) : Bool := decide (ws.length = hs.length) && ws.all (fun p => decide (p.1 ∈ hs)) && decide ((mergeS [] ws).length = hs.length) && keptD hs (mergeS [] ws)
theorem putS_noRef {ws : List (Str × Val)} {k : Str} {d : Val} (h : noRefW ws) (hd : noRef d = true) : noRefW (putS ws k d) := by
  intro p hp
  unfold putS at hp
  split at hp
  · obtain ⟨q, hq, rfl⟩ := List.mem_map.mp hp
    split
    · exact hd
    · exact h q hq
  · rcases List.mem_append.mp hp with hp | hp
    · exact h p hp
    · rw [List.mem_singleton] at hp; subst hp; exact hd
theorem mergeS_noRef : ∀ {es ws : List (Str × Val)}, noRefW ws → noRefW es → noRefW (mergeS ws es)
  | [], ws, h, _ => h
  | p :: es, ws, h, he => mergeS_noRef (es := es) (putS_noRef h (he p List.mem_cons_self)) fun q hq => he q (List.mem_cons_of_mem _ hq)
theorem pair_list {l : Bool} {p : Str × Val} : isL (pairV l p) = true ∧ noRef (pairV l p) = true := by
  unfold pairV
  cases l <;> exact ⟨rfl, rfl⟩
theorem pair_len {l : Bool} {p : Str × Val} : fLen [pairV l p] = some (.sh (.int 2)) := by
  unfold pairV
  cases l <;> rfl
theorem pair_0 {l : Bool} {p : Str × Val} : fIx (pairV l p) (.int 0) = some (.sh (.str p.1)) := by
  unfold pairV
  cases l <;> rfl
theorem pair_1 {l : Bool} {p : Str × Val} : fIx (pairV l p) (.int 1) = some (.sh p.2) := by
  unfold pairV
  cases l <;> rfl
theorem deref_pair {S : List MO} {l : Bool} {p : Str × Val} : deref S (pairV l p) = pairV l p := by
  unfold pairV
  cases l <;> rfl
theorem deref_noRef {S : List MO} {d : Val} (h : noRef d = true) : deref S d = d := by
  cases d with
  | ref n => cases h
  | _ => rfl
theorem seq_noRef {l : Bool} {ds : List Val} : noRef (seqV l ds) = true ∧ isL (seqV l ds) = true := by
  unfold seqV
  cases l <;> exact ⟨rfl, rfl⟩
theorem seq_len {l : Bool} {ds : List Val} : fLen [seqV l ds] = some (.sh (.int ds.length)) := by
  unfold seqV
  cases l <;> rfl
theorem seq_dict {l : Bool} {ds : List Val} : fIsi .dict (seqV l ds) = some (.sh (.bool false)) := by
  unfold seqV
  cases l <;> rfl
theorem seq_it {l : Bool} {ds : List Val} : itA (seqV l ds) = PV.ret ds := by
  unfold seqV
  cases l <;> rfl
theorem is_hand_eq {S : List MO} {x : Str} {hs : List Str} (hx : okName x) : F_is_hand_of [.str x, .list (hs.map .str)] S = .ok (.sh (.bool (decide (x ∈ hs)))) S := fok_eq.mp (is_hand_of_ok hx)

theorem kept_pairs_2 {S : List MO} {hs : List Str} {ws : List (Str × Val)} {l l2 : Bool} (hr : noRefW ws) (nd : hs.Nodup) (hx : ∀ p ∈ ws, okName p.1) : FOk (F_kept_worths_2 [seqV l2 (ws.map (pairV l)), .list (hs.map .str)] S) fun r S' => (∃ x, r = if keptP hs ws = true then .fr (.dct x) else .sh .none) ∧ S' = S := by
  unfold F_kept_worths_2 b_kept_worths_2
  rw [fok_def]
  have e1 : ([seqV l2 (ws.map (pairV l)), .list (hs.map .str)] : List Val).map PV.Slot.shr ++ List.replicate (5 - ([seqV l2 (ws.map (pairV l)), .list (hs.map .str)] : List Val).length) PV.Slot.unb = [.shr (seqV l2 (ws.map (pairV l))), .shr (.list (hs.map .str)), .unb, .unb, .unb] := rfl
  rw [e1]
  simp only [ok_seq, seqP_nx, seqP_rt, endP_rt, endP_nx, mPopAt, ok_bnd, ok_ret, ok_app2, ok_app1, ok_appN, ok_oVar, ok_vVar, ok_mVar, ok_k1, ok_k2, ok_kN, ok_oCons, ok_mCons, ok_call, okO_some, res_val, res_slot, resAll_nil, resAll_cons, resC_some, slotV_shr, slotV_own, deref_ref, deref_int, deref_list, deref_tup, deref_str, deref_bool, deref_dict, deref_non, deS_lst, fz_lst, fz_dct, List.getElem?_cons_zero, List.getElem?_cons_succ, ix_list_i, ix_tup_i, at0, at1, at2, at3, oS_some, ok_frz_sh, ok_frz_lst, ok_frz_dct, eq_ii, eq_ss, ok_asB_b, ok_asB'_b, ne_ii, ne_ss, ok_chkL, recv, ok_onL, List.map_cons, List.length_cons, List.length_nil, ixN0, List.eraseIdx_cons_zero, ok_mStore, RV.slot, List.set_cons_zero, List.set_cons_succ, ok_mSetIx, put_list, Option.map_some, add_ii, sub_ii, int_i, ok_mIf, ok_mAnd, ok_mOr, ok_mNot, ge_ii, gt_ii, lt_ii, le_ii, len_list, len_tup, list_list, list_tup, Nat.zero_add, Nat.reduceAdd, ok_vAnd, andP_b, ok_vOr, ok_vNot, notP_b, ok_mChain, insAt_slot, insAt_ref, insV_ref, insO_some, PV.ok_mFld, ok_mMeth, noneP_n, PV.ok_unpack2, fok_mk, Bool.false_eq_true, if_true, if_false, Bool.not_true, Bool.not_false, seq_dict, deref_noRef seq_noRef.1, is_list_any seq_noRef.1, seq_noRef.2, seq_len, List.length_map]
  by_cases hl : ws.length = hs.length
  · simp only [ok_seq, seqP_nx, seqP_rt, endP_rt, endP_nx, mPopAt, ok_bnd, ok_ret, ok_app2, ok_app1, ok_appN, ok_oVar, ok_vVar, ok_mVar, ok_k1, ok_k2, ok_kN, ok_oCons, ok_mCons, ok_call, okO_some, res_val, res_slot, resAll_nil, resAll_cons, resC_some, slotV_shr, slotV_own, deref_ref, deref_int, deref_list, deref_tup, deref_str, deref_bool, deref_dict, deref_non, deS_lst, fz_lst, fz_dct, List.getElem?_cons_zero, List.getElem?_cons_succ, ix_list_i, ix_tup_i, at0, at1, at2, at3, oS_some, ok_frz_sh, ok_frz_lst, ok_frz_dct, eq_ii, eq_ss, ok_asB_b, ok_asB'_b, ne_ii, ne_ss, ok_chkL, recv, ok_onL, List.map_cons, List.length_cons, List.length_nil, ixN0, List.eraseIdx_cons_zero, ok_mStore, RV.slot, List.set_cons_zero, List.set_cons_succ, ok_mSetIx, put_list, Option.map_some, add_ii, sub_ii, int_i, ok_mIf, ok_mAnd, ok_mOr, ok_mNot, ge_ii, gt_ii, lt_ii, le_ii, len_list, len_tup, list_list, list_tup, Nat.zero_add, Nat.reduceAdd, ok_vAnd, andP_b, ok_vOr, ok_vNot, notP_b, ok_mChain, insAt_slot, insAt_ref, insV_ref, insO_some, PV.ok_mFld, ok_mMeth, noneP_n, PV.ok_unpack2, fok_mk, Bool.false_eq_true, if_true, if_false, Bool.not_true, Bool.not_false, hl, beq_self_eq_true, ok_mLc, seq_it]
    have key : ∀ p ∈ ws, Ok (k4e_kept_worths_2 ⟨[PV.Slot.shr (seqV l2 (ws.map (pairV l))), .shr (.list (hs.map .str)), .unb, .unb, .unb].set 3 (.shr (pairV l p)), S⟩) fun y s => y = .bool (decide (p.1 ∈ hs)) ∧ s = ⟨[PV.Slot.shr (seqV l2 (ws.map (pairV l))), .shr (.list (hs.map .str)), .unb, .unb, .unb].set 3 (.shr (pairV l p)), S⟩ := by
      intro p hp
      unfold k4e_kept_worths_2
      have e2 : ((2 : Int) == 2) = true := rfl
      simp only [ok_seq, seqP_nx, seqP_rt, endP_rt, endP_nx, mPopAt, ok_bnd, ok_ret, ok_app2, ok_app1, ok_appN, ok_oVar, ok_vVar, ok_mVar, ok_k1, ok_k2, ok_kN, ok_oCons, ok_mCons, ok_call, okO_some, res_val, res_slot, resAll_nil, resAll_cons, resC_some, slotV_shr, slotV_own, deref_ref, deref_int, deref_list, deref_tup, deref_str, deref_bool, deref_dict, deref_non, deS_lst, fz_lst, fz_dct, List.getElem?_cons_zero, List.getElem?_cons_succ, ix_list_i, ix_tup_i, at0, at1, at2, at3, oS_some, ok_frz_sh, ok_frz_lst, ok_frz_dct, eq_ii, eq_ss, ok_asB_b, ok_asB'_b, ne_ii, ne_ss, ok_chkL, recv, ok_onL, List.map_cons, List.length_cons, List.length_nil, ixN0, List.eraseIdx_cons_zero, ok_mStore, RV.slot, List.set_cons_zero, List.set_cons_succ, ok_mSetIx, put_list, Option.map_some, add_ii, sub_ii, int_i, ok_mIf, ok_mAnd, ok_mOr, ok_mNot, ge_ii, gt_ii, lt_ii, le_ii, len_list, len_tup, list_list, list_tup, Nat.zero_add, Nat.reduceAdd, ok_vAnd, andP_b, ok_vOr, ok_vNot, notP_b, ok_mChain, insAt_slot, insAt_ref, insV_ref, insO_some, PV.ok_mFld, ok_mMeth, noneP_n, PV.ok_unpack2, fok_mk, Bool.false_eq_true, if_true, if_false, Bool.not_true, Bool.not_false, is_list_any pair_list.2, pair_list.1, pair_len, deref_pair, pair_0, e2, is_hand_eq (hx p hp)]
      exact ⟨trivial, trivial⟩
    have hall : (ws.map (pairV l)).map (fun d => (match fIx d (.int 0) with | some (.sh (.str x)) => Val.bool (decide (x ∈ hs)) | _ => .none)) = ws.map fun p => Val.bool (decide (p.1 ∈ hs)) := by
      rw [List.map_map]
      refine List.map_congr_left fun p _ => ?_
      simp only [Function.comp, pair_0]
    refine ok_lc1 (f := fun d => match fIx d (.int 0) with | some (.sh (.str x)) => Val.bool (decide (x ∈ hs)) | _ => .none) (fun d hd => ?_) ?_
    · obtain ⟨p, hp, rfl⟩ := List.mem_map.mp hd
      simp only [pair_0]
      exact key p hp
    · rw [hall]
      have ea : fAll [.list (ws.map fun p => Val.bool (decide (p.1 ∈ hs)))] = some (.sh (.bool (ws.all fun p => decide (p.1 ∈ hs)))) := by
        have := all_map (fun d => match fIx d (.int 0) with | some (.sh (.str x)) => decide (x ∈ hs) | _ => false) (ws.map (pairV l))
        rw [List.map_map, List.all_map] at this
        have f1 : ((fun d => Val.bool (match fIx d (.int 0) with | some (.sh (.str x)) => decide (x ∈ hs) | _ => false)) ∘ pairV l) = fun p : Str × Val => Val.bool (decide (p.1 ∈ hs)) := by
          funext p
          simp only [Function.comp, pair_0]
        have f2 : ((fun d => (match fIx d (.int 0) with | some (.sh (.str x)) => decide (x ∈ hs) | _ => false)) ∘ pairV l) = fun p : Str × Val => decide (p.1 ∈ hs) := by
          funext p
          simp only [Function.comp, pair_0]
        rw [f1, f2] at this
        exact this
      have er : restS [3] ⟨[.shr (seqV l2 (ws.map (pairV l))), .shr (.list (hs.map .str)), .unb, .unb, .unb], S⟩ ⟨[.shr (seqV l2 (ws.map (pairV l))), .shr (.list (hs.map .str)), .unb, .unb, .unb], S⟩ = ⟨[.shr (seqV l2 (ws.map (pairV l))), .shr (.list (hs.map .str)), .unb, .unb, .unb], S⟩ := rfl
      simp only [ok_seq, seqP_nx, seqP_rt, endP_rt, endP_nx, mPopAt, ok_bnd, ok_ret, ok_app2, ok_app1, ok_appN, ok_oVar, ok_vVar, ok_mVar, ok_k1, ok_k2, ok_kN, ok_oCons, ok_mCons, ok_call, okO_some, res_val, res_slot, resAll_nil, resAll_cons, resC_some, slotV_shr, slotV_own, deref_ref, deref_int, deref_list, deref_tup, deref_str, deref_bool, deref_dict, deref_non, deS_lst, fz_lst, fz_dct, List.getElem?_cons_zero, List.getElem?_cons_succ, ix_list_i, ix_tup_i, at0, at1, at2, at3, oS_some, ok_frz_sh, ok_frz_lst, ok_frz_dct, eq_ii, eq_ss, ok_asB_b, ok_asB'_b, ne_ii, ne_ss, ok_chkL, recv, ok_onL, List.map_cons, List.length_cons, List.length_nil, ixN0, List.eraseIdx_cons_zero, ok_mStore, RV.slot, List.set_cons_zero, List.set_cons_succ, ok_mSetIx, put_list, Option.map_some, add_ii, sub_ii, int_i, ok_mIf, ok_mAnd, ok_mOr, ok_mNot, ge_ii, gt_ii, lt_ii, le_ii, len_list, len_tup, list_list, list_tup, Nat.zero_add, Nat.reduceAdd, ok_vAnd, andP_b, ok_vOr, ok_vNot, notP_b, ok_mChain, insAt_slot, insAt_ref, insV_ref, insO_some, PV.ok_mFld, ok_mMeth, noneP_n, PV.ok_unpack2, fok_mk, Bool.false_eq_true, if_true, if_false, Bool.not_true, Bool.not_false, ea, er]
      have ek : keptP hs ws = (ws.all (fun p => decide (p.1 ∈ hs)) && decide ((mergeS [] ws).length = hs.length) && keptD hs (mergeS [] ws)) := by
        unfold keptP
        rw [decide_eq_true hl, Bool.true_and]
      rw [ek]
      by_cases ha : (ws.all fun p => decide (p.1 ∈ hs)) = true
      · rw [if_neg (by rw [ha]; decide), ha, Bool.true_and]
        simp only [ok_seq, seqP_nx, seqP_rt, endP_rt, endP_nx, mPopAt, ok_bnd, ok_ret, ok_app2, ok_app1, ok_appN, ok_oVar, ok_vVar, ok_mVar, ok_k1, ok_k2, ok_kN, ok_oCons, ok_mCons, ok_call, okO_some, res_val, res_slot, resAll_nil, resAll_cons, resC_some, slotV_shr, slotV_own, deref_ref, deref_int, deref_list, deref_tup, deref_str, deref_bool, deref_dict, deref_non, deS_lst, fz_lst, fz_dct, List.getElem?_cons_zero, List.getElem?_cons_succ, ix_list_i, ix_tup_i, at0, at1, at2, at3, oS_some, ok_frz_sh, ok_frz_lst, ok_frz_dct, eq_ii, eq_ss, ok_asB_b, ok_asB'_b, ne_ii, ne_ss, ok_chkL, recv, ok_onL, List.map_cons, List.length_cons, List.length_nil, ixN0, List.eraseIdx_cons_zero, ok_mStore, RV.slot, List.set_cons_zero, List.set_cons_succ, ok_mSetIx, put_list, Option.map_some, add_ii, sub_ii, int_i, ok_mIf, ok_mAnd, ok_mOr, ok_mNot, ge_ii, gt_ii, lt_ii, le_ii, len_list, len_tup, list_list, list_tup, Nat.zero_add, Nat.reduceAdd, ok_vAnd, andP_b, ok_vOr, ok_vNot, notP_b, ok_mChain, insAt_slot, insAt_ref, insV_ref, insO_some, PV.ok_mFld, ok_mMeth, noneP_n, PV.ok_unpack2, fok_mk, Bool.false_eq_true, if_true, if_false, Bool.not_true, Bool.not_false, ok_mDc, seq_it]
        refine ok_dc1 (g := fun d => match fIx d (.int 0) with | some (.sh x) => x | _ => .none) (f := fun d => match fIx d (.int 1) with | some (.sh x) => x | _ => .none) (fun d hd => ?_) (fun d hd => ?_) (fun d hd => ?_) ?_
        · obtain ⟨p, hp, rfl⟩ := List.mem_map.mp hd
          unfold k5k_kept_worths_2
          simp only [ok_seq, seqP_nx, seqP_rt, endP_rt, endP_nx, mPopAt, ok_bnd, ok_ret, ok_app2, ok_app1, ok_appN, ok_oVar, ok_vVar, ok_mVar, ok_k1, ok_k2, ok_kN, ok_oCons, ok_mCons, ok_call, okO_some, res_val, res_slot, resAll_nil, resAll_cons, resC_some, slotV_shr, slotV_own, deref_ref, deref_int, deref_list, deref_tup, deref_str, deref_bool, deref_dict, deref_non, deS_lst, fz_lst, fz_dct, List.getElem?_cons_zero, List.getElem?_cons_succ, ix_list_i, ix_tup_i, at0, at1, at2, at3, oS_some, ok_frz_sh, ok_frz_lst, ok_frz_dct, eq_ii, eq_ss, ok_asB_b, ok_asB'_b, ne_ii, ne_ss, ok_chkL, recv, ok_onL, List.map_cons, List.length_cons, List.length_nil, ixN0, List.eraseIdx_cons_zero, ok_mStore, RV.slot, List.set_cons_zero, List.set_cons_succ, ok_mSetIx, put_list, Option.map_some, add_ii, sub_ii, int_i, ok_mIf, ok_mAnd, ok_mOr, ok_mNot, ge_ii, gt_ii, lt_ii, le_ii, len_list, len_tup, list_list, list_tup, Nat.zero_add, Nat.reduceAdd, ok_vAnd, andP_b, ok_vOr, ok_vNot, notP_b, ok_mChain, insAt_slot, insAt_ref, insV_ref, insO_some, PV.ok_mFld, ok_mMeth, noneP_n, PV.ok_unpack2, fok_mk, Bool.false_eq_true, if_true, if_false, Bool.not_true, Bool.not_false, deref_pair, pair_0]
          exact ⟨trivial, trivial⟩
        · obtain ⟨p, hp, rfl⟩ := List.mem_map.mp hd
          unfold k6e_kept_worths_2
          simp only [ok_seq, seqP_nx, seqP_rt, endP_rt, endP_nx, mPopAt, ok_bnd, ok_ret, ok_app2, ok_app1, ok_appN, ok_oVar, ok_vVar, ok_mVar, ok_k1, ok_k2, ok_kN, ok_oCons, ok_mCons, ok_call, okO_some, res_val, res_slot, resAll_nil, resAll_cons, resC_some, slotV_shr, slotV_own, deref_ref, deref_int, deref_list, deref_tup, deref_str, deref_bool, deref_dict, deref_non, deS_lst, fz_lst, fz_dct, List.getElem?_cons_zero, List.getElem?_cons_succ, ix_list_i, ix_tup_i, at0, at1, at2, at3, oS_some, ok_frz_sh, ok_frz_lst, ok_frz_dct, eq_ii, eq_ss, ok_asB_b, ok_asB'_b, ne_ii, ne_ss, ok_chkL, recv, ok_onL, List.map_cons, List.length_cons, List.length_nil, ixN0, List.eraseIdx_cons_zero, ok_mStore, RV.slot, List.set_cons_zero, List.set_cons_succ, ok_mSetIx, put_list, Option.map_some, add_ii, sub_ii, int_i, ok_mIf, ok_mAnd, ok_mOr, ok_mNot, ge_ii, gt_ii, lt_ii, le_ii, len_list, len_tup, list_list, list_tup, Nat.zero_add, Nat.reduceAdd, ok_vAnd, andP_b, ok_vOr, ok_vNot, notP_b, ok_mChain, insAt_slot, insAt_ref, insV_ref, insO_some, PV.ok_mFld, ok_mMeth, noneP_n, PV.ok_unpack2, fok_mk, Bool.false_eq_true, if_true, if_false, Bool.not_true, Bool.not_false, deref_pair, pair_1]
          exact ⟨trivial, trivial⟩
        · obtain ⟨p, hp, rfl⟩ := List.mem_map.mp hd
          simp only [pair_0]
          rfl
        · have e2 : ((ws.map (pairV l)).map fun d => ((match fIx d (.int 0) with | some (.sh x) => x | _ => .none : Val), (match fIx d (.int 1) with | some (.sh x) => x | _ => .none : Val))) = kvV ws := by
            rw [List.map_map]
            refine List.map_congr_left fun p _ => ?_
            simp only [Function.comp, pair_0, pair_1]
          have e3 : mergeD [] (kvV ws) = kvV (mergeS [] ws) := merge_kv ws []
          have e4 : (kvV (mergeS [] ws)).length = (mergeS [] ws).length := by simp [kvV]
          rw [e2, e3]
          simp only [ok_seq, seqP_nx, seqP_rt, endP_rt, endP_nx, mPopAt, ok_bnd, ok_ret, ok_app2, ok_app1, ok_appN, ok_oVar, ok_vVar, ok_mVar, ok_k1, ok_k2, ok_kN, ok_oCons, ok_mCons, ok_call, okO_some, res_val, res_slot, resAll_nil, resAll_cons, resC_some, slotV_shr, slotV_own, deref_ref, deref_int, deref_list, deref_tup, deref_str, deref_bool, deref_dict, deref_non, deS_lst, fz_lst, fz_dct, List.getElem?_cons_zero, List.getElem?_cons_succ, ix_list_i, ix_tup_i, at0, at1, at2, at3, oS_some, ok_frz_sh, ok_frz_lst, ok_frz_dct, eq_ii, eq_ss, ok_asB_b, ok_asB'_b, ne_ii, ne_ss, ok_chkL, recv, ok_onL, List.map_cons, List.length_cons, List.length_nil, ixN0, List.eraseIdx_cons_zero, ok_mStore, RV.slot, List.set_cons_zero, List.set_cons_succ, ok_mSetIx, put_list, Option.map_some, add_ii, sub_ii, int_i, ok_mIf, ok_mAnd, ok_mOr, ok_mNot, ge_ii, gt_ii, lt_ii, le_ii, len_list, len_tup, list_list, list_tup, Nat.zero_add, Nat.reduceAdd, ok_vAnd, andP_b, ok_vOr, ok_vNot, notP_b, ok_mChain, insAt_slot, insAt_ref, insV_ref, insO_some, PV.ok_mFld, ok_mMeth, noneP_n, PV.ok_unpack2, fok_mk, Bool.false_eq_true, if_true, if_false, Bool.not_true, Bool.not_false, er, len_dict, List.length_map, e4]
          by_cases hm : (mergeS [] ws).length = hs.length
          · have hb : (((mergeS [] ws).length : Int) == (hs.length : Int)) = true := by rw [hm]; simp
            simp only [hb, if_true, decide_eq_true hm, Bool.true_and, ok_seq, seqP_nx, seqP_rt, endP_rt, endP_nx, mPopAt, ok_bnd, ok_ret, ok_app2, ok_app1, ok_appN, ok_oVar, ok_vVar, ok_mVar, ok_k1, ok_k2, ok_kN, ok_oCons, ok_mCons, ok_call, okO_some, res_val, res_slot, resAll_nil, resAll_cons, resC_some, slotV_shr, slotV_own, deref_ref, deref_int, deref_list, deref_tup, deref_str, deref_bool, deref_dict, deref_non, deS_lst, fz_lst, fz_dct, List.getElem?_cons_zero, List.getElem?_cons_succ, ix_list_i, ix_tup_i, at0, at1, at2, at3, oS_some, ok_frz_sh, ok_frz_lst, ok_frz_dct, eq_ii, eq_ss, ok_asB_b, ok_asB'_b, ne_ii, ne_ss, ok_chkL, recv, ok_onL, List.map_cons, List.length_cons, List.length_nil, ixN0, List.eraseIdx_cons_zero, ok_mStore, RV.slot, List.set_cons_zero, List.set_cons_succ, ok_mSetIx, put_list, Option.map_some, add_ii, sub_ii, int_i, ok_mIf, ok_mAnd, ok_mOr, ok_mNot, ge_ii, gt_ii, lt_ii, le_ii, len_list, len_tup, list_list, list_tup, Nat.zero_add, Nat.reduceAdd, ok_vAnd, andP_b, ok_vOr, ok_vNot, notP_b, ok_mChain, insAt_slot, insAt_ref, insV_ref, insO_some, PV.ok_mFld, ok_mMeth, noneP_n, PV.ok_unpack2, fok_mk, Bool.false_eq_true, if_true, if_false, Bool.not_true, Bool.not_false]
            refine (kept_dict_1 (mergeS_noRef (fun p hp => by cases hp) hr) nd).mono fun r S' ⟨e, es⟩ => ?_
            subst es
            refine ⟨⟨_, e⟩, rfl⟩
          · have hb : (((mergeS [] ws).length : Int) == (hs.length : Int)) = false := by simpa using fun z => hm (by exact_mod_cast z)
            simp only [hb, decide_eq_false hm, Bool.false_and, Bool.false_eq_true, if_false, ok_seq, seqP_nx, seqP_rt, endP_rt, endP_nx, mPopAt, ok_bnd, ok_ret, ok_app2, ok_app1, ok_appN, ok_oVar, ok_vVar, ok_mVar, ok_k1, ok_k2, ok_kN, ok_oCons, ok_mCons, ok_call, okO_some, res_val, res_slot, resAll_nil, resAll_cons, resC_some, slotV_shr, slotV_own, deref_ref, deref_int, deref_list, deref_tup, deref_str, deref_bool, deref_dict, deref_non, deS_lst, fz_lst, fz_dct, List.getElem?_cons_zero, List.getElem?_cons_succ, ix_list_i, ix_tup_i, at0, at1, at2, at3, oS_some, ok_frz_sh, ok_frz_lst, ok_frz_dct, eq_ii, eq_ss, ok_asB_b, ok_asB'_b, ne_ii, ne_ss, ok_chkL, recv, ok_onL, List.map_cons, List.length_cons, List.length_nil, ixN0, List.eraseIdx_cons_zero, ok_mStore, RV.slot, List.set_cons_zero, List.set_cons_succ, ok_mSetIx, put_list, Option.map_some, add_ii, sub_ii, int_i, ok_mIf, ok_mAnd, ok_mOr, ok_mNot, ge_ii, gt_ii, lt_ii, le_ii, len_list, len_tup, list_list, list_tup, Nat.zero_add, Nat.reduceAdd, ok_vAnd, andP_b, ok_vOr, ok_vNot, notP_b, ok_mChain, insAt_slot, insAt_ref, insV_ref, insO_some, PV.ok_mFld, ok_mMeth, noneP_n, PV.ok_unpack2, fok_mk, Bool.false_eq_true, if_true, if_false, Bool.not_true, Bool.not_false]
            exact ⟨⟨[], by trivial⟩, by trivial⟩
      · have ha' : (ws.all fun p => decide (p.1 ∈ hs)) = false := by simpa using ha
        rw [if_pos (by rw [ha']; rfl), ha', Bool.false_and, Bool.false_and]
        exact ⟨⟨[], by trivial⟩, by trivial⟩
  · have hne : ((ws.length : Int) == (hs.length : Int)) = false := by simpa using fun z => hl (by exact_mod_cast z)
    simp only [ok_seq, seqP_nx, seqP_rt, endP_rt, endP_nx, mPopAt, ok_bnd, ok_ret, ok_app2, ok_app1, ok_appN, ok_oVar, ok_vVar, ok_mVar, ok_k1, ok_k2, ok_kN, ok_oCons, ok_mCons, ok_call, okO_some, res_val, res_slot, resAll_nil, resAll_cons, resC_some, slotV_shr, slotV_own, deref_ref, deref_int, deref_list, deref_tup, deref_str, deref_bool, deref_dict, deref_non, deS_lst, fz_lst, fz_dct, List.getElem?_cons_zero, List.getElem?_cons_succ, ix_list_i, ix_tup_i, at0, at1, at2, at3, oS_some, ok_frz_sh, ok_frz_lst, ok_frz_dct, eq_ii, eq_ss, ok_asB_b, ok_asB'_b, ne_ii, ne_ss, ok_chkL, recv, ok_onL, List.map_cons, List.length_cons, List.length_nil, ixN0, List.eraseIdx_cons_zero, ok_mStore, RV.slot, List.set_cons_zero, List.set_cons_succ, ok_mSetIx, put_list, Option.map_some, add_ii, sub_ii, int_i, ok_mIf, ok_mAnd, ok_mOr, ok_mNot, ge_ii, gt_ii, lt_ii, le_ii, len_list, len_tup, list_list, list_tup, Nat.zero_add, Nat.reduceAdd, ok_vAnd, andP_b, ok_vOr, ok_vNot, notP_b, ok_mChain, insAt_slot, insAt_ref, insV_ref, insO_some, PV.ok_mFld, ok_mMeth, noneP_n, PV.ok_unpack2, fok_mk, Bool.false_eq_true, if_true, if_false, Bool.not_true, Bool.not_false, hne]
    have ek : keptP hs ws = false := by
      unfold keptP
      rw [decide_eq_false hl, Bool.false_and, Bool.false_and, Bool.false_and]
    rw [ek]
    exact ⟨⟨[], by trivial⟩, by trivial⟩
end K02

namespace K02
open PySem hiding ret
open PySem.Spec L2 PV
/-! ### is_course -/
def lenV : Val → Nat
  | .list ds => ds.length
  | .tup ds => ds.length
  | _ => 0
theorem len_any {d : Val} (h : isL d = true) : fLen [d] = some (.sh (.int (lenV d))) := by
  cases d <;> first | rfl | cases h
theorem is_course_no {S : List MO} {w : Nat} {d : Val} (hd : noRef d = true) (h : isL d = false ∨ lenV d ≠ 2) : F_is_course [.ref w, d] S = .ok (.sh (.bool false)) S := by
  rw [← fok_eq]
  unfold F_is_course b_is_course
  rw [fok_def]
  have e1 : ([.ref w, d] : List Val).map PV.Slot.shr ++ List.replicate (2 - ([.ref w, d] : List Val).length) PV.Slot.unb = [.shr (.ref w), .shr d] := rfl
  rw [e1]
  simp only [ok_seq, seqP_nx, seqP_rt, endP_rt, endP_nx, mPopAt, ok_bnd, ok_ret, ok_app2, ok_app1, ok_appN, ok_oVar, ok_vVar, ok_mVar, ok_k1, ok_k2, ok_kN, ok_oCons, ok_mCons, ok_call, okO_some, res_val, res_slot, resAll_nil, resAll_cons, resC_some, slotV_shr, slotV_own, deref_ref, deref_int, deref_list, deref_tup, deref_str, deref_bool, deref_dict, deref_non, deS_lst, fz_lst, fz_dct, List.getElem?_cons_zero, List.getElem?_cons_succ, ix_list_i, ix_tup_i, at0, at1, at2, at3, oS_some, ok_frz_sh, ok_frz_lst, ok_frz_dct, eq_ii, eq_ss, ok_asB_b, ok_asB'_b, ne_ii, ne_ss, ok_chkL, recv, ok_onL, List.map_cons, List.length_cons, List.length_nil, ixN0, List.eraseIdx_cons_zero, ok_mStore, RV.slot, List.set_cons_zero, List.set_cons_succ, ok_mSetIx, put_list, Option.map_some, add_ii, sub_ii, int_i, ok_mIf, ok_mAnd, ok_mOr, ok_mNot, ge_ii, gt_ii, lt_ii, le_ii, len_list, len_tup, list_list, list_tup, Nat.zero_add, Nat.reduceAdd, ok_vAnd, andP_b, ok_vOr, ok_vNot, notP_b, ok_mChain, insAt_slot, insAt_ref, insV_ref, insO_some, PV.ok_mFld, ok_mMeth, noneP_n, PV.ok_unpack2, fok_mk, Bool.false_eq_true, if_true, if_false, Bool.not_true, Bool.not_false, is_list_any hd]
  by_cases hl : isL d = true
  · have h2 : lenV d ≠ 2 := by
      rcases h with h | h
      · rw [hl] at h; cases h
      · exact h
    have hb : ((lenV d : Int) == 2) = false := by simpa using fun z => h2 (by exact_mod_cast z)
    simp only [ok_seq, seqP_nx, seqP_rt, endP_rt, endP_nx, mPopAt, ok_bnd, ok_ret, ok_app2, ok_app1, ok_appN, ok_oVar, ok_vVar, ok_mVar, ok_k1, ok_k2, ok_kN, ok_oCons, ok_mCons, ok_call, okO_some, res_val, res_slot, resAll_nil, resAll_cons, resC_some, slotV_shr, slotV_own, deref_ref, deref_int, deref_list, deref_tup, deref_str, deref_bool, deref_dict, deref_non, deS_lst, fz_lst, fz_dct, List.getElem?_cons_zero, List.getElem?_cons_succ, ix_list_i, ix_tup_i, at0, at1, at2, at3, oS_some, ok_frz_sh, ok_frz_lst, ok_frz_dct, eq_ii, eq_ss, ok_asB_b, ok_asB'_b, ne_ii, ne_ss, ok_chkL, recv, ok_onL, List.map_cons, List.length_cons, List.length_nil, ixN0, List.eraseIdx_cons_zero, ok_mStore, RV.slot, List.set_cons_zero, List.set_cons_succ, ok_mSetIx, put_list, Option.map_some, add_ii, sub_ii, int_i, ok_mIf, ok_mAnd, ok_mOr, ok_mNot, ge_ii, gt_ii, lt_ii, le_ii, len_list, len_tup, list_list, list_tup, Nat.zero_add, Nat.reduceAdd, ok_vAnd, andP_b, ok_vOr, ok_vNot, notP_b, ok_mChain, insAt_slot, insAt_ref, insV_ref, insO_some, PV.ok_mFld, ok_mMeth, noneP_n, PV.ok_unpack2, fok_mk, Bool.false_eq_true, if_true, if_false, Bool.not_true, Bool.not_false, hl, deref_noRef hd, len_any hl, hb]
    exact ⟨trivial, trivial⟩
  · have hl' : isL d = false := by simpa using hl
    simp only [ok_seq, seqP_nx, seqP_rt, endP_rt, endP_nx, mPopAt, ok_bnd, ok_ret, ok_app2, ok_app1, ok_appN, ok_oVar, ok_vVar, ok_mVar, ok_k1, ok_k2, ok_kN, ok_oCons, ok_mCons, ok_call, okO_some, res_val, res_slot, resAll_nil, resAll_cons, resC_some, slotV_shr, slotV_own, deref_ref, deref_int, deref_list, deref_tup, deref_str, deref_bool, deref_dict, deref_non, deS_lst, fz_lst, fz_dct, List.getElem?_cons_zero, List.getElem?_cons_succ, ix_list_i, ix_tup_i, at0, at1, at2, at3, oS_some, ok_frz_sh, ok_frz_lst, ok_frz_dct, eq_ii, eq_ss, ok_asB_b, ok_asB'_b, ne_ii, ne_ss, ok_chkL, recv, ok_onL, List.map_cons, List.length_cons, List.length_nil, ixN0, List.eraseIdx_cons_zero, ok_mStore, RV.slot, List.set_cons_zero, List.set_cons_succ, ok_mSetIx, put_list, Option.map_some, add_ii, sub_ii, int_i, ok_mIf, ok_mAnd, ok_mOr, ok_mNot, ge_ii, gt_ii, lt_ii, le_ii, len_list, len_tup, list_list, list_tup, Nat.zero_add, Nat.reduceAdd, ok_vAnd, andP_b, ok_vOr, ok_vNot, notP_b, ok_mChain, insAt_slot, insAt_ref, insV_ref, insO_some, PV.ok_mFld, ok_mMeth, noneP_n, PV.ok_unpack2, fok_mk, Bool.false_eq_true, if_true, if_false, Bool.not_true, Bool.not_false, hl']
    exact ⟨trivial, trivial⟩
theorem isn_fr {x : List (Val × Val)} : fIs true (.dict x) .none = some (.sh (.bool true)) := rfl
theorem isn_none : fIs true .none .none = some (.sh (.bool false)) := rfl
theorem is_course_two {S : List MO} {w : Nat} {hs : List Str} {ms : List (List (Str × List Str))} {a b : Val} {l kb : Bool} (hw : S[w]? = some (worldO hs ms)) (hz : ms.length < 1000)
    (hk : FOk (F_kept_worths_2 [a, .list ((srtB leS hs).map .str)] S) fun r S' => (∃ x, r = if kb = true then .fr (.dct x) else .sh .none) ∧ S' = S) (hb : noRefs b = true) :
    F_is_course [.ref w, seqV l [a, b]] S = .ok (.sh (.bool (kb && rowB ms.length b))) S := by
  rw [← fok_eq]
  unfold F_is_course b_is_course
  rw [fok_def]
  have e1 : ([.ref w, seqV l [a, b]] : List Val).map PV.Slot.shr ++ List.replicate (2 - ([.ref w, seqV l [a, b]] : List Val).length) PV.Slot.unb = [.shr (.ref w), .shr (seqV l [a, b])] := rfl
  rw [e1]
  have e2 : (((0 + 1 + 1 : Nat) : Int) == 2) = true := rfl
  have e2' : (((2 : Nat) : Int) == 2) = true := rfl
  have e3 : fIx (seqV l [a, b]) (.int 0) = some (.sh a) := by unfold seqV; cases l <;> rfl
  have e4 : fIx (seqV l [a, b]) (.int 1) = some (.sh b) := by unfold seqV; cases l <;> rfl
  have hw' : S[w]? = some (.ins 5 (worldF hs ms)) := hw
  simp only [ok_seq, seqP_nx, seqP_rt, endP_rt, endP_nx, mPopAt, ok_bnd, ok_ret, ok_app2, ok_app1, ok_appN, ok_oVar, ok_vVar, ok_mVar, ok_k1, ok_k2, ok_kN, ok_oCons, ok_mCons, ok_call, okO_some, res_val, res_slot, resAll_nil, resAll_cons, resC_some, slotV_shr, slotV_own, deref_ref, deref_int, deref_list, deref_tup, deref_str, deref_bool, deref_dict, deref_non, deS_lst, fz_lst, fz_dct, List.getElem?_cons_zero, List.getElem?_cons_succ, ix_list_i, ix_tup_i, at0, at1, at2, at3, oS_some, ok_frz_sh, ok_frz_lst, ok_frz_dct, eq_ii, eq_ss, ok_asB_b, ok_asB'_b, ne_ii, ne_ss, ok_chkL, recv, ok_onL, List.map_cons, List.length_cons, List.length_nil, ixN0, List.eraseIdx_cons_zero, ok_mStore, RV.slot, List.set_cons_zero, List.set_cons_succ, ok_mSetIx, put_list, Option.map_some, add_ii, sub_ii, int_i, ok_mIf, ok_mAnd, ok_mOr, ok_mNot, ge_ii, gt_ii, lt_ii, le_ii, len_list, len_tup, list_list, list_tup, Nat.zero_add, Nat.reduceAdd, ok_vAnd, andP_b, ok_vOr, ok_vNot, notP_b, ok_mChain, insAt_slot, insAt_ref, insV_ref, insO_some, PV.ok_mFld, ok_mMeth, noneP_n, PV.ok_unpack2, fok_mk, Bool.false_eq_true, if_true, if_false, Bool.not_true, Bool.not_false, is_list_any seq_noRef.1, seq_noRef.2, deref_noRef seq_noRef.1, seq_len, e2, e2', e3, e4, hw', wl3, hands_m hw]
  refine hk.mono fun r S' ⟨⟨x, er⟩, es⟩ => ?_
  subst er es
  cases kb with
  | true =>
    simp only [ok_seq, seqP_nx, seqP_rt, endP_rt, endP_nx, mPopAt, ok_bnd, ok_ret, ok_app2, ok_app1, ok_appN, ok_oVar, ok_vVar, ok_mVar, ok_k1, ok_k2, ok_kN, ok_oCons, ok_mCons, ok_call, okO_some, res_val, res_slot, resAll_nil, resAll_cons, resC_some, slotV_shr, slotV_own, deref_ref, deref_int, deref_list, deref_tup, deref_str, deref_bool, deref_dict, deref_non, deS_lst, fz_lst, fz_dct, List.getElem?_cons_zero, List.getElem?_cons_succ, ix_list_i, ix_tup_i, at0, at1, at2, at3, oS_some, ok_frz_sh, ok_frz_lst, ok_frz_dct, eq_ii, eq_ss, ok_asB_b, ok_asB'_b, ne_ii, ne_ss, ok_chkL, recv, ok_onL, List.map_cons, List.length_cons, List.length_nil, ixN0, List.eraseIdx_cons_zero, ok_mStore, RV.slot, List.set_cons_zero, List.set_cons_succ, ok_mSetIx, put_list, Option.map_some, add_ii, sub_ii, int_i, ok_mIf, ok_mAnd, ok_mOr, ok_mNot, ge_ii, gt_ii, lt_ii, le_ii, len_list, len_tup, list_list, list_tup, Nat.zero_add, Nat.reduceAdd, ok_vAnd, andP_b, ok_vOr, ok_vNot, notP_b, ok_mChain, insAt_slot, insAt_ref, insV_ref, insO_some, PV.ok_mFld, ok_mMeth, noneP_n, PV.ok_unpack2, fok_mk, Bool.false_eq_true, if_true, if_false, Bool.not_true, Bool.not_false, isn_fr, deref_noRef seq_noRef.1, e4, is_row_ok hw hz hb, Bool.true_and]
    exact ⟨trivial, trivial⟩
  | false =>
    simp only [ok_seq, seqP_nx, seqP_rt, endP_rt, endP_nx, mPopAt, ok_bnd, ok_ret, ok_app2, ok_app1, ok_appN, ok_oVar, ok_vVar, ok_mVar, ok_k1, ok_k2, ok_kN, ok_oCons, ok_mCons, ok_call, okO_some, res_val, res_slot, resAll_nil, resAll_cons, resC_some, slotV_shr, slotV_own, deref_ref, deref_int, deref_list, deref_tup, deref_str, deref_bool, deref_dict, deref_non, deS_lst, fz_lst, fz_dct, List.getElem?_cons_zero, List.getElem?_cons_succ, ix_list_i, ix_tup_i, at0, at1, at2, at3, oS_some, ok_frz_sh, ok_frz_lst, ok_frz_dct, eq_ii, eq_ss, ok_asB_b, ok_asB'_b, ne_ii, ne_ss, ok_chkL, recv, ok_onL, List.map_cons, List.length_cons, List.length_nil, ixN0, List.eraseIdx_cons_zero, ok_mStore, RV.slot, List.set_cons_zero, List.set_cons_succ, ok_mSetIx, put_list, Option.map_some, add_ii, sub_ii, int_i, ok_mIf, ok_mAnd, ok_mOr, ok_mNot, ge_ii, gt_ii, lt_ii, le_ii, len_list, len_tup, list_list, list_tup, Nat.zero_add, Nat.reduceAdd, ok_vAnd, andP_b, ok_vOr, ok_vNot, notP_b, ok_mChain, insAt_slot, insAt_ref, insV_ref, insO_some, PV.ok_mFld, ok_mMeth, noneP_n, PV.ok_unpack2, fok_mk, Bool.false_eq_true, if_true, if_false, Bool.not_true, Bool.not_false, isn_none, Bool.false_and]
    exact ⟨trivial, trivial⟩
end K02

namespace K02
open PySem hiding ret
open PySem.Spec L2 PV
/-! ### rows -/
theorem row_go {T : List MO} {ms : List Val} {s2 : PV.Slot} (h1 : ms ≠ []) (h2 : ms.length ≤ 1000) : ∀ (ks : List Val) (acc : List Val) (S : List MO) (n : Nat) (s3 : PV.Slot) (P : List Val → State → Prop), St S T n → n + ks.length < 1000000 →
    (∀ (is : List Int) (S' : List MO), is.length = ks.length → (∀ i ∈ is, 0 ≤ i ∧ i < ms.length) → St S' T (n + ks.length) → P (acc ++ is.map .int) ⟨[.shr (.ref 1), .shr (.list ms), s2, .unb], S'⟩) →
    Ok (mLcGo [3] (mStore 3) (PV.ret true) k1e__law_row ks acc ⟨[.shr (.ref 1), .shr (.list ms), s2, s3], S⟩) P
  | [], acc, S, n, s3, P, h, hn, k => by
    rw [ok_lc_nil]
    have := k [] S rfl (fun i hi => by cases hi) h
    rw [List.map_nil, List.append_nil] at this
    exact this
  | x :: ks, acc, S, n, s3, P, h, hn, k => by
    rw [ok_lc_cons]
    have ew : wipeS [3] ⟨[.shr (.ref 1), .shr (.list ms), s2, s3], S⟩ = ⟨[.shr (.ref 1), .shr (.list ms), s2, .unb], S⟩ := rfl
    rw [ew]
    unfold k1e__law_row
    simp only [List.length_cons] at hn
    have hp : 0 < ms.length := List.length_pos_iff.mpr h1
    simp only [ok_seq, seqP_nx, seqP_rt, endP_rt, endP_nx, mPopAt, ok_bnd, ok_ret, ok_app2, ok_app1, ok_appN, ok_oVar, ok_vVar, ok_mVar, ok_k1, ok_k2, ok_kN, ok_oCons, ok_mCons, ok_call, okO_some, res_val, res_slot, resAll_nil, resAll_cons, resC_some, slotV_shr, slotV_own, deref_ref, deref_int, deref_list, deref_tup, deref_str, deref_bool, deref_dict, deref_non, deS_lst, fz_lst, fz_dct, List.getElem?_cons_zero, List.getElem?_cons_succ, ix_list_i, ix_tup_i, at0, at1, at2, at3, oS_some, ok_frz_sh, ok_frz_lst, ok_frz_dct, eq_ii, eq_ss, ok_asB_b, ok_asB'_b, ne_ii, ne_ss, ok_chkL, recv, ok_onL, List.map_cons, List.length_cons, List.length_nil, ixN0, List.eraseIdx_cons_zero, ok_mStore, RV.slot, List.set_cons_zero, List.set_cons_succ, ok_mSetIx, put_list, Option.map_some, add_ii, sub_ii, int_i, ok_mIf, ok_mAnd, ok_mOr, ok_mNot, ge_ii, gt_ii, lt_ii, le_ii, len_list, len_tup, list_list, list_tup, Nat.zero_add, Nat.reduceAdd, ok_vAnd, andP_b, ok_vOr, ok_vNot, notP_b, ok_mChain, insAt_slot, insAt_ref, insV_ref, insO_some, PV.ok_mFld, ok_mMeth, noneP_n, PV.ok_unpack2, fok_mk, Bool.false_eq_true, if_true, if_false, Bool.not_true, Bool.not_false]
    refine (draw_ok h (by omega) (by omega) (by omega)).mono fun r S' ⟨d, er, g0, g1, g⟩ => ?_
    subst er
    simp only [ok_seq, seqP_nx, seqP_rt, endP_rt, endP_nx, mPopAt, ok_bnd, ok_ret, ok_app2, ok_app1, ok_appN, ok_oVar, ok_vVar, ok_mVar, ok_k1, ok_k2, ok_kN, ok_oCons, ok_mCons, ok_call, okO_some, res_val, res_slot, resAll_nil, resAll_cons, resC_some, slotV_shr, slotV_own, deref_ref, deref_int, deref_list, deref_tup, deref_str, deref_bool, deref_dict, deref_non, deS_lst, fz_lst, fz_dct, List.getElem?_cons_zero, List.getElem?_cons_succ, ix_list_i, ix_tup_i, at0, at1, at2, at3, oS_some, ok_frz_sh, ok_frz_lst, ok_frz_dct, eq_ii, eq_ss, ok_asB_b, ok_asB'_b, ne_ii, ne_ss, ok_chkL, recv, ok_onL, List.map_cons, List.length_cons, List.length_nil, ixN0, List.eraseIdx_cons_zero, ok_mStore, RV.slot, List.set_cons_zero, List.set_cons_succ, ok_mSetIx, put_list, Option.map_some, add_ii, sub_ii, int_i, ok_mIf, ok_mAnd, ok_mOr, ok_mNot, ge_ii, gt_ii, lt_ii, le_ii, len_list, len_tup, list_list, list_tup, Nat.zero_add, Nat.reduceAdd, ok_vAnd, andP_b, ok_vOr, ok_vNot, notP_b, ok_mChain, insAt_slot, insAt_ref, insV_ref, insO_some, PV.ok_mFld, ok_mMeth, noneP_n, PV.ok_unpack2, fok_mk, Bool.false_eq_true, if_true, if_false, Bool.not_true, Bool.not_false]
    refine row_go h1 h2 ks _ S' (n + 1) _ P g (by omega) fun is S2 e q g2 => ?_
    rw [List.append_assoc]
    refine k (d :: is) S2 (by rw [List.length_cons, e, List.length_cons]) (fun i hi => ?_) (by rw [show n + (x :: ks).length = n + 1 + ks.length by simp; omega]; exact g2)
    rcases List.mem_cons.mp hi with rfl | hi
    · exact ⟨g0, g1⟩
    · exact q i hi
theorem row_ok {S T : List MO} {n : Nat} {ms : List Val} (h : St S T n) (hn : n + 10 < 1000000) (h1 : ms ≠ []) (h2 : ms.length ≤ 1000) : FOk (F__law_row [.ref 1, .list ms, .int 6] S) fun r S' => ∃ is : List Int, r = .fr (.lst (is.map .int)) ∧ is.length ≤ 6 ∧ (∀ i ∈ is, 0 ≤ i ∧ i < ms.length) ∧ St S' T (n + 10) := by
  unfold F__law_row b__law_row
  rw [fok_def]
  have e1 : ([.ref 1, .list ms, .int 6] : List Val).map PV.Slot.shr ++ List.replicate (4 - ([.ref 1, .list ms, .int 6] : List Val).length) PV.Slot.unb = [.shr (.ref 1), .shr (.list ms), .shr (.int 6), .unb] := rfl
  rw [e1]
  have e7 : (6 : Int) + 1 = 7 := rfl
  simp only [ok_seq, seqP_nx, seqP_rt, endP_rt, endP_nx, mPopAt, ok_bnd, ok_ret, ok_app2, ok_app1, ok_appN, ok_oVar, ok_vVar, ok_mVar, ok_k1, ok_k2, ok_kN, ok_oCons, ok_mCons, ok_call, okO_some, res_val, res_slot, resAll_nil, resAll_cons, resC_some, slotV_shr, slotV_own, deref_ref, deref_int, deref_list, deref_tup, deref_str, deref_bool, deref_dict, deref_non, deS_lst, fz_lst, fz_dct, List.getElem?_cons_zero, List.getElem?_cons_succ, ix_list_i, ix_tup_i, at0, at1, at2, at3, oS_some, ok_frz_sh, ok_frz_lst, ok_frz_dct, eq_ii, eq_ss, ok_asB_b, ok_asB'_b, ne_ii, ne_ss, ok_chkL, recv, ok_onL, List.map_cons, List.length_cons, List.length_nil, ixN0, List.eraseIdx_cons_zero, ok_mStore, RV.slot, List.set_cons_zero, List.set_cons_succ, ok_mSetIx, put_list, Option.map_some, add_ii, sub_ii, int_i, ok_mIf, ok_mAnd, ok_mOr, ok_mNot, ge_ii, gt_ii, lt_ii, le_ii, len_list, len_tup, list_list, list_tup, Nat.zero_add, Nat.reduceAdd, ok_vAnd, andP_b, ok_vOr, ok_vNot, notP_b, ok_mChain, insAt_slot, insAt_ref, insV_ref, insO_some, PV.ok_mFld, ok_mMeth, noneP_n, PV.ok_unpack2, fok_mk, Bool.false_eq_true, if_true, if_false, Bool.not_true, Bool.not_false, ok_mLc, e7]
  refine (draw_ok h (by omega) (by omega) (by omega)).mono fun r S' ⟨d, er, g0, g1, g⟩ => ?_
  subst er
  obtain ⟨j, rfl⟩ : ∃ j : Nat, d = j := ⟨d.toNat, by omega⟩
  have e2 : okR (j : Int) = true := by simp [okR]; omega
  have e3 : (vRange 0 (j : Int)).length = j := by simp [vRange]
  simp only [ok_seq, seqP_nx, seqP_rt, endP_rt, endP_nx, mPopAt, ok_bnd, ok_ret, ok_app2, ok_app1, ok_appN, ok_oVar, ok_vVar, ok_mVar, ok_k1, ok_k2, ok_kN, ok_oCons, ok_mCons, ok_call, okO_some, res_val, res_slot, resAll_nil, resAll_cons, resC_some, slotV_shr, slotV_own, deref_ref, deref_int, deref_list, deref_tup, deref_str, deref_bool, deref_dict, deref_non, deS_lst, fz_lst, fz_dct, List.getElem?_cons_zero, List.getElem?_cons_succ, ix_list_i, ix_tup_i, at0, at1, at2, at3, oS_some, ok_frz_sh, ok_frz_lst, ok_frz_dct, eq_ii, eq_ss, ok_asB_b, ok_asB'_b, ne_ii, ne_ss, ok_chkL, recv, ok_onL, List.map_cons, List.length_cons, List.length_nil, ixN0, List.eraseIdx_cons_zero, ok_mStore, RV.slot, List.set_cons_zero, List.set_cons_succ, ok_mSetIx, put_list, Option.map_some, add_ii, sub_ii, int_i, ok_mIf, ok_mAnd, ok_mOr, ok_mNot, ge_ii, gt_ii, lt_ii, le_ii, len_list, len_tup, list_list, list_tup, Nat.zero_add, Nat.reduceAdd, ok_vAnd, andP_b, ok_vOr, ok_vNot, notP_b, ok_mChain, insAt_slot, insAt_ref, insV_ref, insO_some, PV.ok_mFld, ok_mMeth, noneP_n, PV.ok_unpack2, fok_mk, Bool.false_eq_true, if_true, if_false, Bool.not_true, Bool.not_false, itR1, e2]
  refine row_go h1 h2 (vRange 0 (j : Int)) [] S' (n + 1) _ _ g (by rw [e3]; omega) fun is S2 e q g2 => ?_
  rw [e3] at e g2
  exact ⟨is, rfl, by omega, q, g2.mono (by omega)⟩
end K02

namespace K02
open PySem hiding ret
open PySem.Spec L2 PV
/-! ### courses good and bad, by values -/
def BadC (hs : List Str) (ms : List (List (Str × List Str))) (d : Val) : Prop := ∀ (S : List MO) (w : Nat), S[w]? = some (worldO hs ms) → F_is_course [.ref w, d] S = .ok (.sh (.bool false)) S
def GoodC (hs : List Str) (ms : List (List (Str × List Str))) (d : Val) : Prop := ∀ (S : List MO) (w : Nat), S[w]? = some (worldO hs ms) → F_is_course [.ref w, d] S = .ok (.sh (.bool true)) S
section
variable {hs : List Str} {ms : List (List (Str × List Str))} {zs : List (Str × Val)} {b : Val}
theorem nd_oh (nd : hs.Nodup) : (srtB leS hs).Nodup := (srtB_perm hs : (srtB leS hs).Perm hs).nodup_iff.mpr nd
theorem bad_no {d : Val} (hd : noRef d = true) (h : isL d = false ∨ lenV d ≠ 2) : BadC hs ms d := fun S w _ => is_course_no hd h
theorem bad_first (nd : hs.Nodup) (hz : ms.length < 1000) (hr : noRefW zs) (hb : noRefs b = true) (hk : keptD (srtB leS hs) zs = false) : BadC hs ms (.list [.dict (kvV zs), b]) := fun S w hw => by
  have := is_course_two (l := true) (kb := keptD (srtB leS hs) zs) (a := .dict (kvV zs)) hw hz ((kept_dict_2 hr (nd_oh nd)).mono fun r S' ⟨e, es⟩ => ⟨⟨_, e⟩, es⟩) hb
  rw [hk, Bool.false_and] at this
  exact this
theorem bad_pairs {l2 l : Bool} (nd : hs.Nodup) (hz : ms.length < 1000) (hr : noRefW zs) (hx : ∀ p ∈ zs, okName p.1) (hb : noRefs b = true) (hk : keptP (srtB leS hs) zs = false) : BadC hs ms (.list [seqV l2 (zs.map (pairV l)), b]) := fun S w hw => by
  have := is_course_two (l := true) (kb := keptP (srtB leS hs) zs) (a := seqV l2 (zs.map (pairV l))) hw hz (kept_pairs_2 hr (nd_oh nd) hx) hb
  rw [hk, Bool.false_and] at this
  exact this
theorem bad_second (nd : hs.Nodup) (hz : ms.length < 1000) (hr : noRefW zs) (hb : noRefs b = true) (hk : rowB ms.length b = false) : BadC hs ms (.list [.dict (kvV zs), b]) := fun S w hw => by
  have := is_course_two (l := true) (kb := keptD (srtB leS hs) zs) (a := .dict (kvV zs)) hw hz ((kept_dict_2 hr (nd_oh nd)).mono fun r S' ⟨e, es⟩ => ⟨⟨_, e⟩, es⟩) hb
  rw [hk, Bool.and_false] at this
  exact this
theorem good_first {l : Bool} (nd : hs.Nodup) (hz : ms.length < 1000) (hr : noRefW zs) (hb : noRefs b = true) (hk : keptD (srtB leS hs) zs = true) (h2 : rowB ms.length b = true) : GoodC hs ms (seqV l [.dict (kvV zs), b]) := fun S w hw => by
  have := is_course_two (l := l) (kb := keptD (srtB leS hs) zs) (a := .dict (kvV zs)) hw hz ((kept_dict_2 hr (nd_oh nd)).mono fun r S' ⟨e, es⟩ => ⟨⟨_, e⟩, es⟩) hb
  rw [hk, h2] at this
  exact this
theorem good_pairs {l3 l2 l : Bool} (nd : hs.Nodup) (hz : ms.length < 1000) (hr : noRefW zs) (hx : ∀ p ∈ zs, okName p.1) (hb : noRefs b = true) (hk : keptP (srtB leS hs) zs = true) (h2 : rowB ms.length b = true) : GoodC hs ms (seqV l3 [seqV l2 (zs.map (pairV l)), b]) := fun S w hw => by
  have := is_course_two (l := l3) (kb := keptP (srtB leS hs) zs) (a := seqV l2 (zs.map (pairV l))) hw hz (kept_pairs_2 hr (nd_oh nd) hx) hb
  rw [hk, h2] at this
  exact this
end
/-! worths by keys -/
def byK (ks : List Str) (g : Str → Val) : List (Str × Val) := ks.map fun k => (k, g k)
theorem byK_keys (ks : List Str) (g : Str → Val) : (byK ks g).map (·.1) = ks := by
  unfold byK
  rw [List.map_map]
  show ks.map (fun k => k) = ks
  rw [List.map_id']
theorem byK_len (ks : List Str) (g : Str → Val) : (byK ks g).length = ks.length := by simp [byK]
theorem getS_byK (g : Str → Val) (k : Str) : ∀ ks : List Str, getS (byK ks g) k = if k ∈ ks then some (g k) else none
  | [] => rfl
  | x :: ks => by
    show (if x = k then some (g x) else getS (byK ks g) k) = _
    rw [getS_byK g k ks]
    by_cases h : x = k
    · subst h; simp
    · simp [h, Ne.symm h]
theorem iw_byK {zs : List (Str × Val)} : ∀ {ks : List Str}, (zs.map (·.1)).Nodup → ks = zs.map (·.1) → byK ks (fun k => (getS zs k).getD .none) = zs := by
  intro ks nd e
  subst e
  induction zs with
  | nil => rfl
  | cons p zs ih =>
    rw [List.map_cons, List.nodup_cons] at nd
    have h1 : (getS (p :: zs) p.1).getD .none = p.2 := by
      show (if p.1 = p.1 then some p.2 else _ : Option Val).getD .none = _
      rw [if_pos rfl]; rfl
    show (p.1, (getS (p :: zs) p.1).getD .none) :: byK (zs.map (·.1)) (fun k => (getS (p :: zs) k).getD .none) = p :: zs
    rw [h1]
    have h2 : byK (zs.map (·.1)) (fun k => (getS (p :: zs) k).getD .none) = byK (zs.map (·.1)) (fun k => (getS zs k).getD .none) := by
      refine List.map_congr_left fun k hk => ?_
      have hne : p.1 ≠ k := fun z => nd.1 (z ▸ hk)
      show (k, (if p.1 = k then some p.2 else getS zs k).getD .none) = _
      rw [if_neg hne]
    rw [h2, ih nd.2]
theorem keptD_byK {oh ks : List Str} {g : Str → Val} (p : ks.Perm oh) : keptD oh (byK ks g) = oh.all fun h => isIO (some (g h)) := by
  unfold keptD
  rw [byK_len, decide_eq_true p.length_eq, Bool.true_and]
  rw [Bool.eq_iff_iff, List.all_eq_true, List.all_eq_true]
  refine forall_congr' fun h => forall_congr' fun hh => ?_
  rw [getS_byK, if_pos (p.mem_iff.mpr hh)]
theorem keptP_nodup {oh : List Str} {zs : List (Str × Val)} (nd : (zs.map (·.1)).Nodup) (p : (zs.map (·.1)).Perm oh) : keptP oh zs = keptD oh zs := by
  have hl : zs.length = oh.length := by have := p.length_eq; rwa [List.length_map] at this
  have e := mergeS_nodup zs [] (by simpa using nd)
  rw [List.nil_append] at e
  unfold keptP
  rw [e, decide_eq_true hl, Bool.true_and, Bool.and_true]
  have ha : (zs.all fun q => decide (q.1 ∈ oh)) = true := List.all_eq_true.mpr fun q hq => decide_eq_true (p.mem_iff.mp (List.mem_map_of_mem hq))
  rw [ha, Bool.true_and]
theorem kept_odd {oh ks : List Str} {g : Str → Val} {h : Str} (p : ks.Perm oh) (hh : h ∈ oh) (ho : isIO (some (g h)) = false) : keptD oh (byK ks g) = false := by
  rw [keptD_byK p]
  refine List.all_eq_false.mpr ⟨h, hh, by rw [ho]; decide⟩
theorem kept_len {oh : List Str} {zs : List (Str × Val)} (h : zs.length ≠ oh.length) : keptD oh zs = false := by
  unfold keptD
  rw [decide_eq_false h, Bool.false_and]
theorem keptP_len {oh : List Str} {zs : List (Str × Val)} (h : zs.length ≠ oh.length) : keptP oh zs = false := by
  unfold keptP
  rw [decide_eq_false h, Bool.false_and, Bool.false_and, Bool.false_and]
theorem keptP_dup {oh : List Str} {zs : List (Str × Val)} (hl : zs.length = oh.length) (h : ¬ (zs.map (·.1)).Nodup) : keptP oh zs = false := by
  have : (mergeS [] zs).length ≠ oh.length := fun z => h (by
    have := mergeS_eq zs [] .nil (by simp; omega)
    simpa using this)
  unfold keptP
  rw [decide_eq_false this, Bool.and_false, Bool.false_and]
theorem pairsOf_kv : ∀ zs : List (Str × Val), pairsOf (zs.map (pairV false)) = some (kvV zs)
  | [] => rfl
  | p :: zs => by
    show (match (Val.str p.1).key, pairsOf (zs.map (pairV false)) with
      | some _, some ps => some ((Val.str p.1, p.2) :: ps)
      | _, _ => none) = _
    rw [pairsOf_kv zs]
    rfl
theorem dict_kv {zs : List (Str × Val)} (nd : (zs.map (·.1)).Nodup) : fDict [.list (zs.map (pairV false))] = some (.fr (.dct (kvV zs))) := by
  show (pairsOf _).map (fun ps => RV.fr (.dct (mergeD [] ps))) = _
  rw [pairsOf_kv]
  have e := merge_kv zs []
  rw [mergeS_nodup zs [] (by simpa using nd), List.nil_append] at e
  show some (RV.fr (.dct (mergeD (kvV []) (kvV zs)))) = _
  rw [e]
theorem sorted_kv {zs : List (Str × Val)} (h : zs.length < 64) : fSorted [.dict (kvV zs)] = some (.fr (.lst ((srtB leS (zs.map (·.1))).map .str))) := by
  have e : (kvV zs).map (·.1) = (zs.map (·.1)).map Val.str := by simp [kvV]
  unfold fSorted
  dsimp only
  rw [e, strsOf_map]
  dsimp only
  rw [if_pos (by rw [List.length_map]; exact h)]
theorem cut_mem {xs : List Val} {lo hi : Option Int} {x : Val} (h : x ∈ cutD xs lo hi) : x ∈ xs := List.mem_of_mem_drop (List.mem_of_mem_take h)
theorem cut_drop1 {xs : List Val} : cutD xs none (some (-1)) = xs.take (xs.length - 1) := by
  have e1 : HT.sIx xs.length 0 none = 0 := rfl
  have e2 : HT.sIx xs.length xs.length (some (-1)) = xs.length - 1 := by
    simp only [HT.sIx]
    rw [if_pos (by omega)]
    omega
  unfold cutD
  rw [e1, e2, List.drop_zero, Nat.sub_zero]
theorem row_odd {n : Nat} {xs ys : List Val} {o : Val} (h : isIx n o = false) : rowB n (.list (xs ++ [o] ++ ys)) = false := by
  show (xs ++ [o] ++ ys).all (isIx n) = false
  rw [List.all_append, List.all_append]
  simp [h]
theorem noRefs_row {xs : List Val} (h : ∀ x ∈ xs, noRef x = true) : noRefs (.list xs) = true := List.all_eq_true.mpr h
theorem noRef_ints {is : List Int} : ∀ x ∈ is.map Val.int, noRef x = true := fun x hx => by
  obtain ⟨i, _, rfl⟩ := List.mem_map.mp hx
  rfl
theorem noRefW_byK {ks : List Str} {g : Str → Val} (h : ∀ k ∈ ks, noRef (g k) = true) : noRefW (byK ks g) := fun p hp => by
  obtain ⟨k, hk, rfl⟩ := List.mem_map.mp hp
  exact h k hk
end K02

namespace K02
open PySem hiding ret
open PySem.Spec L2 PV
/-! ### bent courses -/
theorem bent_ok {S T : List MO} {n : Nat} {hs : List Str} {ms : List (List (Str × List Str))} {ks : List Str} {g : Str → Val} {is : List Int} (h : St S T n) (hn : n + 100 < 1000000)
    (nd : hs.Nodup) (h2 : 2 ≤ hs.length) (hl : hs.length ≤ 5) (hx : ∀ x ∈ hs, x ∈ six) (hz : ms.length < 1000) (hp : ks.Perm hs) (hg : ∀ k, ∃ i, g k = .int i) (hi : ∀ i ∈ is, 0 ≤ i ∧ i < ms.length) (hil : is.length ≤ 6) :
    FOk (F__law_bent_course [.ref 1, .list (hs.map .str), .list (ms.map fun m => .dict (dictV m)), .dict (kvV (byK ks g)), .list (is.map .int)] S) fun r S' => ∃ d, (r = .sh d ∨ ∃ ds, r = .fr (.lst ds) ∧ d = .list ds) ∧ noRef d = true ∧ BadC hs ms d ∧ St S' T (n + 100) := by
  unfold F__law_bent_course b__law_bent_course
  rw [fok_def]
  have e1 : ([.ref 1, .list (hs.map .str), .list (ms.map fun m => .dict (dictV m)), .dict (kvV (byK ks g)), .list (is.map .int)] : List Val).map PV.Slot.shr ++ List.replicate (19 - ([.ref 1, .list (hs.map .str), .list (ms.map fun m => .dict (dictV m)), .dict (kvV (byK ks g)), .list (is.map .int)] : List Val).length) PV.Slot.unb =
    [.shr (.ref 1), .shr (.list (hs.map .str)), .shr (.list (ms.map fun m => .dict (dictV m))), .shr (.dict (kvV (byK ks g))), .shr (.list (is.map .int)), .unb, .unb, .unb, .unb, .unb, .unb, .unb, .unb, .unb, .unb, .unb, .unb, .unb, .unb] := rfl
  rw [e1]
  have ndk : ks.Nodup := hp.nodup_iff.mpr nd
  have hne : hs ≠ [] := fun z => by rw [z] at h2; simp at h2
  have hkl : ks.length = hs.length := hp.length_eq
  rw [ok_seq]
  unfold s5__law_bent_course
  simp only [ok_seq, seqP_nx, seqP_rt, endP_rt, endP_nx, mPopAt, ok_bnd, ok_ret, ok_app2, ok_app1, ok_appN, ok_oVar, ok_vVar, ok_mVar, ok_k1, ok_k2, ok_kN, ok_oCons, ok_mCons, ok_call, okO_some, res_val, res_slot, resAll_nil, resAll_cons, resC_some, slotV_shr, slotV_own, deref_ref, deref_int, deref_list, deref_tup, deref_str, deref_bool, deref_dict, deref_non, deS_lst, fz_lst, fz_dct, List.getElem?_cons_zero, List.getElem?_cons_succ, ix_list_i, ix_tup_i, at0, at1, at2, at3, oS_some, ok_frz_sh, ok_frz_lst, ok_frz_dct, eq_ii, eq_ss, ok_asB_b, ok_asB'_b, ne_ii, ne_ss, ok_chkL, recv, ok_onL, List.map_cons, List.length_cons, List.length_nil, ixN0, List.eraseIdx_cons_zero, ok_mStore, RV.slot, List.set_cons_zero, List.set_cons_succ, ok_mSetIx, put_list, Option.map_some, add_ii, sub_ii, int_i, ok_mIf, ok_mAnd, ok_mOr, ok_mNot, ge_ii, gt_ii, lt_ii, le_ii, len_list, len_tup, list_list, list_tup, Nat.zero_add, Nat.reduceAdd, ok_vAnd, andP_b, ok_vOr, ok_vNot, notP_b, ok_mChain, insAt_slot, insAt_ref, insV_ref, insO_some, PV.ok_mFld, ok_mMeth, noneP_n, PV.ok_unpack2, fok_mk, Bool.false_eq_true, if_true, if_false, Bool.not_true, Bool.not_false, ok_mLc, ok_mDc, restS1, restS2, wipeS1, wipeS2, keepS_unb, keepS_shr, keepS_own, itA_l, itA_t, itA_d, sl_l, ok_mSl, ok_asI_i]
  refine (draw_ok h (by omega) (by omega) (by omega)).mono fun r S1 ⟨way, er, w0, w1, g1⟩ => ?_
  subst er
  simp only [ok_seq, seqP_nx, seqP_rt, endP_rt, endP_nx, mPopAt, ok_bnd, ok_ret, ok_app2, ok_app1, ok_appN, ok_oVar, ok_vVar, ok_mVar, ok_k1, ok_k2, ok_kN, ok_oCons, ok_mCons, ok_call, okO_some, res_val, res_slot, resAll_nil, resAll_cons, resC_some, slotV_shr, slotV_own, deref_ref, deref_int, deref_list, deref_tup, deref_str, deref_bool, deref_dict, deref_non, deS_lst, fz_lst, fz_dct, List.getElem?_cons_zero, List.getElem?_cons_succ, ix_list_i, ix_tup_i, at0, at1, at2, at3, oS_some, ok_frz_sh, ok_frz_lst, ok_frz_dct, eq_ii, eq_ss, ok_asB_b, ok_asB'_b, ne_ii, ne_ss, ok_chkL, recv, ok_onL, List.map_cons, List.length_cons, List.length_nil, ixN0, List.eraseIdx_cons_zero, ok_mStore, RV.slot, List.set_cons_zero, List.set_cons_succ, ok_mSetIx, put_list, Option.map_some, add_ii, sub_ii, int_i, ok_mIf, ok_mAnd, ok_mOr, ok_mNot, ge_ii, gt_ii, lt_ii, le_ii, len_list, len_tup, list_list, list_tup, Nat.zero_add, Nat.reduceAdd, ok_vAnd, andP_b, ok_vOr, ok_vNot, notP_b, ok_mChain, insAt_slot, insAt_ref, insV_ref, insO_some, PV.ok_mFld, ok_mMeth, noneP_n, PV.ok_unpack2, fok_mk, Bool.false_eq_true, if_true, if_false, Bool.not_true, Bool.not_false, ok_mLc, ok_mDc, restS1, restS2, wipeS1, wipeS2, keepS_unb, keepS_shr, keepS_own, itA_l, itA_t, itA_d, sl_l, ok_mSl, ok_asI_i]
  refine (pick_ok g1 (by omega) (by simpa using hne) (by rw [List.length_map]; omega)).mono fun r S2 ⟨hd, er, hm, g2⟩ => ?_
  subst er
  obtain ⟨hand, hh, rfl⟩ := List.mem_map.mp hm
  have esrt : fSorted [.dict (kvV (byK ks g))] = some (.fr (.lst ((srtB leS hs).map .str))) := by
    rw [sorted_kv (by rw [byK_len]; omega), byK_keys, srt_perm hp]
  unfold s6__law_bent_course
  simp only [ok_seq, seqP_nx, seqP_rt, endP_rt, endP_nx, mPopAt, ok_bnd, ok_ret, ok_app2, ok_app1, ok_appN, ok_oVar, ok_vVar, ok_mVar, ok_k1, ok_k2, ok_kN, ok_oCons, ok_mCons, ok_call, okO_some, res_val, res_slot, resAll_nil, resAll_cons, resC_some, slotV_shr, slotV_own, deref_ref, deref_int, deref_list, deref_tup, deref_str, deref_bool, deref_dict, deref_non, deS_lst, fz_lst, fz_dct, List.getElem?_cons_zero, List.getElem?_cons_succ, ix_list_i, ix_tup_i, at0, at1, at2, at3, oS_some, ok_frz_sh, ok_frz_lst, ok_frz_dct, eq_ii, eq_ss, ok_asB_b, ok_asB'_b, ne_ii, ne_ss, ok_chkL, recv, ok_onL, List.map_cons, List.length_cons, List.length_nil, ixN0, List.eraseIdx_cons_zero, ok_mStore, RV.slot, List.set_cons_zero, List.set_cons_succ, ok_mSetIx, put_list, Option.map_some, add_ii, sub_ii, int_i, ok_mIf, ok_mAnd, ok_mOr, ok_mNot, ge_ii, gt_ii, lt_ii, le_ii, len_list, len_tup, list_list, list_tup, Nat.zero_add, Nat.reduceAdd, ok_vAnd, andP_b, ok_vOr, ok_vNot, notP_b, ok_mChain, insAt_slot, insAt_ref, insV_ref, insO_some, PV.ok_mFld, ok_mMeth, noneP_n, PV.ok_unpack2, fok_mk, Bool.false_eq_true, if_true, if_false, Bool.not_true, Bool.not_false, ok_mLc, ok_mDc, restS1, restS2, wipeS1, wipeS2, keepS_unb, keepS_shr, keepS_own, itA_l, itA_t, itA_d, sl_l, ok_mSl, ok_asI_i, esrt]
  refine ok_lc1 (f := fun d => match d with | .str k => .tup [.str k, g k] | _ => .none) (fun d hd => ?_) ?_
  · obtain ⟨k, hk, rfl⟩ := List.mem_map.mp hd
    unfold k1e__law_bent_course
    have hk' : k ∈ ks := hp.mem_iff.mpr ((srtB_perm hs : (srtB leS hs).Perm hs).mem_iff.mp hk)
    simp only [ok_seq, seqP_nx, seqP_rt, endP_rt, endP_nx, mPopAt, ok_bnd, ok_ret, ok_app2, ok_app1, ok_appN, ok_oVar, ok_vVar, ok_mVar, ok_k1, ok_k2, ok_kN, ok_oCons, ok_mCons, ok_call, okO_some, res_val, res_slot, resAll_nil, resAll_cons, resC_some, slotV_shr, slotV_own, deref_ref, deref_int, deref_list, deref_tup, deref_str, deref_bool, deref_dict, deref_non, deS_lst, fz_lst, fz_dct, List.getElem?_cons_zero, List.getElem?_cons_succ, ix_list_i, ix_tup_i, at0, at1, at2, at3, oS_some, ok_frz_sh, ok_frz_lst, ok_frz_dct, eq_ii, eq_ss, ok_asB_b, ok_asB'_b, ne_ii, ne_ss, ok_chkL, recv, ok_onL, List.map_cons, List.length_cons, List.length_nil, ixN0, List.eraseIdx_cons_zero, ok_mStore, RV.slot, List.set_cons_zero, List.set_cons_succ, ok_mSetIx, put_list, Option.map_some, add_ii, sub_ii, int_i, ok_mIf, ok_mAnd, ok_mOr, ok_mNot, ge_ii, gt_ii, lt_ii, le_ii, len_list, len_tup, list_list, list_tup, Nat.zero_add, Nat.reduceAdd, ok_vAnd, andP_b, ok_vOr, ok_vNot, notP_b, ok_mChain, insAt_slot, insAt_ref, insV_ref, insO_some, PV.ok_mFld, ok_mMeth, noneP_n, PV.ok_unpack2, fok_mk, Bool.false_eq_true, if_true, if_false, Bool.not_true, Bool.not_false, ok_mLc, ok_mDc, restS1, restS2, wipeS1, wipeS2, keepS_unb, keepS_shr, keepS_own, itA_l, itA_t, itA_d, sl_l, ok_mSl, ok_asI_i, ix_kv, getS_byK, hk']
    exact ⟨trivial, trivial⟩
  have epairs : ((srtB leS hs).map Val.str).map (fun d => (match d with | .str k => Val.tup [.str k, g k] | _ => .none : Val)) = (byK (srtB leS hs) g).map (pairV false) := by
    unfold byK
    rw [List.map_map, List.map_map]
    rfl
  rw [epairs]
  unfold s7__law_bent_course
  have ed : ∀ (st : State) (P : Val → State → Prop), Ok (bnd (bnd (mDisp [((PV.ret (.str "a")), (PV.ret (.int 1)))]) fun ps => if keysOk ps = true ∧ ps.length ≤ 15 then PV.ret (.fr (.dct (mergeD [] ps))) else stk) frz st) P ↔ P (.dict [(.str "a", .int 1)]) st := fun _ _ => Iff.rfl
  simp only [ok_seq, seqP_nx, seqP_rt, endP_rt, endP_nx, mPopAt, ok_bnd, ok_ret, ok_app2, ok_app1, ok_appN, ok_oVar, ok_vVar, ok_mVar, ok_k1, ok_k2, ok_kN, ok_oCons, ok_mCons, ok_call, okO_some, res_val, res_slot, resAll_nil, resAll_cons, resC_some, slotV_shr, slotV_own, deref_ref, deref_int, deref_list, deref_tup, deref_str, deref_bool, deref_dict, deref_non, deS_lst, fz_lst, fz_dct, List.getElem?_cons_zero, List.getElem?_cons_succ, ix_list_i, ix_tup_i, at0, at1, at2, at3, oS_some, ok_frz_sh, ok_frz_lst, ok_frz_dct, eq_ii, eq_ss, ok_asB_b, ok_asB'_b, ne_ii, ne_ss, ok_chkL, recv, ok_onL, List.map_cons, List.length_cons, List.length_nil, ixN0, List.eraseIdx_cons_zero, ok_mStore, RV.slot, List.set_cons_zero, List.set_cons_succ, ok_mSetIx, put_list, Option.map_some, add_ii, sub_ii, int_i, ok_mIf, ok_mAnd, ok_mOr, ok_mNot, ge_ii, gt_ii, lt_ii, le_ii, len_list, len_tup, list_list, list_tup, Nat.zero_add, Nat.reduceAdd, ok_vAnd, andP_b, ok_vOr, ok_vNot, notP_b, ok_mChain, insAt_slot, insAt_ref, insV_ref, insO_some, PV.ok_mFld, ok_mMeth, noneP_n, PV.ok_unpack2, fok_mk, Bool.false_eq_true, if_true, if_false, Bool.not_true, Bool.not_false, ok_mLc, ok_mDc, restS1, restS2, wipeS1, wipeS2, keepS_unb, keepS_shr, keepS_own, itA_l, itA_t, itA_d, sl_l, ok_mSl, ok_asI_i, ed]
  unfold s8__law_bent_course
  simp only [ok_seq, seqP_nx, seqP_rt, endP_rt, endP_nx, mPopAt, ok_bnd, ok_ret, ok_app2, ok_app1, ok_appN, ok_oVar, ok_vVar, ok_mVar, ok_k1, ok_k2, ok_kN, ok_oCons, ok_mCons, ok_call, okO_some, res_val, res_slot, resAll_nil, resAll_cons, resC_some, slotV_shr, slotV_own, deref_ref, deref_int, deref_list, deref_tup, deref_str, deref_bool, deref_dict, deref_non, deS_lst, fz_lst, fz_dct, List.getElem?_cons_zero, List.getElem?_cons_succ, ix_list_i, ix_tup_i, at0, at1, at2, at3, oS_some, ok_frz_sh, ok_frz_lst, ok_frz_dct, eq_ii, eq_ss, ok_asB_b, ok_asB'_b, ne_ii, ne_ss, ok_chkL, recv, ok_onL, List.map_cons, List.length_cons, List.length_nil, ixN0, List.eraseIdx_cons_zero, ok_mStore, RV.slot, List.set_cons_zero, List.set_cons_succ, ok_mSetIx, put_list, Option.map_some, add_ii, sub_ii, int_i, ok_mIf, ok_mAnd, ok_mOr, ok_mNot, ge_ii, gt_ii, lt_ii, le_ii, len_list, len_tup, list_list, list_tup, Nat.zero_add, Nat.reduceAdd, ok_vAnd, andP_b, ok_vOr, ok_vNot, notP_b, ok_mChain, insAt_slot, insAt_ref, insV_ref, insO_some, PV.ok_mFld, ok_mMeth, noneP_n, PV.ok_unpack2, fok_mk, Bool.false_eq_true, if_true, if_false, Bool.not_true, Bool.not_false, ok_mLc, ok_mDc, restS1, restS2, wipeS1, wipeS2, keepS_unb, keepS_shr, keepS_own, itA_l, itA_t, itA_d, sl_l, ok_mSl, ok_asI_i]
  by_cases hw : way = 0
  · subst hw
    simp only [ok_seq, seqP_nx, seqP_rt, endP_rt, endP_nx, mPopAt, ok_bnd, ok_ret, ok_app2, ok_app1, ok_appN, ok_oVar, ok_vVar, ok_mVar, ok_k1, ok_k2, ok_kN, ok_oCons, ok_mCons, ok_call, okO_some, res_val, res_slot, resAll_nil, resAll_cons, resC_some, slotV_shr, slotV_own, deref_ref, deref_int, deref_list, deref_tup, deref_str, deref_bool, deref_dict, deref_non, deS_lst, fz_lst, fz_dct, List.getElem?_cons_zero, List.getElem?_cons_succ, ix_list_i, ix_tup_i, at0, at1, at2, at3, oS_some, ok_frz_sh, ok_frz_lst, ok_frz_dct, eq_ii, eq_ss, ok_asB_b, ok_asB'_b, ne_ii, ne_ss, ok_chkL, recv, ok_onL, List.map_cons, List.length_cons, List.length_nil, ixN0, List.eraseIdx_cons_zero, ok_mStore, RV.slot, List.set_cons_zero, List.set_cons_succ, ok_mSetIx, put_list, Option.map_some, add_ii, sub_ii, int_i, ok_mIf, ok_mAnd, ok_mOr, ok_mNot, ge_ii, gt_ii, lt_ii, le_ii, len_list, len_tup, list_list, list_tup, Nat.zero_add, Nat.reduceAdd, ok_vAnd, andP_b, ok_vOr, ok_vNot, notP_b, ok_mChain, insAt_slot, insAt_ref, insV_ref, insO_some, PV.ok_mFld, ok_mMeth, noneP_n, PV.ok_unpack2, fok_mk, Bool.false_eq_true, if_true, if_false, Bool.not_true, Bool.not_false, ok_mLc, ok_mDc, restS1, restS2, wipeS1, wipeS2, keepS_unb, keepS_shr, keepS_own, itA_l, itA_t, itA_d, sl_l, ok_mSl, ok_asI_i, beq_self_eq_true]
    refine (pick_ok g2 (by omega) (by simp) (by simp)).mono fun r S3 ⟨d, er, hd, g3⟩ => ?_
    subst er
    have hb : noRef d = true ∧ BadC hs ms d := by
      simp only [List.mem_cons, List.not_mem_nil, or_false] at hd
      rcases hd with rfl | rfl | rfl | rfl | rfl | rfl | rfl | rfl | rfl | rfl <;> exact ⟨rfl, bad_no rfl (by first | exact .inl rfl | exact .inr (by simp [lenV]))⟩
    exact ⟨d, .inl rfl, hb.1, hb.2, g3.mono (by omega)⟩
  have hw' : (way == 0) = false := by simpa using hw
  simp only [ok_seq, seqP_nx, seqP_rt, endP_rt, endP_nx, mPopAt, ok_bnd, ok_ret, ok_app2, ok_app1, ok_appN, ok_oVar, ok_vVar, ok_mVar, ok_k1, ok_k2, ok_kN, ok_oCons, ok_mCons, ok_call, okO_some, res_val, res_slot, resAll_nil, resAll_cons, resC_some, slotV_shr, slotV_own, deref_ref, deref_int, deref_list, deref_tup, deref_str, deref_bool, deref_dict, deref_non, deS_lst, fz_lst, fz_dct, List.getElem?_cons_zero, List.getElem?_cons_succ, ix_list_i, ix_tup_i, at0, at1, at2, at3, oS_some, ok_frz_sh, ok_frz_lst, ok_frz_dct, eq_ii, eq_ss, ok_asB_b, ok_asB'_b, ne_ii, ne_ss, ok_chkL, recv, ok_onL, List.map_cons, List.length_cons, List.length_nil, ixN0, List.eraseIdx_cons_zero, ok_mStore, RV.slot, List.set_cons_zero, List.set_cons_succ, ok_mSetIx, put_list, Option.map_some, add_ii, sub_ii, int_i, ok_mIf, ok_mAnd, ok_mOr, ok_mNot, ge_ii, gt_ii, lt_ii, le_ii, len_list, len_tup, list_list, list_tup, Nat.zero_add, Nat.reduceAdd, ok_vAnd, andP_b, ok_vOr, ok_vNot, notP_b, ok_mChain, insAt_slot, insAt_ref, insV_ref, insO_some, PV.ok_mFld, ok_mMeth, noneP_n, PV.ok_unpack2, fok_mk, Bool.false_eq_true, if_true, if_false, Bool.not_true, Bool.not_false, ok_mLc, ok_mDc, restS1, restS2, wipeS1, wipeS2, keepS_unb, keepS_shr, keepS_own, itA_l, itA_t, itA_d, sl_l, ok_mSl, ok_asI_i, hw']
  unfold s9__law_bent_course
  simp only [ok_seq, seqP_nx, seqP_rt, endP_rt, endP_nx, mPopAt, ok_bnd, ok_ret, ok_app2, ok_app1, ok_appN, ok_oVar, ok_vVar, ok_mVar, ok_k1, ok_k2, ok_kN, ok_oCons, ok_mCons, ok_call, okO_some, res_val, res_slot, resAll_nil, resAll_cons, resC_some, slotV_shr, slotV_own, deref_ref, deref_int, deref_list, deref_tup, deref_str, deref_bool, deref_dict, deref_non, deS_lst, fz_lst, fz_dct, List.getElem?_cons_zero, List.getElem?_cons_succ, ix_list_i, ix_tup_i, at0, at1, at2, at3, oS_some, ok_frz_sh, ok_frz_lst, ok_frz_dct, eq_ii, eq_ss, ok_asB_b, ok_asB'_b, ne_ii, ne_ss, ok_chkL, recv, ok_onL, List.map_cons, List.length_cons, List.length_nil, ixN0, List.eraseIdx_cons_zero, ok_mStore, RV.slot, List.set_cons_zero, List.set_cons_succ, ok_mSetIx, put_list, Option.map_some, add_ii, sub_ii, int_i, ok_mIf, ok_mAnd, ok_mOr, ok_mNot, ge_ii, gt_ii, lt_ii, le_ii, len_list, len_tup, list_list, list_tup, Nat.zero_add, Nat.reduceAdd, ok_vAnd, andP_b, ok_vOr, ok_vNot, notP_b, ok_mChain, insAt_slot, insAt_ref, insV_ref, insO_some, PV.ok_mFld, ok_mMeth, noneP_n, PV.ok_unpack2, fok_mk, Bool.false_eq_true, if_true, if_false, Bool.not_true, Bool.not_false, ok_mLc, ok_mDc, restS1, restS2, wipeS1, wipeS2, keepS_unb, keepS_shr, keepS_own, itA_l, itA_t, itA_d, sl_l, ok_mSl, ok_asI_i]
  refine (pick_ok g2 (by omega) (by simp) (by simp)).mono fun r S3 ⟨odd, er, hd, g3⟩ => ?_
  subst er
  have ho : noRef odd = true ∧ isIO (some odd) = false := by
    simp only [List.mem_cons, List.not_mem_nil, or_false] at hd
    rcases hd with rfl | rfl | rfl | rfl | rfl <;> exact ⟨rfl, rfl⟩
  simp only [ok_seq, seqP_nx, seqP_rt, endP_rt, endP_nx, mPopAt, ok_bnd, ok_ret, ok_app2, ok_app1, ok_appN, ok_oVar, ok_vVar, ok_mVar, ok_k1, ok_k2, ok_kN, ok_oCons, ok_mCons, ok_call, okO_some, res_val, res_slot, resAll_nil, resAll_cons, resC_some, slotV_shr, slotV_own, deref_ref, deref_int, deref_list, deref_tup, deref_str, deref_bool, deref_dict, deref_non, deS_lst, fz_lst, fz_dct, List.getElem?_cons_zero, List.getElem?_cons_succ, ix_list_i, ix_tup_i, at0, at1, at2, at3, oS_some, ok_frz_sh, ok_frz_lst, ok_frz_dct, eq_ii, eq_ss, ok_asB_b, ok_asB'_b, ne_ii, ne_ss, ok_chkL, recv, ok_onL, List.map_cons, List.length_cons, List.length_nil, ixN0, List.eraseIdx_cons_zero, ok_mStore, RV.slot, List.set_cons_zero, List.set_cons_succ, ok_mSetIx, put_list, Option.map_some, add_ii, sub_ii, int_i, ok_mIf, ok_mAnd, ok_mOr, ok_mNot, ge_ii, gt_ii, lt_ii, le_ii, len_list, len_tup, list_list, list_tup, Nat.zero_add, Nat.reduceAdd, ok_vAnd, andP_b, ok_vOr, ok_vNot, notP_b, ok_mChain, insAt_slot, insAt_ref, insV_ref, insO_some, PV.ok_mFld, ok_mMeth, noneP_n, PV.ok_unpack2, fok_mk, Bool.false_eq_true, if_true, if_false, Bool.not_true, Bool.not_false, ok_mLc, ok_mDc, restS1, restS2, wipeS1, wipeS2, keepS_unb, keepS_shr, keepS_own, itA_l, itA_t, itA_d, sl_l, ok_mSl, ok_asI_i]
  have e8 : (kvV (byK ks g)).map (·.1) = ks.map Val.str := by
    unfold kvV byK
    rw [List.map_map, List.map_map]; rfl
  have egk : ∀ k ∈ ks, getS (byK ks g) k = some (g k) := fun k hk => by rw [getS_byK, if_pos hk]
  -- bad
  unfold s10__law_bent_course
  simp only [ok_seq, seqP_nx, seqP_rt, endP_rt, endP_nx, mPopAt, ok_bnd, ok_ret, ok_app2, ok_app1, ok_appN, ok_oVar, ok_vVar, ok_mVar, ok_k1, ok_k2, ok_kN, ok_oCons, ok_mCons, ok_call, okO_some, res_val, res_slot, resAll_nil, resAll_cons, resC_some, slotV_shr, slotV_own, deref_ref, deref_int, deref_list, deref_tup, deref_str, deref_bool, deref_dict, deref_non, deS_lst, fz_lst, fz_dct, List.getElem?_cons_zero, List.getElem?_cons_succ, ix_list_i, ix_tup_i, at0, at1, at2, at3, oS_some, ok_frz_sh, ok_frz_lst, ok_frz_dct, eq_ii, eq_ss, ok_asB_b, ok_asB'_b, ne_ii, ne_ss, ok_chkL, recv, ok_onL, List.map_cons, List.length_cons, List.length_nil, ixN0, List.eraseIdx_cons_zero, ok_mStore, RV.slot, List.set_cons_zero, List.set_cons_succ, ok_mSetIx, put_list, Option.map_some, add_ii, sub_ii, int_i, ok_mIf, ok_mAnd, ok_mOr, ok_mNot, ge_ii, gt_ii, lt_ii, le_ii, len_list, len_tup, list_list, list_tup, Nat.zero_add, Nat.reduceAdd, ok_vAnd, andP_b, ok_vOr, ok_vNot, notP_b, ok_mChain, insAt_slot, insAt_ref, insV_ref, insO_some, PV.ok_mFld, ok_mMeth, noneP_n, PV.ok_unpack2, fok_mk, Bool.false_eq_true, if_true, if_false, Bool.not_true, Bool.not_false, ok_mLc, ok_mDc, restS1, restS2, wipeS1, wipeS2, keepS_unb, keepS_shr, keepS_own, itA_l, itA_t, itA_d, sl_l, ok_mSl, ok_asI_i, e8]
  refine ok_lc1 (f := fun d => match d with | .str k => .tup [.str k, if k = hand then odd else g k] | _ => .none) (fun d hd => ?_) ?_
  · obtain ⟨k, hk, rfl⟩ := List.mem_map.mp hd
    unfold k2e__law_bent_course
    by_cases hkk : k = hand
    · subst hkk
      simp only [ok_seq, seqP_nx, seqP_rt, endP_rt, endP_nx, mPopAt, ok_bnd, ok_ret, ok_app2, ok_app1, ok_appN, ok_oVar, ok_vVar, ok_mVar, ok_k1, ok_k2, ok_kN, ok_oCons, ok_mCons, ok_call, okO_some, res_val, res_slot, resAll_nil, resAll_cons, resC_some, slotV_shr, slotV_own, deref_ref, deref_int, deref_list, deref_tup, deref_str, deref_bool, deref_dict, deref_non, deS_lst, fz_lst, fz_dct, List.getElem?_cons_zero, List.getElem?_cons_succ, ix_list_i, ix_tup_i, at0, at1, at2, at3, oS_some, ok_frz_sh, ok_frz_lst, ok_frz_dct, eq_ii, eq_ss, ok_asB_b, ok_asB'_b, ne_ii, ne_ss, ok_chkL, recv, ok_onL, List.map_cons, List.length_cons, List.length_nil, ixN0, List.eraseIdx_cons_zero, ok_mStore, RV.slot, List.set_cons_zero, List.set_cons_succ, ok_mSetIx, put_list, Option.map_some, add_ii, sub_ii, int_i, ok_mIf, ok_mAnd, ok_mOr, ok_mNot, ge_ii, gt_ii, lt_ii, le_ii, len_list, len_tup, list_list, list_tup, Nat.zero_add, Nat.reduceAdd, ok_vAnd, andP_b, ok_vOr, ok_vNot, notP_b, ok_mChain, insAt_slot, insAt_ref, insV_ref, insO_some, PV.ok_mFld, ok_mMeth, noneP_n, PV.ok_unpack2, fok_mk, Bool.false_eq_true, if_true, if_false, Bool.not_true, Bool.not_false, ok_mLc, ok_mDc, restS1, restS2, wipeS1, wipeS2, keepS_unb, keepS_shr, keepS_own, itA_l, itA_t, itA_d, sl_l, ok_mSl, ok_asI_i, beq_self_eq_true]
      exact ⟨trivial, trivial⟩
    · have hb : (k == hand) = false := by simpa using hkk
      simp only [ok_seq, seqP_nx, seqP_rt, endP_rt, endP_nx, mPopAt, ok_bnd, ok_ret, ok_app2, ok_app1, ok_appN, ok_oVar, ok_vVar, ok_mVar, ok_k1, ok_k2, ok_kN, ok_oCons, ok_mCons, ok_call, okO_some, res_val, res_slot, resAll_nil, resAll_cons, resC_some, slotV_shr, slotV_own, deref_ref, deref_int, deref_list, deref_tup, deref_str, deref_bool, deref_dict, deref_non, deS_lst, fz_lst, fz_dct, List.getElem?_cons_zero, List.getElem?_cons_succ, ix_list_i, ix_tup_i, at0, at1, at2, at3, oS_some, ok_frz_sh, ok_frz_lst, ok_frz_dct, eq_ii, eq_ss, ok_asB_b, ok_asB'_b, ne_ii, ne_ss, ok_chkL, recv, ok_onL, List.map_cons, List.length_cons, List.length_nil, ixN0, List.eraseIdx_cons_zero, ok_mStore, RV.slot, List.set_cons_zero, List.set_cons_succ, ok_mSetIx, put_list, Option.map_some, add_ii, sub_ii, int_i, ok_mIf, ok_mAnd, ok_mOr, ok_mNot, ge_ii, gt_ii, lt_ii, le_ii, len_list, len_tup, list_list, list_tup, Nat.zero_add, Nat.reduceAdd, ok_vAnd, andP_b, ok_vOr, ok_vNot, notP_b, ok_mChain, insAt_slot, insAt_ref, insV_ref, insO_some, PV.ok_mFld, ok_mMeth, noneP_n, PV.ok_unpack2, fok_mk, Bool.false_eq_true, if_true, if_false, Bool.not_true, Bool.not_false, ok_mLc, ok_mDc, restS1, restS2, wipeS1, wipeS2, keepS_unb, keepS_shr, keepS_own, itA_l, itA_t, itA_d, sl_l, ok_mSl, ok_asI_i, hb, ix_kv, egk k hk, if_neg hkk]
      exact ⟨trivial, trivial⟩
  have ebad : (ks.map Val.str).map (fun d => (match d with | .str k => Val.tup [.str k, if k = hand then odd else g k] | _ => .none : Val)) = (byK ks fun k => if k = hand then odd else g k).map (pairV false) := by
    unfold byK
    rw [List.map_map, List.map_map]
    rfl
  rw [ebad]
  simp only [ok_seq, seqP_nx, seqP_rt, endP_rt, endP_nx, mPopAt, ok_bnd, ok_ret, ok_app2, ok_app1, ok_appN, ok_oVar, ok_vVar, ok_mVar, ok_k1, ok_k2, ok_kN, ok_oCons, ok_mCons, ok_call, okO_some, res_val, res_slot, resAll_nil, resAll_cons, resC_some, slotV_shr, slotV_own, deref_ref, deref_int, deref_list, deref_tup, deref_str, deref_bool, deref_dict, deref_non, deS_lst, fz_lst, fz_dct, List.getElem?_cons_zero, List.getElem?_cons_succ, ix_list_i, ix_tup_i, at0, at1, at2, at3, oS_some, ok_frz_sh, ok_frz_lst, ok_frz_dct, eq_ii, eq_ss, ok_asB_b, ok_asB'_b, ne_ii, ne_ss, ok_chkL, recv, ok_onL, List.map_cons, List.length_cons, List.length_nil, ixN0, List.eraseIdx_cons_zero, ok_mStore, RV.slot, List.set_cons_zero, List.set_cons_succ, ok_mSetIx, put_list, Option.map_some, add_ii, sub_ii, int_i, ok_mIf, ok_mAnd, ok_mOr, ok_mNot, ge_ii, gt_ii, lt_ii, le_ii, len_list, len_tup, list_list, list_tup, Nat.zero_add, Nat.reduceAdd, ok_vAnd, andP_b, ok_vOr, ok_vNot, notP_b, ok_mChain, insAt_slot, insAt_ref, insV_ref, insO_some, PV.ok_mFld, ok_mMeth, noneP_n, PV.ok_unpack2, fok_mk, Bool.false_eq_true, if_true, if_false, Bool.not_true, Bool.not_false, ok_mLc, ok_mDc, restS1, restS2, wipeS1, wipeS2, keepS_unb, keepS_shr, keepS_own, itA_l, itA_t, itA_d, sl_l, ok_mSl, ok_asI_i, dict_kv (zs := byK ks fun k => if k = hand then odd else g k) (by rw [byK_keys]; exact ndk)]
  -- lacks
  unfold s11__law_bent_course
  simp only [ok_seq, seqP_nx, seqP_rt, endP_rt, endP_nx, mPopAt, ok_bnd, ok_ret, ok_app2, ok_app1, ok_appN, ok_oVar, ok_vVar, ok_mVar, ok_k1, ok_k2, ok_kN, ok_oCons, ok_mCons, ok_call, okO_some, res_val, res_slot, resAll_nil, resAll_cons, resC_some, slotV_shr, slotV_own, deref_ref, deref_int, deref_list, deref_tup, deref_str, deref_bool, deref_dict, deref_non, deS_lst, fz_lst, fz_dct, List.getElem?_cons_zero, List.getElem?_cons_succ, ix_list_i, ix_tup_i, at0, at1, at2, at3, oS_some, ok_frz_sh, ok_frz_lst, ok_frz_dct, eq_ii, eq_ss, ok_asB_b, ok_asB'_b, ne_ii, ne_ss, ok_chkL, recv, ok_onL, List.map_cons, List.length_cons, List.length_nil, ixN0, List.eraseIdx_cons_zero, ok_mStore, RV.slot, List.set_cons_zero, List.set_cons_succ, ok_mSetIx, put_list, Option.map_some, add_ii, sub_ii, int_i, ok_mIf, ok_mAnd, ok_mOr, ok_mNot, ge_ii, gt_ii, lt_ii, le_ii, len_list, len_tup, list_list, list_tup, Nat.zero_add, Nat.reduceAdd, ok_vAnd, andP_b, ok_vOr, ok_vNot, notP_b, ok_mChain, insAt_slot, insAt_ref, insV_ref, insO_some, PV.ok_mFld, ok_mMeth, noneP_n, PV.ok_unpack2, fok_mk, Bool.false_eq_true, if_true, if_false, Bool.not_true, Bool.not_false, ok_mLc, ok_mDc, restS1, restS2, wipeS1, wipeS2, keepS_unb, keepS_shr, keepS_own, itA_l, itA_t, itA_d, sl_l, ok_mSl, ok_asI_i, e8]
  refine ok_lc2 (p := fun d => match d with | .str k => !(k == hand) | _ => false) (f := fun d => match d with | .str k => .tup [.str k, g k] | _ => .none) (fun d hd => ?_) (fun d hd hq => ?_) ?_
  · obtain ⟨k, hk, rfl⟩ := List.mem_map.mp hd
    simp only [ok_seq, seqP_nx, seqP_rt, endP_rt, endP_nx, mPopAt, ok_bnd, ok_ret, ok_app2, ok_app1, ok_appN, ok_oVar, ok_vVar, ok_mVar, ok_k1, ok_k2, ok_kN, ok_oCons, ok_mCons, ok_call, okO_some, res_val, res_slot, resAll_nil, resAll_cons, resC_some, slotV_shr, slotV_own, deref_ref, deref_int, deref_list, deref_tup, deref_str, deref_bool, deref_dict, deref_non, deS_lst, fz_lst, fz_dct, List.getElem?_cons_zero, List.getElem?_cons_succ, ix_list_i, ix_tup_i, at0, at1, at2, at3, oS_some, ok_frz_sh, ok_frz_lst, ok_frz_dct, eq_ii, eq_ss, ok_asB_b, ok_asB'_b, ne_ii, ne_ss, ok_chkL, recv, ok_onL, List.map_cons, List.length_cons, List.length_nil, ixN0, List.eraseIdx_cons_zero, ok_mStore, RV.slot, List.set_cons_zero, List.set_cons_succ, ok_mSetIx, put_list, Option.map_some, add_ii, sub_ii, int_i, ok_mIf, ok_mAnd, ok_mOr, ok_mNot, ge_ii, gt_ii, lt_ii, le_ii, len_list, len_tup, list_list, list_tup, Nat.zero_add, Nat.reduceAdd, ok_vAnd, andP_b, ok_vOr, ok_vNot, notP_b, ok_mChain, insAt_slot, insAt_ref, insV_ref, insO_some, PV.ok_mFld, ok_mMeth, noneP_n, PV.ok_unpack2, fok_mk, Bool.false_eq_true, if_true, if_false, Bool.not_true, Bool.not_false, ok_mLc, ok_mDc, restS1, restS2, wipeS1, wipeS2, keepS_unb, keepS_shr, keepS_own, itA_l, itA_t, itA_d, sl_l, ok_mSl, ok_asI_i]
    exact ⟨trivial, trivial⟩
  · obtain ⟨k, hk, rfl⟩ := List.mem_map.mp hd
    unfold k3e__law_bent_course
    simp only [ok_seq, seqP_nx, seqP_rt, endP_rt, endP_nx, mPopAt, ok_bnd, ok_ret, ok_app2, ok_app1, ok_appN, ok_oVar, ok_vVar, ok_mVar, ok_k1, ok_k2, ok_kN, ok_oCons, ok_mCons, ok_call, okO_some, res_val, res_slot, resAll_nil, resAll_cons, resC_some, slotV_shr, slotV_own, deref_ref, deref_int, deref_list, deref_tup, deref_str, deref_bool, deref_dict, deref_non, deS_lst, fz_lst, fz_dct, List.getElem?_cons_zero, List.getElem?_cons_succ, ix_list_i, ix_tup_i, at0, at1, at2, at3, oS_some, ok_frz_sh, ok_frz_lst, ok_frz_dct, eq_ii, eq_ss, ok_asB_b, ok_asB'_b, ne_ii, ne_ss, ok_chkL, recv, ok_onL, List.map_cons, List.length_cons, List.length_nil, ixN0, List.eraseIdx_cons_zero, ok_mStore, RV.slot, List.set_cons_zero, List.set_cons_succ, ok_mSetIx, put_list, Option.map_some, add_ii, sub_ii, int_i, ok_mIf, ok_mAnd, ok_mOr, ok_mNot, ge_ii, gt_ii, lt_ii, le_ii, len_list, len_tup, list_list, list_tup, Nat.zero_add, Nat.reduceAdd, ok_vAnd, andP_b, ok_vOr, ok_vNot, notP_b, ok_mChain, insAt_slot, insAt_ref, insV_ref, insO_some, PV.ok_mFld, ok_mMeth, noneP_n, PV.ok_unpack2, fok_mk, Bool.false_eq_true, if_true, if_false, Bool.not_true, Bool.not_false, ok_mLc, ok_mDc, restS1, restS2, wipeS1, wipeS2, keepS_unb, keepS_shr, keepS_own, itA_l, itA_t, itA_d, sl_l, ok_mSl, ok_asI_i, ix_kv, egk k hk]
    exact ⟨trivial, trivial⟩
  have elacks : ((ks.map Val.str).filter (fun d => match d with | .str k => !(k == hand) | _ => false)).map (fun d => (match d with | .str k => Val.tup [.str k, g k] | _ => .none : Val)) = (byK (ks.filter fun k => !(k == hand)) g).map (pairV false) := by
    unfold byK
    rw [List.filter_map, List.map_map, List.map_map]
    rfl
  rw [elacks]
  simp only [ok_seq, seqP_nx, seqP_rt, endP_rt, endP_nx, mPopAt, ok_bnd, ok_ret, ok_app2, ok_app1, ok_appN, ok_oVar, ok_vVar, ok_mVar, ok_k1, ok_k2, ok_kN, ok_oCons, ok_mCons, ok_call, okO_some, res_val, res_slot, resAll_nil, resAll_cons, resC_some, slotV_shr, slotV_own, deref_ref, deref_int, deref_list, deref_tup, deref_str, deref_bool, deref_dict, deref_non, deS_lst, fz_lst, fz_dct, List.getElem?_cons_zero, List.getElem?_cons_succ, ix_list_i, ix_tup_i, at0, at1, at2, at3, oS_some, ok_frz_sh, ok_frz_lst, ok_frz_dct, eq_ii, eq_ss, ok_asB_b, ok_asB'_b, ne_ii, ne_ss, ok_chkL, recv, ok_onL, List.map_cons, List.length_cons, List.length_nil, ixN0, List.eraseIdx_cons_zero, ok_mStore, RV.slot, List.set_cons_zero, List.set_cons_succ, ok_mSetIx, put_list, Option.map_some, add_ii, sub_ii, int_i, ok_mIf, ok_mAnd, ok_mOr, ok_mNot, ge_ii, gt_ii, lt_ii, le_ii, len_list, len_tup, list_list, list_tup, Nat.zero_add, Nat.reduceAdd, ok_vAnd, andP_b, ok_vOr, ok_vNot, notP_b, ok_mChain, insAt_slot, insAt_ref, insV_ref, insO_some, PV.ok_mFld, ok_mMeth, noneP_n, PV.ok_unpack2, fok_mk, Bool.false_eq_true, if_true, if_false, Bool.not_true, Bool.not_false, ok_mLc, ok_mDc, restS1, restS2, wipeS1, wipeS2, keepS_unb, keepS_shr, keepS_own, itA_l, itA_t, itA_d, sl_l, ok_mSl, ok_asI_i, dict_kv (zs := byK (ks.filter fun k => !(k == hand)) g) (by rw [byK_keys]; exact ndk.filter _)]
  -- more
  unfold s12__law_bent_course
  have eit : (kvV (byK ks g)).map (fun p => Val.tup [p.1, p.2]) = (byK ks g).map (pairV false) := by
    unfold kvV
    rw [List.map_map]; rfl
  have enob : (byK ks g).map (pairV false) ++ [Val.tup [.str "nobody", .int 0]] = (byK ks g ++ [(("nobody" : Str), Val.int 0)]).map (pairV false) := by
    rw [List.map_append]; rfl
  have hnob : ("nobody" : Str) ∉ ks := fun z => by
    have := hx _ (hp.mem_iff.mp z)
    revert this; decide
  have ndm : ((byK ks g ++ [(("nobody" : Str), Val.int 0)]).map (·.1)).Nodup := by
    rw [List.map_append, byK_keys, List.nodup_append]
    exact ⟨ndk, by simp, fun a ha b hb => by simp at hb; subst hb; exact fun z => hnob (z ▸ ha)⟩
  simp only [ok_seq, seqP_nx, seqP_rt, endP_rt, endP_nx, mPopAt, ok_bnd, ok_ret, ok_app2, ok_app1, ok_appN, ok_oVar, ok_vVar, ok_mVar, ok_k1, ok_k2, ok_kN, ok_oCons, ok_mCons, ok_call, okO_some, res_val, res_slot, resAll_nil, resAll_cons, resC_some, slotV_shr, slotV_own, deref_ref, deref_int, deref_list, deref_tup, deref_str, deref_bool, deref_dict, deref_non, deS_lst, fz_lst, fz_dct, List.getElem?_cons_zero, List.getElem?_cons_succ, ix_list_i, ix_tup_i, at0, at1, at2, at3, oS_some, ok_frz_sh, ok_frz_lst, ok_frz_dct, eq_ii, eq_ss, ok_asB_b, ok_asB'_b, ne_ii, ne_ss, ok_chkL, recv, ok_onL, List.map_cons, List.length_cons, List.length_nil, ixN0, List.eraseIdx_cons_zero, ok_mStore, RV.slot, List.set_cons_zero, List.set_cons_succ, ok_mSetIx, put_list, Option.map_some, add_ii, sub_ii, int_i, ok_mIf, ok_mAnd, ok_mOr, ok_mNot, ge_ii, gt_ii, lt_ii, le_ii, len_list, len_tup, list_list, list_tup, Nat.zero_add, Nat.reduceAdd, ok_vAnd, andP_b, ok_vOr, ok_vNot, notP_b, ok_mChain, insAt_slot, insAt_ref, insV_ref, insO_some, PV.ok_mFld, ok_mMeth, noneP_n, PV.ok_unpack2, fok_mk, Bool.false_eq_true, if_true, if_false, Bool.not_true, Bool.not_false, ok_mLc, ok_mDc, restS1, restS2, wipeS1, wipeS2, keepS_unb, keepS_shr, keepS_own, itA_l, itA_t, itA_d, sl_l, ok_mSl, ok_asI_i, eit]
  rw [add_ll (by rw [List.length_map, byK_len]; simp; omega), enob]
  simp only [ok_seq, seqP_nx, seqP_rt, endP_rt, endP_nx, mPopAt, ok_bnd, ok_ret, ok_app2, ok_app1, ok_appN, ok_oVar, ok_vVar, ok_mVar, ok_k1, ok_k2, ok_kN, ok_oCons, ok_mCons, ok_call, okO_some, res_val, res_slot, resAll_nil, resAll_cons, resC_some, slotV_shr, slotV_own, deref_ref, deref_int, deref_list, deref_tup, deref_str, deref_bool, deref_dict, deref_non, deS_lst, fz_lst, fz_dct, List.getElem?_cons_zero, List.getElem?_cons_succ, ix_list_i, ix_tup_i, at0, at1, at2, at3, oS_some, ok_frz_sh, ok_frz_lst, ok_frz_dct, eq_ii, eq_ss, ok_asB_b, ok_asB'_b, ne_ii, ne_ss, ok_chkL, recv, ok_onL, List.map_cons, List.length_cons, List.length_nil, ixN0, List.eraseIdx_cons_zero, ok_mStore, RV.slot, List.set_cons_zero, List.set_cons_succ, ok_mSetIx, put_list, Option.map_some, add_ii, sub_ii, int_i, ok_mIf, ok_mAnd, ok_mOr, ok_mNot, ge_ii, gt_ii, lt_ii, le_ii, len_list, len_tup, list_list, list_tup, Nat.zero_add, Nat.reduceAdd, ok_vAnd, andP_b, ok_vOr, ok_vNot, notP_b, ok_mChain, insAt_slot, insAt_ref, insV_ref, insO_some, PV.ok_mFld, ok_mMeth, noneP_n, PV.ok_unpack2, fok_mk, Bool.false_eq_true, if_true, if_false, Bool.not_true, Bool.not_false, ok_mLc, ok_mDc, restS1, restS2, wipeS1, wipeS2, keepS_unb, keepS_shr, keepS_own, itA_l, itA_t, itA_d, sl_l, ok_mSl, ok_asI_i, dict_kv ndm]
  -- longer
  have poh : (srtB leS hs).Perm hs := srtB_perm hs
  have hol : (srtB leS hs).length = hs.length := poh.length_eq
  unfold s13__law_bent_course
  have et : ∀ xs : List Val, 1 ≤ xs.length → cutD xs none (some 1) = xs.take 1 := fun xs hh => cut_take (k := 1) hh
  simp only [ok_seq, seqP_nx, seqP_rt, endP_rt, endP_nx, mPopAt, ok_bnd, ok_ret, ok_app2, ok_app1, ok_appN, ok_oVar, ok_vVar, ok_mVar, ok_k1, ok_k2, ok_kN, ok_oCons, ok_mCons, ok_call, okO_some, res_val, res_slot, resAll_nil, resAll_cons, resC_some, slotV_shr, slotV_own, deref_ref, deref_int, deref_list, deref_tup, deref_str, deref_bool, deref_dict, deref_non, deS_lst, fz_lst, fz_dct, List.getElem?_cons_zero, List.getElem?_cons_succ, ix_list_i, ix_tup_i, at0, at1, at2, at3, oS_some, ok_frz_sh, ok_frz_lst, ok_frz_dct, eq_ii, eq_ss, ok_asB_b, ok_asB'_b, ne_ii, ne_ss, ok_chkL, recv, ok_onL, List.map_cons, List.length_cons, List.length_nil, ixN0, List.eraseIdx_cons_zero, ok_mStore, RV.slot, List.set_cons_zero, List.set_cons_succ, ok_mSetIx, put_list, Option.map_some, add_ii, sub_ii, int_i, ok_mIf, ok_mAnd, ok_mOr, ok_mNot, ge_ii, gt_ii, lt_ii, le_ii, len_list, len_tup, list_list, list_tup, Nat.zero_add, Nat.reduceAdd, ok_vAnd, andP_b, ok_vOr, ok_vNot, notP_b, ok_mChain, insAt_slot, insAt_ref, insV_ref, insO_some, PV.ok_mFld, ok_mMeth, noneP_n, PV.ok_unpack2, fok_mk, Bool.false_eq_true, if_true, if_false, Bool.not_true, Bool.not_false, ok_mLc, ok_mDc, restS1, restS2, wipeS1, wipeS2, keepS_unb, keepS_shr, keepS_own, itA_l, itA_t, itA_d, sl_l, ok_mSl, ok_asI_i]
  rw [et _ (by rw [List.length_map, byK_len]; omega), ← List.map_take, add_ll (by rw [List.length_map, List.length_map, List.length_take, byK_len]; omega), ← List.map_append]
  simp only [ok_seq, seqP_nx, seqP_rt, endP_rt, endP_nx, mPopAt, ok_bnd, ok_ret, ok_app2, ok_app1, ok_appN, ok_oVar, ok_vVar, ok_mVar, ok_k1, ok_k2, ok_kN, ok_oCons, ok_mCons, ok_call, okO_some, res_val, res_slot, resAll_nil, resAll_cons, resC_some, slotV_shr, slotV_own, deref_ref, deref_int, deref_list, deref_tup, deref_str, deref_bool, deref_dict, deref_non, deS_lst, fz_lst, fz_dct, List.getElem?_cons_zero, List.getElem?_cons_succ, ix_list_i, ix_tup_i, at0, at1, at2, at3, oS_some, ok_frz_sh, ok_frz_lst, ok_frz_dct, eq_ii, eq_ss, ok_asB_b, ok_asB'_b, ne_ii, ne_ss, ok_chkL, recv, ok_onL, List.map_cons, List.length_cons, List.length_nil, ixN0, List.eraseIdx_cons_zero, ok_mStore, RV.slot, List.set_cons_zero, List.set_cons_succ, ok_mSetIx, put_list, Option.map_some, add_ii, sub_ii, int_i, ok_mIf, ok_mAnd, ok_mOr, ok_mNot, ge_ii, gt_ii, lt_ii, le_ii, len_list, len_tup, list_list, list_tup, Nat.zero_add, Nat.reduceAdd, ok_vAnd, andP_b, ok_vOr, ok_vNot, notP_b, ok_mChain, insAt_slot, insAt_ref, insV_ref, insO_some, PV.ok_mFld, ok_mMeth, noneP_n, PV.ok_unpack2, fok_mk, Bool.false_eq_true, if_true, if_false, Bool.not_true, Bool.not_false, ok_mLc, ok_mDc, restS1, restS2, wipeS1, wipeS2, keepS_unb, keepS_shr, keepS_own, itA_l, itA_t, itA_d, sl_l, ok_mSl, ok_asI_i]
  -- doubled
  obtain ⟨a, oh', eoh⟩ : ∃ a oh', srtB leS hs = a :: oh' := by
    cases e : srtB leS hs with
    | nil => rw [e] at hol; simp at hol; omega
    | cons a oh' => exact ⟨a, oh', rfl⟩
  have e0 : fIx (.list ((byK (srtB leS hs) g).map (pairV false))) (.int 0) = some (.sh (.tup [.str a, g a])) := by
    rw [eoh]
    show oS (L2.atI (Val.tup [.str a, g a] :: _) 0) = _
    rw [at0]; rfl
  have en : fNeg (.int 1) = some (.sh (.int (-1))) := rfl
  unfold s14__law_bent_course
  simp only [ok_seq, seqP_nx, seqP_rt, endP_rt, endP_nx, mPopAt, ok_bnd, ok_ret, ok_app2, ok_app1, ok_appN, ok_oVar, ok_vVar, ok_mVar, ok_k1, ok_k2, ok_kN, ok_oCons, ok_mCons, ok_call, okO_some, res_val, res_slot, resAll_nil, resAll_cons, resC_some, slotV_shr, slotV_own, deref_ref, deref_int, deref_list, deref_tup, deref_str, deref_bool, deref_dict, deref_non, deS_lst, fz_lst, fz_dct, List.getElem?_cons_zero, List.getElem?_cons_succ, ix_list_i, ix_tup_i, at0, at1, at2, at3, oS_some, ok_frz_sh, ok_frz_lst, ok_frz_dct, eq_ii, eq_ss, ok_asB_b, ok_asB'_b, ne_ii, ne_ss, ok_chkL, recv, ok_onL, List.map_cons, List.length_cons, List.length_nil, ixN0, List.eraseIdx_cons_zero, ok_mStore, RV.slot, List.set_cons_zero, List.set_cons_succ, ok_mSetIx, put_list, Option.map_some, add_ii, sub_ii, int_i, ok_mIf, ok_mAnd, ok_mOr, ok_mNot, ge_ii, gt_ii, lt_ii, le_ii, len_list, len_tup, list_list, list_tup, Nat.zero_add, Nat.reduceAdd, ok_vAnd, andP_b, ok_vOr, ok_vNot, notP_b, ok_mChain, insAt_slot, insAt_ref, insV_ref, insO_some, PV.ok_mFld, ok_mMeth, noneP_n, PV.ok_unpack2, fok_mk, Bool.false_eq_true, if_true, if_false, Bool.not_true, Bool.not_false, ok_mLc, ok_mDc, restS1, restS2, wipeS1, wipeS2, keepS_unb, keepS_shr, keepS_own, itA_l, itA_t, itA_d, sl_l, ok_mSl, ok_asI_i, e0, en]
  rw [cut_drop1, ← List.map_take, List.length_map, byK_len]
  rw [add_ll (by rw [List.length_map, List.length_take, byK_len]; simp; omega)]
  have edb : [Val.tup [.str a, g a]] ++ ((byK (srtB leS hs) g).take ((srtB leS hs).length - 1)).map (pairV false) = ((a, g a) :: (byK (srtB leS hs) g).take ((srtB leS hs).length - 1)).map (pairV false) := rfl
  rw [edb]
  simp only [ok_seq, seqP_nx, seqP_rt, endP_rt, endP_nx, mPopAt, ok_bnd, ok_ret, ok_app2, ok_app1, ok_appN, ok_oVar, ok_vVar, ok_mVar, ok_k1, ok_k2, ok_kN, ok_oCons, ok_mCons, ok_call, okO_some, res_val, res_slot, resAll_nil, resAll_cons, resC_some, slotV_shr, slotV_own, deref_ref, deref_int, deref_list, deref_tup, deref_str, deref_bool, deref_dict, deref_non, deS_lst, fz_lst, fz_dct, List.getElem?_cons_zero, List.getElem?_cons_succ, ix_list_i, ix_tup_i, at0, at1, at2, at3, oS_some, ok_frz_sh, ok_frz_lst, ok_frz_dct, eq_ii, eq_ss, ok_asB_b, ok_asB'_b, ne_ii, ne_ss, ok_chkL, recv, ok_onL, List.map_cons, List.length_cons, List.length_nil, ixN0, List.eraseIdx_cons_zero, ok_mStore, RV.slot, List.set_cons_zero, List.set_cons_succ, ok_mSetIx, put_list, Option.map_some, add_ii, sub_ii, int_i, ok_mIf, ok_mAnd, ok_mOr, ok_mNot, ge_ii, gt_ii, lt_ii, le_ii, len_list, len_tup, list_list, list_tup, Nat.zero_add, Nat.reduceAdd, ok_vAnd, andP_b, ok_vOr, ok_vNot, notP_b, ok_mChain, insAt_slot, insAt_ref, insV_ref, insO_some, PV.ok_mFld, ok_mMeth, noneP_n, PV.ok_unpack2, fok_mk, Bool.false_eq_true, if_true, if_false, Bool.not_true, Bool.not_false, ok_mLc, ok_mDc, restS1, restS2, wipeS1, wipeS2, keepS_unb, keepS_shr, keepS_own, itA_l, itA_t, itA_d, sl_l, ok_mSl, ok_asI_i]
  -- firsts
  unfold s15__law_bent_course
  have eitO : (kvV (byK (srtB leS hs) g)).map (fun p => Val.tup [p.1, p.2]) = (byK (srtB leS hs) g).map (pairV false) := by
    unfold kvV
    rw [List.map_map]; rfl
  simp only [ok_seq, seqP_nx, seqP_rt, endP_rt, endP_nx, mPopAt, ok_bnd, ok_ret, ok_app2, ok_app1, ok_appN, ok_oVar, ok_vVar, ok_mVar, ok_k1, ok_k2, ok_kN, ok_oCons, ok_mCons, ok_call, okO_some, res_val, res_slot, resAll_nil, resAll_cons, resC_some, slotV_shr, slotV_own, deref_ref, deref_int, deref_list, deref_tup, deref_str, deref_bool, deref_dict, deref_non, deS_lst, fz_lst, fz_dct, List.getElem?_cons_zero, List.getElem?_cons_succ, ix_list_i, ix_tup_i, at0, at1, at2, at3, oS_some, ok_frz_sh, ok_frz_lst, ok_frz_dct, eq_ii, eq_ss, ok_asB_b, ok_asB'_b, ne_ii, ne_ss, ok_chkL, recv, ok_onL, List.map_cons, List.length_cons, List.length_nil, ixN0, List.eraseIdx_cons_zero, ok_mStore, RV.slot, List.set_cons_zero, List.set_cons_succ, ok_mSetIx, put_list, Option.map_some, add_ii, sub_ii, int_i, ok_mIf, ok_mAnd, ok_mOr, ok_mNot, ge_ii, gt_ii, lt_ii, le_ii, len_list, len_tup, list_list, list_tup, Nat.zero_add, Nat.reduceAdd, ok_vAnd, andP_b, ok_vOr, ok_vNot, notP_b, ok_mChain, insAt_slot, insAt_ref, insV_ref, insO_some, PV.ok_mFld, ok_mMeth, noneP_n, PV.ok_unpack2, fok_mk, Bool.false_eq_true, if_true, if_false, Bool.not_true, Bool.not_false, ok_mLc, ok_mDc, restS1, restS2, wipeS1, wipeS2, keepS_unb, keepS_shr, keepS_own, itA_l, itA_t, itA_d, sl_l, ok_mSl, ok_asI_i]
  rw [← eitO]
  refine ok_lcP (f := fun x y => match x with | .str k => .tup [.str k, if k = hand then odd else y] | _ => .none) (by decide) (by simp) (by simp) (fun p hp' => ?_) ?_
  · obtain ⟨q, hq, rfl⟩ := List.mem_map.mp hp'
    unfold k4e__law_bent_course
    by_cases hkk : q.1 = hand
    · have hb : (q.1 == hand) = true := by simpa using hkk
      simp only [ok_seq, seqP_nx, seqP_rt, endP_rt, endP_nx, mPopAt, ok_bnd, ok_ret, ok_app2, ok_app1, ok_appN, ok_oVar, ok_vVar, ok_mVar, ok_k1, ok_k2, ok_kN, ok_oCons, ok_mCons, ok_call, okO_some, res_val, res_slot, resAll_nil, resAll_cons, resC_some, slotV_shr, slotV_own, deref_ref, deref_int, deref_list, deref_tup, deref_str, deref_bool, deref_dict, deref_non, deS_lst, fz_lst, fz_dct, List.getElem?_cons_zero, List.getElem?_cons_succ, ix_list_i, ix_tup_i, at0, at1, at2, at3, oS_some, ok_frz_sh, ok_frz_lst, ok_frz_dct, eq_ii, eq_ss, ok_asB_b, ok_asB'_b, ne_ii, ne_ss, ok_chkL, recv, ok_onL, List.map_cons, List.length_cons, List.length_nil, ixN0, List.eraseIdx_cons_zero, ok_mStore, RV.slot, List.set_cons_zero, List.set_cons_succ, ok_mSetIx, put_list, Option.map_some, add_ii, sub_ii, int_i, ok_mIf, ok_mAnd, ok_mOr, ok_mNot, ge_ii, gt_ii, lt_ii, le_ii, len_list, len_tup, list_list, list_tup, Nat.zero_add, Nat.reduceAdd, ok_vAnd, andP_b, ok_vOr, ok_vNot, notP_b, ok_mChain, insAt_slot, insAt_ref, insV_ref, insO_some, PV.ok_mFld, ok_mMeth, noneP_n, PV.ok_unpack2, fok_mk, Bool.false_eq_true, if_true, if_false, Bool.not_true, Bool.not_false, ok_mLc, ok_mDc, restS1, restS2, wipeS1, wipeS2, keepS_unb, keepS_shr, keepS_own, itA_l, itA_t, itA_d, sl_l, ok_mSl, ok_asI_i, hb, if_pos hkk]
      exact ⟨trivial, trivial⟩
    · have hb : (q.1 == hand) = false := by simpa using hkk
      simp only [ok_seq, seqP_nx, seqP_rt, endP_rt, endP_nx, mPopAt, ok_bnd, ok_ret, ok_app2, ok_app1, ok_appN, ok_oVar, ok_vVar, ok_mVar, ok_k1, ok_k2, ok_kN, ok_oCons, ok_mCons, ok_call, okO_some, res_val, res_slot, resAll_nil, resAll_cons, resC_some, slotV_shr, slotV_own, deref_ref, deref_int, deref_list, deref_tup, deref_str, deref_bool, deref_dict, deref_non, deS_lst, fz_lst, fz_dct, List.getElem?_cons_zero, List.getElem?_cons_succ, ix_list_i, ix_tup_i, at0, at1, at2, at3, oS_some, ok_frz_sh, ok_frz_lst, ok_frz_dct, eq_ii, eq_ss, ok_asB_b, ok_asB'_b, ne_ii, ne_ss, ok_chkL, recv, ok_onL, List.map_cons, List.length_cons, List.length_nil, ixN0, List.eraseIdx_cons_zero, ok_mStore, RV.slot, List.set_cons_zero, List.set_cons_succ, ok_mSetIx, put_list, Option.map_some, add_ii, sub_ii, int_i, ok_mIf, ok_mAnd, ok_mOr, ok_mNot, ge_ii, gt_ii, lt_ii, le_ii, len_list, len_tup, list_list, list_tup, Nat.zero_add, Nat.reduceAdd, ok_vAnd, andP_b, ok_vOr, ok_vNot, notP_b, ok_mChain, insAt_slot, insAt_ref, insV_ref, insO_some, PV.ok_mFld, ok_mMeth, noneP_n, PV.ok_unpack2, fok_mk, Bool.false_eq_true, if_true, if_false, Bool.not_true, Bool.not_false, ok_mLc, ok_mDc, restS1, restS2, wipeS1, wipeS2, keepS_unb, keepS_shr, keepS_own, itA_l, itA_t, itA_d, sl_l, ok_mSl, ok_asI_i, hb, if_neg hkk]
      exact ⟨trivial, trivial⟩
  have eodd : (kvV (byK (srtB leS hs) g)).map (fun p => (match p.1 with | .str k => Val.tup [.str k, if k = hand then odd else p.2] | _ => .none : Val)) = (byK (srtB leS hs) fun k => if k = hand then odd else g k).map (pairV false) := by
    unfold kvV byK
    rw [List.map_map, List.map_map, List.map_map]
    rfl
  rw [eodd, eitO]
  simp only [ok_seq, seqP_nx, seqP_rt, endP_rt, endP_nx, mPopAt, ok_bnd, ok_ret, ok_app2, ok_app1, ok_appN, ok_oVar, ok_vVar, ok_mVar, ok_k1, ok_k2, ok_kN, ok_oCons, ok_mCons, ok_call, okO_some, res_val, res_slot, resAll_nil, resAll_cons, resC_some, slotV_shr, slotV_own, deref_ref, deref_int, deref_list, deref_tup, deref_str, deref_bool, deref_dict, deref_non, deS_lst, fz_lst, fz_dct, List.getElem?_cons_zero, List.getElem?_cons_succ, ix_list_i, ix_tup_i, at0, at1, at2, at3, oS_some, ok_frz_sh, ok_frz_lst, ok_frz_dct, eq_ii, eq_ss, ok_asB_b, ok_asB'_b, ne_ii, ne_ss, ok_chkL, recv, ok_onL, List.map_cons, List.length_cons, List.length_nil, ixN0, List.eraseIdx_cons_zero, ok_mStore, RV.slot, List.set_cons_zero, List.set_cons_succ, ok_mSetIx, put_list, Option.map_some, add_ii, sub_ii, int_i, ok_mIf, ok_mAnd, ok_mOr, ok_mNot, ge_ii, gt_ii, lt_ii, le_ii, len_list, len_tup, list_list, list_tup, Nat.zero_add, Nat.reduceAdd, ok_vAnd, andP_b, ok_vOr, ok_vNot, notP_b, ok_mChain, insAt_slot, insAt_ref, insV_ref, insO_some, PV.ok_mFld, ok_mMeth, noneP_n, PV.ok_unpack2, fok_mk, Bool.false_eq_true, if_true, if_false, Bool.not_true, Bool.not_false, ok_mLc, ok_mDc, restS1, restS2, wipeS1, wipeS2, keepS_unb, keepS_shr, keepS_own, itA_l, itA_t, itA_d, sl_l, ok_mSl, ok_asI_i]
  have ndo : (srtB leS hs).Nodup := nd_oh nd
  have pko : ks.Perm (srtB leS hs) := hp.trans poh.symm
  have hho : hand ∈ srtB leS hs := poh.mem_iff.mpr hh
  have nrg : ∀ k, noRef (g k) = true := fun k => by obtain ⟨i, e⟩ := hg k; rw [e]; rfl
  have nrb : ∀ k, noRef (if k = hand then odd else g k) = true := fun k => by
    split
    · exact ho.1
    · exact nrg k
  have nri : noRefs (.list (is.map Val.int)) = true := noRefs_row noRef_ints
  unfold s16__law_bent_course
  have hok : ∀ x ∈ srtB leS hs, okName x := fun x hx' => .inl (hx x (poh.mem_iff.mp hx'))
  simp only [ok_seq, seqP_nx, seqP_rt, endP_rt, endP_nx, mPopAt, ok_bnd, ok_ret, ok_app2, ok_app1, ok_appN, ok_oVar, ok_vVar, ok_mVar, ok_k1, ok_k2, ok_kN, ok_oCons, ok_mCons, ok_call, okO_some, res_val, res_slot, resAll_nil, resAll_cons, resC_some, slotV_shr, slotV_own, deref_ref, deref_int, deref_list, deref_tup, deref_str, deref_bool, deref_dict, deref_non, deS_lst, fz_lst, fz_dct, List.getElem?_cons_zero, List.getElem?_cons_succ, ix_list_i, ix_tup_i, at0, at1, at2, at3, oS_some, ok_frz_sh, ok_frz_lst, ok_frz_dct, eq_ii, eq_ss, ok_asB_b, ok_asB'_b, ne_ii, ne_ss, ok_chkL, recv, ok_onL, List.map_cons, List.length_cons, List.length_nil, ixN0, List.eraseIdx_cons_zero, ok_mStore, RV.slot, List.set_cons_zero, List.set_cons_succ, ok_mSetIx, put_list, Option.map_some, add_ii, sub_ii, int_i, ok_mIf, ok_mAnd, ok_mOr, ok_mNot, ge_ii, gt_ii, lt_ii, le_ii, len_list, len_tup, list_list, list_tup, Nat.zero_add, Nat.reduceAdd, ok_vAnd, andP_b, ok_vOr, ok_vNot, notP_b, ok_mChain, insAt_slot, insAt_ref, insV_ref, insO_some, PV.ok_mFld, ok_mMeth, noneP_n, PV.ok_unpack2, fok_mk, Bool.false_eq_true, if_true, if_false, Bool.not_true, Bool.not_false, ok_mLc, ok_mDc, restS1, restS2, wipeS1, wipeS2, keepS_unb, keepS_shr, keepS_own, itA_l, itA_t, itA_d, sl_l, ok_mSl, ok_asI_i]
  by_cases hw7 : way < 7
  · simp only [ok_seq, seqP_nx, seqP_rt, endP_rt, endP_nx, mPopAt, ok_bnd, ok_ret, ok_app2, ok_app1, ok_appN, ok_oVar, ok_vVar, ok_mVar, ok_k1, ok_k2, ok_kN, ok_oCons, ok_mCons, ok_call, okO_some, res_val, res_slot, resAll_nil, resAll_cons, resC_some, slotV_shr, slotV_own, deref_ref, deref_int, deref_list, deref_tup, deref_str, deref_bool, deref_dict, deref_non, deS_lst, fz_lst, fz_dct, List.getElem?_cons_zero, List.getElem?_cons_succ, ix_list_i, ix_tup_i, at0, at1, at2, at3, oS_some, ok_frz_sh, ok_frz_lst, ok_frz_dct, eq_ii, eq_ss, ok_asB_b, ok_asB'_b, ne_ii, ne_ss, ok_chkL, recv, ok_onL, List.map_cons, List.length_cons, List.length_nil, ixN0, List.eraseIdx_cons_zero, ok_mStore, RV.slot, List.set_cons_zero, List.set_cons_succ, ok_mSetIx, put_list, Option.map_some, add_ii, sub_ii, int_i, ok_mIf, ok_mAnd, ok_mOr, ok_mNot, ge_ii, gt_ii, lt_ii, le_ii, len_list, len_tup, list_list, list_tup, Nat.zero_add, Nat.reduceAdd, ok_vAnd, andP_b, ok_vOr, ok_vNot, notP_b, ok_mChain, insAt_slot, insAt_ref, insV_ref, insO_some, PV.ok_mFld, ok_mMeth, noneP_n, PV.ok_unpack2, fok_mk, Bool.false_eq_true, if_true, if_false, Bool.not_true, Bool.not_false, ok_mLc, ok_mDc, restS1, restS2, wipeS1, wipeS2, keepS_unb, keepS_shr, keepS_own, itA_l, itA_t, itA_d, sl_l, ok_mSl, ok_asI_i, decide_eq_true hw7]
    obtain ⟨j, ej⟩ : ∃ j : Nat, way - 1 = j := ⟨(way - 1).toNat, by omega⟩
    rw [ej]
    have hj : j < 6 := by omega
    have hat : ∀ l : List Val, l.length = 6 → ∃ d ∈ l, L2.atI l (j : Int) = some d := fun l hl6 => ⟨l[j]'(by omega), List.getElem_mem _, atI_nat (List.getElem?_eq_getElem (by omega))⟩
    obtain ⟨d, hd6, e6⟩ := hat [.dict (kvV (byK ks fun k => if k = hand then odd else g k)), .dict (kvV (byK (ks.filter fun k => !(k == hand)) g)), .dict (kvV (byK ks g ++ [(("nobody" : Str), Val.int 0)])),
      .list ((byK (srtB leS hs) g ++ (byK (srtB leS hs) g).take 1).map (pairV false)), .list (pairV false (a, g a) :: ((byK (srtB leS hs) g).take ((srtB leS hs).length - 1)).map (pairV false)), .list ((byK (srtB leS hs) fun k => if k = hand then odd else g k).map (pairV false))] rfl
    simp only [ok_seq, seqP_nx, seqP_rt, endP_rt, endP_nx, mPopAt, ok_bnd, ok_ret, ok_app2, ok_app1, ok_appN, ok_oVar, ok_vVar, ok_mVar, ok_k1, ok_k2, ok_kN, ok_oCons, ok_mCons, ok_call, okO_some, res_val, res_slot, resAll_nil, resAll_cons, resC_some, slotV_shr, slotV_own, deref_ref, deref_int, deref_list, deref_tup, deref_str, deref_bool, deref_dict, deref_non, deS_lst, fz_lst, fz_dct, List.getElem?_cons_zero, List.getElem?_cons_succ, ix_list_i, ix_tup_i, at0, at1, at2, at3, oS_some, ok_frz_sh, ok_frz_lst, ok_frz_dct, eq_ii, eq_ss, ok_asB_b, ok_asB'_b, ne_ii, ne_ss, ok_chkL, recv, ok_onL, List.map_cons, List.length_cons, List.length_nil, ixN0, List.eraseIdx_cons_zero, ok_mStore, RV.slot, List.set_cons_zero, List.set_cons_succ, ok_mSetIx, put_list, Option.map_some, add_ii, sub_ii, int_i, ok_mIf, ok_mAnd, ok_mOr, ok_mNot, ge_ii, gt_ii, lt_ii, le_ii, len_list, len_tup, list_list, list_tup, Nat.zero_add, Nat.reduceAdd, ok_vAnd, andP_b, ok_vOr, ok_vNot, notP_b, ok_mChain, insAt_slot, insAt_ref, insV_ref, insO_some, PV.ok_mFld, ok_mMeth, noneP_n, PV.ok_unpack2, fok_mk, Bool.false_eq_true, if_true, if_false, Bool.not_true, Bool.not_false, ok_mLc, ok_mDc, restS1, restS2, wipeS1, wipeS2, keepS_unb, keepS_shr, keepS_own, itA_l, itA_t, itA_d, sl_l, ok_mSl, ok_asI_i, e6]
    refine ⟨_, .inr ⟨_, rfl, rfl⟩, rfl, ?_, g3.mono (by omega)⟩
    simp only [List.mem_cons, List.not_mem_nil, or_false] at hd6
    rcases hd6 with rfl | rfl | rfl | rfl | rfl | rfl
    · exact bad_first nd hz (noRefW_byK fun k _ => nrb k) nri (kept_odd pko hho (by rw [if_pos rfl]; exact ho.2))
    · refine bad_first nd hz (noRefW_byK fun k _ => nrg k) nri (kept_len ?_)
      rw [byK_len, ← pko.length_eq]
      refine Nat.ne_of_lt (List.length_filter_lt_length_iff_exists.mpr ⟨hand, hp.mem_iff.mpr hh, by simp⟩)
    · refine bad_first nd hz (fun p hp' => ?_) nri (kept_len ?_)
      · rcases List.mem_append.mp hp' with hp' | hp'
        · exact noRefW_byK (fun k _ => nrg k) p hp'
        · rw [List.mem_singleton] at hp'; subst hp'; rfl
      · rw [List.length_append, byK_len, ← pko.length_eq]
        simp
    · refine bad_pairs (l2 := true) (l := false) nd hz (fun p hp' => ?_) (fun p hp' => ?_) nri (keptP_len ?_)
      · rcases List.mem_append.mp hp' with hp' | hp'
        · exact noRefW_byK (fun k _ => nrg k) p hp'
        · exact noRefW_byK (fun k _ => nrg k) p (List.mem_of_mem_take hp')
      · have : p ∈ byK (srtB leS hs) g := by
          rcases List.mem_append.mp hp' with hp' | hp'
          · exact hp'
          · exact List.mem_of_mem_take hp'
        obtain ⟨k, hk, rfl⟩ := List.mem_map.mp this
        exact hok k hk
      · rw [List.length_append, List.length_take, byK_len]; omega
    · have hin : ∀ p ∈ (a, g a) :: (byK (srtB leS hs) g).take ((srtB leS hs).length - 1), p ∈ byK (srtB leS hs) g := fun p hp' => by
        rcases List.mem_cons.mp hp' with rfl | hp'
        · rw [eoh]; exact List.mem_cons_self
        · exact List.mem_of_mem_take hp'
      refine bad_pairs (zs := (a, g a) :: (byK (srtB leS hs) g).take ((srtB leS hs).length - 1)) (l2 := true) (l := false) nd hz (fun p hp' => noRefW_byK (fun k _ => nrg k) p (hin p hp')) (fun p hp' => ?_) nri (keptP_dup ?_ ?_)
      · obtain ⟨k, hk, rfl⟩ := List.mem_map.mp (hin p hp')
        exact hok k hk
      · rw [List.length_cons, List.length_take, byK_len]; omega
      · intro z
        have hpos : 0 < oh'.length := by rw [eoh] at hol; simp at hol; omega
        rw [eoh] at z
        have e5 : (byK (a :: oh') g).take ((a :: oh').length - 1) = (a, g a) :: (byK oh' g).take (oh'.length - 1) := by
          obtain ⟨m, em⟩ : ∃ m, oh'.length = m + 1 := ⟨oh'.length - 1, by omega⟩
          show ((a, g a) :: byK oh' g).take ((oh'.length + 1) - 1) = _
          rw [em]
          rfl
        rw [e5] at z
        simp at z
    · exact bad_pairs (l2 := true) (l := false) nd hz (noRefW_byK fun k _ => nrb k) (fun p hp' => by obtain ⟨k, hk, rfl⟩ := List.mem_map.mp hp'; exact hok k hk) nri
        (by rw [keptP_nodup (by rw [byK_keys]; exact ndo) (by rw [byK_keys])]; exact kept_odd (.refl _) hho (by rw [if_pos rfl]; exact ho.2))
  simp only [ok_seq, seqP_nx, seqP_rt, endP_rt, endP_nx, mPopAt, ok_bnd, ok_ret, ok_app2, ok_app1, ok_appN, ok_oVar, ok_vVar, ok_mVar, ok_k1, ok_k2, ok_kN, ok_oCons, ok_mCons, ok_call, okO_some, res_val, res_slot, resAll_nil, resAll_cons, resC_some, slotV_shr, slotV_own, deref_ref, deref_int, deref_list, deref_tup, deref_str, deref_bool, deref_dict, deref_non, deS_lst, fz_lst, fz_dct, List.getElem?_cons_zero, List.getElem?_cons_succ, ix_list_i, ix_tup_i, at0, at1, at2, at3, oS_some, ok_frz_sh, ok_frz_lst, ok_frz_dct, eq_ii, eq_ss, ok_asB_b, ok_asB'_b, ne_ii, ne_ss, ok_chkL, recv, ok_onL, List.map_cons, List.length_cons, List.length_nil, ixN0, List.eraseIdx_cons_zero, ok_mStore, RV.slot, List.set_cons_zero, List.set_cons_succ, ok_mSetIx, put_list, Option.map_some, add_ii, sub_ii, int_i, ok_mIf, ok_mAnd, ok_mOr, ok_mNot, ge_ii, gt_ii, lt_ii, le_ii, len_list, len_tup, list_list, list_tup, Nat.zero_add, Nat.reduceAdd, ok_vAnd, andP_b, ok_vOr, ok_vNot, notP_b, ok_mChain, insAt_slot, insAt_ref, insV_ref, insO_some, PV.ok_mFld, ok_mMeth, noneP_n, PV.ok_unpack2, fok_mk, Bool.false_eq_true, if_true, if_false, Bool.not_true, Bool.not_false, ok_mLc, ok_mDc, restS1, restS2, wipeS1, wipeS2, keepS_unb, keepS_shr, keepS_own, itA_l, itA_t, itA_d, sl_l, ok_mSl, ok_asI_i, decide_eq_false hw7]
  unfold s17__law_bent_course
  simp only [ok_seq, seqP_nx, seqP_rt, endP_rt, endP_nx, mPopAt, ok_bnd, ok_ret, ok_app2, ok_app1, ok_appN, ok_oVar, ok_vVar, ok_mVar, ok_k1, ok_k2, ok_kN, ok_oCons, ok_mCons, ok_call, okO_some, res_val, res_slot, resAll_nil, resAll_cons, resC_some, slotV_shr, slotV_own, deref_ref, deref_int, deref_list, deref_tup, deref_str, deref_bool, deref_dict, deref_non, deS_lst, fz_lst, fz_dct, List.getElem?_cons_zero, List.getElem?_cons_succ, ix_list_i, ix_tup_i, at0, at1, at2, at3, oS_some, ok_frz_sh, ok_frz_lst, ok_frz_dct, eq_ii, eq_ss, ok_asB_b, ok_asB'_b, ne_ii, ne_ss, ok_chkL, recv, ok_onL, List.map_cons, List.length_cons, List.length_nil, ixN0, List.eraseIdx_cons_zero, ok_mStore, RV.slot, List.set_cons_zero, List.set_cons_succ, ok_mSetIx, put_list, Option.map_some, add_ii, sub_ii, int_i, ok_mIf, ok_mAnd, ok_mOr, ok_mNot, ge_ii, gt_ii, lt_ii, le_ii, len_list, len_tup, list_list, list_tup, Nat.zero_add, Nat.reduceAdd, ok_vAnd, andP_b, ok_vOr, ok_vNot, notP_b, ok_mChain, insAt_slot, insAt_ref, insV_ref, insO_some, PV.ok_mFld, ok_mMeth, noneP_n, PV.ok_unpack2, fok_mk, Bool.false_eq_true, if_true, if_false, Bool.not_true, Bool.not_false, ok_mLc, ok_mDc, restS1, restS2, wipeS1, wipeS2, keepS_unb, keepS_shr, keepS_own, itA_l, itA_t, itA_d, sl_l, ok_mSl, ok_asI_i]
  refine (draw_ok g3 (by omega) (by rw [List.length_map]; omega) (by rw [List.length_map]; omega)).mono fun r S4 ⟨at_, er, a0, a1, g4⟩ => ?_
  subst er
  unfold s18__law_bent_course
  simp only [ok_seq, seqP_nx, seqP_rt, endP_rt, endP_nx, mPopAt, ok_bnd, ok_ret, ok_app2, ok_app1, ok_appN, ok_oVar, ok_vVar, ok_mVar, ok_k1, ok_k2, ok_kN, ok_oCons, ok_mCons, ok_call, okO_some, res_val, res_slot, resAll_nil, resAll_cons, resC_some, slotV_shr, slotV_own, deref_ref, deref_int, deref_list, deref_tup, deref_str, deref_bool, deref_dict, deref_non, deS_lst, fz_lst, fz_dct, List.getElem?_cons_zero, List.getElem?_cons_succ, ix_list_i, ix_tup_i, at0, at1, at2, at3, oS_some, ok_frz_sh, ok_frz_lst, ok_frz_dct, eq_ii, eq_ss, ok_asB_b, ok_asB'_b, ne_ii, ne_ss, ok_chkL, recv, ok_onL, List.map_cons, List.length_cons, List.length_nil, ixN0, List.eraseIdx_cons_zero, ok_mStore, RV.slot, List.set_cons_zero, List.set_cons_succ, ok_mSetIx, put_list, Option.map_some, add_ii, sub_ii, int_i, ok_mIf, ok_mAnd, ok_mOr, ok_mNot, ge_ii, gt_ii, lt_ii, le_ii, len_list, len_tup, list_list, list_tup, Nat.zero_add, Nat.reduceAdd, ok_vAnd, andP_b, ok_vOr, ok_vNot, notP_b, ok_mChain, insAt_slot, insAt_ref, insV_ref, insO_some, PV.ok_mFld, ok_mMeth, noneP_n, PV.ok_unpack2, fok_mk, Bool.false_eq_true, if_true, if_false, Bool.not_true, Bool.not_false, ok_mLc, ok_mDc, restS1, restS2, wipeS1, wipeS2, keepS_unb, keepS_shr, keepS_own, itA_l, itA_t, itA_d, sl_l, ok_mSl, ok_asI_i, en]
  refine (pick_ok g4 (by omega) (by simp) (by simp)).mono fun r S5 ⟨od2, er, hd2, g5⟩ => ?_
  subst er
  have ho2 : noRef od2 = true ∧ isIx ms.length od2 = false := by
    simp only [List.mem_cons, List.not_mem_nil, or_false, List.length_map] at hd2
    rcases hd2 with rfl | rfl | rfl | rfl | rfl | rfl
    · exact ⟨rfl, rfl⟩
    · exact ⟨rfl, by simp [isIx]⟩
    · exact ⟨rfl, rfl⟩
    · exact ⟨rfl, rfl⟩
    · exact ⟨rfl, rfl⟩
    · exact ⟨rfl, rfl⟩
  unfold s19__law_bent_course
  have hcm : cMod (way - 7) 4 = true := rfl
  have hcl : ∀ lo hi, (cutD (is.map Val.int) lo hi).length ≤ 6 := fun lo hi => by
    unfold cutD
    rw [List.length_take, List.length_drop, List.length_map]; omega
  simp only [ok_seq, seqP_nx, seqP_rt, endP_rt, endP_nx, mPopAt, ok_bnd, ok_ret, ok_app2, ok_app1, ok_appN, ok_oVar, ok_vVar, ok_mVar, ok_k1, ok_k2, ok_kN, ok_oCons, ok_mCons, ok_call, okO_some, res_val, res_slot, resAll_nil, resAll_cons, resC_some, slotV_shr, slotV_own, deref_ref, deref_int, deref_list, deref_tup, deref_str, deref_bool, deref_dict, deref_non, deS_lst, fz_lst, fz_dct, List.getElem?_cons_zero, List.getElem?_cons_succ, ix_list_i, ix_tup_i, at0, at1, at2, at3, oS_some, ok_frz_sh, ok_frz_lst, ok_frz_dct, eq_ii, eq_ss, ok_asB_b, ok_asB'_b, ne_ii, ne_ss, ok_chkL, recv, ok_onL, List.map_cons, List.length_cons, List.length_nil, ixN0, List.eraseIdx_cons_zero, ok_mStore, RV.slot, List.set_cons_zero, List.set_cons_succ, ok_mSetIx, put_list, Option.map_some, add_ii, sub_ii, int_i, ok_mIf, ok_mAnd, ok_mOr, ok_mNot, ge_ii, gt_ii, lt_ii, le_ii, len_list, len_tup, list_list, list_tup, Nat.zero_add, Nat.reduceAdd, ok_vAnd, andP_b, ok_vOr, ok_vNot, notP_b, ok_mChain, insAt_slot, insAt_ref, insV_ref, insO_some, PV.ok_mFld, ok_mMeth, noneP_n, PV.ok_unpack2, fok_mk, Bool.false_eq_true, if_true, if_false, Bool.not_true, Bool.not_false, ok_mLc, ok_mDc, restS1, restS2, wipeS1, wipeS2, keepS_unb, keepS_shr, keepS_own, itA_l, itA_t, itA_d, sl_l, ok_mSl, ok_asI_i]
  have hcl1 := hcl none (some at_)
  have hcl2 := hcl (some at_) none
  rw [add_ll (by simp only [List.length_cons, List.length_nil]; omega)]
  simp only [ok_seq, seqP_nx, seqP_rt, endP_rt, endP_nx, mPopAt, ok_bnd, ok_ret, ok_app2, ok_app1, ok_appN, ok_oVar, ok_vVar, ok_mVar, ok_k1, ok_k2, ok_kN, ok_oCons, ok_mCons, ok_call, okO_some, res_val, res_slot, resAll_nil, resAll_cons, resC_some, slotV_shr, slotV_own, deref_ref, deref_int, deref_list, deref_tup, deref_str, deref_bool, deref_dict, deref_non, deS_lst, fz_lst, fz_dct, List.getElem?_cons_zero, List.getElem?_cons_succ, ix_list_i, ix_tup_i, at0, at1, at2, at3, oS_some, ok_frz_sh, ok_frz_lst, ok_frz_dct, eq_ii, eq_ss, ok_asB_b, ok_asB'_b, ne_ii, ne_ss, ok_chkL, recv, ok_onL, List.map_cons, List.length_cons, List.length_nil, ixN0, List.eraseIdx_cons_zero, ok_mStore, RV.slot, List.set_cons_zero, List.set_cons_succ, ok_mSetIx, put_list, Option.map_some, add_ii, sub_ii, int_i, ok_mIf, ok_mAnd, ok_mOr, ok_mNot, ge_ii, gt_ii, lt_ii, le_ii, len_list, len_tup, list_list, list_tup, Nat.zero_add, Nat.reduceAdd, ok_vAnd, andP_b, ok_vOr, ok_vNot, notP_b, ok_mChain, insAt_slot, insAt_ref, insV_ref, insO_some, PV.ok_mFld, ok_mMeth, noneP_n, PV.ok_unpack2, fok_mk, Bool.false_eq_true, if_true, if_false, Bool.not_true, Bool.not_false, ok_mLc, ok_mDc, restS1, restS2, wipeS1, wipeS2, keepS_unb, keepS_shr, keepS_own, itA_l, itA_t, itA_d, sl_l, ok_mSl, ok_asI_i]
  rw [add_ll (by rw [List.length_append, List.length_cons, List.length_nil]; omega)]
  simp only [ok_seq, seqP_nx, seqP_rt, endP_rt, endP_nx, mPopAt, ok_bnd, ok_ret, ok_app2, ok_app1, ok_appN, ok_oVar, ok_vVar, ok_mVar, ok_k1, ok_k2, ok_kN, ok_oCons, ok_mCons, ok_call, okO_some, res_val, res_slot, resAll_nil, resAll_cons, resC_some, slotV_shr, slotV_own, deref_ref, deref_int, deref_list, deref_tup, deref_str, deref_bool, deref_dict, deref_non, deS_lst, fz_lst, fz_dct, List.getElem?_cons_zero, List.getElem?_cons_succ, ix_list_i, ix_tup_i, at0, at1, at2, at3, oS_some, ok_frz_sh, ok_frz_lst, ok_frz_dct, eq_ii, eq_ss, ok_asB_b, ok_asB'_b, ne_ii, ne_ss, ok_chkL, recv, ok_onL, List.map_cons, List.length_cons, List.length_nil, ixN0, List.eraseIdx_cons_zero, ok_mStore, RV.slot, List.set_cons_zero, List.set_cons_succ, ok_mSetIx, put_list, Option.map_some, add_ii, sub_ii, int_i, ok_mIf, ok_mAnd, ok_mOr, ok_mNot, ge_ii, gt_ii, lt_ii, le_ii, len_list, len_tup, list_list, list_tup, Nat.zero_add, Nat.reduceAdd, ok_vAnd, andP_b, ok_vOr, ok_vNot, notP_b, ok_mChain, insAt_slot, insAt_ref, insV_ref, insO_some, PV.ok_mFld, ok_mMeth, noneP_n, PV.ok_unpack2, fok_mk, Bool.false_eq_true, if_true, if_false, Bool.not_true, Bool.not_false, ok_mLc, ok_mDc, restS1, restS2, wipeS1, wipeS2, keepS_unb, keepS_shr, keepS_own, itA_l, itA_t, itA_d, sl_l, ok_mSl, ok_asI_i, mod_ii hcm]
  obtain ⟨j, ej⟩ : ∃ j : Nat, (way - 7) % 4 = j := ⟨((way - 7) % 4).toNat, by omega⟩
  rw [ej]
  have hj : j < 4 := by omega
  have hat : ∀ l : List Val, l.length = 4 → ∃ d ∈ l, L2.atI l (j : Int) = some d := fun l hl6 => ⟨l[j]'(by omega), List.getElem_mem _, atI_nat (List.getElem?_eq_getElem (by omega))⟩
  obtain ⟨d, hd4, e6⟩ := hat [.list (cutD (is.map Val.int) none (some at_) ++ [od2] ++ cutD (is.map Val.int) (some at_) none), .none, .int 5, .dict []] rfl
  simp only [ok_seq, seqP_nx, seqP_rt, endP_rt, endP_nx, mPopAt, ok_bnd, ok_ret, ok_app2, ok_app1, ok_appN, ok_oVar, ok_vVar, ok_mVar, ok_k1, ok_k2, ok_kN, ok_oCons, ok_mCons, ok_call, okO_some, res_val, res_slot, resAll_nil, resAll_cons, resC_some, slotV_shr, slotV_own, deref_ref, deref_int, deref_list, deref_tup, deref_str, deref_bool, deref_dict, deref_non, deS_lst, fz_lst, fz_dct, List.getElem?_cons_zero, List.getElem?_cons_succ, ix_list_i, ix_tup_i, at0, at1, at2, at3, oS_some, ok_frz_sh, ok_frz_lst, ok_frz_dct, eq_ii, eq_ss, ok_asB_b, ok_asB'_b, ne_ii, ne_ss, ok_chkL, recv, ok_onL, List.map_cons, List.length_cons, List.length_nil, ixN0, List.eraseIdx_cons_zero, ok_mStore, RV.slot, List.set_cons_zero, List.set_cons_succ, ok_mSetIx, put_list, Option.map_some, add_ii, sub_ii, int_i, ok_mIf, ok_mAnd, ok_mOr, ok_mNot, ge_ii, gt_ii, lt_ii, le_ii, len_list, len_tup, list_list, list_tup, Nat.zero_add, Nat.reduceAdd, ok_vAnd, andP_b, ok_vOr, ok_vNot, notP_b, ok_mChain, insAt_slot, insAt_ref, insV_ref, insO_some, PV.ok_mFld, ok_mMeth, noneP_n, PV.ok_unpack2, fok_mk, Bool.false_eq_true, if_true, if_false, Bool.not_true, Bool.not_false, ok_mLc, ok_mDc, restS1, restS2, wipeS1, wipeS2, keepS_unb, keepS_shr, keepS_own, itA_l, itA_t, itA_d, sl_l, ok_mSl, ok_asI_i, e6]
  refine ⟨_, .inr ⟨_, rfl, rfl⟩, rfl, ?_, g5.mono (by omega)⟩
  simp only [List.mem_cons, List.not_mem_nil, or_false] at hd4
  rcases hd4 with rfl | rfl | rfl | rfl
  · refine bad_second nd hz (noRefW_byK fun k _ => nrg k) (noRefs_row fun x hx' => ?_) (row_odd ho2.2)
    rcases List.mem_append.mp hx' with hx' | hx'
    · rcases List.mem_append.mp hx' with hx' | hx'
      · exact noRef_ints _ (cut_mem hx')
      · rw [List.mem_singleton] at hx'; subst hx'; exact ho2.1
    · exact noRef_ints _ (cut_mem hx')
  · exact bad_second nd hz (noRefW_byK fun k _ => nrg k) rfl rfl
  · exact bad_second nd hz (noRefW_byK fun k _ => nrg k) rfl rfl
  · exact bad_second nd hz (noRefW_byK fun k _ => nrg k) rfl rfl
end K02

namespace K02
open PySem hiding ret
open PySem.Spec L2 PV
/-! ### the law -/
theorem St.len {S T : List MO} {n : Nat} (h : St S T n) : S.length = T.length + 2 := by
  obtain ⟨cells, c, cnt, mix, rfl, _⟩ := h.ex
  simp
theorem St.at_ {S T : List MO} {n k : Nat} (h : St S T n) : S[k + 2]? = T[k]? := by
  obtain ⟨cells, c, cnt, mix, rfl, _⟩ := h.ex
  rfl
theorem St.more {S T : List MO} {n : Nat} {o : MO} (h : St S T n) : St (S ++ [o]) (T ++ [o]) n := by
  obtain ⟨cells, c, cnt, mix, rfl, q⟩ := h.ex
  exact ⟨cells, c, cnt, mix, rfl, q⟩
def unpair : Val → Str × Val
  | .tup [.str x, v] => (x, v)
  | _ => (default, .none)
theorem unpair_map : ∀ xs : List (Str × Val), (xs.map (pairV false)).map unpair = xs
  | [] => rfl
  | x :: xs => by rw [List.map_cons, List.map_cons, unpair_map xs]; rfl
theorem all_pair : ∀ ys : List Val, (∀ y ∈ ys, ∃ x, y = pairV false x) → ∃ zs : List (Str × Val), ys = zs.map (pairV false)
  | [], _ => ⟨[], rfl⟩
  | y :: ys, h => by
    obtain ⟨x, rfl⟩ := h y List.mem_cons_self
    obtain ⟨zs, rfl⟩ := all_pair ys fun z hz => h z (List.mem_cons_of_mem _ hz)
    exact ⟨x :: zs, rfl⟩
theorem perm_pair {ys : List Val} {xs : List (Str × Val)} (p : ys.Perm (xs.map (pairV false))) : ∃ zs : List (Str × Val), ys = zs.map (pairV false) ∧ zs.Perm xs := by
  obtain ⟨zs, rfl⟩ := all_pair ys fun y hy => by
    obtain ⟨x, _, e⟩ := List.mem_map.mp (p.mem_iff.mp hy)
    exact ⟨x, e.symm⟩
  refine ⟨zs, rfl, ?_⟩
  have := p.map unpair
  rwa [unpair_map, unpair_map] at this
theorem ints_g {ws : List (Str × Int)} (nd : (ws.map (·.1)).Nodup) : ∃ g : Str → Val, (∀ k, ∃ i, g k = .int i) ∧ wV ws = kvV (byK (ws.map (·.1)) g) := by
  induction ws with
  | nil => exact ⟨fun _ => .int 0, fun _ => ⟨0, rfl⟩, rfl⟩
  | cons p ws ih =>
    rw [List.map_cons, List.nodup_cons] at nd
    obtain ⟨g, h1, h2⟩ := ih nd.2
    refine ⟨fun k => if k = p.1 then .int p.2 else g k, fun k => ?_, ?_⟩
    · dsimp only
      split
      · exact ⟨_, rfl⟩
      · exact h1 k
    · show (Val.str p.1, Val.int p.2) :: wV ws = (Val.str p.1, if p.1 = p.1 then Val.int p.2 else g p.1) :: kvV (byK (ws.map (·.1)) fun k => if k = p.1 then Val.int p.2 else g k)
      rw [if_pos rfl, h2]
      have : byK (ws.map (·.1)) g = byK (ws.map (·.1)) fun k => if k = p.1 then Val.int p.2 else g k := by
        refine List.map_congr_left fun k hk => ?_
        show (k, g k) = (k, if k = p.1 then Val.int p.2 else g k)
        rw [if_neg fun z : k = p.1 => nd.1 (z ▸ hk)]
      rw [this]
theorem is_tt {b : Bool} : fIs true (.bool b) (.bool true) = some (.sh (.bool (!decide (b = true)))) := rfl
theorem is_ff {b : Bool} : fIs true (.bool b) (.bool false) = some (.sh (.bool (!decide (b = false)))) := rfl
theorem l3_ok {S : List MO} {w : Nat} {hs : List Str} {ms : List (List (Str × List Str))} {a b : Val} {s0 s1 s2 s3 s4 s6 s7 s8 s9 s11 s13 s14 : PV.Slot} {P : Fl → State → Prop} (hw : S[w]? = some (worldO hs ms))
    (h1 : GoodC hs ms (seqV false [a, b])) (h2 : GoodC hs ms (seqV true [a, b]))
    (k : P .nx ⟨[s0, s1, s2, s3, s4, .shr (.ref w), s6, s7, s8, s9, .shr a, s11, .shr b, s13, s14], S⟩) :
    Ok (l3b_law ⟨[s0, s1, s2, s3, s4, .shr (.ref w), s6, s7, s8, s9, .shr a, s11, .shr b, s13, s14], S⟩) P := by
  unfold l3b_law
  have g1 : F_is_course [.ref w, .tup [a, b]] S = .ok (.sh (.bool true)) S := h1 S w hw
  have g2 : F_is_course [.ref w, .list [a, b]] S = .ok (.sh (.bool true)) S := h2 S w hw
  simp only [ok_seq, seqP_nx, seqP_rt, endP_rt, endP_nx, mPopAt, ok_bnd, ok_ret, ok_app2, ok_app1, ok_appN, ok_oVar, ok_vVar, ok_mVar, ok_k1, ok_k2, ok_kN, ok_oCons, ok_mCons, ok_call, okO_some, res_val, res_slot, resAll_nil, resAll_cons, resC_some, slotV_shr, slotV_own, deref_ref, deref_int, deref_list, deref_tup, deref_str, deref_bool, deref_dict, deref_non, deS_lst, fz_lst, fz_dct, List.getElem?_cons_zero, List.getElem?_cons_succ, ix_list_i, ix_tup_i, at0, at1, at2, at3, oS_some, ok_frz_sh, ok_frz_lst, ok_frz_dct, eq_ii, eq_ss, ok_asB_b, ok_asB'_b, ne_ii, ne_ss, ok_chkL, recv, ok_onL, List.map_cons, List.length_cons, List.length_nil, ixN0, List.eraseIdx_cons_zero, ok_mStore, RV.slot, List.set_cons_zero, List.set_cons_succ, ok_mSetIx, put_list, Option.map_some, add_ii, sub_ii, int_i, ok_mIf, ok_mAnd, ok_mOr, ok_mNot, ge_ii, gt_ii, lt_ii, le_ii, len_list, len_tup, list_list, list_tup, Nat.zero_add, Nat.reduceAdd, ok_vAnd, andP_b, ok_vOr, ok_vNot, notP_b, ok_mChain, insAt_slot, insAt_ref, insV_ref, insO_some, PV.ok_mFld, ok_mMeth, noneP_n, PV.ok_unpack2, fok_mk, Bool.false_eq_true, if_true, if_false, Bool.not_true, Bool.not_false, ok_mLc, ok_mDc, restS1, restS2, wipeS1, wipeS2, keepS_unb, keepS_shr, keepS_own, itA_l, itA_t, itA_d, sl_l, ok_mSl, ok_asI_i, g1, g2, is_tt, decide_true]
  exact k
theorem l4_ok {S : List MO} {w : Nat} {hs : List Str} {ms : List (List (Str × List Str))} {a : Val} {ds : List Val} {own : Bool} {s0 s1 s2 s3 s4 s6 s8 s9 s11 s12 s13 s14 : PV.Slot} {P : Fl → State → Prop} (hw : S[w]? = some (worldO hs ms))
    (hg : ∀ l l2, GoodC hs ms (seqV l [a, seqV l2 ds]))
    (k : ∀ s12', P .nx ⟨[s0, s1, s2, s3, s4, .shr (.ref w), s6, .shr (.list ds), s8, s9, .shr a, s11, s12', s13, s14], S⟩) :
    Ok (l4b_law ⟨[s0, s1, s2, s3, s4, .shr (.ref w), s6, if own = true then .own (.lst ds) else .shr (.list ds), s8, s9, .shr a, s11, s12, s13, s14], S⟩) P := by
  unfold l4b_law
  have et : fTuple [.list ds] = some (.sh (.tup ds)) := rfl
  have key : Ok (mFor (mStore 12) l3b_law [.list ds, .tup ds] ⟨[s0, s1, s2, s3, s4, .shr (.ref w), s6, .shr (.list ds), s8, s9, .shr a, s11, s12, s13, s14], S⟩) P := by
    rw [ok_for_cons]
    simp only [ok_mStore, RV.slot, List.set_cons_zero, List.set_cons_succ]
    refine l3_ok hw (hg false true) (hg true true) ?_
    show Ok (mFor (mStore 12) l3b_law [.tup ds] _) P
    rw [ok_for_cons]
    simp only [ok_mStore, RV.slot, List.set_cons_zero, List.set_cons_succ]
    refine l3_ok hw (hg false false) (hg true false) ?_
    show Ok (mFor (mStore 12) l3b_law [] _) P
    rw [ok_for_nil]
    exact k _
  cases own with
  | true =>
    rw [if_pos rfl]
    simp only [ok_seq, seqP_nx, seqP_rt, endP_rt, endP_nx, mPopAt, ok_bnd, ok_ret, ok_app2, ok_app1, ok_appN, ok_oVar, ok_vVar, ok_mVar, ok_k1, ok_k2, ok_kN, ok_oCons, ok_mCons, ok_call, okO_some, res_val, res_slot, resAll_nil, resAll_cons, resC_some, slotV_shr, slotV_own, deref_ref, deref_int, deref_list, deref_tup, deref_str, deref_bool, deref_dict, deref_non, deS_lst, fz_lst, fz_dct, List.getElem?_cons_zero, List.getElem?_cons_succ, ix_list_i, ix_tup_i, at0, at1, at2, at3, oS_some, ok_frz_sh, ok_frz_lst, ok_frz_dct, eq_ii, eq_ss, ok_asB_b, ok_asB'_b, ne_ii, ne_ss, ok_chkL, recv, ok_onL, List.map_cons, List.length_cons, List.length_nil, ixN0, List.eraseIdx_cons_zero, ok_mStore, RV.slot, List.set_cons_zero, List.set_cons_succ, ok_mSetIx, put_list, Option.map_some, add_ii, sub_ii, int_i, ok_mIf, ok_mAnd, ok_mOr, ok_mNot, ge_ii, gt_ii, lt_ii, le_ii, len_list, len_tup, list_list, list_tup, Nat.zero_add, Nat.reduceAdd, ok_vAnd, andP_b, ok_vOr, ok_vNot, notP_b, ok_mChain, insAt_slot, insAt_ref, insV_ref, insO_some, PV.ok_mFld, ok_mMeth, noneP_n, PV.ok_unpack2, fok_mk, Bool.false_eq_true, if_true, if_false, Bool.not_true, Bool.not_false, ok_mLc, ok_mDc, restS1, restS2, wipeS1, wipeS2, keepS_unb, keepS_shr, keepS_own, itA_l, itA_t, itA_d, sl_l, ok_mSl, ok_asI_i, et]
    exact key
  | false =>
    rw [if_neg Bool.false_ne_true]
    simp only [ok_seq, seqP_nx, seqP_rt, endP_rt, endP_nx, mPopAt, ok_bnd, ok_ret, ok_app2, ok_app1, ok_appN, ok_oVar, ok_vVar, ok_mVar, ok_k1, ok_k2, ok_kN, ok_oCons, ok_mCons, ok_call, okO_some, res_val, res_slot, resAll_nil, resAll_cons, resC_some, slotV_shr, slotV_own, deref_ref, deref_int, deref_list, deref_tup, deref_str, deref_bool, deref_dict, deref_non, deS_lst, fz_lst, fz_dct, List.getElem?_cons_zero, List.getElem?_cons_succ, ix_list_i, ix_tup_i, at0, at1, at2, at3, oS_some, ok_frz_sh, ok_frz_lst, ok_frz_dct, eq_ii, eq_ss, ok_asB_b, ok_asB'_b, ne_ii, ne_ss, ok_chkL, recv, ok_onL, List.map_cons, List.length_cons, List.length_nil, ixN0, List.eraseIdx_cons_zero, ok_mStore, RV.slot, List.set_cons_zero, List.set_cons_succ, ok_mSetIx, put_list, Option.map_some, add_ii, sub_ii, int_i, ok_mIf, ok_mAnd, ok_mOr, ok_mNot, ge_ii, gt_ii, lt_ii, le_ii, len_list, len_tup, list_list, list_tup, Nat.zero_add, Nat.reduceAdd, ok_vAnd, andP_b, ok_vOr, ok_vNot, notP_b, ok_mChain, insAt_slot, insAt_ref, insV_ref, insO_some, PV.ok_mFld, ok_mMeth, noneP_n, PV.ok_unpack2, fok_mk, Bool.false_eq_true, if_true, if_false, Bool.not_true, Bool.not_false, ok_mLc, ok_mDc, restS1, restS2, wipeS1, wipeS2, keepS_unb, keepS_shr, keepS_own, itA_l, itA_t, itA_d, sl_l, ok_mSl, ok_asI_i, et]
    exact key
theorem l7_loop {T : List MO} {k : Nat} {hs : List Str} {ms : List (List (Str × List Str))} {ks : List Str} {g : Str → Val} {is : List Int} {s0 s2 s8 s9 s10 s11 s12 : PV.Slot}
    (hw : T[k]? = some (worldO hs ms)) (nd : hs.Nodup) (h2 : 2 ≤ hs.length) (hl : hs.length ≤ 5) (hx : ∀ x ∈ hs, x ∈ six) (hz : ms.length < 1000) (hp : ks.Perm hs) (hg : ∀ k, ∃ i, g k = .int i) (hi : ∀ i ∈ is, 0 ≤ i ∧ i < ms.length) (hil : is.length ≤ 6) :
    ∀ (xs : List Val) (S : List MO) (n : Nat) (s13 s14 : PV.Slot) (P : Fl → State → Prop), St S T n → n + 100 * xs.length + 100 < 1000000 →
    (∀ S' s13' s14', St S' T (n + 100 * xs.length) → P .nx ⟨[s0, .shr (.ref 1), s2, .shr (.list (hs.map .str)), .shr (.list (ms.map fun m => .dict (dictV m))), .shr (.ref (k + 2)), .shr (.dict (kvV (byK ks g))), .shr (.list (is.map .int)), s8, s9, s10, s11, s12, s13', s14'], S'⟩) →
    Ok (mFor (mStore 13) l7b_law xs ⟨[s0, .shr (.ref 1), s2, .shr (.list (hs.map .str)), .shr (.list (ms.map fun m => .dict (dictV m))), .shr (.ref (k + 2)), .shr (.dict (kvV (byK ks g))), .shr (.list (is.map .int)), s8, s9, s10, s11, s12, s13, s14], S⟩) P
  | [], S, n, s13, s14, P, h, hn, kk => by
    rw [ok_for_nil]
    exact kk S s13 s14 h
  | x :: xs, S, n, s13, s14, P, h, hn, kk => by
    rw [ok_for_cons]
    simp only [List.length_cons] at hn
    unfold l7b_law
    rw [ok_mStore, ok_seq]
    unfold s5_law
    simp only [ok_seq, seqP_nx, seqP_rt, endP_rt, endP_nx, mPopAt, ok_bnd, ok_ret, ok_app2, ok_app1, ok_appN, ok_oVar, ok_vVar, ok_mVar, ok_k1, ok_k2, ok_kN, ok_oCons, ok_mCons, ok_call, okO_some, res_val, res_slot, resAll_nil, resAll_cons, resC_some, slotV_shr, slotV_own, deref_ref, deref_int, deref_list, deref_tup, deref_str, deref_bool, deref_dict, deref_non, deS_lst, fz_lst, fz_dct, List.getElem?_cons_zero, List.getElem?_cons_succ, ix_list_i, ix_tup_i, at0, at1, at2, at3, oS_some, ok_frz_sh, ok_frz_lst, ok_frz_dct, eq_ii, eq_ss, ok_asB_b, ok_asB'_b, ne_ii, ne_ss, ok_chkL, recv, ok_onL, List.map_cons, List.length_cons, List.length_nil, ixN0, List.eraseIdx_cons_zero, ok_mStore, RV.slot, List.set_cons_zero, List.set_cons_succ, ok_mSetIx, put_list, Option.map_some, add_ii, sub_ii, int_i, ok_mIf, ok_mAnd, ok_mOr, ok_mNot, ge_ii, gt_ii, lt_ii, le_ii, len_list, len_tup, list_list, list_tup, Nat.zero_add, Nat.reduceAdd, ok_vAnd, andP_b, ok_vOr, ok_vNot, notP_b, ok_mChain, insAt_slot, insAt_ref, insV_ref, insO_some, PV.ok_mFld, ok_mMeth, noneP_n, PV.ok_unpack2, fok_mk, Bool.false_eq_true, if_true, if_false, Bool.not_true, Bool.not_false, ok_mLc, ok_mDc, restS1, restS2, wipeS1, wipeS2, keepS_unb, keepS_shr, keepS_own, itA_l, itA_t, itA_d, sl_l, ok_mSl, ok_asI_i]
    refine (bent_ok h (by omega) nd h2 hl hx hz hp hg hi hil).mono fun r S1 ⟨d, er, hd, hb, g1⟩ => ?_
    have hw1 : S1[k + 2]? = some (worldO hs ms) := by rw [g1.at_]; exact hw
    have hb1 := hb S1 (k + 2) hw1
    have go : ∀ s14' : PV.Slot, Ok (mFor (mStore 13) l7b_law xs ⟨[s0, .shr (.ref 1), s2, .shr (.list (hs.map .str)), .shr (.list (ms.map fun m => .dict (dictV m))), .shr (.ref (k + 2)), .shr (.dict (kvV (byK ks g))), .shr (.list (is.map .int)), s8, s9, s10, s11, s12, .shr x, s14'], S1⟩) P := fun s14' =>
      l7_loop hw nd h2 hl hx hz hp hg hi hil xs S1 (n + 100) _ s14' P g1 (by omega) fun S2 a b g2 => kk S2 a b (by rw [show n + 100 * (x :: xs).length = n + 100 + 100 * xs.length by simp; omega]; exact g2)
    unfold s6_law
    rcases er with rfl | ⟨ds, rfl, rfl⟩
    · simp only [ok_seq, seqP_nx, seqP_rt, endP_rt, endP_nx, mPopAt, ok_bnd, ok_ret, ok_app2, ok_app1, ok_appN, ok_oVar, ok_vVar, ok_mVar, ok_k1, ok_k2, ok_kN, ok_oCons, ok_mCons, ok_call, okO_some, res_val, res_slot, resAll_nil, resAll_cons, resC_some, slotV_shr, slotV_own, deref_ref, deref_int, deref_list, deref_tup, deref_str, deref_bool, deref_dict, deref_non, deS_lst, fz_lst, fz_dct, List.getElem?_cons_zero, List.getElem?_cons_succ, ix_list_i, ix_tup_i, at0, at1, at2, at3, oS_some, ok_frz_sh, ok_frz_lst, ok_frz_dct, eq_ii, eq_ss, ok_asB_b, ok_asB'_b, ne_ii, ne_ss, ok_chkL, recv, ok_onL, List.map_cons, List.length_cons, List.length_nil, ixN0, List.eraseIdx_cons_zero, ok_mStore, RV.slot, List.set_cons_zero, List.set_cons_succ, ok_mSetIx, put_list, Option.map_some, add_ii, sub_ii, int_i, ok_mIf, ok_mAnd, ok_mOr, ok_mNot, ge_ii, gt_ii, lt_ii, le_ii, len_list, len_tup, list_list, list_tup, Nat.zero_add, Nat.reduceAdd, ok_vAnd, andP_b, ok_vOr, ok_vNot, notP_b, ok_mChain, insAt_slot, insAt_ref, insV_ref, insO_some, PV.ok_mFld, ok_mMeth, noneP_n, PV.ok_unpack2, fok_mk, Bool.false_eq_true, if_true, if_false, Bool.not_true, Bool.not_false, ok_mLc, ok_mDc, restS1, restS2, wipeS1, wipeS2, keepS_unb, keepS_shr, keepS_own, itA_l, itA_t, itA_d, sl_l, ok_mSl, ok_asI_i, hb1, is_ff, decide_true]
      exact go _
    · simp only [ok_seq, seqP_nx, seqP_rt, endP_rt, endP_nx, mPopAt, ok_bnd, ok_ret, ok_app2, ok_app1, ok_appN, ok_oVar, ok_vVar, ok_mVar, ok_k1, ok_k2, ok_kN, ok_oCons, ok_mCons, ok_call, okO_some, res_val, res_slot, resAll_nil, resAll_cons, resC_some, slotV_shr, slotV_own, deref_ref, deref_int, deref_list, deref_tup, deref_str, deref_bool, deref_dict, deref_non, deS_lst, fz_lst, fz_dct, List.getElem?_cons_zero, List.getElem?_cons_succ, ix_list_i, ix_tup_i, at0, at1, at2, at3, oS_some, ok_frz_sh, ok_frz_lst, ok_frz_dct, eq_ii, eq_ss, ok_asB_b, ok_asB'_b, ne_ii, ne_ss, ok_chkL, recv, ok_onL, List.map_cons, List.length_cons, List.length_nil, ixN0, List.eraseIdx_cons_zero, ok_mStore, RV.slot, List.set_cons_zero, List.set_cons_succ, ok_mSetIx, put_list, Option.map_some, add_ii, sub_ii, int_i, ok_mIf, ok_mAnd, ok_mOr, ok_mNot, ge_ii, gt_ii, lt_ii, le_ii, len_list, len_tup, list_list, list_tup, Nat.zero_add, Nat.reduceAdd, ok_vAnd, andP_b, ok_vOr, ok_vNot, notP_b, ok_mChain, insAt_slot, insAt_ref, insV_ref, insO_some, PV.ok_mFld, ok_mMeth, noneP_n, PV.ok_unpack2, fok_mk, Bool.false_eq_true, if_true, if_false, Bool.not_true, Bool.not_false, ok_mLc, ok_mDc, restS1, restS2, wipeS1, wipeS2, keepS_unb, keepS_shr, keepS_own, itA_l, itA_t, itA_d, sl_l, ok_mSl, ok_asI_i, hb1, is_ff, decide_true]
      exact go _
end K02

namespace K02
open PySem hiding ret
open PySem.Spec L2 PV
theorem turn_ok {S T : List MO} {n : Nat} {s0 s2 s3 s4 s5 s6 s7 s8 s9 s10 s11 s12 s13 s14 : PV.Slot} {P : Fl → State → Prop} (h : St S T n) (hn : n + 3000 < 1000000)
    (kk : ∀ S' T' s3' s4' s5' s6' s7' s8' s9' s10' s11' s12' s13' s14', St S' T' (n + 3000) → P .nx ⟨[s0, .shr (.ref 1), s2, s3', s4', s5', s6', s7', s8', s9', s10', s11', s12', s13', s14'], S'⟩) :
    Ok (l15b_law ⟨[s0, .shr (.ref 1), s2, s3, s4, s5, s6, s7, s8, s9, s10, s11, s12, s13, s14], S⟩) P := by
  unfold l15b_law
  rw [ok_seq]
  unfold s8_law
  simp only [ok_seq, seqP_nx, seqP_rt, endP_rt, endP_nx, mPopAt, ok_bnd, ok_ret, ok_app2, ok_app1, ok_appN, ok_oVar, ok_vVar, ok_mVar, ok_k1, ok_k2, ok_kN, ok_oCons, ok_mCons, ok_call, okO_some, res_val, res_slot, resAll_nil, resAll_cons, resC_some, slotV_shr, slotV_own, deref_ref, deref_int, deref_list, deref_tup, deref_str, deref_bool, deref_dict, deref_non, deS_lst, fz_lst, fz_dct, List.getElem?_cons_zero, List.getElem?_cons_succ, ix_list_i, ix_tup_i, at0, at1, at2, at3, oS_some, ok_frz_sh, ok_frz_lst, ok_frz_dct, eq_ii, eq_ss, ok_asB_b, ok_asB'_b, ne_ii, ne_ss, ok_chkL, recv, ok_onL, List.map_cons, List.length_cons, List.length_nil, ixN0, List.eraseIdx_cons_zero, ok_mStore, RV.slot, List.set_cons_zero, List.set_cons_succ, ok_mSetIx, put_list, Option.map_some, add_ii, sub_ii, int_i, ok_mIf, ok_mAnd, ok_mOr, ok_mNot, ge_ii, gt_ii, lt_ii, le_ii, len_list, len_tup, list_list, list_tup, Nat.zero_add, Nat.reduceAdd, ok_vAnd, andP_b, ok_vOr, ok_vNot, notP_b, ok_mChain, insAt_slot, insAt_ref, insV_ref, insO_some, PV.ok_mFld, ok_mMeth, noneP_n, PV.ok_unpack2, fok_mk, Bool.false_eq_true, if_true, if_false, Bool.not_true, Bool.not_false, ok_mLc, ok_mDc, restS1, restS2, wipeS1, wipeS2, keepS_unb, keepS_shr, keepS_own, itA_l, itA_t, itA_d, sl_l, ok_mSl, ok_asI_i]
  refine (draw_ok h (by omega) (by omega) (by omega)).mono fun r S1 ⟨d, er, d0, d1, g1⟩ => ?_
  subst er
  obtain ⟨j, rfl⟩ : ∃ j : Nat, d = j := ⟨d.toNat, by omega⟩
  have ej : (2 : Int) + (j : Int) = ((2 + j : Nat) : Int) := by simp
  simp only [ok_seq, seqP_nx, seqP_rt, endP_rt, endP_nx, mPopAt, ok_bnd, ok_ret, ok_app2, ok_app1, ok_appN, ok_oVar, ok_vVar, ok_mVar, ok_k1, ok_k2, ok_kN, ok_oCons, ok_mCons, ok_call, okO_some, res_val, res_slot, resAll_nil, resAll_cons, resC_some, slotV_shr, slotV_own, deref_ref, deref_int, deref_list, deref_tup, deref_str, deref_bool, deref_dict, deref_non, deS_lst, fz_lst, fz_dct, List.getElem?_cons_zero, List.getElem?_cons_succ, ix_list_i, ix_tup_i, at0, at1, at2, at3, oS_some, ok_frz_sh, ok_frz_lst, ok_frz_dct, eq_ii, eq_ss, ok_asB_b, ok_asB'_b, ne_ii, ne_ss, ok_chkL, recv, ok_onL, List.map_cons, List.length_cons, List.length_nil, ixN0, List.eraseIdx_cons_zero, ok_mStore, RV.slot, List.set_cons_zero, List.set_cons_succ, ok_mSetIx, put_list, Option.map_some, add_ii, sub_ii, int_i, ok_mIf, ok_mAnd, ok_mOr, ok_mNot, ge_ii, gt_ii, lt_ii, le_ii, len_list, len_tup, list_list, list_tup, Nat.zero_add, Nat.reduceAdd, ok_vAnd, andP_b, ok_vOr, ok_vNot, notP_b, ok_mChain, insAt_slot, insAt_ref, insV_ref, insO_some, PV.ok_mFld, ok_mMeth, noneP_n, PV.ok_unpack2, fok_mk, Bool.false_eq_true, if_true, if_false, Bool.not_true, Bool.not_false, ok_mLc, ok_mDc, restS1, restS2, wipeS1, wipeS2, keepS_unb, keepS_shr, keepS_own, itA_l, itA_t, itA_d, sl_l, ok_mSl, ok_asI_i, ej]
  refine (hands_ok g1 (by omega) (by omega)).mono fun r S2 ⟨hs, er, hl, nd, hx, g2⟩ => ?_
  subst er
  have h2 : 2 ≤ hs.length := by omega
  have h5 : hs.length ≤ 5 := by omega
  have hne : hs ≠ [] := fun z => by rw [z] at h2; simp at h2
  unfold s9_law
  simp only [ok_seq, seqP_nx, seqP_rt, endP_rt, endP_nx, mPopAt, ok_bnd, ok_ret, ok_app2, ok_app1, ok_appN, ok_oVar, ok_vVar, ok_mVar, ok_k1, ok_k2, ok_kN, ok_oCons, ok_mCons, ok_call, okO_some, res_val, res_slot, resAll_nil, resAll_cons, resC_some, slotV_shr, slotV_own, deref_ref, deref_int, deref_list, deref_tup, deref_str, deref_bool, deref_dict, deref_non, deS_lst, fz_lst, fz_dct, List.getElem?_cons_zero, List.getElem?_cons_succ, ix_list_i, ix_tup_i, at0, at1, at2, at3, oS_some, ok_frz_sh, ok_frz_lst, ok_frz_dct, eq_ii, eq_ss, ok_asB_b, ok_asB'_b, ne_ii, ne_ss, ok_chkL, recv, ok_onL, List.map_cons, List.length_cons, List.length_nil, ixN0, List.eraseIdx_cons_zero, ok_mStore, RV.slot, List.set_cons_zero, List.set_cons_succ, ok_mSetIx, put_list, Option.map_some, add_ii, sub_ii, int_i, ok_mIf, ok_mAnd, ok_mOr, ok_mNot, ge_ii, gt_ii, lt_ii, le_ii, len_list, len_tup, list_list, list_tup, Nat.zero_add, Nat.reduceAdd, ok_vAnd, andP_b, ok_vOr, ok_vNot, notP_b, ok_mChain, insAt_slot, insAt_ref, insV_ref, insO_some, PV.ok_mFld, ok_mMeth, noneP_n, PV.ok_unpack2, fok_mk, Bool.false_eq_true, if_true, if_false, Bool.not_true, Bool.not_false, ok_mLc, ok_mDc, restS1, restS2, wipeS1, wipeS2, keepS_unb, keepS_shr, keepS_own, itA_l, itA_t, itA_d, sl_l, ok_mSl, ok_asI_i]
  refine (draw_ok g2 (by omega) (by omega) (by omega)).mono fun r S3 ⟨d, er, d0', d1', g3⟩ => ?_
  subst er
  obtain ⟨i, rfl⟩ : ∃ i : Nat, d = i := ⟨d.toNat, by omega⟩
  have ei : (1 : Int) + (i : Int) = ((1 + i : Nat) : Int) := by simp
  simp only [ok_seq, seqP_nx, seqP_rt, endP_rt, endP_nx, mPopAt, ok_bnd, ok_ret, ok_app2, ok_app1, ok_appN, ok_oVar, ok_vVar, ok_mVar, ok_k1, ok_k2, ok_kN, ok_oCons, ok_mCons, ok_call, okO_some, res_val, res_slot, resAll_nil, resAll_cons, resC_some, slotV_shr, slotV_own, deref_ref, deref_int, deref_list, deref_tup, deref_str, deref_bool, deref_dict, deref_non, deS_lst, fz_lst, fz_dct, List.getElem?_cons_zero, List.getElem?_cons_succ, ix_list_i, ix_tup_i, at0, at1, at2, at3, oS_some, ok_frz_sh, ok_frz_lst, ok_frz_dct, eq_ii, eq_ss, ok_asB_b, ok_asB'_b, ne_ii, ne_ss, ok_chkL, recv, ok_onL, List.map_cons, List.length_cons, List.length_nil, ixN0, List.eraseIdx_cons_zero, ok_mStore, RV.slot, List.set_cons_zero, List.set_cons_succ, ok_mSetIx, put_list, Option.map_some, add_ii, sub_ii, int_i, ok_mIf, ok_mAnd, ok_mOr, ok_mNot, ge_ii, gt_ii, lt_ii, le_ii, len_list, len_tup, list_list, list_tup, Nat.zero_add, Nat.reduceAdd, ok_vAnd, andP_b, ok_vOr, ok_vNot, notP_b, ok_mChain, insAt_slot, insAt_ref, insV_ref, insO_some, PV.ok_mFld, ok_mMeth, noneP_n, PV.ok_unpack2, fok_mk, Bool.false_eq_true, if_true, if_false, Bool.not_true, Bool.not_false, ok_mLc, ok_mDc, restS1, restS2, wipeS1, wipeS2, keepS_unb, keepS_shr, keepS_own, itA_l, itA_t, itA_d, sl_l, ok_mSl, ok_asI_i, ei]
  refine (maps_ok g3 (by omega) (by omega) h5 hne nd).mono fun r S4 ⟨ms, er, hg, hp, hml, hmn, g4⟩ => ?_
  subst er
  have hz : ms.length < 1000 := by omega
  unfold s10_law
  simp only [ok_seq, seqP_nx, seqP_rt, endP_rt, endP_nx, mPopAt, ok_bnd, ok_ret, ok_app2, ok_app1, ok_appN, ok_oVar, ok_vVar, ok_mVar, ok_k1, ok_k2, ok_kN, ok_oCons, ok_mCons, ok_call, okO_some, res_val, res_slot, resAll_nil, resAll_cons, resC_some, slotV_shr, slotV_own, deref_ref, deref_int, deref_list, deref_tup, deref_str, deref_bool, deref_dict, deref_non, deS_lst, fz_lst, fz_dct, List.getElem?_cons_zero, List.getElem?_cons_succ, ix_list_i, ix_tup_i, at0, at1, at2, at3, oS_some, ok_frz_sh, ok_frz_lst, ok_frz_dct, eq_ii, eq_ss, ok_asB_b, ok_asB'_b, ne_ii, ne_ss, ok_chkL, recv, ok_onL, List.map_cons, List.length_cons, List.length_nil, ixN0, List.eraseIdx_cons_zero, ok_mStore, RV.slot, List.set_cons_zero, List.set_cons_succ, ok_mSetIx, put_list, Option.map_some, add_ii, sub_ii, int_i, ok_mIf, ok_mAnd, ok_mOr, ok_mNot, ge_ii, gt_ii, lt_ii, le_ii, len_list, len_tup, list_list, list_tup, Nat.zero_add, Nat.reduceAdd, ok_vAnd, andP_b, ok_vOr, ok_vNot, notP_b, ok_mChain, insAt_slot, insAt_ref, insV_ref, insO_some, PV.ok_mFld, ok_mMeth, noneP_n, PV.ok_unpack2, fok_mk, Bool.false_eq_true, if_true, if_false, Bool.not_true, Bool.not_false, ok_mLc, ok_mDc, restS1, restS2, wipeS1, wipeS2, keepS_unb, keepS_shr, keepS_own, itA_l, itA_t, itA_d, sl_l, ok_mSl, ok_asI_i, ok_mMake]
  have hw0 : (S4 ++ [MO.ins 5 []])[S4.length]? = some (.ins 5 []) := by simp
  refine (init_ok hw0 (fun x hx' => .inl (hx x hx')) nd h2 h5 hg hp hz hmn).mono fun r S5 ⟨er, es⟩ => ?_
  subst er es
  have es : (S4 ++ [MO.ins 5 []]).set S4.length (worldO hs ms) = S4 ++ [worldO hs ms] := by simp
  rw [es]
  have g5 : St (S4 ++ [worldO hs ms]) (T ++ [worldO hs ms]) (n + 1 + 6 + 1 + 200 * (1 + i)) := g4.more
  simp only [ok_seq, seqP_nx, seqP_rt, endP_rt, endP_nx, mPopAt, ok_bnd, ok_ret, ok_app2, ok_app1, ok_appN, ok_oVar, ok_vVar, ok_mVar, ok_k1, ok_k2, ok_kN, ok_oCons, ok_mCons, ok_call, okO_some, res_val, res_slot, resAll_nil, resAll_cons, resC_some, slotV_shr, slotV_own, deref_ref, deref_int, deref_list, deref_tup, deref_str, deref_bool, deref_dict, deref_non, deS_lst, fz_lst, fz_dct, List.getElem?_cons_zero, List.getElem?_cons_succ, ix_list_i, ix_tup_i, at0, at1, at2, at3, oS_some, ok_frz_sh, ok_frz_lst, ok_frz_dct, eq_ii, eq_ss, ok_asB_b, ok_asB'_b, ne_ii, ne_ss, ok_chkL, recv, ok_onL, List.map_cons, List.length_cons, List.length_nil, ixN0, List.eraseIdx_cons_zero, ok_mStore, RV.slot, List.set_cons_zero, List.set_cons_succ, ok_mSetIx, put_list, Option.map_some, add_ii, sub_ii, int_i, ok_mIf, ok_mAnd, ok_mOr, ok_mNot, ge_ii, gt_ii, lt_ii, le_ii, len_list, len_tup, list_list, list_tup, Nat.zero_add, Nat.reduceAdd, ok_vAnd, andP_b, ok_vOr, ok_vNot, notP_b, ok_mChain, insAt_slot, insAt_ref, insV_ref, insO_some, PV.ok_mFld, ok_mMeth, noneP_n, PV.ok_unpack2, fok_mk, Bool.false_eq_true, if_true, if_false, Bool.not_true, Bool.not_false, ok_mLc, ok_mDc, restS1, restS2, wipeS1, wipeS2, keepS_unb, keepS_shr, keepS_own, itA_l, itA_t, itA_d, sl_l, ok_mSl, ok_asI_i]
  refine (worths_ok g5 (by omega) h5 nd).mono fun r S6 ⟨ws, er, pk, g6⟩ => ?_
  subst er
  have ndk : (ws.map (·.1)).Nodup := pk.nodup_iff.mpr nd
  obtain ⟨g, hgi, ew⟩ := ints_g ndk
  rw [ew]
  generalize ws.map (·.1) = ks at pk ndk
  rw [g4.len]
  simp only [ok_seq, seqP_nx, seqP_rt, endP_rt, endP_nx, mPopAt, ok_bnd, ok_ret, ok_app2, ok_app1, ok_appN, ok_oVar, ok_vVar, ok_mVar, ok_k1, ok_k2, ok_kN, ok_oCons, ok_mCons, ok_call, okO_some, res_val, res_slot, resAll_nil, resAll_cons, resC_some, slotV_shr, slotV_own, deref_ref, deref_int, deref_list, deref_tup, deref_str, deref_bool, deref_dict, deref_non, deS_lst, fz_lst, fz_dct, List.getElem?_cons_zero, List.getElem?_cons_succ, ix_list_i, ix_tup_i, at0, at1, at2, at3, oS_some, ok_frz_sh, ok_frz_lst, ok_frz_dct, eq_ii, eq_ss, ok_asB_b, ok_asB'_b, ne_ii, ne_ss, ok_chkL, recv, ok_onL, List.map_cons, List.length_cons, List.length_nil, ixN0, List.eraseIdx_cons_zero, ok_mStore, RV.slot, List.set_cons_zero, List.set_cons_succ, ok_mSetIx, put_list, Option.map_some, add_ii, sub_ii, int_i, ok_mIf, ok_mAnd, ok_mOr, ok_mNot, ge_ii, gt_ii, lt_ii, le_ii, len_list, len_tup, list_list, list_tup, Nat.zero_add, Nat.reduceAdd, ok_vAnd, andP_b, ok_vOr, ok_vNot, notP_b, ok_mChain, insAt_slot, insAt_ref, insV_ref, insO_some, PV.ok_mFld, ok_mMeth, noneP_n, PV.ok_unpack2, fok_mk, Bool.false_eq_true, if_true, if_false, Bool.not_true, Bool.not_false, ok_mLc, ok_mDc, restS1, restS2, wipeS1, wipeS2, keepS_unb, keepS_shr, keepS_own, itA_l, itA_t, itA_d, sl_l, ok_mSl, ok_asI_i]
  unfold s11_law
  simp only [ok_seq, seqP_nx, seqP_rt, endP_rt, endP_nx, mPopAt, ok_bnd, ok_ret, ok_app2, ok_app1, ok_appN, ok_oVar, ok_vVar, ok_mVar, ok_k1, ok_k2, ok_kN, ok_oCons, ok_mCons, ok_call, okO_some, res_val, res_slot, resAll_nil, resAll_cons, resC_some, slotV_shr, slotV_own, deref_ref, deref_int, deref_list, deref_tup, deref_str, deref_bool, deref_dict, deref_non, deS_lst, fz_lst, fz_dct, List.getElem?_cons_zero, List.getElem?_cons_succ, ix_list_i, ix_tup_i, at0, at1, at2, at3, oS_some, ok_frz_sh, ok_frz_lst, ok_frz_dct, eq_ii, eq_ss, ok_asB_b, ok_asB'_b, ne_ii, ne_ss, ok_chkL, recv, ok_onL, List.map_cons, List.length_cons, List.length_nil, ixN0, List.eraseIdx_cons_zero, ok_mStore, RV.slot, List.set_cons_zero, List.set_cons_succ, ok_mSetIx, put_list, Option.map_some, add_ii, sub_ii, int_i, ok_mIf, ok_mAnd, ok_mOr, ok_mNot, ge_ii, gt_ii, lt_ii, le_ii, len_list, len_tup, list_list, list_tup, Nat.zero_add, Nat.reduceAdd, ok_vAnd, andP_b, ok_vOr, ok_vNot, notP_b, ok_mChain, insAt_slot, insAt_ref, insV_ref, insO_some, PV.ok_mFld, ok_mMeth, noneP_n, PV.ok_unpack2, fok_mk, Bool.false_eq_true, if_true, if_false, Bool.not_true, Bool.not_false, ok_mLc, ok_mDc, restS1, restS2, wipeS1, wipeS2, keepS_unb, keepS_shr, keepS_own, itA_l, itA_t, itA_d, sl_l, ok_mSl, ok_asI_i]
  refine (row_ok g6 (by omega) (by simpa using hmn) (by rw [List.length_map]; omega)).mono fun r S7 ⟨is, er, hil, hi, g7⟩ => ?_
  subst er
  rw [List.length_map] at hi
  have esrt : fSorted [.dict (kvV (byK ks g))] = some (.fr (.lst ((srtB leS hs).map .str))) := by
    rw [sorted_kv (by rw [byK_len]; have := pk.length_eq; omega), byK_keys, srt_perm pk]
  unfold s12_law
  simp only [ok_seq, seqP_nx, seqP_rt, endP_rt, endP_nx, mPopAt, ok_bnd, ok_ret, ok_app2, ok_app1, ok_appN, ok_oVar, ok_vVar, ok_mVar, ok_k1, ok_k2, ok_kN, ok_oCons, ok_mCons, ok_call, okO_some, res_val, res_slot, resAll_nil, resAll_cons, resC_some, slotV_shr, slotV_own, deref_ref, deref_int, deref_list, deref_tup, deref_str, deref_bool, deref_dict, deref_non, deS_lst, fz_lst, fz_dct, List.getElem?_cons_zero, List.getElem?_cons_succ, ix_list_i, ix_tup_i, at0, at1, at2, at3, oS_some, ok_frz_sh, ok_frz_lst, ok_frz_dct, eq_ii, eq_ss, ok_asB_b, ok_asB'_b, ne_ii, ne_ss, ok_chkL, recv, ok_onL, List.map_cons, List.length_cons, List.length_nil, ixN0, List.eraseIdx_cons_zero, ok_mStore, RV.slot, List.set_cons_zero, List.set_cons_succ, ok_mSetIx, put_list, Option.map_some, add_ii, sub_ii, int_i, ok_mIf, ok_mAnd, ok_mOr, ok_mNot, ge_ii, gt_ii, lt_ii, le_ii, len_list, len_tup, list_list, list_tup, Nat.zero_add, Nat.reduceAdd, ok_vAnd, andP_b, ok_vOr, ok_vNot, notP_b, ok_mChain, insAt_slot, insAt_ref, insV_ref, insO_some, PV.ok_mFld, ok_mMeth, noneP_n, PV.ok_unpack2, fok_mk, Bool.false_eq_true, if_true, if_false, Bool.not_true, Bool.not_false, ok_mLc, ok_mDc, restS1, restS2, wipeS1, wipeS2, keepS_unb, keepS_shr, keepS_own, itA_l, itA_t, itA_d, sl_l, ok_mSl, ok_asI_i, esrt]
  have poh : (srtB leS hs).Perm hs := srtB_perm hs
  refine ok_lc1 (f := fun d => match d with | .str k => .tup [.str k, g k] | _ => .none) (fun d hd => ?_) ?_
  · obtain ⟨k, hk, rfl⟩ := List.mem_map.mp hd
    unfold k1e_law
    have hk' : k ∈ ks := pk.mem_iff.mpr (poh.mem_iff.mp hk)
    simp only [ok_seq, seqP_nx, seqP_rt, endP_rt, endP_nx, mPopAt, ok_bnd, ok_ret, ok_app2, ok_app1, ok_appN, ok_oVar, ok_vVar, ok_mVar, ok_k1, ok_k2, ok_kN, ok_oCons, ok_mCons, ok_call, okO_some, res_val, res_slot, resAll_nil, resAll_cons, resC_some, slotV_shr, slotV_own, deref_ref, deref_int, deref_list, deref_tup, deref_str, deref_bool, deref_dict, deref_non, deS_lst, fz_lst, fz_dct, List.getElem?_cons_zero, List.getElem?_cons_succ, ix_list_i, ix_tup_i, at0, at1, at2, at3, oS_some, ok_frz_sh, ok_frz_lst, ok_frz_dct, eq_ii, eq_ss, ok_asB_b, ok_asB'_b, ne_ii, ne_ss, ok_chkL, recv, ok_onL, List.map_cons, List.length_cons, List.length_nil, ixN0, List.eraseIdx_cons_zero, ok_mStore, RV.slot, List.set_cons_zero, List.set_cons_succ, ok_mSetIx, put_list, Option.map_some, add_ii, sub_ii, int_i, ok_mIf, ok_mAnd, ok_mOr, ok_mNot, ge_ii, gt_ii, lt_ii, le_ii, len_list, len_tup, list_list, list_tup, Nat.zero_add, Nat.reduceAdd, ok_vAnd, andP_b, ok_vOr, ok_vNot, notP_b, ok_mChain, insAt_slot, insAt_ref, insV_ref, insO_some, PV.ok_mFld, ok_mMeth, noneP_n, PV.ok_unpack2, fok_mk, Bool.false_eq_true, if_true, if_false, Bool.not_true, Bool.not_false, ok_mLc, ok_mDc, restS1, restS2, wipeS1, wipeS2, keepS_unb, keepS_shr, keepS_own, itA_l, itA_t, itA_d, sl_l, ok_mSl, ok_asI_i, ix_kv, getS_byK, hk']
    exact ⟨trivial, trivial⟩
  have epairs : ((srtB leS hs).map Val.str).map (fun d => (match d with | .str k => Val.tup [.str k, g k] | _ => .none : Val)) = (byK (srtB leS hs) g).map (pairV false) := by
    unfold byK
    rw [List.map_map, List.map_map]
    rfl
  rw [epairs]
  have hbl : (byK (srtB leS hs) g).length = hs.length := by rw [byK_len, poh.length_eq]
  unfold s13_law
  simp only [ok_seq, seqP_nx, seqP_rt, endP_rt, endP_nx, mPopAt, ok_bnd, ok_ret, ok_app2, ok_app1, ok_appN, ok_oVar, ok_vVar, ok_mVar, ok_k1, ok_k2, ok_kN, ok_oCons, ok_mCons, ok_call, okO_some, res_val, res_slot, resAll_nil, resAll_cons, resC_some, slotV_shr, slotV_own, deref_ref, deref_int, deref_list, deref_tup, deref_str, deref_bool, deref_dict, deref_non, deS_lst, fz_lst, fz_dct, List.getElem?_cons_zero, List.getElem?_cons_succ, ix_list_i, ix_tup_i, at0, at1, at2, at3, oS_some, ok_frz_sh, ok_frz_lst, ok_frz_dct, eq_ii, eq_ss, ok_asB_b, ok_asB'_b, ne_ii, ne_ss, ok_chkL, recv, ok_onL, List.map_cons, List.length_cons, List.length_nil, ixN0, List.eraseIdx_cons_zero, ok_mStore, RV.slot, List.set_cons_zero, List.set_cons_succ, ok_mSetIx, put_list, Option.map_some, add_ii, sub_ii, int_i, ok_mIf, ok_mAnd, ok_mOr, ok_mNot, ge_ii, gt_ii, lt_ii, le_ii, len_list, len_tup, list_list, list_tup, Nat.zero_add, Nat.reduceAdd, ok_vAnd, andP_b, ok_vOr, ok_vNot, notP_b, ok_mChain, insAt_slot, insAt_ref, insV_ref, insO_some, PV.ok_mFld, ok_mMeth, noneP_n, PV.ok_unpack2, fok_mk, Bool.false_eq_true, if_true, if_false, Bool.not_true, Bool.not_false, ok_mLc, ok_mDc, restS1, restS2, wipeS1, wipeS2, keepS_unb, keepS_shr, keepS_own, itA_l, itA_t, itA_d, sl_l, ok_mSl, ok_asI_i]
  refine (mixed_ok g7 (by rw [List.length_map]; omega) (by rw [List.length_map]; omega)).mono fun r S8 ⟨ys, er, py, g8⟩ => ?_
  subst er
  obtain ⟨zs, rfl, pz⟩ := perm_pair py
  have et : ∀ ds : List Val, fTuple [.list ds] = some (.sh (.tup ds)) := fun _ => rfl
  have erv : ∀ ds : List Val, fRev (.list ds) = some (.fr (.lst ds.reverse)) := fun _ => rfl
  simp only [ok_seq, seqP_nx, seqP_rt, endP_rt, endP_nx, mPopAt, ok_bnd, ok_ret, ok_app2, ok_app1, ok_appN, ok_oVar, ok_vVar, ok_mVar, ok_k1, ok_k2, ok_kN, ok_oCons, ok_mCons, ok_call, okO_some, res_val, res_slot, resAll_nil, resAll_cons, resC_some, slotV_shr, slotV_own, deref_ref, deref_int, deref_list, deref_tup, deref_str, deref_bool, deref_dict, deref_non, deS_lst, fz_lst, fz_dct, List.getElem?_cons_zero, List.getElem?_cons_succ, ix_list_i, ix_tup_i, at0, at1, at2, at3, oS_some, ok_frz_sh, ok_frz_lst, ok_frz_dct, eq_ii, eq_ss, ok_asB_b, ok_asB'_b, ne_ii, ne_ss, ok_chkL, recv, ok_onL, List.map_cons, List.length_cons, List.length_nil, ixN0, List.eraseIdx_cons_zero, ok_mStore, RV.slot, List.set_cons_zero, List.set_cons_succ, ok_mSetIx, put_list, Option.map_some, add_ii, sub_ii, int_i, ok_mIf, ok_mAnd, ok_mOr, ok_mNot, ge_ii, gt_ii, lt_ii, le_ii, len_list, len_tup, list_list, list_tup, Nat.zero_add, Nat.reduceAdd, ok_vAnd, andP_b, ok_vOr, ok_vNot, notP_b, ok_mChain, insAt_slot, insAt_ref, insV_ref, insO_some, PV.ok_mFld, ok_mMeth, noneP_n, PV.ok_unpack2, fok_mk, Bool.false_eq_true, if_true, if_false, Bool.not_true, Bool.not_false, ok_mLc, ok_mDc, restS1, restS2, wipeS1, wipeS2, keepS_unb, keepS_shr, keepS_own, itA_l, itA_t, itA_d, sl_l, ok_mSl, ok_asI_i, et, erv]
  refine ok_lc1 (f := fun d => match d with | .tup xs => .list xs | _ => .none) (fun d hd => ?_) ?_
  · obtain ⟨q, hq, rfl⟩ := List.mem_map.mp (List.mem_reverse.mp hd)
    unfold k2e_law
    have el : fList [pairV false q] = some (.fr (.lst [.str q.1, q.2])) := rfl
    simp only [ok_seq, seqP_nx, seqP_rt, endP_rt, endP_nx, mPopAt, ok_bnd, ok_ret, ok_app2, ok_app1, ok_appN, ok_oVar, ok_vVar, ok_mVar, ok_k1, ok_k2, ok_kN, ok_oCons, ok_mCons, ok_call, okO_some, res_val, res_slot, resAll_nil, resAll_cons, resC_some, slotV_shr, slotV_own, deref_ref, deref_int, deref_list, deref_tup, deref_str, deref_bool, deref_dict, deref_non, deS_lst, fz_lst, fz_dct, List.getElem?_cons_zero, List.getElem?_cons_succ, ix_list_i, ix_tup_i, at0, at1, at2, at3, oS_some, ok_frz_sh, ok_frz_lst, ok_frz_dct, eq_ii, eq_ss, ok_asB_b, ok_asB'_b, ne_ii, ne_ss, ok_chkL, recv, ok_onL, List.map_cons, List.length_cons, List.length_nil, ixN0, List.eraseIdx_cons_zero, ok_mStore, RV.slot, List.set_cons_zero, List.set_cons_succ, ok_mSetIx, put_list, Option.map_some, add_ii, sub_ii, int_i, ok_mIf, ok_mAnd, ok_mOr, ok_mNot, ge_ii, gt_ii, lt_ii, le_ii, len_list, len_tup, list_list, list_tup, Nat.zero_add, Nat.reduceAdd, ok_vAnd, andP_b, ok_vOr, ok_vNot, notP_b, ok_mChain, insAt_slot, insAt_ref, insV_ref, insO_some, PV.ok_mFld, ok_mMeth, noneP_n, PV.ok_unpack2, fok_mk, Bool.false_eq_true, if_true, if_false, Bool.not_true, Bool.not_false, ok_mLc, ok_mDc, restS1, restS2, wipeS1, wipeS2, keepS_unb, keepS_shr, keepS_own, itA_l, itA_t, itA_d, sl_l, ok_mSl, ok_asI_i, deref_pair, el]
    exact ⟨rfl, trivial⟩
  have erev : (((byK (srtB leS hs) g).map (pairV false)).reverse).map (fun d => (match d with | .tup xs => Val.list xs | _ => .none : Val)) = ((byK (srtB leS hs) g).reverse).map (pairV true) := by
    rw [← List.map_reverse, List.map_map]
    rfl
  rw [erev]
  simp only [ok_seq, seqP_nx, seqP_rt, endP_rt, endP_nx, mPopAt, ok_bnd, ok_ret, ok_app2, ok_app1, ok_appN, ok_oVar, ok_vVar, ok_mVar, ok_k1, ok_k2, ok_kN, ok_oCons, ok_mCons, ok_call, okO_some, res_val, res_slot, resAll_nil, resAll_cons, resC_some, slotV_shr, slotV_own, deref_ref, deref_int, deref_list, deref_tup, deref_str, deref_bool, deref_dict, deref_non, deS_lst, fz_lst, fz_dct, List.getElem?_cons_zero, List.getElem?_cons_succ, ix_list_i, ix_tup_i, at0, at1, at2, at3, oS_some, ok_frz_sh, ok_frz_lst, ok_frz_dct, eq_ii, eq_ss, ok_asB_b, ok_asB'_b, ne_ii, ne_ss, ok_chkL, recv, ok_onL, List.map_cons, List.length_cons, List.length_nil, ixN0, List.eraseIdx_cons_zero, ok_mStore, RV.slot, List.set_cons_zero, List.set_cons_succ, ok_mSetIx, put_list, Option.map_some, add_ii, sub_ii, int_i, ok_mIf, ok_mAnd, ok_mOr, ok_mNot, ge_ii, gt_ii, lt_ii, le_ii, len_list, len_tup, list_list, list_tup, Nat.zero_add, Nat.reduceAdd, ok_vAnd, andP_b, ok_vOr, ok_vNot, notP_b, ok_mChain, insAt_slot, insAt_ref, insV_ref, insO_some, PV.ok_mFld, ok_mMeth, noneP_n, PV.ok_unpack2, fok_mk, Bool.false_eq_true, if_true, if_false, Bool.not_true, Bool.not_false, ok_mLc, ok_mDc, restS1, restS2, wipeS1, wipeS2, keepS_unb, keepS_shr, keepS_own, itA_l, itA_t, itA_d, sl_l, ok_mSl, ok_asI_i]
  have hw : (T ++ [worldO hs ms])[T.length]? = some (worldO hs ms) := by simp
  have hw8 : S8[T.length + 2]? = some (worldO hs ms) := by rw [g8.at_]; exact hw
  have nrg : ∀ k, noRef (g k) = true := fun k => by obtain ⟨i, e⟩ := hgi k; rw [e]; rfl
  have isg : ∀ k, isIO (some (g k)) = true := fun k => by obtain ⟨i, e⟩ := hgi k; rw [e]; rfl
  have hks : keptD (srtB leS hs) (byK ks g) = true := by
    rw [keptD_byK (pk.trans poh.symm)]
    exact List.all_eq_true.mpr fun h _ => isg h
  have hko : keptD (srtB leS hs) (byK (srtB leS hs) g) = true := by
    rw [keptD_byK (.refl _)]
    exact List.all_eq_true.mpr fun h _ => isg h
  have hrow : ∀ l2, rowB ms.length (seqV l2 (is.map Val.int)) = true ∧ noRefs (seqV l2 (is.map Val.int)) = true := fun l2 => by
    have a : ∀ x ∈ is.map Val.int, isIx ms.length x = true := fun x hx' => by
      obtain ⟨y, hy, rfl⟩ := List.mem_map.mp hx'
      obtain ⟨q1, q2⟩ := hi y hy
      show (decide (0 ≤ y) && decide (y < (ms.length : Int))) = true
      rw [decide_eq_true q1, decide_eq_true q2]; rfl
    cases l2
    · exact ⟨List.all_eq_true.mpr a, List.all_eq_true.mpr noRef_ints⟩
    · exact ⟨List.all_eq_true.mpr a, List.all_eq_true.mpr noRef_ints⟩
  have ndo := nd_oh nd
  have hpairs : ∀ (xs : List (Str × Val)), xs.Perm (byK (srtB leS hs) g) → keptP (srtB leS hs) xs = true ∧ noRefW xs ∧ ∀ p ∈ xs, okName p.1 := fun xs px => by
    have pm : (xs.map (·.1)).Perm (srtB leS hs) := by have := px.map (·.1); rwa [byK_keys] at this
    refine ⟨?_, fun p hp' => noRefW_byK (fun k _ => nrg k) p (px.mem_iff.mp hp'), fun p hp' => ?_⟩
    · rw [keptP_nodup (pm.nodup_iff.mpr ndo) pm]
      unfold keptD
      have hl' : xs.length = (srtB leS hs).length := by rw [px.length_eq, byK_len]
      rw [decide_eq_true hl', Bool.true_and]
      refine List.all_eq_true.mpr fun h hh => ?_
      have hin : h ∈ xs.map (·.1) := pm.mem_iff.mpr hh
      cases e : getS xs h with
      | none => exact absurd hin (getS_none.mp e)
      | some d =>
        have hd := px.mem_iff.mp (getS_mem e)
        obtain ⟨k, hk, ek⟩ := List.mem_map.mp hd
        cases ek
        exact isg _
    · obtain ⟨k, hk, rfl⟩ := List.mem_map.mp (px.mem_iff.mp hp')
      exact .inl (hx k (poh.mem_iff.mp hk))
  have G1 : ∀ l l2, GoodC hs ms (seqV l [.dict (kvV (byK ks g)), seqV l2 (is.map Val.int)]) := fun l l2 => good_first nd hz (noRefW_byK fun k _ => nrg k) (hrow l2).2 hks (hrow l2).1
  have G2 : ∀ (a b : Bool) (xs : List (Str × Val)), xs.Perm (byK (srtB leS hs) g) → ∀ l l2, GoodC hs ms (seqV l [seqV a (xs.map (pairV b)), seqV l2 (is.map Val.int)]) := fun a b xs px l l2 => by
    obtain ⟨q1, q2, q3⟩ := hpairs xs px
    exact good_pairs nd hz q2 q3 (hrow l2).2 q1 (hrow l2).1
  rw [ok_for_cons]
  simp only [ok_mStore, RV.slot, List.set_cons_zero, List.set_cons_succ]
  refine l4_ok (own := true) hw8 G1 fun a1 => ?_
  show Ok (mFor (mStore 10) l4b_law _ _) _
  rw [ok_for_cons]
  simp only [ok_mStore, RV.slot, List.set_cons_zero, List.set_cons_succ]
  refine l4_ok (own := false) hw8 (G2 true false _ (.refl _)) fun a2 => ?_
  show Ok (mFor (mStore 10) l4b_law _ _) _
  rw [ok_for_cons]
  simp only [ok_mStore, RV.slot, List.set_cons_zero, List.set_cons_succ]
  refine l4_ok (own := false) hw8 (G2 false false zs pz) fun a3 => ?_
  show Ok (mFor (mStore 10) l4b_law _ _) _
  rw [ok_for_cons]
  simp only [ok_mStore, RV.slot, List.set_cons_zero, List.set_cons_succ]
  refine l4_ok (own := false) hw8 (G2 true true _ (List.reverse_perm _)) fun a4 => ?_
  show SeqP s14_law P Fl.nx _
  simp only [ok_seq, seqP_nx, seqP_rt, endP_rt, endP_nx, mPopAt, ok_bnd, ok_ret, ok_app2, ok_app1, ok_appN, ok_oVar, ok_vVar, ok_mVar, ok_k1, ok_k2, ok_kN, ok_oCons, ok_mCons, ok_call, okO_some, res_val, res_slot, resAll_nil, resAll_cons, resC_some, slotV_shr, slotV_own, deref_ref, deref_int, deref_list, deref_tup, deref_str, deref_bool, deref_dict, deref_non, deS_lst, fz_lst, fz_dct, List.getElem?_cons_zero, List.getElem?_cons_succ, ix_list_i, ix_tup_i, at0, at1, at2, at3, oS_some, ok_frz_sh, ok_frz_lst, ok_frz_dct, eq_ii, eq_ss, ok_asB_b, ok_asB'_b, ne_ii, ne_ss, ok_chkL, recv, ok_onL, List.map_cons, List.length_cons, List.length_nil, ixN0, List.eraseIdx_cons_zero, ok_mStore, RV.slot, List.set_cons_zero, List.set_cons_succ, ok_mSetIx, put_list, Option.map_some, add_ii, sub_ii, int_i, ok_mIf, ok_mAnd, ok_mOr, ok_mNot, ge_ii, gt_ii, lt_ii, le_ii, len_list, len_tup, list_list, list_tup, Nat.zero_add, Nat.reduceAdd, ok_vAnd, andP_b, ok_vOr, ok_vNot, notP_b, ok_mChain, insAt_slot, insAt_ref, insV_ref, insO_some, PV.ok_mFld, ok_mMeth, noneP_n, PV.ok_unpack2, fok_mk, Bool.false_eq_true, if_true, if_false, Bool.not_true, Bool.not_false, ok_mLc, ok_mDc, restS1, restS2, wipeS1, wipeS2, keepS_unb, keepS_shr, keepS_own, itA_l, itA_t, itA_d, sl_l, ok_mSl, ok_asI_i]
  unfold s14_law
  have e2 : okR 5 = true := rfl
  simp only [ok_seq, seqP_nx, seqP_rt, endP_rt, endP_nx, mPopAt, ok_bnd, ok_ret, ok_app2, ok_app1, ok_appN, ok_oVar, ok_vVar, ok_mVar, ok_k1, ok_k2, ok_kN, ok_oCons, ok_mCons, ok_call, okO_some, res_val, res_slot, resAll_nil, resAll_cons, resC_some, slotV_shr, slotV_own, deref_ref, deref_int, deref_list, deref_tup, deref_str, deref_bool, deref_dict, deref_non, deS_lst, fz_lst, fz_dct, List.getElem?_cons_zero, List.getElem?_cons_succ, ix_list_i, ix_tup_i, at0, at1, at2, at3, oS_some, ok_frz_sh, ok_frz_lst, ok_frz_dct, eq_ii, eq_ss, ok_asB_b, ok_asB'_b, ne_ii, ne_ss, ok_chkL, recv, ok_onL, List.map_cons, List.length_cons, List.length_nil, ixN0, List.eraseIdx_cons_zero, ok_mStore, RV.slot, List.set_cons_zero, List.set_cons_succ, ok_mSetIx, put_list, Option.map_some, add_ii, sub_ii, int_i, ok_mIf, ok_mAnd, ok_mOr, ok_mNot, ge_ii, gt_ii, lt_ii, le_ii, len_list, len_tup, list_list, list_tup, Nat.zero_add, Nat.reduceAdd, ok_vAnd, andP_b, ok_vOr, ok_vNot, notP_b, ok_mChain, insAt_slot, insAt_ref, insV_ref, insO_some, PV.ok_mFld, ok_mMeth, noneP_n, PV.ok_unpack2, fok_mk, Bool.false_eq_true, if_true, if_false, Bool.not_true, Bool.not_false, ok_mLc, ok_mDc, restS1, restS2, wipeS1, wipeS2, keepS_unb, keepS_shr, keepS_own, itA_l, itA_t, itA_d, sl_l, ok_mSl, ok_asI_i, itR1, e2]
  have e3 : (vRange 0 5).length = 5 := rfl
  refine l7_loop hw nd h2 h5 hx hz pk hgi hi hil (vRange 0 5) S8 _ _ _ _ g8 (by rw [e3, List.length_map]; omega) fun S' a b g9 => ?_
  rw [e3, List.length_map] at g9
  exact kk _ _ _ _ _ _ _ _ _ _ _ _ _ _ (g9.mono (by omega))
theorem law_loop {s0 : PV.Slot} : ∀ (xs : List Val) (S T : List MO) (n : Nat) (s2 s3 s4 s5 s6 s7 s8 s9 s10 s11 s12 s13 s14 : PV.Slot) (P : Fl → State → Prop), St S T n → n + 3000 * xs.length < 1000000 →
    (∀ S' s2' s3' s4' s5' s6' s7' s8' s9' s10' s11' s12' s13' s14', P .nx ⟨[s0, .shr (.ref 1), s2', s3', s4', s5', s6', s7', s8', s9', s10', s11', s12', s13', s14'], S'⟩) →
    Ok (mFor (mStore 2) l15b_law xs ⟨[s0, .shr (.ref 1), s2, s3, s4, s5, s6, s7, s8, s9, s10, s11, s12, s13, s14], S⟩) P
  | [], S, T, n, s2, s3, s4, s5, s6, s7, s8, s9, s10, s11, s12, s13, s14, P, h, hn, kk => by
    rw [ok_for_nil]
    exact kk _ _ _ _ _ _ _ _ _ _ _ _ _ _
  | x :: xs, S, T, n, s2, s3, s4, s5, s6, s7, s8, s9, s10, s11, s12, s13, s14, P, h, hn, kk => by
    rw [ok_for_cons]
    simp only [List.length_cons] at hn
    simp only [ok_mStore, RV.slot, List.set_cons_zero, List.set_cons_succ]
    refine turn_ok h (by omega) fun S' T' a b c d e f g i j k l m g' => ?_
    exact law_loop xs S' T' (n + 3000) _ a b c d e f g i j k l m P g' (by omega) kk
theorem tells : PV.Tells F_law := by
  intro ns hl
  have key : FOk (F_law [.list (ns.map .int)] []) fun r S' => r = .sh (.bool true) := by
    unfold F_law b_law
    rw [fok_def]
    have e1 : ([.list (ns.map .int)] : List Val).map PV.Slot.shr ++ List.replicate (15 - ([.list (ns.map .int)] : List Val).length) PV.Slot.unb = [.shr (.list (ns.map .int)), .unb, .unb, .unb, .unb, .unb, .unb, .unb, .unb, .unb, .unb, .unb, .unb, .unb, .unb] := rfl
    rw [e1, ok_seq]
    unfold s16_law
    simp only [ok_seq, seqP_nx, seqP_rt, endP_rt, endP_nx, mPopAt, ok_bnd, ok_ret, ok_app2, ok_app1, ok_appN, ok_oVar, ok_vVar, ok_mVar, ok_k1, ok_k2, ok_kN, ok_oCons, ok_mCons, ok_call, okO_some, res_val, res_slot, resAll_nil, resAll_cons, resC_some, slotV_shr, slotV_own, deref_ref, deref_int, deref_list, deref_tup, deref_str, deref_bool, deref_dict, deref_non, deS_lst, fz_lst, fz_dct, List.getElem?_cons_zero, List.getElem?_cons_succ, ix_list_i, ix_tup_i, at0, at1, at2, at3, oS_some, ok_frz_sh, ok_frz_lst, ok_frz_dct, eq_ii, eq_ss, ok_asB_b, ok_asB'_b, ne_ii, ne_ss, ok_chkL, recv, ok_onL, List.map_cons, List.length_cons, List.length_nil, ixN0, List.eraseIdx_cons_zero, ok_mStore, RV.slot, List.set_cons_zero, List.set_cons_succ, ok_mSetIx, put_list, Option.map_some, add_ii, sub_ii, int_i, ok_mIf, ok_mAnd, ok_mOr, ok_mNot, ge_ii, gt_ii, lt_ii, le_ii, len_list, len_tup, list_list, list_tup, Nat.zero_add, Nat.reduceAdd, ok_vAnd, andP_b, ok_vOr, ok_vNot, notP_b, ok_mChain, insAt_slot, insAt_ref, insV_ref, insO_some, PV.ok_mFld, ok_mMeth, noneP_n, PV.ok_unpack2, fok_mk, Bool.false_eq_true, if_true, if_false, Bool.not_true, Bool.not_false, ok_mLc, ok_mDc, restS1, restS2, wipeS1, wipeS2, keepS_unb, keepS_shr, keepS_own, itA_l, itA_t, itA_d, sl_l, ok_mSl, ok_asI_i]
    refine (start_ok hl).mono fun r S' ⟨er, es⟩ => ?_
    subst er es
    simp only [ok_seq, seqP_nx, seqP_rt, endP_rt, endP_nx, mPopAt, ok_bnd, ok_ret, ok_app2, ok_app1, ok_appN, ok_oVar, ok_vVar, ok_mVar, ok_k1, ok_k2, ok_kN, ok_oCons, ok_mCons, ok_call, okO_some, res_val, res_slot, resAll_nil, resAll_cons, resC_some, slotV_shr, slotV_own, deref_ref, deref_int, deref_list, deref_tup, deref_str, deref_bool, deref_dict, deref_non, deS_lst, fz_lst, fz_dct, List.getElem?_cons_zero, List.getElem?_cons_succ, ix_list_i, ix_tup_i, at0, at1, at2, at3, oS_some, ok_frz_sh, ok_frz_lst, ok_frz_dct, eq_ii, eq_ss, ok_asB_b, ok_asB'_b, ne_ii, ne_ss, ok_chkL, recv, ok_onL, List.map_cons, List.length_cons, List.length_nil, ixN0, List.eraseIdx_cons_zero, ok_mStore, RV.slot, List.set_cons_zero, List.set_cons_succ, ok_mSetIx, put_list, Option.map_some, add_ii, sub_ii, int_i, ok_mIf, ok_mAnd, ok_mOr, ok_mNot, ge_ii, gt_ii, lt_ii, le_ii, len_list, len_tup, list_list, list_tup, Nat.zero_add, Nat.reduceAdd, ok_vAnd, andP_b, ok_vOr, ok_vNot, notP_b, ok_mChain, insAt_slot, insAt_ref, insV_ref, insO_some, PV.ok_mFld, ok_mMeth, noneP_n, PV.ok_unpack2, fok_mk, Bool.false_eq_true, if_true, if_false, Bool.not_true, Bool.not_false, ok_mLc, ok_mDc, restS1, restS2, wipeS1, wipeS2, keepS_unb, keepS_shr, keepS_own, itA_l, itA_t, itA_d, sl_l, ok_mSl, ok_asI_i, ok_toSto]
    unfold s17_law
    have e2 : okR 8 = true := rfl
    simp only [ok_seq, seqP_nx, seqP_rt, endP_rt, endP_nx, mPopAt, ok_bnd, ok_ret, ok_app2, ok_app1, ok_appN, ok_oVar, ok_vVar, ok_mVar, ok_k1, ok_k2, ok_kN, ok_oCons, ok_mCons, ok_call, okO_some, res_val, res_slot, resAll_nil, resAll_cons, resC_some, slotV_shr, slotV_own, deref_ref, deref_int, deref_list, deref_tup, deref_str, deref_bool, deref_dict, deref_non, deS_lst, fz_lst, fz_dct, List.getElem?_cons_zero, List.getElem?_cons_succ, ix_list_i, ix_tup_i, at0, at1, at2, at3, oS_some, ok_frz_sh, ok_frz_lst, ok_frz_dct, eq_ii, eq_ss, ok_asB_b, ok_asB'_b, ne_ii, ne_ss, ok_chkL, recv, ok_onL, List.map_cons, List.length_cons, List.length_nil, ixN0, List.eraseIdx_cons_zero, ok_mStore, RV.slot, List.set_cons_zero, List.set_cons_succ, ok_mSetIx, put_list, Option.map_some, add_ii, sub_ii, int_i, ok_mIf, ok_mAnd, ok_mOr, ok_mNot, ge_ii, gt_ii, lt_ii, le_ii, len_list, len_tup, list_list, list_tup, Nat.zero_add, Nat.reduceAdd, ok_vAnd, andP_b, ok_vOr, ok_vNot, notP_b, ok_mChain, insAt_slot, insAt_ref, insV_ref, insO_some, PV.ok_mFld, ok_mMeth, noneP_n, PV.ok_unpack2, fok_mk, Bool.false_eq_true, if_true, if_false, Bool.not_true, Bool.not_false, ok_mLc, ok_mDc, restS1, restS2, wipeS1, wipeS2, keepS_unb, keepS_shr, keepS_own, itA_l, itA_t, itA_d, sl_l, ok_mSl, ok_asI_i, itR1, e2]
    have g : St [.lst (ns.map .int), .lst [.ref 0, .int 0, .int 0, .int 11]] [] 0 := ⟨ns, 0, 0, 11, rfl, hl, by omega, by omega, by omega, by omega, by omega⟩
    refine law_loop (vRange 0 8) _ [] 0 _ _ _ _ _ _ _ _ _ _ _ _ _ _ g (by show 0 + 3000 * 8 < 1000000; omega) fun S' a b c d e f g i j k l m n => ?_
    rw [seqP_nx]
    unfold s18_law
    simp only [ok_seq, seqP_nx, seqP_rt, endP_rt, endP_nx, mPopAt, ok_bnd, ok_ret, ok_app2, ok_app1, ok_appN, ok_oVar, ok_vVar, ok_mVar, ok_k1, ok_k2, ok_kN, ok_oCons, ok_mCons, ok_call, okO_some, res_val, res_slot, resAll_nil, resAll_cons, resC_some, slotV_shr, slotV_own, deref_ref, deref_int, deref_list, deref_tup, deref_str, deref_bool, deref_dict, deref_non, deS_lst, fz_lst, fz_dct, List.getElem?_cons_zero, List.getElem?_cons_succ, ix_list_i, ix_tup_i, at0, at1, at2, at3, oS_some, ok_frz_sh, ok_frz_lst, ok_frz_dct, eq_ii, eq_ss, ok_asB_b, ok_asB'_b, ne_ii, ne_ss, ok_chkL, recv, ok_onL, List.map_cons, List.length_cons, List.length_nil, ixN0, List.eraseIdx_cons_zero, ok_mStore, RV.slot, List.set_cons_zero, List.set_cons_succ, ok_mSetIx, put_list, Option.map_some, add_ii, sub_ii, int_i, ok_mIf, ok_mAnd, ok_mOr, ok_mNot, ge_ii, gt_ii, lt_ii, le_ii, len_list, len_tup, list_list, list_tup, Nat.zero_add, Nat.reduceAdd, ok_vAnd, andP_b, ok_vOr, ok_vNot, notP_b, ok_mChain, insAt_slot, insAt_ref, insV_ref, insO_some, PV.ok_mFld, ok_mMeth, noneP_n, PV.ok_unpack2, fok_mk, Bool.false_eq_true, if_true, if_false, Bool.not_true, Bool.not_false, ok_mLc, ok_mDc, restS1, restS2, wipeS1, wipeS2, keepS_unb, keepS_shr, keepS_own, itA_l, itA_t, itA_d, sl_l, ok_mSl, ok_asI_i]
  cases hF : F_law [.list (ns.map .int)] [] with
  | ok r S' =>
    rw [hF] at key
    cases (show r = .sh (.bool true) from key)
    exact ⟨S', rfl⟩
  | exc _ _ _ => rw [hF] at key; exact key.elim
  | stuck => rw [hF] at key; exact key.elim
end K02

open PySem PySem.W PyProof.Rows
set_option maxRecDepth 100000 in
set_option maxHeartbeats 0 in
theorem PySem.Challenge.cw_breakplans_k02_courses_told_holds : PySem.Challenge.rw_breakplans_k02_courses_told.Holds := by
  w_on; o_law; k_head; (case hw => w_witness2)
  k_fill
  refine PV.walkV (l := PySem.Challenge.rw_breakplans_k02_courses_told) (k := 8) (x := "_law_script") (F := K02.F_law) ⟨rfl, by decide, by decide⟩ K02.tells rfl rfl (fun w h Y => PySem.W.kIn_of Y) ?F
  case F =>
    intro w mg fz h KX G hmg
    refine' K02.all_mk KX G hmg ?aC5 ?a0 ?l0 ?c0 ?k0 ?a1 ?l1 ?c1 ?k1 ?a2 ?l2 ?c2 ?k2 ?a3 ?l3 ?c3 ?k3 ?a4 ?l4 ?c4 ?k4 ?a5 ?l5 ?c5 ?k5 ?a6 ?l6 ?c6 ?k6 ?a7 ?l7 ?c7 ?k7 ?a8 ?l8 ?c8 ?k8 ?a9 ?l9 ?c9 ?k9 ?a10 ?l10 ?c10 ?k10 ?a11 ?l11 ?c11 ?k11 ?a12 ?l12 ?c12 ?k12 ?a13 ?l13 ?c13 ?k13 ?a14 ?l14 ?c14 ?k14 ?a15 ?i15 ?l15 ?c15 ?k15 ?a16 ?l16 ?c16 ?k16 ?a17 ?l17 ?c17 ?k17 ?a18 ?l18 ?c18 ?k18 ?a19 ?i19 ?l19 ?c19 ?k19 ?a20 ?l20 ?c20 ?k20 ?a21 ?l21 ?c21 ?k21 ?a22 ?l22 ?c22 ?k22 ?a23 ?i23 ?l23 ?c23 ?k23 ?a24 ?l24 ?c24 ?k24 ?a25 ?l25 ?c25 ?k25 ?pg5 ?hd5 ?po5 ?sa5 ?ms5 ?kc5 ?n5_own_hands ?n5_own_maps ?z_all ?z_bool ?z_dict ?z_enumerate ?z_int ?z_isinstance ?z_len ?z_list ?z_range ?z_sorted ?z_str ?z_tuple ?s_FIGURES ?s_SMALL
    (case aC5 => k_is)
    (case a0 => k_is)
    (case l0 => k_is)
    (case c0 => k_is)
    (case k0 => k_is)
    (case a1 => k_is)
    (case l1 => k_is)
    (case c1 => k_is)
    (case k1 => k_is)
    (case a2 => k_is)
    (case l2 => k_is)
    (case c2 => k_is)
    (case k2 => k_is)
    (case a3 => k_is)
    (case l3 => k_is)
    (case c3 => k_is)
    (case k3 => k_is)
    (case a4 => k_is)
    (case l4 => k_is)
    (case c4 => k_is)
    (case k4 => k_is)
    (case a5 => k_is)
    (case l5 => k_is)
    (case c5 => k_is)
    (case k5 => k_is)
    (case a6 => k_is)
    (case l6 => k_is)
    (case c6 => k_is)
    (case k6 => k_is)
    (case a7 => k_is)
    (case l7 => k_is)
    (case c7 => k_is)
    (case k7 => k_is)
    (case a8 => k_is)
    (case l8 => k_is)
    (case c8 => k_is)
    (case k8 => k_is)
    (case a9 => k_is)
    (case l9 => k_is)
    (case c9 => k_is)
    (case k9 => k_is)
    (case a10 => k_is)
    (case l10 => k_is)
    (case c10 => k_is)
    (case k10 => k_is)
    (case a11 => k_is)
    (case l11 => k_is)
    (case c11 => k_is)
    (case k11 => k_is)
    (case a12 => k_is)
    (case l12 => k_is)
    (case c12 => k_is)
    (case k12 => k_is)
    (case a13 => k_is)
    (case l13 => k_is)
    (case c13 => k_is)
    (case k13 => k_is)
    (case a14 => k_is)
    (case l14 => k_is)
    (case c14 => k_is)
    (case k14 => k_is)
    (case a15 => k_is)
    (case i15 => k_is)
    (case l15 => k_is)
    (case c15 => k_is)
    (case k15 => k_is)
    (case a16 => k_is)
    (case l16 => k_is)
    (case c16 => k_is)
    (case k16 => k_is)
    (case a17 => k_is)
    (case l17 => k_is)
    (case c17 => k_is)
    (case k17 => k_is)
    (case a18 => k_is)
    (case l18 => k_is)
    (case c18 => k_is)
    (case k18 => k_is)
    (case a19 => k_is)
    (case i19 => k_is)
    (case l19 => k_is)
    (case c19 => k_is)
    (case k19 => k_is)
    (case a20 => k_is)
    (case l20 => k_is)
    (case c20 => k_is)
    (case k20 => k_is)
    (case a21 => k_is)
    (case l21 => k_is)
    (case c21 => k_is)
    (case k21 => k_is)
    (case a22 => k_is)
    (case l22 => k_is)
    (case c22 => k_is)
    (case k22 => k_is)
    (case a23 => k_is)
    (case i23 => k_is)
    (case l23 => k_is)
    (case c23 => k_is)
    (case k23 => k_is)
    (case a24 => k_is)
    (case l24 => k_is)
    (case c24 => k_is)
    (case k24 => k_is)
    (case a25 => k_is)
    (case l25 => k_is)
    (case c25 => k_is)
    (case k25 => k_is)
    (case pg5 => k_is)
    (case hd5 => k_is)
    (case po5 => k_is)
    (case sa5 => k_is)
    (case ms5 => k_is)
    (case kc5 => k_is)
    (case n5_own_hands => k_is)
    (case n5_own_maps => k_is)
    (case z_all => k_is)
    (case z_bool => k_is)
    (case z_dict => k_is)
    (case z_enumerate => k_is)
    (case z_int => k_is)
    (case z_isinstance => k_is)
    (case z_len => k_is)
    (case z_list => k_is)
    (case z_range => k_is)
    (case z_sorted => k_is)
    (case z_str => k_is)
    (case z_tuple => k_is)
    (case s_FIGURES => k_is)
    (case s_SMALL => k_is)
#print axioms PySem.Challenge.cw_breakplans_k02_courses_told_holds
