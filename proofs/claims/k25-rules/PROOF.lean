import PyProof.Rows.All
import HandS.Base
import HandS.Call
import HandS.List
import HandS.Comp
import HandS.Exc
import HandS.Ends
import HandS.Dict
import HandS.HeadHook1
import PyProof.NeKinds
import HandS.Text
import HandS.TupAny
import HandS.Wide
import HandS.IsInst
import HandS.StrMore
import PyProof.ReprRoads
import PyProof.CallFns
import HandS.Strs
import HandS.SetFor
import HandS.CallSlots
import HandS.CallLocal
import HandS.Iter
import HandS.Zip
import HandS.Small
import HandS.Style
import HandS.Defaults
import HandS.Words
import HandS.HeadHook2
import HandS.HeadEnd
import HandS.Head0
import HandS.Head1
import HandS.Head2
import PyProof.StrLawsRepr
import HandS.Codes
import PySem.Challenge.RW_handkept_k25_rules_of_any_value
set_option Elab.async false
set_option linter.all false
set_option maxRecDepth 100000
set_option maxHeartbeats 4000000
/-! A small language of values, laid over the hand layer: data, stores, what it means that a heap bears them. -/
namespace Mi
open PySem PySem.Spec L2

abbrev KeyD := Sum Int (List Nat)
/-- data: what is never written is held as a value; what is written, at a place of the store -/
inductive D where
  | non | bl (b : Bool) | int (i : Int) | str (s : List Nat)
  | tup (xs : List D) | lst (xs : List D) | fro (xs : List D) | dct (ks : List KeyD) (vs : List D)
  | loc (n : Nat) | glo (x : Str) | ty (n : String)
/-- what stands at a place of the store -/
inductive Ob where
  | lst (xs : List D) | dct (ks : List KeyD) (vs : List D) | ins (c : Str) (fs : List Str) (vs : List D)
abbrev Sto := List Ob
structure Ex where
  cls : Str
  fs : List Str
  vs : List D
inductive R (α : Type) where
  | ok (a : α) (st : Sto) | exc (x : Ex) (st : Sto) | bad
def R.bind {α β : Type} : R α → (α → Sto → R β) → R β
  | .ok a st, f => f a st
  | .exc x st, _ => .exc x st
  | .bad, _ => .bad
@[simp] theorem R.bind_ok {α β : Type} (a : α) (st : Sto) (f : α → Sto → R β) : (R.ok a st).bind f = f a st := rfl
@[simp] theorem R.bind_exc {α β : Type} (x : Ex) (st : Sto) (f : α → Sto → R β) : (R.exc x st : R α).bind f = .exc x st := rfl
@[simp] theorem R.bind_bad {α β : Type} (f : α → Sto → R β) : (R.bad : R α).bind f = .bad := rfl

def keyOf : KeyD → Key
  | .inl i => .inl i
  | .inr s => .inr ⟨s.toArray⟩
theorem keyOf_inj {a b : KeyD} (h : keyOf a = keyOf b) : a = b := by
  cases a <;> cases b <;> simp [keyOf] at h <;> simp [h]

/-- the store's places; what is hidden besides -/
structure Io where
  l : List Addr
  h : List Addr
instance : Membership Addr Io := ⟨fun io a => a ∈ io.l ∨ a ∈ io.h⟩
def Io.get (io : Io) (n : Nat) : Option Addr := io.l[n]?
def Io.push (io : Io) (a : Addr) : Io := ⟨io.l ++ [a], io.h⟩
/-- a list that is written nowhere: tracked apart from the store -/
def LstAt (H : Hp) (io : Io) (a : Addr) (xs : List V) : Prop := H a = some (.lst xs) ∧ a ∉ io
/-- a list known to its object, or of the module -/
def FroAt (K : PySem.W.Frag) (H : Hp) (a : Addr) (xs : List V) : Prop := (∃ o, H a = some (.frz o (.lst xs))) ∨
  ∃ (o : Obj) (its : Array Value) (n : Nat), K.lookup a = some o ∧ o.cls = .type "list" ∧ o.dict = none ∧ o.data = .seq its n ∧ its.size ≤ sizeLine ∧ Vals xs its.toList
def DctAt (H : Hp) (io : Io) (a : Addr) (kvs : List (Key × V)) : Prop := H a = some (.dK kvs) ∧ a ∉ io
mutual
def Rep (K : PySem.W.Frag) (H : Hp) (io : Io) : D → V → Prop
  | .non, v => v = .non
  | .bl b, v => v = .bl b
  | .int i, v => v = .int i
  | .str s, v => v = .str ⟨s.toArray⟩
  | .tup ds, v => ∃ a xs, v = .ref a ∧ SqT K H a xs ∧ RepL K H io ds xs
  | .lst ds, v => ∃ a xs, v = .ref a ∧ LstAt H io a xs ∧ RepL K H io ds xs
  | .fro ds, v => ∃ a xs, v = .ref a ∧ FroAt K H a xs ∧ RepL K H io ds xs
  | .dct ks ds, v => ∃ a xs, v = .ref a ∧ DctAt H io a ((ks.map keyOf).zip xs) ∧ ks.length = xs.length ∧ RepL K H io ds xs
  | .loc n, v => ∃ a, io.get n = some a ∧ v = .ref a
  | .glo x, v => v = .ref (He.ga K x)
  | .ty n, v => v = .ty n
def RepL (K : PySem.W.Frag) (H : Hp) (io : Io) : List D → List V → Prop
  | [], xs => xs = []
  | d :: ds, xs => ∃ x r, xs = x :: r ∧ Rep K H io d x ∧ RepL K H io ds r
end

/-- what a datum's meaning leans on stays -/
structure Mv (io : Io) (H : Hp) (io' : Io) (H' : Hp) : Prop where
  at_ : ∀ n a, io.get n = some a → io'.get n = some a
  lst : ∀ a o, H a = some o → a ∉ io → H' a = some o ∧ a ∉ io'
  tups : ∀ a xs, H a = some (.tup xs) → H' a = some (.tup xs)
  frzs : ∀ a o u, H a = some (.frz o u) → H' a = some (.frz o u)
/-- the heap goes on: what is not the store's stays, the store's new places were free -/
structure Ext (io : Io) (H : Hp) (io' : Io) (H' : Hp) : Prop where
  more : ∃ t, io'.l = io.l ++ t
  same : io'.h = io.h
  keep : ∀ a o, H a = some o → a ∉ io → H' a = some o
  hid : ∀ a, a ∈ io.h → a ∉ io.l → H' a = H a ∧ a ∉ io'.l
  tups : ∀ a xs, H a = some (.tup xs) → H' a = some (.tup xs)
  frzs : ∀ a o u, H a = some (.frz o u) → H' a = some (.frz o u)
  new : ∀ a, a ∈ io' → a ∉ io → H a = none
theorem Ext.refl (io : Io) (H : Hp) : Ext io H io H :=
  ⟨⟨[], by simp⟩, rfl, fun _ _ h _ => h, fun _ _ n => ⟨rfl, n⟩, fun _ _ h => h, fun _ _ _ h => h, fun a h1 h2 => absurd h1 h2⟩
theorem Ext.sub {io io' : Io} {H H' : Hp} (x : Ext io H io' H') {a : Addr} (h : a ∈ io) : a ∈ io' := by
  obtain ⟨t, e⟩ := x.more
  rcases h with h | h
  · exact .inl (by rw [e]; exact List.mem_append_left _ h)
  · exact .inr (by rw [x.same]; exact h)
theorem Ext.at {io io' : Io} {H H' : Hp} (x : Ext io H io' H') {n : Nat} {a : Addr} (h : io.get n = some a) : io'.get n = some a := by
  obtain ⟨t, e⟩ := x.more
  unfold Io.get at h ⊢
  rw [e, List.getElem?_append_left (List.getElem?_eq_some_iff.mp h).1]
  exact h
theorem Ext.out {io io' : Io} {H H' : Hp} (x : Ext io H io' H') {a : Addr} {o : HO} (h : H a = some o) (n : a ∉ io) : a ∉ io' := fun m => by
  rw [x.new a m n] at h; cases h
theorem Ext.mv {io io' : Io} {H H' : Hp} (x : Ext io H io' H') : Mv io H io' H' := ⟨fun _ _ h => x.at h, fun a o h n => ⟨x.keep a o h n, x.out h n⟩, x.tups, x.frzs⟩
theorem Mv.sqt {K : PySem.W.Frag} {io io' : Io} {H H' : Hp} (x : Mv io H io' H') {a : Addr} {xs : List V} (h : SqT K H a xs) : SqT K H' a xs := by
  rcases h with (h | ⟨o, h⟩) | h
  · exact .inl (.inl (x.tups _ _ h))
  · exact .inl (.inr ⟨o, x.frzs _ _ _ h⟩)
  · exact .inr h
theorem Mv.fro {K : PySem.W.Frag} {io io' : Io} {H H' : Hp} (x : Mv io H io' H') {a : Addr} {xs : List V} (h : FroAt K H a xs) : FroAt K H' a xs := by
  rcases h with ⟨o, h⟩ | h
  · exact .inl ⟨o, x.frzs _ _ _ h⟩
  · exact .inr h
theorem Ext.sqt {K : PySem.W.Frag} {io io' : Io} {H H' : Hp} (x : Ext io H io' H') {a : Addr} {xs : List V} (h : SqT K H a xs) : SqT K H' a xs := x.mv.sqt h
theorem Ext.fro {K : PySem.W.Frag} {io io' : Io} {H H' : Hp} (x : Ext io H io' H') {a : Addr} {xs : List V} (h : FroAt K H a xs) : FroAt K H' a xs := x.mv.fro h
theorem FroAt.sql {K : PySem.W.Frag} {H : Hp} {a : Addr} {xs : List V} (h : FroAt K H a xs) : SqL K H a xs := by
  rcases h with ⟨o, h⟩ | h
  · exact .inl (.inr ⟨o, h⟩)
  · exact .inr h
mutual
theorem Rep.mv {K : PySem.W.Frag} {io io' : Io} {H H' : Hp} (x : Mv io H io' H') : ∀ (d : D) (v : V), Rep K H io d v → Rep K H' io' d v
  | .non, _, h => h
  | .bl _, _, h => h
  | .int _, _, h => h
  | .str _, _, h => h
  | .tup ds, _, h => by
    obtain ⟨a, xs, e, s, r⟩ := h
    exact ⟨a, xs, e, x.sqt s, RepL.mv x ds xs r⟩
  | .lst ds, _, h => by
    obtain ⟨a, xs, e, ⟨s, n⟩, r⟩ := h
    exact ⟨a, xs, e, x.lst _ _ s n, RepL.mv x ds xs r⟩
  | .fro ds, _, h => by
    obtain ⟨a, xs, e, s, r⟩ := h
    exact ⟨a, xs, e, x.fro s, RepL.mv x ds xs r⟩
  | .dct ks ds, _, h => by
    obtain ⟨a, xs, e, ⟨s, n⟩, l, r⟩ := h
    exact ⟨a, xs, e, x.lst _ _ s n, l, RepL.mv x ds xs r⟩
  | .loc n, _, h => by
    obtain ⟨a, e, r⟩ := h
    exact ⟨a, x.at_ _ _ e, r⟩
  | .glo _, _, h => h
  | .ty _, _, h => h
theorem RepL.mv {K : PySem.W.Frag} {io io' : Io} {H H' : Hp} (x : Mv io H io' H') : ∀ (ds : List D) (xs : List V), RepL K H io ds xs → RepL K H' io' ds xs
  | [], _, h => h
  | d :: ds, _, h => by
    obtain ⟨y, r, e, h1, h2⟩ := h
    exact ⟨y, r, e, Rep.mv x d y h1, RepL.mv x ds r h2⟩
end

theorem Ext.trans {i1 i2 i3 : Io} {H1 H2 H3 : Hp} (x : Ext i1 H1 i2 H2) (y : Ext i2 H2 i3 H3) : Ext i1 H1 i3 H3 := by
  have back : ∀ a o, H1 a = some o → a ∉ i1 → a ∉ i2 := fun a o h n m => by
    rw [x.new a m n] at h; cases h
  refine ⟨?_, y.same.trans x.same, fun a o h n => y.keep a o (x.keep a o h n) (back a o h n), fun a h n => ?_, fun a xs h => y.tups a xs (x.tups a xs h), fun a o u h => y.frzs a o u (x.frzs a o u h), fun a h3 n => ?_⟩
  · obtain ⟨t1, e1⟩ := x.more
    obtain ⟨t2, e2⟩ := y.more
    exact ⟨t1 ++ t2, by rw [e2, e1]; simp⟩
  · have q := x.hid a h n
    have q2 := y.hid a (by rw [x.same]; exact h) q.2
    exact ⟨q2.1.trans q.1, q2.2⟩
  · by_cases h2 : a ∈ i2
    · exact x.new a h2 n
    · have q := y.new a h3 h2
      cases e : H1 a with
      | none => rfl
      | some o => rw [x.keep a o e n] at q; cases q
theorem Rep.ext {K : PySem.W.Frag} {io io' : Io} {H H' : Hp} (x : Ext io H io' H') (d : D) (v : V) (h : Rep K H io d v) : Rep K H' io' d v := Rep.mv x.mv d v h
theorem RepL.ext {K : PySem.W.Frag} {io io' : Io} {H H' : Hp} (x : Ext io H io' H') (d : List D) (v : List V) (h : RepL K H io d v) : RepL K H' io' d v := RepL.mv x.mv d v h

section
variable {K : PySem.W.Frag} {H H' : Hp} {io io' : Io}
theorem RepL.nil : RepL K H io [] [] := rfl
theorem RepL.cons {d : D} {ds : List D} {v : V} {vs : List V} (h : Rep K H io d v) (t : RepL K H io ds vs) : RepL K H io (d :: ds) (v :: vs) := ⟨v, vs, rfl, h, t⟩
theorem RepL.len : ∀ {ds : List D} {xs : List V}, RepL K H io ds xs → ds.length = xs.length
  | [], _, h => by cases h; rfl
  | _ :: _, _, h => by
    obtain ⟨y, r, rfl, _, h2⟩ := h
    simp [RepL.len h2]
theorem RepL.at : ∀ {ds : List D} {xs : List V} {i : Nat} {d : D}, RepL K H io ds xs → ds[i]? = some d → ∃ v, xs[i]? = some v ∧ Rep K H io d v
  | [], _, _, _, _, e => by simp at e
  | _ :: _, _, 0, _, h, e => by
    obtain ⟨y, r, rfl, h1, _⟩ := h
    simp at e; subst e
    exact ⟨y, rfl, h1⟩
  | _ :: _, _, i + 1, d, h, e => by
    obtain ⟨y, r, rfl, _, h2⟩ := h
    obtain ⟨v, e1, e2⟩ := RepL.at (i := i) (d := d) h2 (by simpa using e)
    exact ⟨v, by simpa using e1, e2⟩
theorem RepL.get : ∀ {ds : List D} {xs : List V} {i : Nat} {v : V}, RepL K H io ds xs → xs[i]? = some v → ∃ d, ds[i]? = some d ∧ Rep K H io d v
  | [], _, _, _, h, e => by cases h; simp at e
  | d :: _, _, 0, _, h, e => by
    obtain ⟨y, r, rfl, h1, _⟩ := h
    simp at e; subst e
    exact ⟨d, rfl, h1⟩
  | _ :: _, _, i + 1, v, h, e => by
    obtain ⟨y, r, rfl, _, h2⟩ := h
    obtain ⟨d, e1, e2⟩ := RepL.get (i := i) (v := v) h2 (by simpa using e)
    exact ⟨d, by simpa using e1, e2⟩
theorem RepL.append : ∀ {ds es : List D} {xs ys : List V}, RepL K H io ds xs → RepL K H io es ys → RepL K H io (ds ++ es) (xs ++ ys)
  | [], _, _, _, h, g => by cases h; exact g
  | _ :: _, _, _, _, h, g => by
    obtain ⟨y, r, rfl, h1, h2⟩ := h
    exact ⟨y, r ++ _, rfl, h1, RepL.append h2 g⟩
theorem RepL.take : ∀ {ds : List D} {xs : List V} (n : Nat), RepL K H io ds xs → RepL K H io (ds.take n) (xs.take n)
  | ds, xs, 0, _ => by simp [RepL]
  | [], _, _ + 1, h => by cases h; rfl
  | _ :: _, _, n + 1, h => by
    obtain ⟨y, r, rfl, h1, h2⟩ := h
    exact ⟨y, r.take n, rfl, h1, RepL.take n h2⟩
theorem RepL.drop : ∀ {ds : List D} {xs : List V} (n : Nat), RepL K H io ds xs → RepL K H io (ds.drop n) (xs.drop n)
  | _, _, 0, h => by simpa using h
  | [], _, _ + 1, h => by cases h; rfl
  | _ :: _, _, n + 1, h => by
    obtain ⟨y, r, rfl, h1, h2⟩ := h
    simpa using RepL.drop n h2
theorem RepL.set : ∀ {ds : List D} {xs : List V} (n : Nat) {d : D} {v : V}, RepL K H io ds xs → Rep K H io d v → RepL K H io (ds.set n d) (xs.set n v)
  | [], _, _, _, _, h, _ => by cases h; simp [RepL]
  | _ :: _, _, 0, _, _, h, g => by
    obtain ⟨y, r, rfl, h1, h2⟩ := h
    exact ⟨_, r, rfl, g, h2⟩
  | _ :: _, _, n + 1, _, _, h, g => by
    obtain ⟨y, r, rfl, h1, h2⟩ := h
    exact ⟨y, r.set n _, rfl, h1, RepL.set n h2 g⟩
theorem RepL.reverse : ∀ {ds : List D} {xs : List V}, RepL K H io ds xs → RepL K H io ds.reverse xs.reverse
  | [], _, h => by cases h; simp [RepL]
  | _ :: _, _, h => by
    obtain ⟨y, r, rfl, h1, h2⟩ := h
    rw [List.reverse_cons, List.reverse_cons]
    exact RepL.append (RepL.reverse h2) (.cons h1 .nil)
theorem RepL.map {α : Type} {f : α → D} {g : α → V} (h : ∀ x, Rep K H io (f x) (g x)) : ∀ l : List α, RepL K H io (l.map f) (l.map g)
  | [] => rfl
  | x :: l => ⟨g x, l.map g, rfl, h x, RepL.map h l⟩
theorem RepL.ints {ds : List D} {xs : List V} (h : RepL K H io ds xs) {ns : List Int} (e : ds = ns.map D.int) : xs = ns.map V.int := by
  subst e
  induction ns generalizing xs with
  | nil => exact h
  | cons n ns ih =>
    obtain ⟨y, r, rfl, h1, h2⟩ := h
    cases h1
    rw [ih h2]; rfl
theorem RepL.bools {ds : List D} {xs : List V} (h : RepL K H io ds xs) {ns : List Bool} (e : ds = ns.map D.bl) : xs = ns.map V.bl := by
  subst e
  induction ns generalizing xs with
  | nil => exact h
  | cons n ns ih =>
    obtain ⟨y, r, rfl, h1, h2⟩ := h
    cases h1
    rw [ih h2]; rfl
theorem RepL.strs {ds : List D} {xs : List V} (h : RepL K H io ds xs) {ns : List (List Nat)} (e : ds = ns.map D.str) : xs = ns.map fun s => V.str ⟨s.toArray⟩ := by
  subst e
  induction ns generalizing xs with
  | nil => exact h
  | cons n ns ih =>
    obtain ⟨y, r, rfl, h1, h2⟩ := h
    cases h1
    rw [ih h2]; rfl
end

/-- what an object of the store is in the heap -/
def ObAt (K : PySem.W.Frag) (H : Hp) (io : Io) (a : Addr) : Ob → Prop
  | .lst ds => ∃ xs, H a = some (.lst xs) ∧ RepL K H io ds xs
  | .dct ks ds => ∃ xs, H a = some (.dK ((ks.map keyOf).zip xs)) ∧ ks.length = xs.length ∧ RepL K H io ds xs
  | .ins c fs ds => ∃ dx xs, H a = some (.ins (He.ga K c) dx (fs.zip xs)) ∧ fs.length = xs.length ∧ RepL K H io ds xs
structure StOk (K : PySem.W.Frag) (H : Hp) (io : Io) (st : Sto) : Prop where
  len : io.l.length = st.length
  nd : io.l.Nodup
  ob : ∀ (n : Nat) (a : Addr) (b : Ob), io.get n = some a → st[n]? = some b → ObAt K H io a b
  hs : ∀ a, a ∈ io.h → a ∉ io.l ∧ ∃ o, H a = some o ∧ (∀ xs, o ≠ .tup xs) ∧ ∀ f u, o ≠ .frz f u
section
variable {K : PySem.W.Frag} {H H' : Hp} {io io' : Io} {st : Sto}
theorem StOk.there (s : StOk K H io st) {n : Nat} {b : Ob} (h : st[n]? = some b) : ∃ a, io.get n = some a ∧ ObAt K H io a b := by
  obtain ⟨hl, _⟩ := List.getElem?_eq_some_iff.mp h
  have hl' : n < io.l.length := by rw [s.len]; exact hl
  exact ⟨io.l[n], by simp [Io.get, hl'], s.ob n _ b (by simp [Io.get, hl']) h⟩
theorem ObAt.some {a : Addr} {b : Ob} (h : ObAt K H io a b) : ∃ o, H a = .some o ∧ (∀ xs, o ≠ .tup xs) ∧ ∀ f u, o ≠ .frz f u := by
  cases b with
  | lst ds => obtain ⟨xs, e, _⟩ := h; exact ⟨_, e, (by intro _ z; cases z), (by intro _ _ z; cases z)⟩
  | dct ks ds => obtain ⟨xs, e, _⟩ := h; exact ⟨_, e, (by intro _ z; cases z), (by intro _ _ z; cases z)⟩
  | ins c fs ds => obtain ⟨dx, xs, e, _⟩ := h; exact ⟨_, e, (by intro _ z; cases z), (by intro _ _ z; cases z)⟩
theorem StOk.has (s : StOk K H io st) {a : Addr} (h : a ∈ io) : ∃ o, H a = some o ∧ (∀ xs, o ≠ .tup xs) ∧ ∀ f u, o ≠ .frz f u := by
  rcases h with h | h
  · obtain ⟨n, hn, e⟩ := List.getElem_of_mem h
    have h1 : io.get n = some a := by simp [Io.get, hn, e]
    have h2 : n < st.length := by rw [← s.len]; exact hn
    exact (s.ob n a st[n] h1 (by simp [h2])).some
  · exact (s.hs a h).2
theorem StOk.free (s : StOk K H io st) {p : Addr} (h : H p = none) : p ∉ io := fun m => by
  obtain ⟨o, e, _⟩ := s.has m
  rw [h] at e; cases e
theorem ObAt.mv {a : Addr} {b : Ob} (x : Mv io H io' H') (e : H' a = H a) (h : ObAt K H io a b) : ObAt K H' io' a b := by
  cases b with
  | lst ds => obtain ⟨xs, q, r⟩ := h; exact ⟨xs, e.trans q, RepL.mv x _ _ r⟩
  | dct ks ds => obtain ⟨xs, q, l, r⟩ := h; exact ⟨xs, e.trans q, l, RepL.mv x _ _ r⟩
  | ins c fs ds => obtain ⟨dx, xs, q, l, r⟩ := h; exact ⟨dx, xs, e.trans q, l, RepL.mv x _ _ r⟩
theorem ObAt.ext {a : Addr} {b : Ob} (x : Ext io H io' H') (e : H' a = H a) (h : ObAt K H io a b) : ObAt K H' io' a b := h.mv x.mv e
/-- a new object, apart from the store -/
theorem Ext.fresh (s : StOk K H io st) {p : Addr} (h : H p = none) (o : HO) : Ext io H io (upd H p o) :=
  ⟨⟨[], by simp⟩, rfl, fun a u e _ => by rw [upd_ne (ne_of_none e h)]; exact e, fun a m n => ⟨upd_ne (fun z => by subst z; exact s.free h (.inr m)), n⟩, fun a u e => by rw [upd_ne (ne_of_none e h)]; exact e, fun a u w e => by rw [upd_ne (ne_of_none e h)]; exact e, fun a h1 h2 => absurd h1 h2⟩
theorem StOk.fresh (s : StOk K H io st) {p : Addr} (h : H p = none) (o : HO) : StOk K (upd H p o) io st :=
  ⟨s.len, s.nd, fun n a b e1 e2 => (s.ob n a b e1 e2).ext (Ext.fresh s h o) (by
    obtain ⟨u, e, _⟩ := (s.ob n a b e1 e2).some
    rw [upd_ne (ne_of_none e h)]), fun a m => let ⟨n, u, e, r⟩ := s.hs a m; ⟨n, u, by rw [upd_ne (ne_of_none e h)]; exact e, r⟩⟩
/-- a new object of the store -/
theorem Ext.push (s : StOk K H io st) {p : Addr} (h : H p = none) (o : HO) : Ext io H (io.push p) (upd H p o) := by
  refine ⟨⟨[p], rfl⟩, rfl, fun a u e _ => by rw [upd_ne (ne_of_none e h)]; exact e, fun a m n => ?_, fun a u e => by rw [upd_ne (ne_of_none e h)]; exact e, fun a u w e => by rw [upd_ne (ne_of_none e h)]; exact e, fun a h1 h2 => ?_⟩
  · have ne : a ≠ p := fun z => by subst z; exact s.free h (.inr m)
    refine ⟨upd_ne ne, fun z => ?_⟩
    rcases List.mem_append.mp z with z | z
    · exact n z
    · exact ne (List.mem_singleton.mp z)
  · rcases h1 with z | z
    · rcases List.mem_append.mp z with z | z
      · exact absurd (.inl z) h2
      · rw [List.mem_singleton.mp z]; exact h
    · exact absurd (.inr z) h2
theorem StOk.push (s : StOk K H io st) {p : Addr} (h : H p = none) {o : HO} {b : Ob} (hb : ObAt K (upd H p o) (io.push p) p b) : StOk K (upd H p o) (io.push p) (st ++ [b]) := by
  refine ⟨by simp [Io.push, s.len], ?_, fun n a c e1 e2 => ?_, fun a m => ?_⟩
  · show (io.l ++ [p]).Nodup
    rw [List.nodup_append]
    exact ⟨s.nd, by simp, fun x hx y hy e => s.free h (.inl (by rw [← List.mem_singleton.mp hy, ← e]; exact hx))⟩
  · unfold Io.get Io.push at e1
    by_cases hn : n < io.l.length
    · rw [List.getElem?_append_left hn] at e1
      rw [List.getElem?_append_left (by rw [← s.len]; exact hn)] at e2
      refine (s.ob n a c e1 e2).ext (Ext.push s h o) ?_
      obtain ⟨u, e, _⟩ := (s.ob n a c e1 e2).some
      rw [upd_ne (ne_of_none e h)]
    · rw [List.getElem?_append_right (by omega)] at e1
      rw [List.getElem?_append_right (by rw [← s.len]; omega), ← s.len] at e2
      cases k : n - io.l.length with
      | zero => rw [k] at e1 e2; simp at e1 e2; subst e1 e2; exact hb
      | succ k => rw [k] at e1; simp at e1
  · obtain ⟨n, u, e, r⟩ := s.hs a m
    have ne := ne_of_none e h
    refine ⟨fun z => ?_, u, by rw [upd_ne ne]; exact e, r⟩
    rcases List.mem_append.mp z with z | z
    · exact n z
    · exact ne (List.mem_singleton.mp z)
/-- an object of the store is written -/
theorem Ext.write (s : StOk K H io st) {a : Addr} (h : a ∈ io.l) (o : HO) : Ext io H io (upd H a o) := by
  obtain ⟨u, e, n1, n2⟩ := s.has (.inl h)
  refine ⟨⟨[], by simp⟩, rfl, fun b v e2 m => by rw [upd_ne (show b ≠ a from fun z => m (by rw [z]; exact .inl h))]; exact e2, fun b m n => ⟨upd_ne (fun z => by subst z; exact n h), n⟩, fun b v e2 => ?_, fun b v w e2 => ?_, fun b h1 h2 => absurd h1 h2⟩
  · rw [upd_ne]
    · exact e2
    · rintro rfl
      rw [e] at e2
      exact n1 v (Option.some.inj e2)
  · rw [upd_ne]
    · exact e2
    · rintro rfl
      rw [e] at e2
      exact n2 v w (Option.some.inj e2)
theorem Io.get_mem {n : Nat} {a : Addr} (h : io.get n = .some a) : a ∈ io.l := List.mem_of_getElem? h
theorem StOk.write (s : StOk K H io st) {n : Nat} {a : Addr} (h : io.get n = some a) {o : HO} {b : Ob} (hb : ObAt K (upd H a o) io a b) : StOk K (upd H a o) io (st.set n b) := by
  refine ⟨by simp [s.len], s.nd, fun m c d e1 e2 => ?_, fun c m => ?_⟩
  · by_cases hm : m = n
    · subst hm
      rw [h] at e1; cases e1
      have hl : m < st.length := by rw [← s.len]; exact (List.getElem?_eq_some_iff.mp h).1
      rw [List.getElem?_set_self hl] at e2; cases e2
      exact hb
    · rw [List.getElem?_set_ne (Ne.symm hm)] at e2
      refine (s.ob m c d e1 e2).ext (Ext.write s (Io.get_mem h) o) ?_
      have hc : c ≠ a := fun e => hm (by
        subst e
        obtain ⟨h1, q1⟩ := List.getElem?_eq_some_iff.mp e1
        obtain ⟨h2, q2⟩ := List.getElem?_eq_some_iff.mp h
        exact (List.getElem_inj s.nd).mp (q1.trans q2.symm))
      rw [upd_ne hc]
  · obtain ⟨n', u, e, r⟩ := s.hs c m
    exact ⟨n', u, by rw [upd_ne (fun z => n' (by rw [z]; exact Io.get_mem h))]; exact e, r⟩
/-! what is hidden while a block runs -/
def Io.hide (io : Io) (p : Addr) : Io := ⟨io.l, p :: io.h⟩
theorem Mv.hide (h : H p = none) (o : HO) : Mv io H (io.hide p) (upd H p o) := ⟨fun _ _ e => e, fun a u e n => by
    have ne : a ≠ p := ne_of_none e h
    refine ⟨by rw [upd_ne ne]; exact e, fun m => ?_⟩
    rcases m with m | m
    · exact n (.inl m)
    · rcases List.mem_cons.mp m with m | m
      · exact ne m
      · exact n (.inr m), fun a u e => by rw [upd_ne (ne_of_none e h)]; exact e, fun a u w e => by rw [upd_ne (ne_of_none e h)]; exact e⟩
theorem StOk.hide (s : StOk K H io st) {p : Addr} (h : H p = none) {xs : List V} : StOk K (upd H p (.lst xs)) (io.hide p) st :=
  ⟨s.len, s.nd, fun n a b e1 e2 => (s.ob n a b e1 e2).mv (Mv.hide h _) (by
    obtain ⟨u, e, _⟩ := (s.ob n a b e1 e2).some
    rw [upd_ne (ne_of_none e h)]), fun a m => by
    rcases List.mem_cons.mp m with m | m
    · subst m
      exact ⟨fun z => s.free h (.inl z), _, upd_same, (by intro _ z; cases z), (by intro _ _ z; cases z)⟩
    · obtain ⟨n, u, e, r⟩ := s.hs a m
      exact ⟨n, u, by rw [upd_ne (ne_of_none e h)]; exact e, r⟩⟩
/-- what is hidden is written -/
theorem Mv.hidden {p : Addr} {xs : List V} (h : H p = some (.lst xs)) (o : HO) : Mv (io.hide p) H (io.hide p) (upd H p o) := ⟨fun _ _ e => e, fun a u e n => ⟨by rw [upd_ne (show a ≠ p from fun z => n (.inr (by rw [z]; exact List.mem_cons_self)))]; exact e, n⟩,
    fun a u e => by rw [upd_ne (ne_of e h (by intro z; cases z))]; exact e, fun a u w e => by rw [upd_ne (ne_of e h (by intro z; cases z))]; exact e⟩
theorem StOk.hidden {p : Addr} (s : StOk K H (io.hide p) st) {xs ys : List V} (h : H p = some (.lst xs)) : StOk K (upd H p (.lst ys)) (io.hide p) st :=
  ⟨s.len, s.nd, fun n a b e1 e2 => (s.ob n a b e1 e2).mv (Mv.hidden h _) (upd_ne (fun z => (s.hs p List.mem_cons_self).1 (by rw [← z]; exact Io.get_mem e1))), fun a m => by
    obtain ⟨n, u, e, r⟩ := s.hs a m
    refine ⟨n, ?_⟩
    by_cases z : a = p
    · subst z; exact ⟨_, upd_same, (by intro _ z; cases z), (by intro _ _ z; cases z)⟩
    · exact ⟨u, by rw [upd_ne z]; exact e, r⟩⟩
/-- it is hidden no more -/
theorem Mv.show_ {p : Addr} : Mv (io.hide p) H io H := ⟨fun _ _ e => e, fun a u e n => ⟨e, fun m => n (m.elim .inl fun m => .inr (List.mem_cons_of_mem _ m))⟩, fun _ _ e => e, fun _ _ _ e => e⟩
theorem StOk.show_ {p : Addr} (s : StOk K H (io.hide p) st) : StOk K H io st :=
  ⟨s.len, s.nd, fun n a b e1 e2 => (s.ob n a b e1 e2).mv Mv.show_ rfl, fun a m => s.hs a (List.mem_cons_of_mem _ m)⟩
theorem Mv.under {p : Addr} {i0 i1 : Io} {H0 H1 : Hp} (x : Mv i0 H0 i1 H1) (hp : H0 p = none) : Mv i0 H0 (i1.hide p) H1 := ⟨x.at_, fun a o h n => by
    obtain ⟨e, m⟩ := x.lst a o h n
    refine ⟨e, fun z => ?_⟩
    rcases z with z | z
    · exact m (.inl z)
    · rcases List.mem_cons.mp z with z | z
      · exact ne_of_none h hp z
      · exact m (.inr z), x.tups, x.frzs⟩
theorem Ext.poke {p : Addr} {i0 i1 : Io} {H0 H1 : Hp} (x : Ext i0 H0 i1 H1) (hp : H0 p = none) (hi : p ∉ i0) (o : HO) : Ext i0 H0 i1 (upd H1 p o) :=
  ⟨x.more, x.same, fun a u e n => by rw [upd_ne (ne_of_none e hp)]; exact x.keep a u e n, fun a m n => ⟨by rw [upd_ne (show a ≠ p from fun z => hi (by rw [← z]; exact .inr m))]; exact (x.hid a m n).1, (x.hid a m n).2⟩,
    fun a u e => by rw [upd_ne (ne_of_none e hp)]; exact x.tups a u e, fun a u w e => by rw [upd_ne (ne_of_none e hp)]; exact x.frzs a u w e, x.new⟩
/-- the outer heap's course, through a block's step -/
theorem Ext.under {p : Addr} {i0 i1 i2 : Io} {H0 H1 H2 : Hp} (x : Ext i0 H0 i1 H1) (hp : H0 p = none) (hi : p ∉ i0) (y : Ext (i1.hide p) H1 i2 H2) : Ext i0 H0 ⟨i2.l, i1.h⟩ H2 := by
  have out : ∀ a o, H0 a = some o → a ∉ i0 → a ∉ i1.hide p := fun a o h n m => by
    rcases m with m | m
    · exact x.out h n (.inl m)
    · rcases List.mem_cons.mp m with m | m
      · exact ne_of_none h hp m
      · exact x.out h n (.inr m)
  refine ⟨?_, x.same, fun a o h n => y.keep a o (x.keep a o h n) (out a o h n), fun a h n => ?_, fun a xs h => y.tups a xs (x.tups a xs h), fun a o u h => y.frzs a o u (x.frzs a o u h), fun a h3 n => ?_⟩
  · obtain ⟨t1, e1⟩ := x.more
    obtain ⟨t2, e2⟩ := y.more
    exact ⟨t1 ++ t2, by show i2.l = _; rw [e2]; show i1.l ++ t2 = _; rw [e1]; simp⟩
  · have q := x.hid a h n
    have q2 := y.hid a (List.mem_cons_of_mem _ (by rw [x.same]; exact h)) q.2
    exact ⟨q2.1.trans q.1, q2.2⟩
  · by_cases h1 : a ∈ i1
    · exact x.new a h1 n
    · by_cases hap : a = p
      · rw [hap]; exact hp
      · have h2 : a ∈ i2 := by
          rcases h3 with h3 | h3
          · exact .inl h3
          · exact absurd (.inr h3) h1
        have q := y.new a h2 (fun m => by
          rcases m with m | m
          · exact h1 (.inl m)
          · rcases List.mem_cons.mp m with m | m
            · exact hap m
            · exact h1 (.inr m))
        cases e : H0 a with
        | none => rfl
        | some o => rw [x.keep a o e n] at q; cases q
end

/-- the def's names -/
abbrev En := List (Option D)
def EnvR (K : PySem.W.Frag) (H : Hp) (io : Io) (en : En) (σ : St) : Prop := en.length = σ.length ∧ ∀ (i : Nat) (d : D), en[i]? = some (some d) → ∃ v, σ[i]? = some (some v) ∧ Rep K H io d v
theorem EnvR.ext {K : PySem.W.Frag} {H H' : Hp} {io io' : Io} {en : En} {σ : St} (x : Ext io H io' H') (h : EnvR K H io en σ) : EnvR K H' io' en σ :=
  ⟨h.1, fun i d e => let ⟨v, e1, r⟩ := h.2 i d e; ⟨v, e1, Rep.ext x d v r⟩⟩
theorem EnvR.mv {K : PySem.W.Frag} {H H' : Hp} {io io' : Io} {en : En} {σ : St} (x : Mv io H io' H') (h : EnvR K H io en σ) : EnvR K H' io' en σ :=
  ⟨h.1, fun i d e => let ⟨v, e1, r⟩ := h.2 i d e; ⟨v, e1, Rep.mv x d v r⟩⟩
theorem EnvR.set {K : PySem.W.Frag} {H : Hp} {io : Io} {en : En} {σ : St} (h : EnvR K H io en σ) {i : Nat} {d : D} {v : V} (r : Rep K H io d v) : EnvR K H io (en.set i (some d)) (σ.set i (some v)) := by
  refine ⟨by simp [h.1], fun j e q => ?_⟩
  by_cases hj : j = i
  · subst hj
    by_cases hl : j < en.length
    · rw [List.getElem?_set_self hl] at q; cases q
      exact ⟨v, List.getElem?_set_self (by rw [← h.1]; exact hl), r⟩
    · rw [List.getElem?_eq_none (by simpa using hl)] at q; cases q
  · rw [List.getElem?_set_ne (Ne.symm hj)] at q
    rw [List.getElem?_set_ne (Ne.symm hj)]
    exact h.2 j e q
theorem EnvR.clear {K : PySem.W.Frag} {H : Hp} {io : Io} {en : En} {σ : St} (h : EnvR K H io en σ) (i : Nat) : EnvR K H io (en.set i none) (σ.set i none) := by
  refine ⟨by simp [h.1], fun j e q => ?_⟩
  by_cases hj : j = i
  · subst hj
    by_cases hl : j < en.length
    · rw [List.getElem?_set_self hl] at q; cases q
    · rw [List.getElem?_eq_none (by simpa using hl)] at q; cases q
  · rw [List.getElem?_set_ne (Ne.symm hj)] at q
    rw [List.getElem?_set_ne (Ne.symm hj)]
    exact h.2 j e q
def wipeE (en : En) : List Nat → En
  | [] => en
  | v :: vs => (wipeE en vs).set v none
theorem EnvR.wipe {K : PySem.W.Frag} {H : Hp} {io : Io} {en : En} {σ : St} (h : EnvR K H io en σ) : ∀ vs : List Nat, EnvR K H io (wipeE en vs) (L2.wipe σ vs)
  | [] => h
  | v :: vs => (EnvR.wipe h vs).clear v
theorem EnvR.start {K : PySem.W.Frag} {H : Hp} {io : Io} {ds : List D} {vs : List V} (r : RepL K H io ds vs) (N : List Str) : EnvR K H io (ds.map some ++ List.replicate (N.length - ds.length) none) (L2.start N vs) := by
  unfold L2.start
  refine ⟨by simp [r.len], fun i d e => ?_⟩
  by_cases hi : i < ds.length
  · rw [List.getElem?_append_left (by simpa using hi), List.getElem?_map] at e
    have e' : ds[i]? = some d := by
      cases q : ds[i]? with
      | none => rw [q] at e; cases e
      | some z => rw [q] at e; cases e; rfl
    obtain ⟨v, h1, h2⟩ := r.at e'
    exact ⟨v, by rw [List.getElem?_append_left (by simpa using (List.getElem?_eq_some_iff.mp h1).1), List.getElem?_map, h1]; rfl, h2⟩
  · rw [List.getElem?_append_right (by simpa using hi), List.getElem?_replicate] at e
    split at e <;> cases e

/-- an exception -/
def ExAt (K : PySem.W.Frag) (H : Hp) (io : Io) (x : Ex) (c : Value) (dx : Option Addr) : Prop := c = .ref (He.ga K x.cls) ∧
  ((x.fs = [] ∧ x.vs = [] ∧ dx = none) ∨ ∃ (d : Addr) (xs : List V), dx = some d ∧ H d = some (.xd (x.fs.zip xs)) ∧ d ∉ io ∧ x.fs.length = xs.length ∧ RepL K H io x.vs xs)
theorem ExAt.ext {K : PySem.W.Frag} {H H' : Hp} {io io' : Io} {y : Ex} {c : Value} {dx : Option Addr} (x : Ext io H io' H') (h : ExAt K H io y c dx) : ExAt K H' io' y c dx := by
  obtain ⟨h1, h2⟩ := h
  refine ⟨h1, h2.imp id ?_⟩
  rintro ⟨d, xs, e, q, n, l, r⟩
  exact ⟨d, xs, e, x.keep _ _ q n, x.out q n, l, RepL.ext x _ _ r⟩

/-- what is wanted behind a run -/
def Post (K : PySem.W.Frag) (io : Io) (H : Hp) (W : XK) {α β : Type} (Rp : Hp → Io → α → β → Prop) (r : R α) (Q : β → Hp → Prop) : Prop :=
  match r with
  | .ok d st' => ∀ (v : β) (io' : Io) (H' : Hp), Ext io H io' H' → StOk K H' io' st' → Rp H' io' d v → Q v H'
  | .exc x st' => ∀ (c : Value) (dx : Option Addr) (io' : Io) (H' : Hp), Ext io H io' H' → StOk K H' io' st' → ExAt K H' io' x c dx → W c dx H'
  | .bad => False
abbrev RpD (K : PySem.W.Frag) : Hp → Io → D → V → Prop := fun H io d v => Rep K H io d v
abbrev RpL (K : PySem.W.Frag) : Hp → Io → List D → List V → Prop := fun H io d v => RepL K H io d v
abbrev RpB : Hp → Io → Bool → Bool → Prop := fun _ _ d v => d = v
theorem Post.bind {K : PySem.W.Frag} {io : Io} {H : Hp} {W : XK} {α β α' β' : Type} {Rp : Hp → Io → α → β → Prop} {Rp' : Hp → Io → α' → β' → Prop} {r : R α} {f : α → Sto → R α'} {Q : β' → Hp → Prop}
    (h : Post K io H W Rp' (r.bind f) Q) : Post K io H W Rp r fun v H1 => ∃ d io1 st1, Ext io H io1 H1 ∧ StOk K H1 io1 st1 ∧ Rp H1 io1 d v ∧ Post K io1 H1 W Rp' (f d st1) Q := by
  cases r with
  | ok d st' =>
    intro v io' H' x s rp
    refine ⟨d, io', st', x, s, rp, ?_⟩
    have h' : Post K io H W Rp' (f d st') Q := h
    cases e : f d st' with
    | ok a st2 => rw [e] at h'; exact fun v2 io2 H2 x2 s2 r2 => h' v2 io2 H2 (x.trans x2) s2 r2
    | exc y st2 => rw [e] at h'; exact fun c dx io2 H2 x2 s2 r2 => h' c dx io2 H2 (x.trans x2) s2 r2
    | bad => rw [e] at h'; exact h'
  | exc y st' => exact h
  | bad => exact h
theorem Post.mono {K : PySem.W.Frag} {io : Io} {H : Hp} {W : XK} {α β : Type} {Rp : Hp → Io → α → β → Prop} {r : R α} {Q Q' : β → Hp → Prop} (h : Post K io H W Rp r Q)
    (hq : ∀ v H', Q v H' → Q' v H') : Post K io H W Rp r Q' := by
  cases r with
  | ok d st' => exact fun v io' H' x s rp => hq _ _ (h v io' H' x s rp)
  | exc y st' => exact h
  | bad => exact h
theorem Post.more {K : PySem.W.Frag} {io io' : Io} {H H' : Hp} {W : XK} {α β : Type} {Rp : Hp → Io → α → β → Prop} {r : R α} {Q : β → Hp → Prop} (x : Ext io H io' H') (h : Post K io H W Rp r Q) : Post K io' H' W Rp r Q := by
  cases r with
  | ok d st' => exact fun v i2 H2 x2 s rp => h v i2 H2 (x.trans x2) s rp
  | exc y st' => exact fun c dx i2 H2 x2 s rp => h c dx i2 H2 (x.trans x2) s rp
  | bad => exact h

/-- the readings -/
def tE (K : PySem.W.Frag) (W : WX) (m : En → Sto → R D) : TE := fun σ H Q => ∃ en st io, EnvR K H io en σ ∧ StOk K H io st ∧ Post K io H (fun c d H' => W c d σ H') (RpD K) (m en st) Q
def tT (K : PySem.W.Frag) (W : WX) (m : En → Sto → R Bool) : TT := fun σ H Q => ∃ en st io, EnvR K H io en σ ∧ StOk K H io st ∧ Post K io H (fun c d H' => W c d σ H') RpB (m en st) Q
def tA (K : PySem.W.Frag) (W : WX) (m : En → Sto → R (List D)) : TA := fun σ H Q => ∃ en st io, EnvR K H io en σ ∧ StOk K H io st ∧ Post K io H (fun c d H' => W c d σ H') (RpL K) (m en st) Q
end Mi

set_option maxRecDepth 100000
set_option maxHeartbeats 4000000
namespace Mi
open PySem PySem.Spec L2

/-! ### == -/
def deqL (f : D → D → Option Bool) : List D → List D → Option Bool
  | [], [] => some true
  | [], _ :: _ => some false
  | _ :: _, [] => some false
  | a :: as, b :: bs => match f a b, deqL f as bs with
    | some x, some y => some (x && y)
    | _, _ => none
def kd : D → Nat
  | .non => 0 | .bl _ => 1 | .int _ => 2 | .str _ => 3 | .tup _ => 4 | .lst _ => 5 | .fro _ => 5
  | .dct _ _ => 9 | .loc _ => 9 | .glo _ => 9 | .ty _ => 9
def deq : Nat → D → D → Option Bool
  | _, .non, .non => some true
  | _, .bl a, .bl b => some (a == b)
  | _, .int a, .int b => some (a == b)
  | _, .str a, .str b => some (a == b)
  | _, .bl a, .int b => some ((if a then 1 else 0) == b)
  | _, .int a, .bl b => some (a == (if b then 1 else 0))
  | n + 1, .tup a, .tup b => deqL (deq n) a b
  | n + 1, .lst a, .lst b => deqL (deq n) a b
  | n + 1, .lst a, .fro b => deqL (deq n) a b
  | n + 1, .fro a, .lst b => deqL (deq n) a b
  | n + 1, .fro a, .fro b => deqL (deq n) a b
  | _, d, e => if kd d < 9 ∧ kd e < 9 ∧ kd d ≠ kd e then some false else none


theorem deqL_at {f : D → D → Option Bool} : ∀ {ds es : List D} {b : Bool}, deqL f ds es = some b → ∀ (j : Nat) (d e : D), ds[j]? = some d → es[j]? = some e → ∃ x, f d e = some x
  | [], _, _, _, j, _, _, h1, _ => by simp at h1
  | _ :: _, [], _, _, j, _, _, _, h2 => by simp at h2
  | a :: as, c :: cs, b, h, j, d, e, h1, h2 => by
    unfold deqL at h
    cases q1 : f a c with
    | none => rw [q1] at h; cases h
    | some x =>
      cases q2 : deqL f as cs with
      | none => rw [q1, q2] at h; cases h
      | some y =>
        cases j with
        | zero => simp at h1 h2; subst h1 h2; exact ⟨x, q1⟩
        | succ j => exact deqL_at q2 j d e (by simpa using h1) (by simpa using h2)
/-- the answer at a place -/
def eAt (f : D → D → Option Bool) (ds es : List D) (j : Nat) : Bool := match ds[j]?, es[j]? with
  | some d, some e => (f d e).getD false
  | _, _ => false
theorem deqL_all {f : D → D → Option Bool} : ∀ {ds es : List D} {b : Bool}, deqL f ds es = some b → b = ((List.range (min ds.length es.length)).all (eAt f ds es) && ds.length == es.length)
  | [], [], _, h => by cases h; simp
  | [], _ :: _, _, h => by cases h; simp
  | _ :: _, [], _, h => by cases h; simp
  | a :: as, c :: cs, b, h => by
    unfold deqL at h
    cases q1 : f a c with
    | none => rw [q1] at h; cases h
    | some x =>
      cases q2 : deqL f as cs with
      | none => rw [q1, q2] at h; cases h
      | some y =>
        rw [q1, q2] at h
        have h' : (x && y) = b := Option.some.inj h
        have e2 := deqL_all q2
        have e1 : min (a :: as).length (c :: cs).length = min as.length cs.length + 1 := by simp only [List.length_cons]; omega
        rw [e1, List.range_succ_eq_map, List.all_cons, List.all_map]
        have e3 : eAt f (a :: as) (c :: cs) 0 = x := by simp [eAt, q1]
        have e4 : (eAt f (a :: as) (c :: cs)) ∘ Nat.succ = eAt f as cs := by funext j; simp [eAt]
        have e5 : ((a :: as).length == (c :: cs).length) = (as.length == cs.length) := by simp
        rw [e3, e4, e5, ← h', e2, Bool.and_assoc]
section
variable {X : Cx} {pins : List (Addr × Obj)} {σ : St} {H : Hp} {s : Shared} {io : Io}
theorem lst_sql {K : PySem.W.Frag} {a : Addr} {xs : List V} (h : LstAt H io a xs) : SqL K H a xs := .inl (.inl h.1)
theorem no_both (I : Inv X pins σ H s) {a : Addr} {xs ys : List V} (h : SqT X.K H a xs) (g : SqL X.K H a ys) : False := by
  obtain ⟨_, _, ⟨o, e, c, _⟩, _⟩ := I.tuple h
  obtain ⟨_, _, ⟨o', n, e', c', _⟩, _⟩ := I.list g
  rw [e] at e'; cases e'
  rw [c] at c'
  simp at c'
/-- a sequence: its kind, its items -/
inductive IsSq (K : PySem.W.Frag) (H : Hp) (io : Io) : D → Bool → List D → V → Prop
  | tup {ds : List D} {a : Addr} {xs : List V} : SqT K H a xs → RepL K H io ds xs → IsSq K H io (.tup ds) true ds (.ref a)
  | lst {ds : List D} {a : Addr} {xs : List V} : SqL K H a xs → RepL K H io ds xs → IsSq K H io (.lst ds) false ds (.ref a)
  | fro {ds : List D} {a : Addr} {xs : List V} : SqL K H a xs → RepL K H io ds xs → IsSq K H io (.fro ds) false ds (.ref a)
inductive Sc : D → V → Prop
  | non : Sc .non .non
  | bl (b : Bool) : Sc (.bl b) (.bl b)
  | int (i : Int) : Sc (.int i) (.int i)
  | str (x : List Nat) : Sc (.str x) (.str ⟨x.toArray⟩)
theorem Rep.split {K : PySem.W.Frag} {d : D} {v : V} (h : Rep K H io d v) (hk : kd d < 9) : Sc d v ∨ ∃ t ds, IsSq K H io d t ds v := by
  cases d with
  | non => cases h; exact .inl .non
  | bl b => cases h; exact .inl (.bl b)
  | int b => cases h; exact .inl (.int b)
  | str b => cases h; exact .inl (.str b)
  | tup ds => obtain ⟨a, xs, rfl, p, r⟩ := h; exact .inr ⟨_, _, .tup p r⟩
  | lst ds => obtain ⟨a, xs, rfl, p, r⟩ := h; exact .inr ⟨_, _, .lst (lst_sql p) r⟩
  | fro ds => obtain ⟨a, xs, rfl, p, r⟩ := h; exact .inr ⟨_, _, .fro p.sql r⟩
  | dct _ _ => exact absurd hk (by simp [kd])
  | loc _ => exact absurd hk (by simp [kd])
  | glo _ => exact absurd hk (by simp [kd])
  | ty _ => exact absurd hk (by simp [kd])
theorem IsSq.addr {K : PySem.W.Frag} {d : D} {t : Bool} {ds : List D} {v : V} (h : IsSq K H io d t ds v) : ∃ a xs, v = .ref a ∧ RepL K H io ds xs ∧ ((t = true ∧ SqT K H a xs) ∨ (t = false ∧ SqL K H a xs)) := by
  cases h with
  | tup p r => exact ⟨_, _, rfl, r, .inl ⟨rfl, p⟩⟩
  | lst p r => exact ⟨_, _, rfl, r, .inr ⟨rfl, p⟩⟩
  | fro p r => exact ⟨_, _, rfl, r, .inr ⟨rfl, p⟩⟩
theorem IsSq.same (I : Inv X pins σ H s) {d e : D} {t u : Bool} {ds es : List D} {v : V} (h : IsSq X.K H io d t ds v) (g : IsSq X.K H io e u es v) : t = u ∧ ∃ xs, RepL X.K H io ds xs ∧ RepL X.K H io es xs := by
  obtain ⟨a, xs, rfl, r, p⟩ := h.addr
  obtain ⟨a', ys, e, r', q⟩ := g.addr
  cases e
  rcases p with ⟨rfl, p⟩ | ⟨rfl, p⟩ <;> rcases q with ⟨rfl, q⟩ | ⟨rfl, q⟩
  · have z := I.tuple_inj p q
    subst z
    exact ⟨rfl, xs, r, r'⟩
  · exact (no_both I p q).elim
  · exact (no_both I q p).elim
  · have z := I.list_inj p q
    subst z
    exact ⟨rfl, xs, r, r'⟩
theorem deq_kd {n : Nat} {d e : D} {b : Bool} (h : deq n d e = some b) : kd d < 9 ∧ kd e < 9 := by
  cases d <;> cases e <;> cases n <;> simp [deq, kd] at h ⊢
/-- of two sequences -/
theorem deq_sq {K : PySem.W.Frag} {n : Nat} {d e : D} {b : Bool} {t u : Bool} {ds es : List D} {v w : V} (h : deq n d e = some b) (h1 : IsSq K H io d t ds v) (h2 : IsSq K H io e u es w) :
    (t ≠ u ∧ b = false) ∨ (t = u ∧ ∃ m, n = m + 1 ∧ deqL (deq m) ds es = some b) := by
  cases n with
  | zero => cases h1 <;> cases h2 <;> simp [deq, kd] at h <;> simp [h]
  | succ m => cases h1 <;> cases h2 <;> simp [deq, kd] at h <;> simp [h]
theorem deq_sc_sq {K : PySem.W.Frag} {n : Nat} {d e : D} {b : Bool} {u : Bool} {es : List D} {v w : V} (h : deq n d e = some b) (h1 : Sc d v) (h2 : IsSq K H io e u es w) : b = false := by
  cases h1 <;> cases h2 <;> cases n <;> simp [deq, kd] at h <;> exact h
theorem deq_sq_sc {K : PySem.W.Frag} {n : Nat} {d e : D} {b : Bool} {u : Bool} {es : List D} {v w : V} (h : deq n d e = some b) (h1 : IsSq K H io d u es w) (h2 : Sc e v) : b = false := by
  cases h1 <;> cases h2 <;> cases n <;> simp [deq, kd] at h <;> exact h
/-- the one value bears both: they are equal -/
theorem deq_same (I : Inv X pins σ H s) : ∀ (n : Nat) (d e : D) (b : Bool) (v : V), deq n d e = some b → Rep X.K H io d v → Rep X.K H io e v → b = true := by
  intro n
  induction n using Nat.strongRecOn with
  | _ n ih =>
    have sq : ∀ (m : Nat), m < n → ∀ (ds es : List D) (xs : List V) (b : Bool), deqL (deq m) ds es = some b → RepL X.K H io ds xs → RepL X.K H io es xs → b = true := by
      intro m hm ds
      induction ds with
      | nil =>
        intro es xs b h r1 r2
        cases r1
        cases es with
        | nil => cases h; rfl
        | cons e es => obtain ⟨_, _, z, _⟩ := r2; cases z
      | cons d ds ihd =>
        intro es xs b h r1 r2
        obtain ⟨x, xr, rfl, p1, p2⟩ := r1
        cases es with
        | nil => cases r2
        | cons e es =>
          obtain ⟨_, _, z, q1, q2⟩ := r2
          cases z
          unfold deqL at h
          cases k1 : deq m d e with
          | none => rw [k1] at h; cases h
          | some x1 =>
            cases k2 : deqL (deq m) ds es with
            | none => rw [k1, k2] at h; cases h
            | some y1 =>
              rw [k1, k2] at h
              rw [ih m hm d e x1 _ k1 p1 q1, ihd es _ y1 k2 p2 q2] at h
              cases h; rfl
    intro d e b v h r1 r2
    obtain ⟨k1, k2⟩ := deq_kd h
    rcases r1.split k1 with s1 | ⟨t, ds, s1⟩ <;> rcases r2.split k2 with s2 | ⟨u, es, s2⟩
    · cases s1 <;> cases s2 <;> cases n <;> simp [deq] at h <;> exact h
    · cases s1 <;> cases s2
    · cases s1 <;> cases s2
    · obtain ⟨e1, xs, p1, p2⟩ := s1.same I s2
      rcases deq_sq h s1 s2 with ⟨ne, _⟩ | ⟨_, m, rfl, hl⟩
      · exact absurd e1 ne
      · exact sq m (Nat.lt_succ_self m) ds es xs b hl p1 p2

abbrev EqAll (A : Around) (s : Shared) (u1 u2 : Value) (b : Bool) : Prop := SeqAt.RcAt A s u1 u2 b ∧ SeqAt.RcNeAt A s u1 u2 (!b) ∧ SeqAt.EqAt A s u1 u2 b
open SeqAt in
theorem eq_sc {A : Around} {n : Nat} {d e : D} {b : Bool} {v w : V} {u1 u2 : Value} (h : deq n d e = some b) (h1 : Sc d v) (h2 : Sc e w) (r1 : RelV v u1) (r2 : RelV w u2) : EqAll A s u1 u2 b := by
  cases h1 with
  | non =>
    cases r1
    cases h2 with
    | non => cases r2; cases n <;> (simp only [deq, Option.some.injEq] at h; subst h; exact ⟨.none_none, .none_none, .same _⟩)
    | bl c => cases r2; cases n <;> (simp [deq, kd] at h; subst h; exact ⟨.none_bool _, .none_bool _, .none_bool _⟩)
    | int c => obtain ⟨t, rfl⟩ := r2; cases n <;> (simp [deq, kd] at h; subst h; exact ⟨.none_int _ _, .none_int _ _, .none_int _ _⟩)
    | str c => obtain ⟨t, rfl⟩ := r2; cases n <;> (simp [deq, kd] at h; subst h; exact ⟨.none_str _ _, .none_str _ _, .none_str _ _⟩)
  | bl a =>
    cases r1
    cases h2 with
    | non => cases r2; cases n <;> (simp [deq, kd] at h; subst h; exact ⟨.bool_none _, .bool_none _, .bool_none _⟩)
    | bl c => cases r2; cases n <;> (simp only [deq, Option.some.injEq] at h; subst h; exact ⟨.bool_bool _ _, .bool_bool _ _, .bool_bool _ _⟩)
    | int c => obtain ⟨t, rfl⟩ := r2; cases n <;> (simp only [deq, Option.some.injEq] at h; subst h; exact ⟨.bool_int _ _ _, .bool_int _ _ _, .bool_int _ _ _⟩)
    | str c => obtain ⟨t, rfl⟩ := r2; cases n <;> (simp [deq, kd] at h; subst h; exact ⟨.bool_str _ _ _, .bool_str _ _ _, .bool_str _ _ _⟩)
  | int a =>
    obtain ⟨t1, rfl⟩ := r1
    cases h2 with
    | non => cases r2; cases n <;> (simp [deq, kd] at h; subst h; exact ⟨.int_none _ _, .int_none _ _, .int_none _ _⟩)
    | bl c => cases r2; cases n <;> (simp only [deq, Option.some.injEq] at h; subst h; exact ⟨.int_bool _ _ _, .int_bool _ _ _, .int_bool _ _ _⟩)
    | int c => obtain ⟨t, rfl⟩ := r2; cases n <;> (simp only [deq, Option.some.injEq] at h; subst h; exact ⟨.int_int _ _ _ _, .int_int _ _ _ _, .int_int _ _ _ _⟩)
    | str c => obtain ⟨t, rfl⟩ := r2; cases n <;> (simp [deq, kd] at h; subst h; exact ⟨.int_str _ _ _ _, .int_str _ _ _ _, .int_str _ _ _ _⟩)
  | str a =>
    obtain ⟨t1, rfl⟩ := r1
    cases h2 with
    | non => cases r2; cases n <;> (simp [deq, kd] at h; subst h; exact ⟨.str_none _ _, .str_none _ _, .str_none _ _⟩)
    | bl c => cases r2; cases n <;> (simp [deq, kd] at h; subst h; exact ⟨.str_bool _ _ _, .str_bool _ _ _, .str_bool _ _ _⟩)
    | int c => obtain ⟨t, rfl⟩ := r2; cases n <;> (simp [deq, kd] at h; subst h; exact ⟨.str_int _ _ _ _, .str_int _ _ _ _, .str_int _ _ _ _⟩)
    | str c =>
      obtain ⟨t, rfl⟩ := r2
      have e : b = ((⟨a.toArray⟩ : Str) == ⟨c.toArray⟩) := by
        have h' : (a == c) = b := by cases n <;> (simp only [deq, Option.some.injEq] at h; exact h)
        rw [← h', Bool.eq_iff_iff, beq_iff_eq, beq_iff_eq]
        exact ⟨fun z => by rw [z], fun z => by simpa using congrArg (fun q : Str => q.cps.toList) z⟩
      subst e
      exact ⟨.str_str _ _ _ _, .str_str _ _ _ _, .str_str _ _ _ _⟩
open SeqAt in
theorem eq_sq_sc (I : Inv X pins σ H s) {A : Around} {d e : D} {t : Bool} {ds : List D} {v w : V} {u1 u2 : Value} (h1 : IsSq X.K H io d t ds v) (h2 : Sc e w) (r1 : RelV v u1) (r2 : RelV w u2) (hu : A.units < cLine) : EqAll A s u1 u2 false ∧ EqAll A s u2 u1 false := by
  obtain ⟨a, xs, rfl, _, p⟩ := h1.addr
  cases r1
  rcases p with ⟨rfl, p⟩ | ⟨rfl, p⟩
  · obtain ⟨its, _, q, _⟩ := I.tuple p
    have q : s.heap.IsTuple a its.toArray := q
    cases h2 with
    | non => cases r2; exact ⟨⟨.tuple_none q hu, .tuple_none q hu, .tuple_none q hu⟩, ⟨.none_tuple q hu, .none_tuple q hu, .none_tuple q hu⟩⟩
    | bl c => cases r2; exact ⟨⟨.tuple_bool _ q hu, .tuple_bool _ q hu, .tuple_bool _ q hu⟩, ⟨.bool_tuple _ q hu, .bool_tuple _ q hu, .bool_tuple _ q hu⟩⟩
    | int c => obtain ⟨t, rfl⟩ := r2; exact ⟨⟨.tuple_int _ _ q hu, .tuple_int _ _ q hu, .tuple_int _ _ q hu⟩, ⟨.int_tuple _ _ q hu, .int_tuple _ _ q hu, .int_tuple _ _ q hu⟩⟩
    | str c => obtain ⟨t, rfl⟩ := r2; exact ⟨⟨.tuple_str _ _ q hu, .tuple_str _ _ q hu, .tuple_str _ _ q hu⟩, ⟨.str_tuple _ _ q hu, .str_tuple _ _ q hu, .str_tuple _ _ q hu⟩⟩
  · obtain ⟨its, _, ⟨o, n, e1, e2, _, e3⟩, _⟩ := I.list p
    have q : s.heap.IsList a its.toArray := ⟨o, e1, e2, n, e3⟩
    cases h2 with
    | non => cases r2; exact ⟨⟨.list_none q hu, .list_none q hu, .list_none q hu⟩, ⟨.none_list q hu, .none_list q hu, .none_list q hu⟩⟩
    | bl c => cases r2; exact ⟨⟨.list_bool _ q hu, .list_bool _ q hu, .list_bool _ q hu⟩, ⟨.bool_list _ q hu, .bool_list _ q hu, .bool_list _ q hu⟩⟩
    | int c => obtain ⟨t, rfl⟩ := r2; exact ⟨⟨.list_int _ _ q hu, .list_int _ _ q hu, .list_int _ _ q hu⟩, ⟨.int_list _ _ q hu, .int_list _ _ q hu, .int_list _ _ q hu⟩⟩
    | str c => obtain ⟨t, rfl⟩ := r2; exact ⟨⟨.list_str _ _ q hu, .list_str _ _ q hu, .list_str _ _ q hu⟩, ⟨.str_list _ _ q hu, .str_list _ _ q hu, .str_list _ _ q hu⟩⟩
open SeqAt in
theorem deq_ok (I : Inv X pins σ H s) : ∀ (n : Nat) (d e : D) (b : Bool) (v w : V) (u1 u2 : Value), deq n d e = some b → Rep X.K H io d v → Rep X.K H io e w → RelV v u1 → RelV w u2 → ∀ A : Around, A.units + n < cLine → EqAll A s u1 u2 b := by
  intro n
  induction n using Nat.strongRecOn with
  | _ n ih =>
    intro d e b v w u1 u2 h p1 p2 r1 r2 A hu
    have hu0 : A.units < cLine := by omega
    obtain ⟨k1, k2⟩ := deq_kd h
    rcases p1.split k1 with s1 | ⟨t, ds, s1⟩ <;> rcases p2.split k2 with s2 | ⟨u, es, s2⟩
    · exact eq_sc h s1 s2 r1 r2
    · have e := deq_sc_sq h s1 s2
      subst e
      exact (eq_sq_sc I s2 s1 r2 r1 hu0).2
    · have e := deq_sq_sc h s1 s2
      subst e
      exact (eq_sq_sc I s1 s2 r1 r2 hu0).1
    · have same := deq_same (io := io) I n d e b
      rcases deq_sq h s1 s2 with ⟨ne, rfl⟩ | ⟨e1, m, rfl, hl⟩
      · obtain ⟨a, xs, rfl, x1, q1⟩ := s1.addr
        obtain ⟨a', ys, rfl, x2, q2⟩ := s2.addr
        cases r1; cases r2
        rcases q1 with ⟨rfl, q1⟩ | ⟨rfl, q1⟩ <;> rcases q2 with ⟨rfl, q2⟩ | ⟨rfl, q2⟩
        · exact absurd rfl ne
        · obtain ⟨its, _, t1, _⟩ := I.tuple q1
          obtain ⟨its2, _, ⟨o, k, g1, g2, _, g3⟩, _⟩ := I.list q2
          have t1 : s.heap.IsTuple a its.toArray := t1
          have t2 : s.heap.IsList a' its2.toArray := ⟨o, g1, g2, k, g3⟩
          exact ⟨.tuple_list t1 t2 hu0, .tuple_list t1 t2 hu0, .tuple_list t1 t2 hu0⟩
        · obtain ⟨its, _, t1, _⟩ := I.tuple q2
          obtain ⟨its2, _, ⟨o, k, g1, g2, _, g3⟩, _⟩ := I.list q1
          have t1 : s.heap.IsTuple a' its.toArray := t1
          have t2 : s.heap.IsList a its2.toArray := ⟨o, g1, g2, k, g3⟩
          exact ⟨.list_tuple t2 t1 hu0, .list_tuple t2 t1 hu0, .list_tuple t2 t1 hu0⟩
        · exact absurd rfl ne
      · have hall := deqL_all hl
        have hat := deqL_at hl
        obtain ⟨a, xs, rfl, x1, q1⟩ := s1.addr
        obtain ⟨a', ys, rfl, x2, q2⟩ := s2.addr
        cases r1; cases r2
        subst e1
        -- the items' answers
        have items : ∀ (its its2 : List Value), Vals xs its → Vals ys its2 → ∀ j (h1 : j < its.toArray.size) (h2 : j < its2.toArray.size), EqAt A.in1 s its.toArray[j] its2.toArray[j] (eAt (deq m) ds es j) := by
          intro its its2 v1 v2 j h1 h2
          have g1 : j < its.length := by simpa using h1
          have g2 : j < its2.length := by simpa using h2
          have c1 : j < xs.length := by rw [v1.length]; exact g1
          have c2 : j < ys.length := by rw [v2.length]; exact g2
          obtain ⟨d', e1', w1⟩ := x1.get (i := j) (v := xs[j]) (by simp [c1])
          obtain ⟨d2', e2', w2⟩ := x2.get (i := j) (v := ys[j]) (by simp [c2])
          obtain ⟨u1', f1, y1⟩ := v1.get (i := j) (x := xs[j]) (by simp [c1])
          obtain ⟨u2', f2, y2⟩ := v2.get (i := j) (x := ys[j]) (by simp [c2])
          obtain ⟨b', hb⟩ := hat j d' d2' e1' e2'
          have z := (ih m (Nat.lt_succ_self m) d' d2' b' _ _ u1' u2' hb w1 w2 y1 y2 A.in1 (by show A.units + 1 + m < cLine; omega)).2.2
          have z1 : its.toArray[j] = u1' := by
            rw [List.getElem?_eq_getElem g1] at f1
            simpa using Option.some.inj f1
          have z2 : its2.toArray[j] = u2' := by
            rw [List.getElem?_eq_getElem g2] at f2
            simpa using Option.some.inj f2
          have z3 : eAt (deq m) ds es j = b' := by simp [eAt, e1', e2', hb]
          rw [z1, z2, z3]
          exact z
        have l1 := x1.len
        have l2 := x2.len
        have fin : ∀ {c : Bool}, RcAt A s (.ref a) (.ref a') c → RcNeAt A s (.ref a) (.ref a') (!c) → c = b → EqAll A s (.ref a) (.ref a') b := by
          rintro c g1 g2 rfl
          refine ⟨g1, g2, ?_⟩
          by_cases ha : a = a'
          · subst ha
            rw [same _ h p1 p2]
            exact .same _
          · exact .of_refs ha g1
        rcases q1 with ⟨rfl, q1⟩ | ⟨rfl, q1⟩ <;> rcases q2 with ⟨e2, q2⟩ | ⟨e2, q2⟩ <;> (try cases e2)
        · obtain ⟨its, v1, t1, _⟩ := I.tuple q1
          obtain ⟨its2, v2, t2, _⟩ := I.tuple q2
          have t1 : s.heap.IsTuple a its.toArray := t1
          have t2 : s.heap.IsTuple a' its2.toArray := t2
          have m1 := v1.length
          have m2 := v2.length
          refine fin (RcAt.tuples (e := eAt (deq m) ds es) t1 t2 hu0 (items its its2 v1 v2)) (RcNeAt.tuples t1 t2 hu0 (items its its2 v1 v2)) ?_
          rw [hall, l1, l2, m1, m2]
          simp
        · obtain ⟨its, v1, ⟨o, k, g1, g2, _, g3⟩, _⟩ := I.list q1
          obtain ⟨its2, v2, ⟨o', k', g1', g2', _, g3'⟩, _⟩ := I.list q2
          have t1 : s.heap.IsList a its.toArray := ⟨o, g1, g2, k, g3⟩
          have t2 : s.heap.IsList a' its2.toArray := ⟨o', g1', g2', k', g3'⟩
          have m1 := v1.length
          have m2 := v2.length
          by_cases hz : its.length = its2.length
          · refine fin (RcAt.lists (e := eAt (deq m) ds es) t1 t2 (by simpa using hz) hu0 (items its its2 v1 v2)) (RcNeAt.lists t1 t2 (by simpa using hz) hu0 (items its its2 v1 v2)) ?_
            rw [hall, l1, l2, m1, m2, hz]
            simp [hz]
          · refine fin (c := false) (RcAt.lists_lengths t1 t2 (by simpa using hz) hu0) (RcNeAt.lists_lengths t1 t2 (by simpa using hz) hu0) ?_
            rw [hall, l1, l2, m1, m2]
            simp [hz]
end
end Mi

set_option maxRecDepth 100000
set_option maxHeartbeats 4000000
namespace Mi
open PySem PySem.Spec L2

abbrev XF : XK := fun _ _ _ => False
/-- the rules' wants, from what the small language answers -/
def r1 (K : PySem.W.Frag) (f : D → Sto → R D) : V → Hp → VK → Prop := fun x H Q => ∃ d st io, StOk K H io st ∧ Rep K H io d x ∧ Post K io H XF (RpD K) (f d st) Q
def r2 (K : PySem.W.Frag) (f : D → D → Sto → R D) : R2 := fun x y H Q => ∃ d e st io, StOk K H io st ∧ Rep K H io d x ∧ Rep K H io e y ∧ Post K io H XF (RpD K) (f d e st) Q
def rN (K : PySem.W.Frag) (f : List D → Sto → R D) : List V → Hp → VK → Prop := fun xs H Q => ∃ ds st io, StOk K H io st ∧ RepL K H io ds xs ∧ Post K io H XF (RpD K) (f ds st) Q
def rM (K : PySem.W.Frag) (f : D → List D → Sto → R D) : V → List V → Hp → VK → Prop := fun x xs H Q => ∃ d ds st io, StOk K H io st ∧ Rep K H io d x ∧ RepL K H io ds xs ∧ Post K io H XF (RpD K) (f d ds st) Q

section
variable {K : PySem.W.Frag} {io : Io} {H : Hp} {W : XK} {st : Sto} {Q : VK}
theorem Post.val {d : D} {v : V} (p : Post K io H W (RpD K) (.ok d st) Q) (s : StOk K H io st) (r : Rep K H io d v) : Q v H := p v io H (Ext.refl io H) s r
theorem Post.int {i : Int} (p : Post K io H W (RpD K) (.ok (.int i) st) Q) (s : StOk K H io st) : Q (.int i) H := p.val s rfl
theorem Post.bl {i : Bool} (p : Post K io H W (RpD K) (.ok (.bl i) st) Q) (s : StOk K H io st) : Q (.bl i) H := p.val s rfl
theorem Post.str {i : List Nat} (p : Post K io H W (RpD K) (.ok (.str i) st) Q) (s : StOk K H io st) : Q (.str ⟨i.toArray⟩) H := p.val s rfl
theorem Post.non (p : Post K io H W (RpD K) (.ok .non st) Q) (s : StOk K H io st) : Q .non H := p.val s rfl
theorem Post.newT {ds : List D} {xs : List V} (p : Post K io H W (RpD K) (.ok (.tup ds) st) Q) (s : StOk K H io st) (r : RepL K H io ds xs) (q : Addr) (n : H q = none) : Q (.ref q) (upd H q (.tup xs)) :=
  p _ io _ (Ext.fresh s n _) (s.fresh n _) ⟨q, xs, rfl, .of upd_same, RepL.ext (Ext.fresh s n _) _ _ r⟩
theorem Post.newL {ds : List D} {xs : List V} (p : Post K io H W (RpD K) (.ok (.lst ds) st) Q) (s : StOk K H io st) (r : RepL K H io ds xs) (q : Addr) (n : H q = none) : Q (.ref q) (upd H q (.lst xs)) :=
  p _ io _ (Ext.fresh s n _) (s.fresh n _) ⟨q, xs, rfl, ⟨upd_same, s.free n⟩, RepL.ext (Ext.fresh s n _) _ _ r⟩
/-- a new list of the store -/
theorem Post.pushL {ds : List D} {xs : List V} (p : Post K io H W (RpD K) (.ok (.loc st.length) (st ++ [.lst ds])) Q) (s : StOk K H io st) (r : RepL K H io ds xs) (q : Addr) (n : H q = none) : Q (.ref q) (upd H q (.lst xs)) :=
  p _ (io.push q) _ (Ext.push s n _) (s.push n ⟨xs, upd_same, RepL.ext (Ext.push s n _) _ _ r⟩) ⟨q, by rw [← s.len]; simp [Io.get, Io.push], rfl⟩
theorem Post.of_bad {α β : Type} {Rp : Hp → Io → α → β → Prop} {Q : β → Hp → Prop} {P : Prop} (p : Post K io H W Rp (.bad : R α) Q) : P := p.elim
end

theorem Post.ite {K : PySem.W.Frag} {io : Io} {H : Hp} {W : XK} {α β : Type} {Rp : Hp → Io → α → β → Prop} {Q : β → Hp → Prop} {c : Prop} [Decidable c] {r : R α} (p : Post K io H W Rp (if c then r else .bad) Q) : c ∧ Post K io H W Rp r Q := by
  by_cases h : c
  · rw [if_pos h] at p; exact ⟨h, p⟩
  · rw [if_neg h] at p; exact p.elim
def sz : Nat := 16777216
theorem sz_eq : sz = sizeLine := sizeLine_eq.symm
theorem str_len (a : List Nat) : (⟨a.toArray⟩ : Str).length = a.length := by
  show (a.toArray).size = a.length
  simp

theorem str_app (a b : List Nat) : (⟨a.toArray⟩ ++ ⟨b.toArray⟩ : Str) = ⟨(a ++ b).toArray⟩ := by
  show Str.mk (a.toArray ++ b.toArray) = _
  rw [List.append_toArray]
/-! ### numbers, sums -/
def addD : D → D → Sto → R D
  | .int i, .int j, st => .ok (.int (i + j)) st
  | .str a, .str b, st => if a.length + b.length ≤ sz then .ok (.str (a ++ b)) st else .bad
  | .tup a, .tup b, st => if a.length + b.length ≤ sz then .ok (.tup (a ++ b)) st else .bad
  | .lst a, .lst b, st => if a.length + b.length ≤ sz then .ok (.lst (a ++ b)) st else .bad
  | _, _, _ => .bad
def subD : D → D → Sto → R D
  | .int i, .int j, st => .ok (.int (i - j)) st
  | _, _, _ => .bad
def mulD : D → D → Sto → R D
  | .int i, .int j, st => if i.natAbs < 2 ^ 64 ∨ j.natAbs < 2 ^ 64 then .ok (.int (i * j)) st else .bad
  | .lst a, .int k, st => if 0 ≤ k ∧ k ≤ 1000 ∧ a.length * k.toNat ≤ sz then .ok (.lst (List.replicate k.toNat a).flatten) st else .bad
  | _, _, _ => .bad
def divD : D → D → Sto → R D
  | .int i, .int j, st => if 0 < j ∧ j < 1073741824 then .ok (.int (i / j)) st else .bad
  | _, _, _ => .bad
def modD : D → D → Sto → R D
  | .int i, .int j, st => if 0 < j then .ok (.int (i % j)) st else .bad
  | _, _, _ => .bad
def powD : D → D → Sto → R D
  | .int i, .int j, st => if 0 ≤ j ∧ (i.natAbs.log2 + 1) * j.toNat ≤ 134217728 then .ok (.int (i ^ j.toNat)) st else .bad
  | _, _, _ => .bad
section
variable {X : Cx}
theorem add_s : OpR X (binaryOp .Add) (r2 X.K addD) := by
  intro pins s σ H x y v u Q I rx ry h
  obtain ⟨d, e, st, io, so, r, q, p⟩ := h
  cases d <;> cases e <;> first | exact p.elim | skip
  · cases r; cases q
    exact op_add pins s σ H _ _ v u Q I rx ry ⟨_, _, rfl, rfl, p.int so⟩
  · cases r; cases q
    obtain ⟨hz, p⟩ := Post.ite p
    refine op_add_str pins s σ H _ _ v u Q I rx ry ⟨_, _, rfl, rfl, by rw [str_len, str_len, ← sz_eq]; exact hz, ?_⟩
    rw [str_app]
    exact p.str so
  · obtain ⟨a, xs, rfl, sa, ra⟩ := r
    obtain ⟨b, ys, rfl, sb, rb⟩ := q
    obtain ⟨hz, p⟩ := Post.ite p
    rw [ra.len, rb.len, sz_eq] at hz
    refine op_catA pins s σ H _ _ v u Q I rx ry ⟨a, b, xs, ys, rfl, rfl, sa, sb, hz, ?_, ?_, ?_⟩
    · intro e0
      have e1 := ra.len
      rw [e0] at e1
      have e2 := List.length_eq_zero_iff.mp e1
      subst e2
      exact p.val so ⟨b, ys, rfl, sb, rb⟩
    · intro _ e0
      have e1 := rb.len
      rw [e0] at e1
      have e2 := List.length_eq_zero_iff.mp e1
      subst e2
      rw [List.append_nil] at p
      exact p.val so ⟨a, xs, rfl, sa, ra⟩
    · intro _ _ z n
      exact p.newT so (ra.append rb) z n
  · obtain ⟨a, xs, rfl, sa, ra⟩ := r
    obtain ⟨b, ys, rfl, sb, rb⟩ := q
    obtain ⟨hz, p⟩ := Post.ite p
    rw [ra.len, rb.len, sz_eq] at hz
    exact op_cat pins s σ H _ _ v u Q I rx ry ⟨a, b, xs, ys, rfl, rfl, sa.1, sb.1, hz, fun z n => p.newL so (ra.append rb) z n⟩
theorem sub_s : OpR X (binaryOp .Sub) (r2 X.K subD) := by
  intro pins s σ H x y v u Q I rx ry h
  obtain ⟨d, e, st, io, so, r, q, p⟩ := h
  cases d <;> cases e <;> first | exact p.elim | skip
  cases r; cases q
  exact op_sub pins s σ H _ _ v u Q I rx ry ⟨_, _, rfl, rfl, p.int so⟩
theorem RepL.rep {K : PySem.W.Frag} {H : Hp} {io : Io} {ds : List D} {xs : List V} (r : RepL K H io ds xs) : ∀ n : Nat, RepL K H io (List.replicate n ds).flatten (List.replicate n xs).flatten
  | 0 => by simp [RepL]
  | n + 1 => by
    rw [List.replicate_succ, List.replicate_succ, List.flatten_cons, List.flatten_cons]
    exact r.append (RepL.rep r n)
theorem mul_s : OpR X (binaryOp .Mult) (r2 X.K mulD) := by
  intro pins s σ H x y v u Q I rx ry h
  obtain ⟨d, e, st, io, so, r, q, p⟩ := h
  cases d <;> cases e <;> first | exact p.elim | skip
  · cases r; cases q
    obtain ⟨hz, p⟩ := Post.ite p
    refine op_mul pins s σ H _ _ v u Q I rx ry ⟨_, _, rfl, rfl, ?_, p.int so⟩
    rcases hz with hz | hz
    · exact .inl ⟨by omega, by omega⟩
    · exact .inr ⟨by omega, by omega⟩
  · obtain ⟨a, xs, rfl, sa, ra⟩ := r
    cases q
    rename_i k
    obtain ⟨hz, p⟩ := Post.ite p
    obtain ⟨z1, z2, z3⟩ := hz
    refine op_rep pins s σ H _ _ v u Q I rx ry ⟨a, k, xs, rfl, rfl, sa.1, by omega, by omega, by rw [← ra.len, ← sz_eq]; exact z3, fun z n => p.newL so (ra.rep _) z n⟩
theorem div_s : OpR X (binaryOp .FloorDiv) (r2 X.K divD) := by
  intro pins s σ H x y v u Q I rx ry h
  obtain ⟨d, e, st, io, so, r, q, p⟩ := h
  cases d <;> cases e <;> first | exact p.elim | skip
  cases r; cases q
  obtain ⟨hz, p⟩ := Post.ite p
  exact op_fdiv pins s σ H _ _ v u Q I rx ry ⟨_, _, rfl, rfl, hz, p.int so⟩
theorem mod_s : OpR X (binaryOp .Mod) (r2 X.K modD) := by
  intro pins s σ H x y v u Q I rx ry h
  obtain ⟨d, e, st, io, so, r, q, p⟩ := h
  cases d <;> cases e <;> first | exact p.elim | skip
  cases r; cases q
  obtain ⟨hz, p⟩ := Post.ite p
  exact op_mod pins s σ H _ _ v u Q I rx ry ⟨_, _, rfl, rfl, hz, p.int so⟩
theorem pow_s : OpR X (binaryOp .Pow) (r2 X.K powD) := by
  intro pins s σ H x y v u Q I rx ry h
  obtain ⟨d, e, st, io, so, r, q, p⟩ := h
  cases d <;> cases e <;> first | exact p.elim | skip
  cases r; cases q
  obtain ⟨hz, p⟩ := Post.ite p
  obtain ⟨z1, z2⟩ := hz
  rename_i i j _
  obtain ⟨t, rfl⟩ := rx
  obtain ⟨t', rfl⟩ := ry
  refine PyProof.Rows.pow_int z1 ?_ ⟨.int _, H, I.tok _, ⟨_, rfl⟩, p.int so⟩
  have b : Builtin.Int.intBits i ≤ i.natAbs.log2 + 1 := by
    unfold Builtin.Int.intBits
    split <;> omega
  have b2 : Builtin.Int.intBits i * j.toNat ≤ (i.natAbs.log2 + 1) * j.toNat := Nat.mul_le_mul_right _ b
  have e : j = (j.toNat : Int) := by omega
  rw [e]
  have z3 : Builtin.Int.intBits i * j.toNat ≤ 134217728 := Nat.le_trans b2 z2
  have z4 : ((Builtin.Int.intBits i * j.toNat : Nat) : Int) ≤ 134217728 := by omega
  simpa using z4
end
end Mi

set_option maxRecDepth 100000
set_option maxHeartbeats 4000000
namespace Mi
open PySem PySem.Spec L2

def itemsOf (d : D) (st : Sto) : Option (List D) := match d with
  | .tup ds => some ds
  | .lst ds => some ds
  | .fro ds => some ds
  | .loc n => (match st[n]? with
    | some (.lst ds) => some ds
    | _ => none)
  | _ => none
def dictOf (d : D) (st : Sto) : Option (List KeyD × List D) := match d with
  | .dct ks vs => some (ks, vs)
  | .loc n => (match st[n]? with
    | some (.dct ks vs) => some (ks, vs)
    | _ => none)
  | _ => none
def keyD : D → Option KeyD
  | .int i => some (.inl i)
  | .str s => some (.inr s)
  | _ => none
theorem itemsOf_at {K : PySem.W.Frag} {H : Hp} {io : Io} {st : Sto} {d : D} {v : V} {ds : List D} (e : itemsOf d st = some ds) (so : StOk K H io st) (r : Rep K H io d v) :
    ∃ a xs, v = .ref a ∧ RepL K H io ds xs ∧ (SqL K H a xs ∨ SqT K H a xs) := by
  cases d <;> simp only [itemsOf, Option.some.injEq, reduceCtorEq] at e
  · subst e; obtain ⟨a, xs, rfl, p, r⟩ := r; exact ⟨a, xs, rfl, r, .inr p⟩
  · subst e; obtain ⟨a, xs, rfl, p, r⟩ := r; exact ⟨a, xs, rfl, r, .inl (.of p.1)⟩
  · subst e; obtain ⟨a, xs, rfl, p, r⟩ := r; exact ⟨a, xs, rfl, r, .inl p.sql⟩
  · rename_i n
    obtain ⟨a, ea, rfl⟩ := r
    cases q : st[n]? with
    | none => rw [q] at e; cases e
    | some b =>
      rw [q] at e
      cases b with
      | lst zs =>
        cases e
        obtain ⟨xs, e1, r1⟩ := so.ob n a _ ea q
        exact ⟨a, xs, rfl, r1, .inl (.of e1)⟩
      | dct _ _ => cases e
      | ins _ _ _ => cases e
theorem dictOf_at {K : PySem.W.Frag} {H : Hp} {io : Io} {st : Sto} {d : D} {v : V} {ks : List KeyD} {vs : List D} (e : dictOf d st = some (ks, vs)) (so : StOk K H io st) (r : Rep K H io d v) :
    ∃ a xs, v = .ref a ∧ H a = some (.dK ((ks.map keyOf).zip xs)) ∧ ks.length = xs.length ∧ RepL K H io vs xs := by
  cases d <;> simp only [dictOf, Option.some.injEq, Prod.mk.injEq, reduceCtorEq] at e
  · obtain ⟨rfl, rfl⟩ := e; obtain ⟨a, xs, rfl, p, l, r⟩ := r; exact ⟨a, xs, rfl, p.1, l, r⟩
  · rename_i n
    obtain ⟨a, ea, rfl⟩ := r
    cases q : st[n]? with
    | none => rw [q] at e; cases e
    | some b =>
      rw [q] at e
      cases b with
      | lst zs => cases e
      | dct zs ws =>
        cases e
        obtain ⟨xs, e1, l, r1⟩ := so.ob n a _ ea q
        exact ⟨a, xs, rfl, e1, l, r1⟩
      | ins _ _ _ => cases e
theorem keyD_at {K : PySem.W.Frag} {H : Hp} {io : Io} {d : D} {v : V} {k : KeyD} (e : keyD d = some k) (r : Rep K H io d v) : v = kV (keyOf k) := by
  cases d <;> simp only [keyD, Option.some.injEq, reduceCtorEq] at e
  · subst e; cases r; rfl
  · subst e; cases r; rfl

/-! ### comparisons -/
def ofB (o : Option Bool) (st : Sto) : R D := match o with
  | some b => .ok (.bl b) st
  | none => .bad
def eqD (d e : D) (st : Sto) : R D := ofB (deq 40 d e) st
def neD (d e : D) (st : Sto) : R D := ofB ((deq 40 d e).map (!·)) st
def ltI (f : Int → Int → Bool) : D → D → Sto → R D
  | .int i, .int j, st => .ok (.bl (f i j)) st
  | _, _, _ => .bad
def inL (x : D) : List D → Option Bool
  | [] => some false
  | y :: ys => match deq 39 y x, inL x ys with
    | some a, some b => some (a || b)
    | _, _ => none
def inV (x c : D) (st : Sto) : Option Bool := match itemsOf c st with
  | some ds => inL x ds
  | none => match dictOf c st with
    | some (ks, _) => (keyD x).map fun k => ks.any fun j => decide (j = k)
    | none => match c, x with
      | .str s, .str [ch] => some (decide (ch ∈ s))
      | _, _ => none
def inD (x c : D) (st : Sto) : R D := ofB (inV x c st) st
def notInD (x c : D) (st : Sto) : R D := ofB ((inV x c st).map (!·)) st
def isN (x : D) (st : Sto) : R D := .ok (.bl (match x with | .non => true | _ => false)) st
section
variable {X : Cx}
theorem eq_s (hu : X.A.units + 64 < cLine) : OpR X (compareOp .Eq) (r2 X.K eqD) := by
  intro pins s σ H x y v u Q I rx ry h
  obtain ⟨d, e, st, io, so, r, q, p⟩ := h
  unfold eqD at p
  cases hd : deq 40 d e with
  | none => rw [hd] at p; exact p.elim
  | some b =>
    rw [hd] at p
    exact (deq_ok I 40 d e b x y v u hd r q rx ry X.A (by omega)).1 _ _ _ _ ⟨.bl b, H, I, rfl, p.bl so⟩
theorem ne_s (hu : X.A.units + 64 < cLine) : OpR X (compareOp .NotEq) (r2 X.K neD) := by
  intro pins s σ H x y v u Q I rx ry h
  obtain ⟨d, e, st, io, so, r, q, p⟩ := h
  unfold neD at p
  cases hd : deq 40 d e with
  | none => rw [hd] at p; exact p.elim
  | some b =>
    rw [hd] at p
    exact (deq_ok I 40 d e b x y v u hd r q rx ry X.A (by omega)).2.1 _ _ _ _ ⟨.bl (!b), H, I, rfl, p.bl so⟩
theorem lt_s : OpR X (compareOp .Lt) (r2 X.K (ltI fun i j => decide (i < j))) := by
  intro pins s σ H x y v u Q I rx ry h
  obtain ⟨d, e, st, io, so, r, q, p⟩ := h
  cases d <;> cases e <;> first | exact p.elim | skip
  cases r; cases q
  exact op_lt pins s σ H _ _ v u Q I rx ry ⟨_, _, rfl, rfl, p.bl so⟩
theorem le_s : OpR X (compareOp .LtE) (r2 X.K (ltI fun i j => decide (i ≤ j))) := by
  intro pins s σ H x y v u Q I rx ry h
  obtain ⟨d, e, st, io, so, r, q, p⟩ := h
  cases d <;> cases e <;> first | exact p.elim | skip
  cases r; cases q
  exact op_le pins s σ H _ _ v u Q I rx ry ⟨_, _, rfl, rfl, p.bl so⟩
theorem gt_s : OpR X (compareOp .Gt) (r2 X.K (ltI fun i j => decide (j < i))) := by
  intro pins s σ H x y v u Q I rx ry h
  obtain ⟨d, e, st, io, so, r, q, p⟩ := h
  cases d <;> cases e <;> first | exact p.elim | skip
  cases r; cases q
  exact op_gt pins s σ H _ _ v u Q I rx ry ⟨_, _, rfl, rfl, p.bl so⟩
theorem ge_s : OpR X (compareOp .GtE) (r2 X.K (ltI fun i j => decide (j ≤ i))) := by
  intro pins s σ H x y v u Q I rx ry h
  obtain ⟨d, e, st, io, so, r, q, p⟩ := h
  cases d <;> cases e <;> first | exact p.elim | skip
  cases r; cases q
  exact op_ge pins s σ H _ _ v u Q I rx ry ⟨_, _, rfl, rfl, p.bl so⟩
theorem Sc.det {d d' : D} {v : V} (h : Sc d v) (g : Sc d' v) : d = d' := by
  cases h <;> cases g <;> first | rfl | skip
/-- what bears a value answers alike -/
theorem deq_rep {pins : List (Addr × Obj)} {σ : St} {H : Hp} {s : Shared} {io : Io} (I : L2.Inv X pins σ H s) : ∀ (n : Nat) (d d' e : D) (b b' : Bool) (v : V), deq n d e = some b → deq n d' e = some b' → Rep X.K H io d v → Rep X.K H io d' v → b = b' := by
  intro n
  induction n using Nat.strongRecOn with
  | _ n ih =>
    have sq : ∀ (m : Nat), m < n → ∀ (ds ds' es : List D) (xs : List V) (b b' : Bool), deqL (deq m) ds es = some b → deqL (deq m) ds' es = some b' → RepL X.K H io ds xs → RepL X.K H io ds' xs → b = b' := by
      intro m hm ds
      induction ds with
      | nil =>
        intro ds' es xs b b' h h' r1 r2
        cases r1
        cases ds' with
        | nil => rw [h] at h'; exact Option.some.inj h'
        | cons e es => obtain ⟨_, _, z, _⟩ := r2; cases z
      | cons d ds ihd =>
        intro ds' es xs b b' h h' r1 r2
        obtain ⟨x, xr, rfl, p1, p2⟩ := r1
        cases ds' with
        | nil => cases r2
        | cons d' ds' =>
          obtain ⟨_, _, z, q1, q2⟩ := r2
          cases z
          cases es with
          | nil => cases h; cases h'; rfl
          | cons e es =>
            unfold deqL at h h'
            cases k1 : deq m d e with
            | none => rw [k1] at h; cases h
            | some x1 =>
              cases k2 : deqL (deq m) ds es with
              | none => rw [k1, k2] at h; cases h
              | some y1 =>
                cases k1' : deq m d' e with
                | none => rw [k1'] at h'; cases h'
                | some x1' =>
                  cases k2' : deqL (deq m) ds' es with
                  | none => rw [k1', k2'] at h'; cases h'
                  | some y1' =>
                    rw [k1, k2] at h
                    rw [k1', k2'] at h'
                    rw [ih m hm d d' e x1 x1' _ k1 k1' p1 q1, ihd ds' es _ y1 y1' k2 k2' p2 q2] at h
                    cases h; cases h'; rfl
    intro d d' e b b' v h h' r1 r2
    obtain ⟨k1, k2⟩ := deq_kd h
    obtain ⟨k1', _⟩ := deq_kd h'
    rcases r1.split k1 with s1 | ⟨t, ds, s1⟩ <;> rcases r2.split k1' with s2 | ⟨u, es, s2⟩
    · have z := s1.det s2
      subst z
      rw [h] at h'
      exact Option.some.inj h'
    · cases s1 <;> cases s2
    · cases s1 <;> cases s2
    · obtain ⟨e1, xs, p1, p2⟩ := s1.same I s2
      -- the other side
      cases ke : e with
      | non => subst ke; rw [deq_sq_sc h s1 .non, deq_sq_sc h' s2 .non]
      | bl c => subst ke; rw [deq_sq_sc h s1 (.bl c), deq_sq_sc h' s2 (.bl c)]
      | int c => subst ke; rw [deq_sq_sc h s1 (.int c), deq_sq_sc h' s2 (.int c)]
      | str c => subst ke; rw [deq_sq_sc h s1 (.str c), deq_sq_sc h' s2 (.str c)]
      | dct _ _ => subst ke; exact absurd k2 (by simp [kd])
      | loc _ => subst ke; exact absurd k2 (by simp [kd])
      | glo _ => subst ke; exact absurd k2 (by simp [kd])
      | ty _ => subst ke; exact absurd k2 (by simp [kd])
      | _ =>
        subst ke
        cases s1 <;> cases s2 <;> cases n <;> simp only [deq, kd] at h h' <;> first | (exact absurd e1 (by decide)) | (simp at h h'; rw [h, h']) | (simp at h) | (exact sq _ (Nat.lt_succ_self _) _ _ _ xs _ _ h h' p1 p2) | (cases e1)
theorem inL_iff {x : D} : ∀ {ds : List D} {b : Bool}, inL x ds = some b → (∀ d ∈ ds, ∃ c, deq 39 d x = some c) ∧ (b = true ↔ ∃ d ∈ ds, deq 39 d x = some true)
  | [], b, h => by cases h; simp
  | y :: ys, b, h => by
    unfold inL at h
    cases q1 : deq 39 y x with
    | none => rw [q1] at h; cases h
    | some c =>
      cases q2 : inL x ys with
      | none => rw [q1, q2] at h; cases h
      | some c2 =>
        rw [q1, q2] at h
        cases h
        obtain ⟨h1, h2⟩ := inL_iff q2
        refine ⟨fun d hd => ?_, ?_⟩
        · rcases List.mem_cons.mp hd with rfl | hd
          · exact ⟨c, q1⟩
          · exact h1 d hd
        · rw [Bool.or_eq_true, h2]
          constructor
          · rintro (rfl | ⟨d, hd, e⟩)
            · exact ⟨y, List.mem_cons_self, q1⟩
            · exact ⟨d, List.mem_cons_of_mem _ hd, e⟩
          · rintro ⟨d, hd, e⟩
            rcases List.mem_cons.mp hd with rfl | hd
            · rw [q1] at e; exact .inl (Option.some.inj e)
            · exact .inr ⟨d, hd, e⟩
/-- each item's answer, by its value -/
theorem inL_ok {pins : List (Addr × Obj)} {σ : St} {H : Hp} {s : Shared} {io : Io} (I : L2.Inv X pins σ H s) (hu : X.A.units + 64 < cLine) {x : D} {xv : V} {xu : Value} (r : Rep X.K H io x xv) (rx : RelV xv xu) {ds : List D} {xs : List V} {us : List Value} {b : Bool}
    (h : inL x ds = some b) (q : RepL X.K H io ds xs) (vs : Vals xs us) : ∃ e : Value → Bool, (∀ y ∈ us, SeqAt.EqAt X.A.in1 s y xu (e y)) ∧ us.any e = b := by
  classical
  obtain ⟨h1, h2⟩ := inL_iff h
  -- of a value: what bears it, its answer
  have at_ : ∀ y ∈ us, ∃ d ∈ ds, ∃ w c, Rep X.K H io d w ∧ RelV w y ∧ deq 39 d x = some c := by
    intro y hy
    obtain ⟨i, hi, rfl⟩ := List.getElem_of_mem hy
    have l1 := vs.length
    have hx : i < xs.length := by omega
    obtain ⟨d, e1, w1⟩ := q.get (i := i) (v := xs[i]) (by simp [hx])
    obtain ⟨u', f1, y1⟩ := vs.get (i := i) (x := xs[i]) (by simp [hx])
    rw [List.getElem?_eq_getElem hi] at f1
    cases f1
    obtain ⟨c, hc⟩ := h1 d (List.mem_of_getElem? e1)
    exact ⟨d, List.mem_of_getElem? e1, _, c, w1, y1, hc⟩
  have key : ∀ y, ∀ d w c, Rep X.K H io d w → RelV w y → deq 39 d x = some c → (decide (∃ d' w', Rep X.K H io d' w' ∧ RelV w' y ∧ deq 39 d' x = some true)) = c := by
    intro y d w c g1 g2 g3
    cases c with
    | true => exact decide_eq_true ⟨d, w, g1, g2, g3⟩
    | false =>
      refine decide_eq_false ?_
      rintro ⟨d', w', k1, k2, k3⟩
      have z := RelV.inj g2 k2
      subst z
      have z2 := deq_rep I 39 d d' x false true w g3 k3 g1 k1
      cases z2
  refine ⟨fun y => decide (∃ d' w', Rep X.K H io d' w' ∧ RelV w' y ∧ deq 39 d' x = some true), fun y hy => ?_, ?_⟩
  · obtain ⟨d, _, w, c, g1, g2, g3⟩ := at_ y hy
    show SeqAt.EqAt X.A.in1 s y xu (decide _)
    rw [key y d w c g1 g2 g3]
    exact (deq_ok I 39 d x c w xv y xu g3 g1 r g2 rx X.A.in1 (by show X.A.units + 1 + 39 < cLine; omega)).2.2
  · rw [Bool.eq_iff_iff, List.any_eq_true, h2]
    constructor
    · rintro ⟨y, hy, e⟩
      obtain ⟨d, hd, w, c, g1, g2, g3⟩ := at_ y hy
      rw [key y d w c g1 g2 g3] at e
      subst e
      exact ⟨d, hd, g3⟩
    · rintro ⟨d, hd, e⟩
      obtain ⟨i, hi, rfl⟩ := List.getElem_of_mem hd
      obtain ⟨w, e1, w1⟩ := q.at (i := i) (d := ds[i]) (by simp [hi])
      obtain ⟨u', f1, y1⟩ := vs.get (i := i) (x := w) e1
      refine ⟨u', List.mem_of_getElem? f1, ?_⟩
      exact decide_eq_true ⟨_, w, w1, y1, e⟩

theorem dict_has {ks : List KeyD} {xs : List V} (l : ks.length = xs.length) (k : KeyD) : (valV ((ks.map keyOf).zip xs) (keyOf k)).isSome = ks.any fun j => decide (j = k) := by
  rw [← valV_any]
  induction ks generalizing xs with
  | nil => rfl
  | cons a r ih =>
    cases xs with
    | nil => cases l
    | cons x xs =>
      have e : decide (keyOf a = keyOf k) = decide (a = k) := decide_eq_decide.mpr ⟨keyOf_inj, fun z => by rw [z]⟩
      have i2 := ih (xs := xs) (by simpa using l)
      simp only [List.map_cons, List.zip_cons_cons, List.any_cons, e, i2]
theorem occ_sign (c : Nat) (z : Str) : (!(Builtin.Str.occurrences z ⟨#[c]⟩ 0 z.length 1).isEmpty) = decide (c ∈ z.cps.toList) := PySem.StrLaws.found_one z c
theorem in_core (hu : X.A.units + 64 < cLine) {pins : List (Addr × Obj)} {s : Shared} {σ : St} {H : Hp} {x y : V} {v u : Value} {st : Sto} {io : Io} {d e : D} {b : Bool} (I : L2.Inv X pins σ H s) (rx : RelV x v) (ry : RelV y u) (so : StOk X.K H io st)
    (r : Rep X.K H io d x) (q : Rep X.K H io e y) (h : inV d e st = some b) {E : Value → Shared → Prop} {neg : Bool} {Qs : Value → Shared → Prop} (k : ∀ s', L2.Inv X pins σ H s' → Qs (.bool (if neg then !b else b)) s') :
    wpAny (model X.prog X.w) X.A (compareOp (if neg then .NotIn else .In) v u) Qs E s := by
  unfold inV at h
  cases hi : itemsOf e st with
  | some ds =>
    rw [hi] at h
    obtain ⟨a, xs, rfl, rl, hs⟩ := itemsOf_at hi so q
    cases ry
    rcases hs with hs | hs
    · obtain ⟨its, rv, ⟨o, n, g1, g2, _, g3⟩, _⟩ := I.list hs
      obtain ⟨f, h1, h2⟩ := inL_ok I hu r rx h rl rv
      have t1 : s.heap.IsList a its.toArray := ⟨o, g1, g2, n, g3⟩
      have h2' : its.toArray.any f = b := by simpa using h2
      cases neg with
      | false => exact SeqAt.in_listAt f t1 (fun y hy => h1 y (by simpa using hy)) (by rw [h2']; exact k s I)
      | true => exact SeqAt.notIn_listAt f t1 (fun y hy => h1 y (by simpa using hy)) (by rw [h2']; exact k s I)
    · obtain ⟨its, rv, t1, _⟩ := I.tuple hs
      obtain ⟨f, h1, h2⟩ := inL_ok I hu r rx h rl rv
      have t1 : s.heap.IsTuple a its.toArray := t1
      have h2' : its.toArray.any f = b := by simpa using h2
      cases neg with
      | false => exact SeqAt.in_tupleAt f t1 (fun y hy => h1 y (by simpa using hy)) (by rw [h2']; exact k s I)
      | true => exact SeqAt.notIn_tupleAt f t1 (fun y hy => h1 y (by simpa using hy)) (by rw [h2']; exact k s I)
  | none =>
    rw [hi] at h
    cases hd : dictOf e st with
    | some kv =>
      obtain ⟨ks, vs⟩ := kv
      rw [hd] at h
      obtain ⟨a, xs, rfl, ha, l, rl⟩ := dictOf_at hd so q
      cases ry
      cases hk : keyD d with
      | none => simp [hk] at h
      | some kk =>
        simp [hk] at h
        have ek := keyD_at hk r
        subst ek
        have g := DGet.k (k := keyOf kk) ha
        have eb : (valV ((ks.map keyOf).zip xs) (keyOf kk)).isSome = b := by
          rw [dict_has l]
          rw [← h]
        cases neg with
        | false =>
          refine d_in (o := valV ((ks.map keyOf).zip xs) (keyOf kk)) (by omega) I g rx fun s' I' => ?_
          rw [eb]
          exact k s' I'
        | true =>
          refine d_notIn (o := valV ((ks.map keyOf).zip xs) (keyOf kk)) (by omega) I g rx fun s' I' => ?_
          rw [eb]
          exact k s' I'
    | none =>
      rw [hd] at h
      cases e with
      | str z =>
        cases d with
        | str c =>
          cases c with
          | nil => cases h
          | cons c cs =>
            cases cs with
            | cons _ _ => cases h
            | nil =>
              cases h
              cases r; cases q
              obtain ⟨t, rfl⟩ := rx
              obtain ⟨t', rfl⟩ := ry
              have ez := PySem.StrLaws.found_one (⟨z.toArray⟩ : Str) c
              have e2 : decide (c ∈ (⟨z.toArray⟩ : Str).cps.toList) = decide (c ∈ z) := by simp
              cases neg with
              | false => exact PyProof.Rows.in_str (by
                  have := k s I
                  rw [if_neg Bool.false_ne_true, ← e2, ← ez] at this
                  exact this)
              | true => exact PyProof.Rows.notIn_str (by
                  have := k s I
                  rw [if_pos rfl, ← e2, ← ez] at this
                  exact this)
        | _ => cases h
      | _ => cases h
theorem in_s (hu : X.A.units + 64 < cLine) : OpR X (compareOp .In) (r2 X.K inD) := by
  intro pins s σ H x y v u Q I rx ry h
  obtain ⟨d, e, st, io, so, r, q, p⟩ := h
  unfold inD at p
  cases hd : inV d e st with
  | none => rw [hd] at p; exact p.elim
  | some b =>
    rw [hd] at p
    exact in_core (neg := false) hu I rx ry so r q hd fun s' I' => ⟨.bl b, H, I', rfl, p.bl so⟩
theorem notIn_s (hu : X.A.units + 64 < cLine) : OpR X (compareOp .NotIn) (r2 X.K notInD) := by
  intro pins s σ H x y v u Q I rx ry h
  obtain ⟨d, e, st, io, so, r, q, p⟩ := h
  unfold notInD at p
  cases hd : inV d e st with
  | none => rw [hd] at p; exact p.elim
  | some b =>
    rw [hd] at p
    exact in_core (neg := true) hu I rx ry so r q hd fun s' I' => ⟨.bl (!b), H, I', rfl, p.bl so⟩
end
end Mi

set_option maxRecDepth 100000
set_option maxHeartbeats 4000000
namespace Mi
open PySem PySem.Spec L2

/-! ### items -/
def idxD (a i : D) (st : Sto) : R D := match itemsOf a st, i with
  | some ds, .int k => (match atI ds k with
    | some d => .ok d st
    | none => .bad)
  | _, _ => match a, i with
    | .str s, .int k => (match atI s k with
      | some c => if s.length ≤ sz then .ok (.str [c]) st else .bad
      | none => .bad)
    | _, _ => .bad
def valD (ks : List KeyD) (vs : List D) (k : KeyD) : Option D := match ks, vs with
  | a :: ks, v :: vs => if a = k then some v else valD ks vs k
  | _, _ => none
def getD (a i : D) (st : Sto) : R D := match dictOf a st, keyD i with
  | some (ks, vs), some k => (match valD ks vs k with
    | some d => .ok d st
    | none => .bad)
  | _, _ => .bad
theorem RepL.atI {K : PySem.W.Frag} {H : Hp} {io : Io} {ds : List D} {xs : List V} (r : RepL K H io ds xs) {k : Int} {d : D} (e : atI ds k = some d) : ∃ v, L2.atI xs k = some v ∧ Rep K H io d v := by
  unfold L2.atI at e ⊢
  rw [← r.len]
  cases q : ixN ds.length k with
  | none => rw [q] at e; cases e
  | some j =>
    rw [q] at e
    exact r.at e
theorem valD_at {K : PySem.W.Frag} {H : Hp} {io : Io} : ∀ {ks : List KeyD} {vs : List D} {xs : List V} {k : KeyD} {d : D}, RepL K H io vs xs → valD ks vs k = some d → ∃ v, valV ((ks.map keyOf).zip xs) (keyOf k) = some v ∧ Rep K H io d v
  | [], _, _, _, _, _, e => by simp [valD] at e
  | _ :: _, [], _, _, _, _, e => by simp [valD] at e
  | a :: ks, v :: vs, xs, k, d, r, e => by
    obtain ⟨x, xr, rfl, h1, h2⟩ := r
    unfold valD at e
    by_cases h : a = k
    · rw [if_pos h] at e; cases e
      exact ⟨x, valV_pos (by simp [h]), h1⟩
    · rw [if_neg h] at e
      obtain ⟨v', g1, g2⟩ := valD_at (k := k) h2 e
      exact ⟨v', by rw [List.map_cons, List.zip_cons_cons, valV_neg (fun z => h (keyOf_inj z))]; exact g1, g2⟩
/-- a cut -/
def cutD {α : Type} (xs : List α) (lo hi : Option Int) : List α := (xs.drop (HT.sIx xs.length 0 lo)).take (HT.sIx xs.length xs.length hi - HT.sIx xs.length 0 lo)
theorem RepL.cut {K : PySem.W.Frag} {H : Hp} {io : Io} {ds : List D} {xs : List V} (r : RepL K H io ds xs) (lo hi : Option Int) : RepL K H io (cutD ds lo hi) (cutV xs lo hi) := by
  unfold cutD cutV
  rw [r.len]
  exact (r.drop _).take _
def slD (a : D) (lo hi : Option Int) (st : Sto) : R D := match a with
  | .tup ds => .ok (.tup (cutD ds lo hi)) st
  | .lst ds => .ok (.lst (cutD ds lo hi)) st
  | .str s => if s.length ≤ sz then .ok (.str (cutD s lo hi)) st else .bad
  | .loc n => (match st[n]? with
    | some (.lst ds) => .ok (.lst (cutD ds lo hi)) st
    | _ => .bad)
  | _ => .bad
def rSl (K : PySem.W.Frag) : V → Option Int → Option Int → Hp → VK → Prop := fun x lo hi H Q => ∃ d st io, StOk K H io st ∧ Rep K H io d x ∧ Post K io H XF (RpD K) (slD d lo hi st) Q
section
variable {X : Cx}
theorem idx_s : IxR X (r2 X.K idxD) := by
  intro value slice pins s σ H x y v u Q I rx ry h hs
  obtain ⟨d, e, st, io, so, r, q, p⟩ := h
  unfold idxD at p
  cases hi : itemsOf d st with
  | some ds =>
    rw [hi] at p
    obtain ⟨a, xs, rfl, rl, ha⟩ := itemsOf_at hi so r
    cases e with
    | int k =>
      cases q
      cases hk : L2.atI ds k with
      | none => simp only [hk] at p; exact p.elim
      | some d' =>
        simp only [hk] at p
        obtain ⟨v', e1, r1⟩ := rl.atI hk
        have fin := p.val so r1
        rcases ha with ha | ha
        · exact ix_list value slice pins s σ H _ _ v u Q I rx ry ⟨a, xs, k, v', rfl, rfl, ha, e1, fin⟩ hs
        · exact ix_tup value slice pins s σ H _ _ v u Q I rx ry ⟨a, xs, k, v', rfl, rfl, ha, e1, fin⟩ hs
    | _ =>
      cases d <;> first | exact p.elim | (simp [itemsOf] at hi)
  | none =>
    rw [hi] at p
    cases d with
    | str z =>
      cases e with
      | int k =>
        cases r; cases q
        simp only at p
        cases hk : L2.atI z k with
        | none => rw [hk] at p; exact p.elim
        | some c =>
          rw [hk] at p
          obtain ⟨hz, p⟩ := Post.ite p
          have e1 : L2.atI (⟨z.toArray⟩ : Str).cps.toList k = some c := by simpa using hk
          exact ix_str value slice pins s σ H _ _ v u Q I rx ry ⟨_, k, c, rfl, rfl, by rw [str_len, ← sz_eq]; exact hz, e1, p.str so⟩ hs
      | _ => exact p.elim
    | _ => exact p.elim
theorem sl_s : SlR X (rSl X.K) := by
  intro pins s σ H x v vl vu lo hi sl Q I rx hs pl pu h
  obtain ⟨d, st, io, so, r, p⟩ := h
  cases d <;> (try exact p.elim)
  · rename_i z
    cases r
    obtain ⟨hz, p⟩ := Post.ite p
    refine sl_str pins s σ H _ v vl vu lo hi sl Q I rx hs pl pu ⟨_, rfl, by rw [str_len, ← sz_eq]; exact hz, ?_⟩
    have e := p.str so
    have e2 : cutS (⟨z.toArray⟩ : Str) lo hi = ⟨(cutD z lo hi).toArray⟩ := by
      unfold cutS cutD
      rw [str_len]
    rw [e2]
    exact e
  · rename_i zs
    obtain ⟨a, xs, rfl, sa, ra⟩ := r
    refine sl_tupA pins s σ H _ v vl vu lo hi sl Q I rx hs pl pu ⟨a, xs, rfl, sa, fun hw => ?_, fun _ z n => p.newT so (ra.cut lo hi) z n⟩
    have e : cutD zs lo hi = zs := by
      unfold cutD
      rw [ra.len, hw.1, hw.2, List.drop_zero, Nat.sub_zero, ← ra.len]
      exact List.take_length
    have p' := p.val so (v := .ref a)
    apply p'
    show Rep X.K H io (.tup (cutD zs lo hi)) _
    rw [e]
    exact ⟨a, xs, rfl, sa, ra⟩
  · obtain ⟨a, xs, rfl, sa, ra⟩ := r
    exact sl_list pins s σ H _ v vl vu lo hi sl Q I rx hs pl pu ⟨a, xs, rfl, .of sa.1, fun z n => p.newL so (ra.cut lo hi) z n⟩
  · rename_i n
    obtain ⟨a, ea, rfl⟩ := r
    simp only [slD] at p
    cases q : st[n]? with
    | none => rw [q] at p; exact p.elim
    | some b =>
      rw [q] at p
      cases b with
      | lst zs =>
        obtain ⟨xs, e1, r1⟩ := so.ob n a _ ea q
        exact sl_list pins s σ H _ v vl vu lo hi sl Q I rx hs pl pu ⟨a, xs, rfl, .of e1, fun z n => p.newL so (r1.cut lo hi) z n⟩
      | dct _ _ => exact p.elim
      | ins _ _ _ => exact p.elim

theorem filterMap_all {α β : Type} {f : α → Option β} {g : α → β} : ∀ {l : List α}, (∀ x ∈ l, f x = some (g x)) → l.filterMap f = l.map g
  | [], _ => rfl
  | x :: l, h => by
    rw [List.filterMap_cons_some (h x List.mem_cons_self), List.map_cons, filterMap_all fun y hy => h y (List.mem_cons_of_mem _ hy)]
/-- the tuple turned about -/
theorem adjust_back (n : Nat) : Builtin.Slice.sliceAdjust none none (-1) (n : Int) = ((n : Int) - 1, -1) := by
  unfold Builtin.Slice.sliceAdjust
  simp
theorem places_back (n : Nat) : Builtin.Slice.slicePlaces ((n : Int) - 1) (-1) (-1) = n := by
  unfold Builtin.Slice.slicePlaces
  have h1 : ¬ ((-1 : Int) > 0) := by omega
  simp only [h1, if_false]
  have h2 : (-(-1) : Int) = 1 := by omega
  rw [h2, Int.ediv_one]
  split <;> omega
theorem pick_back (xs : Array Value) : ((List.range xs.size).filterMap fun (m : Nat) => xs[(((xs.size : Int) - 1) + (m : Int) * (-1)).toNat]?).toArray = xs.toList.reverse.toArray := by
  congr 1
  apply List.ext_getElem?
  intro j
  have e : (List.range xs.size).filterMap (fun (m : Nat) => xs[(((xs.size : Int) - 1) + (m : Int) * (-1)).toNat]?) = (List.range xs.size).map fun m => xs.toList.getD (xs.size - 1 - m) .none := by
    apply filterMap_all
    intro m hm
    have hm := List.mem_range.mp hm
    have e1 : (((xs.size : Int) - 1) + (m : Int) * (-1)).toNat = xs.size - 1 - m := by omega
    rw [e1]
    have h2 : xs.size - 1 - m < xs.size := by omega
    simp [h2]
  rw [e, List.getElem?_map]
  by_cases hj : j < xs.size
  · rw [List.getElem?_range hj, List.getElem?_reverse (by simpa using hj)]
    have h2 : xs.size - 1 - j < xs.size := by omega
    simp [h2]
  · rw [List.getElem?_eq_none (by simpa using hj), List.getElem?_eq_none (by simpa using hj)]
    rfl

open Calls in
theorem getItem_back {prog : Program} {w : World} {A : Around} {E : Value → Shared → Prop} {s : Shared} {t sl : Addr} {items : Array Value} {u : Tok} {Q : Value → Shared → Prop} (ht : PyProof.Rows.IsTup s.heap t items) {os : Obj} (hos : s.heap.get? sl = some os) (hcs : os.cls = .type "slice") (hds : os.data = .fields #[.none, .none, .int (-1) u])
    (h : Q (.ref s.heap.objs.size) { s with heap := s.heap.push { cls := .type "tuple", data := .seq items.toList.reverse.toArray } }) (hsz : items.size ≤ sizeLine) : wpAny (model prog w) A (getItem (.ref t) (.ref sl)) Q E s := by
  have hsz' : sizeOk (.seq items.toList.reverse.toArray) := by
    show items.toList.reverse.toArray.size ≤ sizeLine
    rw [List.size_toArray, List.length_reverse, Array.length_toList]
    exact hsz
  have hTs : s.TypeIs (.ref sl) "slice" := ⟨os, hos, hcs⟩
  unfold getItem
  try with_reducible refine wpAny_holding ?_
  first | refine wpAny_bind (wpAny_pure ?_) | skip
  refine wpAny_bind (wpAny_sequenceKey ht.typeIs (by decide) ?_)
  refine wpAny_bind (wpAny_callSpecial?_slot (name := Str.ofString "__getitem__") ht.typeIs PyProof.Rows.slot_tuple_getitem
    (wpAny_call_entry PyProof.Rows.slot_tuple_getitem ht.typeIs PyProof.Rows.entry_tuple_getitem ?_ (PyProof.Rows.args_tuple_getitem _ _)))
  show wpAny _ _ (Builtin.Tuple.tupleItemsOf (.ref t) >>= _) _ _ s
  refine wpAny_bind (PyProof.Rows.tupleItemsOf_ ht ?_)
  refine wpAny_bind (wpAny_typeOf hTs ?_)
  rw [if_pos (by decide)]
  have ap : ∀ {Q' : Int × Int × Nat → Shared → Prop} {E' : Value → Shared → Prop}, Q' ((items.size : Int) - 1, -1, items.size) s → wpAny (model prog w) A.in1 (Builtin.Slice.sliceApplied (.ref sl) (pure (items.size : Int))) Q' E' s := by
    intro Q' E' q
    unfold Builtin.Slice.sliceApplied Builtin.Slice.sliceFields
    refine wpAny_bind (wpAny_bind (wpAny_field hos hds (x := .none) rfl (wpAny_bind (wpAny_field hos hds (x := .none) rfl (wpAny_bind (wpAny_field hos hds (x := .int (-1) u) rfl (wpAny_pure ?_)))))))
    refine wpAny_bind (PyProof.Rows.slicePart_int ?_)
    show wpAny _ _ (if ((-1 : Int) == 0) = true then _ else _) _ _ s
    rw [if_neg (by decide)]
    refine wpAny_bind (PyProof.Rows.slicePart_none (wpAny_bind (PyProof.Rows.slicePart_none (wpAny_bind (wpAny_pure ?_)))))
    show wpAny _ _ (match Builtin.Slice.sliceAdjust none none (-1) (items.size : Int) with | (lo, hi) => pure (lo, (-1 : Int), Builtin.Slice.slicePlaces lo hi (-1))) _ _ s
    rw [adjust_back]
    show wpAny _ _ (pure (((items.size : Int) - 1), (-1 : Int), Builtin.Slice.slicePlaces ((items.size : Int) - 1) (-1) (-1))) _ _ s
    rw [places_back]
    exact wpAny_pure q
  refine wpAny_bind (ap ?_)
  have hno : ¬ ((((items.size : Int) - 1) == 0 && (-1 : Int) == 1 && items.size == items.size) = true) := by
    intro q
    rw [Bool.and_eq_true, Bool.and_eq_true] at q
    exact absurd q.1.2 (by decide)
  show wpAny _ _ (if (((items.size : Int) - 1) == 0 && (-1 : Int) == 1 && items.size == items.size) = true then _ else _) _ _ s
  rw [if_neg hno, pick_back]
  first
    | exact wpAny_bind (m := Builtin.Tuple.tupleExact _) (wpAny_newObj_type (wpAny_pure ⟨_, rfl, wpAny_pure h⟩) hsz')
    | exact wpAny_bind (m := Builtin.Tuple.tupleExact _) (wpAny_newObj_type (wpAny_bind (wpAny_pure (wpAny_pure ⟨_, rfl, wpAny_pure h⟩))) hsz')
    | exact wpAny_bind (wpAny_bind (m := Builtin.Tuple.tupleExact _) (wpAny_newObj_type (wpAny_pure ⟨_, rfl, wpAny_pure h⟩) hsz'))
/-- t[::-1] of a tuple -/
def tRevT (K : PySem.W.Frag) (te : TE) : TE := fun σ H Q => te σ H fun x H1 => ∃ a xs, x = .ref a ∧ SqT K H1 a xs ∧ ∀ p, H1 p = none → Q (.ref p) (upd H1 p (.tup xs.reverse))
theorem pe_revT {X : Cx} {e : Expr} {te : TE} {k : Nat} {p1 p2 p3 pos : Pos} (he : PE X e te) : PE X (.Subscript e (.Slice none none (some (.UnaryOp .USub (.Constant (.int 1) k p1) p2)) p3) pos) (tRevT X.K te) := by
  refine ⟨fun pins s σ H Q I h => ?_⟩
  refine PyProof.Rows.Subscript_ (thn (he.run pins s σ H _ I h) fun v s1 ⟨x, H1, I1, r1, q1⟩ => ?_)
  obtain ⟨a, xs, ex, hx, q⟩ := q1
  subst ex
  cases r1
  have hst : PO X (some (.UnaryOp .USub (.Constant (.int 1) k p1) p2)) (tPart (tUn (rU fun i => .int (-i)) (tC (.int 1)))) := po_some (pe_un un_neg pe_int)
  refine wpAny_Slice (thn (po_none.run pins s1 σ H1 (fun o H2 => o = none ∧ H2 = H1) I1 ⟨rfl, rfl⟩) fun vl s2 ⟨l, H2, I2, pl, el, e2⟩ => ?_)
  subst el e2
  refine thn (po_none.run pins s2 σ H2 (fun o H3 => o = none ∧ H3 = H2) I2 ⟨rfl, rfl⟩) fun vu s3 ⟨u, H3, I3, pu, eu, e3⟩ => ?_
  subst eu e3
  refine thn (hst.run pins s3 σ H3 (fun o H4 => o = some (-1) ∧ H4 = H3) I3 ⟨1, rfl, -1, rfl, rfl, rfl⟩) fun vs s4 ⟨o, H4, I4, ps, eo, e4⟩ => ?_
  subst eo e4
  have I5 : L2.Inv X pins σ H4 { s4 with heap := s4.heap.push { cls := .type "slice", data := .fields #[vl, vu, vs] } } := I4.kept (t' := s4.toks) fun b ob q => Heap.get?_push_of_some _ q
  obtain ⟨its, r, ht, hz⟩ := I5.tuple hx
  have hlen := r.length
  cases pl
  cases pu
  cases ps with
  | int _ u =>
  show wpAny (model X.prog X.w) X.A (PyProof.Rows.subscriptTail e (.Slice none none (some (.UnaryOp .USub (.Constant (.int 1) k p1) p2)) p3) (.ref a) (.ref s4.heap.objs.size)) (EP X pins σ Q) X.xe { s4 with heap := s4.heap.push { cls := .type "slice", data := .fields #[.none, .none, .int (-1) u] } }
  refine PyProof.Rows.tail_any (ops := [.ref a, .ref s4.heap.objs.size]) ht.typeIs PyProof.Rows.slot_tuple_getitem.lookup ?_ (by with_unfolding_all rfl)
  refine getItem_back (u := u) ht (Heap.get?_push_size _ rfl) rfl rfl ?_ (by rw [List.size_toArray]; omega)
  refine ⟨.ref _, _, I5.laid (t' := s4.toks) (o := .tup xs.reverse) (fun b ob q => Heap.get?_push_of_some _ q) (Nat.le_refl _) ?_, rfl, q _ (I5.hok.fresh (Nat.le_refl _))⟩
  exact ⟨by rw [List.length_reverse]; exact hz, _, r.reverse, PyProof.Rows.IsTup.new _ _⟩
end
end Mi

set_option maxRecDepth 100000
set_option maxHeartbeats 4000000
namespace Mi
open PySem PySem.Spec L2

/-! ### truth -/
def truthD (d : D) (st : Sto) : Option Bool := match d with
  | .non => some false
  | .bl b => some b
  | .int i => some (i != 0)
  | .str s => if s.length ≤ sz then some (!s.isEmpty) else none
  | .tup ds => some (!ds.isEmpty)
  | .lst ds => some (!ds.isEmpty)
  | .fro ds => some (!ds.isEmpty)
  | .dct ks _ => some (!ks.isEmpty)
  | .loc n => (match st[n]? with
    | some (.lst ds) => some (!ds.isEmpty)
    | some (.dct ks _) => some (!ks.isEmpty)
    | _ => none)
  | _ => none
theorem RepL.empty {K : PySem.W.Frag} {H : Hp} {io : Io} {ds : List D} {xs : List V} (r : RepL K H io ds xs) : xs.isEmpty = ds.isEmpty := by
  cases ds with
  | nil => cases r; rfl
  | cons d ds => obtain ⟨_, _, rfl, _⟩ := r; rfl
theorem zip_empty {ks : List KeyD} {xs : List V} (l : ks.length = xs.length) : ((ks.map keyOf).zip xs).isEmpty = ks.isEmpty := by
  cases ks with
  | nil => rfl
  | cons k ks => cases xs with
    | nil => cases l
    | cons _ _ => rfl
theorem truth_at {K : PySem.W.Frag} {H : Hp} {io : Io} {st : Sto} {d : D} {v : V} {k : Bool} (e : truthD d st = some k) (so : StOk K H io st) (r : Rep K H io d v) : TruV K v H k := by
  cases d with
  | non => cases r; cases e; rfl
  | bl b => cases r; cases e; rfl
  | int i => cases r; simp only [truthD, Option.some.injEq] at e; exact e.symm
  | str z =>
    cases r
    simp only [truthD] at e
    split at e
    · rename_i hz
      cases e
      refine ⟨by rw [str_len, ← sz_eq]; exact hz, ?_⟩
      rw [str_len]
      cases z with
      | nil => rfl
      | cons a b =>
        have h1 : ((((a :: b).length : Nat) : Int) != 0) = true := by
          rw [bne_iff_ne, List.length_cons]
          omega
        rw [h1]
        rfl
    · cases e
  | tup ds =>
    obtain ⟨a, xs, rfl, p, r⟩ := r
    simp only [truthD, Option.some.injEq] at e
    exact .inr (.inl ⟨xs, p, by rw [r.empty]; exact e.symm⟩)
  | lst ds =>
    obtain ⟨a, xs, rfl, p, r⟩ := r
    simp only [truthD, Option.some.injEq] at e
    exact .inl ⟨xs, .of p.1, by rw [r.empty]; exact e.symm⟩
  | fro ds =>
    obtain ⟨a, xs, rfl, p, r⟩ := r
    simp only [truthD, Option.some.injEq] at e
    exact .inl ⟨xs, p.sql, by rw [r.empty]; exact e.symm⟩
  | dct ks vs =>
    obtain ⟨a, xs, rfl, p, l, r⟩ := r
    simp only [truthD, Option.some.injEq] at e
    exact .inr (.inr ⟨_, p.1, by rw [zip_empty l]; exact e.symm⟩)
  | loc n =>
    obtain ⟨a, ea, rfl⟩ := r
    cases q : st[n]? with
    | none => simp [truthD, q] at e
    | some b =>
      cases b with
      | lst ds =>
        simp only [truthD, q, Option.some.injEq] at e
        obtain ⟨xs, e1, r1⟩ := so.ob n a _ ea q
        exact .inl ⟨xs, .of e1, by rw [r1.empty]; exact e.symm⟩
      | dct ks vs =>
        simp only [truthD, q, Option.some.injEq] at e
        obtain ⟨xs, e1, l, r1⟩ := so.ob n a _ ea q
        exact .inr (.inr ⟨_, e1, by rw [zip_empty l]; exact e.symm⟩)
      | ins _ _ _ => simp [truthD, q] at e
  | glo _ => simp [truthD] at e
  | ty _ => simp [truthD] at e

/-! ### built-in functions -/
def lenD (ds : List D) (st : Sto) : R D := match ds with
  | [.str s] => if s.length ≤ sz then .ok (.int s.length) st else .bad
  | [d] => (match itemsOf d st with
    | some xs => .ok (.int xs.length) st
    | none => (match dictOf d st with
      | some (ks, _) => .ok (.int ks.length) st
      | none => .bad))
  | _ => .bad
def boolsOf : List D → Option (List Bool)
  | [] => some []
  | .bl b :: ds => (boolsOf ds).map (b :: ·)
  | _ :: _ => none
theorem boolsOf_eq : ∀ {ds : List D} {bs : List Bool}, boolsOf ds = some bs → ds = bs.map D.bl
  | [], _, h => by cases h; rfl
  | .bl b :: ds, bs, h => by
    unfold boolsOf at h
    cases q : boolsOf ds with
    | none => rw [q] at h; cases h
    | some cs => rw [q] at h; cases h; rw [boolsOf_eq q]; rfl
  | .non :: _, _, h | .int _ :: _, _, h | .str _ :: _, _, h | .tup _ :: _, _, h | .lst _ :: _, _, h | .fro _ :: _, _, h | .dct _ _ :: _, _, h | .loc _ :: _, _, h | .glo _ :: _, _, h | .ty _ :: _, _, h => by simp [boolsOf] at h
theorem boolsOf_map (bs : List Bool) : boolsOf (bs.map D.bl) = some bs := by
  induction bs with
  | nil => rfl
  | cons b bs ih => simp [boolsOf, ih]
def allD (ds : List D) (st : Sto) : R D := match ds with
  | [.lst xs] => (match boolsOf xs with
    | some bs => .ok (.bl (bs.all id)) st
    | none => .bad)
  | _ => .bad
def anyD (ds : List D) (st : Sto) : R D := match ds with
  | [.lst xs] => (match boolsOf xs with
    | some bs => .ok (.bl (bs.any id)) st
    | none => .bad)
  | _ => .bad
def intD (ds : List D) (st : Sto) : R D := match ds with
  | [.int i] => .ok (.int i) st
  | [.bl b] => .ok (.int (if b then 1 else 0)) st
  | _ => .bad
def absD (ds : List D) (st : Sto) : R D := match ds with
  | [.int i] => .ok (.int (if i < 0 then -i else i)) st
  | _ => .bad
def maxD (ds : List D) (st : Sto) : R D := match ds with
  | [.int i, .int j] => .ok (.int (if j > i then j else i)) st
  | _ => .bad
def minD (ds : List D) (st : Sto) : R D := match ds with
  | [.int i, .int j] => .ok (.int (if j < i then j else i)) st
  | _ => .bad
/-- list(..) that is never written; that is written -/
def listD (ds : List D) (st : Sto) : R D := match ds with
  | [d] => (match itemsOf d st with
    | some xs => .ok (.lst xs) st
    | none => .bad)
  | _ => .bad
def listM (ds : List D) (st : Sto) : R D := match ds with
  | [d] => (match itemsOf d st with
    | some xs => .ok (.loc st.length) (st ++ [.lst xs])
    | none => .bad)
  | _ => .bad
def tupleD (ds : List D) (st : Sto) : R D := match ds with
  | [d] => (match itemsOf d st with
    | some xs => .ok (.tup xs) st
    | none => .bad)
  | _ => .bad
/-- a value's type, by number -/
def tyN : Nat → String
  | 0 => "NoneType" | 1 => "bool" | 2 => "int" | 3 => "str" | 4 => "tuple" | 5 => "list" | 6 => "dict" | _ => "set"
def tyOfD (d : D) (st : Sto) : Option Nat := match d with
  | .non => some 0 | .bl _ => some 1 | .int _ => some 2 | .str _ => some 3 | .tup _ => some 4 | .lst _ => some 5 | .fro _ => some 5 | .dct _ _ => some 6
  | .loc n => (match st[n]? with
    | some (.lst _) => some 5
    | some (.dct _ _) => some 6
    | _ => none)
  | _ => none
def isSub (c k : Nat) : Bool := c == k || (c == 1 && k == 2)
/-- isinstance of a built-in type -/
def isiD (ds : List D) (st : Sto) : R D := match ds with
  | [d, .ty n] => (match tyOfD d st with
    | some c => if n = tyN 1 then .ok (.bl (isSub c 1)) st else if n = tyN 2 then .ok (.bl (isSub c 2)) st else if n = tyN 3 then .ok (.bl (isSub c 3)) st
      else if n = tyN 4 then .ok (.bl (isSub c 4)) st else if n = tyN 5 then .ok (.bl (isSub c 5)) st else if n = tyN 6 then .ok (.bl (isSub c 6)) st else .bad
    | none => .bad)
  | _ => .bad
section
variable {X : Cx}
theorem RepL.one {K : PySem.W.Frag} {H : Hp} {io : Io} {d : D} {xs : List V} (r : RepL K H io [d] xs) : ∃ v, xs = [v] ∧ Rep K H io d v := by
  obtain ⟨v, r, rfl, h, h2⟩ := r
  cases h2
  exact ⟨v, rfl, h⟩
theorem RepL.two {K : PySem.W.Frag} {H : Hp} {io : Io} {d e : D} {xs : List V} (r : RepL K H io [d, e] xs) : ∃ v w, xs = [v, w] ∧ Rep K H io d v ∧ Rep K H io e w := by
  obtain ⟨v, r, rfl, h, h2⟩ := r
  obtain ⟨w, rfl, h3⟩ := h2.one
  exact ⟨v, w, rfl, h, h3⟩
theorem dict_len {ks : List KeyD} {xs : List V} (l : ks.length = xs.length) : ((ks.map keyOf).zip xs).length = ks.length := by
  rw [List.length_zip, List.length_map, ← l, Nat.min_self]
theorem len_s : CallR X (.builtin "len") (rN X.K lenD) := by
  intro pins s σ H xs us Q I r h
  obtain ⟨ds, st, io, so, rl, p⟩ := h
  cases ds with
  | nil => exact p.elim
  | cons d ds =>
    cases ds with
    | cons e ds => cases d <;> exact p.elim
    | nil =>
      obtain ⟨v, rfl, rd⟩ := rl.one
      have gen : ∀ {xs' : List D}, itemsOf d st = some xs' → Q (.int xs'.length) H → wpAny (model X.prog X.w) X.A (call (.builtin "len") us) (EP X pins σ Q) X.xe s := by
        intro xs' hi q
        obtain ⟨a, xs, rfl, rl, ha⟩ := itemsOf_at hi so rd
        refine call_len_seq pins s σ H _ us Q I r ⟨a, xs, rfl, ha, ?_⟩
        rw [← rl.len]; exact q
      have gd : ∀ {ks : List KeyD} {vs : List D}, dictOf d st = some (ks, vs) → Q (.int ks.length) H → wpAny (model X.prog X.w) X.A (call (.builtin "len") us) (EP X pins σ Q) X.xe s := by
        intro ks vs hi q
        obtain ⟨a, xs, rfl, ha, l, rl⟩ := dictOf_at hi so rd
        rw [Vals.ref1 r]
        refine d_len I (.inl ha) fun t s' I' => ⟨.int _, H, I', ⟨_, rfl⟩, ?_⟩
        rw [dict_len l]
        exact q
      have step : ∀ {m : R D}, (∀ s, d ≠ .str s) → lenD [d] st = (match itemsOf d st with | some xs => .ok (.int xs.length) st | none => (match dictOf d st with | some (ks, _) => .ok (.int ks.length) st | none => .bad)) := by
        intro _ hn
        cases d <;> first | rfl | exact absurd rfl (hn _)
      by_cases hs : ∃ z, d = .str z
      · obtain ⟨z, rfl⟩ := hs
        cases rd
        obtain ⟨hz, p⟩ := Post.ite p
        refine call_len_str pins s σ H _ us Q I r ⟨_, rfl, by rw [str_len, ← sz_eq]; exact hz, ?_⟩
        rw [str_len]
        exact p.int so
      · rw [step (m := .bad) fun z e => hs ⟨z, e⟩] at p
        cases hi : itemsOf d st with
        | some xs' =>
          rw [hi] at p
          exact gen hi (p.int so)
        | none =>
          rw [hi] at p
          cases hd : dictOf d st with
          | some kv =>
            obtain ⟨ks, vs⟩ := kv
            rw [hd] at p
            exact gd hd (p.int so)
          | none => rw [hd] at p; exact p.elim
theorem all_s (hc : X.calm = true) : CallR X (.builtin "all") (rN X.K allD) := by
  intro pins s σ H xs us Q I r h
  obtain ⟨ds, st, io, so, rl, p⟩ := h
  unfold allD at p
  split at p
  · rename_i zs
    obtain ⟨v, rfl, rd⟩ := rl.one
    cases hb : boolsOf zs with
    | none => rw [hb] at p; exact p.elim
    | some bs =>
      rw [hb] at p
      obtain ⟨a, ys, rfl, ha, rl2⟩ := rd
      have e := rl2.bools (boolsOf_eq hb)
      subst e
      exact cr_all hc pins s σ H _ us Q I r ⟨a, bs, rfl, .of ha.1, p.bl so⟩
  · exact p.elim
theorem any_s (hc : X.calm = true) : CallR X (.builtin "any") (rN X.K anyD) := by
  intro pins s σ H xs us Q I r h
  obtain ⟨ds, st, io, so, rl, p⟩ := h
  unfold anyD at p
  split at p
  · rename_i zs
    obtain ⟨v, rfl, rd⟩ := rl.one
    cases hb : boolsOf zs with
    | none => rw [hb] at p; exact p.elim
    | some bs =>
      rw [hb] at p
      obtain ⟨a, ys, rfl, ha, rl2⟩ := rd
      have e := rl2.bools (boolsOf_eq hb)
      subst e
      exact cr_any hc pins s σ H _ us Q I r ⟨a, bs, rfl, .of ha.1, p.bl so⟩
  · exact p.elim
theorem int_s : CallR X (.type "int") (rN X.K intD) := by
  intro pins s σ H xs us Q I r h
  obtain ⟨ds, st, io, so, rl, p⟩ := h
  unfold intD at p
  split at p
  · obtain ⟨v, rfl, rd⟩ := rl.one
    cases rd
    exact call_int1 pins s σ H _ us Q I r (.inl ⟨_, rfl, p.int so⟩)
  · obtain ⟨v, rfl, rd⟩ := rl.one
    cases rd
    exact call_int1 pins s σ H _ us Q I r (.inr ⟨_, rfl, p.int so⟩)
  · exact p.elim
theorem abs_s : CallR X (.builtin "abs") (rN X.K absD) := by
  intro pins s σ H xs us Q I r h
  obtain ⟨ds, st, io, so, rl, p⟩ := h
  unfold absD at p
  split at p
  · obtain ⟨v, rfl, rd⟩ := rl.one
    cases rd
    exact call_abs pins s σ H _ us Q I r ⟨_, rfl, p.int so⟩
  · exact p.elim
theorem max_s (hc : X.calm = true) : CallR X (.builtin "max") (rN X.K maxD) := by
  intro pins s σ H xs us Q I r h
  obtain ⟨ds, st, io, so, rl, p⟩ := h
  unfold maxD at p
  split at p
  · obtain ⟨v, w, rfl, rd, re⟩ := rl.two
    cases rd; cases re
    exact call_max2 hc pins s σ H _ us Q I r ⟨_, _, rfl, p.int so⟩
  · exact p.elim
theorem min_s (hc : X.calm = true) : CallR X (.builtin "min") (rN X.K minD) := by
  intro pins s σ H xs us Q I r h
  obtain ⟨ds, st, io, so, rl, p⟩ := h
  unfold minD at p
  split at p
  · obtain ⟨v, w, rfl, rd, re⟩ := rl.two
    cases rd; cases re
    exact call_min2 hc pins s σ H _ us Q I r ⟨_, _, rfl, p.int so⟩
  · exact p.elim
theorem list_s : CallR X (.type "list") (rN X.K listD) := by
  intro pins s σ H xs us Q I r h
  obtain ⟨ds, st, io, so, rl, p⟩ := h
  unfold listD at p
  split at p
  · rename_i d
    obtain ⟨v, rfl, rd⟩ := rl.one
    cases hi : itemsOf d st with
    | none => rw [hi] at p; exact p.elim
    | some zs =>
      rw [hi] at p
      obtain ⟨a, ys, rfl, rl2, ha⟩ := itemsOf_at hi so rd
      exact call_list_of pins s σ H _ us Q I r ⟨a, ys, rfl, ha, fun z n => p.newL so rl2 z n⟩
  · exact p.elim
theorem listM_s : CallR X (.type "list") (rN X.K listM) := by
  intro pins s σ H xs us Q I r h
  obtain ⟨ds, st, io, so, rl, p⟩ := h
  unfold listM at p
  split at p
  · rename_i d
    obtain ⟨v, rfl, rd⟩ := rl.one
    cases hi : itemsOf d st with
    | none => rw [hi] at p; exact p.elim
    | some zs =>
      rw [hi] at p
      obtain ⟨a, ys, rfl, rl2, ha⟩ := itemsOf_at hi so rd
      exact call_list_of pins s σ H _ us Q I r ⟨a, ys, rfl, ha, fun z n => p.pushL so rl2 z n⟩
  · exact p.elim
theorem tuple_s : CallR X (.type "tuple") (rN X.K tupleD) := by
  intro pins s σ H xs us Q I r h
  obtain ⟨ds, st, io, so, rl, p⟩ := h
  unfold tupleD at p
  split at p
  · rename_i d
    obtain ⟨v, rfl, rd⟩ := rl.one
    cases hi : itemsOf d st with
    | none => rw [hi] at p; exact p.elim
    | some zs =>
      rw [hi] at p
      obtain ⟨a, ys, rfl, rl2, ha⟩ := itemsOf_at hi so rd
      refine call_tuple_of pins s σ H _ us Q I r ⟨a, ys, rfl, ?_⟩
      rcases ha with ha | ha
      · exact .inl ⟨ha, fun z n => p.newT so rl2 z n⟩
      · exact .inr ⟨ha, p.val so ⟨a, ys, rfl, ha, rl2⟩⟩
  · exact p.elim
theorem kit_all : ∀ c : Fin 7, ∀ k : Fin 7, kitB (tyN c.val) (tyN k.val) = some (isSub c.val k.val) := by decide +kernel
theorem tyOfD_at {K : PySem.W.Frag} {H : Hp} {io : Io} {st : Sto} {d : D} {v : V} {c : Nat} (e : tyOfD d st = some c) (so : StOk K H io st) (r : Rep K H io d v) : c < 7 ∧ TyX K H v (.type (tyN c)) := by
  cases d with
  | non => cases r; cases e; exact ⟨by decide, .base .non⟩
  | bl b => cases r; cases e; exact ⟨by decide, .base (.bl b)⟩
  | int b => cases r; cases e; exact ⟨by decide, .base (.int b)⟩
  | str b => cases r; cases e; exact ⟨by decide, .base (.str _)⟩
  | tup ds =>
    obtain ⟨a, xs, rfl, p, r⟩ := r
    cases e
    refine ⟨by decide, ?_⟩
    rcases p with (p | ⟨o, p⟩) | ⟨o, its, n, l, c, _⟩
    · exact .base (.tup p)
    · exact .fTuple p
    · exact .kTuple l c
  | lst ds =>
    obtain ⟨a, xs, rfl, p, r⟩ := r
    cases e
    exact ⟨by decide, .base (.lst p.1)⟩
  | fro ds =>
    obtain ⟨a, xs, rfl, p, r⟩ := r
    cases e
    refine ⟨by decide, ?_⟩
    rcases p with ⟨o, p⟩ | ⟨o, its, n, l, c, _⟩
    · exact .base (.frz p)
    · exact .kList l c
  | dct ks vs =>
    obtain ⟨a, xs, rfl, p, l, r⟩ := r
    cases e
    exact ⟨by decide, .base (.dK p.1)⟩
  | loc n =>
    obtain ⟨a, ea, rfl⟩ := r
    cases q : st[n]? with
    | none => simp [tyOfD, q] at e
    | some b =>
      cases b with
      | lst ds =>
        simp only [tyOfD, q, Option.some.injEq] at e
        subst e
        obtain ⟨xs, e1, r1⟩ := so.ob n a _ ea q
        exact ⟨by decide, .base (.lst e1)⟩
      | dct ks vs =>
        simp only [tyOfD, q, Option.some.injEq] at e
        subst e
        obtain ⟨xs, e1, l, r1⟩ := so.ob n a _ ea q
        exact ⟨by decide, .base (.dK e1)⟩
      | ins _ _ _ => simp [tyOfD, q] at e
  | glo _ => simp [tyOfD] at e
  | ty _ => simp [tyOfD] at e
theorem isi_s : CallR X (.builtin "isinstance") (rN X.K isiD) := by
  intro pins s σ H xs us Q I r h
  obtain ⟨ds, st, io, so, rl, p⟩ := h
  unfold isiD at p
  split at p
  · rename_i d n
    obtain ⟨v, w, rfl, rd, re⟩ := rl.two
    cases re
    cases hc : tyOfD d st with
    | none => rw [hc] at p; exact p.elim
    | some c =>
      rw [hc] at p
      obtain ⟨hc7, ty⟩ := tyOfD_at hc so rd
      have fin : ∀ k : Nat, (hk : k < 7) → n = tyN k → Q (.bl (isSub c k)) H → wpAny (model X.prog X.w) X.A (call (.builtin "isinstance") us) (EP X pins σ Q) X.xe s := by
        rintro k hk rfl q
        exact call_isi pins s σ H _ us Q I r ⟨v, _, _, _, isSub c k, rfl, .ty _, ty, kit_ty (kit_all ⟨c, hc7⟩ ⟨k, hk⟩), q⟩
      simp only at p
      split at p
      · exact fin 1 (by decide) (by assumption) (p.bl so)
      split at p
      · exact fin 2 (by decide) (by assumption) (p.bl so)
      split at p
      · exact fin 3 (by decide) (by assumption) (p.bl so)
      split at p
      · exact fin 4 (by decide) (by assumption) (p.bl so)
      split at p
      · exact fin 5 (by decide) (by assumption) (p.bl so)
      split at p
      · exact fin 6 (by decide) (by assumption) (p.bl so)
      · exact p.elim
  · exact p.elim
end
end Mi

set_option maxRecDepth 100000
set_option maxHeartbeats 4000000
namespace Mi
open PySem PySem.Spec L2

/-! ### repr -/
mutual
def pyOf : D → Option PyData
  | .non => some .none
  | .bl b => some (.bool b)
  | .int i => some (.int i)
  | .str s => some (.str ⟨s.toArray⟩)
  | .tup ds => (pyOfs ds).map .tuple
  | .lst ds => (pyOfs ds).map .list
  | .fro ds => (pyOfs ds).map .list
  | .dct ks _ => (match ks with
    | [] => some (.dict [])
    | _ => none)
  | _ => none
def pyOfs : List D → Option (List PyData)
  | [] => some []
  | d :: ds => (match pyOf d, pyOfs ds with
    | some p, some ps => some (p :: ps)
    | _, _ => none)
end
def SysD (K : PySem.W.Frag) : Prop := ∃ o es n, K.lookup sysModules = some o ∧ o.data = .dict es n
section
variable {X : Cx} {pins : List (Addr × Obj)} {σ : St} {H : Hp} {s : Shared} {io : Io}
theorem not_sys (hs : SysD X.K) (I : Inv X pins σ H s) {a : Addr} {o : Obj} {vs : Array Value} {n : Nat} (h : s.heap.get? a = some o) (hd : o.data = .seq vs n) : a ≠ sysModules := by
  obtain ⟨o', es, n', hl, hd'⟩ := hs
  intro e
  rw [e, I.kIn _ _ hl] at h
  cases h
  rw [hd'] at hd
  cases hd
mutual
theorem rep_reads (hs : SysD X.K) (I : Inv X pins σ H s) : ∀ (d : D) (v : V) (u : Value) (p : PyData), pyOf d = some p → Rep X.K H io d v → RelV v u → ∃ as, Reads s.heap u p as ∧ sysModules ∉ as
  | .non, _, _, _, e, r, q => by cases e; cases r; cases q; exact ⟨_, .none, by simp⟩
  | .bl b, _, _, _, e, r, q => by cases e; cases r; cases q; exact ⟨_, .bool b, by simp⟩
  | .int i, _, _, _, e, r, q => by cases e; cases r; obtain ⟨t, rfl⟩ := q; exact ⟨_, .int i t, by simp⟩
  | .str x, _, _, _, e, r, q => by cases e; cases r; obtain ⟨t, rfl⟩ := q; exact ⟨_, .str _ t, by simp⟩
  | .tup ds, _, _, _, e, r, q => by
    obtain ⟨a, xs, rfl, hq, rl⟩ := r
    cases q
    unfold pyOf at e
    cases e2 : pyOfs ds with
    | none => rw [e2] at e; cases e
    | some ps =>
      rw [e2] at e; cases e
      obtain ⟨its, rv, ⟨o, ho, hc, n, hd⟩, _⟩ := I.tuple hq
      obtain ⟨as, hr, hn⟩ := rep_readsAll hs I ds _ its ps e2 rl rv
      exact ⟨as, .tuple ho hc hd hr, hn⟩
  | .lst ds, _, _, _, e, r, q => by
    obtain ⟨a, xs, rfl, hq, rl⟩ := r
    cases q
    unfold pyOf at e
    cases e2 : pyOfs ds with
    | none => rw [e2] at e; cases e
    | some ps =>
      rw [e2] at e; cases e
      obtain ⟨its, rv, ⟨o, n, ho, hc, _, hd⟩, _⟩ := I.list (.of hq.1)
      obtain ⟨as, hr, hn⟩ := rep_readsAll hs I ds _ its ps e2 rl rv
      exact ⟨a :: as, .list ho hc hd hr, fun m => by
        rcases List.mem_cons.mp m with m | m
        · exact not_sys hs I ho hd m.symm
        · exact hn m⟩
  | .fro ds, _, _, _, e, r, q => by
    obtain ⟨a, xs, rfl, hq, rl⟩ := r
    cases q
    unfold pyOf at e
    cases e2 : pyOfs ds with
    | none => rw [e2] at e; cases e
    | some ps =>
      rw [e2] at e; cases e
      obtain ⟨its, rv, ⟨o, n, ho, hc, _, hd⟩, _⟩ := I.list hq.sql
      obtain ⟨as, hr, hn⟩ := rep_readsAll hs I ds _ its ps e2 rl rv
      exact ⟨a :: as, .list ho hc hd hr, fun m => by
        rcases List.mem_cons.mp m with m | m
        · exact not_sys hs I ho hd m.symm
        · exact hn m⟩
  | .dct ks vs, _, _, _, e, r, q => by
    obtain ⟨a, xs, rfl, hq, hl, rl⟩ := r
    cases q
    cases ks with
    | cons k ks => simp [pyOf] at e
    | nil =>
      simp only [pyOf, Option.some.injEq] at e
      subst e
      obtain ⟨hz, hS, kvs, rk, o, es, ep, ho, hex, hd, hk, hp, hn⟩ : ([] : List (Key × V)).length ≤ sizeLine ∧ (a == sysModules) = false ∧ ∃ vs, KV ([] : List (Key × V)) vs ∧ s.heap.DictOf (mixKind X.prog X.w) a vs := I.hok a _ hq.1
      cases rk
      have he : es.toList = [] := by
        cases h : es.toList with
        | nil => rfl
        | cons _ _ => rw [h] at hp; cases hp
      refine ⟨[a], .dict (as := []) (bs := []) ho hex.1 hd (by rw [he]; exact .nil) (by rw [he]; exact .nil), fun m => ?_⟩
      rw [List.mem_singleton] at m
      exact absurd m.symm (beq_eq_false_iff_ne.mp hS)
  | .loc _, _, _, _, e, _, _ => by simp [pyOf] at e
  | .glo _, _, _, _, e, _, _ => by simp [pyOf] at e
  | .ty _, _, _, _, e, _, _ => by simp [pyOf] at e
theorem rep_readsAll (hs : SysD X.K) (I : Inv X pins σ H s) : ∀ (ds : List D) (vs : List V) (us : List Value) (ps : List PyData), pyOfs ds = some ps → RepL X.K H io ds vs → Vals vs us → ∃ as, ReadsAll s.heap us ps as ∧ sysModules ∉ as
  | [], _, _, _, e, r, q => by cases e; cases r; cases q; exact ⟨_, .nil, by simp⟩
  | d :: ds, _, _, _, e, r, q => by
    obtain ⟨v, vs, rfl, r1, r2⟩ := r
    cases q with
    | cons q1 q2 =>
      unfold pyOfs at e
      cases e1 : pyOf d with
      | none => rw [e1] at e; cases e
      | some p =>
        cases e2 : pyOfs ds with
        | none => rw [e1, e2] at e; cases e
        | some ps =>
          rw [e1, e2] at e; cases e
          obtain ⟨as, h1, n1⟩ := rep_reads hs I d _ _ p e1 r1 q1
          obtain ⟨bs, h2, n2⟩ := rep_readsAll hs I ds _ _ ps e2 r2 q2
          exact ⟨as ++ bs, .cons h1 h2, fun m => (List.mem_append.mp m).elim n1 n2⟩
end
def shownD (d : D) : Option (List Nat) := match pyOf d with
  | some p => if p.showable = true ∧ p.depth ≤ 40 ∧ p.shown.length ≤ sz then some p.shown.cps.toList else none
  | none => none
def reprD (ds : List D) (st : Sto) : R D := match ds with
  | [d] => (match shownD d with
    | some x => .ok (.str x) st
    | none => .bad)
  | _ => .bad
theorem str_back (x : Str) : (⟨x.cps.toList.toArray⟩ : Str) = x := by
  obtain ⟨c⟩ := x
  simp
theorem repr_s (hu : X.A.units + 64 < cLine) (hg : X.A.guards = some []) (hs : SysD X.K) : CallR X (.builtin "repr") (rN X.K reprD) := by
  intro pins s σ H xs us Q I r h
  obtain ⟨ds, st, io, so, rl, p⟩ := h
  unfold reprD at p
  split at p
  · rename_i d
    obtain ⟨v, rfl, rd⟩ := rl.one
    unfold shownD at p
    cases e : pyOf d with
    | none => simp only [e] at p; exact p.elim
    | some q =>
      simp only [e] at p
      by_cases hc : q.showable = true ∧ q.depth ≤ 40 ∧ q.shown.length ≤ sz
      · rw [if_pos hc] at p
        obtain ⟨h1, h2, h3⟩ := hc
        rw [sz_eq] at h3
        have hq := p.str so
        rw [str_back] at hq
        cases r with
        | cons r rr =>
          cases rr
          rename_i u
          obtain ⟨as, hr, hn⟩ := rep_reads hs I d v u q e rd r
          have fin : ∀ (t : Tok) (s' : Shared), Inv X pins σ H s' → EP X pins σ Q (.str q.shown t) s' := fun t s' I' => ⟨.str q.shown, H, I', ⟨t, rfl⟩, hq⟩
          cases hr with
          | none => exact PySem.P.repr_of_none (fin _ _ (I.tok _))
          | bool b => exact PySem.P.repr_of_bool (fin _ _ (I.tok _))
          | int i t => exact PySem.P.repr_of_int (by simpa [PyData.showable] using h1) (fin _ _ (I.tok _))
          | str x t => exact PySem.P.repr_of_str (fin _ _ (I.tok _)) h3
          | list a1 a2 a3 a4 => exact repr_of_reads' (.list a1 a2 a3 a4) h1 (fun _ => hn) hg (by omega) (fun _ _ z => z) (fun h' u tk k => fin _ _ (I.kept k)) h3
          | tuple a1 a2 a3 a4 => exact repr_of_reads' (.tuple a1 a2 a3 a4) h1 (fun _ => hn) hg (by omega) (fun _ _ z => z) (fun h' u tk k => fin _ _ (I.kept k)) h3
          | dict a1 a2 a3 a4 a5 => exact repr_of_reads' (.dict a1 a2 a3 a4 a5) h1 (fun _ => hn) hg (by omega) (fun _ _ z => z) (fun h' u tk k => fin _ _ (I.kept k)) h3
      · rw [if_neg hc] at p; exact p.elim
  · exact p.elim
end
end Mi

set_option maxRecDepth 100000
set_option maxHeartbeats 4000000
namespace Mi
open PySem PySem.Spec L2

/-! ### sorted(set(..)) of ints -/
def insU (x : Int) : List Int → List Int
  | [] => [x]
  | y :: r => if x < y then x :: y :: r else if x = y then y :: r else y :: insU x r
def sortU : List Int → List Int
  | [] => []
  | x :: r => insU x (sortU r)
theorem mem_insU (x z : Int) : ∀ l : List Int, z ∈ insU x l ↔ z = x ∨ z ∈ l
  | [] => by simp [insU]
  | y :: r => by
    unfold insU
    split
    · simp
    · split
      · rename_i h; subst h; simp
      · rw [List.mem_cons, mem_insU x z r, List.mem_cons]
        constructor
        · rintro (h | h | h)
          · exact .inr (.inl h)
          · exact .inl h
          · exact .inr (.inr h)
        · rintro (h | h | h)
          · exact .inr (.inl h)
          · exact .inl h
          · exact .inr (.inr h)
theorem mem_sortU (z : Int) : ∀ l : List Int, z ∈ sortU l ↔ z ∈ l
  | [] => by simp [sortU]
  | x :: r => by unfold sortU; rw [mem_insU, mem_sortU z r, List.mem_cons]
theorem insU_up (x : Int) : ∀ {l : List Int}, l.Pairwise (· < ·) → (insU x l).Pairwise (· < ·)
  | [], _ => by simp [insU]
  | y :: r, h => by
    rw [List.pairwise_cons] at h
    unfold insU
    split
    · rename_i hxy
      rw [List.pairwise_cons]
      refine ⟨fun z hz => ?_, by rw [List.pairwise_cons]; exact h⟩
      rcases List.mem_cons.mp hz with e | hz
      · rw [e]; exact hxy
      · have := h.1 z hz; omega
    · split
      · rw [List.pairwise_cons]; exact h
      · rw [List.pairwise_cons]
        refine ⟨fun z hz => ?_, insU_up x h.2⟩
        rcases (mem_insU x z r).mp hz with e | hz
        · omega
        · exact h.1 z hz
theorem sortU_up : ∀ l : List Int, (sortU l).Pairwise (· < ·)
  | [] => by simp [sortU]
  | x :: r => insU_up x (sortU_up r)
theorem up_eq : ∀ {a b : List Int}, a.Pairwise (· < ·) → b.Pairwise (· < ·) → (∀ z, z ∈ a ↔ z ∈ b) → a = b
  | [], [], _, _, _ => rfl
  | [], y :: b, _, _, h => by have := (h y).mpr (by simp); simp at this
  | x :: a, [], _, _, h => by have := (h x).mp (by simp); simp at this
  | x :: a, y :: b, ha, hb, h => by
    rw [List.pairwise_cons] at ha hb
    have e : x = y := by
      have h1 := (h x).mp (by simp)
      have h2 := (h y).mpr (by simp)
      rcases List.mem_cons.mp h1 with e | h1
      · exact e
      · rcases List.mem_cons.mp h2 with e | h2
        · exact e.symm
        · have q1 := hb.1 x h1
          have q2 := ha.1 y h2
          omega
    subst e
    congr 1
    refine up_eq ha.2 hb.2 fun z => ⟨fun hz => ?_, fun hz => ?_⟩
    · rcases List.mem_cons.mp ((h z).mp (List.mem_cons_of_mem _ hz)) with e | q
      · have := ha.1 z hz; omega
      · exact q
    · rcases List.mem_cons.mp ((h z).mpr (List.mem_cons_of_mem _ hz)) with e | q
      · have := hb.1 z hz; omega
      · exact q
theorem sortU_id {l : List Int} (h : l.Pairwise (· < ·)) : sortU l = l := up_eq (sortU_up l) h fun z => mem_sortU z l
def intsOf : List D → Option (List Int)
  | [] => some []
  | .int i :: ds => (intsOf ds).map (i :: ·)
  | _ :: _ => none
theorem intsOf_eq : ∀ {ds : List D} {ns : List Int}, intsOf ds = some ns → ds = ns.map D.int
  | [], _, h => by cases h; rfl
  | .int i :: ds, ns, h => by
    unfold intsOf at h
    cases q : intsOf ds with
    | none => rw [q] at h; cases h
    | some cs => rw [q] at h; cases h; rw [intsOf_eq q]; rfl
  | .non :: _, _, h | .bl _ :: _, _, h | .str _ :: _, _, h | .tup _ :: _, _, h | .lst _ :: _, _, h | .fro _ :: _, _, h | .dct _ _ :: _, _, h | .loc _ :: _, _, h | .glo _ :: _, _, h | .ty _ :: _, _, h => by simp [intsOf] at h
theorem intsOf_map (ns : List Int) : intsOf (ns.map D.int) = some ns := by
  induction ns with
  | nil => rfl
  | cons b bs ih => simp [intsOf, ih]
def ssetD (d : D) (st : Sto) : R D := match d with
  | .tup ds => (match intsOf ds with
    | some ns => if ns.length < 64 then .ok (.lst ((sortU ns).map .int)) st else .bad
    | none => .bad)
  | _ => .bad
/-! ### .upper() -/
def upperD (d : D) (st : Sto) : R D := match d with
  | .str s => if s.length ≤ 5592405 then .ok (.str (Txt.upper ⟨s.toArray⟩).cps.toList) st else .bad
  | _ => .bad
section
variable {X : Cx}
def rSetTI (K : PySem.W.Frag) (w : World) : List V → Hp → VK → Prop := fun vs H Q => ∃ (a : Addr) (ns : List Int), vs = [.ref a] ∧ SqT K H a (ns.map V.int) ∧ ns.length ≤ 1000 ∧ ∀ (q : Addr) (c : Nat), c ≤ ns.length → H q = none → Q (.ref q) (upd H q (SetO w q (fun j => decide (j ∈ ns)) c))
theorem cr_setTI (hc : X.calm = true) : CallR X (.type "set") (rSetTI X.K X.w) := by
  intro pins s σ H xs us Q I r h
  obtain ⟨a, ns, rfl, hq, hl, q⟩ := h
  cases r with
  | cons r rr =>
    cases rr
    cases r
    obtain ⟨its, rv, pt, hz⟩ := I.tuple hq
    refine call_set_tupI ns (I.ok.hd hc) (show s.heap.IsTuple a its.toArray from pt) (ints_of_vals rv) (by unfold scanBound; omega) fun h' tk c R1 hcn k => ?_
    exact ⟨.ref s.heap.objs.size, _, I.laid k (Nat.le_refl _) (setO_new R1), rfl, q _ c hcn (I.hok.fresh (Nat.le_refl _))⟩
end
end Mi

set_option maxRecDepth 100000
set_option maxHeartbeats 4000000
namespace Mi
open PySem PySem.Spec L2

/-! ### the code -/
inductive B2 where
  | add | sub | mul | div | mod | pow
  deriving DecidableEq
inductive C2 where
  | eq | ne | lt | le | gt | ge | inn | notin
  deriving DecidableEq
inductive Bf where
  | len | all | any | int | abs | max | min | list | listM | tuple | isi | repr
  deriving DecidableEq
/-- what a walk walks: a list or tuple; a range; zip of two tuples; a text -/
inductive Ik where
  | seq | range1 | range2 | zip
  deriving DecidableEq
inductive E where
  | nil | cons (a r : E)
  | var (i : Nat) | int (i : Int) | str (s : List Nat) | bool (b : Bool) | non
  | glo (x : Str) | ty (n : String)
  | bin (o : B2) (a b : E) | neg (a : E)
  | and (a b : E) | or (a b : E) | not (a : E)
  | cmp (o : C2) (a b : E) | chain (o o2 : C2) (a b c : E) | isn (a : E) | notn (a : E)
  | ite (c a b : E)
  | tup (es : E) | lst (m : Bool) (es : E) | edct
  | idx (a b : E) | get (a b : E) | sl (a lo hi : E) | rev (a : E)
  | bcall (f : Bf) (es : E) | sset (a : E) | upper (a : E)
  | call (f : Str) (es : E) | callv (i : Nat) (es : E) | callk (f : Str) (k : Str) (e : E)
  | lc (k : Ik) (is : List Nat) (un : Bool) (own : List (Str × Nat)) (src cond elt : E)

abbrev Call := Str → List D → Sto → R D
/-- what is known of a module: names it has not; its own defs; its data -/
structure Gs where
  no : List Str
  fns : List (Str × List Str)
  glo : List (Str × D)
def b2 : B2 → D → D → Sto → R D
  | .add => addD | .sub => subD | .mul => mulD | .div => divD | .mod => modD | .pow => powD
def c2 : C2 → D → D → Sto → R D
  | .eq => eqD | .ne => neD | .lt => ltI fun i j => decide (i < j) | .le => ltI fun i j => decide (i ≤ j) | .gt => ltI fun i j => decide (j < i) | .ge => ltI fun i j => decide (j ≤ i)
  | .inn => inD | .notin => notInD
def bf : Bf → List D → Sto → R D
  | .len => lenD | .all => allD | .any => anyD | .int => intD | .abs => absD | .max => maxD | .min => minD | .list => listD | .listM => listM | .tuple => tupleD | .isi => isiD | .repr => reprD
def negD (d : D) (st : Sto) : R D := match d with
  | .int i => .ok (.int (-i)) st
  | _ => .bad
def isNon : D → Bool
  | .non => true
  | _ => false
def revD (d : D) (st : Sto) : R D := match d with
  | .tup ds => .ok (.tup ds.reverse) st
  | _ => .bad
def seqD (d : D) : Option (List D) := match d with
  | .tup ds => some ds
  | .lst ds => some ds
  | .fro ds => some ds
  | .str s => some (s.map fun c => .str [c])
  | _ => none
def one1 (ds : List D) : Option (List D) := match ds with
  | [d] => seqD d
  | _ => none
def rng1 (ds : List D) : Option (List D) := match ds with
  | [.int j] => if -(2 ^ 62) ≤ j ∧ j < 2 ^ 62 then some ((List.range j.toNat).map fun i : Nat => .int (0 + (i : Int))) else none
  | _ => none
def rng2 (ds : List D) : Option (List D) := match ds with
  | [.int i, .int j] => if -(2 ^ 62) ≤ i ∧ i < 2 ^ 62 ∧ -(2 ^ 62) ≤ j ∧ j < 2 ^ 62 then some ((List.range (j - i).toNat).map fun m : Nat => .int (i + (m : Int))) else none
  | _ => none
def zip2 (ds : List D) : Option (List D) := match ds with
  | [.tup xs, .tup ys] => some ((xs.zip ys).map fun p => .tup [p.1, p.2])
  | _ => none
/-- what a walk walks -/
def walkOf (k : Ik) : List D → Option (List D) := match k with
  | .seq => one1
  | .range1 => rng1
  | .range2 => rng2
  | .zip => zip2
/-- the names of a target are set -/
def setAll : List Nat → List D → En → Option En
  | [], [], en => some en
  | i :: is, d :: ds, en => setAll is ds (en.set i (some d))
  | _, _, _ => none
/-- a target: one name, or names that a tuple is taken apart into -/
def setT (is : List Nat) (un : Bool) (d : D) (en : En) : Option En := match un, is, d with
  | false, [i], d => some (en.set i (some d))
  | true, is, .tup ds => setAll is ds en
  | _, _, _ => none
def tru (r : R D) : R Bool := r.bind fun d st => match truthD d st with
  | some b => .ok b st
  | none => .bad
/-- a comprehension's turns -/
def lcRun (is : List Nat) (un : Bool) (cond : En → Sto → R Bool) (elt : En → Sto → R D) : List D → En → Sto → List D → R (List D)
  | [], _, st, acc => .ok acc st
  | x :: xs, en, st, acc => match setT is un x en with
    | none => .bad
    | some en' => (cond en' st).bind fun b st => match b with
      | true => (elt en' st).bind fun y st => if acc.length < sz then lcRun is un cond elt xs en st (acc ++ [y]) else .bad
      | false => lcRun is un cond elt xs en st acc
/-- no exception gets out -/
def shut {α : Type} : R α → R α
  | .exc _ _ => .bad
  | r => r

@[simp] theorem shut_ok {α : Type} (a : α) (st : Sto) : shut (R.ok a st) = .ok a st := rfl
@[simp] theorem shut_bad {α : Type} : shut (R.bad : R α) = .bad := rfl

mutual
def ev (G : Gs) (C : Call) : E → En → Sto → R D
  | .var i, en, st => (match en[i]? with
    | some (some d) => .ok d st
    | _ => .bad)
  | .int i, _, st => .ok (.int i) st
  | .str s, _, st => .ok (.str s) st
  | .bool b, _, st => .ok (.bl b) st
  | .non, _, st => .ok .non st
  | .glo x, _, st => (match G.glo.lookup x with
    | some d => .ok d st
    | none => .bad)
  | .ty n, _, st => .ok (.ty n) st
  | .bin o a b, en, st => (ev G C a en st).bind fun x st => (ev G C b en st).bind fun y st => shut (b2 o x y st)
  | .neg a, en, st => (ev G C a en st).bind fun x st => shut (negD x st)
  | .and a b, en, st => (ev G C a en st).bind fun x st => (match truthD x st with
    | some true => ev G C b en st
    | some false => .ok x st
    | none => .bad)
  | .or a b, en, st => (ev G C a en st).bind fun x st => (match truthD x st with
    | some true => .ok x st
    | some false => ev G C b en st
    | none => .bad)
  | .not a, en, st => (ev G C a en st).bind fun x st => (match truthD x st with
    | some b => .ok (.bl (!b)) st
    | none => .bad)
  | .cmp o a b, en, st => (ev G C a en st).bind fun x st => (ev G C b en st).bind fun y st => shut (c2 o x y st)
  | .isn a, en, st => (ev G C a en st).bind fun x st => .ok (.bl (isNon x)) st
  | .notn a, en, st => (ev G C a en st).bind fun x st => .ok (.bl (!isNon x)) st
  | .chain o o2 a b c, en, st => (ev G C a en st).bind fun x st => (ev G C b en st).bind fun y st => (shut (c2 o x y st)).bind fun r st => (match r with
    | .bl true => (ev G C c en st).bind fun z st => shut (c2 o2 y z st)
    | .bl false => .ok (.bl false) st
    | _ => .bad)
  | .ite c a b, en, st => (tru (ev G C c en st)).bind fun k st => (match k with
    | true => ev G C a en st
    | false => ev G C b en st)
  | .tup es, en, st => (evs G C es en st).bind fun ds st => if ds.length ≤ sz then .ok (.tup ds) st else .bad
  | .lst m es, en, st => (evs G C es en st).bind fun ds st => if ds.length ≤ sz then (match m with
    | false => .ok (.lst ds) st
    | true => .ok (.loc st.length) (st ++ [.lst ds])) else .bad
  | .edct, _, st => .ok (.dct [] []) st
  | .idx a b, en, st => (ev G C a en st).bind fun x st => (ev G C b en st).bind fun y st => shut (idxD x y st)
  | .get a b, en, st => (ev G C a en st).bind fun x st => (ev G C b en st).bind fun y st => shut (getD x y st)
  | .sl a lo hi, en, st => (ev G C a en st).bind fun x st => (part G C lo en st).bind fun l st => (part G C hi en st).bind fun u st => shut (slD x l u st)
  | .rev a, en, st => (ev G C a en st).bind fun x st => shut (revD x st)
  | .sset a, en, st => (ev G C a en st).bind fun x st => shut (ssetD x st)
  | .upper a, en, st => (ev G C a en st).bind fun x st => shut (upperD x st)
  | .bcall f es, en, st => (evs G C es en st).bind fun ds st => shut (bf f ds st)
  | .call f es, en, st => (evs G C es en st).bind fun ds st => C f ds st
  | .callv i es, en, st => (match en[i]? with
    | some (some (.glo f)) => if (G.fns.lookup f).isSome = true then (evs G C es en st).bind fun ds st => C f ds st else .bad
    | _ => .bad)
  | .callk f _ e, en, st => (ev G C e en st).bind fun d st => C f [d] st
  | .lc k is un own src cond elt, en, st => (evs G C src en st).bind fun ds st => (match walkOf k ds with
    | none => .bad
    | some xs => (shut (lcRun is un (evc G C cond) (ev G C elt) xs (wipeE en (own.map (·.2))) st [])).bind fun ds st => .ok (.lst ds) st)
  | .nil, _, _ => .bad
  | .cons _ _, _, _ => .bad
termination_by structural e => e
def evs (G : Gs) (C : Call) : E → En → Sto → R (List D)
  | .nil, _, st => .ok [] st
  | .cons a r, en, st => (ev G C a en st).bind fun x st => (evs G C r en st).bind fun xs st => .ok (x :: xs) st
  | _, _, _ => .bad
termination_by structural e => e
/-- a part of a slice: nil stands for none -/
def part (G : Gs) (C : Call) : E → En → Sto → R (Option Int)
  | .nil, _, st => .ok none st
  | .cons a .nil, en, st => (ev G C a en st).bind fun x st => (match x with
    | .int i => .ok (some i) st
    | _ => .bad)
  | _, _, _ => .bad
termination_by structural e => e
/-- a block's test, nil for none -/
def evc (G : Gs) (C : Call) : E → En → Sto → R Bool
  | .nil, _, st => .ok true st
  | .cons a .nil, en, st => tru (ev G C a en st)
  | _, _, _ => .bad
termination_by structural e => e
end
example (G : Gs) (C : Call) (en : En) (st : Sto) : ev G C (.bin .add (.int 3) (.int 4)) en st = .ok (.int 7) st := rfl
end Mi

set_option maxRecDepth 100000
set_option maxHeartbeats 4000000
namespace Mi
open PySem PySem.Spec L2

/-! ### weakening -/
section
variable {X : Cx}
theorem PEimp {e : Expr} {t t' : TE} (h : PE X e t) (i : ∀ σ H Q, t' σ H Q → t σ H Q) : PE X e t' := ⟨fun pins s σ H Q I w => h.run pins s σ H Q I (i _ _ _ w)⟩
theorem PTimp {e : Expr} {t t' : TT} (h : PT X e t) (i : ∀ σ H Q, t' σ H Q → t σ H Q) : PT X e t' := ⟨fun pins s σ H Q I w => h.run pins s σ H Q I (i _ _ _ w)⟩
theorem PWimp {e : Expr} {t t' : TT} (h : PW X e t) (i : ∀ σ H Q, t' σ H Q → t σ H Q) : PW X e t' := ⟨fun wh pins s σ H Q I w => h.run wh pins s σ H Q I (i _ _ _ w)⟩
theorem PAimp {e : List Expr} {t t' : TA} (h : PA X e t) (i : ∀ σ H Q, t' σ H Q → t σ H Q) : PA X e t' := ⟨fun pos pins s σ H Q I w => h.run pos pins s σ H Q I (i _ _ _ w)⟩
theorem POimp {e : Option Expr} {t t' : TO} (h : PO X e t) (i : ∀ σ H Q, t' σ H Q → t σ H Q) : PO X e t' := ⟨fun pins s σ H Q I w => h.run pins s σ H Q I (i _ _ _ w)⟩
theorem PIimp {tg iter : Expr} {t t' : TI} (h : PI X tg iter t) (i : ∀ σ H R, t' σ H R → t σ H R) : PI X tg iter t' := ⟨fun pins s σ H Q I w => h.run pins s σ H Q I (i _ _ _ w)⟩
theorem PSimp {e : Stmt} {t t' : TS} (h : PS X e t) (i : ∀ D σ H, t' D σ H → t D σ H) : PS X e t' := ⟨fun pins s σ H Q I w => h.run pins s σ H Q I (i _ _ _ w)⟩
theorem PSsimp {e : List Stmt} {t t' : TS} (h : PSs X e t) (i : ∀ D σ H, t' D σ H → t D σ H) : PSs X e t' := ⟨fun pins s σ H Q I w => h.run pins s σ H Q I (i _ _ _ w)⟩
end
theorem Post.shut {K : PySem.W.Frag} {io : Io} {H : Hp} {W W' : XK} {α β : Type} {Rp : Hp → Io → α → β → Prop} {r : R α} {Q : β → Hp → Prop} (p : Post K io H W Rp (shut r) Q) : Post K io H W' Rp r Q := by
  cases r with
  | ok a st => exact p
  | exc x st => exact p.elim
  | bad => exact p.elim
/-- a reading by what the small language answers -/
def tG (K : PySem.W.Frag) (W : WX) {α β : Type} (Rp : Hp → Io → α → β → Prop) (m : En → Sto → R α) : St → Hp → (β → Hp → Prop) → Prop :=
  fun σ H Q => ∃ en st io, EnvR K H io en σ ∧ StOk K H io st ∧ Post K io H (fun c d H' => W c d σ H') Rp (m en st) Q
abbrev RpO : Hp → Io → Option Int → Option Int → Prop := fun _ _ d v => d = v
theorem tE_eq {K : PySem.W.Frag} {W : WX} {m : En → Sto → R D} : tE K W m = tG K W (RpD K) m := rfl
theorem tT_eq {K : PySem.W.Frag} {W : WX} {m : En → Sto → R Bool} : tT K W m = tG K W RpB m := rfl
theorem tA_eq {K : PySem.W.Frag} {W : WX} {m : En → Sto → R (List D)} : tA K W m = tG K W (RpL K) m := rfl
abbrev tO (K : PySem.W.Frag) (W : WX) (m : En → Sto → R (Option Int)) : TO := tG K W RpO m
section
variable {K : PySem.W.Frag} {W : WX} {α β α' β' α'' β'' : Type} {Rp : Hp → Io → α → β → Prop} {Rp' : Hp → Io → α' → β' → Prop} {Rp'' : Hp → Io → α'' → β'' → Prop}
/-- one step -/
theorem tG.step {m : En → Sto → R α} {f : En → α → Sto → R α'} {σ : St} {H : Hp} {Q : β' → Hp → Prop} (h : tG K W Rp' (fun en st => (m en st).bind fun x st => f en x st) σ H Q) :
    tG K W Rp m σ H fun v H1 => ∃ en d io1 st1, EnvR K H1 io1 en σ ∧ StOk K H1 io1 st1 ∧ Rp H1 io1 d v ∧ Post K io1 H1 (fun c d H' => W c d σ H') Rp' (f en d st1) Q := by
  obtain ⟨en, st, io, er, so, p⟩ := h
  exact ⟨en, st, io, er, so, (Post.bind (Rp := Rp) p).mono fun v H1 ⟨d, io1, st1, x, s1, r, p1⟩ => ⟨en, d, io1, st1, er.ext x, s1, r, p1⟩⟩
/-- two steps, the first value carried -/
theorem tG.step2 {m : En → Sto → R α} {m2 : En → Sto → R α'} {f : En → α → α' → Sto → R α''} {σ : St} {H : Hp} {Q : β'' → Hp → Prop} (hx : ∀ {H1 H2 : Hp} {io1 io2 : Io} {d : α} {v : β}, Ext io1 H1 io2 H2 → Rp H1 io1 d v → Rp H2 io2 d v)
    (h : tG K W Rp'' (fun en st => (m en st).bind fun x st => (m2 en st).bind fun y st => f en x y st) σ H Q) :
    tG K W Rp m σ H fun v H1 => tG K W Rp' m2 σ H1 fun u H2 => ∃ en d e io2 st2, EnvR K H2 io2 en σ ∧ StOk K H2 io2 st2 ∧ Rp H2 io2 d v ∧ Rp' H2 io2 e u ∧ Post K io2 H2 (fun c d H' => W c d σ H') Rp'' (f en d e st2) Q := by
  obtain ⟨en, st, io, er, so, p⟩ := h
  refine ⟨en, st, io, er, so, (Post.bind (Rp := Rp) p).mono fun v H1 ⟨d, io1, st1, x, s1, r, p1⟩ => ?_⟩
  exact ⟨en, st1, io1, er.ext x, s1, (Post.bind (Rp := Rp') p1).mono fun u H2 ⟨e, io2, st2, x2, s2, r2, p2⟩ => ⟨en, d, e, io2, st2, (er.ext x).ext x2, s2, hx x2 r, r2, p2⟩⟩
theorem tG.mono {m : En → Sto → R α} {σ : St} {H : Hp} {Q Q' : β → Hp → Prop} (h : tG K W Rp m σ H Q) (i : ∀ v H, Q v H → Q' v H) : tG K W Rp m σ H Q' := by
  obtain ⟨en, st, io, er, so, p⟩ := h
  exact ⟨en, st, io, er, so, p.mono i⟩
theorem tG.imp {m m' : En → Sto → R α} {σ : St} {H : Hp} {Q : β → Hp → Prop} (h : tG K W Rp m σ H Q) (i : ∀ en st, m en st = m' en st) : tG K W Rp m' σ H Q := by
  obtain ⟨en, st, io, er, so, p⟩ := h
  exact ⟨en, st, io, er, so, by rw [← i]; exact p⟩
end

/-! ### an own def's promise -/
structure RoomG (k : Nat) (A : Around) : Prop where
  room : Room k A
  gd : A.guards = some []
theorem RoomG.deeper {k : Nat} {A : Around} (r : RoomG (k + 1) A) (env : Env) : RoomG k (A.deeper env) := ⟨r.room.deeper env, r.gd⟩
theorem RoomG.mono {j k : Nat} {A : Around} (r : RoomG k A) (h : j ≤ k) : RoomG j A := ⟨r.room.mono h, r.gd⟩
/-- how the arguments are given: by place, or the one of them by name -/
inductive Given (ps : List Str) (us : List Value) : Args → Prop where
  | pl : Given ps us ⟨us, []⟩
  | kw {p : Str} {u : Value} (hp : ps = [p]) (hu : us = [u]) : Given ps us ⟨[], [(p, u)]⟩
/-- the def at f computes m -/
structure FnG (P : Program) (w : World) (K : PySem.W.Frag) (mg : Str → Option Value) (base : Heap) (k : Nat) (f : Addr) (ps : List Str) (m : List D → Sto → R D) : Prop where
  run : ∀ (A : Around) (outer : List Env) (s : Shared) (H : Hp) (args : Args) (us : List Value) (vs : List V) (ds : List D) (st : Sto) (io : Io) (Q : VK) (E : XK), RoomG k A → Env0 P w K mg base A outer s H →
    Given ps us args → Vals vs us → StOk K H io st → RepL K H io ds vs → Post K io H E (RpD K) (m ds st) Q →
    codeAny (model P w) A (.call (.ref f) args) (CR (L2.CX P w) outer P w H s Q E) s
theorem FnG.mono {P : Program} {w : World} {K : PySem.W.Frag} {mg : Str → Option Value} {base : Heap} {j k : Nat} {f : Addr} {ps : List Str} {m : List D → Sto → R D} (F : FnG P w K mg base j f ps m) (h : j ≤ k) : FnG P w K mg base k f ps m :=
  ⟨fun A outer s H args us vs ds st io Q E hr => F.run A outer s H args us vs ds st io Q E (hr.mono h)⟩
/-- what a def's body leans on -/
structure Good (G : Gs) (C : Call) (X : Cx) (W : WX) : Prop where
  calm : X.calm = true
  nd : X.N.Nodup
  kind : X.env.scope.kind = .function
  lev : ∃ k, RoomG k X.A ∧ ∀ f ps, G.fns.lookup f = some ps → X.mg f = some (.ref (He.ga X.K f)) ∧ PySem.W.keepIn X.K (.ref (He.ga X.K f)) = true ∧ FnG X.prog X.w X.K X.mg X.base k (He.ga X.K f) ps (C f)
  no : ∀ x ∈ G.no, X.mg x = none
  glo : ∀ x d, G.glo.lookup x = some d → ∃ u v, X.mg x = some u ∧ RelV v u ∧ ∀ H io, Rep X.K H io d v
  tk : Takes X W
  sysm : SysD X.K
section
variable {G : Gs} {C : Call} {X : Cx} {W : WX} {k : Nat} {f : Addr} {m : List D → Sto → R D} {x : Str} {p pos : Pos} {e : Expr} {es : List Expr} {ps : List Str}
theorem Good.hu (g : Good G C X W) : X.A.units + 64 < cLine := let ⟨_, r, _⟩ := g.lev; r.room.units
theorem Good.gd (g : Good G C X W) : X.A.guards = some [] := let ⟨_, r, _⟩ := g.lev; r.gd
/-- the callee runs -/
theorem run_fnG {pins : List (Addr × Obj)} {σ : St} {H : Hp} {s : Shared} {Q : VK} {args : Args} {us : List Value} {vs : List V} {ds : List D} {st : Sto} {io : Io} (F : FnG X.prog X.w X.K X.mg X.base k f ps m) (hr : RoomG k X.A) (tk : Takes X W)
    (I : Inv X pins σ H s) (hg : Given ps us args) (r : Vals vs us) (so : StOk X.K H io st) (rl : RepL X.K H io ds vs) (h : Post X.K io H (fun c d H' => W c d σ H') (RpD X.K) (m ds st) Q) :
    codeAny (model X.prog X.w) X.A (.call (.ref f) args) (fun r s' => match r with
      | .ok (.ret u) => EP X pins σ Q u s'
      | .ok _ => False
      | .error e => X.xe e s') s := by
  refine codeAny_mono (F.run X.A X.stack s H args us vs ds st io Q _ hr I.env0 hg r so rl h) fun r s' hq => ?_
  cases r with
  | error e => exact passAt tk σ pins H s e s' I hq
  | ok fl =>
    cases fl with
    | ret u => exact I.after hq
    | next => exact False.elim hq
    | brk => exact False.elim hq
    | cont => exact False.elim hq
theorem call_fnG {pins : List (Addr × Obj)} {σ : St} {H : Hp} {s : Shared} {Q : VK} {us : List Value} {vs : List V} {ds : List D} {st : Sto} {io : Io} (F : FnG X.prog X.w X.K X.mg X.base k f ps m) (hr : RoomG k X.A) (tk : Takes X W)
    (I : Inv X pins σ H s) (r : Vals vs us) (so : StOk X.K H io st) (rl : RepL X.K H io ds vs) (h : Post X.K io H (fun c d H' => W c d σ H') (RpD X.K) (m ds st) Q) :
    wpAny (model X.prog X.w) X.A (call (.ref f) us) (EP X pins σ Q) X.xe s := by
  refine wpAny_call (codeAny_mono (run_fnG F hr tk I .pl r so rl h) fun r s' hq => ?_)
  cases r with
  | error e => exact hq
  | ok fl =>
    cases fl with
    | ret u => exact hq
    | next => exact False.elim hq
    | brk => exact False.elim hq
    | cont => exact False.elim hq
/-- what a call wants -/
def wC (K : PySem.W.Frag) (W : WX) (m : List D → Sto → R D) (σ : St) (vs : List V) (H : Hp) (Q : VK) : Prop := ∃ ds st io, StOk K H io st ∧ RepL K H io ds vs ∧ Post K io H (fun c d H' => W c d σ H') (RpD K) (m ds st) Q
theorem pe_callG {t : TA} (F : FnG X.prog X.w X.K X.mg X.base k f ps m) (hr : RoomG k X.A) (tk : Takes X W) (hg : Gl X x) (hm : X.mg x = some (.ref f)) (hk : PySem.W.keepIn X.K (.ref f) = true) (ha : PA X (e :: es) t)
    (hdb : (x == ("__debug__" : Str)) = false) (he : starEach (e :: es) X.env = (false, eval e X.env) :: starEach es X.env) (hpl : (backTo pos (starEach es X.env)).any (·.1) = false) :
    PE X (.Call (.Name x p) (e :: es) [] pos) (fun σ H Q => t σ H fun vs H1 => wC X.K W m σ vs H1 Q) := by
  refine ⟨fun pins s σ H Q I h => ?_⟩
  refine wpAny_Call_Name_kw (ld_glob I hg hm ?_ hdb)
  refine PySem.W.callWith_K (h₀ := X.base) I.ok.mod.kin hk (thn (ha.run pos pins s σ H _ I h) fun us s1 ⟨vs, H1, I1, r, ds, st, io, so, rl, q⟩ => ⟨I1.kIn, ?_⟩) he hpl
  exact call_fnG F hr tk I1 r so rl q
theorem pe_callG0 (F : FnG X.prog X.w X.K X.mg X.base k f ps m) (hr : RoomG k X.A) (tk : Takes X W) (hg : Gl X x) (hm : X.mg x = some (.ref f)) (hk : PySem.W.keepIn X.K (.ref f) = true)
    (hdb : (x == ("__debug__" : Str)) = false) :
    PE X (.Call (.Name x p) [] [] pos) (fun σ H Q => wC X.K W m σ [] H Q) := by
  refine ⟨fun pins s σ H Q I h => ?_⟩
  obtain ⟨ds, st, io, so, rl, q⟩ := h
  refine wpAny_Call_Name_kw (ld_glob I hg hm ?_ hdb)
  exact PySem.W.callWith_K0 I.kIn hk (call_fnG (us := []) F hr tk I .nil so rl q)
/-- a def in a local name -/
theorem pe_callVG {i : Nat} {t : TA} (hr : RoomG k X.A) (tk : Takes X W) (hN : X.N[i]? = some x) (hv : Vis X.env.scope x) (ha : PA X (e :: es) t)
    (hdb : (x == ("__debug__" : Str)) = false) (hcd : (x == ("__classdict__" : Str)) = false) (he : starEach (e :: es) X.env = (false, eval e X.env) :: starEach es X.env) (hpl : (backTo pos (starEach es X.env)).any (·.1) = false) :
    PE X (.Call (.Name x p) (e :: es) [] pos) (fun σ H Q => ∃ f ps m, σ[i]? = some (some (.ref f)) ∧ FnG X.prog X.w X.K X.mg X.base k f ps m ∧ PySem.W.keepIn X.K (.ref f) = true ∧ t σ H fun vs H1 => wC X.K W m σ vs H1 Q) := by
  refine ⟨fun pins s σ H Q I h => ?_⟩
  obtain ⟨f, ps, m, hs, F, hk, ht⟩ := h
  refine wpAny_Call_Name_kw (thn ((pe_var (pos := p) hN hv hdb hcd).run pins s σ H (fun v H1 => v = .ref f ∧ H1 = H) I ⟨.ref f, hs, rfl, rfl⟩) fun u s1 ⟨v, H1, I1, r1, q1⟩ => ?_)
  obtain ⟨rfl, rfl⟩ := q1
  cases r1
  refine PySem.W.callWith_K (h₀ := X.base) I.ok.mod.kin hk (thn (ha.run pos pins s1 σ _ _ I1 ht) fun us s2 ⟨vs, H2, I2, r, ds, st, io, so, rl, q⟩ => ⟨I2.kIn, ?_⟩) he hpl
  exact call_fnG F hr tk I2 r so rl q
/-- f(name=e) -/
theorem pe_callKG {nm : Str} {kpos : Pos} {te : TE} (F : FnG X.prog X.w X.K X.mg X.base k f [nm] m) (hr : RoomG k X.A) (tk : Takes X W) (hg : Gl X x) (hm : X.mg x = some (.ref f)) (hk : PySem.W.keepIn X.K (.ref f) = true) (ha : PE X e te)
    (hdb : (x == ("__debug__" : Str)) = false) :
    PE X (.Call (.Name x p) [] [⟨some nm, e, kpos⟩] pos) (fun σ H Q => te σ H fun v H1 => wC X.K W m σ [v] H1 Q) := by
  refine ⟨fun pins s σ H Q I h => ?_⟩
  refine wpAny_Call_Name_kw (ld_glob I hg hm ?_ hdb)
  refine PySem.W.callWith_KW0 (h₀ := X.base) I.ok.mod.kin hk rfl ?_
  show wpAny _ _ (evalAll ((do let v ← eval e X.env; standAt pos; pure v) :: [])) _ _ s
  refine wpAny_evalAll_cons (wpAny_bind (thn (ha.run pins s σ H _ I h) fun u s1 ⟨x1, H1, I1, r1, ds, st, io, so, rl, q⟩ => wpAny_bind (wpAny_standAt (wpAny_pure (wpAny_evalAll_nil ⟨I1.kIn, ?_⟩)))))
  show wpAny _ _ (call (.ref f) [] ([nm].zip [u])) _ _ _
  refine wpAny_call (codeAny_mono (run_fnG F hr tk I1 (.kw rfl rfl) (.cons r1 .nil) so rl q) fun r s' hq => ?_)
  cases r with
  | error e => exact hq
  | ok fl =>
    cases fl with
    | ret u => exact hq
    | next => exact False.elim hq
    | brk => exact False.elim hq
    | cont => exact False.elim hq
end
end Mi

set_option maxRecDepth 100000
set_option maxHeartbeats 4000000
namespace Mi
open PySem PySem.Spec L2

/-! ### walks -/
/-- the walk J gives ds, whatever becomes of the store -/
structure Yl (K : PySem.W.Frag) (J : It) (ds : List D) (io : Io) (H : Hp) : Prop where
  go : ∀ (io' : Io) (H' : Hp) (i : Nat), Mv io H io' H' → i < ds.length → J.go i H'
  stop : ∀ (io' : Io) (H' : Hp), Mv io H io' H' → J.stop ds.length H'
  yld : ∀ (io' : Io) (H' : Hp) (st : Sto) (i : Nat) (d : D) (x : V) (H'' : Hp), Mv io H io' H' → StOk K H' io' st → ds[i]? = some d → J.yld i H' x H'' → Ext io' H' io' H'' ∧ StOk K H'' io' st ∧ Rep K H'' io' d x
def RpY (K : PySem.W.Frag) : Hp → Io → List D → It → Prop := fun H io ds J => Yl K J ds io H
def iI (K : PySem.W.Frag) (W : WX) (m : En → Sto → R (List D)) : TI := tG K W (RpY K) m
def ofL {α : Type} (o : Option (List α)) (st : Sto) : R (List α) := match o with
  | some xs => .ok xs st
  | none => .bad
section
variable {K : PySem.W.Frag} {io : Io} {H : Hp} {a b : Addr} {ds es : List D} {xs ys : List V} {X : Cx} {pins : List (Addr × Obj)} {σ : St} {s : Shared} {tg : Expr} {R : It → Hp → Prop} {E : Value → Shared → Prop}
theorem yl_list (hs : ∀ io' H', Mv io H io' H' → SqL K H' a xs) (r : RepL K H io ds xs) : Yl K (Itl K a) ds io H where
  go := fun io' H' i x hi => ⟨xs, xs[i]'(by rw [← r.len]; exact hi), hs io' H' x, List.getElem?_eq_getElem _⟩
  stop := fun io' H' x => ⟨xs, hs io' H' x, by rw [r.len]; exact Nat.le_refl _⟩
  yld := fun io' H' st i d v H'' x so hd y => by
    obtain ⟨rfl, y⟩ := y
    obtain ⟨u, hu, ru⟩ := (RepL.mv x _ _ r).at hd
    have e := y xs (hs io' _ x)
    rw [hu] at e
    cases e
    exact ⟨Ext.refl _ _, so, ru⟩
theorem yl_tup (hs : ∀ io' H', Mv io H io' H' → SqT K H' a xs) (r : RepL K H io ds xs) : Yl K (Itt K a) ds io H where
  go := fun io' H' i x hi => ⟨xs, xs[i]'(by rw [← r.len]; exact hi), hs io' H' x, List.getElem?_eq_getElem _⟩
  stop := fun io' H' x => ⟨xs, hs io' H' x, by rw [r.len]; exact Nat.le_refl _⟩
  yld := fun io' H' st i d v H'' x so hd y => by
    obtain ⟨rfl, y⟩ := y
    obtain ⟨u, hu, ru⟩ := (RepL.mv x _ _ r).at hd
    have e := y xs (hs io' _ x)
    rw [hu] at e
    cases e
    exact ⟨Ext.refl _ _, so, ru⟩
theorem yl_range {lo : Int} {n : Nat} : Yl K (Itr lo n) ((List.range n).map fun i : Nat => .int (lo + (i : Int))) io H where
  go := fun io' H' i x hi => by
    show i < n
    simpa using hi
  stop := fun io' H' x => by show n ≤ _; simp
  yld := fun io' H' st i d v H'' x so hd y => by
    obtain ⟨rfl, rfl⟩ := y
    rw [List.getElem?_map] at hd
    by_cases h : i < n
    · rw [List.getElem?_range h] at hd
      cases hd
      exact ⟨Ext.refl _ _, so, rfl⟩
    · rw [List.getElem?_eq_none (by simpa using h)] at hd
      cases hd
theorem yl_text {t : List Nat} : Yl K (Its ⟨t.toArray⟩) (t.map fun c => .str [c]) io H where
  go := fun io' H' i x hi => by
    show i < t.toArray.size
    simpa using hi
  stop := fun io' H' x => by
    show t.toArray.size ≤ _
    simp
  yld := fun io' H' st i d v H'' x so hd y => by
    obtain ⟨rfl, c, hc, rfl⟩ := y
    rw [List.getElem?_map] at hd
    have hc' : t[i]? = some c := by simpa using hc
    rw [hc'] at hd
    cases hd
    exact ⟨Ext.refl _ _, so, rfl⟩
theorem yl_zip (hs : ∀ io' H', Mv io H io' H' → SqT K H' a xs) (hs2 : ∀ io' H', Mv io H io' H' → SqT K H' b ys) (r : RepL K H io ds xs) (r2 : RepL K H io es ys) : Yl K (RZ.ItzT K a b) ((ds.zip es).map fun p => .tup [p.1, p.2]) io H where
  go := fun io' H' i x hi => by
    have hi' : i < ds.length ∧ i < es.length := by simpa [List.length_zip, Nat.lt_min] using hi
    exact ⟨xs, ys, xs[i]'(by rw [← r.len]; exact hi'.1), ys[i]'(by rw [← r2.len]; exact hi'.2), hs _ _ x, hs2 _ _ x, List.getElem?_eq_getElem _, List.getElem?_eq_getElem _⟩
  stop := fun io' H' x => ⟨xs, ys, hs _ _ x, hs2 _ _ x, by
    rw [← r.len, ← r2.len, List.length_map, List.length_zip]
    omega⟩
  yld := fun io' H' st i d v H'' x so hd y => by
    obtain ⟨T, x', y', rfl, hT, rfl, f1, f2⟩ := y
    rw [List.getElem?_map] at hd
    cases e1 : (ds.zip es)[i]? with
    | none => rw [e1] at hd; cases hd
    | some p =>
      rw [e1] at hd
      cases hd
      obtain ⟨d1, d2⟩ := p
      rw [List.getElem?_zip_eq_some] at e1
      obtain ⟨u, hu, ru⟩ := (RepL.mv x _ _ r).at e1.1
      obtain ⟨u2, hu2, ru2⟩ := (RepL.mv x _ _ r2).at e1.2
      have g1 := f1 xs (hs _ _ x)
      have g2 := f2 ys (hs2 _ _ x)
      rw [hu] at g1; rw [hu2] at g2
      cases g1; cases g2
      have xx := Ext.fresh so hT (.tup [x', y'])
      exact ⟨xx, so.fresh hT _, ⟨T, _, rfl, .of upd_same, .cons (Rep.ext xx _ _ ru) (.cons (Rep.ext xx _ _ ru2) .nil)⟩⟩
/-- the iterators -/
theorem it_list (I : Inv X pins σ H s) (hq : SqL X.K H a xs) (q : R (Itl X.K a) H) : wpAny (model X.prog X.w) X.A (pyIter (.ref a)) (PIE X pins σ tg R) E s := by
  obtain ⟨its, _, pl, _⟩ := I.list hq
  have fr := I.hok.fresh (Nat.le_refl s.heap.objs.size)
  refine wpAny_pyIter_list pl.isList ⟨_, [s.heap.objs.size], _, _, H, rfl, I.kept (t' := s.toks) (fun _ _ h => Heap.get?_push_of_some _ h), turn_list a s.heap.objs.size, ⟨_, Heap.get?_push_size _ rfl, rfl, rfl⟩, fun c hc => ?_, q⟩
  rw [List.mem_singleton.mp hc]
  exact I.fpOk (Nat.le_refl _) fr
theorem it_tup (I : Inv X pins σ H s) (hq : SqT X.K H a xs) (q : R (Itt X.K a) H) : wpAny (model X.prog X.w) X.A (pyIter (.ref a)) (PIE X pins σ tg R) E s := by
  obtain ⟨its, _, pl, _⟩ := I.tuple hq
  have fr := I.hok.fresh (Nat.le_refl s.heap.objs.size)
  refine wpAny_pyIter_tuple pl ⟨_, [s.heap.objs.size], _, _, H, rfl, I.kept (t' := s.toks) (fun _ _ h => Heap.get?_push_of_some _ h), turn_tuple a s.heap.objs.size, ⟨_, Heap.get?_push_size _ rfl, rfl, rfl⟩, fun c hc => ?_, q⟩
  rw [List.mem_singleton.mp hc]
  exact I.fpOk (Nat.le_refl _) fr
theorem it_text {t : List Nat} {v : Value} (I : Inv X pins σ H s) (r : RelV (.str ⟨t.toArray⟩) v) (q : R (Its ⟨t.toArray⟩) H) : wpAny (model X.prog X.w) X.A (pyIter v) (PIE X pins σ tg R) E s := by
  obtain ⟨tk, rfl⟩ := r
  cases h : (⟨t.toArray⟩ : Str).cps.all (· < 128) with
  | false => exact wpAny_pyIter_wide h (pi_one (tk := s.toks) I _ (turn_str _ _ tk _ (.inr rfl)) ⟨_, Heap.get?_push_size _ rfl, rfl, rfl⟩ q)
  | true => exact wpAny_pyIter_ascii h (pi_one (tk := s.toks) I _ (turn_str _ _ tk _ (.inl rfl)) ⟨_, Heap.get?_push_size _ rfl, rfl, rfl⟩ q)
end
theorem SqL.inj {X : Cx} {pins : List (Addr × Obj)} {σ : St} {H : Hp} {s : Shared} {a : Addr} {xs ys : List V} (I : Inv X pins σ H s) (h : SqL X.K H a xs) (g : SqL X.K H a ys) : ys = xs := I.list_inj g h
section
variable {X : Cx} {W : WX} {tg e : Expr}
theorem pi_seqI {m : En → Sto → R D} (he : PE X e (tE X.K W m)) : PI X tg e (iI X.K W fun en st => (m en st).bind fun d st => ofL (seqD d) st) := by
  refine ⟨fun pins s σ H R I h => ?_⟩
  refine thn (he.run pins s σ H _ I (tG.step h)) fun u s1 ⟨v, H1, I1, ru, en, d, io, st, er, so, rd, p⟩ => ?_
  have done : ∀ {ds : List D} {J : It}, seqD d = some ds → Yl X.K J ds io H1 → R J H1 := fun hd y => by
    rw [hd] at p
    exact p _ io H1 (Ext.refl _ _) so y
  cases d with
  | tup ds =>
    obtain ⟨a, xs, rfl, hq, r⟩ := rd
    cases ru
    exact it_tup I1 hq (done rfl (yl_tup (fun io' H' x => x.sqt hq) r))
  | lst ds =>
    obtain ⟨a, xs, rfl, hq, r⟩ := rd
    cases ru
    exact it_list I1 (.of hq.1) (done rfl (yl_list (fun io' H' x => .of (x.lst _ _ hq.1 hq.2).1) r))
  | fro ds =>
    obtain ⟨a, xs, rfl, hq, r⟩ := rd
    cases ru
    exact it_list I1 hq.sql (done rfl (yl_list (fun io' H' x => (x.fro hq).sql) r))
  | str t =>
    cases rd
    exact it_text I1 ru (done rfl yl_text)
  | _ => exact p.elim
theorem pi_range1I {a : Expr} {ta : En → Sto → R (List D)} {p pos : Pos} (hg : Gl X "range") (hm : X.mg "range" = none) (ha : PA X [a] (tA X.K W ta)) (hs : starEach [a] X.env = [(false, eval a X.env)]) :
    PI X tg (.Call (.Name "range" p) [a] [] pos) (iI X.K W fun en st => (ta en st).bind fun ds st => ofL (rng1 ds) st) := by
  refine PIimp (pi_range1 hg hm ha hs) fun σ H R h => (tG.step h).mono fun vs H1 ⟨en, ds, io, st, er, so, rd, p⟩ => ?_
  unfold rng1 at p
  split at p
  · obtain ⟨v, rfl, rv⟩ := rd.one
    cases rv
    split at p
    · rename_i hb
      exact ⟨_, rfl, hb.1, hb.2, p _ io H1 (Ext.refl _ _) so yl_range⟩
    · exact p.elim
  · exact p.elim
theorem pi_range2I {a b : Expr} {ta : En → Sto → R (List D)} {p pos : Pos} (hg : Gl X "range") (hm : X.mg "range" = none) (ha : PA X [a, b] (tA X.K W ta)) (hs : starEach [a, b] X.env = [(false, eval a X.env), (false, eval b X.env)]) (hs2 : starEach [b] X.env = [(false, eval b X.env)]) :
    PI X tg (.Call (.Name "range" p) [a, b] [] pos) (iI X.K W fun en st => (ta en st).bind fun ds st => ofL (rng2 ds) st) := by
  refine PIimp (pi_range2 hg hm ha hs hs2) fun σ H R h => (tG.step h).mono fun vs H1 ⟨en, ds, io, st, er, so, rd, p⟩ => ?_
  unfold rng2 at p
  split at p
  · obtain ⟨v, w, rfl, rv, rw'⟩ := rd.two
    cases rv; cases rw'
    split at p
    · rename_i hb
      exact ⟨_, _, rfl, hb, p _ io H1 (Ext.refl _ _) so yl_range⟩
    · exact p.elim
  · exact p.elim
theorem pi_zipI {e2 : Expr} {ta : En → Sto → R (List D)} {p pos tpos : Pos} {elts : List Expr} {kk : Nat} (hg : Gl X "zip") (hm : X.mg "zip" = none) (ha : PA X [e, e2] (tA X.K W ta))
    (hs : starEach [e, e2] X.env = (false, eval e X.env) :: starEach [e2] X.env) (hpl : (backTo pos (starEach [e2] X.env)).any (·.1) = false) :
    PI X (.Tuple elts kk tpos) (.Call (.Name "zip" p) [e, e2] [] pos) (iI X.K W fun en st => (ta en st).bind fun ds st => ofL (zip2 ds) st) := by
  refine PIimp (RZ.pi_zipA hg hm ha hs hpl) fun σ H R h => (tG.step h).mono fun vs H1 ⟨en, ds, io, st, er, so, rd, p⟩ => ?_
  unfold zip2 at p
  split at p
  · obtain ⟨v, w, rfl, rv, rw'⟩ := rd.two
    obtain ⟨a, xs, rfl, hq, r⟩ := rv
    obtain ⟨b, ys, rfl, hq2, r2⟩ := rw'
    exact ⟨a, b, xs, ys, rfl, .inr ⟨hq, hq2, p _ io H1 (Ext.refl _ _) so (yl_zip (fun _ _ x => x.sqt hq) (fun _ _ x => x.sqt hq2) r r2)⟩⟩
  · exact p.elim
end
end Mi

set_option maxRecDepth 100000
set_option maxHeartbeats 4000000
namespace Mi
open PySem PySem.Spec L2

/-! ### the code is the text's -/
def plainNm (x : Str) : Bool := !(x == ("__debug__" : Str)) && !(x == ("__classdict__" : Str)) && !(x == ("__name__" : Str))
def visB (sc : Scope) (x : Str) : Bool := match sc.names.lookup x with
  | some .local => true
  | some .cell => true
  | some .free => true
  | _ => false
def glB (sc : Scope) (x : Str) : Bool := (match sc.names.lookup x with
  | some .globalImplicit => true
  | _ => false) && plainNm x
def varB (N : List Str) (sc : Scope) (i : Nat) (x : Str) : Bool := decide (N[i]? = some x) && visB sc x && plainNm x
def locB (N : List Str) (sc : Scope) (fnc : Str → Bool) (i : Nat) (x : Str) : Bool := decide (N[i]? = some x) && (match sc.names.lookup x with
  | some .local => true
  | some .cell => fnc x
  | _ => false)
def tyB (x : Str) (n : String) : Bool := match bootBuiltins x with
  | some (.type m) => decide (m = n)
  | _ => false
def notSet : Expr → Bool
  | .Set _ _ _ => false
  | _ => true
def notSlice : Expr → Bool
  | .Slice _ _ _ _ => false
  | _ => true
def notStar : Expr → Bool
  | .Starred _ _ => false
  | _ => true
def isNm : Expr → Bool
  | .Name _ _ => true
  | _ => false
def op2 : B2 → Operator
  | .add => .Add | .sub => .Sub | .mul => .Mult | .div => .FloorDiv | .mod => .Mod | .pow => .Pow
def cp2 : C2 → CmpOp
  | .eq => .Eq | .ne => .NotEq | .lt => .Lt | .le => .LtE | .gt => .Gt | .ge => .GtE | .inn => .In | .notin => .NotIn
def bfName : Bf → Str
  | .len => "len" | .all => "all" | .any => "any" | .int => "int" | .abs => "abs" | .max => "max" | .min => "min" | .list => "list" | .listM => "list" | .tuple => "tuple" | .isi => "isinstance" | .repr => "repr"
def ckts (N : List Str) (sc : Scope) (fnc : Str → Bool) : List Nat → List Expr → Bool
  | [], [] => true
  | i :: is, .Name x _ :: es => locB N sc fnc i x && ckts N sc fnc is es
  | _, _ => false
def ckt (N : List Str) (sc : Scope) (fnc : Str → Bool) (is : List Nat) (un : Bool) (tg : Expr) : Bool := match un, is, tg with
  | false, [i], .Name x _ => locB N sc fnc i x
  | true, is, .Tuple es _ _ => ckts N sc fnc is es
  | _, _, _ => false
def ckw (G : Gs) (sc : Scope) (k : Ik) (chk : List Expr → Bool) (tg iter : Expr) : Bool := match k, iter with
  | .seq, e => chk [e] && notSet e
  | .range1, .Call (.Name y _) [a] [] _ => decide (y = "range") && glB sc y && decide (y ∈ G.no) && chk [a]
  | .range2, .Call (.Name y _) [a, b] [] _ => decide (y = "range") && glB sc y && decide (y ∈ G.no) && chk [a, b]
  | .zip, .Call (.Name y _) [a, b] [] _ => decide (y = "zip") && glB sc y && decide (y ∈ G.no) && chk [a, b] && (match tg with
    | .Tuple _ _ _ => true
    | _ => false)
  | _, _ => false
mutual
def ck (G : Gs) (N : List Str) : E → Scope → Expr → Bool
  | .var i, sc, .Name x _ => varB N sc i x
  | .int i, _, .Constant (.int j) _ _ => decide (i = j)
  | .str s, _, .Constant (.str x) _ _ => decide (x = ⟨s.toArray⟩)
  | .bool b, _, .Constant (.bool c) _ _ => decide (b = c)
  | .non, _, .Constant .none _ _ => true
  | .glo x, sc, .Name y _ => decide (x = y) && glB sc y && (G.glo.lookup x).isSome
  | .ty n, sc, .Name y _ => glB sc y && decide (y ∈ G.no) && tyB y n
  | .bin o a b, sc, .BinOp a' o' b' _ => decide (o' = op2 o) && ck G N a sc a' && ck G N b sc b'
  | .neg a, sc, .UnaryOp .USub a' _ => ck G N a sc a'
  | .and a r, sc, .BoolOp .And (a' :: b' :: rest) pos => ck G N a sc a' && (match rest with
    | [] => ck G N r sc b'
    | c' :: rest => ck G N r sc (.BoolOp .And (b' :: c' :: rest) pos))
  | .or a r, sc, .BoolOp .Or (a' :: b' :: rest) pos => ck G N a sc a' && (match rest with
    | [] => ck G N r sc b'
    | c' :: rest => ck G N r sc (.BoolOp .Or (b' :: c' :: rest) pos))
  | .not a, sc, .UnaryOp .Not a' _ => ck G N a sc a'
  | .cmp o a b, sc, .Compare a' [o'] [b'] _ => decide (o' = cp2 o) && ck G N a sc a' && ck G N b sc b' && notSet b'
  | .isn a, sc, .Compare a' [.Is] [.Constant .none _ _] _ => ck G N a sc a'
  | .notn a, sc, .Compare a' [.IsNot] [.Constant .none _ _] _ => ck G N a sc a'
  | .chain o o2 a b c, sc, .Compare a' [p, q] [b', c'] _ => decide (p = cp2 o) && decide (q = cp2 o2) && ck G N a sc a' && ck G N b sc b' && ck G N c sc c' && notSet b' && notSet c'
  | .ite c a b, sc, .IfExp c' a' b' _ => ck G N c sc c' && ck G N a sc a' && ck G N b sc b'
  | .tup es, sc, .Tuple es' _ _ => ckl G N es sc es'
  | .lst _ es, sc, .List es' _ => ckl G N es sc es'
  | .edct, _, .Dict [] [] _ => true
  | .idx a b, sc, .Subscript a' b' _ => ck G N a sc a' && ck G N b sc b' && notSlice b'
  | .get a b, sc, .Subscript a' b' _ => ck G N a sc a' && ck G N b sc b' && notSlice b'
  | .sl a lo hi, sc, .Subscript a' (.Slice lo' hi' none _) _ => ck G N a sc a' && ckp G N lo sc lo' && ckp G N hi sc hi'
  | .rev a, sc, .Subscript a' (.Slice none none (some (.UnaryOp .USub (.Constant (.int j) _ _) _)) _) _ => ck G N a sc a' && decide (j = 1)
  | .sset a, sc, .Call (.Name x _) [.Call (.Name y _) [a'] [] _] [] _ => decide (x = "sorted") && decide (y = "set") && glB sc x && glB sc y && decide (x ∈ G.no) && decide (y ∈ G.no) && notStar a' && ck G N a sc a'
  | .upper a, sc, .Call (.Attribute a' m apos) [] [] pos => decide (m = "upper") && isNm a' && (apos.endLine == pos.line) && ck G N a sc a'
  | .bcall f es, sc, .Call (.Name x _) (e' :: es') [] _ => decide (x = bfName f) && glB sc x && decide (x ∈ G.no) && ckl G N es sc (e' :: es')
  | .call f es, sc, .Call (.Name x _) es' [] _ => decide (f = x) && glB sc x && (G.fns.lookup f).isSome && ckl G N es sc es'
  | .callv i es, sc, .Call (.Name x _) (e' :: es') [] _ => varB N sc i x && ckl G N es sc (e' :: es')
  | .callk f k e, sc, .Call (.Name x _) [] [⟨some k', e', _⟩] _ => decide (f = x) && decide (k = k') && glB sc x && decide (G.fns.lookup f = some [k]) && ck G N e sc e'
  | .lc k is un own src cond elt, sc, .ListComp elt' [⟨tg, iter, ifs, as⟩] scope _ => decide (as = 0) && blkC N sc scope own && ckw G sc k (fun xs => ckl G N src sc xs) tg iter &&
      ckt N (relS scope sc) (fun x => scope.names.lookup x == some .cell) is un tg && (is.all fun i => decide (i ∈ own.map (·.2))) && notSet iter && ckc G N cond (relS scope sc) ifs && ck G N elt (relS scope sc) elt'
  | _, _, _ => false
termination_by structural e => e
def ckl (G : Gs) (N : List Str) : E → Scope → List Expr → Bool
  | .nil, _, [] => true
  | .cons a r, sc, a' :: r' => notStar a' && ck G N a sc a' && ckl G N r sc r'
  | _, _, _ => false
termination_by structural e => e
def ckp (G : Gs) (N : List Str) : E → Scope → Option Expr → Bool
  | .nil, _, none => true
  | .cons a .nil, sc, some a' => ck G N a sc a'
  | _, _, _ => false
termination_by structural e => e
/-- a block's test, nil for none -/
def ckc (G : Gs) (N : List Str) : E → Scope → List Expr → Bool
  | .nil, _, [] => true
  | .cons a .nil, sc, [a'] => ck G N a sc a'
  | _, _, _ => false
termination_by structural e => e
end
end Mi

set_option maxRecDepth 100000
set_option maxHeartbeats 4000000
namespace Mi
open PySem PySem.Spec L2

section
variable {X : Cx} {W : WX} {a b c x : Expr} {ma mb mc : En → Sto → R D} {pos : Pos}
/-! ### truth -/
theorem tru_ok' (d : D) (st : Sto) : tru (.ok d st) = (match truthD d st with | some b => .ok b st | none => .bad) := rfl
theorem tru_bind {α : Type} (r : R α) (f : α → Sto → R D) : tru (r.bind f) = r.bind fun x st => tru (f x st) := by
  cases r <;> rfl
theorem pt_plain (h : PE X x (tE X.K W ma)) (he : ∀ whole, isTrue x X.env whole = (do let v ← whole; standAt x.pos; holding [v] (truthy v))) : PT X x (tT X.K W fun en st => tru (ma en st)) := by
  refine PTimp (pt_truth h he) fun σ H Q hw => (tG.step hw).mono fun v H1 ⟨en, d, io, st, er, so, rd, p⟩ => ?_
  cases e : truthD d st with
  | none => rw [e] at p; exact p.elim
  | some b =>
    rw [e] at p
    exact ⟨b, truth_at e so rd, p b io H1 (Ext.refl _ _) so rfl⟩
/-! ### two values -/
theorem pe_bin2 {op : Operator} {f : D → D → Sto → R D} (ho : OpR X (binaryOp op) (r2 X.K f)) (ha : PE X a (tE X.K W ma)) (hb : PE X b (tE X.K W mb)) :
    PE X (.BinOp a op b pos) (tE X.K W fun en st => (ma en st).bind fun x st => (mb en st).bind fun y st => shut (f x y st)) := by
  refine PEimp (pe_op ho ha hb) fun σ H Q h => (tG.step2 (Rp := RpD X.K) (Rp' := RpD X.K) (fun x r => Rep.ext x _ _ r) h).mono fun v H1 h1 => h1.mono fun u H2 ⟨en, d, e, io, st, er, so, rd, re, p⟩ => ?_
  exact ⟨d, e, st, io, so, rd, re, p.shut⟩
theorem pe_ix2 {f : D → D → Sto → R D} (ho : IxR X (r2 X.K f)) (ha : PE X a (tE X.K W ma)) (hb : PE X b (tE X.K W mb)) (hs : PlainIx b) :
    PE X (.Subscript a b pos) (tE X.K W fun en st => (ma en st).bind fun x st => (mb en st).bind fun y st => shut (f x y st)) := by
  refine PEimp (pe_ix ho ha hb hs) fun σ H Q h => (tG.step2 (Rp := RpD X.K) (Rp' := RpD X.K) (fun x r => Rep.ext x _ _ r) h).mono fun v H1 h1 => h1.mono fun u H2 ⟨en, d, e, io, st, er, so, rd, re, p⟩ => ?_
  exact ⟨d, e, st, io, so, rd, re, p.shut⟩
theorem pe_cmp2 {op : CmpOp} {f : D → D → Sto → R D} (ho : OpR X (compareOp op) (r2 X.K f)) (ha : PE X a (tE X.K W ma)) (hb : PE X b (tE X.K W mb)) (hm : behindInMarks op b = false) :
    PE X (.Compare a [op] [b] pos) (tE X.K W fun en st => (ma en st).bind fun x st => (mb en st).bind fun y st => shut (f x y st)) := by
  refine PEimp (pe_cmpR ho ha hb hm) fun σ H Q h => (tG.step2 (Rp := RpD X.K) (Rp' := RpD X.K) (fun x r => Rep.ext x _ _ r) h).mono fun v H1 h1 => h1.mono fun u H2 ⟨en, d, e, io, st, er, so, rd, re, p⟩ => ?_
  exact ⟨d, e, st, io, so, rd, re, p.shut⟩
/-- an answer that is a bool -/
def BlR (r : R D) : Prop := ∀ d st, r = .ok d st → ∃ b, d = .bl b
theorem Post.blr {K : PySem.W.Frag} {io : Io} {H : Hp} {W W' : XK} {r : R D} {Q : Bool → Hp → Prop} (hb : BlR r) (p : Post K io H W RpB (tru (Mi.shut r)) Q) : Post K io H W' (RpD K) r fun x H' => ∃ k, x = .bl k ∧ Q k H' := by
  cases r with
  | bad => exact p.elim
  | exc _ _ => exact p.elim
  | ok d st =>
    obtain ⟨b, rfl⟩ := hb _ _ rfl
    intro v io' H' x so rv
    cases rv
    exact ⟨b, rfl, p b io' H' x so rfl⟩
theorem tru_bind2 {α β : Type} (r : R α) (s : α → Sto → R β) (f : α → β → Sto → R D) : tru (r.bind fun x st => (s x st).bind fun y st => f x y st) = r.bind fun x st => (s x st).bind fun y st => tru (f x y st) := by
  cases r with
  | ok x st =>
    show tru ((s x st).bind fun y st => f x y st) = (s x st).bind fun y st => tru (f x y st)
    exact tru_bind _ _
  | exc _ _ => rfl
  | bad => rfl
theorem pt_cmp2 {op : CmpOp} {f : D → D → Sto → R D} (ho : OpR X (compareOp op) (r2 X.K f)) (hf : ∀ x y st, BlR (f x y st)) (ha : PE X a (tE X.K W ma)) (hb : PE X b (tE X.K W mb)) (hm : behindInMarks op b = false) :
    PT X (.Compare a [op] [b] pos) (tT X.K W fun en st => tru ((ma en st).bind fun x st => (mb en st).bind fun y st => shut (f x y st))) := by
  refine PTimp (pt_cmpR ho ha hb hm) fun σ H Q h => ?_
  have h' := tG.imp h fun en st => tru_bind2 (ma en st) (fun _ st => mb en st) fun x y st => shut (f x y st)
  refine (tG.step2 (Rp := RpD X.K) (Rp' := RpD X.K) (fun x r => Rep.ext x _ _ r) h').mono fun v H1 h1 => h1.mono fun u H2 ⟨en, d, e, io, st, er, so, rd, re, p⟩ => ?_
  exact ⟨d, e, st, io, so, rd, re, p.blr (hf _ _ _)⟩
theorem c2_bl (o : C2) (x y : D) (st : Sto) : BlR (c2 o x y st) := by
  intro d st' h
  have ob : ∀ o : Option Bool, ofB o st = .ok d st' → ∃ b, d = .bl b := by
    intro o h
    cases o with
    | none => cases h
    | some b => cases h; exact ⟨b, rfl⟩
  have lt : ∀ g : Int → Int → Bool, ltI g x y st = .ok d st' → ∃ b, d = .bl b := by
    intro g h
    unfold ltI at h
    split at h
    · cases h; exact ⟨_, rfl⟩
    · cases h
  cases o <;> first | exact ob _ h | exact lt _ h
theorem c2_ok (hu : X.A.units + 64 < cLine) (o : C2) : OpR X (compareOp (cp2 o)) (r2 X.K (c2 o)) := by
  cases o
  · exact eq_s hu
  · exact ne_s hu
  · exact lt_s
  · exact le_s
  · exact gt_s
  · exact ge_s
  · exact in_s hu
  · exact notIn_s hu
theorem b2_ok (o : B2) : OpR X (binaryOp (op2 o)) (r2 X.K (b2 o)) := by
  cases o
  · exact add_s
  · exact sub_s
  · exact mul_s
  · exact div_s
  · exact mod_s
  · exact pow_s
theorem marks_of (h : notSet b = true) (op : CmpOp) : behindInMarks op b = false := by
  cases b <;> first | rfl | cases h
theorem lastMarks_of (h : notSet c = true) (p q : CmpOp) : lastMarks [p, q] [b, c] = false := marks_of h q
/-! ### a chain -/
theorem pe_chain2 (o o2 : C2) (hu : X.A.units + 64 < cLine) (ha : PE X a (tE X.K W ma)) (hb : PE X b (tE X.K W mb)) (hc : PE X c (tE X.K W mc)) (hm : notSet c = true) :
    PE X (.Compare a [cp2 o, cp2 o2] [b, c] pos) (tE X.K W fun en st => (ma en st).bind fun x st => (mb en st).bind fun y st => (shut (c2 o x y st)).bind fun r st => (match r with
      | .bl true => (mc en st).bind fun z st => shut (c2 o2 y z st)
      | .bl false => .ok (.bl false) st
      | _ => .bad)) := by
  refine PEimp (pe_chain (c2_ok hu o) (c2_ok hu o2) ha hb hc (lastMarks_of hm _ _)) fun σ H Q h => (tG.step2 (Rp := RpD X.K) (Rp' := RpD X.K) (fun x r => Rep.ext x _ _ r) h).mono fun v H1 h1 => h1.mono fun u H2 ⟨en, d, e, io, st, er, so, rd, re, p⟩ => ?_
  refine ⟨d, e, st, io, so, rd, re, ?_⟩
  have p' := Post.bind (Rp := RpD X.K) p
  refine p'.shut.mono fun z H3 ⟨dz, io3, st3, x3, s3, rz, p3⟩ => ?_
  cases dz <;> first | exact p3.elim | skip
  rename_i k
  cases rz
  refine ⟨k, rfl, ?_⟩
  cases k with
  | false => rw [if_neg (by decide)]; exact p3 _ io3 H3 (Ext.refl _ _) s3 rfl
  | true =>
    rw [if_pos rfl]
    exact ⟨en, st3, io3, er.ext x3, s3, (Post.bind (Rp := RpD X.K) p3).mono fun z H4 ⟨dz, io4, st4, x4, s4, rz, p4⟩ => ⟨e, dz, st4, io4, s4, (Rep.ext (x3.trans x4) _ _ re), rz, p4.shut⟩⟩
theorem pt_chain2 (o o2 : C2) (hu : X.A.units + 64 < cLine) (ha : PE X a (tE X.K W ma)) (hb : PE X b (tE X.K W mb)) (hc : PE X c (tE X.K W mc)) (hm : notSet c = true) :
    PT X (.Compare a [cp2 o, cp2 o2] [b, c] pos) (tT X.K W fun en st => tru ((ma en st).bind fun x st => (mb en st).bind fun y st => (shut (c2 o x y st)).bind fun r st => (match r with
      | .bl true => (mc en st).bind fun z st => shut (c2 o2 y z st)
      | .bl false => .ok (.bl false) st
      | _ => .bad))) := by
  refine PTimp (pt_chain (c2_ok hu o) (c2_ok hu o2) ha hb hc (lastMarks_of hm _ _)) fun σ H Q h => ?_
  have h' := tG.imp h fun en st => tru_bind2 (ma en st) (fun _ st => mb en st) _
  refine (tG.step2 (Rp := RpD X.K) (Rp' := RpD X.K) (fun x r => Rep.ext x _ _ r) h').mono fun v H1 h1 => h1.mono fun u H2 ⟨en, d, e, io, st, er, so, rd, re, p⟩ => ?_
  refine ⟨d, e, st, io, so, rd, re, ?_⟩
  rw [tru_bind] at p
  have p' := Post.bind (Rp := RpD X.K) p
  refine p'.shut.mono fun z H3 ⟨dz, io3, st3, x3, s3, rz, p3⟩ => ?_
  cases dz <;> first | exact p3.elim | skip
  rename_i k
  cases rz
  refine ⟨k, rfl, ?_⟩
  cases k with
  | false => rw [if_neg (by decide)]; exact ⟨false, rfl, p3 _ io3 H3 (Ext.refl _ _) s3 rfl⟩
  | true =>
    rw [if_pos rfl]
    have p3' : Post X.K io3 H3 _ RpB (tru ((mc en st3).bind fun z st => shut (c2 o2 e z st))) Q := p3
    rw [tru_bind] at p3'
    exact ⟨en, st3, io3, er.ext x3, s3, (Post.bind (Rp := RpD X.K) p3').mono fun z H4 ⟨dz, io4, st4, x4, s4, rz, p4⟩ => ⟨e, dz, st4, io4, s4, (Rep.ext (x3.trans x4) _ _ re), rz, p4.blr (c2_bl _ _ _ _)⟩⟩
/-! ### is None -/
theorem non_iff {K : PySem.W.Frag} {H : Hp} {io : Io} {d : D} {v : V} (r : Rep K H io d v) : decide (v = .non) = isNon d := by
  cases d with
  | non => cases r; rfl
  | bl b => cases r; rfl
  | int b => cases r; rfl
  | str b => cases r; rfl
  | tup ds => obtain ⟨a, xs, rfl, _⟩ := r; rfl
  | lst ds => obtain ⟨a, xs, rfl, _⟩ := r; rfl
  | fro ds => obtain ⟨a, xs, rfl, _⟩ := r; rfl
  | dct ks vs => obtain ⟨a, xs, rfl, _⟩ := r; rfl
  | loc n => obtain ⟨a, _, rfl⟩ := r; rfl
  | glo x => cases r; rfl
  | ty n => cases r; rfl
theorem pe_isn2 {j pos'} (ha : PE X a (tE X.K W ma)) : PE X (.Compare a [.Is] [.Constant .none j pos'] pos) (tE X.K W fun en st => (ma en st).bind fun x st => .ok (.bl (isNon x)) st) := by
  refine PEimp (pe_cmp (pc_isN ha)) fun σ H Q h => (tG.step (Rp := RpD X.K) h).mono fun v H1 ⟨en, d, io, st, er, so, rd, p⟩ => ?_
  rw [non_iff rd]
  exact p _ io H1 (Ext.refl _ _) so rfl
theorem pt_isn2 {j pos'} (ha : PE X a (tE X.K W ma)) : PT X (.Compare a [.Is] [.Constant .none j pos'] pos) (tT X.K W fun en st => tru ((ma en st).bind fun x st => .ok (.bl (isNon x)) st)) := by
  refine PTimp (pt_cmp (pc_isN ha)) fun σ H Q h => (tG.step (Rp := RpD X.K) (tG.imp h fun en st => tru_bind _ _)).mono fun v H1 ⟨en, d, io, st, er, so, rd, p⟩ => ?_
  rw [non_iff rd]
  exact ⟨_, rfl, p _ io H1 (Ext.refl _ _) so rfl⟩
theorem pe_notn2 {j pos'} (ha : PE X a (tE X.K W ma)) : PE X (.Compare a [.IsNot] [.Constant .none j pos'] pos) (tE X.K W fun en st => (ma en st).bind fun x st => .ok (.bl (!isNon x)) st) := by
  refine PEimp (pe_cmp (pc_notN ha)) fun σ H Q h => (tG.step (Rp := RpD X.K) h).mono fun v H1 ⟨en, d, io, st, er, so, rd, p⟩ => ?_
  rw [non_iff rd]
  exact p _ io H1 (Ext.refl _ _) so rfl
theorem pt_notn2 {j pos'} (ha : PE X a (tE X.K W ma)) : PT X (.Compare a [.IsNot] [.Constant .none j pos'] pos) (tT X.K W fun en st => tru ((ma en st).bind fun x st => .ok (.bl (!isNon x)) st)) := by
  refine PTimp (pt_cmp (pc_notN ha)) fun σ H Q h => (tG.step (Rp := RpD X.K) (tG.imp h fun en st => tru_bind _ _)).mono fun v H1 ⟨en, d, io, st, er, so, rd, p⟩ => ?_
  rw [non_iff rd]
  exact ⟨_, rfl, p _ io H1 (Ext.refl _ _) so rfl⟩
/-! ### not, and, or -/
theorem pe_not2 (ha : PE X a (tE X.K W ma)) : PE X (.UnaryOp .Not a pos) (tE X.K W fun en st => (ma en st).bind fun x st => (match truthD x st with
    | some b => .ok (.bl (!b)) st
    | none => .bad)) := by
  refine ⟨fun pins s σ H Q I h => ?_⟩
  refine PyProof.Rows.UnaryOp_ (thn (ha.run pins s σ H _ I (tG.step (Rp := RpD X.K) h)) fun u s1 ⟨v, H1, I1, ru, en, d, io, st, er, so, rd, p⟩ => ?_)
  cases e : truthD d st with
  | none => rw [e] at p; exact p.elim
  | some b =>
    rw [e] at p
    exact PyProof.Rows.not_of (thn (tru_ok pins s1 σ H1 v u (fun k H' => k = b ∧ H' = H1) I1 ru ⟨b, truth_at e so rd, rfl, rfl⟩) fun c s2 ⟨H2, I2, h2, h3⟩ => by
      subst h2 h3
      exact ⟨.bl (!c), _, I2, rfl, p _ io _ (Ext.refl _ _) so rfl⟩)
theorem pt_not2 (ha : PT X a (tT X.K W fun en st => tru (ma en st))) : PT X (.UnaryOp .Not a pos) (tT X.K W fun en st => tru ((ma en st).bind fun x st => (match truthD x st with
    | some b => .ok (.bl (!b)) st
    | none => .bad))) := by
  refine PTimp (pt_not ha) fun σ H Q h => ?_
  have h' : tG X.K W RpB (fun en st => (tru (ma en st)).bind fun b st => .ok (!b) st) σ H Q := tG.imp h fun en st => by
    cases ma en st with
    | ok d st =>
      simp only [R.bind_ok, tru]
      cases truthD d st <;> rfl
    | exc _ _ => rfl
    | bad => rfl
  exact (tG.step (Rp := RpB) h').mono fun v H1 ⟨en, d, io, st, er, so, rd, p⟩ => by
    cases rd
    exact p _ io H1 (Ext.refl _ _) so rfl
variable {rest : List Expr}
def andR (ma mb : En → Sto → R D) : En → Sto → R D := fun en st => (ma en st).bind fun x st => (match truthD x st with
    | some true => mb en st
    | some false => .ok x st
    | none => .bad)
def orR (ma mb : En → Sto → R D) : En → Sto → R D := fun en st => (ma en st).bind fun x st => (match truthD x st with
    | some true => .ok x st
    | some false => mb en st
    | none => .bad)
theorem pe_and2 (ha : PE X a (tE X.K W ma)) (hb : PE X (.BoolOp .And (b :: rest) pos) (tE X.K W mb)) : PE X (.BoolOp .And (a :: b :: rest) pos) (tE X.K W (andR ma mb)) := by
  refine ⟨fun pins s σ H Q I h => ?_⟩
  refine PyProof.Rows.BoolOp_and (thn (ha.run pins s σ H _ I (tG.step (Rp := RpD X.K) h)) fun u s1 ⟨v, H1, I1, ru, en, d, io, st, er, so, rd, p⟩ => ?_)
  cases e : truthD d st with
  | none => rw [e] at p; exact p.elim
  | some k =>
    rw [e] at p
    refine thn (tru_ok pins s1 σ H1 v u (fun k' H' => k' = k ∧ H' = H1) I1 ru ⟨k, truth_at e so rd, rfl, rfl⟩) fun c s2 ⟨H2, I2, h2, h3⟩ => ?_
    subst h2 h3
    cases c with
    | true =>
      rw [if_pos rfl]
      exact hb.run pins s2 σ _ Q I2 ⟨en, st, io, er, so, p⟩
    | false =>
      rw [if_neg (by decide)]
      exact ⟨v, _, I2, ru, p _ io _ (Ext.refl _ _) so rd⟩
theorem pe_or2 (ha : PE X a (tE X.K W ma)) (hb : PE X (.BoolOp .Or (b :: rest) pos) (tE X.K W mb)) : PE X (.BoolOp .Or (a :: b :: rest) pos) (tE X.K W (orR ma mb)) := by
  refine ⟨fun pins s σ H Q I h => ?_⟩
  refine PyProof.Rows.BoolOp_or (thn (ha.run pins s σ H _ I (tG.step (Rp := RpD X.K) h)) fun u s1 ⟨v, H1, I1, ru, en, d, io, st, er, so, rd, p⟩ => ?_)
  cases e : truthD d st with
  | none => rw [e] at p; exact p.elim
  | some k =>
    rw [e] at p
    refine thn (tru_ok pins s1 σ H1 v u (fun k' H' => k' = k ∧ H' = H1) I1 ru ⟨k, truth_at e so rd, rfl, rfl⟩) fun c s2 ⟨H2, I2, h2, h3⟩ => ?_
    subst h2 h3
    cases c with
    | false =>
      rw [if_neg (by decide)]
      exact hb.run pins s2 σ _ Q I2 ⟨en, st, io, er, so, p⟩
    | true =>
      rw [if_pos rfl]
      exact ⟨v, _, I2, ru, p _ io _ (Ext.refl _ _) so rd⟩
theorem tru_and (r : R D) (m : Sto → R D) : tru (r.bind fun x st => (match truthD x st with
    | some true => m st
    | some false => .ok x st
    | none => .bad)) = (tru r).bind fun k st => (match k with
    | true => tru (m st)
    | false => .ok false st) := by
  cases r with
  | ok d st =>
    simp only [R.bind_ok, tru]
    cases e : truthD d st with
    | none => rfl
    | some k =>
      cases k with
      | true => rfl
      | false =>
        show tru (.ok d st) = _
        rw [tru_ok', e]
        rfl
  | exc _ _ => rfl
  | bad => rfl
theorem tru_or (r : R D) (m : Sto → R D) : tru (r.bind fun x st => (match truthD x st with
    | some true => .ok x st
    | some false => m st
    | none => .bad)) = (tru r).bind fun k st => (match k with
    | true => .ok true st
    | false => tru (m st)) := by
  cases r with
  | ok d st =>
    simp only [R.bind_ok, tru]
    cases e : truthD d st with
    | none => rfl
    | some k =>
      cases k with
      | false => rfl
      | true =>
        show tru (.ok d st) = _
        rw [tru_ok', e]
        rfl
  | exc _ _ => rfl
  | bad => rfl
abbrev tTr (K : PySem.W.Frag) (W : WX) (m : En → Sto → R D) : TT := tT K W fun en st => tru (m en st)
theorem pw_and2 (ha : PT X a (tTr X.K W ma)) (hb : PW X (.BoolOp .And (b :: rest) pos) (tTr X.K W mb)) : PW X (.BoolOp .And (a :: b :: rest) pos) (tTr X.K W (andR ma mb)) := by
  refine PWimp (pw_and ha hb) fun σ H Q h => ?_
  refine (tG.step (Rp := RpB) (tG.imp h fun en st => tru_and (ma en st) (mb en))).mono fun v H1 ⟨en, d, io, st, er, so, rd, p⟩ => ?_
  cases rd
  cases v with
  | true => rw [if_pos rfl]; exact ⟨en, st, io, er, so, p⟩
  | false => rw [if_neg (by decide)]; exact p _ io H1 (Ext.refl _ _) so rfl
theorem pw_or2 (ha : PT X a (tTr X.K W ma)) (hb : PW X (.BoolOp .Or (b :: rest) pos) (tTr X.K W mb)) : PW X (.BoolOp .Or (a :: b :: rest) pos) (tTr X.K W (orR ma mb)) := by
  refine PWimp (pw_or ha hb) fun σ H Q h => ?_
  refine (tG.step (Rp := RpB) (tG.imp h fun en st => tru_or (ma en st) (mb en))).mono fun v H1 ⟨en, d, io, st, er, so, rd, p⟩ => ?_
  cases rd
  cases v with
  | true => rw [if_pos rfl]; exact p _ io H1 (Ext.refl _ _) so rfl
  | false => rw [if_neg (by decide)]; exact ⟨en, st, io, er, so, p⟩
/-! ### a if c else b -/
def iteR (mc ma mb : En → Sto → R D) : En → Sto → R D := fun en st => (tru (mc en st)).bind fun k st => (match k with
    | true => ma en st
    | false => mb en st)
theorem pe_ite2 (hc : PT X c (tTr X.K W mc)) (ha : PE X a (tE X.K W ma)) (hb : PE X b (tE X.K W mb)) : PE X (.IfExp c a b pos) (tE X.K W (iteR mc ma mb)) := by
  refine PEimp (pe_ifExp hc ha hb) fun σ H Q h => (tG.step (Rp := RpB) h).mono fun v H1 ⟨en, d, io, st, er, so, rd, p⟩ => ?_
  cases rd
  cases v with
  | true => rw [if_pos rfl]; exact ⟨en, st, io, er, so, p⟩
  | false => rw [if_neg (by decide)]; exact ⟨en, st, io, er, so, p⟩
theorem pt_ite2 (hc : PT X c (tTr X.K W mc)) (ha : PT X a (tTr X.K W ma)) (hb : PT X b (tTr X.K W mb)) : PT X (.IfExp c a b pos) (tTr X.K W (iteR mc ma mb)) := by
  refine ⟨fun pins s σ H Q I h => ?_⟩
  have h' : tG X.K W RpB (fun en st => (tru (mc en st)).bind fun k st => (match k with | true => tru (ma en st) | false => tru (mb en st))) σ H Q := tG.imp h fun en st => by
    show tru ((tru (mc en st)).bind _) = _
    rw [tru_bind]
    congr 1
    funext k st
    cases k <;> rfl
  show wpAny _ _ (do if ← isTrue c X.env (eval c X.env) then isTrue a X.env (eval a X.env) else isTrue b X.env (eval b X.env)) _ _ _
  refine wpAny_bind (thn (hc.run pins s σ H _ I (tG.step (Rp := RpB) h')) fun k s1 ⟨H1, I1, en, d, io, st, er, so, rd, p⟩ => ?_)
  cases rd
  cases k with
  | true => exact ha.run pins s1 σ H1 Q I1 ⟨en, st, io, er, so, p⟩
  | false => exact hb.run pins s1 σ H1 Q I1 ⟨en, st, io, er, so, p⟩
end
end Mi

set_option maxRecDepth 100000
set_option maxHeartbeats 4000000
namespace Mi
open PySem PySem.Spec L2

section
variable {X : Cx} {W : WX} {a b x : Expr} {es : List Expr} {ma mb : En → Sto → R D} {ms : En → Sto → R (List D)} {pos : Pos} {G : Gs} {C : Call}
/-! ### argument lists -/
theorem star_of (h : notStar a = true) (es : List Expr) (env : Env) : starEach (a :: es) env = (false, eval a env) :: starEach es env := by
  cases a <;> first | rfl | cases h
theorem plain_of {env : Env} : ∀ {es : List Expr}, (∀ e ∈ es, notStar e = true) → (backTo pos (starEach es env)).any (·.1) = false
  | [], _ => rfl
  | e :: es, h => by
    rw [star_of (h e (by simp))]
    exact plain_of (env := env) (es := es) fun e' he => h e' (List.mem_cons_of_mem _ he)
theorem pa_nil2 : PA X [] (tA X.K W fun _ st => .ok [] st) := PAimp pa_nil fun σ H Q ⟨en, st, io, er, so, p⟩ => p [] io H (Ext.refl _ _) so rfl
theorem pa_cons2 (hs : notStar a = true) (ha : PE X a (tE X.K W ma)) (hr : PA X es (tA X.K W ms)) : PA X (a :: es) (tA X.K W fun en st => (ma en st).bind fun x st => (ms en st).bind fun xs st => .ok (x :: xs) st) := by
  refine PAimp (pa_cons ha hr (star_of hs _ _)) fun σ H Q h => (tG.step2 (Rp := RpD X.K) (Rp' := RpL X.K) (fun x r => Rep.ext x _ _ r) h).mono fun v H1 h1 => h1.mono fun u H2 ⟨en, d, e, io, st, er, so, rd, re, p⟩ => ?_
  exact p (v :: u) io H2 (Ext.refl _ _) so (.cons rd re)
theorem pe_tup2 {k : Nat} (h : PA X es (tA X.K W ms)) : PE X (.Tuple es k pos) (tE X.K W fun en st => (ms en st).bind fun ds st => if ds.length ≤ sz then .ok (.tup ds) st else .bad) := by
  refine PEimp (pe_tup h) fun σ H Q hw => (tG.step (Rp := RpL X.K) hw).mono fun vs H1 ⟨en, ds, io, st, er, so, rd, p⟩ => ?_
  obtain ⟨hz, p⟩ := Post.ite p
  exact ⟨by rw [← sz_eq, ← rd.len]; exact hz, fun q n => p.newT so rd q n⟩
theorem pe_lst2 {m : Bool} (h : PA X es (tA X.K W ms)) : PE X (.List es pos) (tE X.K W fun en st => (ms en st).bind fun ds st => if ds.length ≤ sz then (match m with
    | false => .ok (.lst ds) st
    | true => .ok (.loc st.length) (st ++ [.lst ds])) else .bad) := by
  refine PEimp (pe_lst h) fun σ H Q hw => (tG.step (Rp := RpL X.K) hw).mono fun vs H1 ⟨en, ds, io, st, er, so, rd, p⟩ => ?_
  obtain ⟨hz, p⟩ := Post.ite p
  refine ⟨by rw [← sz_eq, ← rd.len]; exact hz, fun q n => ?_⟩
  cases m with
  | false => exact p.newL so rd q n
  | true => exact p.pushL so rd q n
/-! ### slices -/
theorem po_none2 : PO X none (tO X.K W fun _ st => .ok none st) := POimp po_none fun σ H Q ⟨en, st, io, er, so, p⟩ => p none io H (Ext.refl _ _) so rfl
def partR (ma : En → Sto → R D) : En → Sto → R (Option Int) := fun en st => (ma en st).bind fun x st => (match x with
    | .int i => .ok (some i) st
    | _ => .bad)
theorem po_some2 (ha : PE X a (tE X.K W ma)) : PO X (some a) (tO X.K W (partR ma)) := by
  refine POimp (po_some ha) fun σ H Q h => (tG.step (Rp := RpD X.K) h).mono fun v H1 ⟨en, d, io, st, er, so, rd, p⟩ => ?_
  cases d <;> first | exact p.elim | skip
  cases rd
  exact ⟨_, rfl, p _ io H1 (Ext.refl _ _) so rfl⟩
theorem pe_sl2 {lo hi : Option Expr} {ml mh : En → Sto → R (Option Int)} {p2 : Pos} (ha : PE X a (tE X.K W ma)) (hl : PO X lo (tO X.K W ml)) (hh : PO X hi (tO X.K W mh)) :
    PE X (.Subscript a (.Slice lo hi none p2) pos) (tE X.K W fun en st => (ma en st).bind fun x st => (ml en st).bind fun l st => (mh en st).bind fun u st => shut (slD x l u st)) := by
  refine PEimp (pe_slice sl_s ha hl hh) fun σ H Q h => (tG.step (Rp := RpD X.K) h).mono fun v H1 ⟨en, d, io, st, er, so, rd, p⟩ => ?_
  refine ⟨en, st, io, er, so, (Post.bind (Rp := RpO) p).mono fun l H2 ⟨l', io2, st2, x2, so2, rl, p2⟩ => ?_⟩
  cases rl
  refine ⟨en, st2, io2, er.ext x2, so2, (Post.bind (Rp := RpO) p2).mono fun u H3 ⟨u', io3, st3, x3, so3, ru, p3⟩ => ?_⟩
  cases ru
  exact ⟨d, st3, io3, so3, Rep.ext (x2.trans x3) _ _ rd, p3.shut⟩
theorem pe_rev2 {k : Nat} {p1 p2 p3 : Pos} (ha : PE X a (tE X.K W ma)) : PE X (.Subscript a (.Slice none none (some (.UnaryOp .USub (.Constant (.int 1) k p1) p2)) p3) pos) (tE X.K W fun en st => (ma en st).bind fun x st => shut (revD x st)) := by
  refine PEimp (pe_revT ha) fun σ H Q h => (tG.step (Rp := RpD X.K) h).mono fun v H1 ⟨en, d, io, st, er, so, rd, p⟩ => ?_
  cases d <;> first | exact p.elim | skip
  obtain ⟨a, xs, rfl, hq, r⟩ := rd
  exact ⟨a, xs, rfl, hq, fun q n => p.newT so r.reverse q n⟩
theorem pe_neg2 (ha : PE X a (tE X.K W ma)) : PE X (.UnaryOp .USub a pos) (tE X.K W fun en st => (ma en st).bind fun x st => shut (negD x st)) := by
  refine PEimp (pe_un un_neg ha) fun σ H Q h => (tG.step (Rp := RpD X.K) h).mono fun v H1 ⟨en, d, io, st, er, so, rd, p⟩ => ?_
  cases d <;> first | exact p.elim | skip
  cases rd
  exact ⟨_, rfl, p _ io H1 (Ext.refl _ _) so rfl⟩
/-! ### names -/
theorem gl_of {sc : Scope} (h : glB sc y = true) : sc.names.lookup y = some .globalImplicit ∧ plainNm y = true := by
  unfold glB at h
  rw [Bool.and_eq_true] at h
  obtain ⟨h1, h2⟩ := h
  refine ⟨?_, h2⟩
  split at h1
  · assumption
  · cases h1
theorem nm_of {y : Str} (h : plainNm y = true) : (y == ("__debug__" : Str)) = false ∧ (y == ("__classdict__" : Str)) = false ∧ y ≠ "__name__" := by
  unfold plainNm at h
  simp only [Bool.and_eq_true, Bool.not_eq_true'] at h
  exact ⟨h.1.1, h.1.2, fun e => by rw [e] at h; exact absurd h.2 (by simp)⟩
theorem vis_of {sc : Scope} {y : Str} (h : visB sc y = true) : Vis sc y := by
  unfold visB at h
  split at h
  · exact .inl (by assumption)
  · exact .inr (.inl (by assumption))
  · exact .inr (.inr (by assumption))
  · cases h
theorem pe_var2 {i : Nat} {y : Str} (h : varB X.N X.env.scope i y = true) : PE X (.Name y pos) (tE X.K W fun en st => (match en[i]? with
    | some (some d) => .ok d st
    | _ => .bad)) := by
  unfold varB at h
  simp only [Bool.and_eq_true, decide_eq_true_eq] at h
  obtain ⟨⟨h1, h2⟩, h3⟩ := h
  obtain ⟨n1, n2, n3⟩ := nm_of h3
  refine PEimp (pe_var h1 (vis_of h2) n1 n2) fun σ H Q ⟨en, st, io, er, so, p⟩ => ?_
  dsimp only at p
  cases e : en[i]? with
  | none => rw [show (match en[i]? with | some (some d) => R.ok d st | _ => R.bad) = R.bad by rw [e]] at p; exact p.elim
  | some o =>
    cases o with
    | none => rw [show (match en[i]? with | some (some d) => R.ok d st | _ => R.bad) = R.bad by rw [e]] at p; exact p.elim
    | some d =>
      rw [show (match en[i]? with | some (some d) => R.ok d st | _ => R.bad) = R.ok d st by rw [e]] at p
      obtain ⟨v, e2, r⟩ := er.2 _ _ e
      exact ⟨v, e2, p v io H (Ext.refl _ _) so r⟩
theorem ty_of {y : Str} {n : String} (h : tyB y n = true) : bootBuiltins y = some (.type n) := by
  unfold tyB at h
  split at h
  · rename_i m e
    rw [e, of_decide_eq_true h]
  · cases h
theorem pe_ty2 {y : Str} {n : String} (hg : glB X.env.scope y = true) (hm : X.mg y = none) (ht : tyB y n = true) : PE X (.Name y pos) (tE X.K W fun _ st => .ok (.ty n) st) := by
  obtain ⟨g1, g2⟩ := gl_of hg
  obtain ⟨n1, n2, n3⟩ := nm_of g2
  exact PEimp (pe_bltn (v := .ty n) g1 hm (ty_of ht) rfl n3 n1) fun σ H Q ⟨en, st, io, er, so, p⟩ => p _ io H (Ext.refl _ _) so rfl
theorem pe_glo2 (g : Good G C X W) {y : Str} {d : D} (hg : glB X.env.scope y = true) (hd : G.glo.lookup y = some d) : PE X (.Name y pos) (tE X.K W fun _ st => .ok d st) := by
  obtain ⟨g1, g2⟩ := gl_of hg
  obtain ⟨n1, n2, n3⟩ := nm_of g2
  obtain ⟨u, v, hm, r, rep⟩ := g.glo y d hd
  exact PEimp (pe_glob (v := v) g1 hm r n1) fun σ H Q ⟨en, st, io, er, so, p⟩ => p _ io H (Ext.refl _ _) so (rep H io)
theorem pe_con2 {v : V} {d : D} (h : PE X x (tC v)) (r : ∀ H io, Rep X.K H io d v) : PE X x (tE X.K W fun _ st => .ok d st) :=
  PEimp h fun σ H Q ⟨en, st, io, er, so, p⟩ => p v io H (Ext.refl _ _) so (r H io)
theorem pe_edct2 : PE X (.Dict [] [] pos) (tE X.K W fun _ st => .ok (.dct [] []) st) := by
  refine PEimp pe_dnewK fun σ H Q ⟨en, st, io, er, so, p⟩ => ?_
  intro q n
  exact p _ io _ (Ext.fresh so n _) (so.fresh n _) ⟨q, [], rfl, ⟨upd_same, so.free n⟩, rfl, rfl⟩
/-! ### calls of built-in functions -/
theorem bf_ok (g : Good G C X W) (f : Bf) : (∃ id, bootBuiltins (bfName f) = some (.builtin id) ∧ CallR X (.builtin id) (rN X.K (bf f))) ∨ ∃ T, bootBuiltins (bfName f) = some (.type T) ∧ CallR X (.type T) (rN X.K (bf f)) := by
  have hc := g.calm
  cases f
  · exact .inl ⟨"len", rfl, len_s⟩
  · exact .inl ⟨"all", rfl, all_s hc⟩
  · exact .inl ⟨"any", rfl, any_s hc⟩
  · exact .inr ⟨"int", rfl, int_s⟩
  · exact .inl ⟨"abs", rfl, abs_s⟩
  · exact .inl ⟨"max", rfl, max_s hc⟩
  · exact .inl ⟨"min", rfl, min_s hc⟩
  · exact .inr ⟨"list", rfl, list_s⟩
  · exact .inr ⟨"list", rfl, listM_s⟩
  · exact .inr ⟨"tuple", rfl, tuple_s⟩
  · exact .inl ⟨"isinstance", rfl, isi_s⟩
  · exact .inl ⟨"repr", rfl, repr_s g.hu g.gd g.sysm⟩
theorem pe_bf2 (g : Good G C X W) (f : Bf) {y : Str} {p : Pos} (hy : y = bfName f) (hg : glB X.env.scope y = true) (hm : X.mg y = none) (ha : PA X (a :: es) (tA X.K W ms)) (hs : ∀ e ∈ a :: es, notStar e = true) :
    PE X (.Call (.Name y p) (a :: es) [] pos) (tE X.K W fun en st => (ms en st).bind fun ds st => shut (bf f ds st)) := by
  obtain ⟨g1, g2⟩ := gl_of hg
  obtain ⟨n1, n2, n3⟩ := nm_of g2
  have he := star_of (hs a (by simp)) es X.env
  have hp : (backTo pos (starEach es X.env)).any (·.1) = false := plain_of fun e h => hs e (List.mem_cons_of_mem _ h)
  have im : ∀ σ H Q, tE X.K W (fun en st => (ms en st).bind fun ds st => Mi.shut (bf f ds st)) σ H Q → tCB (rN X.K (bf f)) (tA X.K W ms) σ H Q := fun σ H Q h => (tG.step (Rp := RpL X.K) h).mono fun vs H1 ⟨en, ds, io, st, er, so, rd, p⟩ => ⟨ds, st, io, so, rd, p.shut⟩
  rcases bf_ok g f with ⟨id, hb, hc⟩ | ⟨T, hb, hc⟩
  · exact PEimp (pe_callB hc g1 hm (by rw [hy]; exact hb) ha n3 n1 he hp) im
  · exact PEimp (pe_callTy hc g1 hm (by rw [hy]; exact hb) ha n3 n1 he hp) im
/-! ### calls of own defs -/
theorem pe_own2 (g : Good G C X W) {y : Str} {ps : List Str} {p : Pos} (hg : glB X.env.scope y = true) (hf : G.fns.lookup y = some ps) (ha : PA X (a :: es) (tA X.K W ms)) (hs : ∀ e ∈ a :: es, notStar e = true) :
    PE X (.Call (.Name y p) (a :: es) [] pos) (tE X.K W fun en st => (ms en st).bind fun ds st => C y ds st) := by
  obtain ⟨g1, g2⟩ := gl_of hg
  obtain ⟨n1, n2, n3⟩ := nm_of g2
  obtain ⟨k, hr, hall⟩ := g.lev
  obtain ⟨hm, hk, F⟩ := hall y ps hf
  refine PEimp (pe_callG F hr g.tk g1 hm hk ha n1 (star_of (hs a (by simp)) es X.env) (plain_of fun e h => hs e (List.mem_cons_of_mem _ h))) fun σ H Q h => ?_
  exact (tG.step (Rp := RpL X.K) h).mono fun vs H1 ⟨en, ds, io, st, er, so, rd, p⟩ => ⟨ds, st, io, so, rd, p⟩
theorem pe_own0 (g : Good G C X W) {y : Str} {ps : List Str} {p : Pos} (hg : glB X.env.scope y = true) (hf : G.fns.lookup y = some ps) :
    PE X (.Call (.Name y p) [] [] pos) (tE X.K W fun _ st => C y [] st) := by
  obtain ⟨g1, g2⟩ := gl_of hg
  obtain ⟨n1, n2, n3⟩ := nm_of g2
  obtain ⟨k, hr, hall⟩ := g.lev
  obtain ⟨hm, hk, F⟩ := hall y ps hf
  exact PEimp (pe_callG0 F hr g.tk g1 hm hk n1) fun σ H Q ⟨en, st, io, er, so, p⟩ => ⟨[], st, io, so, rfl, p⟩
theorem pe_ownK (g : Good G C X W) {y nm : Str} {p kpos : Pos} (hg : glB X.env.scope y = true) (hf : G.fns.lookup y = some [nm]) (ha : PE X a (tE X.K W ma)) :
    PE X (.Call (.Name y p) [] [⟨some nm, a, kpos⟩] pos) (tE X.K W fun en st => (ma en st).bind fun d st => C y [d] st) := by
  obtain ⟨g1, g2⟩ := gl_of hg
  obtain ⟨n1, n2, n3⟩ := nm_of g2
  obtain ⟨k, hr, hall⟩ := g.lev
  obtain ⟨hm, hk, F⟩ := hall y _ hf
  refine PEimp (pe_callKG F hr g.tk g1 hm hk ha n1) fun σ H Q h => ?_
  exact (tG.step (Rp := RpD X.K) h).mono fun v H1 ⟨en, d, io, st, er, so, rd, p⟩ => ⟨[d], st, io, so, .cons rd .nil, p⟩
theorem pe_ownV (g : Good G C X W) {i : Nat} {y : Str} {p : Pos} (hv : varB X.N X.env.scope i y = true) (ha : PA X (a :: es) (tA X.K W ms)) (hs : ∀ e ∈ a :: es, notStar e = true) :
    PE X (.Call (.Name y p) (a :: es) [] pos) (tE X.K W fun en st => (match en[i]? with
    | some (some (.glo f)) => if (G.fns.lookup f).isSome = true then (ms en st).bind fun ds st => C f ds st else .bad
    | _ => .bad)) := by
  unfold varB at hv
  simp only [Bool.and_eq_true, decide_eq_true_eq] at hv
  obtain ⟨⟨h1, h2⟩, h3⟩ := hv
  obtain ⟨n1, n2, n3⟩ := nm_of h3
  obtain ⟨k, hr, hall⟩ := g.lev
  refine PEimp (pe_callVG hr g.tk h1 (vis_of h2) ha n1 n2 (star_of (hs a (by simp)) es X.env) (plain_of fun e h => hs e (List.mem_cons_of_mem _ h))) fun σ H Q ⟨en, st, io, er, so, p⟩ => ?_
  dsimp only at p
  have bad : ∀ {P : Prop}, (match en[i]? with
    | some (some (.glo f)) => if (G.fns.lookup f).isSome = true then (ms en st).bind fun ds st => C f ds st else R.bad
    | _ => R.bad) = R.bad → P := fun e => by rw [e] at p; exact p.elim
  cases e : en[i]? with
  | none => exact bad (by rw [e])
  | some o =>
    cases o with
    | none => exact bad (by rw [e])
    | some d =>
      cases d with
      | glo f =>
        cases hf : G.fns.lookup f with
        | none => exact bad (by simp [e, hf])
        | some ps =>
          rw [show (match en[i]? with
            | some (some (.glo f)) => if (G.fns.lookup f).isSome = true then (ms en st).bind fun ds st => C f ds st else R.bad
            | _ => R.bad) = (ms en st).bind fun ds st => C f ds st by simp [e, hf]] at p
          obtain ⟨v, e2, r⟩ := er.2 _ _ e
          cases r
          obtain ⟨hm, hk, F⟩ := hall f _ hf
          refine ⟨_, ps, C f, e2, F, hk, en, st, io, er, so, ?_⟩
          exact (Post.bind (Rp := RpL X.K) p).mono fun vs H1 ⟨ds, io1, st1, x, so1, rd, p1⟩ => ⟨ds, st1, io1, so1, rd, p1⟩
      | _ => exact bad (by rw [e])
end
section
variable {X : Cx} {W : WX} {a : Expr} {ma : En → Sto → R D} {p1 p2 p3 pos : Pos}
theorem pe_sset2 (hc : X.calm = true) (g1 : Gl X "sorted") (m1 : X.mg "sorted" = none) (g2 : Gl X "set") (m2 : X.mg "set" = none) (ha : PE X a (tE X.K W ma)) (hs : starEach [a] X.env = (false, eval a X.env) :: starEach [] X.env) :
    PE X (.Call (.Name "sorted" p1) [.Call (.Name "set" p2) [a] [] p3] [] pos) (tE X.K W fun en st => (ma en st).bind fun x st => shut (ssetD x st)) := by
  refine PEimp (pe_callB (cr_sortedSet hc) g1 m1 rfl (pa_cons (pe_callTy (cr_setTI hc) g2 m2 rfl (pa_cons ha pa_nil hs) (by decide) (by decide) hs rfl) pa_nil)) fun σ H Q h => ?_
  refine (tG.step (Rp := RpD X.K) h).mono fun v H1 ⟨en, d, io, st, er, so, rd, p⟩ => ?_
  unfold ssetD at p
  split at p
  · rename_i ds
    obtain ⟨b, xs, rfl, hq, rl⟩ := rd
    cases hi : intsOf ds with
    | none => rw [hi] at p; exact p.elim
    | some ns =>
      rw [hi] at p
      by_cases hl : ns.length < 64
      · simp only [hl, if_true] at p
        have ex := rl.ints (intsOf_eq hi)
        subst ex
        refine ⟨b, ns, rfl, hq, by omega, fun q c hcn hn => ⟨q, _, c, rfl, upd_same, by omega, fun ns' q' up mem len hn' => ?_⟩⟩
        have e : ns' = sortU ns := up_eq up (sortU_up ns) fun z => by rw [mem, mem_sortU]; simp
        subst e
        have x1 := Ext.fresh so hn (SetO X.w q (fun j => decide (j ∈ ns)) c)
        have s1 := so.fresh hn (SetO X.w q (fun j => decide (j ∈ ns)) c)
        refine p _ io _ (x1.trans (Ext.fresh s1 hn' _)) (s1.fresh hn' _) ⟨q', _, rfl, ⟨upd_same, s1.free hn'⟩, ?_⟩
        exact RepL.map (f := D.int) (g := V.int) (fun i => rfl) _
      · simp only [hl, if_false] at p; exact p.elim
  · exact p.elim
theorem pe_upper2 {apos : Pos} (ha : PE X a (tE X.K W ma)) (hb : attributeBase a "upper" X.env (eval a X.env) = eval a X.env) (hl : (apos.endLine == pos.line) = true) :
    PE X (.Call (.Attribute a "upper" apos) [] [] pos) (tE X.K W fun en st => (ma en st).bind fun x st => shut (upperD x st)) := by
  refine PEimp (pe_upper ha hb hl) fun σ H Q h => (tG.step (Rp := RpD X.K) h).mono fun v H1 ⟨en, d, io, st, er, so, rd, p⟩ => ?_
  cases d <;> first | exact p.elim | skip
  rename_i z
  cases rd
  simp only [upperD] at p
  by_cases hz : z.length ≤ 5592405
  · rw [if_pos hz] at p
    have hq := (Post.shut (W' := fun c d H' => W c d σ H') p).str so
    rw [str_back] at hq
    exact ⟨⟨_, rfl⟩, _, rfl, rfl, by rw [str_len]; exact hz, hq⟩
  · rw [if_neg hz] at p; exact p.elim
end
end Mi

set_option maxRecDepth 100000
set_option maxHeartbeats 4000000
namespace Mi
open PySem PySem.Spec L2

/-! ### targets -/
theorem wipe_in {σ : St} {i : Nat} : ∀ {vs : List Nat}, i ∈ vs → (L2.wipe σ vs)[i]? = (σ[i]?).map fun _ => none
  | [], h => by simp at h
  | v :: vs, h => by
    unfold L2.wipe
    by_cases e : v = i
    · subst e
      by_cases hl : v < σ.length
      · rw [List.getElem?_set_self (by rw [L2.wipe_length]; exact hl), List.getElem?_eq_getElem hl]; rfl
      · rw [List.getElem?_eq_none (by simpa [L2.wipe_length] using hl), List.getElem?_eq_none (by simpa using hl)]; rfl
    · rw [List.getElem?_set_ne e]
      exact wipe_in (by simpa [Ne.symm e] using h)
theorem wipe_set {σ : St} {i : Nat} {vs : List Nat} (h : i ∈ vs) (v : Option V) : L2.wipe (σ.set i v) vs = L2.wipe σ vs := by
  apply List.ext_getElem?
  intro j
  by_cases hj : j ∈ vs
  · rw [wipe_in hj, wipe_in hj]
    by_cases e : i = j
    · subst e
      by_cases hl : i < σ.length
      · rw [List.getElem?_set_self hl, List.getElem?_eq_getElem hl]; rfl
      · rw [List.getElem?_eq_none (by simpa using hl), List.getElem?_eq_none (by simpa using hl)]
    · rw [List.getElem?_set_ne e]
  · rw [L2.wipe_out hj, L2.wipe_out hj, List.getElem?_set_ne (fun e => hj (by rw [← e]; exact h))]
theorem wipe_wipe {σ : St} {vs : List Nat} : L2.wipe (L2.wipe σ vs) vs = L2.wipe σ vs := by
  apply List.ext_getElem?
  intro j
  by_cases hj : j ∈ vs
  · rw [wipe_in hj, wipe_in hj]
    cases σ[j]? <;> rfl
  · rw [L2.wipe_out hj]
def gT (K : PySem.W.Frag) (is : List Nat) (un : Bool) : TG := fun v σ H Q => ∃ en io d en', EnvR K H io en σ ∧ Rep K H io d v ∧ setT is un d en = some en' ∧
  ∀ σ', EnvR K H io en' σ' → (∀ vs : List Nat, (∀ i ∈ is, i ∈ vs) → L2.wipe σ' vs = L2.wipe σ vs) → Q σ' H
def gTs (K : PySem.W.Frag) (is : List Nat) : TGs := fun v σ H Q => ∃ en io d en', EnvR K H io en σ ∧ RepL K H io d v ∧ setAll is d en = some en' ∧
  ∀ σ', EnvR K H io en' σ' → (∀ vs : List Nat, (∀ i ∈ is, i ∈ vs) → L2.wipe σ' vs = L2.wipe σ vs) → Q σ' H
section
variable {X : Cx} {W : WX} {fnc : Str → Bool}
theorem PGimp {e : Expr} {t t' : TG} (h : PG X e t) (i : ∀ v σ H Q, t' v σ H Q → t v σ H Q) : PG X e t' := ⟨fun pins s σ H v u Q I r w => h.run pins s σ H v u Q I r (i _ _ _ _ w)⟩
theorem PGsimp {e : List Expr} {t t' : TGs} (h : PGs X e t) (i : ∀ v σ H Q, t' v σ H Q → t v σ H Q) : PGs X e t' := ⟨fun pins s σ H v u Q I r w => h.run pins s σ H v u Q I r (i _ _ _ _ w)⟩
theorem loc_of {N : List Str} {sc : Scope} {i : Nat} {x : Str} (h : locB N sc fnc i x = true) : N[i]? = some x ∧ Loc sc x ∧ (fnc x = true ∨ sc.names.lookup x = some .local) := by
  unfold locB at h
  simp only [Bool.and_eq_true, decide_eq_true_eq] at h
  obtain ⟨h1, h2⟩ := h
  split at h2
  · exact ⟨h1, .inl (by assumption), .inr (by assumption)⟩
  · exact ⟨h1, .inr (by assumption), .inl h2⟩
  · cases h2
theorem pg_nm (hN : X.N.Nodup) (hf : ∀ x, fnc x = true → X.fn x = true) {i : Nat} {x : Str} {pos : Pos} (h : locB X.N X.env.scope fnc i x = true) : PG X (.Name x pos) (gName i) := by
  obtain ⟨h1, h2, h3⟩ := loc_of h
  exact pg_name hN h1 h2 (h3.imp (hf x) id)
theorem pgs_ok (hN : X.N.Nodup) (hf : ∀ x, fnc x = true → X.fn x = true) : ∀ (is : List Nat) (es : List Expr), ckts X.N X.env.scope fnc is es = true → PGs X es (gTs X.K is) ∧ (assignEach es X.env).length = is.length ∧ (assignEach es X.env).findIdx? (·.1) = none
  | [], [], _ => ⟨PGsimp pgs_nil fun v σ H Q ⟨en, io, d, en', er, r, e, q⟩ => by
    cases d with
    | nil => cases r; cases e; exact ⟨rfl, q σ er fun _ _ => rfl⟩
    | cons _ _ => simp [setAll] at e, rfl, rfl⟩
  | i :: is, .Name x pos :: es, h => by
    unfold ckts at h
    rw [Bool.and_eq_true] at h
    obtain ⟨h1, h2, h3⟩ := pgs_ok hN hf is es h.2
    refine ⟨PGsimp (pgs_cons (pg_nm hN hf h.1) h1) fun v σ H Q ⟨en, io, d, en', er, r, e, q⟩ => ?_, ?_, ?_⟩
    · cases d with
      | nil => simp [setAll] at e
      | cons d ds =>
        obtain ⟨u, us, rfl, r1, r2⟩ := r
        refine ⟨u, us, rfl, ?_⟩
        exact ⟨en.set i (some d), io, ds, en', er.set r1, r2, e, fun σ' er' w => q σ' er' fun vs hv => (w vs fun j hj => hv j (List.mem_cons_of_mem _ hj)).trans (wipe_set (hv i (by simp)) _)⟩
    · show ((false, assign (.Name x pos) X.env) :: assignEach es X.env).length = _
      rw [List.length_cons, h2, List.length_cons]
    · show ((false, assign (.Name x pos) X.env) :: assignEach es X.env).findIdx? (·.1) = none
      rw [List.findIdx?_cons, h3]
      rfl
  | [], _ :: _, h => by simp [ckts] at h
  | _ :: _, [], h => by simp [ckts] at h
theorem pg_ok (hc : X.calm = true) (hN : X.N.Nodup) (hf : ∀ x, fnc x = true → X.fn x = true) {is : List Nat} {un : Bool} {tg : Expr} (h : ckt X.N X.env.scope fnc is un tg = true) : PG X tg (gT X.K is un) := by
  unfold ckt at h
  split at h
  · rename_i i x pos
    refine PGimp (pg_nm hN hf h) fun v σ H Q ⟨en, io, d, en', er, r, e, q⟩ => ?_
    cases e
    exact q _ (er.set r) fun vs hv => wipe_set (hv i (by simp)) _
  · rename_i is es k pos
    obtain ⟨h1, h2, h3⟩ := pgs_ok hN hf _ es h
    refine PGimp (pg_tup hc h1 h2 h3) fun v σ H Q ⟨en, io, d, en', er, r, e, q⟩ => ?_
    cases d <;> first | (simp [setT] at e; done) | skip
    obtain ⟨a, xs, rfl, hq, rl⟩ := r
    have e' : setAll _ _ en = some en' := e
    refine ⟨a, xs, rfl, hq, ?_, en, io, _, en', er, rl, e', q⟩
    rw [← rl.len]
    have : ∀ (is : List Nat) (ds : List D) (en en' : En), setAll is ds en = some en' → ds.length = is.length := by
      intro is
      induction is with
      | nil => intro ds en en' h; cases ds with | nil => rfl | cons _ _ => simp [setAll] at h
      | cons i is ih => intro ds en en' h; cases ds with | nil => simp [setAll] at h | cons d ds => rw [List.length_cons, List.length_cons, ih ds _ _ h]
    exact this _ _ _ _ e'
  · cases h
end

/-! ### a comprehension -/
abbrev WF : WX := fun _ _ _ _ => False
theorem takes_WF (X : Cx) : Takes X WF := fun u s' ⟨a, B, sI, pins, σ, H, cls, d, _, _, _, _, _, _, _, _, w⟩ => w.elim
theorem Good.blk {G : Gs} {C : Call} {X : Cx} {W : WX} (g : Good G C X W) {scope : Scope} (hk : scope.kind = .function) (s : Shared) (H : Hp) (Cc : Addr) (cl : List (Str × Addr)) (fp : List Addr) : Good G C (X.blk s H scope (compEnvC scope cl Cc X.env) fp) WF where
  calm := g.calm
  nd := g.nd
  kind := hk
  lev := g.lev
  no := g.no
  glo := g.glo
  tk := takes_WF _
  sysm := g.sysm
theorem shut_bind {α β : Type} {r : R α} {f : α → Sto → R β} {K : PySem.W.Frag} {io : Io} {H : Hp} {W : XK} {γ : Type} {Rp : Hp → Io → β → γ → Prop} {Q : γ → Hp → Prop} (p : Post K io H W Rp ((shut r).bind f) Q) : ∃ a st, r = .ok a st ∧ Post K io H W Rp (f a st) Q := by
  cases r with
  | ok a st => exact ⟨a, st, rfl, p⟩
  | exc _ _ => exact p.elim
  | bad => exact p.elim
theorem bind_ok_inv {α β : Type} {r : R α} {f : α → Sto → R β} {b : β} {st : Sto} (h : r.bind f = .ok b st) : ∃ a s1, r = .ok a s1 ∧ f a s1 = .ok b st := by
  cases r with
  | ok a s1 => exact ⟨a, s1, rfl, h⟩
  | exc _ _ => cases h
  | bad => cases h
section
variable {X : Cx} {W : WX} {G : Gs} {C : Call} {elt tg iter : Expr} {ifs : List Expr} {scope : Scope} {own : List (Str × Nat)} {pos : Pos} {k : Ik} {is : List Nat} {un : Bool} {ms : En → Sto → R (List D)} {mc : En → Sto → R Bool} {me : En → Sto → R D}
theorem lc_imp {K : PySem.W.Frag} (hsub : ∀ i ∈ is, i ∈ own.map (·.2)) {σ : St} {H : Hp} {Q : VK} (h : tE K W (fun en st => (ms en st).bind fun ds st => (match walkOf k ds with
    | none => .bad
    | some xs => (shut (lcRun is un mc me xs (wipeE en (own.map (·.2))) st [])).bind fun ds st => .ok (.lst ds) st)) σ H Q) :
    tLc (iI K W fun en st => (ms en st).bind fun ds st => ofL (walkOf k ds) st) (gT K is un) (tT K WF mc) (tE K WF me) (own.map (·.2)) σ H Q := by
  have h' : tG K W (RpD K) (fun en st => ((ms en st).bind fun ds st => ofL (walkOf k ds) st).bind fun xs st => (shut (lcRun is un mc me xs (wipeE en (own.map (·.2))) st [])).bind fun ds st => .ok (.lst ds) st) σ H Q := tG.imp h fun en st => by
    cases ms en st with
    | ok ds st =>
      simp only [R.bind_ok]
      cases walkOf k ds <;> rfl
    | exc _ _ => rfl
    | bad => rfl
  refine (tG.step (Rp := RpY K) h').mono fun J H1 ⟨en, xs, io, st, er, so, y, p⟩ => ?_
  intro L hD
  obtain ⟨ds, stf, etot, p2⟩ := shut_bind p
  generalize hvs : own.map (·.2) = vs at *
  have hDi : L ∉ io := so.free hD
  let Wi : Nat → Hp → Prop := fun i Hc => ∃ (i2 : Io) (st2 : Sto) (acc : List D) (accv : List V), Ext io H1 i2 Hc ∧ StOk K Hc (i2.hide L) st2 ∧ Hc L = some (.lst accv) ∧ RepL K Hc (i2.hide L) acc accv ∧
    EnvR K Hc (i2.hide L) (wipeE en vs) (L2.wipe σ vs) ∧ lcRun is un mc me (xs.drop i) (wipeE en vs) st2 acc = .ok ds stf
  refine ⟨fun i m Hc => m = xs.length - i ∧ i ≤ xs.length ∧ Wi i Hc, ⟨xs.length, rfl, Nat.zero_le _, io, st, [], [], Ext.fresh so hD _, so.hide hD, upd_same, rfl, (er.wipe vs).mv (Mv.hide hD _), etot⟩, ?_⟩
  rintro i m Hc ⟨rfl, hi, i2, st2, acc, accv, x2, so2, hDc, rl2, er2, run2⟩
  by_cases hlt : i < xs.length
  · have mv2 : Mv io H1 (i2.hide L) Hc := x2.mv.under hD
    refine .inr ⟨y.go _ _ i mv2 hlt, Wi (i + 1), fun H' w => ⟨xs.length - (i + 1), by omega, rfl, hlt, w⟩, fun v H'' yl => ?_⟩
    have hxi : xs[i]? = some xs[i] := List.getElem?_eq_getElem hlt
    obtain ⟨x3, so3, rd⟩ := y.yld _ _ st2 i _ v H'' mv2 so2 hxi yl
    rw [List.drop_eq_getElem_cons hlt] at run2
    unfold lcRun at run2
    cases es : setT is un xs[i] (wipeE en vs) with
    | none => rw [es] at run2; cases run2
    | some en' =>
      rw [es] at run2
      obtain ⟨b, st3, ec, run3⟩ := bind_ok_inv run2
      refine ⟨wipeE en vs, i2.hide L, xs[i], en', er2.ext x3, rd, es, fun σ2 erA hw => ⟨(hw vs fun j hj => hvs ▸ hsub j hj).trans wipe_wipe, en', st2, i2.hide L, erA, so3, ?_⟩⟩
      rw [ec]
      intro b' io4 H4 x4 so4 eb
      cases eb
      have hh4 : io4 = Io.hide ⟨io4.l, i2.h⟩ L := by
        have e := x4.same
        cases io4
        simp only at e
        subst e
        rfl
      have xa : Ext io H1 i2 H'' := (Ext.under x2 hD hDi x3 : Ext io H1 ⟨(i2.hide L).l, i2.h⟩ H'')
      have xb : Ext io H1 ⟨io4.l, i2.h⟩ H4 := Ext.under xa hD hDi x4
      have hD3 : H'' L = some (.lst accv) := by rw [(x3.hid L List.mem_cons_self (so2.hs L List.mem_cons_self).1).1]; exact hDc
      have hD4 : H4 L = some (.lst accv) := by rw [(x4.hid L List.mem_cons_self (so3.hs L List.mem_cons_self).1).1]; exact hD3
      have rl4 := RepL.ext x4 _ _ (RepL.ext x3 _ _ rl2)
      have er4 := (er2.ext x3).ext x4
      cases b with
      | false =>
        rw [if_neg (by decide)]
        rw [hh4] at so4 rl4 er4
        exact ⟨_, st3, acc, accv, xb, so4, hD4, rl4, er4, run3⟩
      | true =>
        rw [if_pos rfl]
        obtain ⟨yv, st5, ee, run4⟩ := bind_ok_inv run3
        refine ⟨en', st3, io4, erA.ext x4, so4, ?_⟩
        rw [ee]
        intro w io5 H5 x5 so5 rw5
        rw [hh4] at x5 so4 rl4 er4
        by_cases hz : acc.length < sz
        · rw [if_pos hz] at run4
          have hh5 : io5 = Io.hide ⟨io5.l, i2.h⟩ L := by
            have e := x5.same
            cases io5
            simp only at e
            subst e
            rfl
          have xc : Ext io H1 ⟨io5.l, i2.h⟩ H5 := Ext.under (i1 := ⟨io4.l, i2.h⟩) xb hD hDi x5
          have hD5 : H5 L = some (.lst accv) := by rw [(x5.hid L List.mem_cons_self (so4.hs L List.mem_cons_self).1).1]; exact hD4
          have rl5 := RepL.ext x5 _ _ rl4
          have er5 := er4.ext x5
          rw [hh5] at so5 rl5 er5 rw5
          refine ⟨accv, hD5, by rw [← rl5.len, ← sz_eq]; exact hz, _, st5, acc ++ [yv], accv ++ [w], xc.poke hD hDi _, so5.hidden hD5, upd_same, RepL.mv (Mv.hidden hD5 _) _ _ (rl5.append (.cons rw5 .nil)), er5.mv (Mv.hidden hD5 _), run4⟩
        · rw [if_neg hz] at run4; cases run4
  · have e : i = xs.length := by omega
    subst e
    rw [List.drop_length] at run2
    have run2' : R.ok acc st2 = R.ok ds stf := run2
    cases run2'
    refine .inl ⟨y.stop _ _ (x2.mv), p2 (.ref L) i2 Hc x2 so2.show_ ⟨L, accv, rfl, ⟨hDc, fun hm => ?_⟩, RepL.mv Mv.show_ _ _ rl2⟩⟩
    rcases hm with hm | hm
    · exact (so2.hs L List.mem_cons_self).1 hm
    · exact hDi (.inr (by rw [← x2.same]; exact hm))
theorem pe_lcM (g : Good G C X W) (hi : PI X tg iter (iI X.K W fun en st => (ms en st).bind fun ds st => ofL (walkOf k ds) st)) (ok : BlkOk X.N X.env.scope scope own)
    (hg : ∀ (s : Shared) (H : Hp) (Cc : Addr) (cl : List (Str × Addr)) (fp : List Addr), PG (X.blk s H scope (compEnvC scope cl Cc X.env) fp) tg (gT X.K is un))
    (ht : ∀ (s : Shared) (H : Hp) (Cc : Addr) (cl : List (Str × Addr)) (fp : List Addr), PTs (X.blk s H scope (compEnvC scope cl Cc X.env) fp) ifs (tT X.K WF mc))
    (he : ∀ (s : Shared) (H : Hp) (Cc : Addr) (cl : List (Str × Addr)) (fp : List Addr), PE (X.blk s H scope (compEnvC scope cl Cc X.env) fp) elt (tE X.K WF me))
    (hsub : ∀ i ∈ is, i ∈ own.map (·.2)) (hs : ∀ x, foldedSetIterable iter X.env x = pure x) :
    PE X (.ListComp elt [⟨tg, iter, ifs, 0⟩] scope pos) (tE X.K W fun en st => (ms en st).bind fun ds st => (match walkOf k ds with
    | none => .bad
    | some xs => (shut (lcRun is un mc me xs (wipeE en (own.map (·.2))) st [])).bind fun ds st => .ok (.lst ds) st)) :=
  PEimp (pe_lc g.calm g.nd hi ok hg ht he hs) fun σ H Q h => lc_imp hsub h
end
end Mi

set_option maxRecDepth 100000
set_option maxHeartbeats 4000000
namespace Mi
open PySem PySem.Spec L2

/-! ### the checker is right -/
section
variable {G : Gs} {C : Call}
def OkE (G : Gs) (C : Call) (e : E) (X : Cx) (W : WX) (x : Expr) : Prop := PE X x (tE X.K W (ev G C e)) ∧ PT X x (tTr X.K W (ev G C e)) ∧ ((∃ op l pos, x = .BoolOp op l pos) → PW X x (tTr X.K W (ev G C e)))
def SndE (G : Gs) (C : Call) (e : E) : Prop := ∀ (X : Cx) (W : WX) (x : Expr), Good G C X W → ck G X.N e X.env.scope x = true → OkE G C e X W x
def SndL (G : Gs) (C : Call) (e : E) : Prop := ∀ (X : Cx) (W : WX) (xs : List Expr), Good G C X W → ckl G X.N e X.env.scope xs = true → PA X xs (tA X.K W (evs G C e)) ∧ ∀ x ∈ xs, notStar x = true
def SndP (G : Gs) (C : Call) (e : E) : Prop := ∀ (X : Cx) (W : WX) (x : Option Expr), Good G C X W → ckp G X.N e X.env.scope x = true → PO X x (tO X.K W (part G C e))
def SndC (G : Gs) (C : Call) (e : E) : Prop := ∀ (X : Cx) (W : WX) (xs : List Expr), Good G C X W → ckc G X.N e X.env.scope xs = true → PTs X xs (tT X.K W (evc G C e))
def SndS (G : Gs) (C : Call) (e : E) : Prop := ∀ (X : Cx) (W : WX) (x : Expr), Good G C X W → ckl G X.N e X.env.scope [x] = true → ∃ a, e = .cons a .nil ∧ PE X x (tE X.K W (ev G C a))
def Snd (G : Gs) (C : Call) (e : E) : Prop := SndE G C e ∧ SndL G C e ∧ SndP G C e ∧ SndC G C e ∧ SndS G C e
theorem mkSnd {e : E} (h : SndE G C e) (h1 : ∀ N sc xs, ckl G N e sc xs = false) (h2 : ∀ N sc xs, ckp G N e sc xs = false) (h3 : ∀ N sc xs, ckc G N e sc xs = false) : Snd G C e :=
  ⟨h, fun X W xs g q => by rw [h1] at q; (cases q), fun X W xs g q => by rw [h2] at q; (cases q), fun X W xs g q => by rw [h3] at q; (cases q), fun X W xs g q => by rw [h1] at q; (cases q)⟩
theorem okPlain {e : E} {X : Cx} {W : WX} {x : Expr} (h : PE X x (tE X.K W (ev G C e))) (he : ∀ whole, isTrue x X.env whole = (do let v ← whole; standAt x.pos; holding [v] (truthy v))) (hb : ∀ op l pos, x ≠ .BoolOp op l pos) : OkE G C e X W x :=
  ⟨h, pt_plain h he, fun ⟨op, l, pos, q⟩ => (hb op l pos q).elim⟩
theorem okTest {e : E} {X : Cx} {W : WX} {x : Expr} (h : PE X x (tE X.K W (ev G C e))) (t : PT X x (tTr X.K W (ev G C e))) (hb : ∀ op l pos, x ≠ .BoolOp op l pos) : OkE G C e X W x :=
  ⟨h, t, fun ⟨op, l, pos, q⟩ => (hb op l pos q).elim⟩
theorem plainIx_of {b : Expr} (h : notSlice b = true) : PlainIx b := by
  intro o i
  cases b <;> first | rfl | cases h
theorem fold_of {b : Expr} (h : notSet b = true) (env : Env) : ∀ x, foldedSetIterable b env x = pure x := by
  intro x
  cases b <;> first | rfl | cases h
theorem walk_ok {src : E} (hs : SndL G C src) (h1s : SndS G C src) {X : Cx} {W : WX} (g : Good G C X W) {k : Ik} {tg iter : Expr} (h : ckw G X.env.scope k (fun xs => ckl G X.N src X.env.scope xs) tg iter = true) :
    PI X tg iter (iI X.K W fun en st => (evs G C src en st).bind fun ds st => ofL (walkOf k ds) st) ∧ notSet iter = true := by
  unfold ckw at h
  split at h
  · simp only [Bool.and_eq_true] at h
    obtain ⟨h1, h2⟩ := h
    refine ⟨?_, h2⟩
    obtain ⟨a, rfl, ha⟩ := h1s X W _ g h1
    refine PIimp (pi_seqI ha) fun σ H R' hw => tG.imp hw fun en st => ?_
    show ((ev G C a en st).bind fun x st => (Mi.R.ok [] st).bind fun xs st => .ok (x :: xs) st).bind _ = _
    cases ev G C a en st with
    | ok d st => rfl
    | exc _ _ => rfl
    | bad => rfl
  · rename_i y _ a p _
    simp only [Bool.and_eq_true, decide_eq_true_eq] at h
    obtain ⟨⟨⟨hy, hg⟩, hn⟩, hc⟩ := h
    subst hy
    obtain ⟨ha, hst⟩ := hs X W _ g hc
    exact ⟨pi_range1I (gl_of hg).1 (g.no _ hn) ha (star_of (hst _ (by simp)) _ _), rfl⟩
  · rename_i y p1 a b p2
    simp only [Bool.and_eq_true, decide_eq_true_eq] at h
    obtain ⟨⟨⟨hy, hg⟩, hn⟩, hc⟩ := h
    subst hy
    obtain ⟨ha, hst⟩ := hs X W _ g hc
    have e2 := star_of (hst b (by simp)) [] X.env
    exact ⟨pi_range2I (gl_of hg).1 (g.no _ hn) ha (by rw [star_of (hst a (by simp)), e2]; rfl) e2, rfl⟩
  · rename_i y p1 a b p2
    simp only [Bool.and_eq_true, decide_eq_true_eq] at h
    obtain ⟨⟨⟨⟨hy, hg⟩, hn⟩, hc⟩, ht⟩ := h
    subst hy
    obtain ⟨ha, hst⟩ := hs X W _ g hc
    split at ht
    · exact ⟨pi_zipI (gl_of hg).1 (g.no _ hn) ha (star_of (hst a (by simp)) _ _) (plain_of fun e he => hst e (by rw [List.mem_singleton.mp he]; simp)), rfl⟩
    · cases ht
  · cases h
theorem snd_var (i : Nat) : Snd G C (.var i) := by
  refine mkSnd (fun X W x g h => ?_) (fun _ _ _ => rfl) (fun _ _ _ => rfl) (fun _ _ _ => rfl)
  cases x with
  | Name y pos => exact okPlain (pe_var2 h) (fun _ => rfl) (fun _ _ _ => nofun)
  | _ => cases h
theorem snd_int (i : Int) : Snd G C (.int i) := by
  refine mkSnd (fun X W x g h => ?_) (fun _ _ _ => rfl) (fun _ _ _ => rfl) (fun _ _ _ => rfl)
  cases x with
  | Constant c k pos =>
    cases c with
    | int j =>
      have e : i = j := of_decide_eq_true h
      subst e
      exact okPlain (pe_con2 pe_int fun _ _ => rfl) (fun _ => rfl) (fun _ _ _ => nofun)
    | _ => cases h
  | _ => cases h
theorem snd_str (s : List Nat) : Snd G C (.str s) := by
  refine mkSnd (fun X W x g h => ?_) (fun _ _ _ => rfl) (fun _ _ _ => rfl) (fun _ _ _ => rfl)
  cases x with
  | Constant c k pos =>
    cases c with
    | str y =>
      have e : y = ⟨s.toArray⟩ := of_decide_eq_true h
      subst e
      exact okPlain (pe_con2 pe_str fun _ _ => rfl) (fun _ => rfl) (fun _ _ _ => nofun)
    | _ => cases h
  | _ => cases h
theorem snd_bool (b : Bool) : Snd G C (.bool b) := by
  refine mkSnd (fun X W x g h => ?_) (fun _ _ _ => rfl) (fun _ _ _ => rfl) (fun _ _ _ => rfl)
  cases x with
  | Constant c k pos =>
    cases c with
    | bool y =>
      have e : b = y := of_decide_eq_true h
      subst e
      exact okPlain (pe_con2 pe_bl fun _ _ => rfl) (fun _ => rfl) (fun _ _ _ => nofun)
    | _ => cases h
  | _ => cases h
theorem snd_non : Snd G C .non := by
  refine mkSnd (fun X W x g h => ?_) (fun _ _ _ => rfl) (fun _ _ _ => rfl) (fun _ _ _ => rfl)
  cases x with
  | Constant c k pos =>
    cases c with
    | none => exact okPlain (pe_con2 pe_non fun _ _ => rfl) (fun _ => rfl) (fun _ _ _ => nofun)
    | _ => cases h
  | _ => cases h
theorem snd_glo (y : Str) : Snd G C (.glo y) := by
  refine mkSnd (fun X W x g h => ?_) (fun _ _ _ => rfl) (fun _ _ _ => rfl) (fun _ _ _ => rfl)
  cases x with
  | Name z pos =>
    have h' : (decide (y = z) && glB X.env.scope z && (G.glo.lookup y).isSome) = true := h
    simp only [Bool.and_eq_true, decide_eq_true_eq] at h'
    obtain ⟨⟨rfl, hg⟩, hs⟩ := h'
    obtain ⟨d, hd⟩ := Option.isSome_iff_exists.mp hs
    refine okPlain (PEimp (pe_glo2 g hg hd) fun σ H Q hw => tG.imp hw fun en st => ?_) (fun _ => rfl) (fun _ _ _ => nofun)
    show (match G.glo.lookup y with | some d => R.ok d st | none => R.bad) = _
    rw [hd]
  | _ => cases h
theorem snd_ty (n : String) : Snd G C (.ty n) := by
  refine mkSnd (fun X W x g h => ?_) (fun _ _ _ => rfl) (fun _ _ _ => rfl) (fun _ _ _ => rfl)
  cases x with
  | Name z pos =>
    have h' : (glB X.env.scope z && decide (z ∈ G.no) && tyB z n) = true := h
    simp only [Bool.and_eq_true, decide_eq_true_eq] at h'
    obtain ⟨⟨hg, hn⟩, ht⟩ := h'
    exact okPlain (pe_ty2 hg (g.no _ hn) ht) (fun _ => rfl) (fun _ _ _ => nofun)
  | _ => cases h
theorem snd_bin (o : B2) {a b : E} (ha : SndE G C a) (hb : SndE G C b) : Snd G C (.bin o a b) := by
  refine mkSnd (fun X W x g h => ?_) (fun _ _ _ => rfl) (fun _ _ _ => rfl) (fun _ _ _ => rfl)
  cases x with
  | BinOp a' o' b' pos =>
    have h' : (decide (o' = op2 o) && ck G X.N a X.env.scope a' && ck G X.N b X.env.scope b') = true := h
    simp only [Bool.and_eq_true, decide_eq_true_eq] at h'
    obtain ⟨⟨rfl, h1⟩, h2⟩ := h'
    exact okPlain (pe_bin2 (b2_ok o) (ha X W _ g h1).1 (hb X W _ g h2).1) (fun _ => rfl) (fun _ _ _ => nofun)
  | _ => cases h
theorem snd_neg {a : E} (ha : SndE G C a) : Snd G C (.neg a) := by
  refine mkSnd (fun X W x g h => ?_) (fun _ _ _ => rfl) (fun _ _ _ => rfl) (fun _ _ _ => rfl)
  cases x with
  | UnaryOp o a' pos =>
    cases o with
    | USub => exact okPlain (pe_neg2 (ha X W _ g h).1) (fun _ => rfl) (fun _ _ _ => nofun)
    | _ => cases h
  | _ => cases h
theorem snd_not {a : E} (ha : SndE G C a) : Snd G C (.not a) := by
  refine mkSnd (fun X W x g h => ?_) (fun _ _ _ => rfl) (fun _ _ _ => rfl) (fun _ _ _ => rfl)
  cases x with
  | UnaryOp o a' pos =>
    cases o with
    | Not => exact okTest (pe_not2 (ha X W _ g h).1) (pt_not2 (ha X W _ g h).2.1) (fun _ _ _ => nofun)
    | _ => cases h
  | _ => cases h
theorem snd_and {a r : E} (ha : SndE G C a) (hr : SndE G C r) : Snd G C (.and a r) := by
  refine mkSnd (fun X W x g h => ?_) (fun _ _ _ => rfl) (fun _ _ _ => rfl) (fun _ _ _ => rfl)
  have fin : ∀ {a' b' : Expr} {rest : List Expr} {pos : Pos}, OkE G C a X W a' → PE X (.BoolOp .And (b' :: rest) pos) (tE X.K W (ev G C r)) → PW X (.BoolOp .And (b' :: rest) pos) (tTr X.K W (ev G C r)) → OkE G C (.and a r) X W (.BoolOp .And (a' :: b' :: rest) pos) := fun o1 p1 w1 =>
    ⟨pe_and2 o1.1 p1, (pw_and2 o1.2.1 w1).pt, fun _ => pw_and2 o1.2.1 w1⟩
  cases x with
  | BoolOp o l pos =>
    cases o with
    | Or => cases l <;> cases h
    | And =>
      cases l with
      | nil => cases h
      | cons a' l =>
        cases l with
        | nil => cases h
        | cons b' rest =>
          cases rest with
          | nil =>
            have h' : (ck G X.N a X.env.scope a' && ck G X.N r X.env.scope b') = true := h
            rw [Bool.and_eq_true] at h'
            have o2 := hr X W _ g h'.2
            exact fin (ha X W _ g h'.1) (pe_one o2.1) (pw_and1 o2.2.1)
          | cons c' rest =>
            have h' : (ck G X.N a X.env.scope a' && ck G X.N r X.env.scope (.BoolOp .And (b' :: c' :: rest) pos)) = true := h
            rw [Bool.and_eq_true] at h'
            have o2 := hr X W _ g h'.2
            exact fin (ha X W _ g h'.1) o2.1 (o2.2.2 ⟨_, _, _, rfl⟩)
  | _ => cases h
theorem snd_or {a r : E} (ha : SndE G C a) (hr : SndE G C r) : Snd G C (.or a r) := by
  refine mkSnd (fun X W x g h => ?_) (fun _ _ _ => rfl) (fun _ _ _ => rfl) (fun _ _ _ => rfl)
  have fin : ∀ {a' b' : Expr} {rest : List Expr} {pos : Pos}, OkE G C a X W a' → PE X (.BoolOp .Or (b' :: rest) pos) (tE X.K W (ev G C r)) → PW X (.BoolOp .Or (b' :: rest) pos) (tTr X.K W (ev G C r)) → OkE G C (.or a r) X W (.BoolOp .Or (a' :: b' :: rest) pos) := fun o1 p1 w1 =>
    ⟨pe_or2 o1.1 p1, (pw_or2 o1.2.1 w1).pt, fun _ => pw_or2 o1.2.1 w1⟩
  cases x with
  | BoolOp o l pos =>
    cases o with
    | And => cases l <;> cases h
    | Or =>
      cases l with
      | nil => cases h
      | cons a' l =>
        cases l with
        | nil => cases h
        | cons b' rest =>
          cases rest with
          | nil =>
            have h' : (ck G X.N a X.env.scope a' && ck G X.N r X.env.scope b') = true := h
            rw [Bool.and_eq_true] at h'
            have o2 := hr X W _ g h'.2
            exact fin (ha X W _ g h'.1) (pe_one o2.1) (pw_or1 o2.2.1)
          | cons c' rest =>
            have h' : (ck G X.N a X.env.scope a' && ck G X.N r X.env.scope (.BoolOp .Or (b' :: c' :: rest) pos)) = true := h
            rw [Bool.and_eq_true] at h'
            have o2 := hr X W _ g h'.2
            exact fin (ha X W _ g h'.1) o2.1 (o2.2.2 ⟨_, _, _, rfl⟩)
  | _ => cases h
theorem snd_cmp (o : C2) {a b : E} (ha : SndE G C a) (hb : SndE G C b) : Snd G C (.cmp o a b) := by
  refine mkSnd (fun X W x g h => ?_) (fun _ _ _ => rfl) (fun _ _ _ => rfl) (fun _ _ _ => rfl)
  cases x with
  | Compare a' ops bs pos =>
    match ops, bs, h with
    | [o'], [b'], h =>
      have h' : (decide (o' = cp2 o) && ck G X.N a X.env.scope a' && ck G X.N b X.env.scope b' && notSet b') = true := h
      simp only [Bool.and_eq_true, decide_eq_true_eq] at h'
      obtain ⟨⟨⟨rfl, h1⟩, h2⟩, h3⟩ := h'
      have q1 := ha X W _ g h1
      have q2 := hb X W _ g h2
      exact okTest (pe_cmp2 (c2_ok g.hu o) q1.1 q2.1 (marks_of h3 _)) (pt_cmp2 (c2_ok g.hu o) (c2_bl o) q1.1 q2.1 (marks_of h3 _)) (fun _ _ _ => nofun)
    | [], _, h => cases h
    | [_], [], h => cases h
    | [_], _ :: _ :: _, h => cases h
    | _ :: _ :: _, _, h => cases h
  | _ => cases h
theorem snd_isn {a : E} (ha : SndE G C a) : Snd G C (.isn a) := by
  refine mkSnd (fun X W x g h => ?_) (fun _ _ _ => rfl) (fun _ _ _ => rfl) (fun _ _ _ => rfl)
  have f : ∃ a' j p' pos, x = .Compare a' [.Is] [.Constant .none j p'] pos ∧ ck G X.N a X.env.scope a' = true := by
    cases x with
    | Compare a' ops bs pos =>
      match ops, bs, h with
      | [.Is], [.Constant .none j p'], h => exact ⟨a', j, p', pos, rfl, h⟩
    | _ => cases h
  obtain ⟨a', j, p', pos, rfl, h1⟩ := f
  exact okTest (pe_isn2 (ha X W _ g h1).1) (pt_isn2 (ha X W _ g h1).1) (fun _ _ _ => nofun)
theorem snd_notn {a : E} (ha : SndE G C a) : Snd G C (.notn a) := by
  refine mkSnd (fun X W x g h => ?_) (fun _ _ _ => rfl) (fun _ _ _ => rfl) (fun _ _ _ => rfl)
  have f : ∃ a' j p' pos, x = .Compare a' [.IsNot] [.Constant .none j p'] pos ∧ ck G X.N a X.env.scope a' = true := by
    cases x with
    | Compare a' ops bs pos =>
      match ops, bs, h with
      | [.IsNot], [.Constant .none j p'], h => exact ⟨a', j, p', pos, rfl, h⟩
    | _ => cases h
  obtain ⟨a', j, p', pos, rfl, h1⟩ := f
  exact okTest (pe_notn2 (ha X W _ g h1).1) (pt_notn2 (ha X W _ g h1).1) (fun _ _ _ => nofun)
theorem snd_chain (o o2 : C2) {a b c : E} (ha : SndE G C a) (hb : SndE G C b) (hc : SndE G C c) : Snd G C (.chain o o2 a b c) := by
  refine mkSnd (fun X W x g h => ?_) (fun _ _ _ => rfl) (fun _ _ _ => rfl) (fun _ _ _ => rfl)
  have f : ∃ a' b' c' pos, x = .Compare a' [cp2 o, cp2 o2] [b', c'] pos ∧ ck G X.N a X.env.scope a' = true ∧ ck G X.N b X.env.scope b' = true ∧ ck G X.N c X.env.scope c' = true ∧ notSet c' = true := by
    cases x with
    | Compare a' ops bs pos =>
      match ops, bs, h with
      | [p, q], [b', c'], h =>
        have h' : (decide (p = cp2 o) && decide (q = cp2 o2) && ck G X.N a X.env.scope a' && ck G X.N b X.env.scope b' && ck G X.N c X.env.scope c' && notSet b' && notSet c') = true := h
        simp only [Bool.and_eq_true, decide_eq_true_eq] at h'
        obtain ⟨⟨⟨⟨⟨⟨rfl, rfl⟩, h1⟩, h2⟩, h3⟩, h4⟩, h5⟩ := h'
        exact ⟨a', b', c', pos, rfl, h1, h2, h3, h5⟩
    | _ => cases h
  obtain ⟨a', b', c', pos, rfl, h1, h2, h3, h5⟩ := f
  exact okTest (pe_chain2 o o2 g.hu (ha X W _ g h1).1 (hb X W _ g h2).1 (hc X W _ g h3).1 h5) (pt_chain2 o o2 g.hu (ha X W _ g h1).1 (hb X W _ g h2).1 (hc X W _ g h3).1 h5) (fun _ _ _ => nofun)
theorem snd_ite {c a b : E} (hc : SndE G C c) (ha : SndE G C a) (hb : SndE G C b) : Snd G C (.ite c a b) := by
  refine mkSnd (fun X W x g h => ?_) (fun _ _ _ => rfl) (fun _ _ _ => rfl) (fun _ _ _ => rfl)
  cases x with
  | IfExp c' a' b' pos =>
    have h' : (ck G X.N c X.env.scope c' && ck G X.N a X.env.scope a' && ck G X.N b X.env.scope b') = true := h
    simp only [Bool.and_eq_true] at h'
    obtain ⟨⟨h1, h2⟩, h3⟩ := h'
    have q1 := hc X W _ g h1
    have q2 := ha X W _ g h2
    have q3 := hb X W _ g h3
    exact okTest (pe_ite2 q1.2.1 q2.1 q3.1) (pt_ite2 q1.2.1 q2.2.1 q3.2.1) (fun _ _ _ => nofun)
  | _ => cases h
theorem snd_tup {es : E} (hs : SndL G C es) : Snd G C (.tup es) := by
  refine mkSnd (fun X W x g h => ?_) (fun _ _ _ => rfl) (fun _ _ _ => rfl) (fun _ _ _ => rfl)
  cases x with
  | Tuple es' k pos => exact okPlain (pe_tup2 (hs X W _ g h).1) (fun _ => rfl) (fun _ _ _ => nofun)
  | _ => cases h
theorem snd_lst (m : Bool) {es : E} (hs : SndL G C es) : Snd G C (.lst m es) := by
  refine mkSnd (fun X W x g h => ?_) (fun _ _ _ => rfl) (fun _ _ _ => rfl) (fun _ _ _ => rfl)
  cases x with
  | List es' pos => exact okPlain (pe_lst2 (hs X W _ g h).1) (fun _ => rfl) (fun _ _ _ => nofun)
  | _ => cases h
theorem snd_edct : Snd G C .edct := by
  refine mkSnd (fun X W x g h => ?_) (fun _ _ _ => rfl) (fun _ _ _ => rfl) (fun _ _ _ => rfl)
  have f : ∃ pos, x = .Dict [] [] pos := by
    cases x with
    | Dict ks vs pos =>
      match ks, vs, h with
      | [], [], h => exact ⟨pos, rfl⟩
    | _ => cases h
  obtain ⟨pos, rfl⟩ := f
  exact okPlain pe_edct2 (fun _ => rfl) (fun _ _ _ => nofun)
theorem snd_idx {a b : E} (ha : SndE G C a) (hb : SndE G C b) : Snd G C (.idx a b) := by
  refine mkSnd (fun X W x g h => ?_) (fun _ _ _ => rfl) (fun _ _ _ => rfl) (fun _ _ _ => rfl)
  cases x with
  | Subscript a' b' pos =>
    have h' : (ck G X.N a X.env.scope a' && ck G X.N b X.env.scope b' && notSlice b') = true := h
    simp only [Bool.and_eq_true] at h'
    obtain ⟨⟨h1, h2⟩, h3⟩ := h'
    exact okPlain (pe_ix2 idx_s (ha X W _ g h1).1 (hb X W _ g h2).1 (plainIx_of h3)) (fun _ => rfl) (fun _ _ _ => nofun)
  | _ => cases h
theorem snd_sl {a lo hi : E} (ha : SndE G C a) (hl : SndP G C lo) (hh : SndP G C hi) : Snd G C (.sl a lo hi) := by
  refine mkSnd (fun X W x g h => ?_) (fun _ _ _ => rfl) (fun _ _ _ => rfl) (fun _ _ _ => rfl)
  have f : ∃ a' lo' hi' p pos, x = .Subscript a' (.Slice lo' hi' none p) pos ∧ ck G X.N a X.env.scope a' = true ∧ ckp G X.N lo X.env.scope lo' = true ∧ ckp G X.N hi X.env.scope hi' = true := by
    cases x with
    | Subscript a' b' pos =>
      cases b' with
      | Slice lo' hi' st p =>
        cases st with
        | none =>
          have h' : (ck G X.N a X.env.scope a' && ckp G X.N lo X.env.scope lo' && ckp G X.N hi X.env.scope hi') = true := h
          simp only [Bool.and_eq_true] at h'
          exact ⟨a', lo', hi', p, pos, rfl, h'.1.1, h'.1.2, h'.2⟩
        | some _ => cases h
      | _ => cases h
    | _ => cases h
  obtain ⟨a', lo', hi', p, pos, rfl, h1, h2, h3⟩ := f
  exact okPlain (pe_sl2 (ha X W _ g h1).1 (hl X W _ g h2) (hh X W _ g h3)) (fun _ => rfl) (fun _ _ _ => nofun)
theorem snd_rev {a : E} (ha : SndE G C a) : Snd G C (.rev a) := by
  refine mkSnd (fun X W x g h => ?_) (fun _ _ _ => rfl) (fun _ _ _ => rfl) (fun _ _ _ => rfl)
  have f : ∃ a' k p1 p2 p3 pos, x = .Subscript a' (.Slice none none (some (.UnaryOp .USub (.Constant (.int 1) k p1) p2)) p3) pos ∧ ck G X.N a X.env.scope a' = true := by
    cases x with
    | Subscript a' b' pos =>
      match b', h with
      | .Slice none none (some (.UnaryOp .USub (.Constant (.int j) k p1) p2)) p3, h =>
        have h' : (ck G X.N a X.env.scope a' && decide (j = 1)) = true := h
        simp only [Bool.and_eq_true, decide_eq_true_eq] at h'
        obtain ⟨h1, rfl⟩ := h'
        exact ⟨a', k, p1, p2, p3, pos, rfl, h1⟩
    | _ => cases h
  obtain ⟨a', k, p1, p2, p3, pos, rfl, h1⟩ := f
  exact okPlain (pe_rev2 (ha X W _ g h1).1) (fun _ => rfl) (fun _ _ _ => nofun)
theorem snd_bcall (f : Bf) {es : E} (hs : SndL G C es) : Snd G C (.bcall f es) := by
  refine mkSnd (fun X W x g h => ?_) (fun _ _ _ => rfl) (fun _ _ _ => rfl) (fun _ _ _ => rfl)
  have f : ∃ y p e' es' pos, x = .Call (.Name y p) (e' :: es') [] pos ∧ (decide (y = bfName f) && glB X.env.scope y && decide (y ∈ G.no) && ckl G X.N es X.env.scope (e' :: es')) = true := by
    cases x with
    | Call fn args kws pos =>
      match fn, args, kws, h with
      | .Name y p, e' :: es', [], h => exact ⟨y, p, e', es', pos, rfl, h⟩
    | _ => cases h
  obtain ⟨y, p, e', es', pos, rfl, h'⟩ := f
  simp only [Bool.and_eq_true, decide_eq_true_eq] at h'
  obtain ⟨⟨⟨hy, hg⟩, hn⟩, hc⟩ := h'
  obtain ⟨h1, h2⟩ := hs X W _ g hc
  exact okPlain (pe_bf2 g _ hy hg (g.no _ hn) h1 h2) (fun _ => rfl) (fun _ _ _ => nofun)
theorem snd_sset {a : E} (ha : SndE G C a) : Snd G C (.sset a) := by
  refine mkSnd (fun X W x g h => ?_) (fun _ _ _ => rfl) (fun _ _ _ => rfl) (fun _ _ _ => rfl)
  have f : ∃ y p1 z p2 a' p3 pos, x = .Call (.Name y p1) [.Call (.Name z p2) [a'] [] p3] [] pos ∧ (decide (y = "sorted") && decide (z = "set") && glB X.env.scope y && glB X.env.scope z && decide (y ∈ G.no) && decide (z ∈ G.no) && notStar a' && ck G X.N a X.env.scope a') = true := by
    cases x with
    | Call fn args kws pos =>
      match fn, args, kws, h with
      | .Name y p1, [.Call (.Name z p2) [a'] [] p3], [], h => exact ⟨y, p1, z, p2, a', p3, pos, rfl, h⟩
    | _ => cases h
  obtain ⟨y, p1, z, p2, a', p3, pos, rfl, h'⟩ := f
  simp only [Bool.and_eq_true, decide_eq_true_eq] at h'
  obtain ⟨⟨⟨⟨⟨⟨⟨rfl, rfl⟩, g1⟩, g2⟩, n1⟩, n2⟩, hs⟩, hc⟩ := h'
  exact okPlain (pe_sset2 g.calm (gl_of g1).1 (g.no _ n1) (gl_of g2).1 (g.no _ n2) (ha X W _ g hc).1 (star_of hs _ _)) (fun _ => rfl) (fun _ _ _ => nofun)
theorem snd_upper {a : E} (ha : SndE G C a) : Snd G C (.upper a) := by
  refine mkSnd (fun X W x g h => ?_) (fun _ _ _ => rfl) (fun _ _ _ => rfl) (fun _ _ _ => rfl)
  have f : ∃ a' m apos pos, x = .Call (.Attribute a' m apos) [] [] pos ∧ (decide (m = "upper") && isNm a' && (apos.endLine == pos.line) && ck G X.N a X.env.scope a') = true := by
    cases x with
    | Call fn args kws pos =>
      match fn, args, kws, h with
      | .Attribute a' m apos, [], [], h => exact ⟨a', m, apos, pos, rfl, h⟩
    | _ => cases h
  obtain ⟨a', m, apos, pos, rfl, h'⟩ := f
  simp only [Bool.and_eq_true, decide_eq_true_eq] at h'
  obtain ⟨⟨⟨rfl, hn⟩, hl⟩, hc⟩ := h'
  refine okPlain (pe_upper2 (ha X W _ g hc).1 ?_ hl) (fun _ => rfl) (fun _ _ _ => nofun)
  cases a' <;> first | rfl | cases hn
theorem snd_call (f : Str) {es : E} (hs : SndL G C es) : Snd G C (.call f es) := by
  refine mkSnd (fun X W x g h => ?_) (fun _ _ _ => rfl) (fun _ _ _ => rfl) (fun _ _ _ => rfl)
  have f : ∃ y p es' pos, x = .Call (.Name y p) es' [] pos ∧ (decide (f = y) && glB X.env.scope y && (G.fns.lookup f).isSome && ckl G X.N es X.env.scope es') = true := by
    cases x with
    | Call fn args kws pos =>
      match fn, kws, h with
      | .Name y p, [], h => exact ⟨y, p, args, pos, rfl, h⟩
    | _ => cases h
  obtain ⟨y, p, es', pos, rfl, h'⟩ := f
  simp only [Bool.and_eq_true, decide_eq_true_eq] at h'
  obtain ⟨⟨⟨rfl, hg⟩, hf⟩, hc⟩ := h'
  obtain ⟨ps, hps⟩ := Option.isSome_iff_exists.mp hf
  obtain ⟨h1, h2⟩ := hs X W _ g hc
  cases es' with
  | cons a es' => exact okPlain (pe_own2 g hg hps h1 h2) (fun _ => rfl) (fun _ _ _ => nofun)
  | nil =>
    cases es with
    | nil => exact okPlain (pe_own0 g hg hps) (fun _ => rfl) (fun _ _ _ => nofun)
    | _ => cases hc
theorem snd_callv (i : Nat) {es : E} (hs : SndL G C es) : Snd G C (.callv i es) := by
  refine mkSnd (fun X W x g h => ?_) (fun _ _ _ => rfl) (fun _ _ _ => rfl) (fun _ _ _ => rfl)
  have f : ∃ y p e' es' pos, x = .Call (.Name y p) (e' :: es') [] pos ∧ (varB X.N X.env.scope i y && ckl G X.N es X.env.scope (e' :: es')) = true := by
    cases x with
    | Call fn args kws pos =>
      match fn, args, kws, h with
      | .Name y p, e' :: es', [], h => exact ⟨y, p, e', es', pos, rfl, h⟩
    | _ => cases h
  obtain ⟨y, p, e', es', pos, rfl, h'⟩ := f
  rw [Bool.and_eq_true] at h'
  obtain ⟨h1, h2⟩ := hs X W _ g h'.2
  exact okPlain (pe_ownV g h'.1 h1 h2) (fun _ => rfl) (fun _ _ _ => nofun)
theorem snd_callk (f k : Str) {a : E} (ha : SndE G C a) : Snd G C (.callk f k a) := by
  refine mkSnd (fun X W x g h => ?_) (fun _ _ _ => rfl) (fun _ _ _ => rfl) (fun _ _ _ => rfl)
  have f : ∃ y p k' a' kp pos, x = .Call (.Name y p) [] [⟨some k', a', kp⟩] pos ∧ (decide (f = y) && decide (k = k') && glB X.env.scope y && decide (G.fns.lookup f = some [k]) && ck G X.N a X.env.scope a') = true := by
    cases x with
    | Call fn args kws pos =>
      match fn, args, kws, h with
      | .Name y p, [], [⟨some k', a', kp⟩], h => exact ⟨y, p, k', a', kp, pos, rfl, h⟩
    | _ => cases h
  obtain ⟨y, p, k', a', kp, pos, rfl, h'⟩ := f
  simp only [Bool.and_eq_true, decide_eq_true_eq] at h'
  obtain ⟨⟨⟨⟨rfl, rfl⟩, hg⟩, hf⟩, hc⟩ := h'
  exact okPlain (pe_ownK g hg hf (ha X W _ g hc).1) (fun _ => rfl) (fun _ _ _ => nofun)
theorem snd_get {a b : E} (ha : SndE G C a) (hb : SndE G C b) : Snd G C (.get a b) := by
  refine mkSnd (fun X W x g h => ?_) (fun _ _ _ => rfl) (fun _ _ _ => rfl) (fun _ _ _ => rfl)
  cases x with
  | Subscript a' b' pos =>
    have h' : (ck G X.N a X.env.scope a' && ck G X.N b X.env.scope b' && notSlice b') = true := h
    simp only [Bool.and_eq_true] at h'
    obtain ⟨⟨h1, h2⟩, h3⟩ := h'
    refine okPlain (PEimp (pe_dget (by have := g.hu; omega) (ha X W _ g h1).1 (hb X W _ g h2).1 (plainIx_of h3)) fun σ H Q hw => ?_) (fun _ => rfl) (fun _ _ _ => nofun)
    have hw' : tG X.K W (RpD X.K) (fun en st => (ev G C a en st).bind fun x st => (ev G C b en st).bind fun y st => Mi.shut (getD x y st)) σ H Q := hw
    refine (tG.step2 (Rp := RpD X.K) (Rp' := RpD X.K) (fun x r => Rep.ext x _ _ r) hw').mono fun v H1 h1 => h1.mono fun u H2 ⟨en, d, e, io, st, er, so, rd, re, p⟩ => ?_
    unfold getD at p
    cases hd : dictOf d st with
    | none => rw [hd] at p; exact p.elim
    | some kv =>
      obtain ⟨ks, vs⟩ := kv
      cases hk : keyD e with
      | none => rw [hd, hk] at p; exact p.elim
      | some k =>
        rw [hd, hk] at p
        obtain ⟨L, xs, rfl, hL, hl, rl⟩ := dictOf_at hd so rd
        have ek := keyD_at hk re
        cases hv : valD ks vs k with
        | none => simp only [hv] at p; exact p.elim
        | some z =>
          simp only [hv] at p
          obtain ⟨w, e1, r1⟩ := valD_at rl hv
          exact ⟨L, w, rfl, by rw [ek, ← e1]; exact DGet.k hL, p w io H2 (Ext.refl _ _) so r1⟩
  | _ => cases h
theorem ck_lc {N : List Str} {sc : Scope} {k : Ik} {is : List Nat} {un : Bool} {own : List (Str × Nat)} {src cond elt : E} {x : Expr} (h : ck G N (.lc k is un own src cond elt) sc x = true) :
    ∃ elt' tg iter ifs scope pos, x = .ListComp elt' [⟨tg, iter, ifs, 0⟩] scope pos ∧ blkC N sc scope own = true ∧ ckw G sc k (fun xs => ckl G N src sc xs) tg iter = true ∧
      ckt N (relS scope sc) (fun x => scope.names.lookup x == some .cell) is un tg = true ∧ (∀ i ∈ is, i ∈ own.map (·.2)) ∧ notSet iter = true ∧ ckc G N cond (relS scope sc) ifs = true ∧ ck G N elt (relS scope sc) elt' = true := by
  cases x with
  | ListComp elt' gens scope pos =>
    match gens, h with
    | [⟨tg, iter, ifs, as⟩], h =>
      have h' : (decide (as = 0) && blkC N sc scope own && ckw G sc k (fun xs => ckl G N src sc xs) tg iter &&
        ckt N (relS scope sc) (fun x => scope.names.lookup x == some .cell) is un tg && (is.all fun i => decide (i ∈ own.map (·.2))) && notSet iter && ckc G N cond (relS scope sc) ifs && ck G N elt (relS scope sc) elt') = true := h
      simp only [Bool.and_eq_true, decide_eq_true_eq] at h'
      obtain ⟨⟨⟨⟨⟨⟨⟨rfl, q1⟩, q2⟩, q3⟩, q4⟩, q5⟩, q6⟩, q7⟩ := h'
      exact ⟨elt', tg, iter, ifs, scope, pos, rfl, q1, q2, q3, fun i hi => of_decide_eq_true (List.all_eq_true.mp q4 i hi), q5, q6, q7⟩
  | _ => cases h
theorem snd_lc (k : Ik) (is : List Nat) (un : Bool) (own : List (Str × Nat)) {src cond elt : E} (hs : SndL G C src) (h1s : SndS G C src) (hc : SndC G C cond) (he : SndE G C elt) : Snd G C (.lc k is un own src cond elt) := by
  refine mkSnd (fun X W x g h => ?_) (fun _ _ _ => rfl) (fun _ _ _ => rfl) (fun _ _ _ => rfl)
  obtain ⟨elt', tg, iter, ifs, scope, pos, rfl, q1, q2, q3, q4, q5, q6, q7⟩ := ck_lc h
  have ok := blkOk_by q1
  have gb := fun s H Cc cl fp => g.blk ok.kind s H Cc cl fp
  refine okPlain (pe_lcM g (walk_ok hs h1s g q2).1 ok (fun s H Cc cl fp => ?_) (fun s H Cc cl fp => hc _ WF _ (gb s H Cc cl fp) q6) (fun s H Cc cl fp => (he _ WF _ (gb s H Cc cl fp) q7).1) q4 (fold_of q5 _)) (fun _ => rfl) (fun _ _ _ => nofun)
  exact pg_ok (X := X.blk s H scope (compEnvC scope cl Cc X.env) fp) g.calm g.nd (fun _ h => h) q3
theorem snd_nil : Snd G C .nil := by
  refine ⟨fun X W x g h => Bool.noConfusion (show false = true from h), fun X W xs g h => ?_, fun X W x g h => ?_, fun X W xs g h => ?_, fun X W x g h => Bool.noConfusion (show false = true from h)⟩
  · cases xs with
    | nil => exact ⟨pa_nil2, nofun⟩
    | cons _ _ => cases h
  · cases x with
    | none => exact po_none2
    | some _ => cases h
  · cases xs with
    | nil => exact ⟨fun pins s σ H Q I ⟨en, st, io, er, so, p⟩ => pts_nil.run pins s σ H Q I (p true io H (Ext.refl _ _) so rfl)⟩
    | cons _ _ => cases h
theorem snd_cons {a r : E} (ha : Snd G C a) (hr : Snd G C r) : Snd G C (.cons a r) := by
  refine ⟨fun X W x g h => Bool.noConfusion (show false = true from h), fun X W xs g h => ?_, fun X W x g h => ?_, fun X W xs g h => ?_, fun X W x g h => ?_⟩
  · cases xs with
    | nil => cases h
    | cons x xs =>
      have h' : (notStar x && ck G X.N a X.env.scope x && ckl G X.N r X.env.scope xs) = true := h
      simp only [Bool.and_eq_true] at h'
      obtain ⟨⟨h1, h2⟩, h3⟩ := h'
      obtain ⟨q1, q2⟩ := hr.2.1 X W _ g h3
      exact ⟨pa_cons2 h1 (ha.1 X W _ g h2).1 q1, fun y hy => by
        rcases List.mem_cons.mp hy with rfl | hy
        · exact h1
        · exact q2 y hy⟩
  · cases r with
    | nil =>
      cases x with
      | none => cases h
      | some x => exact po_some2 (ha.1 X W _ g h).1
    | _ => cases h
  · cases r with
    | nil =>
      match xs, h with
      | [x], h => exact pts_one (ha.1 X W _ g h).2.1
    | _ => cases h
  · have h' : (notStar x && ck G X.N a X.env.scope x && ckl G X.N r X.env.scope []) = true := h
    simp only [Bool.and_eq_true] at h'
    obtain ⟨⟨h1, h2⟩, h3⟩ := h'
    cases r with
    | nil => exact ⟨a, rfl, (ha.1 X W _ g h2).1⟩
    | _ => cases h3
theorem snd (e : E) : Snd G C e := by
  induction e with
  | nil => exact snd_nil
  | cons a r ha hr => exact snd_cons ha hr
  | var i => exact snd_var i
  | int i => exact snd_int i
  | str s => exact snd_str s
  | bool b => exact snd_bool b
  | non => exact snd_non
  | glo x => exact snd_glo x
  | ty n => exact snd_ty n
  | bin o a b ha hb => exact snd_bin o ha.1 hb.1
  | neg a ha => exact snd_neg ha.1
  | and a b ha hb => exact snd_and ha.1 hb.1
  | or a b ha hb => exact snd_or ha.1 hb.1
  | not a ha => exact snd_not ha.1
  | cmp o a b ha hb => exact snd_cmp o ha.1 hb.1
  | chain o o2 a b c ha hb hc => exact snd_chain o o2 ha.1 hb.1 hc.1
  | isn a ha => exact snd_isn ha.1
  | notn a ha => exact snd_notn ha.1
  | ite c a b hc ha hb => exact snd_ite hc.1 ha.1 hb.1
  | tup es hs => exact snd_tup hs.2.1
  | lst m es hs => exact snd_lst m hs.2.1
  | edct => exact snd_edct
  | idx a b ha hb => exact snd_idx ha.1 hb.1
  | get a b ha hb => exact snd_get ha.1 hb.1
  | sl a lo hi ha hl hh => exact snd_sl ha.1 hl.2.2.1 hh.2.2.1
  | rev a ha => exact snd_rev ha.1
  | bcall f es hs => exact snd_bcall f hs.2.1
  | sset a ha => exact snd_sset ha.1
  | upper a ha => exact snd_upper ha.1
  | call f es hs => exact snd_call f hs.2.1
  | callv i es hs => exact snd_callv i hs.2.1
  | callk f k e he => exact snd_callk f k he.1
  | lc k is un own src cond elt hs hc he => exact snd_lc k is un own hs.2.1 hs.2.2.2.2 hc.2.2.2.1 he.1
end
end Mi

set_option maxRecDepth 100000
set_option maxHeartbeats 4000000
namespace Mi
open PySem PySem.Spec L2

/-! ### statements -/
inductive S where
  | nil | seq (a r : S)
  | pass | expr (e : E)
  | set (i : Nat) (e : E) | aug (i : Nat) (o : B2) (e : E)
  | asg (is : List Nat) (e : E) | par (is : List Nat) (es : E)
  | setItem (a i v : E)
  | ite (c : E) (a b : S) | whl (n : Nat) (c : E) (b : S) | loop (k : Ik) (is : List Nat) (un : Bool) (src : E) (b : S)
  | ret (e : E) | retN | brk | cont
inductive Fl where
  | nx (en : En) | rt (d : D) | bk (en : En) | ct (en : En)
inductive RS where
  | ok (f : Fl) (st : Sto) | exc (x : Ex) (en : En) (st : Sto) | bad
def R.andS {α : Type} (r : R α) (en : En) (f : α → Sto → RS) : RS := match r with
  | .ok a st => f a st
  | .exc x st => .exc x en st
  | .bad => .bad
@[simp] theorem R.andS_ok {α : Type} (a : α) (st : Sto) (en : En) (f : α → Sto → RS) : (R.ok a st).andS en f = f a st := rfl
@[simp] theorem R.andS_exc {α : Type} (x : Ex) (st : Sto) (en : En) (f : α → Sto → RS) : (R.exc x st : R α).andS en f = .exc x en st := rfl
@[simp] theorem R.andS_bad {α : Type} (en : En) (f : α → Sto → RS) : (R.bad : R α).andS en f = .bad := rfl
/-- what comes behind -/
def RS.more (r : RS) (f : En → Sto → RS) : RS := match r with
  | .ok (.nx en) st => f en st
  | r => r
@[simp] theorem RS.more_nx (en : En) (st : Sto) (f : En → Sto → RS) : (RS.ok (.nx en) st).more f = f en st := rfl
@[simp] theorem RS.more_rt (d : D) (st : Sto) (f : En → Sto → RS) : (RS.ok (.rt d) st).more f = .ok (.rt d) st := rfl
/-- behind a loop's turn -/
def RS.turn (r : RS) (f : En → Sto → RS) : RS := match r with
  | .ok (.nx en) st => f en st
  | .ok (.ct en) st => f en st
  | .ok (.bk en) st => .ok (.nx en) st
  | r => r
@[simp] theorem RS.turn_nx (en : En) (st : Sto) (f : En → Sto → RS) : (RS.ok (.nx en) st).turn f = f en st := rfl
@[simp] theorem RS.turn_ct (en : En) (st : Sto) (f : En → Sto → RS) : (RS.ok (.ct en) st).turn f = f en st := rfl
@[simp] theorem RS.turn_bk (en : En) (st : Sto) (f : En → Sto → RS) : (RS.ok (.bk en) st).turn f = .ok (.nx en) st := rfl
@[simp] theorem RS.turn_rt (d : D) (st : Sto) (f : En → Sto → RS) : (RS.ok (.rt d) st).turn f = .ok (.rt d) st := rfl
def forRun (is : List Nat) (un : Bool) (body : En → Sto → RS) : List D → En → Sto → RS
  | [], en, st => .ok (.nx en) st
  | x :: xs, en, st => match setT is un x en with
    | none => .bad
    | some en' => (body en' st).turn fun en st => forRun is un body xs en st
def whlRun (cond : En → Sto → R Bool) (body : En → Sto → RS) : Nat → En → Sto → RS
  | 0, _, _ => .bad
  | n + 1, en, st => (cond en st).andS en fun b st => match b with
    | true => (body en st).turn fun en st => whlRun cond body n en st
    | false => .ok (.nx en) st
def ofO {α : Type} (o : Option α) (st : Sto) : R α := match o with
  | some x => .ok x st
  | none => .bad
def putD (ks : List KeyD) (vs : List D) (k : KeyD) (v : D) : List KeyD × List D :=
  if (ks.any fun j => decide (j = k)) = true then (ks, (ks.zip vs).map fun p => if p.1 = k then v else p.2) else (ks ++ [k], vs ++ [v])
def aug2 (o : B2) (x y : D) (st : Sto) : R D := match o, x, y with
  | .add, .int i, .int j => .ok (.int (i + j)) st
  | .sub, .int i, .int j => .ok (.int (i - j)) st
  | _, _, _ => .bad
/-- a[i] = v: the store behind it -/
def storeD (a i v : D) (st : Sto) : Option Sto := match a with
  | .loc n => (match st[n]? with
    | some (.lst ds) => (match i with
      | .int k => (match ixN ds.length k with
        | some j => some (st.set n (.lst (ds.set j v)))
        | none => none)
      | _ => none)
    | some (.dct ks vs) => (match keyD i with
      | some k => if ks.length < sz then some (st.set n (.dct (putD ks vs k v).1 (putD ks vs k v).2)) else none
      | none => none)
    | _ => none)
  | _ => none
def ex (G : Gs) (C : Call) : S → En → Sto → RS
  | .nil, en, st => .ok (.nx en) st
  | .seq a r, en, st => (ex G C a en st).more fun en st => ex G C r en st
  | .pass, en, st => .ok (.nx en) st
  | .expr e, en, st => (ev G C e en st).andS en fun _ st => .ok (.nx en) st
  | .set i e, en, st => (ev G C e en st).andS en fun d st => .ok (.nx (en.set i (some d))) st
  | .aug i o e, en, st => (match en[i]? with
    | some (some x) => (ev G C e en st).andS en fun y st => (aug2 o x y st).andS en fun z st => .ok (.nx (en.set i (some z))) st
    | _ => .bad)
  | .asg is e, en, st => (ev G C e en st).andS en fun d st => (match setT is true d en with
    | some en' => .ok (.nx en') st
    | none => .bad)
  | .par is es, en, st => (evs G C es en st).andS en fun ds st => (match setAll is ds en with
    | some en' => .ok (.nx en') st
    | none => .bad)
  | .setItem a i v, en, st => (ev G C v en st).andS en fun z st => (ev G C a en st).andS en fun x st => (ev G C i en st).andS en fun y st => (match storeD x y z st with
    | some st' => .ok (.nx en) st'
    | none => .bad)
  | .ite c a b, en, st => (tru (ev G C c en st)).andS en fun k st => (match k with
    | true => ex G C a en st
    | false => ex G C b en st)
  | .whl n c b, en, st => whlRun (fun en st => tru (ev G C c en st)) (ex G C b) n en st
  | .loop k is un src b, en, st => (evs G C src en st).andS en fun ds st => (match walkOf k ds with
    | none => .bad
    | some xs => forRun is un (ex G C b) xs en st)
  | .ret e, en, st => (ev G C e en st).andS en fun d st => .ok (.rt d) st
  | .retN, en, st => .ok (.rt .non) st
  | .brk, en, st => .ok (.bk en) st
  | .cont, en, st => .ok (.ct en) st
termination_by structural s => s

/-- a def: its parameters' names, all its names, its body -/
structure Df where
  ps : List Str
  N : List Str
  b : S
def runD (G : Gs) (C : Call) (d : Df) (ds : List D) (st : Sto) : R D :=
  if ds.length = d.ps.length then (match ex G C d.b (ds.map some ++ List.replicate (d.N.length - ds.length) none) st with
    | .ok (.nx _) st => .ok .non st
    | .ok (.rt v) st => .ok v st
    | .exc x _ st => .exc x st
    | _ => .bad) else .bad
/-- calls that go n deep -/
def callN (G : Gs) (T : List (Str × Df)) : Nat → Call
  | 0, _, _, _ => .bad
  | n + 1, f, ds, st => match T.lookup f with
    | some d => runD G (callN G T n) d ds st
    | none => .bad

/-- what is wanted behind a statement's run -/
def PostS (K : PySem.W.Frag) (io : Io) (H : Hp) (W : WX) (D : Ends) (r : RS) : Prop := match r with
  | .ok (.nx en) st => ∀ (σ : St) (io' : Io) (H' : Hp), Ext io H io' H' → StOk K H' io' st → EnvR K H' io' en σ → D.nx σ H'
  | .ok (.bk en) st => ∀ (σ : St) (io' : Io) (H' : Hp), Ext io H io' H' → StOk K H' io' st → EnvR K H' io' en σ → D.bk σ H'
  | .ok (.ct en) st => ∀ (σ : St) (io' : Io) (H' : Hp), Ext io H io' H' → StOk K H' io' st → EnvR K H' io' en σ → D.ct σ H'
  | .ok (.rt d) st => ∀ (v : V) (io' : Io) (H' : Hp), Ext io H io' H' → StOk K H' io' st → Rep K H' io' d v → D.rt v H'
  | .exc x en st => ∀ (c : Value) (dx : Option Addr) (σ : St) (io' : Io) (H' : Hp), Ext io H io' H' → StOk K H' io' st → EnvR K H' io' en σ → ExAt K H' io' x c dx → W c dx σ H'
  | .bad => False
def tS (K : PySem.W.Frag) (W : WX) (m : En → Sto → RS) : TS := fun D σ H => ∃ en st io, EnvR K H io en σ ∧ StOk K H io st ∧ PostS K io H W D (m en st)
section
variable {K : PySem.W.Frag} {io io' : Io} {H H' : Hp} {W : WX} {D D' : Ends} {r : RS}
theorem PostS.moved (x : Ext io H io' H') (p : PostS K io H W D r) : PostS K io' H' W D r := by
  cases r with
  | ok f st => cases f <;> exact fun σ i2 H2 x2 s e => p σ i2 H2 (x.trans x2) s e
  | exc y en st => exact fun c dx σ i2 H2 x2 s e q => p c dx σ i2 H2 (x.trans x2) s e q
  | bad => exact p
theorem PostS.nxt {en : En} {st : Sto} {σ : St} (p : PostS K io H W D (.ok (.nx en) st)) (so : StOk K H io st) (er : EnvR K H io en σ) : D.nx σ H := p σ io H (Ext.refl _ _) so er
/-- an expression first -/
theorem PostS.andS {α β : Type} {Rp : Hp → Io → α → β → Prop} {m : R α} {f : α → Sto → RS} {en : En} {σ : St} (er : EnvR K H io en σ) (p : PostS K io H W D (m.andS en f)) :
    Post K io H (fun c d H' => W c d σ H') Rp m fun v H1 => ∃ d io1 st1, Ext io H io1 H1 ∧ StOk K H1 io1 st1 ∧ EnvR K H1 io1 en σ ∧ Rp H1 io1 d v ∧ PostS K io1 H1 W D (f d st1) := by
  cases m with
  | ok a st => exact fun v io1 H1 x so rp => ⟨a, io1, st, x, so, er.ext x, rp, p.moved x⟩
  | exc y st => exact fun c dx io1 H1 x so q => p c dx σ io1 H1 x so (er.ext x) q
  | bad => exact p
/-- then what comes behind -/
theorem PostS.more {f : En → Sto → RS} (p : PostS K io H W D (r.more f)) : PostS K io H W { D with nx := tS K W f D } r := by
  cases r with
  | ok fl st =>
    cases fl with
    | nx en => exact fun σ io1 H1 x so er => ⟨en, st, io1, er, so, p.moved x⟩
    | _ => exact p
  | exc _ _ _ => exact p
  | bad => exact p
theorem PostS.turn {f : En → Sto → RS} {N : St → Hp → Prop} (p : PostS K io H W D (r.turn f)) (hN : ∀ en st σ io1 H1, Ext io H io1 H1 → EnvR K H1 io1 en σ → StOk K H1 io1 st → PostS K io1 H1 W D (f en st) → N σ H1) : PostS K io H W { D with nx := N, ct := N, bk := D.nx } r := by
  cases r with
  | ok fl st =>
    cases fl with
    | nx en => exact fun σ io1 H1 x so er => hN en st σ io1 H1 x er so (p.moved x)
    | ct en => exact fun σ io1 H1 x so er => hN en st σ io1 H1 x er so (p.moved x)
    | bk en => exact p
    | rt d => exact p
  | exc _ _ _ => exact p
  | bad => exact p
end
end Mi

set_option maxRecDepth 100000
set_option maxHeartbeats 4000000
namespace Mi
open PySem PySem.Spec L2

/-! ### the statements are the text's -/
def notComp : Expr → Bool
  | .ListComp _ _ _ _ => false
  | .SetComp _ _ _ _ => false
  | .DictComp _ _ _ _ _ => false
  | _ => true
def notTup : Expr → Bool
  | .Tuple _ _ _ => false
  | _ => true
def locOnly (N : List Str) (sc : Scope) (i : Nat) (x : Str) : Bool := decide (N[i]? = some x) && (match sc.names.lookup x with
  | some .local => true
  | _ => false)
/-- a comprehension that is swapped into its name -/
def swapB (sc : Scope) (y : Str) (py : Pos) : Expr → Bool
  | .ListComp _ _ scope pos => (match sc.names.lookup y with
    | some .local => true
    | _ => false) && (py.line == pos.line) && !(scope.names.any fun (n, k) => n == y && (k == .local || k == .cell))
  | _ => false
/-- the stores of a, b = x, y are swapped -/
def swapStB (vs : List Expr) : Bool := !(vs.any fun | .Starred .. => true | _ => false) && !(vs.all (foldedForSure 8)) && !(vs.all (constantsAlone 8))
def augB : B2 → Bool
  | .add => true
  | .sub => true
  | _ => false
mutual
def cks (G : Gs) (N : List Str) : S → Scope → Stmt → Bool
  | .pass, _, .Pass _ => true
  | .pass, _, .Expr (.Constant (.str _) _ _) _ => true
  | .expr e, sc, .Expr x _ => notComp x && ck G N e sc x
  | .set i e, sc, .Assign [.Name y py] x _ => locB N sc (fun _ => true) i y && ck G N e sc x && (notComp x || swapB sc y py x)
  | .aug i o e, sc, .AugAssign (.Name y _) o' x _ => locB N sc (fun _ => true) i y && decide (o' = op2 o) && ck G N e sc x && augB o
  | .asg is e, sc, .Assign [.Tuple ts _ _] x _ => ckts N sc (fun _ => true) is ts && ck G N e sc x && notComp x && notTup x
  | .par [i, j] es, sc, .Assign [.Tuple [.Name a pa, .Name b pb] _ _] (.Tuple [x, y] _ _) _ => locOnly N sc i a && locOnly N sc j b && decide (i ≠ j) && decide (a ≠ b) && decide (pb.line = pa.line) && swapStB [x, y] && ckl G N es sc [x, y]
  | .par [i, j, l] es, sc, .Assign [.Tuple [.Name a pa, .Name b pb, .Name c pc] _ _] (.Tuple [x, y, z] _ _) _ => locOnly N sc i a && locOnly N sc j b && locOnly N sc l c && decide (i ≠ j) && decide (i ≠ l) && decide (j ≠ l) &&
      decide (a ≠ b) && decide (a ≠ c) && decide (b ≠ c) && decide (pb.line = pa.line) && decide (pc.line = pa.line) && swapStB [x, y, z] && ckl G N es sc [x, y, z]
  | .setItem a i v, sc, .Assign [.Subscript a' i' _] x _ => ck G N v sc x && ck G N a sc a' && ck G N i sc i' && notSlice i' && notComp x
  | .ite c a b, sc, .If c' a' b' _ => ck G N c sc c' && ckb G N a sc a' && ckb G N b sc b'
  | .whl _ c b, sc, .While c' b' [] _ => ck G N c sc c' && ckb G N b sc b'
  | .loop k is un src b, sc, .For tg iter b' [] _ => ckw G sc k (fun xs => ckl G N src sc xs) tg iter && ckt N sc (fun _ => true) is un tg && ckb G N b sc b'
  | .ret e, sc, .Return (some x) _ => ck G N e sc x
  | .retN, _, .Return none _ => true
  | .brk, _, .Break _ => true
  | .cont, _, .Continue _ => true
  | _, _, _ => false
termination_by structural s => s
def ckb (G : Gs) (N : List Str) : S → Scope → List Stmt → Bool
  | .nil, _, [] => true
  | .seq a r, sc, a' :: r' => cks G N a sc a' && ckb G N r sc r'
  | _, _, _ => false
termination_by structural s => s
end
structure GoodS (G : Gs) (C : Call) (X : Cx) (W : WX) : Prop where
  g : Good G C X W
  fn : ∀ x, X.fn x = true
  po : PassesOwn (model X.prog X.w) X.A X.env X.xe
def OkS (G : Gs) (C : Call) (s : S) : Prop := ∀ (X : Cx) (W : WX), GoodS G C X W → (∀ x, cks G X.N s X.env.scope x = true → PS X x (tS X.K W (ex G C s))) ∧ (∀ xs, ckb G X.N s X.env.scope xs = true → PSs X xs (tS X.K W (ex G C s)))
section
variable {G : Gs} {C : Call} {X : Cx} {W : WX} {x : Expr} {pos : Pos}
theorem noswap {b : Expr} (h : notComp b = true) (t : Option Expr) (l : Nat) (env : Env) : swapsWith b t l env = pure false := by
  cases b <;> first | rfl | cases h
theorem mkOkS {s : S} (h : ∀ (X : Cx) (W : WX), GoodS G C X W → ∀ x, cks G X.N s X.env.scope x = true → PS X x (tS X.K W (ex G C s))) (h2 : ∀ N sc xs, ckb G N s sc xs = false) : OkS G C s :=
  fun X W g => ⟨h X W g, fun xs q => by rw [h2] at q; cases q⟩
theorem oks_ret (e : E) : OkS G C (.ret e) := by
  refine mkOkS (fun X W g st h => ?_) (fun _ _ _ => rfl)
  cases st with
  | Return v pos =>
    cases v with
    | none => cases h
    | some x =>
      refine PSimp (ps_ret ((snd e).1 X W x g.g h).1) fun D σ H ⟨en, st, io, er, so, p⟩ => ?_
      exact ⟨en, st, io, er, so, (PostS.andS (Rp := RpD X.K) er p).mono fun v H1 ⟨d, io1, st1, x, so1, er1, rd, p1⟩ => p1 v io1 H1 (Ext.refl _ _) so1 rd⟩
  | _ => cases h
theorem oks_retN : OkS G C .retN := by
  refine mkOkS (fun X W g st h => ?_) (fun _ _ _ => rfl)
  cases st with
  | Return v pos =>
    cases v with
    | none => exact PSimp ps_retN fun D σ H ⟨en, st, io, er, so, p⟩ => p .non io H (Ext.refl _ _) so rfl
    | some x => cases h
  | _ => cases h
theorem oks_brk : OkS G C .brk := by
  refine mkOkS (fun X W g st h => ?_) (fun _ _ _ => rfl)
  cases st with
  | Break pos => exact PSimp ps_break fun D σ H ⟨en, st, io, er, so, p⟩ => p σ io H (Ext.refl _ _) so er
  | _ => cases h
theorem oks_cont : OkS G C .cont := by
  refine mkOkS (fun X W g st h => ?_) (fun _ _ _ => rfl)
  cases st with
  | Continue pos => exact PSimp ps_continue fun D σ H ⟨en, st, io, er, so, p⟩ => p σ io H (Ext.refl _ _) so er
  | _ => cases h
theorem oks_pass : OkS G C .pass := by
  refine mkOkS (fun X W g st h => ?_) (fun _ _ _ => rfl)
  cases st with
  | Pass pos => exact PSimp ps_pass fun D σ H ⟨en, st, io, er, so, p⟩ => p σ io H (Ext.refl _ _) so er
  | Expr x pos =>
    match x, h with
    | .Constant (.str _) _ _, h => exact PSimp ps_doc fun D σ H ⟨en, st, io, er, so, p⟩ => p σ io H (Ext.refl _ _) so er
  | _ => cases h
theorem oks_expr (e : E) : OkS G C (.expr e) := by
  refine mkOkS (fun X W g st h => ?_) (fun _ _ _ => rfl)
  cases st with
  | Expr x pos =>
    have h' : (notComp x && ck G X.N e X.env.scope x) = true := h
    rw [Bool.and_eq_true] at h'
    refine PSimp (ps_expr ((snd e).1 X W x g.g h'.2).1 (noswap h'.1 _ _ _)) fun D σ H ⟨en, st, io, er, so, p⟩ => ?_
    exact ⟨en, st, io, er, so, (PostS.andS (Rp := RpD X.K) er p).mono fun v H1 ⟨d, io1, st1, x, so1, er1, rd, p1⟩ => p1.nxt so1 er1⟩
  | _ => cases h
theorem fn_loc (g : GoodS G C X W) {i : Nat} {y : Str} (h : locB X.N X.env.scope (fun _ => true) i y = true) : X.N[i]? = some y ∧ Loc X.env.scope y ∧ (X.fn y = true ∨ X.env.scope.names.lookup y = some .local) :=
  let ⟨h1, h2, _⟩ := loc_of h
  ⟨h1, h2, .inl (g.fn y)⟩
theorem oks_set (i : Nat) (e : E) : OkS G C (.set i e) := by
  refine mkOkS (fun X W g st h => ?_) (fun _ _ _ => rfl)
  have f : ∃ y py x pos, st = .Assign [.Name y py] x pos ∧ (locB X.N X.env.scope (fun _ => true) i y && ck G X.N e X.env.scope x && (notComp x || swapB X.env.scope y py x)) = true := by
    cases st with
    | Assign ts x pos =>
      match ts, h with
      | [.Name y py], h => exact ⟨y, py, x, pos, rfl, h⟩
    | _ => cases h
  obtain ⟨y, py, x, pos, rfl, h'⟩ := f
  simp only [Bool.and_eq_true, Bool.or_eq_true] at h'
  obtain ⟨⟨h1, h2⟩, h3⟩ := h'
  obtain ⟨n1, n2, n3⟩ := fn_loc g h1
  have im : ∀ D σ H, tS X.K W (ex G C (.set i e)) D σ H → tE X.K W (ev G C e) σ H (fun v H1 => gName i v σ H1 D.nx) := fun D σ H ⟨en, st, io, er, so, p⟩ =>
    ⟨en, st, io, er, so, (PostS.andS (Rp := RpD X.K) er p).mono fun v H1 ⟨d, io1, st1, x, so1, er1, rd, p1⟩ => p1.nxt so1 (er1.set rd)⟩
  rcases h3 with h3 | h3
  · exact PSimp (ps_set g.g.nd n1 n2 ((snd e).1 X W x g.g h2).1 (noswap h3 _ _ _) n3) im
  · cases e with
    | lc k is un own src cond elt =>
      obtain ⟨elt', tg, iter, ifs, scope, lpos, rfl, q1, q2, q3, q4, q5, q6, q7⟩ := ck_lc h2
      have h3' : ((match X.env.scope.names.lookup y with
        | some .local => true
        | _ => false) && (py.line == lpos.line) && !(scope.names.any fun (n, k) => n == y && (k == .local || k == .cell))) = true := h3
      simp only [Bool.and_eq_true, Bool.not_eq_true'] at h3'
      obtain ⟨⟨l1, l2⟩, l3⟩ := h3'
      have hl : X.env.scope.names.lookup y = some .local := by
        split at l1
        · assumption
        · cases l1
      have ok := blkOk_by q1
      have gb := fun s H Cc cl fp => g.g.blk ok.kind s H Cc cl fp
      refine PSimp (ps_setLc (g := gT X.K is un) (te := tE X.K WF (ev G C elt)) (tt := tT X.K WF (evc G C cond)) g.g.calm g.g.nd n1 hl (sw_true g.g.kind hl l2 l3) (walk_ok (snd src).2.1 (snd src).2.2.2.2 g.g q2).1 ok (fun s H Cc cl fp => pg_ok (X := X.blk s H scope (compEnvC scope cl Cc X.env) fp) g.g.calm g.g.nd (fun _ h => h) q3)
        (fun s H Cc cl fp => (snd cond).2.2.2.1 _ WF _ (gb s H Cc cl fp) q6) (fun s H Cc cl fp => ((snd elt).1 _ WF _ (gb s H Cc cl fp) q7).1) (fold_of q5 _)) fun D σ H h => ?_
      exact lc_imp q4 (im D σ H h)
    | _ => 
      exfalso
      cases x <;> first | (cases h3; done) | (cases h2; done)
theorem oks_ite (c : E) {a b : S} (ha : OkS G C a) (hb : OkS G C b) : OkS G C (.ite c a b) := by
  refine mkOkS (fun X W g st h => ?_) (fun _ _ _ => rfl)
  cases st with
  | If c' a' b' pos =>
    have h' : (ck G X.N c X.env.scope c' && ckb G X.N a X.env.scope a' && ckb G X.N b X.env.scope b') = true := h
    simp only [Bool.and_eq_true] at h'
    obtain ⟨⟨h1, h2⟩, h3⟩ := h'
    refine PSimp (ps_if ((snd c).1 X W c' g.g h1).2.1 ((ha X W g).2 _ h2) ((hb X W g).2 _ h3)) fun D σ H ⟨en, st, io, er, so, p⟩ => ?_
    refine ⟨en, st, io, er, so, (PostS.andS (Rp := RpB) er p).mono fun v H1 ⟨d, io1, st1, x, so1, er1, rd, p1⟩ => ?_⟩
    cases rd
    cases v with
    | true => rw [if_pos rfl]; exact ⟨en, st1, io1, er1, so1, p1⟩
    | false => rw [if_neg (by decide)]; exact ⟨en, st1, io1, er1, so1, p1⟩
  | _ => cases h
theorem oks_nil : OkS G C .nil := by
  refine fun X W g => ⟨fun x h => Bool.noConfusion (show false = true from h), fun xs h => ?_⟩
  cases xs with
  | nil => exact PSsimp pss_nil fun D σ H ⟨en, st, io, er, so, p⟩ => p.nxt so er
  | cons _ _ => cases h
theorem oks_seq {a r : S} (ha : OkS G C a) (hr : OkS G C r) : OkS G C (.seq a r) := by
  refine fun X W g => ⟨fun x h => Bool.noConfusion (show false = true from h), fun xs h => ?_⟩
  cases xs with
  | nil => cases h
  | cons x xs =>
    have h' : (cks G X.N a X.env.scope x && ckb G X.N r X.env.scope xs) = true := h
    rw [Bool.and_eq_true] at h'
    exact PSsimp (pss_cons ((ha X W g).1 _ h'.1) ((hr X W g).2 _ h'.2)) fun D σ H ⟨en, st, io, er, so, p⟩ => ⟨en, st, io, er, so, PostS.more p⟩
theorem oks_whl (n : Nat) (c : E) {b : S} (hb : OkS G C b) : OkS G C (.whl n c b) := by
  refine mkOkS (fun X W g st h => ?_) (fun _ _ _ => rfl)
  cases st with
  | While c' b' els pos =>
    cases els with
    | cons _ _ => cases h
    | nil =>
      have h' : (ck G X.N c X.env.scope c' && ckb G X.N b X.env.scope b') = true := h
      rw [Bool.and_eq_true] at h'
      refine PSimp (ps_while g.po ((snd c).1 X W c' g.g h'.1).2.1 ((hb X W g).2 _ h'.2)) fun D σ H ⟨en, st, io, er, so, p⟩ => ?_
      refine ⟨fun m σ H => ∃ en st io, EnvR X.K H io en σ ∧ StOk X.K H io st ∧ PostS X.K io H W D (whlRun (fun en st => tru (ev G C c en st)) (ex G C b) m en st), ⟨n, en, st, io, er, so, p⟩, ?_⟩
      rintro m σ H ⟨en, st, io, er, so, p⟩
      cases m with
      | zero => exact p.elim
      | succ m =>
        refine ⟨en, st, io, er, so, (PostS.andS (Rp := RpB) er p).mono fun v H1 ⟨d, io1, st1, x, so1, er1, rd, p1⟩ => ?_⟩
        cases rd
        cases v with
        | false => rw [if_neg (by decide)]; exact p1.nxt so1 er1
        | true =>
          rw [if_pos rfl]
          refine ⟨fun σ H => ∃ en st io, EnvR X.K H io en σ ∧ StOk X.K H io st ∧ PostS X.K io H W D (whlRun (fun en st => tru (ev G C c en st)) (ex G C b) m en st), fun σ' H' w => ⟨m, Nat.lt_succ_self m, w⟩, en, st1, io1, er1, so1, ?_⟩
          exact PostS.turn p1 fun en st σ io1 H1 x er so q => ⟨en, st, io1, er, so, q⟩
  | _ => cases h
theorem oks_loop (k : Ik) (is : List Nat) (un : Bool) (src : E) {b : S} (hb : OkS G C b) : OkS G C (.loop k is un src b) := by
  refine mkOkS (fun X W g st h => ?_) (fun _ _ _ => rfl)
  cases st with
  | For tg iter b' els pos =>
    cases els with
    | cons _ _ => cases h
    | nil =>
      have h' : (ckw G X.env.scope k (fun xs => ckl G X.N src X.env.scope xs) tg iter && ckt X.N X.env.scope (fun _ => true) is un tg && ckb G X.N b X.env.scope b') = true := h
      simp only [Bool.and_eq_true] at h'
      obtain ⟨⟨h1, h2⟩, h3⟩ := h'
      obtain ⟨hi, hn⟩ := walk_ok (snd src).2.1 (snd src).2.2.2.2 g.g h1
      refine PSimp (ps_for g.po g.g.calm hi (pg_ok g.g.calm g.g.nd (fun x _ => g.fn x) h2) ((hb X W g).2 _ h3) (fold_of hn _)) fun D σ H ⟨en, st, io, er, so, p⟩ => ?_
      have p' : PostS X.K io H W D (((evs G C src en st).bind fun ds st => ofL (walkOf k ds) st).andS en fun xs st => forRun is un (ex G C b) xs en st) := by
        have e : (((evs G C src en st).bind fun ds st => ofL (walkOf k ds) st).andS en fun xs st => forRun is un (ex G C b) xs en st) = ex G C (.loop k is un src b) en st := by
          show _ = (evs G C src en st).andS en _
          cases evs G C src en st with
          | ok ds st =>
            simp only [R.bind_ok, R.andS_ok]
            cases walkOf k ds <;> rfl
          | exc _ _ => rfl
          | bad => rfl
        rw [e]; exact p
      refine ⟨en, st, io, er, so, (PostS.andS (Rp := RpY X.K) er p').mono fun J H1 ⟨xs, io1, st1, x1, so1, er1, y, p1⟩ => ?_⟩
      let Wi : Nat → St → Hp → Prop := fun i σ Hc => ∃ en st io, Ext io1 H1 io Hc ∧ EnvR X.K Hc io en σ ∧ StOk X.K Hc io st ∧ PostS X.K io Hc W D (forRun is un (ex G C b) (xs.drop i) en st)
      refine ⟨fun i m σ Hc => m = xs.length - i ∧ i ≤ xs.length ∧ Wi i σ Hc, ⟨xs.length, rfl, Nat.zero_le _, en, st1, io1, Ext.refl _ _, er1, so1, p1⟩, ?_⟩
      rintro i m σ Hc ⟨rfl, hi, en, st2, i2, x2, er2, so2, p2⟩
      by_cases hlt : i < xs.length
      · refine .inr ⟨y.go _ _ i x2.mv hlt, Wi (i + 1), fun σ' H' w => ⟨xs.length - (i + 1), by omega, rfl, hlt, w⟩, fun v H'' yl => ?_⟩
        have hxi : xs[i]? = some xs[i] := List.getElem?_eq_getElem hlt
        obtain ⟨x3, so3, rd⟩ := y.yld _ _ st2 i _ v H'' x2.mv so2 hxi yl
        rw [List.drop_eq_getElem_cons hlt] at p2
        unfold forRun at p2
        cases es : setT is un xs[i] en with
        | none => rw [es] at p2; exact p2.elim
        | some en' =>
          rw [es] at p2
          refine ⟨en, i2, xs[i], en', er2.ext x3, rd, es, fun σ2 erA _ => ⟨en', st2, i2, erA, so3, ?_⟩⟩
          exact PostS.turn (p2.moved x3) fun en st σ io4 H4 x4 er4 so4 q => ⟨en, st, io4, (x2.trans x3).trans x4, er4, so4, q⟩
      · have e : i = xs.length := by omega
        subst e
        rw [List.drop_length] at p2
        exact .inl ⟨y.stop _ _ x2.mv, PostS.nxt (st := st2) p2 so2 er2⟩
  | _ => cases h
theorem oks_asg (is : List Nat) (e : E) : OkS G C (.asg is e) := by
  refine mkOkS (fun X W g st h => ?_) (fun _ _ _ => rfl)
  have f : ∃ ts k p x pos, st = .Assign [.Tuple ts k p] x pos ∧ (ckts X.N X.env.scope (fun _ => true) is ts && ck G X.N e X.env.scope x && notComp x && notTup x) = true := by
    cases st with
    | Assign ts x pos =>
      match ts, h with
      | [.Tuple ts k p], h => exact ⟨ts, k, p, x, pos, rfl, h⟩
    | _ => cases h
  obtain ⟨ts, k, p, x, pos, rfl, h'⟩ := f
  simp only [Bool.and_eq_true] at h'
  obtain ⟨⟨⟨h1, h2⟩, h3⟩, h4⟩ := h'
  have ht : ckt X.N X.env.scope (fun _ => true) is true (.Tuple ts k p) = true := h1
  refine PSimp (ps_asg ((snd e).1 X W x g.g h2).1 (pg_ok g.g.calm g.g.nd (fun x _ => g.fn x) ht) (show swapsWith x (some (.Tuple ts k p)) pos.line X.env = pure false from noswap h3 _ _ _) ?_) fun D σ H ⟨en, st, io, er, so, p⟩ => ?_
  · cases x <;> first | rfl | cases h4
  · refine ⟨en, st, io, er, so, (PostS.andS (Rp := RpD X.K) er p).mono fun v H1 ⟨d, io1, st1, x, so1, er1, rd, p1⟩ => ?_⟩
    cases es : setT is true d en with
    | none => simp only [es] at p1; exact p1.elim
    | some en' =>
      simp only [es] at p1
      exact ⟨en, io1, d, en', er1, rd, es, fun σ' er' _ => p1.nxt so1 er'⟩
end
end Mi

set_option maxRecDepth 100000
set_option maxHeartbeats 4000000
namespace Mi
open PySem PySem.Spec L2

/-! ### o[i] = v -/
def rSt (K : PySem.W.Frag) : TSet := fun o i v H Q => ∃ d e z st io st', StOk K H io st ∧ Rep K H io d o ∧ Rep K H io e i ∧ Rep K H io z v ∧ storeD d e z st = some st' ∧ ∀ H', Ext io H io H' → StOk K H' io st' → Q H'
theorem any_key (k : KeyD) : ∀ (ks : List KeyD) (xs : List V), ks.length = xs.length → (((ks.map keyOf).zip xs).any fun kv => decide (kv.1 = keyOf k)) = (ks.any fun j => decide (j = k))
  | [], _, _ => rfl
  | a :: ks, [], h => by simp at h
  | a :: ks, x :: xs, h => by
    rw [List.map_cons, List.zip_cons_cons, List.any_cons, List.any_cons, any_key k ks xs (by simpa using h)]
    congr 1
    by_cases e : a = k
    · rw [e]; simp
    · rw [decide_eq_false e, decide_eq_false (fun z => e (keyOf_inj z))]
theorem put_map {K : PySem.W.Frag} {H : Hp} {io : Io} {z : D} {v : V} (rz : Rep K H io z v) (k : KeyD) : ∀ (ks : List KeyD) (vs : List D) (xs : List V), ks.length = xs.length → RepL K H io vs xs →
    ∃ ys, ((ks.map keyOf).zip xs).map (fun kv => if kv.1 = keyOf k then (kv.1, v) else kv) = (ks.map keyOf).zip ys ∧ ks.length = ys.length ∧ RepL K H io ((ks.zip vs).map fun p => if p.1 = k then z else p.2) ys
  | [], vs, xs, h, r => ⟨[], by simp, rfl, by simp [RepL]⟩
  | a :: ks, vs, [], h, r => by simp at h
  | a :: ks, [], x :: xs, h, r => by cases r
  | a :: ks, d :: vs, x :: xs, h, r => by
    obtain ⟨x', xs', e, r1, r2⟩ := r
    cases e
    obtain ⟨ys, e1, e2, e3⟩ := put_map rz k ks vs xs (by simpa using h) r2
    by_cases hk : a = k
    · refine ⟨v :: ys, ?_, by simp [e2], ?_⟩
      · rw [List.map_cons, List.zip_cons_cons, List.map_cons, e1, List.zip_cons_cons, if_pos (by rw [hk])]
      · rw [List.zip_cons_cons, List.map_cons, if_pos hk]
        exact .cons rz e3
    · refine ⟨x :: ys, ?_, by simp [e2], ?_⟩
      · rw [List.map_cons, List.zip_cons_cons, List.map_cons, e1, List.zip_cons_cons, if_neg (fun q => hk (keyOf_inj q))]
      · rw [List.zip_cons_cons, List.map_cons, if_neg hk]
        exact .cons r1 e3
theorem set_store {X : Cx} (hu : X.A.units + 64 < cLine) : PSet X (rSt X.K) := by
  intro pins s σ H o i v ov iv u Q I ro ri rv h
  obtain ⟨d, e, z, st, io, st', so, rd, re, rz, hs, q⟩ := h
  cases d <;> first | (simp [storeD] at hs; done) | skip
  rename_i n
  obtain ⟨a, ea, rfl⟩ := rd
  cases hb : st[n]? with
  | none => simp [storeD, hb] at hs
  | some b =>
    cases b with
    | ins _ _ _ => simp [storeD, hb] at hs
    | lst ds =>
      obtain ⟨xs, hx, rl⟩ := so.ob n a _ ea hb
      cases e <;> first | (simp [storeD, hb] at hs; done) | skip
      rename_i k
      cases hj : ixN ds.length k with
      | none => simp [storeD, hb, hj] at hs
      | some j =>
        simp only [storeD, hb, hj, Option.some.injEq] at hs
        subst hs
        cases re
        refine set_list pins s σ H _ _ v ov iv u Q I ro ri rv ⟨a, xs, k, j, rfl, rfl, hx, by rw [← rl.len]; exact hj, ?_⟩
        have xx := Ext.write so (Io.get_mem ea) (HO.lst (xs.set j v))
        exact q _ xx (so.write ea ⟨_, upd_same, RepL.ext xx _ _ (rl.set j rz)⟩)
    | dct ks vs =>
      obtain ⟨xs, hx, hl, rl⟩ := so.ob n a _ ea hb
      cases hk : keyD e with
      | none => simp [storeD, hb, hk] at hs
      | some k =>
        simp only [storeD, hb, hk] at hs
        split at hs
        · rename_i hz
          simp only [Option.some.injEq] at hs
          subst hs
          have ek := keyD_at hk re
          subst ek
          refine set_dict (by omega) pins s σ H _ _ v ov iv u Q I ro ri rv ⟨a, _, rfl, DPut.k hx (by rw [dict_len hl, ← sz_eq]; exact hz), ?_⟩
          have xx := fun o => Ext.write (o := o) so (Io.get_mem ea)
          refine q _ (xx _) (so.write ea ?_)
          unfold putK putD
          rw [any_key k ks xs hl]
          by_cases hany : (ks.any fun j => decide (j = k)) = true
          · rw [if_pos hany, if_pos hany]
            obtain ⟨ys, e1, e2, e3⟩ := put_map rz k ks vs xs hl rl
            rw [e1]
            exact ⟨ys, upd_same, e2, RepL.ext (xx _) _ _ e3⟩
          · rw [if_neg hany, if_neg hany]
            refine ⟨xs ++ [v], ?_, by simp [hl], RepL.ext (xx _) _ _ (rl.append (.cons rz .nil))⟩
            rw [List.map_append, List.zip_append (by simpa using hl)]
            exact upd_same
        · cases hs
section
variable {G : Gs} {C : Call}
theorem asg_sub {o i : Expr} {pos : Pos} {env : Env} (h : notSlice i = true) (v : Value) : assign (.Subscript o i pos) env v = (do
      let ov ← holding [v] (eval o env)
      let iv ← holding [v, ov] (eval i env)
      standAt pos
      holding [v, ov, iv] (setItem ov iv v)
      release [v, ov, iv] []) := by
  cases i <;> first | rfl | cases h
theorem oks_setItem (a i v : E) : OkS G C (.setItem a i v) := by
  refine mkOkS (fun X W g st h => ?_) (fun _ _ _ => rfl)
  have f : ∃ a' i' p x pos, st = .Assign [.Subscript a' i' p] x pos ∧ (ck G X.N v X.env.scope x && ck G X.N a X.env.scope a' && ck G X.N i X.env.scope i' && notSlice i' && notComp x) = true := by
    cases st with
    | Assign ts x pos =>
      match ts, h with
      | [.Subscript a' i' p], h => exact ⟨a', i', p, x, pos, rfl, h⟩
    | _ => cases h
  obtain ⟨a', i', p, x, pos, rfl, h'⟩ := f
  simp only [Bool.and_eq_true] at h'
  obtain ⟨⟨⟨⟨h1, h2⟩, h3⟩, h4⟩, h5⟩ := h'
  refine PSimp (ps_asg ((snd v).1 X W x g.g h1).1 (pg_sub ((snd a).1 X W a' g.g h2).1 ((snd i).1 X W i' g.g h3).1 (set_store g.g.hu) (asg_sub h4)) (show swapsWith x (some (.Subscript a' i' p)) pos.line X.env = pure false from noswap h5 _ _ _) ?_) fun D σ H ⟨en, st, io, er, so, p⟩ => ?_
  · cases x <;> rfl
  · refine ⟨en, st, io, er, so, (PostS.andS (Rp := RpD X.K) er p).mono fun w H1 ⟨z, io1, st1, x1, so1, er1, rz, p1⟩ => ?_⟩
    refine ⟨en, st1, io1, er1, so1, (PostS.andS (Rp := RpD X.K) er1 p1).mono fun o H2 ⟨d, io2, st2, x2, so2, er2, rd, p2⟩ => ?_⟩
    refine ⟨en, st2, io2, er2, so2, (PostS.andS (Rp := RpD X.K) er2 p2).mono fun j H3 ⟨e, io3, st3, x3, so3, er3, re, p3⟩ => ?_⟩
    cases hs : storeD d e z st3 with
    | none => simp only [hs] at p3; exact p3.elim
    | some st' =>
      simp only [hs] at p3
      exact ⟨d, e, z, st3, io3, st', so3, Rep.ext x3 _ _ rd, re, Rep.ext (x2.trans x3) _ _ rz, hs, fun H' xx so' => p3 _ io3 H' xx so' (er3.ext xx)⟩
/-! ### name op= e -/
theorem aug_ok (X : Cx) (o : B2) : o = .add ∨ o = .sub → PIp X (op2 o) (r2 X.K (aug2 o)) := by
  intro ho pins s σ H x y v u Q I rx ry h
  obtain ⟨d, e, st, io, so, rd, re, p⟩ := h
  rcases ho with rfl | rfl
  · cases d <;> cases e <;> first | exact p.elim | skip
    cases rd; cases re
    exact ip_add pins s σ H _ _ v u Q I rx ry ⟨_, _, rfl, rfl, p.int so⟩
  · cases d <;> cases e <;> first | exact p.elim | skip
    cases rd; cases re
    exact ip_sub pins s σ H _ _ v u Q I rx ry ⟨_, _, rfl, rfl, p.int so⟩
theorem aug_nox (o : B2) (x y : D) (st : Sto) : (o = .add ∨ o = .sub) ∨ aug2 o x y st = .bad := by
  cases o <;> first | exact .inl (.inl rfl) | exact .inl (.inr rfl) | exact .inr rfl
theorem aug_shut (o : B2) (x y : D) (st : Sto) : shut (aug2 o x y st) = aug2 o x y st := by
  unfold aug2
  split <;> rfl
/-! ### a, b = x, y -/
theorem lo_of {N : List Str} {sc : Scope} {i : Nat} {x : Str} (h : locOnly N sc i x = true) : N[i]? = some x ∧ sc.names.lookup x = some .local := by
  unfold locOnly at h
  simp only [Bool.and_eq_true, decide_eq_true_eq] at h
  refine ⟨h.1, ?_⟩
  have h2 := h.2
  split at h2
  · assumption
  · cases h2
theorem swap2_of {env : Env} {a b : Str} {pa pb : Pos} {x y : Expr} {kt k2 : Nat} {pt pt2 : Pos} (hk : env.scope.kind = .function) (ha : env.scope.names.lookup a = some .local) (hb : env.scope.names.lookup b = some .local) (hab : a ≠ b) (hl : pb.line = pa.line) (hs : swapStB [x, y] = true) :
    swappedStores [.Tuple [.Name a pa, .Name b pb] kt pt] (.Tuple [x, y] k2 pt2) env = pure (some [a, b]) := by
  have ka : env.kindOf a = some .local := ha
  have kb : env.kindOf b = some .local := hb
  have kk : env.blockKind = .function := by unfold Env.blockKind; rw [hk]; rfl
  unfold swapStB at hs
  simp only [Bool.and_eq_true, Bool.not_eq_true'] at hs
  obtain ⟨⟨h1, h2⟩, h3⟩ := hs
  unfold swappedStores
  simp only [kk, h1, h2, h3, ka, kb, Expr.pos, hl, List.filterMap_cons, List.filterMap_nil, List.length_cons, List.length_nil, List.head?_cons]
  simp [hl, Ne.symm hab, List.eraseDups_cons, Expr.pos]
  intro hh
  exfalso
  simp only [List.any_cons, List.any_nil, Bool.or_false, Bool.or_eq_false_iff] at h1
  rcases hh with hh | hh
  · exact Bool.noConfusion ((h1.1).symm.trans hh)
  · exact Bool.noConfusion ((h1.2).symm.trans hh)
theorem swap3_of {env : Env} {a b c : Str} {pa pb pc : Pos} {x y z : Expr} {kt k2 : Nat} {pt pt2 : Pos} (hk : env.scope.kind = .function) (ha : env.scope.names.lookup a = some .local) (hb : env.scope.names.lookup b = some .local) (hc : env.scope.names.lookup c = some .local)
    (hab : a ≠ b) (hac : a ≠ c) (hbc : b ≠ c) (hl : pb.line = pa.line) (hl2 : pc.line = pa.line) (hs : swapStB [x, y, z] = true) :
    swappedStores [.Tuple [.Name a pa, .Name b pb, .Name c pc] kt pt] (.Tuple [x, y, z] k2 pt2) env = pure (some [a, b, c]) := by
  have ka : env.kindOf a = some .local := ha
  have kb : env.kindOf b = some .local := hb
  have kc : env.kindOf c = some .local := hc
  have kk : env.blockKind = .function := by unfold Env.blockKind; rw [hk]; rfl
  unfold swapStB at hs
  simp only [Bool.and_eq_true, Bool.not_eq_true'] at hs
  obtain ⟨⟨h1, h2⟩, h3⟩ := hs
  unfold swappedStores
  simp only [kk, h1, h2, h3, ka, kb, kc, Expr.pos, hl, hl2, List.filterMap_cons, List.filterMap_nil, List.length_cons, List.length_nil, List.head?_cons]
  simp [hl, hl2, Ne.symm hab, Ne.symm hac, Ne.symm hbc, List.eraseDups_cons, Expr.pos]
  intro hh
  exfalso
  simp only [List.any_cons, List.any_nil, Bool.or_false, Bool.or_eq_false_iff] at h1
  rcases hh with hh | hh | hh
  · exact Bool.noConfusion ((h1.1).symm.trans hh)
  · exact Bool.noConfusion ((h1.2.1).symm.trans hh)
  · exact Bool.noConfusion ((h1.2.2).symm.trans hh)
theorem setAll_two {i j : Nat} {ds : List D} {en en' : En} (h : setAll [i, j] ds en = some en') : ∃ d e, ds = [d, e] ∧ en' = (en.set i (some d)).set j (some e) := by
  match ds, h with
  | [d, e], h => cases h; exact ⟨d, e, rfl, rfl⟩
theorem setAll_three {i j l : Nat} {ds : List D} {en en' : En} (h : setAll [i, j, l] ds en = some en') : ∃ d e f, ds = [d, e, f] ∧ en' = ((en.set i (some d)).set j (some e)).set l (some f) := by
  match ds, h with
  | [d, e, f], h => cases h; exact ⟨d, e, f, rfl, rfl⟩
theorem oks_par (is : List Nat) (es : E) : OkS G C (.par is es) := by
  refine mkOkS (fun X W g st h => ?_) (fun _ _ _ => rfl)
  have f : (∃ i j a pa b pb kt p x y k2 p2 pos, is = [i, j] ∧ st = .Assign [.Tuple [.Name a pa, .Name b pb] kt p] (.Tuple [x, y] k2 p2) pos ∧
      (locOnly X.N X.env.scope i a && locOnly X.N X.env.scope j b && decide (i ≠ j) && decide (a ≠ b) && decide (pb.line = pa.line) && swapStB [x, y] && ckl G X.N es X.env.scope [x, y]) = true) ∨
      (∃ i j l a pa b pb c pc kt p x y z k2 p2 pos, is = [i, j, l] ∧ st = .Assign [.Tuple [.Name a pa, .Name b pb, .Name c pc] kt p] (.Tuple [x, y, z] k2 p2) pos ∧
      (locOnly X.N X.env.scope i a && locOnly X.N X.env.scope j b && locOnly X.N X.env.scope l c && decide (i ≠ j) && decide (i ≠ l) && decide (j ≠ l) &&
      decide (a ≠ b) && decide (a ≠ c) && decide (b ≠ c) && decide (pb.line = pa.line) && decide (pc.line = pa.line) && swapStB [x, y, z] && ckl G X.N es X.env.scope [x, y, z]) = true) := by
    cases st with
    | Assign ts v pos =>
      match is, ts, v, h with
      | [i, j], [.Tuple [.Name a pa, .Name b pb] kt p], .Tuple [x, y] k2 p2, h => exact .inl ⟨i, j, a, pa, b, pb, kt, p, x, y, k2, p2, pos, rfl, rfl, h⟩
      | [i, j, l], [.Tuple [.Name a pa, .Name b pb, .Name c pc] kt p], .Tuple [x, y, z] k2 p2, h => exact .inr ⟨i, j, l, a, pa, b, pb, c, pc, kt, p, x, y, z, k2, p2, pos, rfl, rfl, h⟩
    | _ =>
      exfalso
      match is, h with
      | [], h => cases h
      | [_], h => cases h
      | [_, _], h => cases h
      | [_, _, _], h => cases h
      | _ :: _ :: _ :: _ :: _, h => cases h
  rcases f with ⟨i, j, a, pa, b, pb, kt, p, x, y, k2, p2, pos, rfl, rfl, h'⟩ | ⟨i, j, l, a, pa, b, pb, c, pc, kt, p, x, y, z, k2, p2, pos, rfl, rfl, h'⟩
  · simp only [Bool.and_eq_true, decide_eq_true_eq] at h'
    obtain ⟨⟨⟨⟨⟨⟨h1, h2⟩, h3⟩, h4⟩, h5⟩, h6⟩, h7⟩ := h'
    obtain ⟨a1, a2⟩ := lo_of h1
    obtain ⟨b1, b2⟩ := lo_of h2
    refine PSimp (ps_par g.g.calm g.g.nd a1 b1 h3 a2 b2 ((snd es).2.1 X W _ g.g h7).1 (swap2_of g.g.kind a2 b2 h4 h5 h6)) fun D σ H ⟨en, st, io, er, so, p⟩ => ?_
    refine ⟨en, st, io, er, so, (PostS.andS (Rp := RpL X.K) er p).mono fun v H1 ⟨ds, io1, st1, x, so1, er1, rd, p1⟩ => ?_⟩
    cases hs : setAll [i, j] ds en with
    | none => simp only [hs] at p1; exact p1.elim
    | some en' =>
      simp only [hs] at p1
      obtain ⟨d, e, rfl, rfl⟩ := setAll_two hs
      obtain ⟨v1, v2, rfl, r1, r2⟩ := rd.two
      exact ⟨v1, v2, rfl, p1.nxt so1 ((er1.set r1).set r2)⟩
  · simp only [Bool.and_eq_true, decide_eq_true_eq] at h'
    obtain ⟨⟨⟨⟨⟨⟨⟨⟨⟨⟨⟨⟨h1, h2⟩, h3⟩, h4⟩, h5⟩, h6⟩, h7⟩, h8⟩, h9⟩, h10⟩, h11⟩, h12⟩, h13⟩ := h'
    obtain ⟨a1, a2⟩ := lo_of h1
    obtain ⟨b1, b2⟩ := lo_of h2
    obtain ⟨c1, c2⟩ := lo_of h3
    refine PSimp (ps_par3 g.g.calm g.g.nd a1 b1 c1 h4 h5 h6 a2 b2 c2 ((snd es).2.1 X W _ g.g h13).1 (swap3_of g.g.kind a2 b2 c2 h7 h8 h9 h10 h11 h12)) fun D σ H ⟨en, st, io, er, so, p⟩ => ?_
    refine ⟨en, st, io, er, so, (PostS.andS (Rp := RpL X.K) er p).mono fun v H1 ⟨ds, io1, st1, x, so1, er1, rd, p1⟩ => ?_⟩
    cases hs : setAll [i, j, l] ds en with
    | none => simp only [hs] at p1; exact p1.elim
    | some en' =>
      simp only [hs] at p1
      obtain ⟨d, e, f, rfl, rfl⟩ := setAll_three hs
      obtain ⟨v1, r, rfl, r1, r2⟩ := rd
      obtain ⟨v2, v3, rfl, r2, r3⟩ := RepL.two r2
      exact ⟨v1, v2, v3, rfl, p1.nxt so1 (((er1.set r1).set r2).set r3)⟩
end
end Mi

set_option maxRecDepth 100000
set_option maxHeartbeats 4000000
namespace Mi
open PySem PySem.Spec L2

section
variable {G : Gs} {C : Call}
theorem oks_aug (i : Nat) (o : B2) (e : E) : OkS G C (.aug i o e) := by
  refine mkOkS (fun X W g st h => ?_) (fun _ _ _ => rfl)
  have f : ∃ y py x pos, st = .AugAssign (.Name y py) (op2 o) x pos ∧ locB X.N X.env.scope (fun _ => true) i y = true ∧ ck G X.N e X.env.scope x = true ∧ augB o = true := by
    cases st with
    | AugAssign t o' x pos =>
      cases t with
      | Name y py =>
        have h' : (locB X.N X.env.scope (fun _ => true) i y && decide (o' = op2 o) && ck G X.N e X.env.scope x && augB o) = true := h
        simp only [Bool.and_eq_true, decide_eq_true_eq] at h'
        obtain ⟨⟨⟨h1, rfl⟩, h3⟩, h4⟩ := h'
        exact ⟨y, py, x, pos, rfl, h1, h3, h4⟩
      | _ => cases h
    | _ => cases h
  obtain ⟨y, py, x, pos, rfl, h1, h2, h3⟩ := f
  obtain ⟨n1, n2, n3⟩ := fn_loc g h1
  have ho : o = .add ∨ o = .sub := by cases o <;> first | exact .inl rfl | exact .inr rfl | cases h3
  · refine PSimp (ps_aug g.g.nd n1 n2 ((snd e).1 X W x g.g h2).1 (aug_ok X o ho) n3) fun D σ H ⟨en, st, io, er, so, p⟩ => ?_
    have p' : PostS X.K io H W D (match en[i]? with
      | some (some x) => (ev G C e en st).andS en fun y st => (aug2 o x y st).andS en fun z st => .ok (.nx (en.set i (some z))) st
      | _ => .bad) := p
    cases hx : en[i]? with
    | none => rw [hx] at p'; exact p'.elim
    | some w =>
      cases w with
      | none => rw [hx] at p'; exact p'.elim
      | some d =>
        simp only [hx] at p'
        obtain ⟨v, e1, r⟩ := er.2 _ _ hx
        refine ⟨v, e1, en, st, io, er, so, (PostS.andS (Rp := RpD X.K) er p').mono fun u H1 ⟨d2, io1, st1, x1, so1, er1, rd, p1⟩ => ?_⟩
        refine ⟨d, d2, st1, io1, so1, Rep.ext x1 _ _ r, rd, ?_⟩
        have p2 := PostS.andS (Rp := RpD X.K) er1 p1
        rw [← aug_shut] at p2
        exact p2.shut.mono fun z H2 ⟨d3, io2, st2, x2, so2, er2, rz, p3⟩ => p3.nxt so2 (er2.set rz)
theorem oks (s : S) : OkS G C s := by
  induction s with
  | nil => exact oks_nil
  | seq a r ha hr => exact oks_seq ha hr
  | pass => exact oks_pass
  | expr e => exact oks_expr e
  | set i e => exact oks_set i e
  | aug i o e => exact oks_aug i o e
  | asg is e => exact oks_asg is e
  | par is es => exact oks_par is es
  | setItem a i v => exact oks_setItem a i v
  | ite c a b ha hb => exact oks_ite c ha hb
  | whl n c b hb => exact oks_whl n c hb
  | loop k is un src b hb => exact oks_loop k is un src hb
  | ret e => exact oks_ret e
  | retN => exact oks_retN
  | brk => exact oks_brk
  | cont => exact oks_cont
end
end Mi

set_option maxRecDepth 100000
set_option maxHeartbeats 4000000
namespace Mi
open PySem PySem.Spec PyProof.Rows L2

/-! ### arguments -/
theorem lookup_zip : ∀ {ps : List Str} {us : List Value} {i : Nat} (hn : ps.Nodup) (hl : us.length = ps.length) (hi : i < ps.length), (ps.zip us).lookup ps[i] = some (us[i]'(by omega))
  | [], _, i, _, _, hi => by simp at hi
  | p :: ps, [], i, _, hl, _ => by simp at hl
  | p :: ps, u :: us, 0, hn, hl, hi => by simp
  | p :: ps, u :: us, i + 1, hn, hl, hi => by
    rw [List.nodup_cons] at hn
    have ne : (ps[i]'(by simpa using hi) == p) = false := beq_eq_false_iff_ne.mpr fun e => hn.1 (by rw [← e]; exact List.getElem_mem _)
    simp only [List.zip_cons_cons, List.getElem_cons_succ, List.lookup_cons, ne]
    exact lookup_zip hn.2 (by simpa using hl) _
theorem filterMap_zip {f : Str → Option (Str × Value)} : ∀ {qs : List Str} {ws : List Value} (_ : ws.length = qs.length), (∀ (i : Nat) (hi : i < qs.length) (hj : i < ws.length), f qs[i] = some (qs[i], ws[i])) → qs.filterMap f = qs.zip ws
  | [], ws, _, _ => by simp
  | q :: qs, [], hl, _ => by simp at hl
  | q :: qs, w :: ws, hl, h => by
    have h0 : f q = some (q, w) := h 0 (by simp) (by simp)
    rw [List.filterMap_cons, h0, List.zip_cons_cons]
    show (q, w) :: qs.filterMap f = (q, w) :: qs.zip ws
    congr 1
    exact filterMap_zip (by simpa using hl) fun i hi hj => h (i + 1) (by simpa using hi) (by simpa using hj)
theorem binds_plain {fd : FuncData} {ps : List Str} {us : List Value} {as : List Arg} (hp : fd.params = ⟨[], as, none, [], [], none, []⟩) (hd : fd.defaults = .none) (ha : as.map (·.arg) = ps) (hn : ps.Nodup) (hl : us.length = ps.length) : bindArgs fd ⟨us, []⟩ = pure (ps.zip us) := by
  unfold bindArgs
  have sq : seqItems? .none = pure none := rfl
  have lz : ∀ n ∈ ps, ∃ v, (ps.zip us).lookup n = some v := fun n hn' => by
    obtain ⟨i, hi, e⟩ := List.getElem_of_mem hn'
    exact ⟨_, e ▸ lookup_zip hn hl hi⟩
  have e1 : (ps.take (ps.length - 0)).filter (fun n => ((ps.zip us).lookup n).isNone) = [] := by
    rw [List.filter_eq_nil_iff]
    intro n hn'
    obtain ⟨v, e⟩ := lz n (List.mem_of_mem_take hn')
    rw [e]; simp
  have e2 : ps.filterMap (fun n => ((ps.zip us).lookup n).map (n, ·)) = ps.zip us := by
    refine filterMap_zip hl fun i hi hj => ?_
    rw [lookup_zip hn hl hi]
    rfl
  simp [hp, hd, ha, sq, hl, e1, e2, pure_bind]
  intro x hx h
  obtain ⟨v, e⟩ := lz x hx
  exact absurd (PySem.mem_of_lookup e) (h v)
theorem binds_kw {fd : FuncData} {p : Str} {u : Value} {as : List Arg} (hp : fd.params = ⟨[], as, none, [], [], none, []⟩) (hd : fd.defaults = .none) (ha : as.map (·.arg) = [p]) : bindArgs fd ⟨[], [(p, u)]⟩ = pure [(p, u)] := by
  unfold bindArgs
  have sq : seqItems? .none = pure none := rfl
  simp [hp, hd, ha, sq, pure_bind]

/-! ### a def's body keeps its promise -/
theorem Post.ofEx {K : PySem.W.Frag} {io : Io} {H : Hp} {E : XK} {r : RS} {Q : VK} (p : Post K io H E (RpD K) (match r with
    | .ok (.nx _) st => .ok .non st
    | .ok (.rt v) st => .ok v st
    | .exc x _ st => .exc x st
    | _ => (.bad : R D)) Q) : PostS K io H (fun c d _ H' => E c d H') { nx := fun _ H' => Q .non H', rt := Q } r := by
  cases r with
  | ok f st =>
    cases f with
    | nx en => exact fun σ io' H' x so er => p .non io' H' x so rfl
    | rt v => exact p
    | bk _ => exact p.elim
    | ct _ => exact p.elim
  | exc x en st => exact fun c dx σ io' H' x so er ea => p c dx io' H' x so ea
  | bad => exact p.elim
section
variable {G : Gs} {C : Call} {P : Program} {w : World} {K : PySem.W.Frag} {mg : Str → Option Value} {base : Heap} {k : Nat} {f : Addr} {name qual : Str} {params : Arguments} {body : List Stmt} {scope : Scope} {dV kV doc pm cdv ct oc : Value} {an od : Option Addr} {osl : Array (Option Value)} {d : Df}
theorem fnG_of (lk : K.lookup f = some ⟨oc, od, .func (PySem.W.fnOf name qual params body scope dV kV doc pm an cdv ct), osl⟩) (hcd : PySem.W.codeIn K cdv qual = true) (S : FnScope d.N d.ps scope)
    (hb : ∀ (us : List Value) (args : Args), Given d.ps us args → us.length = d.ps.length → bindArgs (PySem.W.fnOf name qual params body scope dV kV doc pm an cdv ct) args = pure (d.ps.zip us))
    (hg : ∀ (A : Around) (outer : List Env) (s : Shared) (H : Hp) (E : XK), RoomG k (A.deeper (envOfC qual scope s.heap.objs.size f cdv)) →
      GoodS G C (cxOf (L2.CX P w) P w K mg base d.N qual scope f cdv A outer s H E) fun c dx _ H' => E c dx H') (hc : ckb G d.N d.b scope body = true) :
    FnG P w K mg base (k + 1) f d.ps (runD G C d) := by
  refine ⟨fun A outer s H args us vs ds st io Q E hr e0 hgv r so rl p => ?_⟩
  unfold runD at p
  by_cases hdl : ds.length = d.ps.length
  · rw [if_pos hdl] at p
    have hvl : vs.length = d.ps.length := by rw [← rl.len]; exact hdl
    have hul : us.length = d.ps.length := by rw [← r.length]; exact hvl
    have KX : K.In s.heap := e0.mod.kin.keeps fun b o e => (e0.bs b o e).1
    have lim : s.heap.NoLimit := e0.mod.nolimit.keeps fun b o e => (e0.bs b o e).1
    have kinds : ∀ y ∈ d.ps.zip us, scope.names.lookup y.1 = some .local ∨ (scope.names.lookup y.1 = some .cell ∧ ((cellsFrom (s.heap.objs.size + 1) scope.names []).lookup y.1).isSome = true) := fun ⟨n, v⟩ hy =>
      (S.par n (List.of_mem_zip hy).1).imp id fun q => ⟨q, PySem.W.cellsFrom_some _ _ _ (.inl q)⟩
    refine codeAny_call_function hr.room.depth (KX _ _ lk) rfl S.co S.gen rfl (PySem.W.codeRec_of KX hcd) ((BindsTo.of_eq (s := s) (hb us args hgv hul)) _ _ _ _ ?_)
    refine wpAny_newFunctionEnv_cells S.kind kinds fun env he s1 x => ?_
    subst he
    refine ⟨lim.keeps x.toInCall.keep, codeAny_func ?_⟩
    have ht := ((oks (G := G) (C := C) d.b) _ _ (hg A outer s H E (hr.deeper _))).2 body hc
    have I : Inv (cxOf (L2.CX P w) P w K mg base d.N qual scope f cdv A outer s H E) [] (start d.N vs) H s1 := inv_start S hr.room.hd e0 hvl r x
    have er := EnvR.start rl d.N
    refine wpAny_mono (ht.run [] s1 (start d.N vs) H _ I ⟨_, st, io, er, so, Post.ofEx p⟩) (fun fl s' hs => ?_) fun e s' hs => hs
    cases fl with
    | ret u =>
      obtain ⟨v, σ', H', J, rv, q⟩ := hs
      exact ⟨v, H', J.os, J.bare, J.base, J.hok, rv, q⟩
    | next =>
      obtain ⟨σ', H', J, q⟩ := hs
      exact ⟨V.non, H', J.os, J.bare, J.base, J.hok, rfl, q⟩
    | brk =>
      obtain ⟨_, _, _, q⟩ := hs
      exact False.elim q
    | cont =>
      obtain ⟨_, _, _, q⟩ := hs
      exact False.elim q
  · rw [if_neg hdl] at p; exact p.elim
end

/-! ### a table of defs -/
structure Tx where
  f : Str
  st : Stmt
  d : Df
def ckScope (N ps : List Str) (sc : Scope) : Bool := (match sc.kind with | .function => true | _ => false) && !sc.isCoroutine && !sc.isGenerator && decide N.Nodup && decide (N.take ps.length = ps) &&
  (ps.all fun x => match sc.names.lookup x with
    | some .local => true
    | some .cell => true
    | _ => false) && (sc.names.all fun y => match y.2 with
    | .free => false
    | _ => true)
theorem scope_of {N ps : List Str} {sc : Scope} (h : ckScope N ps sc = true) : FnScope N ps sc := by
  unfold ckScope at h
  simp only [Bool.and_eq_true, decide_eq_true_eq, Bool.not_eq_true', List.all_eq_true] at h
  obtain ⟨⟨⟨⟨⟨⟨h1, h2⟩, h3⟩, h4⟩, h5⟩, h6⟩, h7⟩ := h
  refine ⟨?_, h2, h3, h4, h5, fun x hx => ?_, fun y hy e => ?_⟩
  · split at h1
    · assumption
    · cases h1
  · have q := h6 x hx
    split at q
    · exact .inl (by assumption)
    · exact .inr (by assumption)
    · cases q
  · have q := h7 y hy
    rw [e] at q; cases q
def ckArgs (ps : List Str) : Arguments → Bool
  | ⟨[], as, none, [], [], none, []⟩ => decide (as.map (·.arg) = ps)
  | _ => false
theorem args_of {ps : List Str} {p : Arguments} (h : ckArgs ps p = true) : ∃ as, p = ⟨[], as, none, [], [], none, []⟩ ∧ as.map (·.arg) = ps := by
  unfold ckArgs at h
  split at h
  · exact ⟨_, rfl, of_decide_eq_true h⟩
  · cases h
def ckTx (G : Gs) (t : Tx) : Bool := ckArgs t.d.ps (defArgs t.st) && ckScope t.d.N t.d.ps (defScope t.st) && ckb G t.d.N t.d.b (defScope t.st) (defBody t.st)
def Tx.dD (t : Tx) : He.DefD := ⟨(t.f, none), t.f, t.f, defArgs t.st, defBody t.st, defScope t.st, [], []⟩
def tabF (T : List Tx) : List (Str × List Str) := T.map fun t => (t.f, t.d.ps)
def tabD (T : List Tx) : List (Str × Df) := T.map fun t => (t.f, t.d)
theorem tab_look {T : List Tx} {f : Str} {ps : List Str} (h : (tabF T).lookup f = some ps) : ∃ t, t ∈ T ∧ t.f = f ∧ t.d.ps = ps ∧ (tabD T).lookup f = some t.d := by
  induction T with
  | nil => cases h
  | cons t T ih =>
    unfold tabF at h
    rw [List.map_cons, List.lookup_cons] at h
    unfold tabD
    rw [List.map_cons, List.lookup_cons]
    cases e : f == t.f with
    | true =>
      rw [e] at h
      cases h
      exact ⟨t, List.mem_cons_self, (beq_iff_eq.mp e).symm, rfl, rfl⟩
    | false =>
      rw [e] at h
      obtain ⟨t', h1, h2, h3, h4⟩ := ih h
      exact ⟨t', List.mem_cons_of_mem _ h1, h2, h3, h4⟩
/-- what the head tells of the module -/
structure Told (G : Gs) (T : List Tx) (K : PySem.W.Frag) (mg : Str → Option Value) : Prop where
  fns : G.fns = tabF T
  glo_ : ∀ t ∈ T, mg t.f = some (.ref (He.ga K t.f))
  def_ : ∀ t ∈ T, ∃ fd, FunD K t.f t.f (defArgs t.st) (defBody t.st) (defScope t.st) [] [] (He.ga K t.f) fd
  no : ∀ x ∈ G.no, mg x = none
  glo : ∀ x d, G.glo.lookup x = some d → ∃ u v, mg x = some u ∧ RelV v u ∧ ∀ H io, Rep K H io d v
  sysm : SysD K
theorem fns_ok {G : Gs} {T : List Tx} {P : Program} {w : World} {K : PySem.W.Frag} {mg : Str → Option Value} {base : Heap} (h : Told G T K mg) (hc : T.all (ckTx G) = true) :
    ∀ (n : Nat) (f : Str) (ps : List Str), G.fns.lookup f = some ps → mg f = some (.ref (He.ga K f)) ∧ PySem.W.keepIn K (.ref (He.ga K f)) = true ∧ FnG P w K mg base n (He.ga K f) ps (callN G (tabD T) n f)
  | 0, f, ps, hf => by
    rw [h.fns] at hf
    obtain ⟨t, ht, rfl, rfl, _⟩ := tab_look hf
    obtain ⟨fd, F⟩ := h.def_ t ht
    exact ⟨h.glo_ t ht, F.kp, ⟨fun A outer s H args us vs ds st io Q E hr e0 hgv r so rl p => p.elim⟩⟩
  | n + 1, f, ps, hf => by
    have hf0 := hf
    rw [h.fns] at hf
    obtain ⟨t, ht, rfl, rfl, hd⟩ := tab_look hf
    obtain ⟨fd, F⟩ := h.def_ t ht
    refine ⟨h.glo_ t ht, F.kp, ?_⟩
    obtain ⟨oc, od, dV, kV, doc, pm, an, cdv, ct, osl, e, lk, hcd, hdv, hkw⟩ := F.ex
    subst e
    have hdn : dV = .none := by
      rcases hdv with ⟨_, e⟩ | ⟨ne, _⟩
      · exact e
      · exact absurd rfl ne
    subst hdn
    have ct := List.all_eq_true.mp hc t ht
    unfold ckTx at ct
    simp only [Bool.and_eq_true] at ct
    obtain ⟨⟨c1, c2⟩, c3⟩ := ct
    have S := scope_of c2
    obtain ⟨as, ea, em⟩ := args_of c1
    have npd : t.d.ps.Nodup := by rw [← S.pre]; exact S.nd.sublist (List.take_sublist _ _)
    have e1 : callN G (tabD T) (n + 1) t.f = runD G (callN G (tabD T) n) t.d := by
      funext ds st
      show (match (tabD T).lookup t.f with | some d => runD G (callN G (tabD T) n) d ds st | none => R.bad) = _
      rw [hd]
    rw [e1]
    refine fnG_of lk hcd S (fun us args hg hl => ?_) (fun A outer s H E hr => ?_) c3
    · cases hg with
      | pl => exact binds_plain (as := as) ea rfl em npd hl
      | kw hp hu =>
        rename_i p u
        rw [hu, hp]
        exact binds_kw (as := as) ea rfl (by rw [em, hp])
    · refine ⟨⟨rfl, S.nd, S.kind, ⟨n, hr, fun f ps hf => fns_ok h hc n f ps hf⟩, h.no, h.glo, takes_of rfl rfl rfl rfl, h.sysm⟩, fun _ => rfl, passes_of rfl⟩
end Mi

set_option maxRecDepth 100000
set_option maxHeartbeats 4000000
namespace Mi
open PySem PySem.Spec PyProof.Rows L2

/-! ### the head: the module's part of the heap, and where the modules are kept -/
def sysB (K : PySem.W.Frag) : Bool := match K.lookup sysModules with
  | some o => (match o.data with
    | .dict _ _ => true
    | _ => false)
  | none => false
theorem sys_of {K : PySem.W.Frag} (h : sysB K = true) : SysD K := by
  unfold sysB at h
  cases e : K.lookup sysModules with
  | none => rw [e] at h; cases h
  | some o =>
    simp only [e] at h
    cases d : o.data with
    | dict es n => exact ⟨o, es, n, e, d⟩
    | _ => rw [d] at h; cases h
abbrev AlM : Type := Bool × He.AlD
def fragM (n : Nat) (g : Addr → Option Obj) : PySem.W.Frag := He.frG g (sysModules :: He.asD g n)
def obsM (n : Nat) (fa : List He.Fa) (fn : List He.DefD) (g : Addr → Option Obj) : AlM := let K := fragM n g; (sysB K, He.obsD fa fn K)
def SaysM (fa : List He.Fa) (fn : List He.DefD) (K : PySem.W.Frag) : Prop := sysB K = true ∧ He.SaysD fa fn K
def hookM (n : Nat) (fa : List He.Fa) (fn : List He.DefD) : PySem.W.Hook where
  α := AlM
  obs := fun s => obsM n fa fn s.heap.get?
  val := fun _ => (true, He.valD fn)
  says := fun _ h => ∃ K : PySem.W.Frag, K.In h ∧ SaysM fa fn K
  of := fun _ _ e => ⟨_, He.frG_in, congrArg (fun z : AlM => z.1) e, congrArg (fun z : AlM => z.2) e⟩
  keeps := fun _ _ _ ⟨K, hK, c⟩ k => ⟨K, PySem.W.Frag.In.keeps hK k, c⟩
theorem obsM_eq {n : Nat} {fa : List He.Fa} {fn : List He.DefD} {g : Addr → Option Obj} {s : Shared} (h : ∀ a, g a = s.heap.get? a) : obsM n fa fn g = (hookM n fa fn).obs s := by
  have e : g = s.heap.get? := funext h
  rw [e] <;> rfl

/-! ### the law's call -/
/-- from an abstract heap that holds the script alone, or nothing -/
theorem law_from {P : Program} {w : World} {K : PySem.W.Frag} {mg mb : Str → Option Value} {k : Nat} {fa a : Addr} {ps : List Str} {m : List D → Sto → R D} {s1 : Shared} {vs : List Value} {ns : List Int} {H : Hp}
    (KX : K.In s1.heap) (hns : s1.heap.Ns mainGlobals mg) (hb : s1.heap.Ns builtinsNs mb) (hbb : ∀ x : Str, x ≠ "__name__" → mb x = bootBuiltins x) (hlim : s1.heap.NoLimit) (hg : s1.gens = #[])
    (ha : s1.heap.get? a = some { cls := .type "list", data := .seq vs.toArray }) (hr : RoomG k callerA)
    (F : ∀ base : Heap, K.In base → base.Ns mainGlobals mg → FnG P w K mg base k fa ps m) (hm : ∃ st, m [.fro (ns.map D.int)] [] = .ok (.bl true) st)
    (hO : Only H) (hS : FroAt K H a (ns.map V.int)) (hok : HOk P w H s1.heap) (hA : ∀ b, H b ≠ none → b = a) (hK : H a ≠ none → K.lookup a = none) :
    codeAny (model P w) callerA (.call (.ref fa) ⟨[.ref a], []⟩) (fun r s' => r = .ok (.ret (.bool true)) ∧ OldK s1.heap s'.heap ∧ s'.os = s1.os ∧ AllBare s'.gens) s1 := by
  have away : ∀ {b : Addr} {o : Obj}, s1.heap.get? b = some o → (∀ vs n, o.data ≠ .seq vs n) → H b = none := fun {b o} e d => by
    cases q : H b with
    | none => rfl
    | some u =>
      have e' : b = a := hA b (by rw [q]; simp)
      subst e'
      rw [ha] at e; cases e
      exact absurd rfl (d _ _)
  have ns_in : ∀ {b : Addr} {f : Str → Option Value}, s1.heap.Ns b f → (hidT s1.heap H).Ns b f := fun {b f} ⟨o, es, ep, e, d, r⟩ =>
    ⟨o, es, ep, hidT_get e (away e fun _ _ z => by rw [d] at z; cases z), d, r⟩
  have Kb : K.In (hidT s1.heap H) := fun b o e => hidT_get (KX b o e) (by
    cases q : H b with
    | none => rfl
    | some u =>
      have e' : b = a := hA b (by rw [q]; simp)
      subst e'
      rw [hK (by rw [q]; simp)] at e; cases e)
  have M : Mod K mg (hidT s1.heap H) := ⟨Kb, ns_in hns, ⟨mb, ns_in hb, hbb⟩, let ⟨mc, q1, q2⟩ := hlim; ⟨mc, ns_in q1, q2⟩⟩
  have e0 : Env0 P w K mg (hidT s1.heap H) callerA [] s1 H :=
    ⟨rfl, M, fun _ _ e => of_hidT e, Nat.le_of_eq (hidT_size _ _), trivial, fun b z => absurd (show b ∈ ([] : List Addr) from z) (by simp), hok, .of_eq hg⟩
  obtain ⟨st, em⟩ := hm
  have so : StOk K H ⟨[], []⟩ [] := ⟨rfl, List.nodup_nil, fun n a b e _ => by simp [Io.get] at e, fun a z => by cases z⟩
  have rl : RepL K H ⟨[], []⟩ [.fro (ns.map D.int)] [.ref a] := .cons ⟨a, _, rfl, hS, RepL.map (f := D.int) (g := V.int) (fun _ => rfl) ns⟩ .nil
  refine codeAny_mono ((F _ Kb (ns_in hns)).run callerA [] s1 H ⟨[.ref a], []⟩ [.ref a] [.ref a] _ [] _ (fun v _ => v = .bl true) (fun _ _ _ => False) hr e0 .pl (.cons rfl .nil) so rl (by
    rw [em]
    exact fun v io' H' x so' r => r)) fun r s' hq => ?_
  cases r with
  | error e => obtain ⟨_, _, _, _, _, _, _, _, _, _, _, _, z⟩ := hq; exact z.elim
  | ok fl =>
    cases fl with
    | next => exact False.elim hq
    | brk => exact False.elim hq
    | cont => exact False.elim hq
    | ret u =>
      obtain ⟨v, H', hos, bare, un, hok', r', q⟩ := hq
      have q' : v = .bl true := q
      subst q'
      obtain rfl : u = Value.bool true := r'
      refine ⟨rfl, OldK.of_keep fun b o e => ?_, hos, bare⟩
      cases q : H b with
      | none => exact un.keep b o e q (fun z => absurd (show b ∈ ([] : List Addr) from z) (by simp)) (by simp)
      | some u =>
        rcases hO b with z | ⟨ob, xs, z⟩
        · rw [q] at z; cases z
        · obtain ⟨e1, _⟩ := hok b _ z
          obtain ⟨e2, _⟩ := hok' b _ (un.frzs b ob _ z)
          rw [e] at e1; cases e1
          exact e2
theorem lawG {l : PySem.W.OpenLaw} {n k : Nat} {q : Program} {loose : List Str} {XP : (Str → Option Value) → Heap → Prop} {YP : World → Heap → Prop} {d : DefRec} {ps : List Str}
    (hn : l.most = some n) (hn2 : n ≤ sizeLine) (hdf : d.params.defaults = []) (hr : RoomG k callerA)
    (F : ∀ (w : World) (mg : Str → Option Value) (fa : Addr) (h : Heap), YP w h → h.Ns mainGlobals mg → mg d.name = some (.ref fa) →
      ∃ (K : PySem.W.Frag) (m : List D → Sto → R D), K.In h ∧ (∀ ns : List Int, ns.length ≤ n → ∃ st, m [.fro (ns.map D.int)] [] = .ok (.bl true) st) ∧
        ∀ base : Heap, K.In base → base.Ns mainGlobals mg → FnG l.prog w K mg base k fa ps m) :
    PySem.W.WalkO q loose XP YP l.row.toRowW d [] (fun f vs => PySem.call f vs) := by
  refine Att.attach_call hn hdf fun w s0 s1 mg mb fa o pm cd doc a vs ns G Y ho hd hcd hmg hobj hints hlen hg => ?_
  obtain ⟨K, m, KX, hm, hF⟩ := F w mg fa _ Y G.T.g hmg
  have rv := vals_ints hints
  have hl : ns.length ≤ sizeLine := Nat.le_trans hlen hn2
  cases hk : K.lookup a with
  | some ob =>
    have e := KX a ob hk
    rw [hobj] at e
    cases e
    exact law_from (H := fun _ => none) KX G.T.g G.T.b G.T.builtins G.T.nolimit hg hobj hr hF (hm ns hlen) (fun _ => .inl rfl)
      (.inr ⟨_, vs.toArray, _, hk, rfl, rfl, rfl, by rw [List.size_toArray, hints.length]; exact hl, by simpa using rv⟩) (fun b u z => nomatch (show (none : Option HO) = some u from z)) (fun b z => absurd rfl z) fun z => absurd rfl z
  | none =>
    let H : Hp := upd (fun _ => none) a (.frz { cls := .type "list", data := .seq vs.toArray } (.lst (ns.map V.int)))
    have other : ∀ b, b ≠ a → H b = none := fun b hb => upd_ne hb
    refine law_from (H := H) KX G.T.g G.T.b G.T.builtins G.T.nolimit hg hobj hr hF (hm ns hlen) (fun b => ?_) (.inl ⟨_, upd_same⟩) (fun b u z => ?_) (fun b z => ?_) fun _ => hk
    · by_cases hb : b = a
      · subst hb; exact .inr ⟨_, _, upd_same⟩
      · exact .inl (other b hb)
    · by_cases hb : b = a
      · subst hb
        have z' := (show H b = _ from upd_same).symm.trans z
        cases z'
        exact ⟨hobj, by rw [List.length_map]; exact hl, vs, _, rv, hobj⟩
      · rw [other b hb] at z; cases z
    · by_cases hb : b = a
      · exact hb
      · exact absurd (other b hb) z
end Mi

set_option maxRecDepth 100000
set_option maxHeartbeats 4000000
namespace Mi
open PySem PySem.Spec PyProof.Rows L2

/-! ### the facts of a table -/
def faGlo : Str × D → List He.Fa
  | (x, .int i) => [.int x i]
  | (x, .str s) => [.str x ⟨s.toArray⟩]
  | (x, .glo _) => [.glo x]
  | _ => []
def gloB : Str × D → Bool
  | (_, .int _) => true
  | (_, .str _) => true
  | (x, .glo y) => decide (x = y)
  | _ => false
def faOf (G : Gs) (T : List Tx) : List He.Fa := T.map (fun t => .glo t.f) ++ (G.no.map .free ++ G.glo.flatMap faGlo)
def dDs (T : List Tx) : List He.DefD := T.map Tx.dD
theorem fact_of {fa : List He.Fa} {fn : List He.DefD} {K : PySem.W.Frag} (c : He.SaysD fa fn K) {f : He.Fa} (h : f ∈ fa) : f.ok K = true := by
  obtain ⟨i, hi⟩ := List.mem_iff_getElem?.mp h
  exact c.fact i hi
theorem told_of {G : Gs} {T : List Tx} {K : PySem.W.Frag} {mg : Str → Option Value} {h : Heap} (X : K.In h) (N : h.Ns mainGlobals mg) (c : SaysM (faOf G T) (dDs T) K) (hf : G.fns = tabF T) (hg : G.glo.all gloB = true) : Told G T K mg where
  fns := hf
  glo_ := fun t ht => He.glo_ok X N (fact_of c.2 (List.mem_append_left _ (List.mem_map.mpr ⟨t, ht, rfl⟩)))
  def_ := fun t ht => by
    obtain ⟨i, hi⟩ := List.mem_iff_getElem?.mp ht
    exact c.2.def_ i (d := t.dD) (by unfold dDs; rw [List.getElem?_map, hi]; rfl)
  no := fun x hx => He.free_ok X N (fact_of c.2 (List.mem_append_right _ (List.mem_append_left _ (List.mem_map.mpr ⟨x, hx, rfl⟩))))
  glo := fun x d hd => by
    have hm : (x, d) ∈ G.glo := PySem.mem_of_lookup hd
    have hb := List.all_eq_true.mp hg _ hm
    have mem : ∀ f, f ∈ faGlo (x, d) → f.ok K = true := fun f hf => fact_of c.2 (List.mem_append_right _ (List.mem_append_right _ (List.mem_flatMap.mpr ⟨_, hm, hf⟩)))
    cases d with
    | int i =>
      obtain ⟨t, e⟩ := He.int_ok X N (mem (.int x i) (by simp [faGlo]))
      exact ⟨_, .int i, e, ⟨t, rfl⟩, fun _ _ => rfl⟩
    | str s =>
      obtain ⟨t, e⟩ := He.str_ok X N (mem (.str x ⟨s.toArray⟩) (by simp [faGlo]))
      exact ⟨_, .str ⟨s.toArray⟩, e, ⟨t, rfl⟩, fun _ _ => rfl⟩
    | glo y =>
      have e : x = y := of_decide_eq_true hb
      subst e
      exact ⟨_, .ref (He.ga K x), He.glo_ok X N (mem (.glo x) (by simp [faGlo])), rfl, fun _ _ => rfl⟩
    | _ => cases hb
  sysm := sys_of c.1
/-- a law over a table: what is left is the small language's run -/
theorem law_tab {l : PySem.W.OpenLaw} {n k : Nat} {q : Program} {loose : List Str} {XP : (Str → Option Value) → Heap → Prop} {d : DefRec} {G : Gs} {T : List Tx} {m : Nat} {x : Str}
    (hn : l.most = some n) (hn2 : n ≤ sizeLine) (hdf : d.params.defaults = []) (hr : RoomG k callerA) (hd : d.name = ("law" : Str)) (hl : G.fns.lookup ("law" : Str) = some [x]) (hf : G.fns = tabF T) (hg : G.glo.all gloB = true) (hc : T.all (ckTx G) = true)
    (run : ∀ ns : List Int, ns.length ≤ n → ∃ st, callN G (tabD T) k "law" [.fro (ns.map D.int)] [] = .ok (.bl true) st) :
    PySem.W.WalkO q loose XP (hookM m (faOf G T) (dDs T)).says l.row.toRowW d [] (fun f vs => PySem.call f vs) := by
  refine lawG (ps := [x]) hn hn2 hdf hr fun w mg fa h Y N hmg => ?_
  obtain ⟨K, KX, c⟩ := Y
  refine ⟨K, callN G (tabD T) k "law", KX, run, fun base Kb Nb => ?_⟩
  obtain ⟨e1, e2, F⟩ := fns_ok (P := l.prog) (w := w) (base := base) (told_of KX N c hf hg) hc k "law" [x] hl
  rw [hd] at hmg
  rw [hmg] at e1
  cases e1
  exact F
end Mi

set_option maxRecDepth 100000
set_option maxHeartbeats 0
namespace K25
open PySem PySem.Spec PyProof.Rows L2 Mi
def top (i : Nat) : Stmt := PySem.Challenge.pw_handkept_k25_rules_of_any_value.main.body.getD i (.Pass ⟨0, 0, 0, 0⟩)
def disinteger : Df := ⟨["value"], ["value"], (.seq (.ret (.and (.bcall .isi (.cons (.var 0) (.cons (.ty "int") .nil))) (.not (.bcall .isi (.cons (.var 0) (.cons (.ty "bool") .nil)))))) .nil)⟩
def lcisword1e : E := (.cmp .inn (.var 1) (.glo "LETTERS"))
def lcisword1 : E := .lc .seq [1] false [("sign", 1)] (.cons (.var 0) .nil) .nil lcisword1e
def disword : Df := ⟨["value"], ["value", "sign"], (.seq (.ite (.or (.not (.bcall .isi (.cons (.var 0) (.cons (.ty "str") .nil)))) (.not (.chain .le .le (.int 1) (.bcall .len (.cons (.var 0) .nil)) (.glo "MOST_LETTERS")))) (.seq (.ret (.bool false)) .nil) .nil) (.seq (.ret (.bcall .all (.cons lcisword1 .nil))) .nil))⟩
def lcistupleof1e : E := (.callv 1 (.cons (.var 2) .nil))
def lcistupleof1 : E := .lc .seq [2] false [("one", 2)] (.cons (.var 0) .nil) .nil lcistupleof1e
def distupleof : Df := ⟨["value", "look"], ["value", "look", "one"], (.seq (.ret (.and (.bcall .isi (.cons (.var 0) (.cons (.ty "tuple") .nil))) (.bcall .all (.cons lcistupleof1 .nil)))) .nil)⟩
def lcrises1e : E := (.cmp .lt (.var 1) (.var 2))
def lcrises1 : E := .lc .zip [1, 2] true [("one", 1), ("other", 2)] (.cons (.var 0) (.cons (.sl (.var 0) (.cons (.int 1) .nil) .nil) .nil)) .nil lcrises1e
def drises : Df := ⟨["members"], ["members", "one", "other"], (.seq (.ret (.bcall .all (.cons lcrises1 .nil))) .nil)⟩
def displace : Df := ⟨["value"], ["value"], (.seq (.ret (.and (.call "is_integer" (.cons (.var 0) .nil)) (.chain .le .le (.int 0) (.var 0) (.glo "MOST_PLACE")))) .nil)⟩
def disrule : Df := ⟨["value"], ["value", "word", "skipped", "under"], (.seq (.ite (.or (.not (.bcall .isi (.cons (.var 0) (.cons (.ty "tuple") .nil)))) (.or (.cmp .ne (.bcall .len (.cons (.var 0) .nil)) (.glo "RULE_PARTS")) (.not (.bcall .isi (.cons (.idx (.var 0) (.int 0)) (.cons (.ty "str") .nil)))))) (.seq (.ret (.bool false)) .nil) .nil) (.seq (.asg [1, 2, 3] (.var 0)) (.seq (.ite (.or (.cmp .notin (.var 1) (.tup (.cons (.glo "FIRST") (.cons (.glo "ONLY") .nil)))) (.or (.not (.call "is_tuple_of" (.cons (.var 2) (.cons (.glo "is_place") .nil)))) (.not (.call "rises" (.cons (.var 2) .nil))))) (.seq (.ret (.bool false)) .nil) .nil) (.seq (.ret (.or (.call "is_word" (.cons (.var 3) .nil)) (.and (.bcall .isi (.cons (.var 3) (.cons (.ty "str") .nil))) (.cmp .eq (.var 3) (.str []))))) .nil))))⟩
def dlawpot : Df := ⟨["_law_script", "_law_k"], ["_law_script", "_law_k", "_law_cell", "_law_own", "_law_mixed"], (.seq (.set 2 (.ite (.cmp .lt (.var 1) (.bcall .len (.cons (.var 0) .nil))) (.idx (.var 0) (.var 1)) (.bin .add (.bin .mul (.int 41) (.var 1)) (.int 13)))) (.seq (.set 3 (.bin .mul (.bin .mod (.bcall .int (.cons (.bcall .abs (.cons (.var 2) .nil)) .nil)) (.bin .pow (.bin .pow (.int 10) (.int 60)) (.int 5))) (.bcall .int (.cons (.cmp .ge (.bcall .abs (.cons (.var 2) .nil)) (.bin .pow (.int 10) (.int 18))) .nil)))) (.seq (.set 4 (.bin .add (.bin .add (.bin .mul (.bin .mod (.bcall .int (.cons (.var 2) .nil)) (.int 2305843009213693951)) (.int 70913)) (.bin .mul (.bin .mul (.int 6701) (.var 1)) (.var 1))) (.int 59))) (.seq (.ret (.lst true (.cons (.var 3) (.cons (.bin .mod (.bcall .int (.cons (.var 4) .nil)) (.int 2305843009213693921)) (.cons (.int 0) .nil))))) .nil))))⟩
def dlawtake : Df := ⟨["_law_pot_here", "_law_upto"], ["_law_pot_here", "_law_upto", "_law_prime", "_law_mixed", "_law_digit"], (.seq (.ite (.cmp .gt (.idx (.var 0) (.int 0)) (.int 0)) (.seq (.set 4 (.bin .mod (.bcall .int (.cons (.idx (.var 0) (.int 0)) .nil)) (.var 1))) (.seq (.setItem (.var 0) (.int 0) (.bin .div (.idx (.var 0) (.int 0)) (.var 1))) (.seq (.ret (.var 4)) .nil))) .nil) (.seq (.setItem (.var 0) (.int 2) (.bin .add (.idx (.var 0) (.int 2)) (.int 1))) (.seq (.set 2 (.idx (.lst false (.cons (.int 2147483647) (.cons (.int 2147483629) (.cons (.int 2147483587) (.cons (.int 2147483579) (.cons (.int 2147483563) .nil)))))) (.bin .mod (.bcall .int (.cons (.idx (.var 0) (.int 2)) .nil)) (.int 5)))) (.seq (.set 3 (.bin .mod (.bcall .int (.cons (.bin .pow (.bcall .int (.cons (.bin .add (.bin .add (.idx (.var 0) (.int 1)) (.bin .mul (.bin .mul (.int 98999) (.idx (.var 0) (.int 2))) (.idx (.var 0) (.int 2)))) (.int 43)) .nil)) (.int 3)) .nil)) (.var 2))) (.seq (.set 3 (.bin .mod (.bcall .int (.cons (.bin .mul (.var 3) (.bin .add (.bin .mod (.bcall .int (.cons (.var 3) .nil)) (.int 10007)) (.bin .mul (.int 79) (.idx (.var 0) (.int 2))))) .nil)) (.int 2305843009213693907))) (.seq (.ret (.bin .mod (.bcall .int (.cons (.bin .div (.var 3) (.int 103)) .nil)) (.var 1))) .nil))))))⟩
def dlawof : Df := ⟨["_law_pot_here", "_law_some"], ["_law_pot_here", "_law_some"], (.seq (.ret (.idx (.var 1) (.call "_law_take" (.cons (.var 0) (.cons (.bcall .len (.cons (.var 1) .nil)) .nil))))) .nil)⟩
def dlawodd : Df := ⟨["_law_pot_here", "_law_thing"], ["_law_pot_here", "_law_thing", "_law_some"], (.seq (.set 2 (.lst false (.cons .non (.cons (.bool true) (.cons (.int 0) (.cons (.int 1) (.cons (.neg (.int 1)) (.cons (.str []) (.cons (.str [120]) (.cons (.str [107, 101, 121]) (.cons (.tup .nil) (.cons (.lst false .nil) (.cons .edct (.cons (.tup (.cons (.tup .nil) .nil)) (.cons (.tup (.cons (.str []) .nil)) (.cons (.tup (.cons (.str [99, 111, 109, 101]) .nil)) .nil)))))))))))))))) (.seq (.ite (.bcall .isi (.cons (.var 1) (.cons (.ty "tuple") .nil))) (.seq (.set 2 (.bin .add (.var 2) (.bin .mul (.lst false (.cons (.sl (.var 1) (.cons (.int 1) .nil) .nil) (.cons (.sl (.var 1) .nil (.cons (.neg (.int 1)) .nil)) (.cons (.rev (.var 1)) (.cons (.bin .add (.var 1) (.sl (.var 1) (.cons (.neg (.int 1)) .nil) .nil)) (.cons (.bcall .list (.cons (.var 1) .nil)) (.cons (.tup (.cons (.var 1) .nil)) .nil))))))) (.int 2)))) .nil) .nil) (.seq (.ite (.bcall .isi (.cons (.var 1) (.cons (.ty "str") .nil))) (.seq (.set 2 (.bin .add (.var 2) (.bin .mul (.lst false (.cons (.bin .add (.var 1) (.str [97])) (.cons (.sl (.var 1) (.cons (.int 1) .nil) .nil) (.cons (.upper (.var 1)) (.cons (.bin .add (.var 1) (.str [32])) (.cons (.lst false (.cons (.var 1) .nil)) (.cons (.tup (.cons (.var 1) .nil)) .nil))))))) (.int 2)))) .nil) .nil) (.seq (.ret (.call "_law_of" (.cons (.var 0) (.cons (.var 2) .nil)))) .nil))))⟩
def dlawbent : Df := ⟨["_law_pot_here", "_law_thing", "_law_deep"], ["_law_pot_here", "_law_thing", "_law_deep", "_law_at"], (.seq (.ite (.or (.cmp .eq (.var 2) (.int 0)) (.or (.not (.bcall .isi (.cons (.var 1) (.cons (.ty "tuple") .nil)))) (.or (.cmp .eq (.var 1) (.tup .nil)) (.cmp .eq (.call "_law_take" (.cons (.var 0) (.cons (.int 5) .nil))) (.int 0))))) (.seq (.ret (.call "_law_odd" (.cons (.var 0) (.cons (.var 1) .nil)))) .nil) .nil) (.seq (.set 3 (.call "_law_take" (.cons (.var 0) (.cons (.bcall .len (.cons (.var 1) .nil)) .nil)))) (.seq (.ret (.bin .add (.bin .add (.sl (.var 1) .nil (.cons (.var 3) .nil)) (.tup (.cons (.call "_law_bent" (.cons (.var 0) (.cons (.idx (.var 1) (.var 3)) (.cons (.bin .sub (.var 2) (.int 1)) .nil)))) .nil))) (.sl (.var 1) (.cons (.bin .add (.var 3) (.int 1)) .nil) .nil))) .nil)))⟩
def lclawisword1e : E := (.cmp .inn (.var 1) (.str [97, 98, 99, 100, 101, 102, 103, 104, 105, 106, 107, 108, 109, 110, 111, 112, 113, 114, 115, 116, 117, 118, 119, 120, 121, 122]))
def lclawisword1 : E := .lc .seq [1] false [("_law_sign", 1)] (.cons (.var 0) .nil) .nil lclawisword1e
def dlawisword : Df := ⟨["_law_thing"], ["_law_thing", "_law_sign"], (.seq (.ite (.or (.not (.bcall .isi (.cons (.var 0) (.cons (.ty "str") .nil)))) (.not (.chain .le .le (.int 1) (.bcall .len (.cons (.var 0) .nil)) (.int 8)))) (.seq (.ret (.bool false)) .nil) .nil) (.seq (.ret (.bcall .all (.cons lclawisword1 .nil))) .nil))⟩
def lplawdue1b : S := (.seq (.ite (.or (.not (.bcall .isi (.cons (.var 1) (.cons (.ty "int") .nil)))) (.or (.bcall .isi (.cons (.var 1) (.cons (.ty "bool") .nil))) (.not (.chain .le .le (.int 0) (.var 1) (.int 5))))) (.seq (.ret (.bool false)) .nil) .nil) .nil)
def lplawdue1 : S := .loop .seq [1] false (.cons (.var 3) .nil) lplawdue1b
def dlawdue : Df := ⟨["_law_thing"], ["_law_thing", "_law_place", "_law_word", "_law_skipped", "_law_under"], (.seq (.ite (.or (.not (.bcall .isi (.cons (.var 0) (.cons (.ty "tuple") .nil)))) (.or (.cmp .ne (.bcall .len (.cons (.var 0) .nil)) (.int 3)) (.not (.bcall .isi (.cons (.idx (.var 0) (.int 0)) (.cons (.ty "str") .nil)))))) (.seq (.ret (.bool false)) .nil) .nil) (.seq (.asg [2, 3, 4] (.var 0)) (.seq (.ite (.or (.cmp .notin (.var 2) (.tup (.cons (.str [102, 105, 114, 115, 116]) (.cons (.str [111, 110, 108, 121]) .nil)))) (.not (.bcall .isi (.cons (.var 3) (.cons (.ty "tuple") .nil))))) (.seq (.ret (.bool false)) .nil) .nil) (.seq lplawdue1 (.seq (.ite (.cmp .ne (.bcall .list (.cons (.var 3) .nil)) (.sset (.var 3))) (.seq (.ret (.bool false)) .nil) .nil) (.seq (.ret (.and (.bcall .isi (.cons (.var 4) (.cons (.ty "str") .nil))) (.or (.cmp .eq (.var 4) (.str [])) (.call "_law_is_word" (.cons (.var 4) .nil))))) .nil))))))⟩
def dlawrule : Df := ⟨["_law_pot_here"], ["_law_pot_here", "_law_word", "_law_some", "_law_skipped"], (.seq (.set 1 (.call "_law_of" (.cons (.var 0) (.cons (.lst false (.cons (.str [102, 105, 114, 115, 116]) (.cons (.str [102, 105, 114, 115, 116]) (.cons (.str [111, 110, 108, 121]) (.cons (.str [111, 110, 108, 121]) (.cons (.str [108, 97, 115, 116]) (.cons (.str []) (.cons .non .nil)))))))) .nil)))) (.seq (.set 2 (.lst false (.cons (.tup .nil) (.cons (.tup (.cons (.int 0) .nil)) (.cons (.tup (.cons (.int 1) (.cons (.int 3) .nil))) (.cons (.tup (.cons (.int 0) (.cons (.int 1) (.cons (.int 2) (.cons (.int 3) (.cons (.int 4) (.cons (.int 5) .nil))))))) (.cons (.tup (.cons (.int 5) .nil)) (.cons (.tup (.cons (.int 6) .nil)) (.cons (.tup (.cons (.neg (.int 1)) .nil)) (.cons (.tup (.cons (.int 1) (.cons (.int 0) .nil))) (.cons (.tup (.cons (.int 2) (.cons (.int 2) .nil))) (.cons (.tup (.cons (.bool true) .nil)) (.cons (.lst false (.cons (.int 0) .nil)) (.cons (.tup (.cons (.str [48]) .nil)) .nil)))))))))))))) (.seq (.set 3 (.call "_law_of" (.cons (.var 0) (.cons (.var 2) .nil)))) (.seq (.ret (.tup (.cons (.var 1) (.cons (.var 3) (.cons (.call "_law_of" (.cons (.var 0) (.cons (.lst false (.cons (.str []) (.cons (.str []) (.cons (.str [115, 101, 99]) (.cons (.str [122, 122, 122, 122, 122, 122, 122, 122]) (.cons (.str [122, 122, 122, 122, 122, 122, 122, 122, 122]) (.cons (.str [83]) (.cons (.str [97, 32, 98]) (.cons (.str [97, 49]) (.cons .non (.cons (.int 0) .nil))))))))))) .nil))) .nil))))) .nil))))⟩
def lplawright1b : S := (.seq (.par [3, 4] (.cons (.bcall .repr (.cons (.var 2) .nil)) (.cons (.call "_law_due" (.cons (.var 2) .nil)) .nil))) (.seq (.ite (.or (.cmp .ne (.bcall .repr (.cons (.lst false (.cons (.call "is_rule" (.cons (.var 2) .nil)) (.cons (.callk "is_rule" "value" (.var 2)) .nil))) .nil)) (.bcall .repr (.cons (.lst false (.cons (.var 4) (.cons (.var 4) .nil))) .nil))) (.cmp .ne (.bcall .repr (.cons (.var 2) .nil)) (.var 3))) (.seq (.ret (.bool false)) .nil) .nil) .nil))
def lplawright1 : S := .loop .seq [2] false (.cons (.tup (.cons (.var 1) (.cons (.call "_law_bent" (.cons (.var 0) (.cons (.var 1) (.cons (.int 2) .nil)))) (.cons (.call "_law_bent" (.cons (.var 0) (.cons (.tup (.cons (.str [102, 105, 114, 115, 116]) (.cons (.tup (.cons (.int 0) (.cons (.int 2) .nil))) (.cons (.str [120]) .nil)))) (.cons (.int 2) .nil)))) .nil)))) .nil) lplawright1b
def dlawright : Df := ⟨["_law_pot_here"], ["_law_pot_here", "_law_rule_here", "_law_thing", "_law_kept", "_law_due_here"], (.seq (.set 1 (.call "_law_rule" (.cons (.var 0) .nil))) (.seq lplawright1 (.seq (.ret (.bool true)) .nil)))⟩
def lclaw1e : E := (.call "_law_right" (.cons (.var 2) .nil))
def lclaw1 : E := .lc .range1 [3] false [("_law_turn", 3)] (.cons (.int 20) .nil) .nil lclaw1e
def lplaw2b : S := (.seq (.set 2 (.call "_law_pot" (.cons (.var 0) (.cons (.var 1) .nil)))) (.seq (.ite (.not (.bcall .all (.cons lclaw1 .nil))) (.seq (.ret (.bool false)) .nil) .nil) .nil))
def lplaw2 : S := .loop .range1 [1] false (.cons (.bcall .max (.cons (.int 1) (.cons (.bcall .min (.cons (.int 3) (.cons (.bcall .len (.cons (.var 0) .nil)) .nil))) .nil))) .nil) lplaw2b
def dlaw : Df := ⟨["_law_script"], ["_law_script", "_law_k", "_law_pot_here", "_law_turn"], (.seq lplaw2 (.seq (.ret (.bool true)) .nil))⟩
def tabT : List Tx := [⟨"is_integer", top 5, disinteger⟩,
  ⟨"is_word", top 6, disword⟩,
  ⟨"is_tuple_of", top 7, distupleof⟩,
  ⟨"rises", top 8, drises⟩,
  ⟨"is_place", top 12, displace⟩,
  ⟨"is_rule", top 13, disrule⟩,
  ⟨"_law_pot", top 15, dlawpot⟩,
  ⟨"_law_take", top 16, dlawtake⟩,
  ⟨"_law_of", top 17, dlawof⟩,
  ⟨"_law_odd", top 18, dlawodd⟩,
  ⟨"_law_bent", top 19, dlawbent⟩,
  ⟨"_law_is_word", top 20, dlawisword⟩,
  ⟨"_law_due", top 21, dlawdue⟩,
  ⟨"_law_rule", top 22, dlawrule⟩,
  ⟨"_law_right", top 23, dlawright⟩,
  ⟨"law", top 24, dlaw⟩]
def gM : Gs := ⟨["isinstance", "bool", "int", "all", "len", "str", "tuple", "zip", "abs", "list", "sorted", "set", "repr", "range", "max", "min"],
  [("is_integer", ["value"]), ("is_word", ["value"]), ("is_tuple_of", ["value", "look"]), ("rises", ["members"]), ("is_place", ["value"]), ("is_rule", ["value"]), ("_law_pot", ["_law_script", "_law_k"]), ("_law_take", ["_law_pot_here", "_law_upto"]), ("_law_of", ["_law_pot_here", "_law_some"]), ("_law_odd", ["_law_pot_here", "_law_thing"]), ("_law_bent", ["_law_pot_here", "_law_thing", "_law_deep"]), ("_law_is_word", ["_law_thing"]), ("_law_due", ["_law_thing"]), ("_law_rule", ["_law_pot_here"]), ("_law_right", ["_law_pot_here"]), ("law", ["_law_script"])],
  [("LETTERS", .str [97, 98, 99, 100, 101, 102, 103, 104, 105, 106, 107, 108, 109, 110, 111, 112, 113, 114, 115, 116, 117, 118, 119, 120, 121, 122]), ("MOST_LETTERS", .int 8), ("MOST_PLACE", .int 5), ("is_place", .glo "is_place"), ("ONLY", .str [111, 110, 108, 121]), ("FIRST", .str [102, 105, 114, 115, 116]), ("RULE_PARTS", .int 3)]⟩
theorem chk : tabT.all (ckTx gM) = true := by decide +kernel
end K25

set_option maxRecDepth 100000
set_option maxHeartbeats 1000000
/-! running the small language by simp: the head first -/
namespace Mi
open PySem PySem.Spec L2
theorem bind_hd {α β : Type} {r r' : R α} {f : α → Sto → R β} (h : r = r') : r.bind f = r'.bind f := by rw [h]
theorem andS_hd {α : Type} {r r' : R α} {en : En} {f : α → Sto → RS} (h : r = r') : r.andS en f = r'.andS en f := by rw [h]
theorem more_hd {r r' : RS} {f : En → Sto → RS} (h : r = r') : r.more f = r'.more f := by rw [h]
theorem turn_hd {r r' : RS} {f : En → Sto → RS} (h : r = r') : r.turn f = r'.turn f := by rw [h]
theorem lc_hd {is : List Nat} {un : Bool} {cond : En → Sto → R Bool} {elt : En → Sto → R D} {xs xs' : List D} {en en' : En} {st st' : Sto} {acc : List D} (h1 : xs = xs') (h2 : en = en') (h3 : st = st') : lcRun is un cond elt xs en st acc = lcRun is un cond elt xs' en' st' acc := by rw [h1, h2, h3]
theorem for_hd {is : List Nat} {un : Bool} {body : En → Sto → RS} {xs xs' : List D} {en en' : En} {st st' : Sto} (h1 : xs = xs') (h2 : en = en') (h3 : st = st') : forRun is un body xs en st = forRun is un body xs' en' st' := by rw [h1, h2, h3]
theorem whl_hd {cond : En → Sto → R Bool} {body : En → Sto → RS} {n : Nat} {en en' : En} {st st' : Sto} (h2 : en = en') (h3 : st = st') : whlRun cond body n en st = whlRun cond body n en' st' := by rw [h2, h3]
theorem modD_ok {i j : Int} (st : Sto) (h : 0 < j) : modD (.int i) (.int j) st = .ok (.int (i % j)) st := if_pos h
theorem divD_ok {i j : Int} (st : Sto) (h : 0 < j) (h2 : j < 1073741824) : divD (.int i) (.int j) st = .ok (.int (i / j)) st := if_pos ⟨h, h2⟩
theorem mulD_l {i j : Int} (st : Sto) (h : i.natAbs < 2 ^ 64) : mulD (.int i) (.int j) st = .ok (.int (i * j)) st := if_pos (.inl h)
theorem mulD_r {i j : Int} (st : Sto) (h : j.natAbs < 2 ^ 64) : mulD (.int i) (.int j) st = .ok (.int (i * j)) st := if_pos (.inr h)
theorem addD_i (i j : Int) (st : Sto) : addD (.int i) (.int j) st = .ok (.int (i + j)) st := rfl
theorem subD_i (i j : Int) (st : Sto) : subD (.int i) (.int j) st = .ok (.int (i - j)) st := rfl
theorem tru_b (b : Bool) (st : Sto) : tru (.ok (.bl b) st) = .ok b st := rfl
theorem idx_l {d : D} {st : Sto} {ds : List D} {k : Int} {x : D} (h : itemsOf d st = some ds) (e : L2.atI ds k = some x) : idxD d (.int k) st = .ok x st := by
  unfold idxD
  rw [h]
  simp only [e]
theorem store_l {n : Nat} {st : Sto} {ds : List D} {k : Int} {j : Nat} (v : D) (h : st[n]? = some (.lst ds)) (hj : L2.ixN ds.length k = some j) : storeD (.loc n) (.int k) v st = some (st.set n (.lst (ds.set j v))) := by
  simp only [storeD, h, hj]
theorem powD_ok {i j : Int} (st : Sto) (h : 0 ≤ j) (h2 : (i.natAbs.log2 + 1) * j.toNat ≤ 134217728) : powD (.int i) (.int j) st = .ok (.int (i ^ j.toNat)) st := if_pos ⟨h, h2⟩
theorem log2_lt {n k : Nat} (h : n < 2 ^ k) : n.log2 < k ∨ n = 0 := by
  by_cases e : n = 0
  · exact .inr e
  · exact .inl ((Nat.log2_lt e).mpr h)
theorem set_get {st : Sto} {n : Nat} {b c : Ob} (h : st[n]? = some c) : (st.set n b)[n]? = some b := List.getElem?_set_self (List.getElem?_eq_some_iff.mp h).1
theorem items_set {st : Sto} {n : Nat} {ds : List D} {c : Ob} (h : st[n]? = some c) : itemsOf (.loc n) (st.set n (.lst ds)) = some ds := by
  simp only [itemsOf, set_get h]

/-- a comprehension whose parts change nothing -/
theorem lc_map {is : List Nat} {un : Bool} {cond : En → Sto → R Bool} {elt : En → Sto → R D} {en : En} {st : Sto} (f : D → D) (hc : ∀ en st, cond en st = .ok true st) :
    ∀ (xs acc : List D), (∀ x ∈ xs, ∃ en', setT is un x en = some en' ∧ elt en' st = .ok (f x) st) → acc.length + xs.length ≤ sz → lcRun is un cond elt xs en st acc = .ok (acc ++ xs.map f) st
  | [], acc, _, _ => by simp [lcRun]
  | x :: xs, acc, h, hl => by
    obtain ⟨en', e1, e2⟩ := h x (by simp)
    unfold lcRun
    rw [List.length_cons] at hl
    simp only [e1, hc, R.bind_ok, e2]
    rw [if_pos (by omega), lc_map f hc xs (acc ++ [f x]) (fun y hy => h y (List.mem_cons_of_mem _ hy)) (by rw [List.length_append, List.length_cons, List.length_nil]; omega), List.map_cons, List.append_assoc]
    rfl
theorem all_map (f : D → Bool) (ds : List D) (st : Sto) : allD [.lst (ds.map fun d => .bl (f d))] st = .ok (.bl (ds.all f)) st := by
  have e : (ds.map fun d => D.bl (f d)) = (ds.map f).map D.bl := by rw [List.map_map]; rfl
  simp only [allD, e, boolsOf_map, List.all_map]
  rfl

theorem ev_lc_of {G : Gs} {C : Call} {k : Ik} {is : List Nat} {un : Bool} {own : List (Str × Nat)} {src cond elt : E} {en : En} {st st1 st2 : Sto} {ds xs r : List D} (hs : evs G C src en st = .ok ds st1) (hw : walkOf k ds = some xs)
    (hl : lcRun is un (evc G C cond) (ev G C elt) xs (wipeE en (own.map (·.2))) st1 [] = .ok r st2) : ev G C (.lc k is un own src cond elt) en st = .ok (.lst r) st2 := by
  simp only [ev, hs, R.bind_ok, hw]
  rw [hl]
  rfl
theorem ex_loop_of {G : Gs} {C : Call} {k : Ik} {is : List Nat} {un : Bool} {src : E} {b : S} {en : En} {st st1 : Sto} {ds xs : List D} (hs : evs G C src en st = .ok ds st1) (hw : walkOf k ds = some xs) :
    ex G C (.loop k is un src b) en st = forRun is un (ex G C b) xs en st1 := by
  simp only [ex, hs, R.andS_ok, hw]
end Mi

set_option maxRecDepth 100000
set_option maxHeartbeats 1000000
/-! small plain data: what can be shown -/
namespace Mi
open PySem PySem.Spec PyProof.Rows L2
mutual
def pl : D → Bool
  | .non => true
  | .bl _ => true
  | .int i => decide (-9 ≤ i) && decide (i ≤ 9)
  | .str s => s.all fun c => decide (c < 128)
  | .tup ds => pls ds
  | .lst ds => pls ds
  | .dct ks _ => ks.isEmpty
  | _ => false
def pls : List D → Bool
  | [] => true
  | d :: ds => pl d && pls ds
end
mutual
def wt : D → Nat
  | .str s => 10 * s.length + 2
  | .tup ds => 8 + wts ds
  | .lst ds => 8 + wts ds
  | _ => 8
def wts : List D → Nat
  | [] => 0
  | d :: ds => wt d + 2 + wts ds
end
mutual
def dp : D → Nat
  | .tup ds => dps ds + 1
  | .lst ds => dps ds + 1
  | .dct _ _ => 1
  | _ => 0
def dps : List D → Nat
  | [] => 0
  | d :: ds => max (dp d) (dps ds)
end
theorem pls_mem {ds : List D} (h : pls ds = true) {d : D} (hd : d ∈ ds) : pl d = true := by
  induction ds with
  | nil => cases hd
  | cons a r ih =>
    unfold pls at h
    rw [Bool.and_eq_true] at h
    rcases List.mem_cons.mp hd with e | hd
    · rw [e]; exact h.1
    · exact ih h.2 hd
theorem pls_all {ds : List D} (h : ∀ d ∈ ds, pl d = true) : pls ds = true := by
  induction ds with
  | nil => rfl
  | cons a r ih =>
    unfold pls
    rw [h a (by simp), ih fun d hd => h d (List.mem_cons_of_mem _ hd)]
    rfl
theorem pls_app {a b : List D} : pls (a ++ b) = (pls a && pls b) := by
  induction a with
  | nil => rfl
  | cons x r ih => simp only [List.cons_append, pls, ih, Bool.and_assoc]
theorem wts_app (a b : List D) : wts (a ++ b) = wts a + wts b := by
  induction a with
  | nil => simp [wts]
  | cons x r ih => simp only [List.cons_append, wts, ih]; omega
theorem wts_mem {ds : List D} {d : D} (hd : d ∈ ds) : wt d + 2 ≤ wts ds := by
  induction ds with
  | nil => cases hd
  | cons a r ih =>
    unfold wts
    rcases List.mem_cons.mp hd with e | hd
    · rw [e]; omega
    · have := ih hd; omega
theorem wts_take (ds : List D) (n : Nat) : wts (ds.take n) ≤ wts ds := by
  have := wts_app (ds.take n) (ds.drop n)
  rw [List.take_append_drop] at this
  omega
theorem wts_drop (ds : List D) (n : Nat) : wts (ds.drop n) ≤ wts ds := by
  have := wts_app (ds.take n) (ds.drop n)
  rw [List.take_append_drop] at this
  omega
theorem pls_take {ds : List D} (h : pls ds = true) (n : Nat) : pls (ds.take n) = true := pls_all fun d hd => pls_mem h (List.mem_of_mem_take hd)
theorem pls_drop {ds : List D} (h : pls ds = true) (n : Nat) : pls (ds.drop n) = true := pls_all fun d hd => pls_mem h (List.mem_of_mem_drop hd)
theorem dps_le {ds : List D} {q : Nat} : dps ds ≤ q ↔ ∀ d ∈ ds, dp d ≤ q := by
  induction ds with
  | nil => simp [dps]
  | cons a r ih =>
    unfold dps
    rw [Nat.max_le, ih]
    constructor
    · rintro ⟨h1, h2⟩ d hd
      rcases List.mem_cons.mp hd with e | hd
      · rw [e]; exact h1
      · exact h2 d hd
    · exact fun h => ⟨h a (by simp), fun d hd => h d (List.mem_cons_of_mem _ hd)⟩
theorem length_le_wts (ds : List D) : 2 * ds.length ≤ wts ds := by
  induction ds with
  | nil => simp [wts]
  | cons a r ih => unfold wts; rw [List.length_cons]; omega
theorem int_shown {i : Int} (h : -9 ≤ i) (h2 : i ≤ 9) : (PyData.shown (.int i)).length ≤ 8 := by
  have : i = -9 ∨ i = -8 ∨ i = -7 ∨ i = -6 ∨ i = -5 ∨ i = -4 ∨ i = -3 ∨ i = -2 ∨ i = -1 ∨ i = 0 ∨ i = 1 ∨ i = 2 ∨ i = 3 ∨ i = 4 ∨ i = 5 ∨ i = 6 ∨ i = 7 ∨ i = 8 ∨ i = 9 := by omega
  rcases this with e | e | e | e | e | e | e | e | e | e | e | e | e | e | e | e | e | e | e <;> (rw [e]; decide +kernel)
theorem listText_le (ts : List Str) : (listText ts).length ≤ piled ts + 2 := by
  cases ts with
  | nil => decide +kernel
  | cons t r =>
    unfold listText
    rw [strLen_append]
    have e : textFrom 0 "[" (t :: r) = textFrom 1 (("[" : Str) ++ ("" : Str) ++ t) r := rfl
    rw [e, textFrom_length_pos r 1 _ (by decide), strLen_append, strLen_append, piled_cons]
    have e1 : (("[" : String) : Str).length = 1 := rfl
    have e2 : (("" : String) : Str).length = 0 := rfl
    have e3 : (("]" : String) : Str).length = 1 := rfl
    rw [e1, e2, e3]
    omega
theorem tupleText_le (ts : List Str) : (tupleText ts).length ≤ piled ts + 3 := by
  unfold tupleText
  rw [strLen_append, strLen_append]
  have e1 : (("(" : String) : Str).length = 1 := rfl
  have e3 : (((if ts.length == 1 then ",)" else ")" : String) : Str)).length ≤ 2 := by split <;> decide
  have e2 : (Str.join ", " ts).length ≤ piled ts := by
    by_cases h : ts = []
    · subst h; decide
    · have := join_length_add ts h; omega
  rw [e1]
  omega
mutual
theorem py_ok : ∀ d : D, pl d = true → ∃ p, pyOf d = some p ∧ p.showable = true ∧ p.depth = dp d ∧ p.shown.length ≤ wt d
  | .non, _ => ⟨.none, rfl, rfl, rfl, by decide +kernel⟩
  | .bl b, _ => ⟨.bool b, rfl, rfl, rfl, by cases b <;> decide +kernel⟩
  | .int i, h => by
    simp only [pl, Bool.and_eq_true, decide_eq_true_eq] at h
    refine ⟨.int i, rfl, ?_, rfl, int_shown h.1 h.2⟩
    simp only [PyData.showable, decide_eq_true_eq]
    have q : i.natAbs < 2 ^ 4 := by omega
    rcases log2_lt q with z | z
    · omega
    · rw [z]; decide
  | .str s, h => by
    refine ⟨.str ⟨s.toArray⟩, rfl, rfl, rfl, ?_⟩
    simp only [pl, List.all_eq_true, decide_eq_true_eq] at h
    have := PySem.StrLaws.reprText_len ⟨s.toArray⟩ (fun c hc => by
      have := h c (by simpa using hc)
      omega)
    rw [str_len] at this
    exact this
  | .tup ds, h => by
    obtain ⟨ps, e, h1, h2, h3⟩ := pys_ok ds h
    refine ⟨.tuple ps, by unfold pyOf; rw [e]; rfl, h1, by show _ + 1 = _ + 1; rw [h2], ?_⟩
    have := tupleText_le (PyData.shownAll ps)
    show (tupleText (PyData.shownAll ps)).length ≤ 8 + wts ds
    omega
  | .lst ds, h => by
    obtain ⟨ps, e, h1, h2, h3⟩ := pys_ok ds h
    refine ⟨.list ps, by unfold pyOf; rw [e]; rfl, h1, by show _ + 1 = _ + 1; rw [h2], ?_⟩
    have := listText_le (PyData.shownAll ps)
    show (listText (PyData.shownAll ps)).length ≤ 8 + wts ds
    omega
  | .dct [] vs, _ => ⟨.dict [], rfl, rfl, rfl, by show (PyData.shown (.dict [])).length ≤ 8; decide +kernel⟩
  | .dct (_ :: _) _, h => by simp [pl] at h
  | .fro _, h => by simp [pl] at h
  | .loc _, h => by simp [pl] at h
  | .glo _, h => by simp [pl] at h
  | .ty _, h => by simp [pl] at h
theorem pys_ok : ∀ ds : List D, pls ds = true → ∃ ps, pyOfs ds = some ps ∧ PyData.showableAll ps = true ∧ PyData.depthAll ps = dps ds ∧ piled (PyData.shownAll ps) ≤ wts ds
  | [], _ => ⟨[], rfl, rfl, rfl, by decide⟩
  | d :: ds, h => by
    unfold pls at h
    rw [Bool.and_eq_true] at h
    obtain ⟨p, e, h1, h2, h3⟩ := py_ok d h.1
    obtain ⟨ps, es, g1, g2, g3⟩ := pys_ok ds h.2
    refine ⟨p :: ps, by unfold pyOfs; rw [e, es], by show (p.showable && PyData.showableAll ps) = true; rw [h1, g1]; rfl, by show max p.depth (PyData.depthAll ps) = max (dp d) (dps ds); rw [h2, g2], ?_⟩
    show piled (p.shown :: PyData.shownAll ps) ≤ wt d + 2 + wts ds
    rw [piled_cons]
    omega
end
theorem shown_ok {d : D} (h : pl d = true) (hw : wt d ≤ 1000000) (hd : dp d ≤ 40) : ∃ x, shownD d = some x := by
  obtain ⟨p, e, h1, h2, h3⟩ := py_ok d h
  refine ⟨p.shown.cps.toList, ?_⟩
  unfold shownD
  rw [e]
  exact if_pos ⟨h1, by omega, by show _ ≤ 16777216; omega⟩

def isT : D → Bool
  | .tup _ => true
  | _ => false
def isS : D → Bool
  | .str _ => true
  | _ => false
theorem isi_t {d : D} (st : Sto) (h : pl d = true) : isiD [d, .ty "tuple"] st = .ok (.bl (isT d)) st := by cases d <;> first | rfl | (simp [pl] at h; done)
theorem isi_str {d : D} (st : Sto) (h : pl d = true) : isiD [d, .ty "str"] st = .ok (.bl (isS d)) st := by cases d <;> first | rfl | (simp [pl] at h; done)
end Mi

set_option maxRecDepth 100000
set_option maxHeartbeats 4000000
/-! what is wanted of a run of the small language, step by step -/
namespace Mi
open PySem PySem.Spec L2

def Wp {α : Type} (r : R α) (Q : α → Sto → Prop) (X : Ex → Sto → Prop) : Prop := match r with
  | .ok a st => Q a st
  | .exc x st => X x st
  | .bad => False
def Ws (r : RS) (Q : Fl → Sto → Prop) (X : Ex → En → Sto → Prop) : Prop := match r with
  | .ok f st => Q f st
  | .exc x en st => X x en st
  | .bad => False
/-- a test's answer -/
def TruQ (x : D) (st : Sto) (P : Bool → Prop) : Prop := ∃ k, truthD x st = some k ∧ P k
def IfQ (k : Bool) (A B : Prop) : Prop := (k = true → A) ∧ (k = false → B)
theorem tq_of {x : D} {st : Sto} {P : Bool → Prop} {k : Bool} (e : truthD x st = some k) (q : P k) : TruQ x st P := ⟨k, e, q⟩
theorem tq_bl {b : Bool} {st : Sto} {P : Bool → Prop} (q : P b) : TruQ (.bl b) st P := ⟨b, rfl, q⟩
theorem tq_int {i : Int} {st : Sto} {P : Bool → Prop} (q : P (i != 0)) : TruQ (.int i) st P := ⟨_, rfl, q⟩
theorem tq_tup {ds : List D} {st : Sto} {P : Bool → Prop} (q : P (!ds.isEmpty)) : TruQ (.tup ds) st P := ⟨_, rfl, q⟩
theorem tq_lst {ds : List D} {st : Sto} {P : Bool → Prop} (q : P (!ds.isEmpty)) : TruQ (.lst ds) st P := ⟨_, rfl, q⟩
theorem tq_non {st : Sto} {P : Bool → Prop} (q : P false) : TruQ .non st P := ⟨_, rfl, q⟩
theorem if_t {A B : Prop} (a : A) : IfQ true A B := ⟨fun _ => a, fun z => Bool.noConfusion z⟩
theorem if_f {A B : Prop} (b : B) : IfQ false A B := ⟨fun z => Bool.noConfusion z, fun _ => b⟩
theorem if_n {k : Bool} {A B : Prop} (q : IfQ k B A) : IfQ (!k) A B := ⟨fun z => q.2 (by cases k <;> first | rfl | cases z), fun z => q.1 (by cases k <;> first | rfl | cases z)⟩
theorem if_d {p : Prop} [Decidable p] {A B : Prop} (a : p → A) (b : ¬ p → B) : IfQ (decide p) A B := ⟨fun z => a (of_decide_eq_true z), fun z => b (of_decide_eq_false z)⟩
theorem if_eq {i j : Int} {A B : Prop} (a : i = j → A) (b : i ≠ j → B) : IfQ (i == j) A B := ⟨fun z => a (beq_iff_eq.mp z), fun z => b (beq_eq_false_iff_ne.mp z)⟩
theorem if_ne {i j : Int} {A B : Prop} (a : i ≠ j → A) (b : i = j → B) : IfQ (i != j) A B := if_n (if_eq b a)
theorem if_b {k : Bool} {A B : Prop} (a : k = true → A) (b : k = false → B) : IfQ k A B := ⟨a, b⟩
theorem if_bt {k : Bool} {A B : Prop} (e : k = true) (a : A) : IfQ k A B := ⟨fun _ => a, fun z => Bool.noConfusion (e.symm.trans z)⟩
theorem if_bf {k : Bool} {A B : Prop} (e : k = false) (b : B) : IfQ k A B := ⟨fun z => Bool.noConfusion (e.symm.trans z), fun _ => b⟩
theorem if_dt {p : Prop} [Decidable p] {A B : Prop} (h : p) (a : A) : IfQ (decide p) A B := if_bt (decide_eq_true h) a
theorem if_df {p : Prop} [Decidable p] {A B : Prop} (h : ¬ p) (b : B) : IfQ (decide p) A B := if_bf (decide_eq_false h) b
theorem if_et {i j : Int} {A B : Prop} (e : i = j) (a : A) : IfQ (i == j) A B := if_bt (beq_iff_eq.mpr e) a
theorem if_en {i j : Int} {A B : Prop} (e : i ≠ j) (b : B) : IfQ (i == j) A B := if_bf (beq_eq_false_iff_ne.mpr e) b
theorem if_nt {i j : Int} {A B : Prop} (e : i = j) (b : B) : IfQ (i != j) A B := if_n (if_et e b)
theorem if_nn {i j : Int} {A B : Prop} (e : i ≠ j) (a : A) : IfQ (i != j) A B := if_n (if_en e a)
theorem IfQ.t {k : Bool} {A B : Prop} (h : IfQ k A B) (e : k = true) : A := h.1 e
theorem IfQ.f {k : Bool} {A B : Prop} (h : IfQ k A B) (e : k = false) : B := h.2 e
def IntQ (r : D) (P : Int → Prop) : Prop := ∃ k, r = .int k ∧ P k
theorem iq_int {b : Int} {P : Int → Prop} (q : P b) : IntQ (.int b) P := ⟨b, rfl, q⟩
def SoQ {α : Type} (o : Option α) (P : α → Prop) : Prop := ∃ a, o = some a ∧ P a
theorem so_of {α : Type} {o : Option α} {P : α → Prop} {a : α} (e : o = some a) (q : P a) : SoQ o P := ⟨a, e, q⟩
theorem so_some {α : Type} {P : α → Prop} {a : α} (q : P a) : SoQ (some a) P := ⟨a, rfl, q⟩
def ChQ (r : D) (P : Bool → Prop) : Prop := ∃ k, r = .bl k ∧ P k
theorem cq_bl {b : Bool} {P : Bool → Prop} (q : P b) : ChQ (.bl b) P := ⟨b, rfl, q⟩
/-- nothing is raised -/
abbrev noX : Ex → Sto → Prop := fun _ _ => False
section
variable {α β : Type} {r : R α} {Q Q' : α → Sto → Prop} {X X' : Ex → Sto → Prop} {G : Gs} {C : Call} {en : En} {st st1 : Sto}
theorem Wp.ok {a : α} (e : r = .ok a st1) (q : Q a st1) : Wp r Q X := by rw [e]; exact q
theorem ok_b2 {o : B2} {x y a : D} {Q : D → Sto → Prop} (e : b2 o x y st = .ok a st1) (q : Q a st1) : Wp (b2 o x y st) Q X := Wp.ok e q
theorem ok_c2 {o : C2} {x y a : D} {Q : D → Sto → Prop} (e : c2 o x y st = .ok a st1) (q : Q a st1) : Wp (c2 o x y st) Q X := Wp.ok e q
theorem ok_bf {o : Bf} {ds : List D} {a : D} {Q : D → Sto → Prop} (e : bf o ds st = .ok a st1) (q : Q a st1) : Wp (bf o ds st) Q X := Wp.ok e q
theorem ok_neg {x a : D} {Q : D → Sto → Prop} (e : negD x st = .ok a st1) (q : Q a st1) : Wp (negD x st) Q X := Wp.ok e q
theorem ok_rev {x a : D} {Q : D → Sto → Prop} (e : revD x st = .ok a st1) (q : Q a st1) : Wp (revD x st) Q X := Wp.ok e q
theorem ok_sset {x a : D} {Q : D → Sto → Prop} (e : ssetD x st = .ok a st1) (q : Q a st1) : Wp (ssetD x st) Q X := Wp.ok e q
theorem ok_upper {x a : D} {Q : D → Sto → Prop} (e : upperD x st = .ok a st1) (q : Q a st1) : Wp (upperD x st) Q X := Wp.ok e q
theorem ok_idx {x y a : D} {Q : D → Sto → Prop} (e : idxD x y st = .ok a st1) (q : Q a st1) : Wp (idxD x y st) Q X := Wp.ok e q
theorem ok_sl {x a : D} {l u : Option Int} {Q : D → Sto → Prop} (e : slD x l u st = .ok a st1) (q : Q a st1) : Wp (slD x l u st) Q X := Wp.ok e q
theorem ok_aug {o : B2} {x y a : D} {Q : D → Sto → Prop} (e : aug2 o x y st = .ok a st1) (q : Q a st1) : Wp (aug2 o x y st) Q X := Wp.ok e q
theorem Wp.exc {x : Ex} (e : r = .exc x st1) (q : X x st1) : Wp r Q X := by rw [e]; exact q
theorem Wp.mono (h : Wp r Q' X') (q : ∀ a st, Q' a st → Q a st) (x : ∀ y st, X' y st → X y st) : Wp r Q X := by
  cases r with
  | ok a st => exact q _ _ h
  | exc y st => exact x _ _ h
  | bad => exact h
theorem Wp.to (h : Wp r Q' noX) (q : ∀ a st, Q' a st → Q a st) : Wp r Q X := h.mono q fun _ _ z => z.elim
theorem Wp.ok_inv (h : Wp r Q noX) : ∃ a st, r = .ok a st ∧ Q a st := by
  cases r with
  | ok a st => exact ⟨a, st, rfl, h⟩
  | exc y st => exact h.elim
  | bad => exact h.elim
theorem Wp.bind {f : α → Sto → R β} {Q : β → Sto → Prop} (h : Wp r (fun a st => Wp (f a st) Q X) X) : Wp (r.bind f) Q X := by
  cases r <;> exact h
theorem Wp.andS {f : α → Sto → RS} {Q : Fl → Sto → Prop} {X : Ex → En → Sto → Prop} (h : Wp r (fun a st => Ws (f a st) Q X) (fun x st => X x en st)) : Ws (r.andS en f) Q X := by
  cases r <;> exact h
theorem Wp.shut_ {X' : Ex → Sto → Prop} (h : Wp r Q noX) : Wp (shut r) Q X' := by
  cases r with
  | ok a st => exact h
  | exc y st => exact h.elim
  | bad => exact h.elim
theorem Wp.tru {r : R D} {Q : Bool → Sto → Prop} (h : Wp r (fun d st => TruQ d st fun b => Q b st) X) : Wp (tru r) Q X := by
  cases r with
  | ok d st =>
    obtain ⟨b, e, q⟩ := h
    show Wp (match truthD d st with | some b => R.ok b st | none => R.bad) Q X
    rw [e]; exact q
  | exc y st => exact h
  | bad => exact h
def SqQ (N : En → Sto → Prop) (Q : Fl → Sto → Prop) : Fl → Sto → Prop
  | .nx en, st => N en st
  | fl, st => Q fl st
theorem sqq_nx {N : En → Sto → Prop} {Q : Fl → Sto → Prop} {en : En} {st : Sto} (q : N en st) : SqQ N Q (.nx en) st := q
theorem sqq_rt {N : En → Sto → Prop} {Q : Fl → Sto → Prop} {v : D} {st : Sto} (q : Q (.rt v) st) : SqQ N Q (.rt v) st := q
theorem sqq_bk {N : En → Sto → Prop} {Q : Fl → Sto → Prop} {v : En} {st : Sto} (q : Q (.bk v) st) : SqQ N Q (.bk v) st := q
theorem sqq_ct {N : En → Sto → Prop} {Q : Fl → Sto → Prop} {v : En} {st : Sto} (q : Q (.ct v) st) : SqQ N Q (.ct v) st := q
theorem Ws.more {r : RS} {f : En → Sto → RS} {Q : Fl → Sto → Prop} {X : Ex → En → Sto → Prop} (h : Ws r (SqQ (fun en st => Ws (f en st) Q X) Q) X) : Ws (r.more f) Q X := by
  cases r with
  | ok fl st => cases fl <;> exact h
  | exc y en st => exact h
  | bad => exact h
theorem Ws.mono {r : RS} {Q Q' : Fl → Sto → Prop} {X X' : Ex → En → Sto → Prop} (h : Ws r Q' X') (q : ∀ a st, Q' a st → Q a st) (x : ∀ y en st, X' y en st → X y en st) : Ws r Q X := by
  cases r with
  | ok a st => exact q _ _ h
  | exc y en st => exact x _ _ _ h
  | bad => exact h

variable {Q : D → Sto → Prop}
theorem wp_var {i : Nat} {d : D} (e : en[i]? = some (some d)) (q : Q d st) : Wp (ev G C (.var i) en st) Q X := Wp.ok (by show (match en[i]? with | some (some d) => R.ok d st | _ => R.bad) = _; rw [e]) q
theorem wp_int {i : Int} (q : Q (.int i) st) : Wp (ev G C (.int i) en st) Q X := q
theorem wp_str {s : List Nat} (q : Q (.str s) st) : Wp (ev G C (.str s) en st) Q X := q
theorem wp_bool {b : Bool} (q : Q (.bl b) st) : Wp (ev G C (.bool b) en st) Q X := q
theorem wp_non (q : Q .non st) : Wp (ev G C .non en st) Q X := q
theorem wp_ty {n : String} (q : Q (.ty n) st) : Wp (ev G C (.ty n) en st) Q X := q
theorem wp_glo {x : Str} {d : D} (e : G.glo.lookup x = some d) (q : Q d st) : Wp (ev G C (.glo x) en st) Q X := Wp.ok (by show (match G.glo.lookup x with | some d => R.ok d st | none => R.bad) = _; rw [e]) q
theorem wp_bin {o : B2} {a b : E} (h : Wp (ev G C a en st) (fun x st => Wp (ev G C b en st) (fun y st => Wp (b2 o x y st) Q noX) X) X) : Wp (ev G C (.bin o a b) en st) Q X :=
  Wp.bind (h.mono (fun _ _ h => Wp.bind (h.mono (fun _ _ h => h.shut_) fun _ _ h => h)) fun _ _ h => h)
theorem wp_cmp {o : C2} {a b : E} (h : Wp (ev G C a en st) (fun x st => Wp (ev G C b en st) (fun y st => Wp (c2 o x y st) Q noX) X) X) : Wp (ev G C (.cmp o a b) en st) Q X :=
  Wp.bind (h.mono (fun _ _ h => Wp.bind (h.mono (fun _ _ h => h.shut_) fun _ _ h => h)) fun _ _ h => h)
theorem wp_neg {a : E} (h : Wp (ev G C a en st) (fun x st => Wp (negD x st) Q noX) X) : Wp (ev G C (.neg a) en st) Q X := Wp.bind (h.mono (fun _ _ h => h.shut_) fun _ _ h => h)
theorem wp_rev {a : E} (h : Wp (ev G C a en st) (fun x st => Wp (revD x st) Q noX) X) : Wp (ev G C (.rev a) en st) Q X := Wp.bind (h.mono (fun _ _ h => h.shut_) fun _ _ h => h)
theorem wp_sset {a : E} (h : Wp (ev G C a en st) (fun x st => Wp (ssetD x st) Q noX) X) : Wp (ev G C (.sset a) en st) Q X := Wp.bind (h.mono (fun _ _ h => h.shut_) fun _ _ h => h)
theorem wp_upper {a : E} (h : Wp (ev G C a en st) (fun x st => Wp (upperD x st) Q noX) X) : Wp (ev G C (.upper a) en st) Q X := Wp.bind (h.mono (fun _ _ h => h.shut_) fun _ _ h => h)
theorem wp_isn {a : E} (h : Wp (ev G C a en st) (fun x st => Q (.bl (isNon x)) st) X) : Wp (ev G C (.isn a) en st) Q X := Wp.bind h
theorem wp_notn {a : E} (h : Wp (ev G C a en st) (fun x st => Q (.bl (!isNon x)) st) X) : Wp (ev G C (.notn a) en st) Q X := Wp.bind h
theorem wp_and {a b : E} (h : Wp (ev G C a en st) (fun x st => TruQ x st fun k => IfQ k (Wp (ev G C b en st) Q X) (Q x st)) X) : Wp (ev G C (.and a b) en st) Q X :=
  Wp.bind (h.mono (fun x st h => by
    obtain ⟨k, e, h1, h2⟩ := h
    cases k with
    | true => rw [e]; exact h1 rfl
    | false => rw [e]; exact h2 rfl) fun _ _ h => h)
theorem wp_or {a b : E} (h : Wp (ev G C a en st) (fun x st => TruQ x st fun k => IfQ k (Q x st) (Wp (ev G C b en st) Q X)) X) : Wp (ev G C (.or a b) en st) Q X :=
  Wp.bind (h.mono (fun x st h => by
    obtain ⟨k, e, h1, h2⟩ := h
    cases k with
    | true => rw [e]; exact h1 rfl
    | false => rw [e]; exact h2 rfl) fun _ _ h => h)
theorem wp_not {a : E} (h : Wp (ev G C a en st) (fun x st => TruQ x st fun k => Q (.bl (!k)) st) X) : Wp (ev G C (.not a) en st) Q X :=
  Wp.bind (h.mono (fun x st h => by
    obtain ⟨k, e, h1⟩ := h
    rw [e]; exact h1) fun _ _ h => h)
theorem wp_chain {o o2 : C2} {a b c : E} (h : Wp (ev G C a en st) (fun x st => Wp (ev G C b en st) (fun y st => Wp (c2 o x y st) (fun r st => ChQ r fun k => IfQ k (Wp (ev G C c en st) (fun z st => Wp (c2 o2 y z st) Q noX) X) (Q (.bl false) st)) noX) X) X) : Wp (ev G C (.chain o o2 a b c) en st) Q X :=
  Wp.bind (h.mono (fun x st h => Wp.bind (h.mono (fun y st h => Wp.bind (Wp.shut_ (h.mono (fun r st h => by
    obtain ⟨k, rfl, h1, h2⟩ := h
    cases k with
    | true => exact Wp.bind ((h1 rfl).mono (fun _ _ h => h.shut_) fun _ _ h => h)
    | false => exact h2 rfl) fun _ _ h => h))) fun _ _ h => h)) fun _ _ h => h)
theorem wp_ite {c a b : E} (h : Wp (ev G C c en st) (fun x st => TruQ x st fun k => IfQ k (Wp (ev G C a en st) Q X) (Wp (ev G C b en st) Q X)) X) : Wp (ev G C (.ite c a b) en st) Q X :=
  Wp.bind (Wp.tru (h.mono (fun x st h => by
    obtain ⟨k, e, h1, h2⟩ := h
    refine ⟨k, e, ?_⟩
    cases k with
    | true => exact h1 rfl
    | false => exact h2 rfl) fun _ _ h => h))
theorem wp_tup {es : E} (h : Wp (evs G C es en st) (fun ds st => ds.length ≤ sz ∧ Q (.tup ds) st) X) : Wp (ev G C (.tup es) en st) Q X :=
  Wp.bind (h.mono (fun ds st h => by rw [if_pos h.1]; exact h.2) fun _ _ h => h)
theorem wp_lst {es : E} (h : Wp (evs G C es en st) (fun ds st => ds.length ≤ sz ∧ Q (.lst ds) st) X) : Wp (ev G C (.lst false es) en st) Q X :=
  Wp.bind (h.mono (fun ds st h => by rw [if_pos h.1]; exact h.2) fun _ _ h => h)
theorem wp_lstM {es : E} (h : Wp (evs G C es en st) (fun ds st => ds.length ≤ sz ∧ Q (.loc st.length) (st ++ [.lst ds])) X) : Wp (ev G C (.lst true es) en st) Q X :=
  Wp.bind (h.mono (fun ds st h => by rw [if_pos h.1]; exact h.2) fun _ _ h => h)
theorem wp_edct (q : Q (.dct [] []) st) : Wp (ev G C .edct en st) Q X := q
theorem wp_idx {a b : E} (h : Wp (ev G C a en st) (fun x st => Wp (ev G C b en st) (fun y st => Wp (idxD x y st) Q noX) X) X) : Wp (ev G C (.idx a b) en st) Q X :=
  Wp.bind (h.mono (fun _ _ h => Wp.bind (h.mono (fun _ _ h => h.shut_) fun _ _ h => h)) fun _ _ h => h)
theorem wp_sl {a lo hi : E} (h : Wp (ev G C a en st) (fun x st => Wp (part G C lo en st) (fun l st => Wp (part G C hi en st) (fun u st => Wp (slD x l u st) Q noX) X) X) X) : Wp (ev G C (.sl a lo hi) en st) Q X :=
  Wp.bind (h.mono (fun _ _ h => Wp.bind (h.mono (fun _ _ h => Wp.bind (h.mono (fun _ _ h => h.shut_) fun _ _ h => h)) fun _ _ h => h)) fun _ _ h => h)
theorem wp_partN {Q : Option Int → Sto → Prop} (q : Q none st) : Wp (part G C .nil en st) Q X := q
theorem wp_partS {Q : Option Int → Sto → Prop} {a : E} (h : Wp (ev G C a en st) (fun x st => IntQ x fun i => Q (some i) st) X) : Wp (part G C (.cons a .nil) en st) Q X :=
  Wp.bind (h.mono (fun x st h => by obtain ⟨i, rfl, q⟩ := h; exact q) fun _ _ h => h)
theorem wp_bcall {f : Bf} {es : E} (h : Wp (evs G C es en st) (fun ds st => Wp (bf f ds st) Q noX) X) : Wp (ev G C (.bcall f es) en st) Q X :=
  Wp.bind (h.mono (fun _ _ h => h.shut_) fun _ _ h => h)
theorem wp_call {f : Str} {es : E} (h : Wp (evs G C es en st) (fun ds st => Wp (C f ds st) Q X) X) : Wp (ev G C (.call f es) en st) Q X := Wp.bind h
theorem wp_callk {f k : Str} {e : E} (h : Wp (ev G C e en st) (fun d st => Wp (C f [d] st) Q X) X) : Wp (ev G C (.callk f k e) en st) Q X := Wp.bind h
theorem wp_callv {i : Nat} {f : Str} {es : E} (e : en[i]? = some (some (.glo f))) (hf : (G.fns.lookup f).isSome = true) (h : Wp (evs G C es en st) (fun ds st => Wp (C f ds st) Q X) X) : Wp (ev G C (.callv i es) en st) Q X := by
  have : ev G C (.callv i es) en st = (evs G C es en st).bind fun ds st => C f ds st := by
    show (match en[i]? with
      | some (some (.glo f)) => if (G.fns.lookup f).isSome = true then (evs G C es en st).bind fun ds st => C f ds st else R.bad
      | _ => R.bad) = _
    rw [e]
    exact if_pos hf
  rw [this]
  exact Wp.bind h
theorem wp_nilL {Q : List D → Sto → Prop} (q : Q [] st) : Wp (evs G C .nil en st) Q X := q
theorem wp_consL {Q : List D → Sto → Prop} {a r : E} (h : Wp (ev G C a en st) (fun x st => Wp (evs G C r en st) (fun xs st => Q (x :: xs) st) X) X) : Wp (evs G C (.cons a r) en st) Q X :=
  Wp.bind (h.mono (fun _ _ h => Wp.bind h) fun _ _ h => h)
theorem wp_condN {Q : Bool → Sto → Prop} (q : Q true st) : Wp (evc G C .nil en st) Q X := q
theorem wp_condS {Q : Bool → Sto → Prop} {a : E} (h : Wp (ev G C a en st) (fun d st => TruQ d st fun b => Q b st) X) : Wp (evc G C (.cons a .nil) en st) Q X := Wp.tru h
theorem wp_lc {k : Ik} {is : List Nat} {un : Bool} {own : List (Str × Nat)} {src cond elt : E}
    (h : Wp (evs G C src en st) (fun ds st => SoQ (walkOf k ds) fun xs => Wp (lcRun is un (evc G C cond) (ev G C elt) xs (wipeE en (own.map (·.2))) st []) (fun r st => Q (.lst r) st) noX) X) : Wp (ev G C (.lc k is un own src cond elt) en st) Q X :=
  Wp.bind (h.mono (fun ds st h => by
    obtain ⟨xs, e, h⟩ := h
    rw [e]
    exact Wp.bind h.shut_) fun _ _ h => h)
/-- a comprehension without a test whose parts change nothing -/
theorem wp_lc_map {is : List Nat} {un : Bool} {elt : En → Sto → R D} {en : En} {st : Sto} {Q : List D → Sto → Prop} (f : D → D) {xs : List D} (h : ∀ x ∈ xs, ∃ en', setT is un x en = some en' ∧ elt en' st = .ok (f x) st) (hl : xs.length ≤ sz) (q : Q (xs.map f) st) :
    Wp (lcRun is un (evc G C .nil) elt xs en st []) Q noX := by
  have : ∀ (xs acc : List D), (∀ x ∈ xs, ∃ en', setT is un x en = some en' ∧ elt en' st = .ok (f x) st) → acc.length + xs.length ≤ sz → lcRun is un (evc G C .nil) elt xs en st acc = .ok (acc ++ xs.map f) st := by
    intro xs
    induction xs with
    | nil => intro acc _ _; simp [lcRun]
    | cons x xs ih =>
      intro acc h hl
      obtain ⟨en', e1, e2⟩ := h x (by simp)
      unfold lcRun
      rw [List.length_cons] at hl
      rw [e1]
      show ((R.ok true st).bind _) = _
      simp only [R.bind_ok, e2]
      rw [if_pos (by omega), ih (acc ++ [f x]) (fun y hy => h y (List.mem_cons_of_mem _ hy)) (by rw [List.length_append, List.length_cons, List.length_nil]; omega), List.map_cons, List.append_assoc]
      rfl
  rw [this xs [] h (by simpa using hl)]
  exact q
/-- a comprehension's turns: by what the turns keep -/
theorem lc_run {is : List Nat} {un : Bool} {cond : En → Sto → R Bool} {elt : En → Sto → R D} {en : En} {Q : List D → Sto → Prop} (I : List D → List D → Sto → Prop)
    (turn : ∀ x xs acc st, I (x :: xs) acc st → ∃ en', setT is un x en = some en' ∧ Wp (cond en' st) (fun b st => IfQ b (acc.length < sz ∧ Wp (elt en' st) (fun y st => I xs (acc ++ [y]) st) noX) (I xs acc st)) noX)
    (done : ∀ acc st, I [] acc st → Q acc st) : ∀ (xs acc : List D) (st : Sto), I xs acc st → Wp (lcRun is un cond elt xs en st acc) Q noX
  | [], acc, st, h => done acc st h
  | x :: xs, acc, st, h => by
    obtain ⟨en', e, t⟩ := turn x xs acc st h
    unfold lcRun
    rw [e]
    refine Wp.bind (t.mono (fun b st h => ?_) fun _ _ h => h)
    cases b with
    | true =>
      obtain ⟨hl, w⟩ := h.1 rfl
      refine Wp.bind (w.mono (fun y st h => ?_) fun _ _ h => h)
      rw [if_pos hl]
      exact lc_run I turn done xs _ st h
    | false => exact lc_run I turn done xs acc st (h.2 rfl)
end
section
variable {G : Gs} {C : Call} {en : En} {st : Sto} {Q : Fl → Sto → Prop} {X : Ex → En → Sto → Prop}
theorem ws_nil (q : Q (.nx en) st) : Ws (ex G C .nil en st) Q X := q
theorem ws_seq {a r : S} (h : Ws (ex G C a en st) (SqQ (fun en st => Ws (ex G C r en st) Q X) Q) X) : Ws (ex G C (.seq a r) en st) Q X := Ws.more h
theorem ws_pass (q : Q (.nx en) st) : Ws (ex G C .pass en st) Q X := q
theorem ws_expr {e : E} (h : Wp (ev G C e en st) (fun _ st => Q (.nx en) st) (fun x st => X x en st)) : Ws (ex G C (.expr e) en st) Q X := Wp.andS h
theorem ws_set {i : Nat} {e : E} (h : Wp (ev G C e en st) (fun d st => Q (.nx (en.set i (some d))) st) (fun x st => X x en st)) : Ws (ex G C (.set i e) en st) Q X := Wp.andS h
theorem ws_aug {i : Nat} {o : B2} {e : E} {x : D} (hx : en[i]? = some (some x)) (h : Wp (ev G C e en st) (fun y st => Wp (aug2 o x y st) (fun z st => Q (.nx (en.set i (some z))) st) (fun x st => X x en st)) (fun x st => X x en st)) : Ws (ex G C (.aug i o e) en st) Q X := by
  have e2 : ex G C (.aug i o e) en st = (ev G C e en st).andS en fun y st => (aug2 o x y st).andS en fun z st => .ok (.nx (en.set i (some z))) st := by
    show (match en[i]? with
      | some (some x) => (ev G C e en st).andS en fun y st => (aug2 o x y st).andS en fun z st => .ok (.nx (en.set i (some z))) st
      | _ => .bad) = _
    rw [hx]
  rw [e2]
  exact Wp.andS (h.mono (fun _ _ h => Wp.andS h) fun _ _ h => h)
theorem ws_asg {is : List Nat} {e : E} (h : Wp (ev G C e en st) (fun d st => SoQ (setT is true d en) fun en' => Q (.nx en') st) (fun x st => X x en st)) : Ws (ex G C (.asg is e) en st) Q X :=
  Wp.andS (h.mono (fun d st h => by obtain ⟨en', e, q⟩ := h; rw [e]; exact q) fun _ _ h => h)
theorem ws_par {is : List Nat} {es : E} (h : Wp (evs G C es en st) (fun d st => SoQ (setAll is d en) fun en' => Q (.nx en') st) (fun x st => X x en st)) : Ws (ex G C (.par is es) en st) Q X :=
  Wp.andS (h.mono (fun d st h => by obtain ⟨en', e, q⟩ := h; rw [e]; exact q) fun _ _ h => h)
theorem ws_setItem {a i v : E} (h : Wp (ev G C v en st) (fun z st => Wp (ev G C a en st) (fun x st => Wp (ev G C i en st) (fun y st => SoQ (storeD x y z st) fun st' => Q (.nx en) st') (fun x st => X x en st)) (fun x st => X x en st)) (fun x st => X x en st)) : Ws (ex G C (.setItem a i v) en st) Q X :=
  Wp.andS (h.mono (fun _ _ h => Wp.andS (h.mono (fun _ _ h => Wp.andS (h.mono (fun d st h => by obtain ⟨en', e, q⟩ := h; rw [e]; exact q) fun _ _ h => h)) fun _ _ h => h)) fun _ _ h => h)
theorem ws_ite {c : E} {a b : S} (h : Wp (ev G C c en st) (fun x st => TruQ x st fun k => IfQ k (Ws (ex G C a en st) Q X) (Ws (ex G C b en st) Q X)) (fun x st => X x en st)) : Ws (ex G C (.ite c a b) en st) Q X :=
  Wp.andS (Wp.tru (h.mono (fun x st h => by
    obtain ⟨k, e, h1, h2⟩ := h
    refine ⟨k, e, ?_⟩
    cases k with
    | true => exact h1 rfl
    | false => exact h2 rfl) fun _ _ h => h))
theorem ws_ret {e : E} (h : Wp (ev G C e en st) (fun d st => Q (.rt d) st) (fun x st => X x en st)) : Ws (ex G C (.ret e) en st) Q X := Wp.andS h
theorem ws_retN (q : Q (.rt .non) st) : Ws (ex G C .retN en st) Q X := q
theorem ws_brk (q : Q (.bk en) st) : Ws (ex G C .brk en st) Q X := q
theorem ws_cont (q : Q (.ct en) st) : Ws (ex G C .cont en st) Q X := q
theorem ws_loop {k : Ik} {is : List Nat} {un : Bool} {src : E} {b : S} (h : Wp (evs G C src en st) (fun ds st => SoQ (walkOf k ds) fun xs => Ws (forRun is un (ex G C b) xs en st) Q X) (fun x st => X x en st)) : Ws (ex G C (.loop k is un src b) en st) Q X :=
  Wp.andS (h.mono (fun d st h => by obtain ⟨en', e, q⟩ := h; rw [e]; exact q) fun _ _ h => h)
def TnQ (N : En → Sto → Prop) (Q : Fl → Sto → Prop) : Fl → Sto → Prop
  | .nx en, st => N en st
  | .ct en, st => N en st
  | .bk en, st => Q (.nx en) st
  | .rt d, st => Q (.rt d) st
theorem tnq_nx {N : En → Sto → Prop} {Q : Fl → Sto → Prop} {en : En} {st : Sto} (q : N en st) : TnQ N Q (.nx en) st := q
theorem tnq_ct {N : En → Sto → Prop} {Q : Fl → Sto → Prop} {en : En} {st : Sto} (q : N en st) : TnQ N Q (.ct en) st := q
theorem tnq_bk {N : En → Sto → Prop} {Q : Fl → Sto → Prop} {en : En} {st : Sto} (q : Q (.nx en) st) : TnQ N Q (.bk en) st := q
theorem tnq_rt {N : En → Sto → Prop} {Q : Fl → Sto → Prop} {d : D} {st : Sto} (q : Q (.rt d) st) : TnQ N Q (.rt d) st := q
/-- a walk, by what its turns keep -/
theorem for_run {is : List Nat} {un : Bool} {body : En → Sto → RS} (I : List D → En → Sto → Prop)
    (turn : ∀ x xs en st, I (x :: xs) en st → ∃ en', setT is un x en = some en' ∧ Ws (body en' st) (TnQ (I xs) Q) X)
    (done : ∀ en st, I [] en st → Q (.nx en) st) : ∀ (xs : List D) (en : En) (st : Sto), I xs en st → Ws (forRun is un body xs en st) Q X
  | [], en, st, h => done en st h
  | x :: xs, en, st, h => by
    obtain ⟨en', e, t⟩ := turn x xs en st h
    unfold forRun
    rw [e]
    show Ws ((body en' st).turn _) Q X
    generalize body en' st = r at t
    cases r with
    | ok fl st => cases fl with
      | nx en => exact for_run I turn done xs en st t
      | ct en => exact for_run I turn done xs en st t
      | bk en => exact t
      | rt d => exact t
    | exc y en st => exact t
    | bad => exact t
/-- a def's run -/
def RtQ (Q : D → Sto → Prop) : Fl → Sto → Prop
  | .nx _, st => Q .non st
  | .rt v, st => Q v st
  | _, _ => False
theorem rtq_nx {Q : D → Sto → Prop} {en : En} {st : Sto} (q : Q .non st) : RtQ Q (.nx en) st := q
theorem rtq_rt {Q : D → Sto → Prop} {v : D} {st : Sto} (q : Q v st) : RtQ Q (.rt v) st := q
theorem wp_run {G : Gs} {C : Call} {d : Df} {ds : List D} {st : Sto} {Q : D → Sto → Prop} {X : Ex → Sto → Prop} {en : En} (hl : ds.length = d.ps.length) (he : ds.map some ++ List.replicate (d.N.length - ds.length) none = en)
    (h : Ws (ex G C d.b en st) (RtQ Q) fun x _ st => X x st) : Wp (runD G C d ds st) Q X := by
  unfold runD
  rw [if_pos hl, he]
  generalize ex G C d.b _ st = r at h
  cases r with
  | ok fl st => cases fl <;> exact h
  | exc y en st => exact h
  | bad => exact h
theorem Wp_eq {r : R D} {v : D} {st : Sto} (h : Wp r (fun a s => a = v ∧ s = st) noX) : r = .ok v st := by
  obtain ⟨a, s, e, rfl, rfl⟩ := h.ok_inv
  exact e
end
end Mi

set_option maxRecDepth 100000
set_option maxHeartbeats 1000000
namespace K25
open PySem PySem.Spec L2 Mi
local macro_rules | `(tactic| fail "mi e") => `(tactic| with_reducible first
  | (apply wp_var; next => with_unfolding_all rfl) | refine wp_int ?_ | refine wp_str ?_ | refine wp_bool ?_ | refine wp_non ?_ | refine wp_ty ?_
  | refine wp_nilL ?_ | refine wp_consL ?_ | refine wp_cmp ?_ | refine wp_bcall ?_ | refine wp_idx ?_ | refine wp_bin ?_ | refine wp_call ?_
  | refine wp_and ?_ | refine wp_or ?_ | refine wp_not ?_ | refine wp_chain ?_ | refine wp_ite ?_ | refine wp_tup ?_ | refine wp_lst ?_ | refine wp_lstM ?_
  | refine wp_edct ?_ | refine wp_sl ?_ | refine wp_partN ?_ | refine wp_partS ?_ | refine wp_callk ?_ | refine wp_lc ?_ | refine wp_condN ?_ | refine wp_condS ?_
  | refine wp_neg ?_ | refine wp_rev ?_ | refine wp_sset ?_ | refine wp_upper ?_ | refine wp_isn ?_ | refine wp_notn ?_)
local macro_rules | `(tactic| fail "mi s") => `(tactic| with_reducible first
  | refine ws_seq ?_ | refine ws_nil ?_ | refine ws_ite ?_ | refine ws_set ?_ | refine ws_ret ?_ | refine ws_expr ?_ | refine ws_asg ?_ | refine ws_par ?_ | refine ws_setItem ?_
  | refine ws_pass ?_ | refine ws_retN ?_ | refine ws_brk ?_ | refine ws_cont ?_ | refine ws_loop ?_ | (apply ws_aug; next => with_unfolding_all rfl))
local macro_rules | `(tactic| fail "mi b1") => `(tactic| with_reducible first
  | refine tq_bl ?_ | refine tq_int ?_ | refine tq_tup ?_ | refine tq_lst ?_ | refine tq_non ?_ | refine cq_bl ?_ | refine iq_int ?_ | refine if_t ?_ | refine if_f ?_ | refine if_n ?_ | refine so_some ?_
  | (apply if_dt; next => assumption) | (apply if_df; next => assumption) | (refine if_d ?_ ?_ <;> intro hb) | (apply if_et; next => assumption) | (apply if_en; next => assumption) | (apply if_nt; next => assumption) | (apply if_nn; next => assumption) | (refine if_eq ?_ ?_ <;> intro hb) | (refine if_ne ?_ ?_ <;> intro hb) | (apply if_bt; next => assumption) | (apply if_bf; next => assumption) | (refine if_b ?_ ?_ <;> intro hb) | (apply tq_of; next => assumption) | (apply so_of; next => assumption))
local macro_rules | `(tactic| fail "mi b") => `(tactic| first
  | fail "mi b1" | (with_reducible apply so_of; next => with_unfolding_all rfl) | (with_reducible refine And.intro ?_ ?_; next => (simp only [List.length_cons, List.length_nil]; decide)))
local macro_rules | `(tactic| fail "mi n") => `(tactic| first | decide | assumption | omega | apply_assumption)
local macro_rules | `(tactic| fail "mi r") => `(tactic| ((try dsimp only [b2, c2, bf]); with_unfolding_all first | with_reducible assumption | rfl | assumption | exact modD_ok _ (by fail "mi n") | exact divD_ok _ (by fail "mi n") (by fail "mi n") | exact mulD_l _ (by fail "mi n") | exact mulD_r _ (by fail "mi n") | exact powD_ok _ (by fail "mi n") (by fail "mi n")))
local macro_rules | `(tactic| fail "mi") => `(tactic| first
  | fail "mi s" | fail "mi e" | (with_reducible apply wp_glo; next => with_unfolding_all rfl) | (with_reducible refine sqq_nx ?_) | (with_reducible refine sqq_rt ?_) | (with_reducible refine sqq_ct ?_) | (with_reducible refine sqq_bk ?_) | (with_reducible refine tnq_nx ?_) | (with_reducible refine tnq_rt ?_) | (with_reducible refine tnq_ct ?_) | (with_reducible refine tnq_bk ?_)
  | (with_reducible refine rtq_rt ?_) | (with_reducible refine rtq_nx ?_)
  | fail "mi b"
  | (with_reducible apply Wp.ok; next => with_reducible assumption)
  | (with_reducible first | (apply ok_b2; next => fail "mi r") | (apply ok_c2; next => fail "mi r") | (apply ok_bf; next => fail "mi r") | (apply ok_idx; next => fail "mi r") | (apply ok_neg; next => fail "mi r") | (apply ok_sl; next => fail "mi r") | (apply ok_rev; next => fail "mi r") | (apply ok_sset; next => fail "mi r") | (apply ok_upper; next => fail "mi r") | (apply ok_aug; next => fail "mi r")))
abbrev Cn (n : Nat) : Call := callN gM (tabD tabT) n
theorem c_integer (n : Nat) (ds : List D) (st : Sto) : Cn (n + 1) "is_integer" ds st = runD gM (Cn n) disinteger ds st := rfl
theorem c_place (n : Nat) (ds : List D) (st : Sto) : Cn (n + 1) "is_place" ds st = runD gM (Cn n) displace ds st := rfl
theorem c_take (n : Nat) (ds : List D) (st : Sto) : Cn (n + 1) "_law_take" ds st = runD gM (Cn n) dlawtake ds st := rfl
theorem c_of (n : Nat) (ds : List D) (st : Sto) : Cn (n + 1) "_law_of" ds st = runD gM (Cn n) dlawof ds st := rfl
theorem c_tupleof (n : Nat) (ds : List D) (st : Sto) : Cn (n + 1) "is_tuple_of" ds st = runD gM (Cn n) distupleof ds st := rfl
theorem c_rises (n : Nat) (ds : List D) (st : Sto) : Cn (n + 1) "rises" ds st = runD gM (Cn n) drises ds st := rfl
theorem c_word (n : Nat) (ds : List D) (st : Sto) : Cn (n + 1) "is_word" ds st = runD gM (Cn n) disword ds st := rfl
theorem c_rule (n : Nat) (ds : List D) (st : Sto) : Cn (n + 1) "is_rule" ds st = runD gM (Cn n) disrule ds st := rfl
theorem c_lword (n : Nat) (ds : List D) (st : Sto) : Cn (n + 1) "_law_is_word" ds st = runD gM (Cn n) dlawisword ds st := rfl
theorem c_due (n : Nat) (ds : List D) (st : Sto) : Cn (n + 1) "_law_due" ds st = runD gM (Cn n) dlawdue ds st := rfl
theorem c_odd (n : Nat) (ds : List D) (st : Sto) : Cn (n + 1) "_law_odd" ds st = runD gM (Cn n) dlawodd ds st := rfl
theorem c_bent (n : Nat) (ds : List D) (st : Sto) : Cn (n + 1) "_law_bent" ds st = runD gM (Cn n) dlawbent ds st := rfl
theorem c_lrule (n : Nat) (ds : List D) (st : Sto) : Cn (n + 1) "_law_rule" ds st = runD gM (Cn n) dlawrule ds st := rfl
theorem c_right (n : Nat) (ds : List D) (st : Sto) : Cn (n + 1) "_law_right" ds st = runD gM (Cn n) dlawright ds st := rfl
theorem c_pot (n : Nat) (ds : List D) (st : Sto) : Cn (n + 1) "_law_pot" ds st = runD gM (Cn n) dlawpot ds st := rfl
theorem c_law (n : Nat) (ds : List D) (st : Sto) : Cn (n + 1) "law" ds st = runD gM (Cn n) dlaw ds st := rfl
def isI : D → Bool
  | .int _ => true
  | _ => false
def plcB : D → Bool
  | .int i => decide (0 ≤ i) && decide (i ≤ 5)
  | _ => false
theorem integer_ok (n : Nat) (d : D) (st : Sto) (h : pl d = true) : Cn (n + 1) "is_integer" [d] st = .ok (.bl (isI d)) st := by
  cases d <;> first | rfl | (simp [pl] at h; done)
theorem isI_eq {d : D} (h : isI d = true) : ∃ i, d = .int i := by cases d <;> first | exact ⟨_, rfl⟩ | cases h
theorem place_ok (n : Nat) (d : D) (st : Sto) (h : pl d = true) : Cn (n + 2) "is_place" [d] st = .ok (.bl (plcB d)) st := by
  rw [c_place]
  have e := integer_ok n d st h
  refine Wp_eq (wp_run (en := [some d]) rfl rfl ?_)
  unfold displace
  repeat' fail "mi"
  · rename_i h1
    obtain ⟨i, rfl⟩ := isI_eq h1
    repeat' fail "mi"
    · simp_all [plcB]
    · simp_all [plcB]; omega
  · rename_i h1
    cases d <;> first | (cases h1; done) | exact ⟨rfl, rfl⟩
def tofB : D → Bool
  | .tup ds => ds.all plcB
  | _ => false
theorem len_small {ds : List D} (h : wts ds ≤ 1000000) : ds.length ≤ sz := by
  have := length_le_wts ds
  show _ ≤ 16777216
  omega
theorem tupleof_ok (n : Nat) (d : D) (st : Sto) (h : pl d = true) (hw : wt d ≤ 1000000) : Cn (n + 3) "is_tuple_of" [d, .glo "is_place"] st = .ok (.bl (tofB d)) st := by
  rw [c_tupleof]
  refine Wp_eq (wp_run (en := [some d, some (.glo "is_place"), none]) rfl rfl ?_)
  unfold distupleof lcistupleof1 lcistupleof1e
  have e := isi_t st h
  repeat' fail "mi"
  · rename_i h1
    cases d <;> first | (cases h1; done) | skip
    rename_i ds
    refine so_of (a := ds) rfl ?_
    refine wp_lc_map (fun d => .bl (plcB d)) (fun x hx => ⟨_, rfl, place_ok n x st (pls_mem h hx)⟩) (len_small (by simp only [wt] at hw; omega)) ?_
    have e2 := all_map plcB ds st
    repeat' fail "mi"
    exact ⟨rfl, rfl⟩
  · rename_i h1
    cases d <;> first | (cases h1; done) | exact ⟨rfl, rfl⟩

/-- rising, pair by pair -/
def upB : List Int → Bool
  | [] => true
  | [_] => true
  | x :: y :: r => decide (x < y) && upB (y :: r)
theorem zip_up : ∀ ns : List Int, ((ns.map D.int).zip ((ns.map D.int).drop 1)).map (fun p => D.tup [p.1, p.2]) = (ns.zip (ns.drop 1)).map fun p => D.tup [.int p.1, .int p.2] := fun ns => by
  rw [← List.map_drop, List.zip_map, List.map_map]
  rfl
theorem all_up : ∀ ns : List Int, (ns.zip (ns.drop 1)).all (fun p => decide (p.1 < p.2)) = upB ns
  | [] => rfl
  | [x] => rfl
  | x :: y :: r => by
    have ih := all_up (y :: r)
    simp only [List.drop_succ_cons, List.drop_zero] at ih ⊢
    rw [List.zip_cons_cons, List.all_cons, upB, ih]
theorem cut_tail (ds : List D) : cutD ds (some 1) none = ds.drop 1 := by
  unfold cutD
  cases ds with
  | nil => rfl
  | cons d r =>
    have e1 : HT.sIx (d :: r).length 0 (some 1) = 1 := by
      simp [HT.sIx]
    have e2 : HT.sIx (d :: r).length (d :: r).length none = (d :: r).length := by
      simp [HT.sIx]
    rw [e1, e2]
    simp
theorem slD_tail (ds : List D) (st : Sto) : slD (.tup ds) (some 1) none st = .ok (.tup (ds.drop 1)) st := by
  show R.ok (D.tup (cutD ds (some 1) none)) st = _
  rw [cut_tail]
def ltP : D → D
  | .tup [.int x, .int y] => .bl (decide (x < y))
  | _ => .non
theorem rises_ok (n : Nat) (ns : List Int) (st : Sto) (hl : ns.length ≤ 1000000) : Cn (n + 1) "rises" [.tup (ns.map D.int)] st = .ok (.bl (upB ns)) st := by
  rw [c_rises]
  refine Wp_eq (wp_run (en := [some (.tup (ns.map D.int)), none, none]) rfl rfl ?_)
  unfold drises lcrises1 lcrises1e
  have e0 := slD_tail (ns.map D.int) st
  repeat' fail "mi"
  rw [zip_up]
  refine wp_lc_map ltP (fun x hx => ?_) (by
    simp only [List.length_map, List.length_zip]
    show _ ≤ 16777216
    omega) ?_
  · obtain ⟨p, _, rfl⟩ := List.mem_map.mp hx
    exact ⟨_, rfl, rfl⟩
  · have e1 : ((ns.zip (ns.drop 1)).map fun p => D.tup [.int p.1, .int p.2]).map ltP = ((ns.zip (ns.drop 1)).map fun p => decide (p.1 < p.2)).map D.bl := by rw [List.map_map, List.map_map]; rfl
    rw [e1]
    have e2 : allD [.lst (((ns.zip (ns.drop 1)).map fun p => decide (p.1 < p.2)).map D.bl)] st = .ok (.bl (upB ns)) st := by
      simp only [allD, boolsOf_map, List.all_map, ← all_up]
      rfl
    repeat' fail "mi"
    exact ⟨rfl, rfl⟩
/-! ### words -/
def letters : List Nat := [97, 98, 99, 100, 101, 102, 103, 104, 105, 106, 107, 108, 109, 110, 111, 112, 113, 114, 115, 116, 117, 118, 119, 120, 121, 122]
def letB : D → D
  | .str [c] => .bl (decide (c ∈ letters))
  | _ => .non
def wordB : D → Bool
  | .str s => decide (1 ≤ s.length) && decide (s.length ≤ 8) && s.all fun c => decide (c ∈ letters)
  | _ => false
theorem str_small {s : List Nat} (h : wt (.str s) ≤ 1000000) : s.length ≤ sz := by
  simp only [wt] at h
  show _ ≤ 16777216
  omega
theorem let_map (s : List Nat) : (s.map fun c => D.str [c]).map letB = (s.map fun c => decide (c ∈ letters)).map D.bl := by rw [List.map_map, List.map_map]; rfl
theorem all_let (s : List Nat) (st : Sto) : allD [.lst ((s.map fun c => decide (c ∈ letters)).map D.bl)] st = .ok (.bl (s.all fun c => decide (c ∈ letters))) st := by
  simp only [allD, boolsOf_map, List.all_map]
  rfl
theorem len_str {s : List Nat} (st : Sto) (h : s.length ≤ sz) : lenD [.str s] st = .ok (.int s.length) st := if_pos h
theorem isS_eq {d : D} (h : isS d = true) : ∃ i, d = .str i := by cases d <;> first | exact ⟨_, rfl⟩ | cases h
theorem isT_eq {d : D} (h : isT d = true) : ∃ i, d = .tup i := by cases d <;> first | exact ⟨_, rfl⟩ | cases h
theorem bnot_f {b : Bool} (h : (!b) = false) : b = true := by cases b <;> first | rfl | cases h
theorem bnot_t {b : Bool} (h : (!b) = true) : b = false := by cases b <;> first | rfl | cases h
theorem word_ok (n : Nat) (d : D) (st : Sto) (h : pl d = true) (hw : wt d ≤ 1000000) : Cn (n + 1) "is_word" [d] st = .ok (.bl (wordB d)) st := by
  rw [c_word]
  refine Wp_eq (wp_run (en := [some d, none]) rfl rfl ?_)
  unfold disword lcisword1 lcisword1e
  have e := isi_str st h
  repeat' fail "mi"
  · rename_i h1
    obtain ⟨s, rfl⟩ := isS_eq h1
    have hz := str_small hw
    have e1 := len_str st hz
    repeat' fail "mi"
    · have e2 := all_let s st
      rename_i h2 h3
      refine wp_lc_map letB (fun x hx => ?_) (by rw [List.length_map]; exact hz) ?_
      · obtain ⟨p, _, rfl⟩ := List.mem_map.mp hx
        exact ⟨_, rfl, rfl⟩
      · rw [let_map]
        repeat' fail "mi"
        refine ⟨?_, rfl⟩
        have k1 : 1 ≤ s.length := by omega
        have k2 : s.length ≤ 8 := by omega
        simp only [wordB, k1, k2, decide_true, Bool.true_and]
    · rename_i h2 h3
      have k2 : ¬ s.length ≤ 8 := by omega
      exact ⟨by simp only [wordB, k2, decide_false, Bool.and_false, Bool.false_and], rfl⟩
    · rename_i h2
      have k2 : ¬ 1 ≤ s.length := by omega
      exact ⟨by simp only [wordB, k2, decide_false, Bool.and_false, Bool.false_and], rfl⟩
  · rename_i h1
    cases d <;> first | (cases h1; done) | exact ⟨rfl, rfl⟩
theorem lword_ok (n : Nat) (d : D) (st : Sto) (h : pl d = true) (hw : wt d ≤ 1000000) : Cn (n + 1) "_law_is_word" [d] st = .ok (.bl (wordB d)) st := by
  rw [c_lword]
  refine Wp_eq (wp_run (en := [some d, none]) rfl rfl ?_)
  unfold dlawisword lclawisword1 lclawisword1e
  have e := isi_str st h
  repeat' fail "mi"
  · rename_i h1
    obtain ⟨s, rfl⟩ := isS_eq h1
    have hz := str_small hw
    have e1 := len_str st hz
    repeat' fail "mi"
    · have e2 := all_let s st
      rename_i h2 h3
      refine wp_lc_map letB (fun x hx => ?_) (by rw [List.length_map]; exact hz) ?_
      · obtain ⟨p, _, rfl⟩ := List.mem_map.mp hx
        exact ⟨_, rfl, rfl⟩
      · rw [let_map]
        repeat' fail "mi"
        refine ⟨?_, rfl⟩
        have k1 : 1 ≤ s.length := by omega
        have k2 : s.length ≤ 8 := by omega
        simp only [wordB, k1, k2, decide_true, Bool.true_and]
    · rename_i h2 h3
      have k2 : ¬ s.length ≤ 8 := by omega
      exact ⟨by simp only [wordB, k2, decide_false, Bool.and_false, Bool.false_and], rfl⟩
    · rename_i h2
      have k2 : ¬ 1 ≤ s.length := by omega
      exact ⟨by simp only [wordB, k2, decide_false, Bool.and_false, Bool.false_and], rfl⟩
  · rename_i h1
    cases d <;> first | (cases h1; done) | exact ⟨rfl, rfl⟩
end K25

set_option maxRecDepth 100000
set_option maxHeartbeats 1000000
namespace K25
open PySem PySem.Spec L2 Mi
local macro_rules | `(tactic| fail "mi e") => `(tactic| with_reducible first
  | (apply wp_var; next => with_unfolding_all rfl) | refine wp_int ?_ | refine wp_str ?_ | refine wp_bool ?_ | refine wp_non ?_ | refine wp_ty ?_
  | refine wp_nilL ?_ | refine wp_consL ?_ | refine wp_cmp ?_ | refine wp_bcall ?_ | refine wp_idx ?_ | refine wp_bin ?_ | refine wp_call ?_
  | refine wp_and ?_ | refine wp_or ?_ | refine wp_not ?_ | refine wp_chain ?_ | refine wp_ite ?_ | refine wp_tup ?_ | refine wp_lst ?_ | refine wp_lstM ?_
  | refine wp_edct ?_ | refine wp_sl ?_ | refine wp_partN ?_ | refine wp_partS ?_ | refine wp_callk ?_ | refine wp_lc ?_ | refine wp_condN ?_ | refine wp_condS ?_
  | refine wp_neg ?_ | refine wp_rev ?_ | refine wp_sset ?_ | refine wp_upper ?_ | refine wp_isn ?_ | refine wp_notn ?_)
local macro_rules | `(tactic| fail "mi s") => `(tactic| with_reducible first
  | refine ws_seq ?_ | refine ws_nil ?_ | refine ws_ite ?_ | refine ws_set ?_ | refine ws_ret ?_ | refine ws_expr ?_ | refine ws_asg ?_ | refine ws_par ?_ | refine ws_setItem ?_
  | refine ws_pass ?_ | refine ws_retN ?_ | refine ws_brk ?_ | refine ws_cont ?_ | refine ws_loop ?_ | (apply ws_aug; next => with_unfolding_all rfl))
local macro_rules | `(tactic| fail "mi b1") => `(tactic| with_reducible first
  | refine tq_bl ?_ | refine tq_int ?_ | refine tq_tup ?_ | refine tq_lst ?_ | refine tq_non ?_ | refine cq_bl ?_ | refine iq_int ?_ | refine if_t ?_ | refine if_f ?_ | refine if_n ?_ | refine so_some ?_
  | (apply if_dt; next => assumption) | (apply if_df; next => assumption) | (refine if_d ?_ ?_ <;> intro hb) | (apply if_et; next => assumption) | (apply if_en; next => assumption) | (apply if_nt; next => assumption) | (apply if_nn; next => assumption) | (refine if_eq ?_ ?_ <;> intro hb) | (refine if_ne ?_ ?_ <;> intro hb) | (apply if_bt; next => assumption) | (apply if_bf; next => assumption) | (refine if_b ?_ ?_ <;> intro hb) | (apply tq_of; next => assumption) | (apply so_of; next => assumption))
local macro_rules | `(tactic| fail "mi b") => `(tactic| first
  | fail "mi b1" | (with_reducible apply so_of; next => with_unfolding_all rfl) | (with_reducible refine And.intro ?_ ?_; next => (simp only [List.length_cons, List.length_nil]; decide)))
local macro_rules | `(tactic| fail "mi n") => `(tactic| first | decide | assumption | omega | apply_assumption)
local macro_rules | `(tactic| fail "mi r") => `(tactic| ((try dsimp only [b2, c2, bf]); with_unfolding_all first | with_reducible assumption | rfl | assumption | exact modD_ok _ (by fail "mi n") | exact divD_ok _ (by fail "mi n") (by fail "mi n") | exact mulD_l _ (by fail "mi n") | exact mulD_r _ (by fail "mi n") | exact powD_ok _ (by fail "mi n") (by fail "mi n")))
local macro_rules | `(tactic| fail "mi") => `(tactic| first
  | fail "mi s" | fail "mi e" | (with_reducible apply wp_glo; next => with_unfolding_all rfl) | (with_reducible refine sqq_nx ?_) | (with_reducible refine sqq_rt ?_) | (with_reducible refine sqq_ct ?_) | (with_reducible refine sqq_bk ?_) | (with_reducible refine tnq_nx ?_) | (with_reducible refine tnq_rt ?_) | (with_reducible refine tnq_ct ?_) | (with_reducible refine tnq_bk ?_)
  | (with_reducible refine rtq_rt ?_) | (with_reducible refine rtq_nx ?_)
  | fail "mi b"
  | (with_reducible apply Wp.ok; next => with_reducible assumption)
  | (with_reducible first | (apply ok_b2; next => fail "mi r") | (apply ok_c2; next => fail "mi r") | (apply ok_bf; next => fail "mi r") | (apply ok_idx; next => fail "mi r") | (apply ok_neg; next => fail "mi r") | (apply ok_sl; next => fail "mi r") | (apply ok_rev; next => fail "mi r") | (apply ok_sset; next => fail "mi r") | (apply ok_upper; next => fail "mi r") | (apply ok_aug; next => fail "mi r")))
def firstS : List Nat := [102, 105, 114, 115, 116]
def onlyS : List Nat := [111, 110, 108, 121]
def intV : D → Int
  | .int i => i
  | _ => 0
def skB : D → Bool
  | .tup ds => ds.all plcB && upB (ds.map intV)
  | _ => false
def nilB : D → Bool
  | .str s => decide (s = [])
  | _ => false
def namB : D → Bool
  | .str s => decide (s = firstS) || decide (s = onlyS)
  | _ => false
def ruleB : D → Bool
  | .tup [w, s, u] => namB w && (skB s && (wordB u || nilB u))
  | _ => false
theorem plc_ints : ∀ {ds : List D}, ds.all plcB = true → ds = (ds.map intV).map D.int
  | [], _ => rfl
  | d :: ds, h => by
    rw [List.all_cons, Bool.and_eq_true] at h
    have ih := plc_ints h.2
    cases d <;> first | (simp [plcB] at h; done) | skip
    rw [List.map_cons, List.map_cons, ← ih]
    rfl
theorem nam_in (w : D) (st : Sto) (h : isS w = true) : notInD w (.tup [.str firstS, .str onlyS]) st = .ok (.bl (!namB w)) st := by
  cases w <;> first | (cases h; done) | skip
  rename_i s
  have e : inV (.str s) (.tup [.str firstS, .str onlyS]) st = some (namB (.str s)) := by
    have q : ∀ a : List Nat, (a == s) = decide (s = a) := fun a => by
      by_cases z : s = a
      · subst z; simp
      · rw [decide_eq_false z, beq_eq_false_iff_ne]; exact fun y => z y.symm
    simp only [Mi.inV, itemsOf, inL, deq, namB, q, Bool.or_false]
  unfold notInD
  rw [e]
  rfl
theorem tof_eq {d : D} (h : tofB d = true) : ∃ ds, d = .tup ds ∧ ds.all plcB = true := by
  cases d <;> first | (cases h; done) | exact ⟨_, rfl, h⟩
theorem ruleB_len {ds : List D} (h : ds.length ≠ 3) : ruleB (.tup ds) = false := by
  match ds, h with
  | [], _ => rfl
  | [_], _ => rfl
  | [_, _], _ => rfl
  | [_, _, _], h => exact absurd rfl h
  | _ :: _ :: _ :: _ :: _, _ => rfl
theorem namB_S {w : D} (h : isS w = false) : namB w = false := by cases w <;> first | rfl | cases h
theorem wordB_S {w : D} (h : isS w = false) : wordB w = false := by cases w <;> first | rfl | cases h
theorem nilB_S {w : D} (h : isS w = false) : nilB w = false := by cases w <;> first | rfl | cases h
theorem pl3 {a b c : D} (h : pl (.tup [a, b, c]) = true) : pl a = true ∧ pl b = true ∧ pl c = true := by
  simp only [pl, pls, Bool.and_true, Bool.and_eq_true] at h
  exact ⟨h.1, h.2.1, h.2.2⟩
theorem wt3 {a b c : D} (h : wt (.tup [a, b, c]) ≤ 1000000) : wt a ≤ 1000000 ∧ wt b ≤ 1000000 ∧ wt c ≤ 1000000 := by
  simp only [wt, wts] at h
  omega
theorem neq3 {n : Nat} (h : n ≠ 3) : ((n : Int) == 3) = false := beq_eq_false_iff_ne.mpr (by omega)
theorem len_tup (ds : List D) (st : Sto) : lenD [.tup ds] st = .ok (.int ds.length) st := rfl
theorem nil_eq {u : D} (st : Sto) (h : isS u = true) : eqD u (.str []) st = .ok (.bl (nilB u)) st := by
  cases u <;> first | (cases h; done) | skip
  rename_i s
  cases s <;> rfl
theorem tof_rises (n : Nat) {s : D} (st : Sto) (hw : wt s ≤ 1000000) (h : tofB s = true) : Cn (n + 1) "rises" [s] st = .ok (.bl (skB s)) st := by
  obtain ⟨ds, rfl, h⟩ := tof_eq h
  have e := rises_ok n (ds.map intV) st (by
    rw [List.length_map]
    have := length_le_wts ds
    simp only [wt] at hw
    omega)
  rw [← plc_ints h] at e
  rw [e]
  have h' : ds.all plcB = true := h
  simp only [skB, h', Bool.true_and]
theorem skB_tof {s : D} (h : tofB s = false) : skB s = false := by
  cases s <;> first
    | rfl
    | (rename_i ds; have h' : ds.all plcB = false := h; simp only [skB, h', Bool.false_and])
theorem rule_ok (n : Nat) (d : D) (st : Sto) (h : pl d = true) (hw : wt d ≤ 1000000) : Cn (n + 4) "is_rule" [d] st = .ok (.bl (ruleB d)) st := by
  rw [c_rule]
  refine Wp_eq (wp_run (en := [some d, none, none, none]) rfl rfl ?_)
  unfold disrule
  have e := isi_t st h
  repeat' fail "mi"
  · rename_i h1
    obtain ⟨ds, rfl⟩ := isT_eq h1
    have e1 := len_tup ds st
    by_cases hl : ds.length = 3
    · match ds, hl with
      | [w, s, u], _ =>
        obtain ⟨p1, p2, p3⟩ := pl3 h
        obtain ⟨w1, w2, w3⟩ := wt3 hw
        have i1 := isi_str st p1
        have i2 := isi_str st p3
        have i3 := tupleof_ok n s st p2 w2
        have i4 := word_ok (n + 2) u st p3 w3
        have e3 : (([w, s, u].length : Nat) : Int) = 3 := rfl
        repeat' fail "mi"
        · rename_i h2
          have i5 := nam_in w st h2
          repeat' fail "mi"
          · rename_i h3 h4
            have i6 := tof_rises (n + 2) st w2 h4
            repeat' fail "mi"
            · rename_i h5 h6
              exact ⟨by simp only [ruleB, h3, h5, h6, Bool.and_true, Bool.true_or], rfl⟩
            · rename_i h5 h6 h7
              have i7 := nil_eq st h7
              repeat' fail "mi"
              exact ⟨by simp only [ruleB, h3, h5, h6, Bool.true_and, Bool.false_or], rfl⟩
            · rename_i h5 h6 h7
              exact ⟨by simp only [ruleB, h3, h5, h6, h7, nilB_S h7, Bool.and_false, Bool.or_false], rfl⟩
            · rename_i h5
              exact ⟨by simp only [ruleB, h3, h5, Bool.and_false, Bool.false_and], rfl⟩
          · rename_i h3 h4
            exact ⟨by simp only [ruleB, h3, skB_tof h4, Bool.and_false, Bool.false_and], rfl⟩
          · rename_i h3
            exact ⟨by simp only [ruleB, h3, Bool.false_and], rfl⟩
        · rename_i h2
          exact ⟨by simp only [ruleB, namB_S h2, Bool.false_and], rfl⟩
    · have e3 : ((ds.length : Nat) : Int) ≠ 3 := by omega
      repeat' fail "mi"
      exact ⟨by rw [ruleB_len hl], rfl⟩
  · rename_i h1
    cases d <;> first | (cases h1; done) | exact ⟨rfl, rfl⟩
end K25

set_option maxRecDepth 100000
set_option maxHeartbeats 1000000
namespace K25
open PySem PySem.Spec L2 Mi
local macro_rules | `(tactic| fail "mi e") => `(tactic| with_reducible first
  | (apply wp_var; next => with_unfolding_all rfl) | refine wp_int ?_ | refine wp_str ?_ | refine wp_bool ?_ | refine wp_non ?_ | refine wp_ty ?_
  | refine wp_nilL ?_ | refine wp_consL ?_ | refine wp_cmp ?_ | refine wp_bcall ?_ | refine wp_idx ?_ | refine wp_bin ?_ | refine wp_call ?_
  | refine wp_and ?_ | refine wp_or ?_ | refine wp_not ?_ | refine wp_chain ?_ | refine wp_ite ?_ | refine wp_tup ?_ | refine wp_lst ?_ | refine wp_lstM ?_
  | refine wp_edct ?_ | refine wp_sl ?_ | refine wp_partN ?_ | refine wp_partS ?_ | refine wp_callk ?_ | refine wp_lc ?_ | refine wp_condN ?_ | refine wp_condS ?_
  | refine wp_neg ?_ | refine wp_rev ?_ | refine wp_sset ?_ | refine wp_upper ?_ | refine wp_isn ?_ | refine wp_notn ?_)
local macro_rules | `(tactic| fail "mi s") => `(tactic| with_reducible first
  | refine ws_seq ?_ | refine ws_nil ?_ | refine ws_ite ?_ | refine ws_set ?_ | refine ws_ret ?_ | refine ws_expr ?_ | refine ws_asg ?_ | refine ws_par ?_ | refine ws_setItem ?_
  | refine ws_pass ?_ | refine ws_retN ?_ | refine ws_brk ?_ | refine ws_cont ?_ | refine ws_loop ?_ | (apply ws_aug; next => with_unfolding_all rfl))
local macro_rules | `(tactic| fail "mi b1") => `(tactic| with_reducible first
  | refine tq_bl ?_ | refine tq_int ?_ | refine tq_tup ?_ | refine tq_lst ?_ | refine tq_non ?_ | refine cq_bl ?_ | refine iq_int ?_ | refine if_t ?_ | refine if_f ?_ | refine if_n ?_ | refine so_some ?_
  | (apply if_dt; next => assumption) | (apply if_df; next => assumption) | (refine if_d ?_ ?_ <;> intro hb) | (apply if_et; next => assumption) | (apply if_en; next => assumption) | (apply if_nt; next => assumption) | (apply if_nn; next => assumption) | (refine if_eq ?_ ?_ <;> intro hb) | (refine if_ne ?_ ?_ <;> intro hb) | (apply if_bt; next => assumption) | (apply if_bf; next => assumption) | (refine if_b ?_ ?_ <;> intro hb) | (apply tq_of; next => assumption) | (apply so_of; next => assumption))
local macro_rules | `(tactic| fail "mi b") => `(tactic| first
  | fail "mi b1" | (with_reducible apply so_of; next => with_unfolding_all rfl) | (with_reducible refine And.intro ?_ ?_; next => (simp only [List.length_cons, List.length_nil]; decide)))
local macro_rules | `(tactic| fail "mi n") => `(tactic| first | decide | assumption | omega | apply_assumption)
local macro_rules | `(tactic| fail "mi r") => `(tactic| ((try dsimp only [b2, c2, bf]); with_unfolding_all first | with_reducible assumption | rfl | assumption | exact modD_ok _ (by fail "mi n") | exact divD_ok _ (by fail "mi n") (by fail "mi n") | exact mulD_l _ (by fail "mi n") | exact mulD_r _ (by fail "mi n") | exact powD_ok _ (by fail "mi n") (by fail "mi n")))
local macro_rules | `(tactic| fail "mi") => `(tactic| first
  | fail "mi s" | fail "mi e" | (with_reducible apply wp_glo; next => with_unfolding_all rfl) | (with_reducible refine sqq_nx ?_) | (with_reducible refine sqq_rt ?_) | (with_reducible refine sqq_ct ?_) | (with_reducible refine sqq_bk ?_) | (with_reducible refine tnq_nx ?_) | (with_reducible refine tnq_rt ?_) | (with_reducible refine tnq_ct ?_) | (with_reducible refine tnq_bk ?_)
  | (with_reducible refine rtq_rt ?_) | (with_reducible refine rtq_nx ?_)
  | fail "mi b"
  | (with_reducible apply Wp.ok; next => with_reducible assumption)
  | (with_reducible first | (apply ok_b2; next => fail "mi r") | (apply ok_c2; next => fail "mi r") | (apply ok_bf; next => fail "mi r") | (apply ok_idx; next => fail "mi r") | (apply ok_neg; next => fail "mi r") | (apply ok_sl; next => fail "mi r") | (apply ok_rev; next => fail "mi r") | (apply ok_sset; next => fail "mi r") | (apply ok_upper; next => fail "mi r") | (apply ok_aug; next => fail "mi r")))
/-- the pot at a place: at most c draws by hand were made -/
def Pot (pn : Nat) (c : Nat) (st : Sto) : Prop := ∃ own mixed cnt : Int, st[pn]? = some (.lst [.int own, .int mixed, .int cnt]) ∧ 0 ≤ own ∧ 0 ≤ mixed ∧ mixed < 2305843009213693951 ∧ 0 ≤ cnt ∧ cnt ≤ c
theorem ix_l {n : Nat} {st : Sto} {ds : List D} {k : Int} {x : D} (h : st[n]? = some (.lst ds)) (e : L2.atI ds k = some x) : idxD (.loc n) (.int k) st = .ok x st := idx_l (by simp only [itemsOf, h]) e
theorem take_ok {pn c : Nat} {st : Sto} (n : Nat) (u : Int) (P : Pot pn c st) (hc : c < 99999) (hu : 0 < u) (hu2 : u < 1000) :
    Wp (Cn (n + 1) "_law_take" [.loc pn, .int u] st) (fun a st' => ∃ r : Int, a = .int r ∧ 0 ≤ r ∧ r < u ∧ Pot pn (c + 1) st') noX := by
  obtain ⟨own, mixed, cnt, h, h1, h2, h3, h4, h5⟩ := P
  rw [c_take]
  refine wp_run (en := [some (.loc pn), some (.int u), none, none, none]) rfl rfl ?_
  unfold dlawtake
  have g0 := ix_l (k := 0) (x := .int own) h rfl
  have g2 := ix_l (k := 2) (x := .int cnt) h rfl
  repeat' fail "mi"
  · rename_i ho
    have m1 := modD_ok (i := own) st hu
    have d1 := divD_ok (i := own) st hu (show u < 1073741824 by omega)
    repeat' fail "mi"
    refine so_of (store_l (j := 0) _ h rfl) ?_
    repeat' fail "mi"
    exact ⟨_, rfl, Int.emod_nonneg _ (by omega), Int.emod_lt_of_pos _ hu, own / u, mixed, cnt, set_get h, Int.ediv_nonneg h1 (by omega), h2, h3, h4, by omega⟩
  · refine so_of (store_l (j := 2) _ h rfl) ?_
    have hS : (st.set pn (.lst [.int own, .int mixed, .int (cnt + 1)]))[pn]? = some (.lst [.int own, .int mixed, .int (cnt + 1)]) := set_get h
    generalize hst : st.set pn (.lst [.int own, .int mixed, .int (cnt + 1)]) = st2 at hS
    have e1 : [D.int own, D.int mixed, D.int cnt].set 2 (D.int (cnt + 1)) = [.int own, .int mixed, .int (cnt + 1)] := rfl
    rw [e1, hst]
    have k2 := ix_l (k := 2) (x := .int (cnt + 1)) hS rfl
    have k1 := ix_l (k := 1) (x := .int mixed) hS rfl
    have hp : ∃ p : Int, 0 < p ∧ p < 2147483648 ∧ idxD (.lst [D.int 2147483647, .int 2147483629, .int 2147483587, .int 2147483579, .int 2147483563]) (.int ((cnt + 1) % 5)) st2 = .ok (.int p) st2 := by
      have : (cnt + 1) % 5 = 0 ∨ (cnt + 1) % 5 = 1 ∨ (cnt + 1) % 5 = 2 ∨ (cnt + 1) % 5 = 3 ∨ (cnt + 1) % 5 = 4 := by omega
      rcases this with e | e | e | e | e <;> rw [e]
      · exact ⟨2147483647, by decide, by decide, rfl⟩
      · exact ⟨2147483629, by decide, by decide, rfl⟩
      · exact ⟨2147483587, by decide, by decide, rfl⟩
      · exact ⟨2147483579, by decide, by decide, rfl⟩
      · exact ⟨2147483563, by decide, by decide, rfl⟩
    obtain ⟨p, hp0, hp1, hp⟩ := hp
    have l1 : ((mixed + 98999 * (cnt + 1) * (cnt + 1) + 43).natAbs.log2 + 1) * 3 ≤ 134217728 := by
      have q : (mixed + 98999 * (cnt + 1) * (cnt + 1) + 43).natAbs < 2 ^ 64 := by
        have h1 : 98999 * (cnt + 1) * (cnt + 1) ≤ 98999 * 100000 * 100000 := Int.mul_le_mul (by omega) (by omega) (by omega) (by omega)
        have h0 : 0 ≤ 98999 * (cnt + 1) * (cnt + 1) := Int.mul_nonneg (by omega) (by omega)
        omega
      rcases log2_lt q with z | z
      · omega
      · rw [z]; decide
    have l2 : (98999 : Int).natAbs < 2 ^ 64 := by decide
    have l3 : (cnt + 1).natAbs < 2 ^ 64 := by omega
    have l4 : (79 : Int).natAbs < 2 ^ 64 := by decide
    have l5 : ∀ x : Int, (x % p).natAbs < 2 ^ 64 := fun x => by
      have := Int.emod_nonneg x (show p ≠ 0 by omega)
      have := Int.emod_lt_of_pos x hp0
      omega
    have pw := powD_ok st2 (show (0:Int) ≤ 3 by decide) l1
    repeat' fail "mi"
    subst hst
    exact ⟨_, rfl, Int.emod_nonneg _ (by omega), Int.emod_lt_of_pos _ hu, own, mixed, cnt + 1, hS, h1, h2, h3, by omega, by omega⟩
theorem atI_mem {ds : List D} {r : Int} (h0 : 0 ≤ r) (h1 : r < ds.length) : ∃ d ∈ ds, L2.atI ds r = some d := by
  have hl : r.toNat < ds.length := by omega
  refine ⟨ds[r.toNat], List.getElem_mem hl, ?_⟩
  unfold L2.atI L2.ixN
  rw [if_pos h0, if_pos h1]
  exact List.getElem?_eq_getElem hl
theorem of_ok {pn c : Nat} {st : Sto} (n : Nat) (ds : List D) (P : Pot pn c st) (hc : c < 99999) (hl : 0 < ds.length) (hl2 : ds.length < 1000) :
    Wp (Cn (n + 2) "_law_of" [.loc pn, .lst ds] st) (fun d st' => d ∈ ds ∧ Pot pn (c + 1) st') noX := by
  rw [c_of]
  refine wp_run (en := [some (.loc pn), some (.lst ds)]) rfl rfl ?_
  unfold dlawof
  repeat' fail "mi"
  refine (take_ok n (ds.length : Int) P hc (by omega) (by omega)).to fun a st' h => ?_
  obtain ⟨r, rfl, r0, r1, P'⟩ := h
  obtain ⟨d, hd, ed⟩ := atI_mem r0 r1
  have e := idx_l (show itemsOf (.lst ds) st' = some ds from rfl) ed
  repeat' fail "mi"
  exact ⟨hd, P'⟩
end K25

set_option maxRecDepth 100000
set_option maxHeartbeats 1000000
namespace K25
open PySem PySem.Spec L2 Mi
local macro_rules | `(tactic| fail "mi e") => `(tactic| with_reducible first
  | (apply wp_var; next => with_unfolding_all rfl) | refine wp_int ?_ | refine wp_str ?_ | refine wp_bool ?_ | refine wp_non ?_ | refine wp_ty ?_
  | refine wp_nilL ?_ | refine wp_consL ?_ | refine wp_cmp ?_ | refine wp_bcall ?_ | refine wp_idx ?_ | refine wp_bin ?_ | refine wp_call ?_
  | refine wp_and ?_ | refine wp_or ?_ | refine wp_not ?_ | refine wp_chain ?_ | refine wp_ite ?_ | refine wp_tup ?_ | refine wp_lst ?_ | refine wp_lstM ?_
  | refine wp_edct ?_ | refine wp_sl ?_ | refine wp_partN ?_ | refine wp_partS ?_ | refine wp_callk ?_ | refine wp_lc ?_ | refine wp_condN ?_ | refine wp_condS ?_
  | refine wp_neg ?_ | refine wp_rev ?_ | refine wp_sset ?_ | refine wp_upper ?_ | refine wp_isn ?_ | refine wp_notn ?_)
local macro_rules | `(tactic| fail "mi s") => `(tactic| with_reducible first
  | refine ws_seq ?_ | refine ws_nil ?_ | refine ws_ite ?_ | refine ws_set ?_ | refine ws_ret ?_ | refine ws_expr ?_ | refine ws_asg ?_ | refine ws_par ?_ | refine ws_setItem ?_
  | refine ws_pass ?_ | refine ws_retN ?_ | refine ws_brk ?_ | refine ws_cont ?_ | refine ws_loop ?_ | (apply ws_aug; next => with_unfolding_all rfl))
local macro_rules | `(tactic| fail "mi b1") => `(tactic| with_reducible first
  | refine tq_bl ?_ | refine tq_int ?_ | refine tq_tup ?_ | refine tq_lst ?_ | refine tq_non ?_ | refine cq_bl ?_ | refine iq_int ?_ | refine if_t ?_ | refine if_f ?_ | refine if_n ?_ | refine so_some ?_
  | (apply if_dt; next => assumption) | (apply if_df; next => assumption) | (refine if_d ?_ ?_ <;> intro hb) | (apply if_et; next => assumption) | (apply if_en; next => assumption) | (apply if_nt; next => assumption) | (apply if_nn; next => assumption) | (refine if_eq ?_ ?_ <;> intro hb) | (refine if_ne ?_ ?_ <;> intro hb) | (apply if_bt; next => assumption) | (apply if_bf; next => assumption) | (refine if_b ?_ ?_ <;> intro hb) | (apply tq_of; next => assumption) | (apply so_of; next => assumption))
local macro_rules | `(tactic| fail "mi b") => `(tactic| first
  | fail "mi b1" | (with_reducible apply so_of; next => with_unfolding_all rfl) | (with_reducible refine And.intro ?_ ?_; next => (simp only [List.length_cons, List.length_nil]; decide)))
local macro_rules | `(tactic| fail "mi n") => `(tactic| first | decide | assumption | omega | apply_assumption)
local macro_rules | `(tactic| fail "mi r") => `(tactic| ((try dsimp only [b2, c2, bf]); with_unfolding_all first | with_reducible assumption | rfl | assumption | exact modD_ok _ (by fail "mi n") | exact divD_ok _ (by fail "mi n") (by fail "mi n") | exact mulD_l _ (by fail "mi n") | exact mulD_r _ (by fail "mi n") | exact powD_ok _ (by fail "mi n") (by fail "mi n")))
local macro_rules | `(tactic| fail "mi") => `(tactic| first
  | fail "mi s" | fail "mi e" | (with_reducible apply wp_glo; next => with_unfolding_all rfl) | (with_reducible refine sqq_nx ?_) | (with_reducible refine sqq_rt ?_) | (with_reducible refine sqq_ct ?_) | (with_reducible refine sqq_bk ?_) | (with_reducible refine tnq_nx ?_) | (with_reducible refine tnq_rt ?_) | (with_reducible refine tnq_ct ?_) | (with_reducible refine tnq_bk ?_)
  | (with_reducible refine rtq_rt ?_) | (with_reducible refine rtq_nx ?_)
  | fail "mi b"
  | (with_reducible apply Wp.ok; next => with_reducible assumption)
  | (with_reducible first | (apply ok_b2; next => fail "mi r") | (apply ok_c2; next => fail "mi r") | (apply ok_bf; next => fail "mi r") | (apply ok_idx; next => fail "mi r") | (apply ok_neg; next => fail "mi r") | (apply ok_sl; next => fail "mi r") | (apply ok_rev; next => fail "mi r") | (apply ok_sset; next => fail "mi r") | (apply ok_upper; next => fail "mi r") | (apply ok_aug; next => fail "mi r")))
mutual
def ln : D → Nat
  | .tup ds => max ds.length (lns ds)
  | .lst ds => max ds.length (lns ds)
  | _ => 0
def lns : List D → Nat
  | [] => 0
  | d :: ds => max (ln d) (lns ds)
end
theorem lns_le {ds : List D} {q : Nat} : lns ds ≤ q ↔ ∀ d ∈ ds, ln d ≤ q := by
  induction ds with
  | nil => simp [lns]
  | cons a r ih =>
    unfold lns
    rw [Nat.max_le, ih]
    constructor
    · rintro ⟨h1, h2⟩ d hd
      rcases List.mem_cons.mp hd with e | hd
      · rw [e]; exact h1
      · exact h2 d hd
    · exact fun h => ⟨h a (by simp), fun d hd => h d (List.mem_cons_of_mem _ hd)⟩
theorem isi_of {d : D} {n c : Nat} {st : Sto} (e : tyOfD d st = some c) (hn : n = 1 ∨ n = 2) : True := trivial
theorem isi_int {d : D} (st : Sto) (h : pl d = true) : isiD [d, .ty "int"] st = .ok (.bl (match d with | .int _ => true | .bl _ => true | _ => false)) st := by cases d <;> first | rfl | (simp [pl] at h; done)
theorem isi_bool {d : D} (st : Sto) (h : pl d = true) : isiD [d, .ty "bool"] st = .ok (.bl (match d with | .bl _ => true | _ => false)) st := by cases d <;> first | rfl | (simp [pl] at h; done)
theorem deqL_ints (n : Nat) : ∀ a b : List Int, deqL (deq n) (a.map D.int) (b.map D.int) = some (decide (a = b))
  | [], [] => rfl
  | [], _ :: _ => rfl
  | _ :: _, [] => rfl
  | x :: a, y :: b => by
    have ih := deqL_ints n a b
    have e : deq n (.int x) (.int y) = some (x == y) := by cases n <;> rfl
    simp only [List.map_cons, deqL, e, ih, List.cons.injEq]
    congr 1
    by_cases h : x = y
    · subst h; simp
    · simp [h]
theorem up_sort (ns : List Int) : decide (ns = sortU ns) = upB ns := by
  have h1 : ∀ ns : List Int, upB ns = true ↔ ns.Pairwise (· < ·) := by
    intro ns
    induction ns with
    | nil => simp [upB]
    | cons x r ih =>
      cases r with
      | nil => simp [upB]
      | cons y r =>
        unfold upB
        rw [Bool.and_eq_true, decide_eq_true_eq, ih, List.pairwise_cons (l := y :: r)]
        constructor
        · rintro ⟨h1, h2⟩
          refine ⟨fun z hz => ?_, h2⟩
          rcases List.mem_cons.mp hz with e | hz
          · rw [e]; exact h1
          · have := (List.pairwise_cons.mp h2).1 z hz; omega
        · exact fun ⟨h1, h2⟩ => ⟨h1 y (by simp), h2⟩
  by_cases h : upB ns = true
  · rw [h, decide_eq_true_eq]
    exact (sortU_id ((h1 ns).mp h)).symm
  · rw [Bool.not_eq_true] at h
    rw [h, decide_eq_false_iff_not]
    intro e
    have := sortU_up ns
    rw [← e] at this
    rw [(h1 ns).mpr this] at h
    cases h
theorem ne_sort (ns : List Int) (st : Sto) : neD (.lst (ns.map D.int)) (.lst ((sortU ns).map D.int)) st = .ok (.bl (!upB ns)) st := by
  have e : deq 40 (.lst (ns.map D.int)) (.lst ((sortU ns).map D.int)) = some (decide (ns = sortU ns)) := deqL_ints 39 ns (sortU ns)
  unfold neD
  rw [e, up_sort]
  rfl
theorem sset_ok {ns : List Int} (st : Sto) (h : ns.length < 64) : ssetD (.tup (ns.map D.int)) st = .ok (.lst ((sortU ns).map D.int)) st := by
  simp only [ssetD, intsOf_map, h, if_true]
theorem plcB_bl {b : Bool} : plcB (.bl b) = false := rfl
theorem due_ok (n : Nat) (d : D) (st : Sto) (h : pl d = true) (hw : wt d ≤ 1000000) (hl : ln d < 64) : Cn (n + 2) "_law_due" [d] st = .ok (.bl (ruleB d)) st := by
  rw [c_due]
  refine Wp_eq (wp_run (en := [some d, none, none, none, none]) rfl rfl ?_)
  unfold dlawdue
  have e := isi_t st h
  repeat' fail "mi"
  · rename_i h1
    obtain ⟨ds, rfl⟩ := isT_eq h1
    have e1 := len_tup ds st
    by_cases hl3 : ds.length = 3
    · match ds, hl3 with
      | [w, s, u], _ =>
        obtain ⟨p1, p2, p3⟩ := pl3 h
        obtain ⟨w1, w2, w3⟩ := wt3 hw
        have i1 := isi_str st p1
        have i2 := isi_str st p3
        have i3 := isi_t st p2
        have i4 := lword_ok n u st p3 w3
        have e3 : (([w, s, u].length : Nat) : Int) = 3 := rfl
        repeat' fail "mi"
        · rename_i h2
          have i5 := nam_in w st h2
          repeat' fail "mi"
          · rename_i h3 h4
            obtain ⟨ks, rfl⟩ := isT_eq h4
            have hk : ∀ k ∈ ks, pl k = true := fun k hk => pls_mem p2 hk
            have hkl : ks.length < 64 := by
              simp only [ln, lns] at hl
              omega
            unfold lplawdue1
            repeat' fail "mi"
            refine for_run (fun xs en st' => ∃ z, en = [some (.tup [w, .tup ks, u]), z, some w, some (.tup ks), some u] ∧ st' = st ∧ ks.all plcB = xs.all plcB ∧ ∀ x ∈ xs, pl x = true) (fun x xs en st' hI => ?_) (fun en st' hI => ?_) ks _ st ⟨none, rfl, rfl, rfl, hk⟩
            · obtain ⟨z, rfl, rfl, ha, hx⟩ := hI
              refine ⟨_, rfl, ?_⟩
              have px := hx x (by simp)
              have j1 := isi_int st' px
              have j2 := isi_bool st' px
              unfold lplawdue1b
              have fin : plcB x = true → TnQ (fun en st'_1 => ∃ z, en = [some (.tup [w, .tup ks, u]), z, some w, some (.tup ks), some u] ∧ st'_1 = st' ∧ ks.all plcB = xs.all plcB ∧ ∀ x ∈ xs, pl x = true) (RtQ fun a s => a = .bl (ruleB (.tup [w, .tup ks, u])) ∧ s = st') (.nx [some (.tup [w, .tup ks, u]), some x, some w, some (.tup ks), some u]) st' := fun hp => ⟨_, rfl, rfl, by rw [ha, List.all_cons, hp, Bool.true_and], fun y hy => hx y (List.mem_cons_of_mem _ hy)⟩
              have bad : plcB x = false → D.bl false = .bl (ruleB (.tup [w, .tup ks, u])) ∧ st' = st' := fun hp => by
                have : ks.all plcB = false := by rw [ha, List.all_cons, hp, Bool.false_and]
                exact ⟨by simp only [ruleB, skB, this, Bool.false_and, Bool.and_false], rfl⟩
              cases x with
              | int i =>
                repeat' fail "mi"
                · rename_i q1 q2
                  exact fin (by simp only [plcB, q1, q2, decide_true, Bool.and_self])
                · rename_i q1 q2
                  exact bad (by simp only [plcB, q2, decide_false, Bool.and_false])
                · rename_i q1
                  exact bad (by simp only [plcB, q1, decide_false, Bool.false_and])
              | bl b =>
                repeat' fail "mi"
                all_goals exact bad rfl
              | _ =>
                repeat' fail "mi"
                all_goals exact bad rfl
            · obtain ⟨z, rfl, rfl, ha, _⟩ := hI
              have ha' : ks.all plcB = true := ha
              have ek := plc_ints ha'
              have hkl' : (ks.map intV).length < 64 := by rw [List.length_map]; exact hkl
              have j1 := ne_sort (ks.map intV) st'
              have j2 := sset_ok st' hkl'
              rw [← ek] at j1 j2
              have up : upB (ks.map intV) = skB (.tup ks) := by simp only [skB, ha', Bool.true_and]
              rw [up] at j1
              repeat' fail "mi"
              · rename_i q1 q2
                have i7 := nil_eq st' q2
                repeat' fail "mi"
                · rename_i q3
                  exact ⟨by simp only [ruleB, h3, q1, q3, Bool.or_true, Bool.and_true], rfl⟩
                · rename_i q3
                  exact ⟨by simp only [ruleB, h3, q1, q3, Bool.or_false, Bool.true_and], rfl⟩
              · rename_i q1 q2
                exact ⟨by simp only [ruleB, h3, q1, q2, wordB_S q2, nilB_S q2, Bool.or_false, Bool.and_false], rfl⟩
              · rename_i q1
                exact ⟨by simp only [ruleB, q1, Bool.false_and, Bool.and_false], rfl⟩
          · rename_i h3 h4
            refine ⟨?_, rfl⟩
            cases s <;> first | (cases h4; done) | simp only [ruleB, skB, Bool.false_and, Bool.and_false]
          · rename_i h3
            exact ⟨by simp only [ruleB, h3, Bool.false_and], rfl⟩
        · rename_i h2
          exact ⟨by simp only [ruleB, namB_S h2, Bool.false_and], rfl⟩
    · have e3 : ((ds.length : Nat) : Int) ≠ 3 := by omega
      repeat' fail "mi"
      exact ⟨by rw [ruleB_len hl3], rfl⟩
  · rename_i h1
    cases d <;> first | (cases h1; done) | exact ⟨rfl, rfl⟩
end K25

set_option maxRecDepth 100000
set_option maxHeartbeats 1000000
namespace K25
open PySem PySem.Spec L2 Mi
local macro_rules | `(tactic| fail "mi e") => `(tactic| with_reducible first
  | (apply wp_var; next => with_unfolding_all rfl) | refine wp_int ?_ | refine wp_str ?_ | refine wp_bool ?_ | refine wp_non ?_ | refine wp_ty ?_
  | refine wp_nilL ?_ | refine wp_consL ?_ | refine wp_cmp ?_ | refine wp_bcall ?_ | refine wp_idx ?_ | refine wp_bin ?_ | refine wp_call ?_
  | refine wp_and ?_ | refine wp_or ?_ | refine wp_not ?_ | refine wp_chain ?_ | refine wp_ite ?_ | refine wp_tup ?_ | refine wp_lst ?_ | refine wp_lstM ?_
  | refine wp_edct ?_ | refine wp_sl ?_ | refine wp_partN ?_ | refine wp_partS ?_ | refine wp_callk ?_ | refine wp_lc ?_ | refine wp_condN ?_ | refine wp_condS ?_
  | refine wp_neg ?_ | refine wp_rev ?_ | refine wp_sset ?_ | refine wp_upper ?_ | refine wp_isn ?_ | refine wp_notn ?_)
local macro_rules | `(tactic| fail "mi s") => `(tactic| with_reducible first
  | refine ws_seq ?_ | refine ws_nil ?_ | refine ws_ite ?_ | refine ws_set ?_ | refine ws_ret ?_ | refine ws_expr ?_ | refine ws_asg ?_ | refine ws_par ?_ | refine ws_setItem ?_
  | refine ws_pass ?_ | refine ws_retN ?_ | refine ws_brk ?_ | refine ws_cont ?_ | refine ws_loop ?_ | (apply ws_aug; next => with_unfolding_all rfl))
local macro_rules | `(tactic| fail "mi b1") => `(tactic| with_reducible first
  | refine tq_bl ?_ | refine tq_int ?_ | refine tq_tup ?_ | refine tq_lst ?_ | refine tq_non ?_ | refine cq_bl ?_ | refine iq_int ?_ | refine if_t ?_ | refine if_f ?_ | refine if_n ?_ | refine so_some ?_
  | (apply if_dt; next => assumption) | (apply if_df; next => assumption) | (refine if_d ?_ ?_ <;> intro hb) | (apply if_et; next => assumption) | (apply if_en; next => assumption) | (apply if_nt; next => assumption) | (apply if_nn; next => assumption) | (refine if_eq ?_ ?_ <;> intro hb) | (refine if_ne ?_ ?_ <;> intro hb) | (apply if_bt; next => assumption) | (apply if_bf; next => assumption) | (refine if_b ?_ ?_ <;> intro hb) | (apply tq_of; next => assumption) | (apply so_of; next => assumption))
local macro_rules | `(tactic| fail "mi b") => `(tactic| first
  | fail "mi b1" | (with_reducible apply so_of; next => with_unfolding_all rfl) | (with_reducible refine And.intro ?_ ?_; next => (simp only [List.length_cons, List.length_nil]; decide)))
local macro_rules | `(tactic| fail "mi n") => `(tactic| first | decide | assumption | omega | apply_assumption)
local macro_rules | `(tactic| fail "mi r") => `(tactic| ((try dsimp only [b2, c2, bf]); with_unfolding_all first | with_reducible assumption | rfl | assumption | exact modD_ok _ (by fail "mi n") | exact divD_ok _ (by fail "mi n") (by fail "mi n") | exact mulD_l _ (by fail "mi n") | exact mulD_r _ (by fail "mi n") | exact powD_ok _ (by fail "mi n") (by fail "mi n")))
local macro_rules | `(tactic| fail "mi") => `(tactic| first
  | fail "mi s" | fail "mi e" | (with_reducible apply wp_glo; next => with_unfolding_all rfl) | (with_reducible refine sqq_nx ?_) | (with_reducible refine sqq_rt ?_) | (with_reducible refine sqq_ct ?_) | (with_reducible refine sqq_bk ?_) | (with_reducible refine tnq_nx ?_) | (with_reducible refine tnq_rt ?_) | (with_reducible refine tnq_ct ?_) | (with_reducible refine tnq_bk ?_)
  | (with_reducible refine rtq_rt ?_) | (with_reducible refine rtq_nx ?_)
  | fail "mi b"
  | (with_reducible apply Wp.ok; next => with_reducible assumption)
  | (with_reducible first | (apply ok_b2; next => fail "mi r") | (apply ok_c2; next => fail "mi r") | (apply ok_bf; next => fail "mi r") | (apply ok_idx; next => fail "mi r") | (apply ok_neg; next => fail "mi r") | (apply ok_sl; next => fail "mi r") | (apply ok_rev; next => fail "mi r") | (apply ok_sset; next => fail "mi r") | (apply ok_upper; next => fail "mi r") | (apply ok_aug; next => fail "mi r")))
structure Sm (w q l : Nat) (d : D) : Prop where
  pl : pl d = true
  wt : wt d ≤ w
  dp : dp d ≤ q
  ln : ln d ≤ l
structure Sms (w q l : Nat) (ds : List D) : Prop where
  pl : pls ds = true
  wt : wts ds ≤ w
  dp : dps ds ≤ q
  ln : lns ds ≤ l
theorem Sm.mono {w q l w' q' l' : Nat} {d : D} (h : Sm w q l d) (h1 : w ≤ w') (h2 : q ≤ q') (h3 : l ≤ l') : Sm w' q' l' d := ⟨h.pl, Nat.le_trans h.wt h1, Nat.le_trans h.dp h2, Nat.le_trans h.ln h3⟩
theorem Sms.mem {w q l : Nat} {ds : List D} (h : Sms w q l ds) {d : D} (hd : d ∈ ds) : Sm w q l d :=
  ⟨pls_mem h.pl hd, Nat.le_trans (by have := wts_mem hd; omega) h.wt, dps_le.mp h.dp d hd, lns_le.mp h.ln d hd⟩
theorem sm_tup {w q l : Nat} {ds : List D} : Sm (w + 8) (q + 1) l (.tup ds) ↔ Sms w q l ds ∧ ds.length ≤ l := by
  constructor
  · rintro ⟨h1, h2, h3, h4⟩
    simp only [Mi.wt] at h2
    simp only [Mi.dp] at h3
    simp only [K25.ln, Nat.max_le] at h4
    exact ⟨⟨h1, by omega, by omega, h4.2⟩, h4.1⟩
  · rintro ⟨⟨h1, h2, h3, h4⟩, h5⟩
    refine ⟨h1, ?_, ?_, ?_⟩
    · simp only [Mi.wt]; omega
    · simp only [Mi.dp]; omega
    · simp only [K25.ln, Nat.max_le]; exact ⟨h5, h4⟩
theorem sm_lst {w q l : Nat} {ds : List D} : Sm (w + 8) (q + 1) l (.lst ds) ↔ Sms w q l ds ∧ ds.length ≤ l := by
  constructor
  · rintro ⟨h1, h2, h3, h4⟩
    simp only [Mi.wt] at h2
    simp only [Mi.dp] at h3
    simp only [K25.ln, Nat.max_le] at h4
    exact ⟨⟨h1, by omega, by omega, h4.2⟩, h4.1⟩
  · rintro ⟨⟨h1, h2, h3, h4⟩, h5⟩
    refine ⟨h1, ?_, ?_, ?_⟩
    · simp only [Mi.wt]; omega
    · simp only [Mi.dp]; omega
    · simp only [K25.ln, Nat.max_le]; exact ⟨h5, h4⟩
theorem Sms.sub {w q l : Nat} {ds es : List D} (h : Sms w q l ds) (hs : es.Sublist ds) : Sms w q l es := by
  refine ⟨pls_all fun d hd => pls_mem h.pl (hs.subset hd), Nat.le_trans ?_ h.wt, dps_le.mpr fun d hd => dps_le.mp h.dp d (hs.subset hd), lns_le.mpr fun d hd => lns_le.mp h.ln d (hs.subset hd)⟩
  have : ∀ {a b : List D}, a.Sublist b → wts a ≤ wts b := by
    intro a b s
    induction s with
    | slnil => exact Nat.le_refl _
    | cons x s ih => simp only [wts]; omega
    | cons_cons x s ih => simp only [wts]; omega
  exact this hs
theorem cut_sub {α : Type} (ds : List α) (a b : Option Int) : (cutD ds a b).Sublist ds := (List.take_sublist _ _).trans (List.drop_sublist _ _)
theorem Sms.app {w q l w' : Nat} {ds es : List D} (h : Sms w q l ds) (g : Sms w' q l es) : Sms (w + w') q l (ds ++ es) := by
  refine ⟨by rw [pls_app, h.pl, g.pl]; rfl, by rw [wts_app]; exact Nat.add_le_add h.wt g.wt, dps_le.mpr fun d hd => ?_, lns_le.mpr fun d hd => ?_⟩
  · rcases List.mem_append.mp hd with hd | hd
    · exact dps_le.mp h.dp d hd
    · exact dps_le.mp g.dp d hd
  · rcases List.mem_append.mp hd with hd | hd
    · exact lns_le.mp h.ln d hd
    · exact lns_le.mp g.ln d hd
theorem Sms.one {w q l : Nat} {d : D} (h : Sm w q l d) : Sms (w + 2) q l [d] :=
  ⟨by simp only [pls, h.pl, Bool.and_self], by have := h.wt; simp only [wts]; omega, by have := h.dp; simp only [dps]; omega, by have := h.ln; simp only [lns]; omega⟩
theorem wts_rev (ds : List D) : wts ds.reverse = wts ds := by
  induction ds with
  | nil => rfl
  | cons d r ih => rw [List.reverse_cons, wts_app, ih]; simp only [wts]; omega
theorem Sms.rev {w q l : Nat} {ds : List D} (h : Sms w q l ds) : Sms w q l ds.reverse :=
  ⟨pls_all fun d hd => pls_mem h.pl (List.mem_reverse.mp hd), by rw [wts_rev]; exact h.wt, dps_le.mpr fun d hd => dps_le.mp h.dp d (List.mem_reverse.mp hd), lns_le.mpr fun d hd => lns_le.mp h.ln d (List.mem_reverse.mp hd)⟩
/-! ### words in capitals -/
theorem up1_lt : ∀ c, c < 128 → PyProof.Rows.up1 c < 128 := by decide +kernel
theorem upper_ok {s : List Nat} (st : Sto) (h : pl (.str s) = true) (hl : s.length ≤ 5592405) : upperD (.str s) st = .ok (.str (s.map PyProof.Rows.up1)) st := by
  have e := SX.upper_S (a := s) (by
    simp only [pl] at h
    rw [List.all_eq_true] at h ⊢
    exact h)
  simp only [upperD]
  rw [if_pos hl]
  show R.ok (D.str (Txt.upper (SX.S s)).cps.toList) st = _
  rw [e]
theorem up1_pl {s : List Nat} (h : pl (.str s) = true) : pl (.str (s.map PyProof.Rows.up1)) = true := by
  simp only [pl, List.all_eq_true, List.mem_map, decide_eq_true_eq] at h ⊢
  rintro c ⟨x, hx, rfl⟩
  exact up1_lt x (h x hx)
end K25

set_option maxRecDepth 100000
set_option maxHeartbeats 1000000
namespace K25
open PySem PySem.Spec L2 Mi
local macro_rules | `(tactic| fail "mi e") => `(tactic| with_reducible first
  | (apply wp_var; next => with_unfolding_all rfl) | refine wp_int ?_ | refine wp_str ?_ | refine wp_bool ?_ | refine wp_non ?_ | refine wp_ty ?_
  | refine wp_nilL ?_ | refine wp_consL ?_ | refine wp_cmp ?_ | refine wp_bcall ?_ | refine wp_idx ?_ | refine wp_bin ?_ | refine wp_call ?_
  | refine wp_and ?_ | refine wp_or ?_ | refine wp_not ?_ | refine wp_chain ?_ | refine wp_ite ?_ | refine wp_tup ?_ | refine wp_lst ?_ | refine wp_lstM ?_
  | refine wp_edct ?_ | refine wp_sl ?_ | refine wp_partN ?_ | refine wp_partS ?_ | refine wp_callk ?_ | refine wp_lc ?_ | refine wp_condN ?_ | refine wp_condS ?_
  | refine wp_neg ?_ | refine wp_rev ?_ | refine wp_sset ?_ | refine wp_upper ?_ | refine wp_isn ?_ | refine wp_notn ?_)
local macro_rules | `(tactic| fail "mi s") => `(tactic| with_reducible first
  | refine ws_seq ?_ | refine ws_nil ?_ | refine ws_ite ?_ | refine ws_set ?_ | refine ws_ret ?_ | refine ws_expr ?_ | refine ws_asg ?_ | refine ws_par ?_ | refine ws_setItem ?_
  | refine ws_pass ?_ | refine ws_retN ?_ | refine ws_brk ?_ | refine ws_cont ?_ | refine ws_loop ?_ | (apply ws_aug; next => with_unfolding_all rfl))
local macro_rules | `(tactic| fail "mi b1") => `(tactic| with_reducible first
  | refine tq_bl ?_ | refine tq_int ?_ | refine tq_tup ?_ | refine tq_lst ?_ | refine tq_non ?_ | refine cq_bl ?_ | refine iq_int ?_ | refine if_t ?_ | refine if_f ?_ | refine if_n ?_ | refine so_some ?_
  | (apply if_dt; next => assumption) | (apply if_df; next => assumption) | (refine if_d ?_ ?_ <;> intro hb) | (apply if_et; next => assumption) | (apply if_en; next => assumption) | (apply if_nt; next => assumption) | (apply if_nn; next => assumption) | (refine if_eq ?_ ?_ <;> intro hb) | (refine if_ne ?_ ?_ <;> intro hb) | (apply if_bt; next => assumption) | (apply if_bf; next => assumption) | (refine if_b ?_ ?_ <;> intro hb) | (apply tq_of; next => assumption) | (apply so_of; next => assumption))
local macro_rules | `(tactic| fail "mi b") => `(tactic| first
  | fail "mi b1" | (with_reducible apply so_of; next => with_unfolding_all rfl) | (with_reducible refine And.intro ?_ ?_; next => (simp only [List.length_cons, List.length_nil]; decide)))
local macro_rules | `(tactic| fail "mi n") => `(tactic| first | decide | assumption | omega | apply_assumption)
local macro_rules | `(tactic| fail "mi r") => `(tactic| ((try dsimp only [b2, c2, bf]); with_unfolding_all first | with_reducible assumption | rfl | assumption | exact modD_ok _ (by fail "mi n") | exact divD_ok _ (by fail "mi n") (by fail "mi n") | exact mulD_l _ (by fail "mi n") | exact mulD_r _ (by fail "mi n") | exact powD_ok _ (by fail "mi n") (by fail "mi n")))
local macro_rules | `(tactic| fail "mi") => `(tactic| first
  | fail "mi s" | fail "mi e" | (with_reducible apply wp_glo; next => with_unfolding_all rfl) | (with_reducible refine sqq_nx ?_) | (with_reducible refine sqq_rt ?_) | (with_reducible refine sqq_ct ?_) | (with_reducible refine sqq_bk ?_) | (with_reducible refine tnq_nx ?_) | (with_reducible refine tnq_rt ?_) | (with_reducible refine tnq_ct ?_) | (with_reducible refine tnq_bk ?_)
  | (with_reducible refine rtq_rt ?_) | (with_reducible refine rtq_nx ?_)
  | fail "mi b"
  | (with_reducible apply Wp.ok; next => with_reducible assumption)
  | (with_reducible first | (apply ok_b2; next => fail "mi r") | (apply ok_c2; next => fail "mi r") | (apply ok_bf; next => fail "mi r") | (apply ok_idx; next => fail "mi r") | (apply ok_neg; next => fail "mi r") | (apply ok_sl; next => fail "mi r") | (apply ok_rev; next => fail "mi r") | (apply ok_sset; next => fail "mi r") | (apply ok_upper; next => fail "mi r") | (apply ok_aug; next => fail "mi r")))
def someL : List D := [.non, .bl true, .int 0, .int 1, .int (-1), .str [], .str [120], .str [107, 101, 121], .tup [], .lst [], .dct [] [], .tup [.tup []], .tup [.str []], .tup [.str [99, 111, 109, 101]]]
theorem someL_sm : ∀ d ∈ someL, Sm 100 2 1 d := by
  have : ∀ d ∈ someL, pl d = true ∧ wt d ≤ 100 ∧ dp d ≤ 2 ∧ ln d ≤ 1 := by
    intro d hd
    simp only [someL, List.mem_cons, List.not_mem_nil, or_false] at hd
    rcases hd with rfl | rfl | rfl | rfl | rfl | rfl | rfl | rfl | rfl | rfl | rfl | rfl | rfl | rfl <;> decide
  exact fun d hd => let ⟨a, b, c, e⟩ := this d hd; ⟨a, b, c, e⟩
theorem addL (a b : List D) (st : Sto) (h : a.length + b.length ≤ sz) : addD (.lst a) (.lst b) st = .ok (.lst (a ++ b)) st := if_pos h
theorem addT (a b : List D) (st : Sto) (h : a.length + b.length ≤ sz) : addD (.tup a) (.tup b) st = .ok (.tup (a ++ b)) st := if_pos h
theorem addS (a b : List Nat) (st : Sto) (h : a.length + b.length ≤ sz) : addD (.str a) (.str b) st = .ok (.str (a ++ b)) st := if_pos h
theorem mulL (a : List D) (st : Sto) (h : a.length ≤ 1000) : mulD (.lst a) (.int 2) st = .ok (.lst (a ++ a)) st := by
  have h1 : (0 : Int) ≤ 2 ∧ (2 : Int) ≤ 1000 ∧ a.length * (2 : Int).toNat ≤ sz := ⟨by decide, by decide, by
    show a.length * 2 ≤ 16777216
    omega⟩
  have e : mulD (.lst a) (.int 2) st = .ok (.lst (List.replicate (2 : Int).toNat a).flatten) st := if_pos h1
  rw [e]
  have : (List.replicate (2 : Int).toNat a).flatten = a ++ a := by
    show (List.replicate 2 a).flatten = _
    simp [List.replicate]
  rw [this]
theorem slS (s : List Nat) (a b : Option Int) (st : Sto) (h : s.length ≤ sz) : slD (.str s) a b st = .ok (.str (cutD s a b)) st := if_pos h
theorem sm_str {s t : List Nat} {w q l : Nat} (h : Sm w q l (.str s)) (k : Nat) (h1 : ∀ c ∈ t, c ∈ s ∨ c < 128) (h2 : t.length ≤ s.length + k) : Sm (w + 10 * k) q l (.str t) := by
  refine ⟨?_, ?_, by simp only [dp]; exact Nat.zero_le _, by simp only [ln]; exact Nat.zero_le _⟩
  · have := h.pl
    simp only [pl, List.all_eq_true, decide_eq_true_eq] at this ⊢
    intro c hc
    rcases h1 c hc with h | h
    · exact this c h
    · exact h
  · have := h.wt
    simp only [wt] at this ⊢
    omega
def oddT (ds : List D) : List D := [.tup (cutD ds (some 1) none), .tup (cutD ds none (some (-1))), .tup ds.reverse, .tup (ds ++ cutD ds (some (-1)) none), .lst ds, .tup [.tup ds]]
def oddS (s : List Nat) : List D := [.str (s ++ [97]), .str (cutD s (some 1) none), .str (s.map PyProof.Rows.up1), .str (s ++ [32]), .lst [.str s], .tup [.str s]]
theorem cut_neg (ds : List D) : (cutD ds (some (-1)) none).length ≤ 1 := by
  unfold cutD
  rw [List.length_take, List.length_drop]
  have : HT.sIx ds.length ds.length none - HT.sIx ds.length 0 (some (-1)) ≤ 1 := by
    simp [HT.sIx]
    omega
  omega
theorem oddT_sm {w q l : Nat} {ds : List D} (h : Sm w q l (.tup ds)) : ∀ d ∈ oddT ds, Sm (2 * w + 100) (q + 2) (l + 1) d := by
  have hw : 8 ≤ w := by have := h.wt; simp only [wt] at this; omega
  have hq : 1 ≤ q := by have := h.dp; simp only [dp] at this; omega
  obtain ⟨w', rfl⟩ : ∃ w', w = w' + 8 := ⟨w - 8, by omega⟩
  obtain ⟨q', rfl⟩ : ∃ q', q = q' + 1 := ⟨q - 1, by omega⟩
  obtain ⟨hs, hl⟩ := sm_tup.mp h
  intro d hd
  simp only [oddT, List.mem_cons, List.not_mem_nil, or_false] at hd
  have sub : ∀ {es : List D}, es.Sublist ds → Sm (2 * (w' + 8) + 100) (q' + 1 + 2) (l + 1) (.tup es) := fun s =>
    (sm_tup.mpr ⟨hs.sub s, Nat.le_trans s.length_le hl⟩).mono (by omega) (by omega) (by omega)
  rcases hd with rfl | rfl | rfl | rfl | rfl | rfl
  · exact sub (cut_sub _ _ _)
  · exact sub (cut_sub _ _ _)
  · exact (sm_tup.mpr ⟨hs.rev, by rw [List.length_reverse]; exact hl⟩).mono (by omega) (by omega) (by omega)
  · have c := cut_neg ds
    have g := hs.app (hs.sub (cut_sub ds (some (-1)) none))
    exact (sm_tup.mpr ⟨(⟨g.pl, g.wt, g.dp, Nat.le_succ_of_le g.ln⟩ : Sms _ _ (l + 1) _), by rw [List.length_append]; omega⟩).mono (by omega) (by omega) (by omega)
  · exact (sm_lst.mpr ⟨hs, hl⟩).mono (by omega) (by omega) (by omega)
  · have g := Sms.one (h.mono (Nat.le_refl _) (Nat.le_refl _) (show l ≤ l + 1 by omega))
    exact (sm_tup.mpr ⟨g, by simp⟩).mono (by omega) (by omega) (by omega)
theorem oddS_sm {w q l : Nat} {s : List Nat} (h : Sm w q l (.str s)) : ∀ d ∈ oddS s, Sm (2 * w + 100) (q + 2) (l + 1) d := by
  intro d hd
  simp only [oddS, List.mem_cons, List.not_mem_nil, or_false] at hd
  have b := h.mono (Nat.le_refl w) (Nat.le_refl q) (show l ≤ l + 1 by omega)
  rcases hd with rfl | rfl | rfl | rfl | rfl | rfl
  · refine (sm_str h 1 (fun c hc => ?_) (by simp)).mono (by omega) (by omega) (by omega)
    rcases List.mem_append.mp hc with hc | hc
    · exact .inl hc
    · rw [List.mem_singleton.mp hc]; exact .inr (by decide)
  · exact (sm_str h 0 (fun c hc => .inl ((cut_sub s _ _).subset hc)) (by have := (cut_sub s (some 1) none).length_le; omega)).mono (by omega) (by omega) (by omega)
  · refine ⟨up1_pl h.pl, ?_, by simp only [dp]; omega, by simp only [ln]; omega⟩
    have := h.wt
    simp only [wt, List.length_map] at this ⊢
    omega
  · refine (sm_str h 1 (fun c hc => ?_) (by simp)).mono (by omega) (by omega) (by omega)
    rcases List.mem_append.mp hc with hc | hc
    · exact .inl hc
    · rw [List.mem_singleton.mp hc]; exact .inr (by decide)
  · exact (sm_lst.mpr ⟨Sms.one b, by simp⟩).mono (by omega) (by omega) (by omega)
  · exact (sm_tup.mpr ⟨Sms.one b, by simp⟩).mono (by omega) (by omega) (by omega)
theorem odd_ok {pn c w q l : Nat} {st : Sto} {d : D} (n : Nat) (P : Pot pn c st) (hc : c < 99999) (h : Sm w q l d) (hw : w ≤ 100000) (hl : l ≤ 100) :
    Wp (Cn (n + 3) "_law_odd" [.loc pn, d] st) (fun a st' => Sm (2 * w + 100) (q + 2) (l + 1) a ∧ Pot pn (c + 1) st') noX := by
  rw [c_odd]
  refine wp_run (en := [some (.loc pn), some d, none]) rfl rfl ?_
  unfold dlawodd
  have e := isi_t st h.pl
  have e2 := isi_str st h.pl
  have base : ∀ d ∈ someL, Sm (2 * w + 100) (q + 2) (l + 1) d := fun d hd => (someL_sm d hd).mono (by omega) (by omega) (by omega)
  repeat' fail "mi"
  · rename_i h1
    obtain ⟨ds, rfl⟩ := isT_eq h1
    have hl2 : ds.length ≤ 100 := by
      have := h.ln
      simp only [ln, Nat.max_le] at this
      omega
    have hc1 := cut_neg ds
    have q0 : isS (.tup ds) = false := rfl
    have f1 := addT ds (cutD ds (some (-1)) none) st (by show _ ≤ 16777216; omega)
    have f2 := mulL (oddT ds) st (by simp [oddT])
    have f3 := addL someL (oddT ds ++ oddT ds) st (by simp [oddT, someL]; decide)
    repeat' fail "mi"
    refine (of_ok (n + 1) (someL ++ (oddT ds ++ oddT ds)) P hc (by simp [someL]) (by simp [someL, oddT])).to fun a st' ha => ?_
    repeat' fail "mi"
    refine ⟨?_, ha.2⟩
    rcases List.mem_append.mp ha.1 with h2 | h2
    · exact base a h2
    · rcases List.mem_append.mp h2 with h2 | h2 <;> exact oddT_sm h a h2
  · rename_i h1 h2
    obtain ⟨s, rfl⟩ := isS_eq h2
    have hl2 : s.length ≤ 100000 := by
      have := h.wt
      simp only [wt] at this
      omega
    have hz : s.length ≤ sz := by show _ ≤ 16777216; omega
    have f1 := addS s [97] st (by show _ + 1 ≤ 16777216; omega)
    have f2 := addS s [32] st (by show _ + 1 ≤ 16777216; omega)
    have f3 := upper_ok st h.pl (by omega)
    have f4 := slS s (some 1) none st hz
    have f5 := mulL (oddS s) st (by simp [oddS])
    have f6 := addL someL (oddS s ++ oddS s) st (by simp [oddS, someL]; decide)
    repeat' fail "mi"
    refine (of_ok (n + 1) (someL ++ (oddS s ++ oddS s)) P hc (by simp [someL]) (by simp [someL, oddS])).to fun a st' ha => ?_
    repeat' fail "mi"
    refine ⟨?_, ha.2⟩
    rcases List.mem_append.mp ha.1 with h2 | h2
    · exact base a h2
    · rcases List.mem_append.mp h2 with h2 | h2 <;> exact oddS_sm h a h2
  · refine (of_ok (n + 1) someL P hc (by simp [someL]) (by simp [someL])).to fun a st' ha => ?_
    repeat' fail "mi"
    exact ⟨base a ha.1, ha.2⟩
end K25

set_option maxRecDepth 100000
set_option maxHeartbeats 4000000
namespace K25
open PySem PySem.Spec L2 Mi
local macro_rules | `(tactic| fail "mi e") => `(tactic| with_reducible first
  | (apply wp_var; next => with_unfolding_all rfl) | refine wp_int ?_ | refine wp_str ?_ | refine wp_bool ?_ | refine wp_non ?_ | refine wp_ty ?_
  | refine wp_nilL ?_ | refine wp_consL ?_ | refine wp_cmp ?_ | refine wp_bcall ?_ | refine wp_idx ?_ | refine wp_bin ?_ | refine wp_call ?_
  | refine wp_and ?_ | refine wp_or ?_ | refine wp_not ?_ | refine wp_chain ?_ | refine wp_ite ?_ | refine wp_tup ?_ | refine wp_lst ?_ | refine wp_lstM ?_
  | refine wp_edct ?_ | refine wp_sl ?_ | refine wp_partN ?_ | refine wp_partS ?_ | refine wp_callk ?_ | refine wp_lc ?_ | refine wp_condN ?_ | refine wp_condS ?_
  | refine wp_neg ?_ | refine wp_rev ?_ | refine wp_sset ?_ | refine wp_upper ?_ | refine wp_isn ?_ | refine wp_notn ?_)
local macro_rules | `(tactic| fail "mi s") => `(tactic| with_reducible first
  | refine ws_seq ?_ | refine ws_nil ?_ | refine ws_ite ?_ | refine ws_set ?_ | refine ws_ret ?_ | refine ws_expr ?_ | refine ws_asg ?_ | refine ws_par ?_ | refine ws_setItem ?_
  | refine ws_pass ?_ | refine ws_retN ?_ | refine ws_brk ?_ | refine ws_cont ?_ | refine ws_loop ?_ | (apply ws_aug; next => with_unfolding_all rfl))
local macro_rules | `(tactic| fail "mi b1") => `(tactic| with_reducible first
  | refine tq_bl ?_ | refine tq_int ?_ | refine tq_tup ?_ | refine tq_lst ?_ | refine tq_non ?_ | refine cq_bl ?_ | refine iq_int ?_ | refine if_t ?_ | refine if_f ?_ | refine if_n ?_ | refine so_some ?_
  | (apply if_dt; next => assumption) | (apply if_df; next => assumption) | (refine if_d ?_ ?_ <;> intro hb) | (apply if_et; next => assumption) | (apply if_en; next => assumption) | (apply if_nt; next => assumption) | (apply if_nn; next => assumption) | (refine if_eq ?_ ?_ <;> intro hb) | (refine if_ne ?_ ?_ <;> intro hb) | (apply if_bt; next => assumption) | (apply if_bf; next => assumption) | (refine if_b ?_ ?_ <;> intro hb) | (apply tq_of; next => assumption) | (apply so_of; next => assumption))
local macro_rules | `(tactic| fail "mi b") => `(tactic| first
  | fail "mi b1" | (with_reducible apply so_of; next => with_unfolding_all rfl) | (with_reducible refine And.intro ?_ ?_; next => (simp only [List.length_cons, List.length_nil]; decide)))
local macro_rules | `(tactic| fail "mi n") => `(tactic| first | decide | assumption | omega | apply_assumption)
local macro_rules | `(tactic| fail "mi r") => `(tactic| ((try dsimp only [b2, c2, bf]); with_unfolding_all first | with_reducible assumption | rfl | assumption | exact modD_ok _ (by fail "mi n") | exact divD_ok _ (by fail "mi n") (by fail "mi n") | exact mulD_l _ (by fail "mi n") | exact mulD_r _ (by fail "mi n") | exact powD_ok _ (by fail "mi n") (by fail "mi n")))
local macro_rules | `(tactic| fail "mi") => `(tactic| first
  | fail "mi s" | fail "mi e" | (with_reducible apply wp_glo; next => with_unfolding_all rfl) | (with_reducible refine sqq_nx ?_) | (with_reducible refine sqq_rt ?_) | (with_reducible refine sqq_ct ?_) | (with_reducible refine sqq_bk ?_) | (with_reducible refine tnq_nx ?_) | (with_reducible refine tnq_rt ?_) | (with_reducible refine tnq_ct ?_) | (with_reducible refine tnq_bk ?_)
  | (with_reducible refine rtq_rt ?_) | (with_reducible refine rtq_nx ?_)
  | fail "mi b"
  | (with_reducible apply Wp.ok; next => with_reducible assumption)
  | (with_reducible first | (apply ok_b2; next => fail "mi r") | (apply ok_c2; next => fail "mi r") | (apply ok_bf; next => fail "mi r") | (apply ok_idx; next => fail "mi r") | (apply ok_neg; next => fail "mi r") | (apply ok_sl; next => fail "mi r") | (apply ok_rev; next => fail "mi r") | (apply ok_sset; next => fail "mi r") | (apply ok_upper; next => fail "mi r") | (apply ok_aug; next => fail "mi r")))
theorem Pot.mono {pn c c' : Nat} {st : Sto} (h : Pot pn c st) (e : c ≤ c') : Pot pn c' st := by
  obtain ⟨a, b, d, h1, h2, h3, h4, h5, h6⟩ := h
  exact ⟨a, b, d, h1, h2, h3, h4, h5, by omega⟩
theorem cut_lo (ds : List D) (r : Int) (h : 0 ≤ r) : (cutD ds none (some r)).length ≤ r.toNat := by
  unfold cutD
  rw [List.length_take, List.length_drop]
  have : HT.sIx ds.length ds.length (some r) - HT.sIx ds.length 0 none ≤ r.toNat := by
    simp only [HT.sIx, if_neg (show ¬ r < 0 by omega)]
    omega
  omega
theorem cut_hi (ds : List D) (r : Int) (h : 0 ≤ r) : (cutD ds (some r) none).length ≤ ds.length - r.toNat := by
  unfold cutD
  rw [List.length_take, List.length_drop]
  have : HT.sIx ds.length ds.length none - HT.sIx ds.length 0 (some r) ≤ ds.length - r.toNat := by
    simp only [HT.sIx, if_neg (show ¬ r < 0 by omega)]
    omega
  omega
theorem eq_nil (ds : List D) (st : Sto) : eqD (.tup ds) (.tup []) st = .ok (.bl ds.isEmpty) st := by cases ds <;> rfl
theorem bent_ok {pn : Nat} (n : Nat) : ∀ (k c w q l : Nat) (st : Sto) (d : D), Pot pn c st → c + 2 * k < 90000 → Sm w q l d → w ≤ 10000 → l ≤ 50 →
    Wp (Cn (n + k + 4) "_law_bent" [.loc pn, d, .int k] st) (fun a st' => Sm ((2 * k + 2) * w + 100 * (k + 1)) (q + 2 + k) (l + 1) a ∧ Pot pn (c + 2 * k + 1) st') noX := by
  intro k
  induction k with
  | zero =>
    intro c w q l st d P hc h hw hl
    rw [c_bent]
    refine wp_run (en := [some (.loc pn), some d, some (.int 0), none]) rfl rfl ?_
    unfold dlawbent
    have k00 : (0 : Int) = 0 := rfl
    repeat' fail "mi"
    refine (odd_ok n P (by omega) h (by omega) (by omega)).to fun a st' ha => ?_
    repeat' fail "mi"
    exact ⟨ha.1.mono (by omega) (by omega) (by omega), ha.2.mono (by omega)⟩
  | succ k ih =>
    intro c w q l st d P hc h hw hl
    rw [c_bent]
    refine wp_run (en := [some (.loc pn), some d, some (.int ((k + 1 : Nat) : Int)), none]) rfl rfl ?_
    unfold dlawbent
    have e := isi_t st h.pl
    have odd : ∀ (c' : Nat) (st' : Sto), Pot pn c' st' → c' ≤ c + 1 → Wp (Cn (n + (k + 1) + 3) "_law_odd" [.loc pn, d] st') (fun a st' => Sm ((2 * (k + 1) + 2) * w + 100 * (k + 1 + 1)) (q + 2 + (k + 1)) (l + 1) a ∧ Pot pn (c + 2 * (k + 1) + 1) st') noX := fun c' st' P' hc' =>
      (odd_ok (n + (k + 1)) P' (by omega) h (by omega) (by omega)).to fun a st'' ha => ⟨ha.1.mono (by
        have : 2 * w ≤ (2 * (k + 1) + 2) * w := Nat.mul_le_mul_right _ (by omega)
        omega) (by omega) (by omega), ha.2.mono (by omega)⟩
    have k0 : ((k + 1 : Nat) : Int) ≠ 0 := by omega
    repeat' fail "mi"
    · rename_i h1
      obtain ⟨ds, rfl⟩ := isT_eq h1
      have e1 := eq_nil ds st
      have e2 := len_tup ds st
      repeat' fail "mi"
      · refine (odd c st P (by omega)).to fun a st' ha => ?_
        repeat' fail "mi"
        exact ha
      · rename_i h2
        refine (take_ok (n + (k + 1) + 2) 5 P (by omega) (by decide) (by decide)).to fun a s1 ha => ?_
        obtain ⟨r, rfl, r0, r1, P1⟩ := ha
        have e3 := len_tup ds s1
        repeat' fail "mi"
        · refine (odd (c + 1) s1 P1 (by omega)).to fun a st' ha => ?_
          repeat' fail "mi"
          exact ha
        · rename_i h3
          have hl2 : ds.length ≤ 50 := by
            have := h.ln
            simp only [ln, Nat.max_le] at this
            omega
          have hl0 : 0 < ds.length := by
            cases ds with
            | nil => cases h2
            | cons _ _ => simp
          refine (take_ok (n + (k + 1) + 2) (ds.length : Int) P1 (by omega) (by omega) (by omega)).to fun a s2 ha => ?_
          obtain ⟨i, rfl, i0, i1, P2⟩ := ha
          obtain ⟨x, hx, ex⟩ := atI_mem i0 i1
          have e4 := idx_l (show itemsOf (.tup ds) s2 = some ds from rfl) ex
          repeat' fail "mi"
          have hx' : Sm (w - 8) (q - 1) l x := by
            obtain ⟨w', rfl⟩ : ∃ w', w = w' + 8 := ⟨w - 8, by have := h.wt; simp only [wt] at this; omega⟩
            obtain ⟨q', rfl⟩ : ∃ q', q = q' + 1 := ⟨q - 1, by have := h.dp; simp only [dp] at this; omega⟩
            exact (sm_tup.mp h).1.mem hx
          have hx2 : Sm w (q - 1) l x := hx'.mono (by omega) (Nat.le_refl _) (Nat.le_refl _)
          have ek : ((k + 1 : Nat) : Int) - 1 = (k : Int) := by omega
          rw [ek]
          refine (ih (c + 1 + 1) w (q - 1) l s2 x P2 (by omega) hx2 hw hl).to fun y s3 ha => ?_
          have c1 := cut_lo ds i i0
          have c2 := cut_hi ds (i + 1) (by omega)
          have a1 := addT (cutD ds none (some i)) [y] s3 (by simp only [List.length_singleton]; show _ ≤ 16777216; omega)
          have a2 := addT (cutD ds none (some i) ++ [y]) (cutD ds (some (i + 1)) none) s3 (by simp only [List.length_append, List.length_singleton]; show _ ≤ 16777216; omega)
          repeat' fail "mi"
          refine ⟨?_, ha.2.mono (by omega)⟩
          obtain ⟨w', rfl⟩ : ∃ w', w = w' + 8 := ⟨w - 8, by have := h.wt; simp only [wt] at this; omega⟩
          obtain ⟨q', rfl⟩ : ∃ q', q = q' + 1 := ⟨q - 1, by have := h.dp; simp only [dp] at this; omega⟩
          obtain ⟨hs, hl3⟩ := sm_tup.mp h
          have up : ∀ {es : List D}, Sms w' q' l es → Sms w' (q' + 1 + 2 + k) (l + 1) es := fun g => ⟨g.pl, g.wt, Nat.le_trans g.dp (by omega), Nat.le_trans g.ln (by omega)⟩
          have g := ((up (hs.sub (cut_sub ds none (some i)))).app (Sms.one (ha.1.mono (Nat.le_refl _) (show q' + 1 - 1 + 2 + k ≤ q' + 1 + 2 + k by omega) (Nat.le_refl _)))).app (up (hs.sub (cut_sub ds (some (i + 1)) none)))
          have z := sm_tup.mpr ⟨g, by simp only [List.length_append, List.length_singleton]; omega⟩
          refine z.mono ?_ (by omega) (Nat.le_refl _)
          have e9 : (2 * (k + 1) + 2) * (w' + 8) = (2 * k + 2) * (w' + 8) + 2 * (w' + 8) := by rw [show 2 * (k + 1) + 2 = (2 * k + 2) + 2 by omega, Nat.add_mul]
          omega
    · refine (odd c st P (by omega)).to fun a st' ha => ?_
      repeat' fail "mi"
      exact ha

theorem ne_str (a b : List Nat) (st : Sto) : neD (.str a) (.str b) st = .ok (.bl (!(a == b))) st := rfl
theorem sm_of {w q l : Nat} {d : D} (h : pl d = true ∧ wt d ≤ w ∧ dp d ≤ q ∧ ln d ≤ l) : Sm w q l d := ⟨h.1, h.2.1, h.2.2.1, h.2.2.2⟩
def nameL : List D := [.str firstS, .str firstS, .str onlyS, .str onlyS, .str [108, 97, 115, 116], .str [], .non]
def skipL : List D := [.tup [], .tup [.int 0], .tup [.int 1, .int 3], .tup [.int 0, .int 1, .int 2, .int 3, .int 4, .int 5], .tup [.int 5], .tup [.int 6], .tup [.int (-1)], .tup [.int 1, .int 0], .tup [.int 2, .int 2], .tup [.bl true], .lst [.int 0], .tup [.str [48]]]
def underL : List D := [.str [], .str [], .str [115, 101, 99], .str [122, 122, 122, 122, 122, 122, 122, 122], .str [122, 122, 122, 122, 122, 122, 122, 122, 122], .str [83], .str [97, 32, 98], .str [97, 49], .non, .int 0]
theorem all_sm {w q l : Nat} {ds : List D} (h : ds.all (fun d => pl d && (decide (wt d ≤ w) && (decide (dp d ≤ q) && decide (ln d ≤ l)))) = true) : ∀ d ∈ ds, Sm w q l d := by
  intro d hd
  have := List.all_eq_true.mp h d hd
  simp only [Bool.and_eq_true, decide_eq_true_eq] at this
  exact ⟨this.1, this.2.1, this.2.2.1, this.2.2.2⟩
theorem nameL_sm : ∀ d ∈ nameL, Sm 100 1 6 d := all_sm (by decide +kernel)
theorem skipL_sm : ∀ d ∈ skipL, Sm 100 1 6 d := all_sm (by decide +kernel)
theorem underL_sm : ∀ d ∈ underL, Sm 100 1 6 d := all_sm (by decide +kernel)
theorem lrule_ok {pn c : Nat} {st : Sto} (n : Nat) (P : Pot pn c st) (hc : c < 90000) :
    Wp (Cn (n + 3) "_law_rule" [.loc pn] st) (fun a st' => Sm 400 2 6 a ∧ Pot pn (c + 3) st') noX := by
  rw [c_lrule]
  refine wp_run (en := [some (.loc pn), none, none, none]) rfl rfl ?_
  unfold dlawrule
  repeat' fail "mi"
  refine (of_ok n nameL P (by omega) (by decide) (by decide)).to fun a s1 ha => ?_
  repeat' fail "mi"
  refine (of_ok n skipL ha.2 (by omega) (by decide) (by decide)).to fun b s2 hb => ?_
  repeat' fail "mi"
  refine (of_ok n underL hb.2 (by omega) (by decide) (by decide)).to fun d s3 hd => ?_
  repeat' fail "mi"
  refine ⟨?_, hd.2⟩
  have g := (Sms.one (nameL_sm a ha.1)).app ((Sms.one (skipL_sm b hb.1)).app (Sms.one (underL_sm d hd.1)))
  exact (sm_tup.mpr ⟨g, by simp⟩).mono (by decide) (by decide) (by decide)
theorem due2 (n : Nat) {d : D} (st : Sto) (h : Sm 5000 6 8 d) : Cn (n + 2) "_law_due" [d] st = .ok (.bl (ruleB d)) st := due_ok n d st h.pl (by have := h.wt; omega) (by have := h.ln; omega)
theorem shown2 {d : D} (h : Sm 5000 6 8 d) : ∃ x, shownD d = some x := shown_ok h.pl (by have := h.wt; omega) (by have := h.dp; omega)
theorem repr_of {d : D} {x : List Nat} (st : Sto) (h : shownD d = some x) : reprD [d] st = .ok (.str x) st := by
  simp only [reprD, h]
theorem self_eq (a : List Nat) : (a == a) = true := beq_self_eq_true a
theorem right_ok {pn c : Nat} {st : Sto} (n : Nat) (P : Pot pn c st) (hc : c < 80000) :
    Wp (Cn (n + 7) "_law_right" [.loc pn] st) (fun a st' => a = .bl true ∧ Pot pn (c + 13) st') noX := by
  rw [c_right]
  refine wp_run (en := [some (.loc pn), none, none, none, none]) rfl rfl ?_
  unfold dlawright lplawright1
  repeat' fail "mi"
  refine (lrule_ok (n + 3) P (by omega)).to fun r s1 hr => ?_
  repeat' fail "mi"
  refine (bent_ok n 2 (c + 3) 400 2 6 s1 r hr.2 (by omega) hr.1 (by omega) (by omega)).to fun b s2 hb => ?_
  repeat' fail "mi"
  have hf : Sm 200 2 3 (.tup [.str firstS, .tup [.int 0, .int 2], .str [120]]) := sm_of (by decide +kernel)
  refine (bent_ok n 2 (c + 3 + 2 * 2 + 1) 200 2 3 s2 _ hb.2 (by omega) hf (by omega) (by omega)).to fun d s3 hd => ?_
  repeat' fail "mi"
  have P3 : Pot pn (c + 13) s3 := hd.2.mono (by omega)
  have q1 : Sm 5000 6 8 r := hr.1.mono (by omega) (by omega) (by omega)
  have q2 : Sm 5000 6 8 b := hb.1.mono (by omega) (by omega) (by omega)
  have q3 : Sm 5000 6 8 d := hd.1.mono (by omega) (by omega) (by omega)
  refine for_run (fun xs en st' => ∃ x y z, en = [some (.loc pn), some r, x, y, z] ∧ st' = s3 ∧ ∀ x ∈ xs, Sm 5000 6 8 x) (fun x xs en st' hI => ?_) (fun en st' hI => ?_) _ _ _ ⟨none, none, none, rfl, rfl, ?_⟩
  · obtain ⟨x', y', z', rfl, rfl, ha⟩ := hI
    refine ⟨_, rfl, ?_⟩
    have hx := ha x (by simp)
    obtain ⟨t, ht⟩ := shown2 hx
    have r1 := repr_of st' ht
    have r2 := due2 (n + 4) st' hx
    have r3 := rule_ok (n + 2) x st' hx.pl (by have := hx.wt; omega)
    have hb2 : Sm 5000 6 8 (.lst [.bl (ruleB x), .bl (ruleB x)]) := by cases ruleB x <;> exact sm_of (by decide +kernel)
    obtain ⟨u, hu⟩ := shown2 hb2
    have r4 := repr_of st' hu
    have n1 := ne_str u u st'
    have n2 := ne_str t t st'
    have s1 := self_eq u
    have s2 := self_eq t
    unfold lplawright1b
    repeat' fail "mi"
    exact ⟨_, _, _, rfl, rfl, fun y hy => ha y (List.mem_cons_of_mem _ hy)⟩
  · obtain ⟨x', y', z', rfl, rfl, ha⟩ := hI
    repeat' fail "mi"
    exact ⟨rfl, P3⟩
  · intro x hx
    simp only [List.mem_cons, List.not_mem_nil, or_false] at hx
    rcases hx with rfl | rfl | rfl
    · exact q1
    · exact q2
    · exact q3
end K25

set_option maxRecDepth 100000
set_option maxHeartbeats 4000000
namespace K25
open PySem PySem.Spec L2 Mi
local macro_rules | `(tactic| fail "mi e") => `(tactic| with_reducible first
  | (apply wp_var; next => with_unfolding_all rfl) | refine wp_int ?_ | refine wp_str ?_ | refine wp_bool ?_ | refine wp_non ?_ | refine wp_ty ?_
  | refine wp_nilL ?_ | refine wp_consL ?_ | refine wp_cmp ?_ | refine wp_bcall ?_ | refine wp_idx ?_ | refine wp_bin ?_ | refine wp_call ?_
  | refine wp_and ?_ | refine wp_or ?_ | refine wp_not ?_ | refine wp_chain ?_ | refine wp_ite ?_ | refine wp_tup ?_ | refine wp_lst ?_ | refine wp_lstM ?_
  | refine wp_edct ?_ | refine wp_sl ?_ | refine wp_partN ?_ | refine wp_partS ?_ | refine wp_callk ?_ | refine wp_lc ?_ | refine wp_condN ?_ | refine wp_condS ?_
  | refine wp_neg ?_ | refine wp_rev ?_ | refine wp_sset ?_ | refine wp_upper ?_ | refine wp_isn ?_ | refine wp_notn ?_)
local macro_rules | `(tactic| fail "mi s") => `(tactic| with_reducible first
  | refine ws_seq ?_ | refine ws_nil ?_ | refine ws_ite ?_ | refine ws_set ?_ | refine ws_ret ?_ | refine ws_expr ?_ | refine ws_asg ?_ | refine ws_par ?_ | refine ws_setItem ?_
  | refine ws_pass ?_ | refine ws_retN ?_ | refine ws_brk ?_ | refine ws_cont ?_ | refine ws_loop ?_ | (apply ws_aug; next => with_unfolding_all rfl))
local macro_rules | `(tactic| fail "mi b1") => `(tactic| with_reducible first
  | refine tq_bl ?_ | refine tq_int ?_ | refine tq_tup ?_ | refine tq_lst ?_ | refine tq_non ?_ | refine cq_bl ?_ | refine iq_int ?_ | refine if_t ?_ | refine if_f ?_ | refine if_n ?_ | refine so_some ?_
  | (apply if_dt; next => assumption) | (apply if_df; next => assumption) | (refine if_d ?_ ?_ <;> intro hb) | (apply if_et; next => assumption) | (apply if_en; next => assumption) | (apply if_nt; next => assumption) | (apply if_nn; next => assumption) | (refine if_eq ?_ ?_ <;> intro hb) | (refine if_ne ?_ ?_ <;> intro hb) | (apply if_bt; next => assumption) | (apply if_bf; next => assumption) | (refine if_b ?_ ?_ <;> intro hb) | (apply tq_of; next => assumption) | (apply so_of; next => assumption))
local macro_rules | `(tactic| fail "mi b") => `(tactic| first
  | fail "mi b1" | (with_reducible apply so_of; next => with_unfolding_all rfl) | (with_reducible refine And.intro ?_ ?_; next => (simp only [List.length_cons, List.length_nil]; decide)))
local macro_rules | `(tactic| fail "mi n") => `(tactic| first | decide | assumption | omega | apply_assumption)
local macro_rules | `(tactic| fail "mi r") => `(tactic| ((try dsimp only [b2, c2, bf]); with_unfolding_all first | with_reducible assumption | rfl | assumption | exact modD_ok _ (by fail "mi n") | exact divD_ok _ (by fail "mi n") (by fail "mi n") | exact mulD_l _ (by fail "mi n") | exact mulD_r _ (by fail "mi n") | exact powD_ok _ (by fail "mi n") (by fail "mi n")))
local macro_rules | `(tactic| fail "mi") => `(tactic| first
  | fail "mi s" | fail "mi e" | (with_reducible apply wp_glo; next => with_unfolding_all rfl) | (with_reducible refine sqq_nx ?_) | (with_reducible refine sqq_rt ?_) | (with_reducible refine sqq_ct ?_) | (with_reducible refine sqq_bk ?_) | (with_reducible refine tnq_nx ?_) | (with_reducible refine tnq_rt ?_) | (with_reducible refine tnq_ct ?_) | (with_reducible refine tnq_bk ?_)
  | (with_reducible refine rtq_rt ?_) | (with_reducible refine rtq_nx ?_)
  | fail "mi b"
  | (with_reducible apply Wp.ok; next => with_reducible assumption)
  | (with_reducible first | (apply ok_b2; next => fail "mi r") | (apply ok_c2; next => fail "mi r") | (apply ok_bf; next => fail "mi r") | (apply ok_idx; next => fail "mi r") | (apply ok_neg; next => fail "mi r") | (apply ok_sl; next => fail "mi r") | (apply ok_rev; next => fail "mi r") | (apply ok_sset; next => fail "mi r") | (apply ok_upper; next => fail "mi r") | (apply ok_aug; next => fail "mi r")))
theorem len_fro (ds : List D) (st : Sto) : lenD [.fro ds] st = .ok (.int ds.length) st := rfl
theorem emod_lt (x : Int) {m : Int} (h : 0 < m) : 0 ≤ x % m ∧ x % m < m := ⟨Int.emod_nonneg _ (by omega), Int.emod_lt_of_pos _ h⟩
theorem pot_rest (n : Nat) (a : D) (k z : Int) (hk : 0 ≤ k) (hk2 : k ≤ 1000) (st : Sto) :
    Ws (ex gM (Cn n) (.seq (.set 3 (.bin .mul (.bin .mod (.bcall .int (.cons (.bcall .abs (.cons (.var 2) .nil)) .nil)) (.bin .pow (.bin .pow (.int 10) (.int 60)) (.int 5))) (.bcall .int (.cons (.cmp .ge (.bcall .abs (.cons (.var 2) .nil)) (.bin .pow (.int 10) (.int 18))) .nil)))) (.seq (.set 4 (.bin .add (.bin .add (.bin .mul (.bin .mod (.bcall .int (.cons (.var 2) .nil)) (.int 2305843009213693951)) (.int 70913)) (.bin .mul (.bin .mul (.int 6701) (.var 1)) (.var 1))) (.int 59))) (.seq (.ret (.lst true (.cons (.var 3) (.cons (.bin .mod (.bcall .int (.cons (.var 4) .nil)) (.int 2305843009213693921)) (.cons (.int 0) .nil))))) .nil))) [some a, some (.int k), some (.int z), none, none] st)
      (RtQ fun a st' => ∃ pn, a = .loc pn ∧ Pot pn 0 st') (fun x _ st => noX x st) := by
  have p1 : powD (.int 10) (.int 60) st = .ok (.int (10 ^ 60)) st := powD_ok st (by decide) (by decide)
  have p2 : powD (.int (10 ^ 60)) (.int 5) st = .ok (.int ((10 ^ 60) ^ 5)) st := powD_ok st (by decide) (by decide +kernel)
  have p3 : powD (.int 10) (.int 18) st = .ok (.int (10 ^ 18)) st := powD_ok st (by decide) (by decide)
  have big : (0 : Int) < (10 ^ 60) ^ 5 := by decide +kernel
  generalize hA : ((10 : Int) ^ 60) = A at p1 p2 big
  generalize hB : A ^ 5 = B at p2 big
  generalize hC : ((10 : Int) ^ 18) = C at p3
  have m1 := fun i => modD_ok (i := i) st big
  generalize hz : (if z < 0 then -z else z) = y
  have hy : 0 ≤ y := by rw [← hz]; split <;> omega
  have a1 : absD [.int z] st = .ok (.int y) st := by rw [← hz]; rfl
  have b1 : ∀ b : Bool, intD [.bl b] st = .ok (.int (if b = true then 1 else 0)) st := fun b => rfl
  have l6 : (6701 : Int).natAbs < 2 ^ 64 := by decide
  have l7 : (70913 : Int).natAbs < 2 ^ 64 := by decide
  have lk : k.natAbs < 2 ^ 64 := by omega
  have c1 := fun i => modD_ok (i := i) st (show (0 : Int) < 2305843009213693951 by decide)
  have c2 := fun i => modD_ok (i := i) st (show (0 : Int) < 2305843009213693921 by decide)
  repeat' fail "mi"
  have e1 := emod_lt y big
  have e2 := emod_lt (z % 2305843009213693951 * 70913 + 6701 * k * k + 59) (show (0 : Int) < 2305843009213693921 by decide)
  refine ⟨_, rfl, _, _, 0, List.getElem?_concat_length, ?_, e2.1, by omega, by decide, by decide⟩
  split <;> omega
theorem pot_ok (n : Nat) (ns : List Int) (k : Int) (hk : 0 ≤ k) (hk2 : k ≤ 1000) (st : Sto) :
    Wp (Cn (n + 1) "_law_pot" [.fro (ns.map D.int), .int k] st) (fun a st' => ∃ pn, a = .loc pn ∧ Pot pn 0 st') noX := by
  rw [c_pot]
  refine wp_run (en := [some (.fro (ns.map D.int)), some (.int k), none, none, none]) rfl rfl ?_
  unfold dlawpot
  have e1 := len_fro (ns.map D.int) st
  have l4 : (41 : Int).natAbs < 2 ^ 64 := by decide
  refine ws_seq (Ws.mono (Q' := fun fl st' => ∃ z, fl = .nx [some (.fro (ns.map D.int)), some (.int k), some (.int z), none, none] ∧ st' = st) (X' := fun _ _ _ => False) ?_ (fun fl st' h => ?_) fun _ _ _ h => h.elim)
  · repeat' fail "mi"
    · rename_i h1
      obtain ⟨d, hd, ed⟩ := atI_mem hk h1
      obtain ⟨z, _, rfl⟩ := List.mem_map.mp hd
      have e2 := idx_l (show itemsOf (.fro (ns.map D.int)) st = some (ns.map D.int) from rfl) ed
      refine ok_idx e2 ?_
      exact ⟨_, rfl, rfl⟩
    · exact ⟨_, rfl, rfl⟩
    all_goals trace_state
  · obtain ⟨z, rfl, rfl⟩ := h
    refine sqq_nx ?_
    exact pot_rest n _ k z hk hk2 st'
theorem law_ok (n : Nat) (ns : List Int) (hn : ns.length ≤ 63) : Wp (Cn (n + 8) "law" [.fro (ns.map D.int)] []) (fun a _ => a = .bl true) noX := by
  rw [c_law]
  refine wp_run (en := [some (.fro (ns.map D.int)), none, none, none]) rfl rfl ?_
  unfold dlaw lplaw2
  have e1 := len_fro (ns.map D.int) []
  repeat' fail "mi"
  generalize hm : (if (if ((ns.map D.int).length : Int) < 3 then ((ns.map D.int).length : Int) else 3) > 1 then if ((ns.map D.int).length : Int) < 3 then ((ns.map D.int).length : Int) else 3 else 1) = m
  have hm2 : m ≤ 3 := by rw [← hm]; split <;> split <;> omega
  have hm1 : 0 ≤ m := by rw [← hm]; split <;> split <;> omega
  have ew : walkOf .range1 [.int m] = some ((List.range m.toNat).map fun i : Nat => D.int (0 + (i : Int))) := by
    show (if -(2 ^ 62) ≤ m ∧ m < 2 ^ 62 then some ((List.range m.toNat).map fun i : Nat => D.int (0 + (i : Int))) else none) = _
    exact if_pos (by omega)
  refine so_of ew ?_
  refine for_run (fun xs en st' => (∃ x y z, en = [some (.fro (ns.map D.int)), x, y, z]) ∧ ∀ x ∈ xs, ∃ i : Int, x = .int i ∧ 0 ≤ i ∧ i ≤ 1000) (fun x xs en st' hI => ?_) (fun en st' hI => ?_) _ _ _ ⟨⟨_, _, _, rfl⟩, fun x hx => ?_⟩
  · obtain ⟨⟨x', y', z', rfl⟩, ha⟩ := hI
    obtain ⟨i, rfl, hi, hi2⟩ := ha x (by simp)
    refine ⟨_, rfl, ?_⟩
    unfold lplaw2b lclaw1 lclaw1e
    repeat' fail "mi"
    refine (pot_ok (n + 6) ns i hi hi2 st').to fun a s1 h1 => ?_
    obtain ⟨pn, rfl, P⟩ := h1
    repeat' fail "mi"
    refine lc_run (fun xs acc st => ∃ c, Pot pn c st ∧ c ≤ 13 * acc.length ∧ acc.length + xs.length = 20 ∧ ∃ bs : List Bool, acc = bs.map D.bl ∧ bs.all id = true) (fun x xs acc st hI => ?_) (fun acc st hI => ?_) _ [] _ ⟨0, P, Nat.zero_le _, by simp, [], rfl, rfl⟩
    · obtain ⟨c, P, hc, hl, bs, rfl, hb⟩ := hI
      refine ⟨_, rfl, ?_⟩
      simp only [List.length_cons] at hl
      repeat' fail "mi"
      refine ⟨by show _ < 16777216; omega, ?_⟩
      repeat' fail "mi"
      refine (right_ok n P (by omega)).to fun a s2 h2 => ?_
      obtain ⟨rfl, P2⟩ := h2
      exact ⟨c + 13, P2, by rw [List.length_append, List.length_singleton]; omega, by rw [List.length_append, List.length_singleton]; omega, bs ++ [true], by rw [List.map_append]; rfl, by rw [List.all_append, hb]; rfl⟩
    · obtain ⟨c, P, hc, hl, bs, rfl, hb⟩ := hI
      have ea : allD [.lst (bs.map D.bl)] st = .ok (.bl true) st := by
        simp only [allD, boolsOf_map]
        have : (bs.all id) = true := hb
        first | rw [this] | (rw [show (bs.all fun b => b) = true from hb])
      repeat' fail "mi"
      exact ⟨⟨_, _, _, rfl⟩, fun y hy => ha y (List.mem_cons_of_mem _ hy)⟩
  · repeat' fail "mi"
    rfl
  · obtain ⟨i, hi, rfl⟩ := List.mem_map.mp hx
    rw [List.mem_range] at hi
    exact ⟨_, rfl, by omega, by omega⟩
theorem pure_run : ∀ ns : List Int, ns.length ≤ 63 → ∃ st, callN gM (tabD tabT) 30 "law" [.fro (ns.map D.int)] [] = .ok (.bl true) st := fun ns hn => by
  obtain ⟨a, st, e, rfl⟩ := (law_ok 22 ns hn).ok_inv
  exact ⟨st, e⟩
end K25

set_option maxRecDepth 100000
set_option maxHeartbeats 0
namespace K25
open PySem PySem.Spec PyProof.Rows L2 Mi
abbrev R : PySem.W.OpenRow := PySem.W.OpenLaw.row PySem.Challenge.rw_handkept_k25_rules_of_any_value
abbrev fa : List He.Fa := faOf gM tabT
abbrev hk : PySem.W.Hook := hookM 4 fa (dDs tabT)
def ob (s : PySem.W.SharedT) : AlM := obsM 4 fa (dDs tabT) (HandSHeadRun.getT s)
theorem ob_eq (s : PySem.W.SharedT) : ob s = hk.obs s.abs := obsM_eq (HandSHeadRun.getT_eq s)
abbrev loose : List Str := ["FIRST", "ONLY", "__name__", "LETTERS", "MOST_LETTERS", "is_integer", "is_word", "is_tuple_of", "rises", "RULE_PARTS", "MOST_PLACE", "is_place", "is_rule", "_law_pot", "_law_take", "_law_of", "_law_odd", "_law_bent", "_law_is_word", "_law_due", "_law_rule", "_law_right"]
theorem run (w : World) : HandSHeadRun.RunEq R (PySem.W.view R.prog [24]) hk ob 3000 loose w := by
  intro os
  kernel_rfl
end K25
open PySem PySem.W PySem.Calls PyProof.Rows
theorem PySem.Challenge.cw_handkept_k25_rules_of_any_value_holds : PySem.Challenge.rw_handkept_k25_rules_of_any_value.Holds := by
  w_on; o_law
  refine HandSHeadRun.head_any (r := K25.R) (q := view K25.R.prog [24]) (H := K25.hk) (ob := K25.ob) (M := 3000) (loose := K25.loose) (d := HandSHeadRun.topDef K25.R.prog 24) (kwd := []) K25.ob_eq
    (by kernel_rfl) (fun s => by kernel_rfl) K25.run (by kernel_rfl) (by kernel_rfl) (by kernel_rfl) (by rfl) (by first | assumption | decide +kernel) (by decide +kernel) ⟨rfl, rfl, rfl, rfl, rfl, by decide +kernel⟩ ?hw ?hc
  case hw => w_witness2
  case hc =>
    exact Mi.law_tab (l := PySem.Challenge.rw_handkept_k25_rules_of_any_value) (n := 63) (k := 30) (G := K25.gM) (T := K25.tabT) (x := "_law_script") rfl (by decide) (by kernel_rfl) ⟨⟨rfl, by decide, by decide⟩, rfl⟩ (by kernel_rfl) (by decide +kernel) (by rfl) (by decide +kernel) K25.chk K25.pure_run
