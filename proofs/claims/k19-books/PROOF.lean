import PyProof.Rows.All
import Wide.All
import OpenK.AllK
import Wide.FinOn
import HandS.ForMost
import HandS.Exc
import HandS.WordsExc
import HandS.Flow
import HandS.Wide
import HandS.IsInst
import HandS.TupAny
import HandS.Sort
import HandS.CallSlots
import HandS.ExcOwn
import HandS.Set
import HandS.SetFor
import HandS.Strs
import HandS.Zip
import PySem.Challenge.RW_calledfirst_k19_books_looked_at
set_option Elab.async false
set_option linter.all false
set_option maxRecDepth 100000
/-! SA: plain data D over the hand layer, configurations, what an expression or a statement is worth (the simulation layer's core). -/
namespace Sim
open PySem L2

/-! ### data -/
/-- a Python value as plain data: tuples, lists and dicts by value; ref n: the n-th cell (a thing that is changed in place); fro: a list that is locked (the script) -/
inductive D where
  | non | bl (b : Bool) | int (i : Int) | str (x : Str)
  | tup (xs : List D) | lst (xs : List D) | dic (ks : List Key) (vs : List D)
  | ref (n : Nat)
  | fro (xs : List D)
  deriving Inhabited
/-- a thing that is changed in place -/
inductive Cell where
  | lst (xs : List D) | dic (ks : List Key) (vs : List D) | ins (c : Str) (fs : List (Str × D))
  deriving Inhabited
abbrev AH := List Cell
/-- a local name's slot: unset, a value, or a list or dict that this slot alone holds -/
inductive Slot where
  | u | v (d : D) | o (d : D)
  deriving Inhabited
abbrev Fr := List Slot

/-- a configuration -/
structure Cf where
  ρ : Nat → Addr
  h : AH
  H : Hp
/-- what is changed in place: foreign things, cells -/
def MH (F : Addr → Prop) (C : Cf) : Addr → Prop := fun a => F a ∨ ∃ i, i < C.h.length ∧ C.ρ i = a
def KL (K : PySem.W.Frag) (a : Addr) (xs : List V) : Prop :=
  ∃ (o : Obj) (its : Array Value) (n : Nat), K.lookup a = some o ∧ o.cls = .type "list" ∧ o.dict = none ∧ o.data = .seq its n ∧ its.size ≤ sizeLine ∧ Vals xs its.toList
theorem KL.sq {K : PySem.W.Frag} {H : Hp} {a : Addr} {xs : List V} (h : KL K a xs) : SqL K H a xs := .inr h

mutual
/-- the value v bears the data d -/
def rep (K : PySem.W.Frag) (F : Addr → Prop) (C : Cf) : D → V → Prop
  | .non, v => v = .non
  | .bl b, v => v = .bl b
  | .int i, v => v = .int i
  | .str x, v => v = .str x
  | .tup ds, v => ∃ a vs, v = .ref a ∧ SqT K C.H a vs ∧ reps K F C ds vs
  | .lst ds, v => ∃ a vs, v = .ref a ∧ C.H a = some (.lst vs) ∧ ¬ MH F C a ∧ reps K F C ds vs
  | .fro ds, v => ∃ a vs, v = .ref a ∧ ((∃ o, C.H a = some (.frz o (.lst vs))) ∨ KL K a vs) ∧ reps K F C ds vs
  | .dic ks ds, v => ∃ a vs, v = .ref a ∧ C.H a = some (.dK (ks.zip vs)) ∧ ks.length = vs.length ∧ ¬ MH F C a ∧ reps K F C ds vs
  | .ref i, v => i < C.h.length ∧ v = .ref (C.ρ i)
def reps (K : PySem.W.Frag) (F : Addr → Prop) (C : Cf) : List D → List V → Prop
  | [], vs => vs = []
  | d :: ds, vs => ∃ v r, vs = v :: r ∧ rep K F C d v ∧ reps K F C ds r
end

/-- what stands at an address that is changed in place -/
def objAt (K : PySem.W.Frag) (mg : Str → Option Value) (F : Addr → Prop) (C : Cf) (a : Addr) : Cell → Prop
  | .lst ds => ∃ vs, C.H a = some (.lst vs) ∧ reps K F C ds vs
  | .dic ks ds => ∃ vs, C.H a = some (.dK (ks.zip vs)) ∧ ks.length = vs.length ∧ reps K F C ds vs
  | .ins c fs => ∃ CA dx vs, mg c = some (.ref CA) ∧ C.H a = some (.ins CA dx ((fs.map (·.1)).zip vs)) ∧ fs.length = vs.length ∧ reps K F C (fs.map (·.2)) vs
def cellOf : D → Option Cell
  | .lst xs => some (.lst xs)
  | .dic ks vs => some (.dic ks vs)
  | _ => none

/-- the abstract heap: the cells stand, apart from one another and from what is foreign -/
structure Hw (K : PySem.W.Frag) (mg : Str → Option Value) (F : Addr → Prop) (C : Cf) : Prop where
  cells : ∀ i c, C.h[i]? = some c → objAt K mg F C (C.ρ i) c
  inj : ∀ i j, i < C.h.length → j < C.h.length → C.ρ i = C.ρ j → i = j
  nF : ∀ i, i < C.h.length → ¬ F (C.ρ i)
  fin : ∀ a, F a → ∃ o, C.H a = some o ∧ ∀ xs, o ≠ .tup xs
/-- from one configuration to a later one: what is no cell is kept, new cells are new -/
structure Ext (C C' : Cf) : Prop where
  le : C.h.length ≤ C'.h.length
  ext : ∀ i, i < C.h.length → C'.ρ i = C.ρ i
  keep : ∀ a o, C.H a = some o → (∀ i, i < C.h.length → C.ρ i ≠ a) → C'.H a = some o
  new : ∀ i, C.h.length ≤ i → i < C'.h.length → C.H (C'.ρ i) = none
  dom : ∀ a o, C.H a = some o → ∃ o', C'.H a = some o'
  tups : ∀ a xs, C.H a = some (.tup xs) → C'.H a = some (.tup xs)
  frzs : ∀ a o xs, C.H a = some (.frz o xs) → C'.H a = some (.frz o xs)

theorem Ext.refl (C : Cf) : Ext C C := ⟨Nat.le_refl _, fun _ _ => rfl, fun _ _ e _ => e, fun i h1 h2 => by omega, fun _ o e => ⟨o, e⟩, fun _ _ e => e, fun _ _ _ e => e⟩
theorem Ext.trans {C C1 C2 : Cf} (a : Ext C C1) (b : Ext C1 C2) : Ext C C2 where
  le := Nat.le_trans a.le b.le
  ext := fun i hi => (b.ext i (Nat.lt_of_lt_of_le hi a.le)).trans (a.ext i hi)
  keep := fun x o e hn => by
    refine b.keep x o (a.keep x o e hn) fun i hi q => ?_
    by_cases hlt : i < C.h.length
    · exact hn i hlt ((a.ext i hlt).symm.trans q)
    · have := a.new i (by omega) hi
      rw [q, e] at this; cases this
  new := fun i h1 h2 => by
    by_cases hlt : i < C1.h.length
    · have e := a.new i h1 hlt
      rw [b.ext i hlt]; exact e
    · have e := b.new i (by omega) h2
      cases q : C.H (C2.ρ i) with
      | none => rfl
      | some o =>
        obtain ⟨o', q'⟩ := a.dom _ o q
        rw [e] at q'; cases q'
  dom := fun x o e => let ⟨_, e1⟩ := a.dom x o e; b.dom x _ e1
  tups := fun x xs e => b.tups x xs (a.tups x xs e)
  frzs := fun x o xs e => b.frzs x o xs (a.frzs x o xs e)
theorem Ext.sqT {K : PySem.W.Frag} {C C' : Cf} (e : Ext C C') {a : Addr} {vs : List V} (h : SqT K C.H a vs) : SqT K C'.H a vs := by
  rcases h with (h | ⟨o, h⟩) | h
  · exact .inl (.inl (e.tups _ _ h))
  · exact .inl (.inr ⟨o, e.frzs _ _ _ h⟩)
  · exact .inr h
theorem Ext.safe {F : Addr → Prop} {C C' : Cf} (e : Ext C C') {a : Addr} {o : HO} (h : C.H a = some o) (n : ¬ MH F C a) : C'.H a = some o ∧ ¬ MH F C' a := by
  have hn : ∀ i, i < C.h.length → C.ρ i ≠ a := fun i hi q => n (.inr ⟨i, hi, q⟩)
  refine ⟨e.keep a o h hn, ?_⟩
  rintro (f | ⟨i, hi, q⟩)
  · exact n (.inl f)
  · by_cases hlt : i < C.h.length
    · exact hn i hlt ((e.ext i hlt).symm.trans q)
    · have := e.new i (by omega) hi
      rw [q, h] at this; cases this

/-- how a value's data is carried from one configuration to another -/
structure Car (K : PySem.W.Frag) (F F' : Addr → Prop) (C C' : Cf) : Prop where
  t : ∀ a vs, SqT K C.H a vs → SqT K C'.H a vs
  l : ∀ a o, C.H a = some o → ¬ MH F C a → C'.H a = some o ∧ ¬ MH F' C' a
  r : ∀ i, i < C.h.length → i < C'.h.length ∧ C'.ρ i = C.ρ i
  f : ∀ a o xs, C.H a = some (.frz o xs) → C'.H a = some (.frz o xs)
theorem Ext.car {K : PySem.W.Frag} {F : Addr → Prop} {C C' : Cf} (e : Ext C C') : Car K F F C C' :=
  ⟨fun _ _ h => e.sqT h, fun _ _ h n => e.safe h n, fun i hi => ⟨Nat.lt_of_lt_of_le hi e.le, e.ext i hi⟩, e.frzs⟩
section
variable {K : PySem.W.Frag} {F F' : Addr → Prop} {C C' : Cf}
mutual
theorem rep.to (c : Car K F F' C C') : ∀ {d : D} {v : V}, rep K F C d v → rep K F' C' d v
  | .non, _, h => h
  | .bl _, _, h => h
  | .int _, _, h => h
  | .str _, _, h => h
  | .tup ds, v, h => by
    obtain ⟨a, vs, e, q, r⟩ := h
    exact ⟨a, vs, e, c.t _ _ q, reps.to c r⟩
  | .lst ds, v, h => by
    obtain ⟨a, vs, e, q, n, r⟩ := h
    obtain ⟨q1, q2⟩ := c.l _ _ q n
    exact ⟨a, vs, e, q1, q2, reps.to c r⟩
  | .fro ds, v, h => by
    obtain ⟨a, vs, e, q, r⟩ := h
    refine ⟨a, vs, e, ?_, reps.to c r⟩
    rcases q with ⟨o, q⟩ | q
    · exact .inl ⟨o, c.f _ _ _ q⟩
    · exact .inr q
  | .dic ks ds, v, h => by
    obtain ⟨a, vs, e, q, l, n, r⟩ := h
    obtain ⟨q1, q2⟩ := c.l _ _ q n
    exact ⟨a, vs, e, q1, l, q2, reps.to c r⟩
  | .ref i, v, h => by
    obtain ⟨hi, e⟩ := h
    obtain ⟨h1, h2⟩ := c.r i hi
    exact ⟨h1, by rw [h2]; exact e⟩
theorem reps.to (c : Car K F F' C C') : ∀ {ds : List D} {vs : List V}, reps K F C ds vs → reps K F' C' ds vs
  | [], _, h => h
  | d :: ds, vs, h => by
    obtain ⟨v, r, e, h1, h2⟩ := h
    exact ⟨v, r, e, rep.to c h1, reps.to c h2⟩
end
theorem reps.length : ∀ {ds : List D} {vs : List V}, reps K F C ds vs → ds.length = vs.length
  | [], _, h => by cases (show _ = [] from h); rfl
  | d :: ds, vs, h => by
    obtain ⟨v, r, rfl, _, h2⟩ := h
    rw [List.length_cons, List.length_cons, reps.length h2]
theorem reps.nil : reps K F C [] [] := rfl
theorem reps.cons {d : D} {v : V} {ds : List D} {vs : List V} (h : rep K F C d v) (t : reps K F C ds vs) : reps K F C (d :: ds) (v :: vs) := ⟨v, vs, rfl, h, t⟩
theorem reps.app : ∀ {ds es : List D} {vs us : List V}, reps K F C ds vs → reps K F C es us → reps K F C (ds ++ es) (vs ++ us)
  | [], _, _, _, h, t => by cases (show _ = [] from h); exact t
  | d :: ds, es, vs, us, h, t => by
    obtain ⟨v, r, rfl, h1, h2⟩ := h
    exact ⟨v, r ++ us, rfl, h1, reps.app h2 t⟩
theorem reps.get : ∀ {ds : List D} {vs : List V} {i : Nat} {d : D}, reps K F C ds vs → ds[i]? = some d → ∃ v, vs[i]? = some v ∧ rep K F C d v
  | [], _, i, d, _, e => by simp at e
  | x :: ds, vs, i, d, h, e => by
    obtain ⟨v, r, rfl, h1, h2⟩ := h
    cases i with
    | zero => simp at e; subst e; exact ⟨v, by simp, h1⟩
    | succ i =>
      simp at e
      obtain ⟨u, q1, q2⟩ := reps.get h2 e
      exact ⟨u, by simpa using q1, q2⟩
theorem reps.take : ∀ {ds : List D} {vs : List V} (n : Nat), reps K F C ds vs → reps K F C (ds.take n) (vs.take n)
  | [], vs, n, h => by cases (show vs = [] from h); simp [reps]
  | d :: ds, vs, 0, h => by simp [reps]
  | d :: ds, vs, n + 1, h => by
    obtain ⟨v, r, rfl, h1, h2⟩ := h
    exact ⟨v, r.take n, rfl, h1, reps.take n h2⟩
theorem reps.drop : ∀ {ds : List D} {vs : List V} (n : Nat), reps K F C ds vs → reps K F C (ds.drop n) (vs.drop n)
  | [], vs, n, h => by cases (show vs = [] from h); simp [reps]
  | d :: ds, vs, 0, h => h
  | d :: ds, vs, n + 1, h => by
    obtain ⟨v, r, rfl, h1, h2⟩ := h
    exact reps.drop n h2
theorem reps.set : ∀ {ds : List D} {vs : List V} {d : D} {v : V} (i : Nat), reps K F C ds vs → rep K F C d v → reps K F C (ds.set i d) (vs.set i v)
  | [], vs, _, _, i, h, _ => by cases (show vs = [] from h); simp [reps]
  | x :: ds, vs, d, v, 0, h, q => by
    obtain ⟨u, r, rfl, h1, h2⟩ := h
    exact ⟨v, r, rfl, q, h2⟩
  | x :: ds, vs, d, v, i + 1, h, q => by
    obtain ⟨u, r, rfl, h1, h2⟩ := h
    exact ⟨u, r.set i v, rfl, h1, reps.set i h2 q⟩
theorem reps.map {α : Type} {f : α → D} {g : α → V} (h : ∀ x, rep K F C (f x) (g x)) : ∀ xs : List α, reps K F C (xs.map f) (xs.map g)
  | [] => rfl
  | x :: xs => ⟨g x, xs.map g, rfl, h x, reps.map h xs⟩
theorem reps.dropLast {ds : List D} {vs : List V} (h : reps K F C ds vs) : reps K F C ds.dropLast vs.dropLast := by
  rw [List.dropLast_eq_take, List.dropLast_eq_take, reps.length h]; exact h.take _
theorem reps.erase : ∀ {ds : List D} {vs : List V} (i : Nat), reps K F C ds vs → reps K F C (ds.eraseIdx i) (vs.eraseIdx i)
  | [], vs, i, h => by cases (show vs = [] from h); simp [reps]
  | x :: ds, vs, 0, h => by
    obtain ⟨u, r, rfl, h1, h2⟩ := h
    exact h2
  | x :: ds, vs, i + 1, h => by
    obtain ⟨u, r, rfl, h1, h2⟩ := h
    exact ⟨u, r.eraseIdx i, rfl, h1, reps.erase i h2⟩
theorem objAt.to {mg : Str → Option Value} (c : Car K F F' C C') {a b : Addr} {x : Cell} (e : ∀ o, C.H a = some o → C'.H b = some o) (h : objAt K mg F C a x) : objAt K mg F' C' b x := by
  cases x with
  | lst ds =>
    obtain ⟨vs, q, r⟩ := h
    exact ⟨vs, e _ q, r.to c⟩
  | dic ks ds =>
    obtain ⟨vs, q, l, r⟩ := h
    exact ⟨vs, e _ q, l, r.to c⟩
  | ins n fs =>
    obtain ⟨CA, dx, vs, m, q, l, r⟩ := h
    exact ⟨CA, dx, vs, m, e _ q, l, r.to c⟩
theorem objAt.there {mg : Str → Option Value} {a : Addr} {x : Cell} (h : objAt K mg F C a x) : ∃ o, C.H a = some o ∧ (∀ xs, o ≠ .tup xs) ∧ ∀ u xs, o ≠ .frz u xs := by
  cases x with
  | lst ds =>
    obtain ⟨vs, q, r⟩ := h
    exact ⟨_, q, (fun _ z => nomatch z), fun _ _ z => nomatch z⟩
  | dic ks ds =>
    obtain ⟨vs, q, l, r⟩ := h
    exact ⟨_, q, (fun _ z => nomatch z), fun _ _ z => nomatch z⟩
  | ins n fs =>
    obtain ⟨CA, dx, vs, m, q, l, r⟩ := h
    exact ⟨_, q, (fun _ z => nomatch z), fun _ _ z => nomatch z⟩
end

/-! ### configurations that change -/
section
variable {K : PySem.W.Frag} {mg : Str → Option Value} {F F' : Addr → Prop} {C : Cf}
/-- a new thing is laid, by value -/
theorem Ext.laid {p : Addr} {o : HO} (hp : C.H p = none) : Ext C ⟨C.ρ, C.h, upd C.H p o⟩ where
  le := Nat.le_refl _
  ext := fun _ _ => rfl
  keep := fun a u e _ => (upd_ne (ne_of_none e hp)).trans e
  new := fun i h1 h2 => by have h2' : i < C.h.length := h2; omega
  dom := fun a u e => ⟨u, (upd_ne (ne_of_none e hp)).trans e⟩
  tups := fun a u e => (upd_ne (ne_of_none e hp)).trans e
  frzs := fun a _ u e => (upd_ne (ne_of_none e hp)).trans e
theorem Hw.ext' {C' : Cf} (w : Hw K mg F C) (e : Ext C C') (hh : C'.h = C.h) (hk : ∀ i o, i < C.h.length → C.H (C.ρ i) = some o → C'.H (C'.ρ i) = some o) : Hw K mg F C' where
  cells := fun i c hc => by
    rw [hh] at hc
    have hi := (List.getElem?_eq_some_iff.mp hc).1
    exact (w.cells i c hc).to e.car fun o q => hk i o hi q
  inj := fun i j hi hj q => by
    rw [hh] at hi hj
    rw [e.ext i hi, e.ext j hj] at q
    exact w.inj i j hi hj q
  nF := fun i hi => by
    rw [hh] at hi
    rw [e.ext i hi]; exact w.nF i hi
  fin := fun a f => by
    obtain ⟨o, q, n⟩ := w.fin a f
    exact ⟨o, e.keep a o q fun i hi z => w.nF i hi (z ▸ f), n⟩
theorem Hw.laid (w : Hw K mg F C) {p : Addr} {o : HO} (hp : C.H p = none) : Hw K mg F ⟨C.ρ, C.h, upd C.H p o⟩ :=
  w.ext' (Ext.laid hp) rfl fun i u hi q => (upd_ne (ne_of_none q hp)).trans q
/-- the foreign things are fewer -/
theorem Hw.less (w : Hw K mg F C) (h : ∀ a, F' a → F a) : Hw K mg F' C where
  cells := fun i c hc => (w.cells i c hc).to (C' := C) ⟨fun _ _ q => q, fun a o q n => ⟨q, fun z => n (z.imp (h a) id)⟩, fun _ hi => ⟨hi, rfl⟩, fun _ _ _ e => e⟩ fun _ q => q
  inj := w.inj
  nF := fun i hi f => w.nF i hi (h _ f)
  fin := fun a f => w.fin a (h a f)
theorem car_less (h : ∀ a, F' a → F a) : Car K F F' C C := ⟨fun _ _ q => q, fun a o q n => ⟨q, fun z => n (z.imp (h a) id)⟩, fun _ hi => ⟨hi, rfl⟩, fun _ _ _ e => e⟩
theorem Hw.free (w : Hw K mg F C) {p : Addr} (hp : C.H p = none) : ¬ MH F C p := by
  rintro (f | ⟨i, hi, q⟩)
  · obtain ⟨o, e, _⟩ := w.fin p f
    rw [hp] at e; cases e
  · obtain ⟨c, hc⟩ : ∃ c, C.h[i]? = some c := ⟨_, List.getElem?_eq_getElem hi⟩
    obtain ⟨o, e, _⟩ := (w.cells i c hc).there
    rw [q, hp] at e; cases e
/-- behind the laying it is no changed thing -/
theorem Hw.laidFree (w : Hw K mg F C) {p : Addr} {o : HO} (hp : C.H p = none) : ¬ MH F ⟨C.ρ, C.h, upd C.H p o⟩ p := fun z => w.free hp z
theorem rep.tupNew (w : Hw K mg F C) {p : Addr} {ds : List D} {vs : List V} (hp : C.H p = none) (r : reps K F C ds vs) : rep K F ⟨C.ρ, C.h, upd C.H p (.tup vs)⟩ (.tup ds) (.ref p) :=
  ⟨p, vs, rfl, .inl (.inl upd_same), r.to (Ext.laid hp).car⟩
theorem rep.lstNew (w : Hw K mg F C) {p : Addr} {ds : List D} {vs : List V} (hp : C.H p = none) (r : reps K F C ds vs) : rep K F ⟨C.ρ, C.h, upd C.H p (.lst vs)⟩ (.lst ds) (.ref p) :=
  ⟨p, vs, rfl, upd_same, w.laidFree hp, r.to (Ext.laid hp).car⟩
end
end Sim
set_option Elab.async false
set_option linter.all false
set_option maxRecDepth 100000
/-! SB: what an expression, a test, an argument list is worth (judgements of the simulation layer). -/
namespace Sim
open PySem L2

/-- an error that leaves: its class, its field -/
structure Er where
  c : Str
  f : Option (Str × D) := none
inductive Out (α : Type) where
  | ok (a : α) (h : AH)
  | err (e : Er) (h : AH)
  | bad
def Out.bind {α β : Type} (x : Out α) (f : α → AH → Out β) : Out β := match x with
  | .ok a h => f a h
  | .err e h => .err e h
  | .bad => .bad
def Out.ofOpt {α : Type} (x : Option α) (h : AH) : Out α := match x with
  | some a => .ok a h
  | none => .bad
@[simp] theorem bind_ok {α β : Type} (a : α) (h : AH) (f : α → AH → Out β) : (Out.ok a h).bind f = f a h := rfl
@[simp] theorem bind_err {α β : Type} (e : Er) (h : AH) (f : α → AH → Out β) : (Out.err e h : Out α).bind f = .err e h := rfl
@[simp] theorem bind_bad {α β : Type} (f : α → AH → Out β) : (Out.bad : Out α).bind f = .bad := rfl
@[simp] theorem ofOpt_some {α : Type} (a : α) (h : AH) : Out.ofOpt (some a) h = .ok a h := rfl
@[simp] theorem ofOpt_none {α : Type} (h : AH) : Out.ofOpt (none : Option α) h = .bad := rfl

/-- a cell's data, or the data itself -/
def deref (h : AH) : D → D
  | .ref n => match h[n]? with
    | some (.lst xs) => .lst xs
    | some (.dic ks vs) => .dic ks vs
    | _ => .ref n
  | d => d
section
variable (K : PySem.W.Frag) (mg : Str → Option Value) (F : Addr → Prop) (C : Cf)
/-- a value that may be looked at now: data, or a thing that its owner holds -/
def repB (d : D) (v : V) : Prop := rep K F C d v ∨ ∃ a c, v = .ref a ∧ F a ∧ cellOf d = some c ∧ objAt K mg F C a c
def repBs : List D → List V → Prop
  | [], vs => vs = []
  | d :: ds, vs => ∃ v r, vs = v :: r ∧ repB K mg F C d v ∧ repBs ds r
def errRep (e : Er) (cls : Value) (dx : Option Addr) : Prop := ∃ CA, mg e.c = some (.ref CA) ∧ cls = .ref CA ∧
  match e.f with
  | none => dx = none
  | some (n, d) => ∃ x v, dx = some x ∧ C.H x = some (.xd [(n, v)]) ∧ rep K F C d v
end
section
variable {K : PySem.W.Frag} {mg : Str → Option Value} {F : Addr → Prop} {C C' : Cf}
theorem Hw.own (w : Hw K mg F C) (e : Ext C C') {a : Addr} {c : Cell} (f : F a) (h : objAt K mg F C a c) : objAt K mg F C' a c :=
  h.to e.car fun o q => e.keep a o q fun i hi z => w.nF i hi (z ▸ f)
theorem repB.ext (w : Hw K mg F C) (e : Ext C C') {d : D} {v : V} (h : repB K mg F C d v) : repB K mg F C' d v := by
  rcases h with h | ⟨a, c, h1, h2, h3, h4⟩
  · exact .inl (h.to e.car)
  · exact .inr ⟨a, c, h1, h2, h3, w.own e h2 h4⟩
theorem repBs.ext (w : Hw K mg F C) (e : Ext C C') : ∀ {ds : List D} {vs : List V}, repBs K mg F C ds vs → repBs K mg F C' ds vs
  | [], _, h => h
  | d :: ds, vs, h => by
    obtain ⟨v, r, q, h1, h2⟩ := h
    exact ⟨v, r, q, h1.ext w e, repBs.ext w e h2⟩
theorem reps.B : ∀ {ds : List D} {vs : List V}, reps K F C ds vs → repBs K mg F C ds vs
  | [], _, h => h
  | d :: ds, vs, h => by
    obtain ⟨v, r, q, h1, h2⟩ := h
    exact ⟨v, r, q, .inl h1, reps.B h2⟩
/-- what a value is, by its data as it stands now -/
def seen (K : PySem.W.Frag) (mg : Str → Option Value) (F : Addr → Prop) (C : Cf) : D → V → Prop
  | .non, v => v = .non
  | .bl b, v => v = .bl b
  | .int i, v => v = .int i
  | .str x, v => v = .str x
  | .tup ds, v => ∃ a vs, v = .ref a ∧ SqT K C.H a vs ∧ reps K F C ds vs
  | .lst ds, v => ∃ a vs, v = .ref a ∧ C.H a = some (.lst vs) ∧ reps K F C ds vs
  | .fro ds, v => ∃ a vs, v = .ref a ∧ SqL K C.H a vs ∧ reps K F C ds vs
  | .dic ks ds, v => ∃ a vs, v = .ref a ∧ C.H a = some (.dK (ks.zip vs)) ∧ ks.length = vs.length ∧ reps K F C ds vs
  | .ref n, v => v = .ref (C.ρ n) ∧ n < C.h.length
theorem repB.seen (w : Hw K mg F C) {d : D} {v : V} (h : repB K mg F C d v) : seen K mg F C (deref C.h d) v := by
  rcases h with h | ⟨a, c, h1, h2, h3, h4⟩
  · cases d with
    | lst ds =>
      obtain ⟨a, vs, e, q, n, r⟩ := h
      exact ⟨a, vs, e, q, r⟩
    | fro ds =>
      obtain ⟨a, vs, e, q, r⟩ := h
      rcases q with ⟨o, q⟩ | q
      · exact ⟨a, vs, e, .inl (.inr ⟨o, q⟩), r⟩
      · exact ⟨a, vs, e, q.sq, r⟩
    | dic ks ds =>
      obtain ⟨a, vs, e, q, l, n, r⟩ := h
      exact ⟨a, vs, e, q, l, r⟩
    | ref n =>
      obtain ⟨hn, e⟩ := h
      obtain ⟨c, hc⟩ : ∃ c, C.h[n]? = some c := ⟨_, List.getElem?_eq_getElem hn⟩
      have q := w.cells n c hc
      have e0 : deref C.h (.ref n) = match C.h[n]? with
        | some (.lst xs) => .lst xs
        | some (.dic ks vs) => .dic ks vs
        | _ => .ref n := rfl
      rw [e0, hc]
      cases c with
      | lst ds =>
        obtain ⟨vs, q1, q2⟩ := q
        exact ⟨_, vs, e, q1, q2⟩
      | dic ks ds =>
        obtain ⟨vs, q1, l, q2⟩ := q
        exact ⟨_, vs, e, q1, l, q2⟩
      | ins c fs => exact ⟨e, hn⟩
    | _ => exact h
  · subst h1
    cases d with
    | lst ds =>
      cases h3
      obtain ⟨vs, q1, q2⟩ := h4
      exact ⟨_, vs, rfl, q1, q2⟩
    | dic ks ds =>
      cases h3
      obtain ⟨vs, q1, l, q2⟩ := h4
      exact ⟨_, vs, rfl, q1, l, q2⟩
    | _ => cases h3
end

/-! ### frames -/
def slotOk (K : PySem.W.Frag) (mg : Str → Option Value) (F : Addr → Prop) (C : Cf) (a : Addr) : Slot → Option (Option V) → Prop
  | .u, _ => True
  | .v d, x => ∃ v, x = some (some v) ∧ rep K F C d v
  | .o d, x => x = some (some (.ref a)) ∧ F a ∧ ∃ c, cellOf d = some c ∧ objAt K mg F C a c
structure Fw (K : PySem.W.Frag) (mg : Str → Option Value) (F : Addr → Prop) (C : Cf) (ω : Nat → Addr) (fr : Fr) (σ : St) : Prop where
  len : σ.length = fr.length
  slots : ∀ i s, fr[i]? = some s → slotOk K mg F C (ω i) s σ[i]?
section
variable {K : PySem.W.Frag} {mg : Str → Option Value} {F F' : Addr → Prop} {C C' : Cf} {ω : Nat → Addr} {fr : Fr} {σ : St}
theorem slotOk.ext (w : Hw K mg F C) (e : Ext C C') {a : Addr} {s : Slot} {x : Option (Option V)} (h : slotOk K mg F C a s x) : slotOk K mg F C' a s x := by
  cases s with
  | u => trivial
  | v d => obtain ⟨v, q, r⟩ := h; exact ⟨v, q, r.to e.car⟩
  | o d => obtain ⟨q, f, c, h1, h2⟩ := h; exact ⟨q, f, c, h1, w.own e f h2⟩
theorem Fw.ext (f : Fw K mg F C ω fr σ) (w : Hw K mg F C) (e : Ext C C') : Fw K mg F C' ω fr σ := ⟨f.len, fun i s h => (f.slots i s h).ext w e⟩
/-- a slot forgotten, here and there -/
theorem Fw.wipe1 (f : Fw K mg F C ω fr σ) (i : Nat) (x : Option V) : Fw K mg F C ω (fr.set i .u) (σ.set i x) := by
  refine ⟨by simp [f.len], fun j s h => ?_⟩
  by_cases e : i = j
  · subst e
    by_cases hi : i < fr.length
    · rw [List.getElem?_set_self hi] at h; cases h; trivial
    · rw [List.getElem?_eq_none (by simpa using hi)] at h; cases h
  · rw [List.getElem?_set_ne e] at h
    rw [List.getElem?_set_ne e]
    exact f.slots j s h
theorem Fw.set (f : Fw K mg F C ω fr σ) (i : Nat) {d : D} {v : V} (r : rep K F C d v) : Fw K mg F C ω (fr.set i (.v d)) (σ.set i (some v)) := by
  refine ⟨by simp [f.len], fun j s h => ?_⟩
  by_cases e : i = j
  · subst e
    by_cases hi : i < fr.length
    · rw [List.getElem?_set_self hi] at h; cases h
      exact ⟨v, List.getElem?_set_self (by rw [f.len]; exact hi), r⟩
    · rw [List.getElem?_eq_none (by simpa using hi)] at h; cases h
  · rw [List.getElem?_set_ne e] at h
    rw [List.getElem?_set_ne e]
    exact f.slots j s h
end

/-! ### judgements -/
abbrev ME := Fr → AH → Out D
abbrev MA := Fr → AH → Out (List D)
abbrev MT := Fr → AH → Out Bool
/-- what is wanted behind -/
def Post {α β : Type} (K : PySem.W.Frag) (mg : Str → Option Value) (F : Addr → Prop) (C : Cf) (R : Cf → α → β → Prop) (E : Value → Option Addr → Hp → Prop) (Q : β → Hp → Prop) : Out α → Prop
  | .ok d h' => ∀ C' v, C'.h = h' → Hw K mg F C' → Ext C C' → R C' d v → Q v C'.H
  | .err e h' => ∀ C' cls dx, C'.h = h' → Hw K mg F C' → Ext C C' → errRep K mg F C' e cls dx → E cls dx C'.H
  | .bad => False
structure RJ {α β τ : Type} (X : Cx) (W : WX) (P : (St → Hp → (β → Hp → Prop) → Prop) → Prop) (R : (Addr → Prop) → Cf → α → β → Prop) (m : Fr → AH → Out α) : Prop where
  ex : ∃ t : St → Hp → (β → Hp → Prop) → Prop, P t ∧ ∀ (F : Addr → Prop) (C : Cf) (ω : Nat → Addr) (fr : Fr) (σ : St) (Q : β → Hp → Prop), Hw X.K X.mg F C → Fw X.K X.mg F C ω fr σ →
    Post X.K X.mg F C (R F) (fun cls dx H => W cls dx σ H) Q (m fr C.h) → t σ C.H Q
/-- an expression is worth m -/
abbrev RE (X : Cx) (W : WX) (e : Expr) (m : ME) : Prop := RJ (α := D) (β := V) (τ := Unit) X W (PE X e) (fun F C => rep X.K F C) m
/-- .. to be looked at now -/
abbrev RB (X : Cx) (W : WX) (e : Expr) (m : ME) : Prop := RJ (α := D) (β := V) (τ := Unit) X W (PE X e) (fun F C => repB X.K X.mg F C) m
abbrev RT (X : Cx) (W : WX) (e : Expr) (m : MT) : Prop := RJ (α := Bool) (β := Bool) (τ := Unit) X W (PT X e) (fun _ _ a b => b = a) m
abbrev RA (X : Cx) (W : WX) (es : List Expr) (m : MA) : Prop := RJ (α := List D) (β := List V) (τ := Unit) X W (PA X es) (fun F C => reps X.K F C) m
abbrev RAB (X : Cx) (W : WX) (es : List Expr) (m : MA) : Prop := RJ (α := List D) (β := List V) (τ := Unit) X W (PA X es) (fun F C => repBs X.K X.mg F C) m

section
variable {K : PySem.W.Frag} {mg : Str → Option Value} {F : Addr → Prop} {C : Cf}
/-- one after another -/
theorem Post.bind {α β γ δ : Type} {R : Cf → α → β → Prop} {R' : Cf → γ → δ → Prop} {E : Value → Option Addr → Hp → Prop} {Q : δ → Hp → Prop} {x : Out α} {f : α → AH → Out γ} (h : Post K mg F C R' E Q (x.bind f)) {Q' : β → Hp → Prop}
    (hq : ∀ C1 d v, Hw K mg F C1 → Ext C C1 → R C1 d v → Post K mg F C1 R' E Q (f d C1.h) → Q' v C1.H) : Post K mg F C R E Q' x := by
  cases x with
  | ok d h1 =>
    intro C1 v e w x r
    subst e
    refine hq C1 d v w x r ?_
    have h' : Post K mg F C R' E Q (f d C1.h) := h
    cases q : f d C1.h with
    | ok d2 h2 =>
      rw [q] at h'
      exact fun C2 v2 e2 w2 x2 r2 => h' C2 v2 e2 w2 (x.trans x2) r2
    | err e2 h2 =>
      rw [q] at h'
      exact fun C2 cl dx e2 w2 x2 r2 => h' C2 cl dx e2 w2 (x.trans x2) r2
    | bad => rw [q] at h'; exact h'
  | err e h1 => exact h
  | bad => exact h
theorem Post.mono {α β : Type} {R R' : Cf → α → β → Prop} {E : Value → Option Addr → Hp → Prop} {Q Q' : β → Hp → Prop} {x : Out α} (h : Post K mg F C R E Q x) (hr : ∀ C' d v, R' C' d v → R C' d v)
    (hq : ∀ v H, Q v H → Q' v H) : Post K mg F C R' E Q' x := by
  cases x with
  | ok d h1 => exact fun C1 v e w x r => hq _ _ (h C1 v e w x (hr _ _ _ r))
  | err e h1 => exact h
  | bad => exact h
theorem Post.now {α β : Type} {R : Cf → α → β → Prop} {E : Value → Option Addr → Hp → Prop} {Q : β → Hp → Prop} {d : α} {v : β} (h : Post K mg F C R E Q (.ok d C.h)) (w : Hw K mg F C) (r : R C d v) : Q v C.H := h C v rfl w (Ext.refl C) r
end

section
variable {X : Cx} {W : WX} {e : Expr} {m : ME}
theorem RB.of (h : RE X W e m) : RB X W e m := by
  obtain ⟨t, ht, hq⟩ := h.ex
  exact ⟨t, ht, fun F C ω fr σ Q w f p => hq F C ω fr σ Q w f (p.mono (fun _ _ _ r => .inl r) fun _ _ q => q)⟩
theorem RJ.imp {α β τ : Type} {P : (St → Hp → (β → Hp → Prop) → Prop) → Prop} {R : (Addr → Prop) → Cf → α → β → Prop} {m m' : Fr → AH → Out α} (h : RJ (τ := τ) X W P R m) (e : ∀ fr h, m' fr h = .bad ∨ m fr h = m' fr h) : RJ (τ := τ) X W P R m' := by
  obtain ⟨t, ht, hq⟩ := h.ex
  refine ⟨t, ht, fun F C ω fr σ Q w f p => hq F C ω fr σ Q w f ?_⟩
  rcases e fr C.h with q | q
  · rw [q] at p; exact p.elim
  · rw [q]; exact p

/-! ### names, constants -/
def eVar (i : Nat) : ME := fun fr h => match fr[i]? with
  | some (.v d) => .ok d h
  | _ => .bad
def eOwn (i : Nat) : ME := fun fr h => match fr[i]? with
  | some (.v d) => .ok d h
  | some (.o d) => .ok d h
  | _ => .bad
def eC (d : D) : ME := fun _ h => .ok d h
theorem re_var (i : Nat) {x : Str} {pos : Pos} (hN : X.N[i]? = some x := by rfl) (hv : Vis X.env.scope x := by first | exact Or.inl rfl | exact Or.inr (Or.inl rfl) | exact Or.inr (Or.inr rfl)) (hd : (x == ("__debug__" : Str)) = false := by decide)
    (hcd : (x == ("__classdict__" : Str)) = false := by decide) : RE X W (.Name x pos) (eVar i) := by
  refine ⟨_, pe_var hN hv hd hcd, fun F C ω fr σ Q w f p => ?_⟩
  unfold eVar at p
  split at p
  · rename_i d hd
    obtain ⟨v, e, r⟩ := f.slots i _ hd
    exact ⟨v, e, p.now w r⟩
  · exact p.elim
theorem rb_own (i : Nat) {x : Str} {pos : Pos} (hN : X.N[i]? = some x := by rfl) (hv : Vis X.env.scope x := by first | exact Or.inl rfl | exact Or.inr (Or.inl rfl) | exact Or.inr (Or.inr rfl)) (hd : (x == ("__debug__" : Str)) = false := by decide)
    (hcd : (x == ("__classdict__" : Str)) = false := by decide) : RB X W (.Name x pos) (eOwn i) := by
  refine ⟨_, pe_var hN hv hd hcd, fun F C ω fr σ Q w f p => ?_⟩
  unfold eOwn at p
  split at p
  · rename_i d hd
    obtain ⟨v, e, r⟩ := f.slots i _ hd
    exact ⟨v, e, p.now w (.inl r)⟩
  · rename_i d hd
    obtain ⟨e, ff, c, h1, h2⟩ := f.slots i _ hd
    exact ⟨_, e, p.now w (.inr ⟨_, c, rfl, ff, h1, h2⟩)⟩
  · exact p.elim
theorem re_const {d : D} {v : V} (h : PE X e (tC v)) (r : ∀ F C, rep X.K F C d v) : RE X W e (eC d) :=
  ⟨_, h, fun F C ω fr σ Q w f p => p.now w (r F C)⟩
theorem re_int {i : Int} {j pos} : RE X W (.Constant (.int i) j pos) (eC (.int i)) := re_const pe_int fun _ _ => rfl
theorem re_bl {b : Bool} {j pos} : RE X W (.Constant (.bool b) j pos) (eC (.bl b)) := re_const pe_bl fun _ _ => rfl
theorem re_non {j pos} : RE X W (.Constant .none j pos) (eC .non) := re_const pe_non fun _ _ => rfl
theorem re_str {x : Str} {j pos} : RE X W (.Constant (.str x) j pos) (eC (.str x)) := re_const pe_str fun _ _ => rfl
end

/-! ### arguments -/
section
variable {X : Cx} {W : WX} {e : Expr} {es : List Expr} {m : ME} {ms : MA}
def aNil : MA := fun _ h => .ok [] h
def aCons (m : ME) (ms : MA) : MA := fun fr h => (m fr h).bind fun d h1 => (ms fr h1).bind fun ds h2 => .ok (d :: ds) h2
theorem ra_nil : RA X W [] aNil := ⟨_, pa_nil, fun F C ω fr σ Q w f p => p.now w rfl⟩
theorem rab_nil : RAB X W [] aNil := ⟨_, pa_nil, fun F C ω fr σ Q w f p => p.now w rfl⟩
theorem ra_cons (h : RE X W e m) (hs : RA X W es ms) (hst : starEach (e :: es) X.env = (false, eval e X.env) :: starEach es X.env := by rfl) : RA X W (e :: es) (aCons m ms) := by
  obtain ⟨t, ht, hq⟩ := h.ex
  obtain ⟨u, hu, hr⟩ := hs.ex
  refine ⟨_, pa_cons ht hu hst, fun F C ω fr σ Q w f p => ?_⟩
  refine hq F C ω fr σ _ w f (p.bind fun C1 d v w1 x1 r1 p1 => ?_)
  refine hr F C1 ω fr σ _ w1 (f.ext w x1) (p1.bind fun C2 ds vs w2 x2 r2 p2 => ?_)
  exact p2.now w2 ⟨v, vs, rfl, r1.to x2.car, r2⟩
theorem rab_cons (h : RB X W e m) (hs : RAB X W es ms) (hst : starEach (e :: es) X.env = (false, eval e X.env) :: starEach es X.env := by rfl) : RAB X W (e :: es) (aCons m ms) := by
  obtain ⟨t, ht, hq⟩ := h.ex
  obtain ⟨u, hu, hr⟩ := hs.ex
  refine ⟨_, pa_cons ht hu hst, fun F C ω fr σ Q w f p => ?_⟩
  refine hq F C ω fr σ _ w f (p.bind fun C1 d v w1 x1 r1 p1 => ?_)
  refine hr F C1 ω fr σ _ w1 (f.ext w x1) (p1.bind fun C2 ds vs w2 x2 r2 p2 => ?_)
  exact p2.now w2 ⟨v, vs, rfl, r1.ext w1 x2, r2⟩
end

/-! ### operators, comparisons by values -/
abbrev F2 := AH → D → D → Option D
/-- what a rule by values does, on data -/
def V2 (K : PySem.W.Frag) (mg : Str → Option Value) (r : R2) (f : F2) : Prop := ∀ (F : Addr → Prop) (C : Cf) (d1 : D) (v1 : V) (d2 : D) (v2 : V) (Q : VK) (d : D), Hw K mg F C → repB K mg F C d1 v1 → repB K mg F C d2 v2 → f C.h d1 d2 = some d →
  (∀ C' v, C'.h = C.h → Hw K mg F C' → Ext C C' → rep K F C' d v → Q v C'.H) → r v1 v2 C.H Q
section
variable {X : Cx} {W : WX} {a b c : Expr} {ma mb mc : ME} {pos : Pos}
def e2 (f : F2) (ma mb : ME) : ME := fun fr h => (ma fr h).bind fun x h1 => (mb fr h1).bind fun y h2 => .ofOpt (f h2 x y) h2
theorem V2.run {r : R2} {f : F2} (hv : V2 X.K X.mg r f) {F : Addr → Prop} {C : Cf} {d1 d2 : D} {v1 v2 : V} {Q : VK} {E : Value → Option Addr → Hp → Prop} (w : Hw X.K X.mg F C) (r1 : repB X.K X.mg F C d1 v1) (r2 : repB X.K X.mg F C d2 v2)
    (p : Post X.K X.mg F C (fun C => rep X.K F C) E Q (.ofOpt (f C.h d1 d2) C.h)) : r v1 v2 C.H Q := by
  cases q : f C.h d1 d2 with
  | none => rw [q] at p; exact p.elim
  | some d =>
    rw [q] at p
    exact hv F C d1 v1 d2 v2 Q d w r1 r2 q fun C' v e w' x r => p C' v e w' x r
theorem re_tOp {t : TE → TE → TE} {ta tb : TE} {r : R2} {f : F2} (ht : ∀ ta tb, t ta tb = tOp r ta tb) (hv : V2 X.K X.mg r f) (ha : RB X W a ma) (hb : RB X W b mb) {e : Expr} (hp : ∀ ta tb, PE X a ta → PE X b tb → PE X e (tOp r ta tb)) : RE X W e (e2 f ma mb) := by
  obtain ⟨ta, hta, qa⟩ := ha.ex
  obtain ⟨tb, htb, qb⟩ := hb.ex
  refine ⟨_, hp _ _ hta htb, fun F C ω fr σ Q w f p => ?_⟩
  refine qa F C ω fr σ _ w f (p.bind fun C1 d1 v1 w1 x1 r1 p1 => ?_)
  refine qb F C1 ω fr σ _ w1 (f.ext w x1) (p1.bind fun C2 d2 v2 w2 x2 r2 p2 => ?_)
  exact hv.run w2 (r1.ext w1 x2) r2 p2
theorem re_bin {op : Operator} {r : R2} {f : F2} (ho : OpR X (binaryOp op) r) (hv : V2 X.K X.mg r f) (ha : RB X W a ma) (hb : RB X W b mb) : RE X W (.BinOp a op b pos) (e2 f ma mb) :=
  re_tOp (t := tOp r) (ta := tC .non) (tb := tC .non) (fun _ _ => rfl) hv ha hb fun _ _ => pe_op ho
theorem re_cmp {op : CmpOp} {r : R2} {f : F2} (ho : OpR X (compareOp op) r) (hv : V2 X.K X.mg r f) (ha : RB X W a ma) (hb : RB X W b mb) (hm : behindInMarks op b = false) : RE X W (.Compare a [op] [b] pos) (e2 f ma mb) :=
  re_tOp (t := tOp r) (ta := tC .non) (tb := tC .non) (fun _ _ => rfl) hv ha hb fun _ _ h1 h2 => pe_cmpR ho h1 h2 hm
theorem re_ix {r : R2} {f : F2} (ho : IxR X r) (hv : V2 X.K X.mg r f) (ha : RB X W a ma) (hb : RB X W b mb) (hs : PlainIx b) : RE X W (.Subscript a b pos) (e2 f ma mb) :=
  re_tOp (t := tOp r) (ta := tC .non) (tb := tC .non) (fun _ _ => rfl) hv ha hb fun _ _ h1 h2 => pe_ix ho h1 h2 hs
/-- a comparison as a test -/
def t2 (f : F2) (ma mb : ME) : MT := fun fr h => (e2 f ma mb fr h).bind fun d h1 => match d with
  | .bl b => .ok b h1
  | _ => .bad
theorem rt_cmp {op : CmpOp} {r : R2} {f : F2} (ho : OpR X (compareOp op) r) (hv : V2 X.K X.mg r f) (ha : RB X W a ma) (hb : RB X W b mb) (hm : behindInMarks op b = false) : RT X W (.Compare a [op] [b] pos) (t2 f ma mb) := by
  obtain ⟨ta, hta, qa⟩ := ha.ex
  obtain ⟨tb, htb, qb⟩ := hb.ex
  refine ⟨_, pt_cmpR ho hta htb hm, fun F C ω fr σ Q w f p => ?_⟩
  have p' := Post.bind (R := fun C => rep X.K F C) (Q' := fun x H' => ∃ k, x = V.bl k ∧ Q k H') p fun C1 d v w1 x1 r1 p1 => by
    cases d with
    | bl k => exact ⟨k, r1, p1.now w1 rfl⟩
    | _ => exact p1.elim
  refine qa F C ω fr σ _ w f (p'.bind fun C1 d1 v1 w1 x1 r1 p1 => ?_)
  refine qb F C1 ω fr σ _ w1 (f.ext w x1) (p1.bind fun C2 d2 v2 w2 x2 r2 p2 => ?_)
  exact hv.run w2 (r1.ext w1 x2) r2 p2
/-- a op1 b op2 c -/
def eChain (f g : F2) (ma mb mc : ME) : ME := fun fr h => (ma fr h).bind fun x h1 => (mb fr h1).bind fun y h2 => (Out.ofOpt (f h2 x y) h2).bind fun z h3 => match z with
  | .bl true => (mc fr h3).bind fun u h4 => .ofOpt (g h4 y u) h4
  | .bl false => .ok (.bl false) h3
  | _ => .bad
theorem chain_run {r r' : R2} {f g : F2} (hv : V2 X.K X.mg r f) (hv' : V2 X.K X.mg r' g) {ta tb tc : TE} 
    (qa : ∀ (F : Addr → Prop) (C : Cf) (ω : Nat → Addr) (fr : Fr) (σ : St) (Q : VK), Hw X.K X.mg F C → Fw X.K X.mg F C ω fr σ → Post X.K X.mg F C (fun C => repB X.K X.mg F C) (fun cls dx H => W cls dx σ H) Q (ma fr C.h) → ta σ C.H Q)
    (qb : ∀ (F : Addr → Prop) (C : Cf) (ω : Nat → Addr) (fr : Fr) (σ : St) (Q : VK), Hw X.K X.mg F C → Fw X.K X.mg F C ω fr σ → Post X.K X.mg F C (fun C => repB X.K X.mg F C) (fun cls dx H => W cls dx σ H) Q (mb fr C.h) → tb σ C.H Q)
    (qc : ∀ (F : Addr → Prop) (C : Cf) (ω : Nat → Addr) (fr : Fr) (σ : St) (Q : VK), Hw X.K X.mg F C → Fw X.K X.mg F C ω fr σ → Post X.K X.mg F C (fun C => repB X.K X.mg F C) (fun cls dx H => W cls dx σ H) Q (mc fr C.h) → tc σ C.H Q)
    {F : Addr → Prop} {C : Cf} {ω : Nat → Addr} {fr : Fr} {σ : St} {Q : VK} (w : Hw X.K X.mg F C) (f' : Fw X.K X.mg F C ω fr σ) (p : Post X.K X.mg F C (fun C => rep X.K F C) (fun cls dx H => W cls dx σ H) Q (eChain f g ma mb mc fr C.h)) : tChain r r' ta tb tc σ C.H Q := by
  refine qa F C ω fr σ _ w f' (p.bind fun C1 d1 v1 w1 x1 r1 p1 => ?_)
  refine qb F C1 ω fr σ _ w1 (f'.ext w x1) (p1.bind fun C2 d2 v2 w2 x2 r2 p2 => ?_)
  refine hv.run w2 (r1.ext w1 x2) r2 (E := fun cls dx H => W cls dx σ H) (p2.bind fun C3 d3 v3 w3 x3 r3 p3 => ?_)
  cases d3 with
  | bl k =>
    refine ⟨k, r3, ?_⟩
    cases k with
    | true =>
      refine iteT ?_
      refine qc F C3 ω fr σ _ w3 (((f'.ext w x1).ext w1 x2).ext w2 x3) (p3.bind fun C4 d4 v4 w4 x4 r4 p4 => ?_)
      exact hv'.run w4 ((r2.ext w2 x3).ext w3 x4) r4 p4
    | false => exact iteF (p3.now w3 rfl)
  | _ => exact p3.elim
theorem re_chain {op op' : CmpOp} {r r' : R2} {f g : F2} (ho : OpR X (compareOp op) r) (hv : V2 X.K X.mg r f) (ho' : OpR X (compareOp op') r') (hv' : V2 X.K X.mg r' g) (ha : RB X W a ma) (hb : RB X W b mb) (hc : RB X W c mc)
    (hm : lastMarks [op, op'] [b, c] = false := by with_unfolding_all rfl) : RE X W (.Compare a [op, op'] [b, c] pos) (eChain f g ma mb mc) := by
  obtain ⟨ta, hta, qa⟩ := ha.ex
  obtain ⟨tb, htb, qb⟩ := hb.ex
  obtain ⟨tc, htc, qc⟩ := hc.ex
  exact ⟨_, pe_chain ho ho' hta htb htc hm, fun F C ω fr σ Q w f p => chain_run hv hv' qa qb qc w f p⟩
def tOfE (m : ME) : MT := fun fr h => (m fr h).bind fun d h1 => match d with
  | .bl b => .ok b h1
  | _ => .bad
theorem rt_chain {op op' : CmpOp} {r r' : R2} {f g : F2} (ho : OpR X (compareOp op) r) (hv : V2 X.K X.mg r f) (ho' : OpR X (compareOp op') r') (hv' : V2 X.K X.mg r' g) (ha : RB X W a ma) (hb : RB X W b mb) (hc : RB X W c mc)
    (hm : lastMarks [op, op'] [b, c] = false := by with_unfolding_all rfl) : RT X W (.Compare a [op, op'] [b, c] pos) (tOfE (eChain f g ma mb mc)) := by
  obtain ⟨ta, hta, qa⟩ := ha.ex
  obtain ⟨tb, htb, qb⟩ := hb.ex
  obtain ⟨tc, htc, qc⟩ := hc.ex
  refine ⟨_, pt_chain ho ho' hta htb htc hm, fun F C ω fr σ Q w f p => ?_⟩
  refine chain_run hv hv' qa qb qc w f ?_
  refine Post.bind (R := fun C => rep X.K F C) p fun C1 d v w1 x1 r1 p1 => ?_
  cases d with
  | bl k => exact ⟨k, r1, p1.now w1 rfl⟩
  | _ => exact p1.elim
end
end Sim
set_option Elab.async false
set_option linter.all false
set_option maxRecDepth 100000
set_option maxHeartbeats 4000000
/-! SC: operators and comparisons on data. -/
namespace Sim
open PySem L2

/-! ### a dict beside a text -/
section
open PySem.SeqAt
theorem dict_eq_declines_str (l : Addr) (items : Array DictEntry) (n : Nat) (dd : Option Addr) (sl : Array (Option Value)) (b : Str) (u : Tok) :
    Meets (Builtin.«dict.__eq__» ⟨[.ref l, .str b u], []⟩) (fun _ R s => s.heap.get? l = some { cls := .type "dict", dict := dd, data := .dict items n, slots := sl } ∧ R (.ok (.ret .notImplemented)) s) :=
  .of_wp fun prog w A R s h => by
    obtain ⟨hp, g, d, tk, os⟩ := s; obtain ⟨hl, h⟩ := h
    show wpAny _ _ (Builtin.Dict.dictSlotArgs "__eq__" ⟨[.ref l, .str b u], []⟩ >>= _) _ _ _
    refine wpAny_bind ?_
    unfold Builtin.Dict.dictSlotArgs
    refine wpAny_bind (wpAny_notOrdered_dict ⟨_, hl, rfl⟩ ?_)
    refine wpAny_pure ?_
    refine wpAny_bind (wpAny_isInstance (T := "str") (typeIs_str _ b u) PySem.F.sub_str_dict ?_)
    simp only [Bool.not_false, if_true]
    exact wpAny_bind (wpAny_rule (wpAny_pure ⟨_, rfl, h⟩))
theorem str_eq_declines_dict (b : Str) (u : Tok) (l : Addr) (items : Array DictEntry) (n : Nat) (dd : Option Addr) (sl : Array (Option Value)) :
    Meets (Builtin.«str.__eq__» ⟨[.str b u, .ref l], []⟩) (fun _ R s => s.heap.get? l = some { cls := .type "dict", dict := dd, data := .dict items n, slots := sl } ∧ R (.ok (.ret .notImplemented)) s) :=
  .of_wp fun prog w A R s h => by obtain ⟨hp, g, d, tk, os⟩ := s; obtain ⟨hl, h⟩ := h; wp_walk using wpAny_loadPart' hl, wpAny_load hl; exact ⟨_, rfl, h⟩
theorem rc_dict_str {A : Around} {s : Shared} {l : Addr} {o : Obj} {es : Array DictEntry} {n : Nat} (b : Str) (u : Tok) (ho : s.heap.get? l = some o) (hx : o.ExactDict) (hd : o.data = .dict es n) (hu : A.units < cLine) : RcAt A s (.ref l) (.str b u) false := fun prog w E Q h => by
  obtain ⟨cls, dd, data, sl⟩ := o
  obtain ⟨hc, hdd, hs⟩ := hx
  simp only at hc hd hdd hs
  subst hc hd hdd hs
  exact rc_eq_decline_or (k := false) ⟨_, ho, rfl⟩ (typeIs_str s b u) (by decide) F.sub_str_dict F.slot_dict_eq F.slot_str_eq_refl
    (fun _ hq => call_meets F.slot_dict_eq ⟨_, ho, rfl⟩ F.entry_dict_eq (F.args_dict_eq_2 _ _) (dict_eq_declines_str l es n none #[] b u) ⟨ho, hq⟩)
    (fun _ hq => call_meets F.slot_str_eq_refl (typeIs_str s b u) F.entry_str_eq (F.args_str_eq_2 _ _) (str_eq_declines_dict b u l es n none #[]) ⟨ho, hq⟩)
    (fun _ hq => wpAny_of_eq (rfl : isSame (.ref l) (.str b u) = pure false) hq) (.inr hu) h
end
/-- a list, tuple or dict beside a text -/
def rObjStr (K : PySem.W.Frag) : R2 := fun x y H Q => ∃ a z, x = .ref a ∧ y = .str z ∧ ((∃ xs, SqL K H a xs) ∨ (∃ xs, SqT K H a xs) ∨ ∃ kvs, H a = some (.dK kvs)) ∧ Q (.bl false) H
theorem op_objStr {X : Cx} (hu : X.A.units < cLine) : OpR X (compareOp .Eq) (rObjStr X.K) := by
  intro pins s σ H x y v u Q I rx ry h
  obtain ⟨a, z, rfl, rfl, h, q⟩ := h
  cases rx
  obtain ⟨t, rfl⟩ := ry
  rcases h with ⟨xs, h⟩ | ⟨xs, h⟩ | ⟨kvs, h⟩
  · obtain ⟨its, r, pl, hz⟩ := I.list h
    exact SeqAt.RcAt.list_str z t pl.isList hu _ _ _ _ ⟨.bl false, H, I, rfl, q⟩
  · obtain ⟨its, r, pl, hz⟩ := I.tuple h
    exact SeqAt.RcAt.tuple_str z t (show s.heap.IsTuple a its.toArray from pl) hu _ _ _ _ ⟨.bl false, H, I, rfl, q⟩
  · obtain ⟨hz, hS, vs, r, o, es, ep, ho, hx, hd, _⟩ : kvs.length ≤ sizeLine ∧ (a == sysModules) = false ∧ ∃ vs, KV kvs vs ∧ s.heap.DictOf (mixKind X.prog X.w) a vs := I.hok a _ h
    exact rc_dict_str z t ho hx hd hu _ _ _ _ ⟨.bl false, H, I, rfl, q⟩

/-! ### sums, differences, products -/
section
variable {X : Cx} {K : PySem.W.Frag} {mg : Str → Option Value}
/-- two ints -/
def nI (g : Int → Int → Option D) : F2 := fun h a b => match deref h a, deref h b with
  | .int i, .int j => g i j
  | _, _ => none
theorem seen_int {F : Addr → Prop} {C : Cf} {d : D} {v : V} (w : Hw K mg F C) (h : repB K mg F C d v) {i : Int} (e : deref C.h d = .int i) : v = .int i := by
  have q := h.seen w
  rw [e] at q; exact q
theorem seen_str {F : Addr → Prop} {C : Cf} {d : D} {v : V} (w : Hw K mg F C) (h : repB K mg F C d v) {i : Str} (e : deref C.h d = .str i) : v = .str i := by
  have q := h.seen w
  rw [e] at q; exact q
theorem seen_bl {F : Addr → Prop} {C : Cf} {d : D} {v : V} (w : Hw K mg F C) (h : repB K mg F C d v) {i : Bool} (e : deref C.h d = .bl i) : v = .bl i := by
  have q := h.seen w
  rw [e] at q; exact q
theorem seen_tup {F : Addr → Prop} {C : Cf} {d : D} {v : V} (w : Hw K mg F C) (h : repB K mg F C d v) {ds : List D} (e : deref C.h d = .tup ds) : ∃ a vs, v = .ref a ∧ SqT K C.H a vs ∧ reps K F C ds vs := by
  have q := h.seen w
  rw [e] at q; exact q
theorem seen_lst {F : Addr → Prop} {C : Cf} {d : D} {v : V} (w : Hw K mg F C) (h : repB K mg F C d v) {ds : List D} (e : deref C.h d = .lst ds) : ∃ a vs, v = .ref a ∧ C.H a = some (.lst vs) ∧ reps K F C ds vs := by
  have q := h.seen w
  rw [e] at q; exact q
theorem seen_fro {F : Addr → Prop} {C : Cf} {d : D} {v : V} (w : Hw K mg F C) (h : repB K mg F C d v) {ds : List D} (e : deref C.h d = .fro ds) : ∃ a vs, v = .ref a ∧ SqL K C.H a vs ∧ reps K F C ds vs := by
  have q := h.seen w
  rw [e] at q; exact q
theorem seen_dic {F : Addr → Prop} {C : Cf} {d : D} {v : V} (w : Hw K mg F C) (h : repB K mg F C d v) {ks : List Key} {ds : List D} (e : deref C.h d = .dic ks ds) : ∃ a vs, v = .ref a ∧ C.H a = some (.dK (ks.zip vs)) ∧ ks.length = vs.length ∧ reps K F C ds vs := by
  have q := h.seen w
  rw [e] at q; exact q
theorem v2_int {P : Int → Int → Prop} {g : Int → Int → Option D} {g' : Int → Int → V} (h : ∀ i j d, g i j = some d → P i j ∧ ∀ F C, rep K F C d (g' i j)) : V2 K mg (rI P g') (nI g) := by
  intro F C d1 v1 d2 v2 Q d w r1 r2 e q
  unfold nI at e
  split at e
  · rename_i i j e1 e2
    obtain ⟨p, r⟩ := h i j d e
    exact ⟨i, j, seen_int w r1 e1, seen_int w r2 e2, p, q C _ rfl w (Ext.refl C) (r F C)⟩
  · cases e
theorem v2_int0 {g : Int → Int → D} {g' : Int → Int → V} (h : ∀ i j F C, rep K F C (g i j) (g' i j)) : V2 K mg (rI0 g') (nI fun i j => some (g i j)) := by
  intro F C d1 v1 d2 v2 Q d w r1 r2 e q
  unfold nI at e
  split at e
  · rename_i i j e1 e2
    cases e
    exact ⟨i, j, seen_int w r1 e1, seen_int w r2 e2, q C _ rfl w (Ext.refl C) (h i j F C)⟩
  · cases e

/-- + -/
def addD : F2 := fun h a b => match deref h a, deref h b with
  | .int i, .int j => some (.int (i + j))
  | .str x, .str y => if x.length + y.length ≤ sizeLine then some (.str (x ++ y)) else none
  | .tup xs, .tup ys => if xs.length + ys.length ≤ sizeLine then some (.tup (xs ++ ys)) else none
  | .lst xs, .lst ys => if xs.length + ys.length ≤ sizeLine then some (.lst (xs ++ ys)) else none
  | .bl k, .int j => some (.int ((if k = true then 1 else 0) + j))
  | _, _ => none
def rAddB : R2 := fun x y H Q => ∃ k j, x = .bl k ∧ y = .int j ∧ Q (.int ((if k = true then 1 else 0) + j)) H
theorem op_addB : OpR X (binaryOp .Add) rAddB := by
  intro pins s σ H x y v u Q I rx ry h
  obtain ⟨k, j, rfl, rfl, q⟩ := h
  cases rx
  obtain ⟨t, rfl⟩ := ry
  exact PySem.IntBool.add_bool_int ⟨.int _, H, I.tok _, ⟨_, rfl⟩, q⟩
abbrev rAddS : R2 := fun x y H Q => ∃ i j, x = .str i ∧ y = .str j ∧ i.length + j.length ≤ sizeLine ∧ Q (.str (i ++ j)) H
def rAddD (K : PySem.W.Frag) : R2 := fun x y H Q => rI0 (fun i j => .int (i + j)) x y H Q ∨ rAddS x y H Q ∨ rCatA K x y H Q ∨ rCat x y H Q ∨ rAddB x y H Q
theorem op_addD : OpR X (binaryOp .Add) (rAddD X.K) := op_add.or (op_add_str.or (op_catA.or (op_cat.or op_addB)))
theorem v2_addD : V2 K mg (rAddD K) addD := by
  intro F C d1 v1 d2 v2 Q d w r1 r2 e q
  unfold addD at e
  split at e
  · rename_i i j e1 e2
    cases e
    exact .inl ⟨i, j, seen_int w r1 e1, seen_int w r2 e2, q C _ rfl w (Ext.refl C) rfl⟩
  · rename_i x y e1 e2
    split at e
    · rename_i hz
      cases e
      exact .inr (.inl ⟨x, y, seen_str w r1 e1, seen_str w r2 e2, hz, q C _ rfl w (Ext.refl C) rfl⟩)
    · cases e
  · rename_i xs ys e1 e2
    split at e
    · rename_i hz
      cases e
      obtain ⟨a, vs, rfl, s1, p1⟩ := seen_tup w r1 e1
      obtain ⟨b, us, rfl, s2, p2⟩ := seen_tup w r2 e2
      have l1 := p1.length
      have l2 := p2.length
      refine .inr (.inr (.inl ⟨a, b, vs, us, rfl, rfl, s1, s2, by omega, fun h => ?_, fun _ h => ?_, fun _ _ p hp => ?_⟩))
      · have : xs = [] := List.length_eq_zero_iff.mp (by rw [l1, h]; rfl)
        subst this
        exact q C _ rfl w (Ext.refl C) ⟨b, us, rfl, s2, p2⟩
      · have : ys = [] := List.length_eq_zero_iff.mp (by rw [l2, h]; rfl)
        subst this
        rw [List.append_nil] at q
        exact q C _ rfl w (Ext.refl C) ⟨a, vs, rfl, s1, p1⟩
      · exact q ⟨C.ρ, C.h, _⟩ _ rfl (w.laid hp) (Ext.laid hp) (rep.tupNew w hp (p1.app p2))
    · cases e
  · rename_i xs ys e1 e2
    split at e
    · rename_i hz
      cases e
      obtain ⟨a, vs, rfl, s1, p1⟩ := seen_lst w r1 e1
      obtain ⟨b, us, rfl, s2, p2⟩ := seen_lst w r2 e2
      have l1 := p1.length
      have l2 := p2.length
      exact .inr (.inr (.inr (.inl ⟨a, b, vs, us, rfl, rfl, s1, s2, by omega, fun p hp => q ⟨C.ρ, C.h, _⟩ _ rfl (w.laid hp) (Ext.laid hp) (rep.lstNew w hp (p1.app p2))⟩)))
    · cases e
  · rename_i k j e1 e2
    cases e
    exact .inr (.inr (.inr (.inr ⟨k, j, seen_bl w r1 e1, seen_int w r2 e2, q C _ rfl w (Ext.refl C) rfl⟩)))
  · cases e
/-- -, *, //, %, ** -/
def subD : F2 := nI fun i j => some (.int (i - j))
theorem v2_subD : V2 K mg (rI0 fun i j => .int (i - j)) subD := v2_int0 fun _ _ _ _ => rfl
instance decMul (i j : Int) : Decidable (CMul i j ∨ CMulW i j) := by unfold CMul CMulW; infer_instance
def mulD : F2 := nI fun i j => if CMul i j ∨ CMulW i j then some (.int (i * j)) else none
theorem op_mulD : OpR X (binaryOp .Mult) (rI (fun i j => CMul i j ∨ CMulW i j) fun i j => .int (i * j)) := opI fun _ _ _ _ _ _ _ hc q => PyProof.Rows.mul_int q (hc.elim CMul.ok CMulW.ok)
theorem v2_mulD : V2 K mg (rI (fun i j => CMul i j ∨ CMulW i j) fun i j => .int (i * j)) mulD := v2_int fun i j d e => by
  split at e
  · rename_i h; cases e; exact ⟨h, fun _ _ => rfl⟩
  · cases e
instance decDiv (i j : Int) : Decidable (CDivW i j) := by unfold CDivW; infer_instance
def divD : F2 := nI fun i j => if CDivW i j then some (.int (i / j)) else none
theorem v2_divD : V2 K mg (rI CDivW fun i j => .int (i / j)) divD := v2_int fun i j d e => by
  split at e
  · rename_i h; cases e; exact ⟨h, fun _ _ => rfl⟩
  · cases e
def modD : F2 := nI fun i j => if 0 < j then some (.int (i % j)) else none
theorem v2_modD : V2 K mg (rI (fun _ j => 0 < j) fun i j => .int (i % j)) modD := v2_int fun i j d e => by
  split at e
  · rename_i h; cases e; exact ⟨h, fun _ _ => rfl⟩
  · cases e
instance decPow (i j : Int) : Decidable (CPow i j) := by unfold CPow; infer_instance
def powD : F2 := nI fun i j => if CPow i j then some (.int (i ^ j.toNat)) else none
theorem v2_powD : V2 K mg (rI CPow fun i j => .int (i ^ j.toNat)) powD := v2_int fun i j d e => by
  split at e
  · rename_i h; cases e; exact ⟨h, fun _ _ => rfl⟩
  · cases e

/-! ### order -/
def ltD : F2 := nI fun i j => some (.bl (decide (i < j)))
def leD : F2 := nI fun i j => some (.bl (decide (i ≤ j)))
def gtD : F2 := nI fun i j => some (.bl (decide (j < i)))
def geD : F2 := nI fun i j => some (.bl (decide (j ≤ i)))
theorem v2_ltD : V2 K mg (rI0 fun i j => .bl (decide (i < j))) ltD := v2_int0 fun _ _ _ _ => rfl
theorem v2_leD : V2 K mg (rI0 fun i j => .bl (decide (i ≤ j))) leD := v2_int0 fun _ _ _ _ => rfl
theorem v2_gtD : V2 K mg (rI0 fun i j => .bl (decide (j < i))) gtD := v2_int0 fun _ _ _ _ => rfl
theorem v2_geD : V2 K mg (rI0 fun i j => .bl (decide (j ≤ i))) geD := v2_int0 fun _ _ _ _ => rfl

/-! ### equality -/
def scalD : D → Bool
  | .non => true
  | .bl _ => true
  | .int _ => true
  | .str _ => true
  | _ => false
/-- == of flat data -/
def sEq : D → D → Bool
  | .non, .non => true
  | .bl a, .bl b => a == b
  | .bl a, .int b => (if a then 1 else 0) == b
  | .int a, .bl b => a == (if b then 1 else 0)
  | .int a, .int b => a == b
  | .str a, .str b => a == b
  | _, _ => false
mutual
/-- as the library's data -/
def toPy : D → PyData
  | .non => .none
  | .bl b => .bool b
  | .int i => .int i
  | .str x => .str x
  | .tup xs => .tuple (toPys xs)
  | .lst xs => .list (toPys xs)
  | .fro xs => .list (toPys xs)
  | .dic _ _ => .dict []
  | .ref _ => .dict []
def toPys : List D → List PyData
  | [] => []
  | x :: xs => toPy x :: toPys xs
end
mutual
theorem rep.dp {F : Addr → Prop} {C : Cf} : ∀ {d : D} {v : V}, rep K F C d v → PyData.canLay0 (toPy d) = true → Dp K C.H v (toPy d)
  | .non, v, h, _ => by cases (show v = .non from h); exact .non
  | .bl b, v, h, _ => by cases (show v = .bl b from h); exact .bl b
  | .int i, v, h, _ => by cases (show v = .int i from h); exact .int i
  | .str x, v, h, _ => by cases (show v = .str x from h); exact .str x
  | .tup ds, v, h, c => by
    obtain ⟨a, vs, rfl, q, r⟩ := h
    exact .tup q (reps.dp r c)
  | .lst ds, v, h, c => by
    obtain ⟨a, vs, rfl, q, n, r⟩ := h
    exact .lst (.of q) (reps.dp r c)
  | .fro ds, v, h, c => by
    obtain ⟨a, vs, rfl, q, r⟩ := h
    rcases q with ⟨o, q⟩ | q
    · exact .lst (.inl (.inr ⟨o, q⟩)) (reps.dp r c)
    · exact .lst q.sq (reps.dp r c)
  | .dic _ _, _, _, c => nomatch c
  | .ref _, _, _, c => nomatch c
theorem reps.dp {F : Addr → Prop} {C : Cf} : ∀ {ds : List D} {vs : List V}, reps K F C ds vs → PyData.canLayAll0 (toPys ds) = true → DpAll K C.H vs (toPys ds)
  | [], vs, h, _ => by cases (show vs = [] from h); exact .nil
  | d :: ds, vs, h, c => by
    obtain ⟨v, r, rfl, h1, h2⟩ := h
    have c' : PyData.canLay0 (toPy d) = true ∧ PyData.canLayAll0 (toPys ds) = true := by simpa [toPys, PyData.canLayAll0] using c
    exact .cons (rep.dp h1 c'.1) (reps.dp h2 c'.2)
end
theorem seen_dp {F : Addr → Prop} {C : Cf} {d : D} {v : V} (w : Hw K mg F C) (h : repB K mg F C d v) (c : PyData.canLay0 (toPy (deref C.h d)) = true) : Dp K C.H v (toPy (deref C.h d)) := by
  have q := h.seen w
  revert q c
  cases deref C.h d with
  | lst ds =>
    rintro c ⟨a, vs, rfl, q, r⟩
    exact .lst (.of q) (r.dp c)
  | fro ds =>
    rintro c ⟨a, vs, rfl, q, r⟩
    exact .lst q (r.dp c)
  | tup ds =>
    rintro c ⟨a, vs, rfl, q, r⟩
    exact .tup q (r.dp c)
  | non => intro c q; cases (show v = .non from q); exact .non
  | bl b => intro c q; cases (show v = .bl b from q); exact .bl b
  | int i => intro c q; cases (show v = .int i from q); exact .int i
  | str x => intro c q; cases (show v = .str x from q); exact .str x
  | dic _ _ => intro c; exact nomatch c
  | ref _ => intro c; exact nomatch c
/-- a list, tuple or dict -/
def bigD : D → Bool
  | .tup _ => true
  | .lst _ => true
  | .fro _ => true
  | .dic _ _ => true
  | _ => false
def isStrD : D → Bool
  | .str _ => true
  | _ => false
def eqB (h : AH) (a b : D) : Option Bool :=
  if scalD (deref h a) && scalD (deref h b) then some (sEq (deref h a) (deref h b))
  else if bigD (deref h a) && isStrD (deref h b) then some false
  else if SeqAt.shaped (toPy (deref h a)) && SeqAt.shaped (toPy (deref h b)) then some (PyData.eqv (toPy (deref h a)) (toPy (deref h b)))
  else none
def eqD : F2 := fun h a b => (eqB h a b).map .bl
/-- flat values -/
def rFlat (neg : Bool) : R2 := fun x y H Q => flatV x = true ∧ flatV y = true ∧ Q (.bl (if neg then !eqV x y else eqV x y)) H
theorem rc_V {A : Around} {s : Shared} {y x : V} {u v : Value} (ry : RelV y u) (rx : RelV x v) (fy : flatV y = true) (fx : flatV x = true) : SeqAt.RcAt A s u v (eqV y x) := by
  cases y with
  | non =>
    cases ry
    cases x with
    | non => cases rx; exact SeqAt.RcAt.none_none
    | bl b => cases rx; exact SeqAt.RcAt.none_bool b
    | int b => obtain ⟨t, rfl⟩ := rx; exact SeqAt.RcAt.none_int b t
    | str b => obtain ⟨t, rfl⟩ := rx; exact SeqAt.RcAt.none_str b t
    | _ => exact absurd (show false = true from fx) Bool.false_ne_true
  | bl a =>
    cases ry
    cases x with
    | non => cases rx; exact SeqAt.RcAt.bool_none a
    | bl b => cases rx; exact SeqAt.RcAt.bool_bool a b
    | int b => obtain ⟨t, rfl⟩ := rx; exact SeqAt.RcAt.bool_int a b t
    | str b => obtain ⟨t, rfl⟩ := rx; exact SeqAt.RcAt.bool_str a b t
    | _ => exact absurd (show false = true from fx) Bool.false_ne_true
  | int a =>
    obtain ⟨t0, rfl⟩ := ry
    cases x with
    | non => cases rx; exact SeqAt.RcAt.int_none a t0
    | bl b => cases rx; exact SeqAt.RcAt.int_bool a t0 b
    | int b => obtain ⟨t, rfl⟩ := rx; exact SeqAt.RcAt.int_int a t0 b t
    | str b => obtain ⟨t, rfl⟩ := rx; exact SeqAt.RcAt.int_str a t0 b t
    | _ => exact absurd (show false = true from fx) Bool.false_ne_true
  | str a =>
    obtain ⟨t0, rfl⟩ := ry
    cases x with
    | non => cases rx; exact SeqAt.RcAt.str_none a t0
    | bl b => cases rx; exact SeqAt.RcAt.str_bool a t0 b
    | int b => obtain ⟨t, rfl⟩ := rx; exact SeqAt.RcAt.str_int a t0 b t
    | str b => obtain ⟨t, rfl⟩ := rx; exact SeqAt.RcAt.str_str a t0 b t
    | _ => exact absurd (show false = true from fx) Bool.false_ne_true
  | _ => exact absurd (show false = true from fy) Bool.false_ne_true
theorem op_flat : OpR X (compareOp .Eq) (rFlat false) := by
  intro pins s σ H x y v u Q I rx ry h
  obtain ⟨f1, f2, q⟩ := h
  exact rc_V rx ry f1 f2 _ _ _ _ ⟨.bl _, H, I, rfl, q⟩
def rEqAll (K : PySem.W.Frag) : R2 := fun x y H Q => rFlat false x y H Q ∨ rObjStr K x y H Q ∨ rEqD K x y H Q
theorem op_eqAll (hu : X.A.units + 64 < cLine) : OpR X (compareOp .Eq) (rEqAll X.K) := op_flat.or ((op_objStr (by omega)).or (op_eqD hu))
/-- a flat thing's value -/
def flV : D → V
  | .non => .non
  | .bl b => .bl b
  | .int i => .int i
  | .str x => .str x
  | _ => .non
theorem flat_flV : ∀ d, flatV (flV d) = true
  | .non | .bl _ | .int _ | .str _ | .tup _ | .lst _ | .fro _ | .dic _ _ | .ref _ => rfl
theorem eq_flV : ∀ a b, scalD a = true → scalD b = true → eqV (flV a) (flV b) = sEq a b
  | .non, .non, _, _ => rfl
  | .non, .bl _, _, _ => rfl
  | .non, .int _, _, _ => rfl
  | .non, .str _, _, _ => rfl
  | .bl _, .non, _, _ => rfl
  | .bl _, .bl _, _, _ => rfl
  | .bl _, .int _, _, _ => rfl
  | .bl _, .str _, _, _ => rfl
  | .int _, .non, _, _ => rfl
  | .int _, .bl _, _, _ => rfl
  | .int _, .int _, _, _ => rfl
  | .int _, .str _, _, _ => rfl
  | .str _, .non, _, _ => rfl
  | .str _, .bl _, _, _ => rfl
  | .str _, .int _, _, _ => rfl
  | .str _, .str _, _, _ => rfl
  | .tup _, _, h, _ => nomatch h
  | .lst _, _, h, _ => nomatch h
  | .fro _, _, h, _ => nomatch h
  | .dic _ _, _, h, _ => nomatch h
  | .ref _, _, h, _ => nomatch h
  | .non, .tup _, _, h => nomatch h
  | .non, .lst _, _, h => nomatch h
  | .non, .fro _, _, h => nomatch h
  | .non, .dic _ _, _, h => nomatch h
  | .non, .ref _, _, h => nomatch h
  | .bl _, .tup _, _, h => nomatch h
  | .bl _, .lst _, _, h => nomatch h
  | .bl _, .fro _, _, h => nomatch h
  | .bl _, .dic _ _, _, h => nomatch h
  | .bl _, .ref _, _, h => nomatch h
  | .int _, .tup _, _, h => nomatch h
  | .int _, .lst _, _, h => nomatch h
  | .int _, .fro _, _, h => nomatch h
  | .int _, .dic _ _, _, h => nomatch h
  | .int _, .ref _, _, h => nomatch h
  | .str _, .tup _, _, h => nomatch h
  | .str _, .lst _, _, h => nomatch h
  | .str _, .fro _, _, h => nomatch h
  | .str _, .dic _ _, _, h => nomatch h
  | .str _, .ref _, _, h => nomatch h
theorem flV_of {F : Addr → Prop} {C : Cf} {x : D} {v : V} (q : seen K mg F C x v) (c : scalD x = true) : v = flV x := by
  cases x with
  | non => exact q
  | bl b => exact q
  | int i => exact q
  | str y => exact q
  | _ => exact nomatch c
theorem seen_flV {F : Addr → Prop} {C : Cf} {d : D} {v : V} (w : Hw K mg F C) (h : repB K mg F C d v) (c : scalD (deref C.h d) = true) : v = flV (deref C.h d) := flV_of (h.seen w) c
theorem seen_flat {F : Addr → Prop} {C : Cf} {d : D} {v : V} (w : Hw K mg F C) (h : repB K mg F C d v) (c : scalD (deref C.h d) = true) : flatV v = true := by
  rw [seen_flV w h c]; exact flat_flV _
theorem seen_eq {F : Addr → Prop} {C : Cf} {d1 d2 : D} {v1 v2 : V} (w : Hw K mg F C) (h1 : repB K mg F C d1 v1) (h2 : repB K mg F C d2 v2) (c1 : scalD (deref C.h d1) = true) (c2 : scalD (deref C.h d2) = true) : eqV v1 v2 = sEq (deref C.h d1) (deref C.h d2) := by
  rw [seen_flV w h1 c1, seen_flV w h2 c2]; exact eq_flV _ _ c1 c2
theorem v2_eqD : V2 K mg (rEqAll K) eqD := by
  intro F C d1 v1 d2 v2 Q d w r1 r2 e q
  unfold eqD eqB at e
  split at e
  · rename_i hs
    rw [Bool.and_eq_true] at hs
    cases e
    refine .inl ⟨seen_flat w r1 hs.1, seen_flat w r2 hs.2, ?_⟩
    exact q C _ rfl w (Ext.refl C) (by rw [if_neg Bool.false_ne_true, seen_eq w r1 r2 hs.1 hs.2]; rfl)
  · split at e
    · rename_i hs
      rw [Bool.and_eq_true] at hs
      cases e
      refine .inr (.inl ?_)
      obtain ⟨z, ez⟩ : ∃ z, deref C.h d2 = .str z := by
        have h2 := hs.2
        revert h2
        cases deref C.h d2 with
        | str z => exact fun _ => ⟨z, rfl⟩
        | _ => intro c; exact nomatch c
      have q1 := r1.seen w
      have h1 := hs.1
      revert h1 q1
      cases deref C.h d1 with
      | tup ds => rintro ⟨a, vs, rfl, s, _⟩ _; exact ⟨a, z, rfl, seen_str w r2 ez, .inr (.inl ⟨vs, s⟩), q C _ rfl w (Ext.refl C) rfl⟩
      | lst ds => rintro ⟨a, vs, rfl, s, _⟩ _; exact ⟨a, z, rfl, seen_str w r2 ez, .inl ⟨vs, .of s⟩, q C _ rfl w (Ext.refl C) rfl⟩
      | fro ds => rintro ⟨a, vs, rfl, s, _⟩ _; exact ⟨a, z, rfl, seen_str w r2 ez, .inl ⟨vs, s⟩, q C _ rfl w (Ext.refl C) rfl⟩
      | dic ks ds => rintro ⟨a, vs, rfl, s, _⟩ _; exact ⟨a, z, rfl, seen_str w r2 ez, .inr (.inr ⟨_, s⟩), q C _ rfl w (Ext.refl C) rfl⟩
      | _ => intro _ c; exact nomatch c
    · split at e
      · rename_i hs
        rw [Bool.and_eq_true] at hs
        cases e
        exact .inr (.inr ⟨_, _, seen_dp w r1 (SeqAt.canLay_of_shaped hs.1), seen_dp w r2 (SeqAt.canLay_of_shaped hs.2), hs.1, hs.2, q C _ rfl w (Ext.refl C) rfl⟩)
      · cases e
end
end Sim
set_option Elab.async false
set_option linter.all false
set_option maxRecDepth 100000
set_option maxHeartbeats 4000000
/-! SD: !=, in, is, places, slices, truth, tests, displays, built-in calls. -/
namespace Sim
open PySem L2
section
variable {X : Cx} {K : PySem.W.Frag} {mg : Str → Option Value}

/-! ### != -/
theorem dec_flV : ∀ a b, scal (flV a) (flV b) = true → scalD a = true → scalD b = true → decide (flV a = flV b) = sEq a b
  | .non, .non, _, _, _ => rfl
  | .non, .bl _, _, _, _ => rfl
  | .non, .int _, _, _, _ => rfl
  | .non, .str _, _, _, _ => rfl
  | .bl _, .non, _, _, _ => rfl
  | .bl a, .bl b, _, _, _ => dec_bl
  | .bl _, .int _, h, _, _ => nomatch h
  | .bl _, .str _, _, _, _ => rfl
  | .int _, .non, _, _, _ => rfl
  | .int _, .bl _, h, _, _ => nomatch h
  | .int a, .int b, _, _, _ => dec_int
  | .int _, .str _, _, _, _ => rfl
  | .str _, .non, _, _, _ => rfl
  | .str _, .bl _, _, _, _ => rfl
  | .str _, .int _, _, _, _ => rfl
  | .str a, .str b, _, _, _ => dec_str
  | .tup _, _, _, h, _ => nomatch h
  | .lst _, _, _, h, _ => nomatch h
  | .fro _, _, _, h, _ => nomatch h
  | .dic _ _, _, _, h, _ => nomatch h
  | .ref _, _, _, h, _ => nomatch h
  | _, .tup _, _, _, h => nomatch h
  | _, .lst _, _, _, h => nomatch h
  | _, .fro _, _, _, h => nomatch h
  | _, .dic _ _, _, _, h => nomatch h
  | _, .ref _, _, _, h => nomatch h
def neB (h : AH) (a b : D) : Option Bool :=
  if scalD (deref h a) && scalD (deref h b) && scal (flV (deref h a)) (flV (deref h b)) then some (!sEq (deref h a) (deref h b))
  else if SeqAt.shaped (toPy (deref h a)) && SeqAt.shaped (toPy (deref h b)) then some (!PyData.eqv (toPy (deref h a)) (toPy (deref h b)))
  else none
def neD : F2 := fun h a b => (neB h a b).map .bl
def rNeAll (K : PySem.W.Frag) : R2 := fun x y H Q => rNe x y H Q ∨ rNeD K x y H Q
theorem op_neAll (hu : X.A.units + 64 < cLine) : OpR X (compareOp .NotEq) (rNeAll X.K) := op_ne.or (op_neD hu)
theorem v2_neD : V2 K mg (rNeAll K) neD := by
  intro F C d1 v1 d2 v2 Q d w r1 r2 e q
  unfold neD neB at e
  split at e
  · rename_i hs
    rw [Bool.and_eq_true, Bool.and_eq_true] at hs
    cases e
    obtain ⟨⟨h1, h2⟩, h3⟩ := hs
    have e1 := seen_flV w r1 h1
    have e2 := seen_flV w r2 h2
    refine .inl ⟨by rw [e1, e2]; exact h3, ?_⟩
    exact q C _ rfl w (Ext.refl C) (by rw [e1, e2, dec_flV _ _ h3 h1 h2]; rfl)
  · split at e
    · rename_i hs
      rw [Bool.and_eq_true] at hs
      cases e
      exact .inr ⟨_, _, seen_dp w r1 (SeqAt.canLay_of_shaped hs.1), seen_dp w r2 (SeqAt.canLay_of_shaped hs.2), hs.1, hs.2, q C _ rfl w (Ext.refl C) rfl⟩
    · cases e

/-! ### in, not in -/
def itemsOf : D → Option (List D)
  | .lst ds => some ds
  | .tup ds => some ds
  | .fro ds => some ds
  | _ => none
def inB (h : AH) (a b : D) : Option Bool :=
  match deref h b with
  | .str z => match deref h a with
    | .str y => if y.length = 1 then some (decide (y.cps.getD 0 0 ∈ z.cps.toList)) else none
    | _ => none
  | c => match itemsOf c with
    | some ds => if scalD (deref h a) && ds.all scalD then some (ds.any fun d => sEq d (deref h a)) else none
    | none => none
def inD (neg : Bool) : F2 := fun h a b => (inB h a b).map fun k => .bl (if neg then !k else k)
def rInS (neg : Bool) : R2 := fun x y H Q => ∃ (c : Nat) (z : Str), x = .str ⟨#[c]⟩ ∧ y = .str z ∧ Q (.bl (if neg then !decide (c ∈ z.cps.toList) else decide (c ∈ z.cps.toList))) H
def rInAll (K : PySem.W.Frag) (neg : Bool) : R2 := fun x y H Q => rInS neg x y H Q ∨ rIn K neg x y H Q
theorem op_inAll : OpR X (compareOp .In) (rInAll X.K false) := OpR.or (by
  intro pins s σ H x y v u Q I rx ry ⟨c, z, e1, e2, q⟩
  exact op_in_sign pins s σ H x y v u Q I rx ry ⟨c, z, e1, e2, q⟩) op_in_seq
theorem op_notInAll : OpR X (compareOp .NotIn) (rInAll X.K true) := OpR.or (by
  intro pins s σ H x y v u Q I rx ry ⟨c, z, e1, e2, q⟩
  exact op_notIn_sign pins s σ H x y v u Q I rx ry ⟨c, z, e1, e2, q⟩) op_notIn_seq
theorem reps.flV {F : Addr → Prop} {C : Cf} : ∀ {ds : List D} {vs : List V}, reps K F C ds vs → ds.all scalD = true → vs = ds.map Sim.flV
  | [], vs, h, _ => h
  | d :: ds, vs, h, c => by
    obtain ⟨v, r, rfl, h1, h2⟩ := h
    rw [List.all_cons, Bool.and_eq_true] at c
    have e1 : v = Sim.flV d := by
      cases d with
      | non => exact h1
      | bl b => exact h1
      | int i => exact h1
      | str y => exact h1
      | _ => exact nomatch c.1
    rw [List.map_cons, ← e1, ← reps.flV h2 c.2]
theorem str_one {y : Str} (h : y.length = 1) : y = ⟨#[y.cps.getD 0 0]⟩ := by
  obtain ⟨⟨l⟩⟩ := y
  match l, h with
  | [c], _ => rfl
theorem v2_inD (neg : Bool) : V2 K mg (rInAll K neg) (inD neg) := by
  intro F C d1 v1 d2 v2 Q d w r1 r2 e q
  unfold inD inB at e
  have fin : ∀ (ds : List D) (a : Addr) (vs : List V), v2 = .ref a → (SqL K C.H a vs ∨ SqT K C.H a vs) → reps K F C ds vs →
      Option.map (fun k => D.bl (if neg = true then !k else k)) (if (scalD (deref C.h d1) && ds.all scalD) = true then some (ds.any fun d => sEq d (deref C.h d1)) else none) = some d → rInAll K neg v1 v2 C.H Q := by
    intro ds a vs ev hs hr e
    obtain ⟨k0, e3, e4⟩ := Option.map_eq_some_iff.mp e
    split at e3
    · rename_i hc
      rw [Bool.and_eq_true] at hc
      cases e3
      subst e4
      have ef := hr.flV hc.2
      have e1 := seen_flV w r1 hc.1
      refine .inr ⟨a, vs, ev, hs, by rw [e1]; exact flat_flV _, ?_, ?_⟩
      · rw [ef, List.all_eq_true]
        intro x hx
        obtain ⟨y, _, rfl⟩ := List.mem_map.mp hx
        exact flat_flV y
      · have en : inV v1 vs = ds.any fun d => sEq d (deref C.h d1) := by
          unfold inV
          rw [ef, List.any_map, e1, Bool.eq_iff_iff]
          simp only [List.any_eq_true, Function.comp]
          constructor
          · rintro ⟨x, hx, q⟩
            exact ⟨x, hx, by rw [← eq_flV x _ (List.all_eq_true.mp hc.2 x hx) hc.1]; exact q⟩
          · rintro ⟨x, hx, q⟩
            exact ⟨x, hx, by rw [eq_flV x _ (List.all_eq_true.mp hc.2 x hx) hc.1]; exact q⟩
        rw [en]
        exact q C _ rfl w (Ext.refl C) rfl
    · cases e3
  cases e2 : deref C.h d2 with
  | str z =>
    rw [e2] at e
    cases e1 : deref C.h d1 with
    | str y =>
      rw [e1] at e
      obtain ⟨k0, e3, e4⟩ := Option.map_eq_some_iff.mp e
      simp only at e3
      split at e3
      · rename_i hy
        cases e3
        subst e4
        refine .inl ⟨y.cps.getD 0 0, z, ?_, seen_str w r2 e2, ?_⟩
        · rw [seen_str w r1 e1, ← str_one hy]
        · exact q C _ rfl w (Ext.refl C) rfl
      · cases e3
    | _ => rw [e1] at e; cases e
  | lst ds =>
    rw [e2] at e
    obtain ⟨a, vs, ev, hs, hr⟩ := seen_lst w r2 e2
    exact fin ds a vs ev (.inl (.of hs)) hr e
  | tup ds =>
    rw [e2] at e
    obtain ⟨a, vs, ev, hs, hr⟩ := seen_tup w r2 e2
    exact fin ds a vs ev (.inr hs) hr e
  | fro ds =>
    rw [e2] at e
    obtain ⟨a, vs, ev, hs, hr⟩ := seen_fro w r2 e2
    exact fin ds a vs ev (.inl hs) hr e
  | _ => rw [e2] at e; cases e

/-! ### is None -/
def isNoneD : D → Bool
  | .non => true
  | _ => false
def isND (neg : Bool) : F2 := fun h a b => match b with
  | .non => some (.bl (if neg then !isNoneD a else isNoneD a))
  | _ => none
theorem rep.isNone {F : Addr → Prop} {C : Cf} {d : D} {v : V} (h : repB K mg F C d v) : decide (v = .non) = isNoneD d := by
  rcases h with h | ⟨a, c, rfl, _, h3, _⟩
  · cases d with
    | non => cases (show v = .non from h); rfl
    | bl b => cases (show v = .bl b from h); rfl
    | int b => cases (show v = .int b from h); rfl
    | str b => cases (show v = .str b from h); rfl
    | tup ds => obtain ⟨a, vs, rfl, _⟩ := h; rfl
    | lst ds => obtain ⟨a, vs, rfl, _⟩ := h; rfl
    | fro ds => obtain ⟨a, vs, rfl, _⟩ := h; rfl
    | dic ks ds => obtain ⟨a, vs, rfl, _⟩ := h; rfl
    | ref n => obtain ⟨_, rfl⟩ := h; rfl
  · cases d with
    | non => cases h3
    | _ => rfl
theorem rep.nonV {F : Addr → Prop} {C : Cf} {v : V} (h : repB K mg F C .non v) : v = .non := by
  rcases h with h | ⟨a, c, rfl, _, h3, _⟩
  · exact h
  · cases h3
theorem v2_isN : V2 K mg (fun x y H Q => y = .non ∧ Q (.bl (decide (x = .non))) H) (isND false) := by
  intro F C d1 v1 d2 v2 Q d w r1 r2 e q
  unfold isND at e
  split at e
  · cases e
    exact ⟨rep.nonV r2, q C _ rfl w (Ext.refl C) (by rw [rep.isNone r1]; rfl)⟩
  · cases e
theorem v2_notN : V2 K mg (fun x y H Q => y = .non ∧ Q (.bl (!decide (x = .non))) H) (isND true) := by
  intro F C d1 v1 d2 v2 Q d w r1 r2 e q
  unfold isND at e
  split at e
  · cases e
    exact ⟨rep.nonV r2, q C _ rfl w (Ext.refl C) (by rw [rep.isNone r1]; rfl)⟩
  · cases e

/-! ### places -/
theorem reps.at {F : Addr → Prop} {C : Cf} {ds : List D} {vs : List V} {i : Int} {d : D} (h : reps K F C ds vs) (e : atI ds i = some d) : ∃ v, atI vs i = some v ∧ rep K F C d v := by
  unfold atI at e ⊢
  rw [h.length] at e
  cases q : ixN vs.length i with
  | none => rw [q] at e; cases e
  | some j =>
    rw [q] at e
    exact h.get e
def ixD : F2 := fun h a b => match deref h b with
  | .int i => match deref h a with
    | .lst ds => atI ds i
    | .tup ds => atI ds i
    | .fro ds => atI ds i
    | .str z => if z.length ≤ sizeLine then (atI z.cps.toList i).map fun c => .str ⟨#[c]⟩ else none
    | _ => none
  | _ => none
theorem v2_ixD : V2 K mg (rIx K) ixD := by
  intro F C d1 v1 d2 v2 Q d w r1 r2 e q
  unfold ixD at e
  split at e
  · rename_i i ei
    have e2 := seen_int w r2 ei
    split at e
    · rename_i ds e1
      obtain ⟨a, vs, rfl, hs, hr⟩ := seen_lst w r1 e1
      obtain ⟨v, hv, rv⟩ := hr.at e
      exact .inl ⟨a, vs, i, v, rfl, e2, .of hs, hv, q C v rfl w (Ext.refl C) rv⟩
    · rename_i ds e1
      obtain ⟨a, vs, rfl, hs, hr⟩ := seen_tup w r1 e1
      obtain ⟨v, hv, rv⟩ := hr.at e
      exact .inr (.inl ⟨a, vs, i, v, rfl, e2, hs, hv, q C v rfl w (Ext.refl C) rv⟩)
    · rename_i ds e1
      obtain ⟨a, vs, rfl, hs, hr⟩ := seen_fro w r1 e1
      obtain ⟨v, hv, rv⟩ := hr.at e
      exact .inl ⟨a, vs, i, v, rfl, e2, hs, hv, q C v rfl w (Ext.refl C) rv⟩
    · rename_i z e1
      split at e
      · rename_i hz
        cases ec : atI z.cps.toList i with
        | none => rw [ec] at e; cases e
        | some c =>
          rw [ec] at e
          cases e
          exact .inr (.inr ⟨z, i, c, seen_str w r1 e1, e2, hz, ec, q C _ rfl w (Ext.refl C) rfl⟩)
      · cases e
    · cases e
  · cases e
end

/-! ### slices -/
section
variable {X : Cx} {W : WX} {K : PySem.W.Frag} {mg : Str → Option Value}
abbrev MO := Fr → AH → Out (Option Int)
abbrev RO (X : Cx) (W : WX) (e : Option Expr) (m : MO) : Prop := RJ (α := Option Int) (β := Option Int) (τ := Unit) X W (PO X e) (fun _ _ a b => b = a) m
def oNone : MO := fun _ h => .ok none h
def oSome (m : ME) : MO := fun fr h => (m fr h).bind fun d h1 => match d with
  | .int i => .ok (some i) h1
  | _ => .bad
theorem ro_none : RO X W none oNone := ⟨_, po_none, fun F C ω fr σ Q w f p => p.now w rfl⟩
theorem ro_some {e : Expr} {m : ME} (h : RE X W e m) : RO X W (some e) (oSome m) := by
  obtain ⟨t, ht, hq⟩ := h.ex
  refine ⟨_, po_some ht, fun F C ω fr σ Q w f p => ?_⟩
  refine hq F C ω fr σ _ w f (p.bind fun C1 d v w1 x1 r1 p1 => ?_)
  cases d with
  | int i => exact ⟨i, r1, p1.now w1 rfl⟩
  | _ => exact p1.elim
def cutD (xs : List D) (lo hi : Option Int) : List D := (xs.drop (HT.sIx xs.length 0 lo)).take (HT.sIx xs.length xs.length hi - HT.sIx xs.length 0 lo)
theorem reps.cut {F : Addr → Prop} {C : Cf} {ds : List D} {vs : List V} (h : reps K F C ds vs) (lo hi : Option Int) : reps K F C (cutD ds lo hi) (cutV vs lo hi) := by
  unfold cutD cutV
  rw [h.length]
  exact (h.drop _).take _
def sliceD (h : AH) (a : D) (lo hi : Option Int) : Option D := match deref h a with
  | .tup ds => some (.tup (cutD ds lo hi))
  | .lst ds => some (.lst (cutD ds lo hi))
  | .str z => if z.length ≤ sizeLine then some (.str (cutS z lo hi)) else none
  | _ => none
def rSlAll (K : PySem.W.Frag) : V → Option Int → Option Int → Hp → VK → Prop := fun x lo hi H Q => rSlA K x lo hi H Q ∨ rSlL K x lo hi H Q ∨ rSlS x lo hi H Q
theorem sl_all : SlR X (rSlAll X.K) := sl_tupA.or (sl_list.or sl_str)
def eSlice (ma : ME) (ml mh : MO) : ME := fun fr h => (ma fr h).bind fun x h1 => (ml fr h1).bind fun lo h2 => (mh fr h2).bind fun hi h3 => .ofOpt (sliceD h3 x lo hi) h3
theorem cut_whole {ds : List D} {lo hi : Option Int} (h : HT.sIx ds.length 0 lo = 0 ∧ HT.sIx ds.length ds.length hi = ds.length) : cutD ds lo hi = ds := by
  unfold cutD
  rw [h.1, h.2]
  simp
theorem re_slice {a : Expr} {lo hi : Option Expr} {ma : ME} {ml mh : MO} {p2 pos : Pos} (ha : RB X W a ma) (hl : RO X W lo ml) (hh : RO X W hi mh) : RE X W (.Subscript a (.Slice lo hi none p2) pos) (eSlice ma ml mh) := by
  obtain ⟨ta, hta, qa⟩ := ha.ex
  obtain ⟨tl, htl, ql⟩ := hl.ex
  obtain ⟨th, hth, qh⟩ := hh.ex
  refine ⟨_, pe_slice sl_all hta htl hth, fun F C ω fr σ Q w f p => ?_⟩
  refine qa F C ω fr σ _ w f (p.bind fun C1 d1 v1 w1 x1 r1 p1 => ?_)
  refine ql F C1 ω fr σ _ w1 (f.ext w x1) (p1.bind fun C2 l1 l2 w2 x2 rl p2 => ?_)
  subst rl
  refine qh F C2 ω fr σ _ w2 ((f.ext w x1).ext w1 x2) (p2.bind fun C3 u1 u2 w3 x3 ru p3 => ?_)
  subst ru
  have r := (r1.ext w1 x2).ext w2 x3
  unfold sliceD at p3
  split at p3
  · rename_i ds e1
    obtain ⟨b, vs, rfl, hs, hr⟩ := seen_tup w3 r e1
    refine .inl ⟨b, vs, rfl, hs, fun h => ?_, fun h pn hp => ?_⟩
    · have hl := hr.length
      rw [← hl] at h
      rw [cut_whole h] at p3
      exact p3.now w3 ⟨b, vs, rfl, hs, hr⟩
    · exact p3 ⟨C3.ρ, C3.h, _⟩ _ rfl (w3.laid hp) (Ext.laid hp) (rep.tupNew w3 hp (hr.cut _ _))
  · rename_i ds e1
    obtain ⟨b, vs, rfl, hs, hr⟩ := seen_lst w3 r e1
    exact .inr (.inl ⟨b, vs, rfl, .of hs, fun pn hp => p3 ⟨C3.ρ, C3.h, _⟩ _ rfl (w3.laid hp) (Ext.laid hp) (rep.lstNew w3 hp (hr.cut _ _))⟩)
  · rename_i z e1
    split at p3
    · rename_i hz
      exact .inr (.inr ⟨z, seen_str w3 r e1, hz, p3.now w3 rfl⟩)
    · exact p3.elim
  · exact p3.elim
end

/-! ### truth, tests -/
section
variable {X : Cx} {W : WX} {K : PySem.W.Frag} {mg : Str → Option Value} {e a b c : Expr} {m ma mb : ME} {t u : MT} {pos : Pos}
def truD (h : AH) (d : D) : Option Bool := match deref h d with
  | .non => some false
  | .bl b => some b
  | .int i => some (i != 0)
  | .str y => if y.length ≤ sizeLine then some ((y.length : Int) != 0) else none
  | .tup ds => some (!ds.isEmpty)
  | .lst ds => some (!ds.isEmpty)
  | .fro ds => some (!ds.isEmpty)
  | .dic ks _ => some (!ks.isEmpty)
  | .ref _ => none
theorem isEmpty_reps {F : Addr → Prop} {C : Cf} {ds : List D} {vs : List V} (h : reps K F C ds vs) : ds.isEmpty = vs.isEmpty := by
  have := h.length
  cases ds <;> cases vs <;> simp at this ⊢
theorem tru_of {F : Addr → Prop} {C : Cf} {d : D} {v : V} {k : Bool} (w : Hw K mg F C) (r : repB K mg F C d v) (e : truD C.h d = some k) : TruV K v C.H k := by
  have q := r.seen w
  unfold truD at e
  split at e <;> rename_i e1 <;> rw [e1] at q
  · cases e; cases (show v = .non from q); exact rfl
  · cases e; cases (show v = .bl _ from q); exact rfl
  · cases e; cases (show v = .int _ from q); exact rfl
  · cases (show v = .str _ from q)
    split at e
    · rename_i hz; cases e; exact ⟨hz, rfl⟩
    · cases e
  · cases e; obtain ⟨a, vs, rfl, hs, hr⟩ := q; exact .inr (.inl ⟨vs, hs, by rw [isEmpty_reps hr]⟩)
  · cases e; obtain ⟨a, vs, rfl, hs, hr⟩ := q; exact .inl ⟨vs, .of hs, by rw [isEmpty_reps hr]⟩
  · cases e; obtain ⟨a, vs, rfl, hs, hr⟩ := q; exact .inl ⟨vs, hs, by rw [isEmpty_reps hr]⟩
  · rename_i ks ds
    cases e; obtain ⟨a, vs, rfl, hs, hl, hr⟩ := q
    refine .inr (.inr ⟨_, hs, ?_⟩)
    cases ks <;> cases vs <;> simp at hl ⊢
  · cases e
def tTru (m : ME) : MT := fun fr h => (m fr h).bind fun d h1 => .ofOpt (truD h1 d) h1
theorem rt_truth (h : RB X W a m) (he : ∀ whole, isTrue a X.env whole = (do let v ← whole; standAt a.pos; holding [v] (truthy v))) : RT X W a (tTru m) := by
  obtain ⟨t, ht, hq⟩ := h.ex
  refine ⟨_, pt_truth ht he, fun F C ω fr σ Q w f p => ?_⟩
  refine hq F C ω fr σ _ w f (p.bind fun C1 d v w1 x1 r1 p1 => ?_)
  cases e1 : truD C1.h d with
  | none => rw [e1] at p1; exact p1.elim
  | some k => rw [e1] at p1; exact ⟨k, tru_of w1 r1 e1, p1.now w1 rfl⟩
abbrev RW (X : Cx) (W : WX) (e : Expr) (m : MT) : Prop := RJ (α := Bool) (β := Bool) (τ := Unit) X W (PW X e) (fun _ _ a b => b = a) m
theorem rt_w (h : RW X W e t) : RT X W e t := by
  obtain ⟨x, hx, hq⟩ := h.ex
  exact ⟨x, hx.pt, hq⟩
def tAndM (t u : MT) : MT := fun fr h => (t fr h).bind fun k h1 => if k = true then u fr h1 else .ok false h1
def tOrM (t u : MT) : MT := fun fr h => (t fr h).bind fun k h1 => if k = true then .ok true h1 else u fr h1
def tNotM (t : MT) : MT := fun fr h => (t fr h).bind fun k h1 => .ok (!k) h1
theorem rw_and1 (h : RT X W a t) : RW X W (.BoolOp .And [a] pos) t := by
  obtain ⟨x, hx, hq⟩ := h.ex
  exact ⟨x, pw_and1 hx, hq⟩
theorem rw_or1 (h : RT X W a t) : RW X W (.BoolOp .Or [a] pos) t := by
  obtain ⟨x, hx, hq⟩ := h.ex
  exact ⟨x, pw_or1 hx, hq⟩
theorem rw_and {rest : List Expr} (h : RT X W a t) (h2 : RW X W (.BoolOp .And (b :: rest) pos) u) : RW X W (.BoolOp .And (a :: b :: rest) pos) (tAndM t u) := by
  obtain ⟨x, hx, hq⟩ := h.ex
  obtain ⟨y, hy, hr⟩ := h2.ex
  refine ⟨_, pw_and hx hy, fun F C ω fr σ Q w f p => ?_⟩
  refine hq F C ω fr σ _ w f (p.bind fun C1 k0 k w1 x1 r1 p1 => ?_)
  subst r1
  cases k with
  | true => exact iteT (hr F C1 ω fr σ _ w1 (f.ext w x1) (by simpa using p1))
  | false => exact iteF (Post.now (d := false) (by simpa using p1) w1 rfl)
theorem rw_or {rest : List Expr} (h : RT X W a t) (h2 : RW X W (.BoolOp .Or (b :: rest) pos) u) : RW X W (.BoolOp .Or (a :: b :: rest) pos) (tOrM t u) := by
  obtain ⟨x, hx, hq⟩ := h.ex
  obtain ⟨y, hy, hr⟩ := h2.ex
  refine ⟨_, pw_or hx hy, fun F C ω fr σ Q w f p => ?_⟩
  refine hq F C ω fr σ _ w f (p.bind fun C1 k0 k w1 x1 r1 p1 => ?_)
  subst r1
  cases k with
  | true => exact iteT (Post.now (d := true) (by simpa using p1) w1 rfl)
  | false => exact iteF (hr F C1 ω fr σ _ w1 (f.ext w x1) (by simpa using p1))
theorem rt_not (h : RT X W a t) : RT X W (.UnaryOp .Not a pos) (tNotM t) := by
  obtain ⟨x, hx, hq⟩ := h.ex
  refine ⟨_, pt_not hx, fun F C ω fr σ Q w f p => ?_⟩
  refine hq F C ω fr σ _ w f (p.bind fun C1 k k' w1 x1 r1 p1 => ?_)
  subst r1
  exact p1.now w1 rfl
/-- x and y, x or y, not x as values -/
def eAndM (ma mb : ME) : ME := fun fr h => (ma fr h).bind fun x h1 => (Out.ofOpt (truD h1 x) h1).bind fun k h2 => if k = true then mb fr h2 else .ok x h2
def eOrM (ma mb : ME) : ME := fun fr h => (ma fr h).bind fun x h1 => (Out.ofOpt (truD h1 x) h1).bind fun k h2 => if k = true then .ok x h2 else mb fr h2
def eNotM (ma : ME) : ME := fun fr h => (ma fr h).bind fun x h1 => (Out.ofOpt (truD h1 x) h1).bind fun k h2 => .ok (.bl (!k)) h2
theorem re_one {op : BoolOp} (h : RE X W a m) : RE X W (.BoolOp op [a] pos) m := by
  obtain ⟨x, hx, hq⟩ := h.ex
  exact ⟨x, pe_one hx, hq⟩
theorem re_and {rest : List Expr} (h : RE X W a ma) (h2 : RE X W (.BoolOp .And (b :: rest) pos) mb) : RE X W (.BoolOp .And (a :: b :: rest) pos) (eAndM ma mb) := by
  obtain ⟨x, hx, hq⟩ := h.ex
  obtain ⟨y, hy, hr⟩ := h2.ex
  refine ⟨_, pe_andT hx hy, fun F C ω fr σ Q w f p => ?_⟩
  refine hq F C ω fr σ _ w f (p.bind fun C1 d v w1 x1 r1 p1 => ?_)
  cases e1 : truD C1.h d with
  | none => rw [e1] at p1; exact p1.elim
  | some k =>
    rw [e1] at p1
    refine ⟨k, tru_of w1 (.inl r1) e1, ?_⟩
    cases k with
    | true => exact iteT (hr F C1 ω fr σ _ w1 (f.ext w x1) (by simpa using p1))
    | false => exact iteF (Post.now (d := d) (by simpa using p1) w1 r1)
theorem re_or {rest : List Expr} (h : RE X W a ma) (h2 : RE X W (.BoolOp .Or (b :: rest) pos) mb) : RE X W (.BoolOp .Or (a :: b :: rest) pos) (eOrM ma mb) := by
  obtain ⟨x, hx, hq⟩ := h.ex
  obtain ⟨y, hy, hr⟩ := h2.ex
  refine ⟨_, pe_orT hx hy, fun F C ω fr σ Q w f p => ?_⟩
  refine hq F C ω fr σ _ w f (p.bind fun C1 d v w1 x1 r1 p1 => ?_)
  cases e1 : truD C1.h d with
  | none => rw [e1] at p1; exact p1.elim
  | some k =>
    rw [e1] at p1
    refine ⟨k, tru_of w1 (.inl r1) e1, ?_⟩
    cases k with
    | true => exact iteT (Post.now (d := d) (by simpa using p1) w1 r1)
    | false => exact iteF (hr F C1 ω fr σ _ w1 (f.ext w x1) (by simpa using p1))
theorem re_not (h : RB X W a ma) : RE X W (.UnaryOp .Not a pos) (eNotM ma) := by
  obtain ⟨x, hx, hq⟩ := h.ex
  refine ⟨_, pe_notT hx, fun F C ω fr σ Q w f p => ?_⟩
  refine hq F C ω fr σ _ w f (p.bind fun C1 d v w1 x1 r1 p1 => ?_)
  cases e1 : truD C1.h d with
  | none => rw [e1] at p1; exact p1.elim
  | some k =>
    rw [e1] at p1
    exact ⟨k, tru_of w1 r1 e1, Post.now (d := D.bl !k) p1 w1 rfl⟩
/-- a if t else b -/
def eIf (t : MT) (ma mb : ME) : ME := fun fr h => (t fr h).bind fun k h1 => if k = true then ma fr h1 else mb fr h1
theorem re_ifExp (hc : RT X W c t) (ha : RE X W a ma) (hb : RE X W b mb) : RE X W (.IfExp c a b pos) (eIf t ma mb) := by
  obtain ⟨x, hx, hq⟩ := hc.ex
  obtain ⟨y, hy, hr⟩ := ha.ex
  obtain ⟨z, hz, hs⟩ := hb.ex
  refine ⟨_, pe_ifExp hx hy hz, fun F C ω fr σ Q w f p => ?_⟩
  refine hq F C ω fr σ _ w f (p.bind fun C1 k0 k w1 x1 r1 p1 => ?_)
  subst r1
  cases k with
  | true => exact iteT (hr F C1 ω fr σ _ w1 (f.ext w x1) (by simpa using p1))
  | false => exact iteF (hs F C1 ω fr σ _ w1 (f.ext w x1) (by simpa using p1))
/-- -a -/
def negM (ma : ME) : ME := fun fr h => (ma fr h).bind fun x h1 => match x with
  | .int i => .ok (.int (-i)) h1
  | _ => .bad
theorem re_neg (ha : RE X W a ma) : RE X W (.UnaryOp .USub a pos) (negM ma) := by
  obtain ⟨x, hx, hq⟩ := ha.ex
  refine ⟨_, pe_un un_neg hx, fun F C ω fr σ Q w f p => ?_⟩
  refine hq F C ω fr σ _ w f (p.bind fun C1 d v w1 x1 r1 p1 => ?_)
  cases d with
  | int i => exact ⟨i, r1, p1.now w1 rfl⟩
  | _ => exact p1.elim
end

/-! ### displays, built-in calls -/
section
variable {X : Cx} {W : WX} {e : Expr} {es : List Expr} {ms : MA} {pos p : Pos} {x : Str}
def eTup (ms : MA) : ME := fun fr h => (ms fr h).bind fun ds h1 => if ds.length ≤ sizeLine then .ok (.tup ds) h1 else .bad
def eLst (ms : MA) : ME := fun fr h => (ms fr h).bind fun ds h1 => if ds.length ≤ sizeLine then .ok (.lst ds) h1 else .bad
theorem re_tup {k} (hs : RA X W es ms) : RE X W (.Tuple es k pos) (eTup ms) := by
  obtain ⟨x, hx, hq⟩ := hs.ex
  refine ⟨_, pe_tup hx, fun F C ω fr σ Q w f p => ?_⟩
  refine hq F C ω fr σ _ w f (p.bind fun C1 ds vs w1 x1 r1 p1 => ?_)
  split at p1
  · rename_i hz
    exact ⟨by rw [← r1.length]; exact hz, fun a ha => p1 ⟨C1.ρ, C1.h, _⟩ _ rfl (w1.laid ha) (Ext.laid ha) (rep.tupNew w1 ha r1)⟩
  · exact p1.elim
theorem re_lst (hs : RA X W es ms) : RE X W (.List es pos) (eLst ms) := by
  obtain ⟨x, hx, hq⟩ := hs.ex
  refine ⟨_, pe_lst hx, fun F C ω fr σ Q w f p => ?_⟩
  refine hq F C ω fr σ _ w f (p.bind fun C1 ds vs w1 x1 r1 p1 => ?_)
  split at p1
  · rename_i hz
    exact ⟨by rw [← r1.length]; exact hz, fun a ha => p1 ⟨C1.ρ, C1.h, _⟩ _ rfl (w1.laid ha) (Ext.laid ha) (rep.lstNew w1 ha r1)⟩
  · exact p1.elim
abbrev FN := AH → List D → Option D
/-- what a built-in does by values, on data -/
def VC (K : PySem.W.Frag) (mg : Str → Option Value) (r : List V → Hp → VK → Prop) (f : FN) : Prop := ∀ (F : Addr → Prop) (C : Cf) (ds : List D) (vs : List V) (Q : VK) (d : D), Hw K mg F C → repBs K mg F C ds vs → f C.h ds = some d →
  (∀ C' v, C'.h = C.h → Hw K mg F C' → Ext C C' → rep K F C' d v → Q v C'.H) → r vs C.H Q
theorem VC.or {K : PySem.W.Frag} {mg : Str → Option Value} {r r' : List V → Hp → VK → Prop} {f : FN} (h : VC K mg r f) : VC K mg (fun vs H Q => r vs H Q ∨ r' vs H Q) f := fun F C ds vs Q d w hr e q => .inl (h F C ds vs Q d w hr e q)
def eFn (f : FN) (ms : MA) : ME := fun fr h => (ms fr h).bind fun ds h1 => .ofOpt (f h1 ds) h1
theorem VC.run {r : List V → Hp → VK → Prop} {f : FN} (hv : VC X.K X.mg r f) {F : Addr → Prop} {C : Cf} {ds : List D} {vs : List V} {Q : VK} {E : Value → Option Addr → Hp → Prop} (w : Hw X.K X.mg F C) (r1 : repBs X.K X.mg F C ds vs)
    (p : Post X.K X.mg F C (fun C => rep X.K F C) E Q (.ofOpt (f C.h ds) C.h)) : r vs C.H Q := by
  cases q : f C.h ds with
  | none => rw [q] at p; exact p.elim
  | some d =>
    rw [q] at p
    exact hv F C ds vs Q d w r1 q fun C' v e w' x r => p C' v e w' x r
theorem re_callB {id : String} {r : List V → Hp → VK → Prop} {f : FN} (hc : CallR X (.builtin id) r) (hv : VC X.K X.mg r f) (hg : Gl X x) (hm : X.mg x = none) (hb : bootBuiltins x = some (.builtin id)) (hs : RAB X W (e :: es) ms) (hn : x ≠ "__name__" := by decide) (hdb : (x == ("__debug__" : Str)) = false := by decide)
    (he : starEach (e :: es) X.env = (false, eval e X.env) :: starEach es X.env := by rfl) (hpl : (backTo pos (starEach es X.env)).any (·.1) = false := by rfl) : RE X W (.Call (.Name x p) (e :: es) [] pos) (eFn f ms) := by
  obtain ⟨t, ht, hq⟩ := hs.ex
  refine ⟨_, pe_callB hc hg hm hb ht hn hdb he hpl, fun F C ω fr σ Q w f p => ?_⟩
  exact hq F C ω fr σ _ w f (p.bind fun C1 ds vs w1 x1 r1 p1 => hv.run w1 r1 p1)
theorem re_callTy {T : String} {r : List V → Hp → VK → Prop} {f : FN} (hc : CallR X (.type T) r) (hv : VC X.K X.mg r f) (hg : Gl X x) (hm : X.mg x = none) (hb : bootBuiltins x = some (.type T)) (hs : RAB X W (e :: es) ms) (hn : x ≠ "__name__" := by decide) (hdb : (x == ("__debug__" : Str)) = false := by decide)
    (he : starEach (e :: es) X.env = (false, eval e X.env) :: starEach es X.env := by rfl) (hpl : (backTo pos (starEach es X.env)).any (·.1) = false := by rfl) : RE X W (.Call (.Name x p) (e :: es) [] pos) (eFn f ms) := by
  obtain ⟨t, ht, hq⟩ := hs.ex
  refine ⟨_, pe_callTy hc hg hm hb ht hn hdb he hpl, fun F C ω fr σ Q w f p => ?_⟩
  exact hq F C ω fr σ _ w f (p.bind fun C1 ds vs w1 x1 r1 p1 => hv.run w1 r1 p1)
end
end Sim
set_option Elab.async false
set_option linter.all false
set_option maxRecDepth 100000
set_option maxHeartbeats 4000000
/-! SE: statements, targets, loops. -/
namespace Sim
open PySem L2

theorem Car.refl {K : PySem.W.Frag} {F : Addr → Prop} {C : Cf} : Car K F F C C := ⟨fun _ _ q => q, fun a o q n => ⟨q, n⟩, fun _ hi => ⟨hi, rfl⟩, fun _ _ _ e => e⟩
theorem Car.trans {K : PySem.W.Frag} {F F1 F2 : Addr → Prop} {C C1 C2 : Cf} (a : Car K F F1 C C1) (b : Car K F1 F2 C1 C2) : Car K F F2 C C2 :=
  ⟨fun x vs q => b.t x vs (a.t x vs q), fun x o q n => let ⟨q1, n1⟩ := a.l x o q n; b.l x o q1 n1, fun i hi => let ⟨h1, e1⟩ := a.r i hi; let ⟨h2, e2⟩ := b.r i h1; ⟨h2, e2.trans e1⟩, fun x o xs q => b.f x o xs (a.f x o xs q)⟩

/-- a def's entry: what its callers change in place, the configuration there -/
structure Bs where
  F : Addr → Prop
  C0 : Cf
/-- .. and what the def's own slots hold alone -/
def Fof (F : Addr → Prop) (ω : Nat → Addr) (fr : Fr) : Addr → Prop := fun a => F a ∨ ∃ i d, fr[i]? = some (.o d) ∧ ω i = a
structure Sw (K : PySem.W.Frag) (mg : Str → Option Value) (b : Bs) (C : Cf) (ω : Nat → Addr) (fr : Fr) (σ : St) : Prop where
  hw : Hw K mg (Fof b.F ω fr) C
  fw : Fw K mg (Fof b.F ω fr) C ω fr σ
  ext : Ext b.C0 C
  own : ∀ i d, fr[i]? = some (.o d) → b.C0.H (ω i) = none ∧ ¬ b.F (ω i)
  inj : ∀ i j d d', fr[i]? = some (.o d) → fr[j]? = some (.o d') → ω i = ω j → i = j
inductive SO where
  | nx (fr : Fr) (h : AH)
  | rt (d : D) (h : AH)
  | bk (fr : Fr) (h : AH)
  | ct (fr : Fr) (h : AH)
  | err (e : Er) (fr : Fr) (h : AH)
  | bad
abbrev MS := Fr → AH → SO
/-- what is wanted behind a statement; from C on, F changed in place there -/
def SPost (K : PySem.W.Frag) (mg : Str → Option Value) (b : Bs) (F : Addr → Prop) (C : Cf) (W : WX) (E : Ends) : SO → Prop
  | .nx fr h => ∀ C' ω σ, C'.h = h → Sw K mg b C' ω fr σ → Car K F (Fof b.F ω fr) C C' → E.nx σ C'.H
  | .bk fr h => ∀ C' ω σ, C'.h = h → Sw K mg b C' ω fr σ → Car K F (Fof b.F ω fr) C C' → E.bk σ C'.H
  | .ct fr h => ∀ C' ω σ, C'.h = h → Sw K mg b C' ω fr σ → Car K F (Fof b.F ω fr) C C' → E.ct σ C'.H
  | .rt d h => ∀ C' v, C'.h = h → Hw K mg b.F C' → Ext b.C0 C' → rep K b.F C' d v → E.rt v C'.H
  | .err e fr h => ∀ C' ω σ cls dx, C'.h = h → Sw K mg b C' ω fr σ → Car K F (Fof b.F ω fr) C C' → errRep K mg (Fof b.F ω fr) C' e cls dx → W cls dx σ C'.H
  | .bad => False
structure SJ (X : Cx) (W : WX) (P : TS → Prop) (m : MS) : Prop where
  ex : ∃ t : TS, P t ∧ ∀ (b : Bs) (C : Cf) (ω : Nat → Addr) (fr : Fr) (σ : St) (E : Ends), Sw X.K X.mg b C ω fr σ → SPost X.K X.mg b (Fof b.F ω fr) C W E (m fr C.h) → t E σ C.H
abbrev RS (X : Cx) (W : WX) (st : Stmt) (m : MS) : Prop := SJ X W (PS X st) m
abbrev RSs (X : Cx) (W : WX) (sts : List Stmt) (m : MS) : Prop := SJ X W (PSs X sts) m

section
variable {K : PySem.W.Frag} {mg : Str → Option Value} {b : Bs} {C C' : Cf} {ω : Nat → Addr} {fr : Fr} {σ : St} {W : WX} {E : Ends} {F F1 : Addr → Prop}
theorem Sw.on (s : Sw K mg b C ω fr σ) (w : Hw K mg (Fof b.F ω fr) C') (e : Ext C C') : Sw K mg b C' ω fr σ :=
  ⟨w, s.fw.ext s.hw e, s.ext.trans e, s.own, s.inj⟩
/-- the start is moved on -/
theorem SPost.from (c : Car K F F1 C C') {o : SO} (p : SPost K mg b F C W E o) : SPost K mg b F1 C' W E o := by
  cases o with
  | nx fr h => exact fun C2 ω σ e s x => p C2 ω σ e s (c.trans x)
  | bk fr h => exact fun C2 ω σ e s x => p C2 ω σ e s (c.trans x)
  | ct fr h => exact fun C2 ω σ e s x => p C2 ω σ e s (c.trans x)
  | rt d h => exact p
  | err e fr h => exact fun C2 ω σ cl dx q s x r => p C2 ω σ cl dx q s (c.trans x) r
  | bad => exact p
/-- an expression within a statement -/
theorem SPost.bind {α β : Type} {R : Cf → α → β → Prop} {Q : β → Hp → Prop} {x : Out α} {f : α → AH → SO} (s : Sw K mg b C ω fr σ)
    (p : SPost K mg b (Fof b.F ω fr) C W E (match x with | .ok a h => f a h | .err e h => .err e fr h | .bad => .bad))
    (hq : ∀ C1 d v, Sw K mg b C1 ω fr σ → Ext C C1 → R C1 d v → SPost K mg b (Fof b.F ω fr) C1 W E (f d C1.h) → Q v C1.H) : Post K mg (Fof b.F ω fr) C R (fun cls dx H => W cls dx σ H) Q x := by
  cases x with
  | ok d h1 =>
    intro C1 v e w x r
    subst e
    exact hq C1 d v (s.on w x) x r (p.from x.car)
  | err e h1 => exact fun C1 cl dx q w x r => p C1 ω σ cl dx q (s.on w x) x.car r
  | bad => exact p
theorem SPost.nxt {fr' : Fr} {ω' : Nat → Addr} {σ' : St} (p : SPost K mg b F C W E (.nx fr' C'.h)) (s : Sw K mg b C' ω' fr' σ') (c : Car K F (Fof b.F ω' fr') C C') : E.nx σ' C'.H := p C' ω' σ' rfl s c

theorem SPost.go {fr' : Fr} {ω' : Nat → Addr} {σ' : St} {h : AH} (p : SPost K mg b F C W E (.nx fr' h)) (s : Sw K mg b C' ω' fr' σ') (e : C'.h = h) (c : Car K F (Fof b.F ω' fr') C C') : E.nx σ' C'.H := p C' ω' σ' e s c

/-- fewer own things -/
theorem Fof_set {i : Nat} {x : Slot} (hx : ∀ d, x ≠ .o d) : ∀ a, Fof F ω (fr.set i x) a → Fof F ω fr a := by
  rintro a (h | ⟨j, d, e, q⟩)
  · exact .inl h
  · refine .inr ⟨j, d, ?_, q⟩
    by_cases hij : i = j
    · subst hij
      by_cases hi : i < fr.length
      · rw [List.getElem?_set_self hi] at e; cases e; exact absurd rfl (hx d)
      · rw [List.getElem?_eq_none (by simpa using hi)] at e; cases e
    · rw [List.getElem?_set_ne hij] at e; exact e
theorem get_set_o {i j : Nat} {x : Slot} {d : D} (hx : ∀ d, x ≠ .o d) (e : (fr.set i x)[j]? = some (.o d)) : fr[j]? = some (.o d) := by
  by_cases hij : i = j
  · subst hij
    by_cases hi : i < fr.length
    · rw [List.getElem?_set_self hi] at e; cases e; exact absurd rfl (hx d)
    · rw [List.getElem?_eq_none (by simpa using hi)] at e; cases e
  · rw [List.getElem?_set_ne hij] at e; exact e
/-- a value stored into a slot -/
theorem Sw.set (s : Sw K mg b C ω fr σ) (i : Nat) {d : D} {v : V} (r : rep K (Fof b.F ω fr) C d v) : Sw K mg b C ω (fr.set i (.v d)) (σ.set i (some v)) ∧ Car K (Fof b.F ω fr) (Fof b.F ω (fr.set i (.v d))) C C := by
  have hn : ∀ e, (Slot.v d) ≠ .o e := fun _ z => nomatch z
  have c : Car K (Fof b.F ω fr) (Fof b.F ω (fr.set i (.v d))) C C := car_less (Fof_set hn)
  refine ⟨⟨s.hw.less (Fof_set hn), ⟨by simp [s.fw.len], fun j x h => ?_⟩, s.ext, fun j e h => s.own j e (get_set_o hn h), fun j k e e' h h' => s.inj j k e e' (get_set_o hn h) (get_set_o hn h')⟩, c⟩
  by_cases hij : i = j
  · subst hij
    by_cases hi : i < fr.length
    · rw [List.getElem?_set_self hi] at h; cases h
      exact ⟨v, List.getElem?_set_self (by rw [s.fw.len]; exact hi), r.to c⟩
    · rw [List.getElem?_eq_none (by simpa using hi)] at h; cases h
  · have h' := h
    rw [List.getElem?_set_ne hij] at h'
    rw [List.getElem?_set_ne hij]
    have q := s.fw.slots j x h'
    cases x with
    | u => trivial
    | v e => obtain ⟨u, q1, q2⟩ := q; exact ⟨u, q1, q2.to c⟩
    | o e =>
      obtain ⟨q1, q2, cl, q3, q4⟩ := q
      exact ⟨q1, .inr ⟨j, e, h, rfl⟩, cl, q3, q4.to c fun _ z => z⟩
/-- a slot is forgotten -/
theorem Sw.unset (s : Sw K mg b C ω fr σ) (i : Nat) (y : Option V) : Sw K mg b C ω (fr.set i .u) (σ.set i y) ∧ Car K (Fof b.F ω fr) (Fof b.F ω (fr.set i .u)) C C := by
  have hn : ∀ e, (Slot.u) ≠ .o e := fun _ z => nomatch z
  have c : Car K (Fof b.F ω fr) (Fof b.F ω (fr.set i .u)) C C := car_less (Fof_set hn)
  refine ⟨⟨s.hw.less (Fof_set hn), ⟨by simp [s.fw.len], fun j x h => ?_⟩, s.ext, fun j e h => s.own j e (get_set_o hn h), fun j k e e' h h' => s.inj j k e e' (get_set_o hn h) (get_set_o hn h')⟩, c⟩
  by_cases hij : i = j
  · subst hij
    by_cases hi : i < fr.length
    · rw [List.getElem?_set_self hi] at h; cases h
      trivial
    · rw [List.getElem?_eq_none (by simpa using hi)] at h; cases h
  · have h' := h
    rw [List.getElem?_set_ne hij] at h'
    rw [List.getElem?_set_ne hij]
    have q := s.fw.slots j x h'
    cases x with
    | u => trivial
    | v e => obtain ⟨u, q1, q2⟩ := q; exact ⟨u, q1, q2.to c⟩
    | o e =>
      obtain ⟨q1, q2, cl, q3, q4⟩ := q
      exact ⟨q1, .inr ⟨j, e, h, rfl⟩, cl, q3, q4.to c fun _ z => z⟩
/-- what a slot holds alone is from now on a value like any -/
theorem Sw.freeze (s : Sw K mg b C ω fr σ) {i : Nat} {d : D} (hd : fr[i]? = some (.o d)) : Sw K mg b C ω (fr.set i (.v d)) σ ∧ Car K (Fof b.F ω fr) (Fof b.F ω (fr.set i (.v d))) C C := by
  have hn : ∀ e, (Slot.v d) ≠ .o e := fun _ z => nomatch z
  have c : Car K (Fof b.F ω fr) (Fof b.F ω (fr.set i (.v d))) C C := car_less (Fof_set hn)
  obtain ⟨q1, q2, cl, q3, q4⟩ := s.fw.slots i _ hd
  have hi : i < fr.length := (List.getElem?_eq_some_iff.mp hd).1
  have nF : ¬ MH (Fof b.F ω (fr.set i (.v d))) C (ω i) := by
    rintro ((h | ⟨j, e, h, q⟩) | ⟨j, hj, q⟩)
    · exact (s.own i d hd).2 h
    · have hij := s.inj j i e d (get_set_o hn h) hd q
      subst hij
      rw [List.getElem?_set_self hi] at h; cases h
    · exact s.hw.nF j hj (q ▸ q2)
  have r : rep K (Fof b.F ω (fr.set i (.v d))) C d (.ref (ω i)) := by
    have q5 := q4.to (C' := C) (b := ω i) c fun _ z => z
    cases d with
    | lst ds => cases q3; obtain ⟨vs, h1, h2⟩ := q5; exact ⟨_, vs, rfl, h1, nF, h2⟩
    | dic ks ds => cases q3; obtain ⟨vs, h1, hl, h2⟩ := q5; exact ⟨_, vs, rfl, h1, hl, nF, h2⟩
    | _ => cases q3
  refine ⟨⟨s.hw.less (Fof_set hn), ⟨by simp [s.fw.len], fun j x h => ?_⟩, s.ext, fun j e h => s.own j e (get_set_o hn h), fun j k e e' h h' => s.inj j k e e' (get_set_o hn h) (get_set_o hn h')⟩, c⟩
  by_cases hij : i = j
  · subst hij
    rw [List.getElem?_set_self hi] at h; cases h
    exact ⟨_, q1, r⟩
  · have h' := h
    rw [List.getElem?_set_ne hij] at h'
    have q := s.fw.slots j x h'
    cases x with
    | u => trivial
    | v e => obtain ⟨u, q1, q2⟩ := q; exact ⟨u, q1, q2.to c⟩
    | o e =>
      obtain ⟨q1, q2, cl, q3, q4⟩ := q
      exact ⟨q1, .inr ⟨j, e, h, rfl⟩, cl, q3, q4.to c fun _ z => z⟩
end

/-! ### statements -/
section
variable {X : Cx} {W : WX} {st : Stmt} {rest : List Stmt} {e : Expr} {m m1 m2 : MS} {me : ME} {mt : MT} {pos : Pos}
def sOf (x : Out α) (fr : Fr) (f : α → AH → SO) : SO := match x with
  | .ok a h => f a h
  | .err e h => .err e fr h
  | .bad => .bad
@[simp] theorem sOf_ok {α : Type} (a : α) (h : AH) (fr : Fr) (f : α → AH → SO) : sOf (.ok a h) fr f = f a h := rfl
@[simp] theorem sOf_err {α : Type} (e : Er) (h : AH) (fr : Fr) (f : α → AH → SO) : sOf (.err e h : Out α) fr f = .err e fr h := rfl
@[simp] theorem sOf_bad {α : Type} (fr : Fr) (f : α → AH → SO) : sOf (.bad : Out α) fr f = .bad := rfl
def sNext : MS := fun fr h => .nx fr h
def sSeq (m1 m2 : MS) : MS := fun fr h => match m1 fr h with
  | .nx fr1 h1 => m2 fr1 h1
  | o => o
def sBreak : MS := fun fr h => .bk fr h
def sCont : MS := fun fr h => .ct fr h
def sRet (me : ME) : MS := fun fr h => sOf (me fr h) fr fun d h1 => .rt d h1
def sRetN : MS := fun fr h => .rt .non h
def sExpr (me : ME) : MS := fun fr h => sOf (me fr h) fr fun _ h1 => .nx fr h1
def sIf (t : MT) (m1 m2 : MS) : MS := fun fr h => sOf (t fr h) fr fun k h1 => if k = true then m1 fr h1 else m2 fr h1
theorem rss_nil : RSs X W [] sNext := ⟨_, pss_nil, fun b C ω fr σ E s p => p.nxt s .refl⟩
theorem seq_post {K : PySem.W.Frag} {mg : Str → Option Value} {b : Bs} {C : Cf} {F : Addr → Prop} {W : WX} {E : Ends} {o : SO} {f : Fr → AH → SO} {N : St → Hp → Prop}
    (p : SPost K mg b F C W E (match o with | .nx fr1 h1 => f fr1 h1 | o => o)) (hn : ∀ C' ω fr σ, Sw K mg b C' ω fr σ → Car K F (Fof b.F ω fr) C C' → SPost K mg b (Fof b.F ω fr) C' W E (f fr C'.h) → N σ C'.H) : SPost K mg b F C W { E with nx := N } o := by
  cases o with
  | nx fr h =>
    intro C' ω σ e s c
    subst e
    exact hn C' ω fr σ s c (p.from c)
  | _ => exact p
theorem rss_cons (h1 : RS X W st m1) (h2 : RSs X W rest m2) : RSs X W (st :: rest) (sSeq m1 m2) := by
  obtain ⟨t, ht, hq⟩ := h1.ex
  obtain ⟨u, hu, hr⟩ := h2.ex
  refine ⟨_, pss_cons ht hu, fun b C ω fr σ E s p => ?_⟩
  exact hq b C ω fr σ _ s (seq_post p fun C1 ω1 fr1 σ1 s1 c1 p1 => hr b C1 ω1 fr1 σ1 E s1 p1)
theorem rss_one (h1 : RS X W st m) : RSs X W [st] m := by
  obtain ⟨t, ht, hq⟩ := h1.ex
  exact ⟨_, pss_one ht, hq⟩
theorem rs_pass : RS X W (.Pass pos) sNext := ⟨_, ps_pass, fun b C ω fr σ E s p => p.nxt s .refl⟩
theorem rs_break : RS X W (.Break pos) sBreak := ⟨_, ps_break, fun b C ω fr σ E s p => p C ω σ rfl s .refl⟩
theorem rs_cont : RS X W (.Continue pos) sCont := ⟨_, ps_continue, fun b C ω fr σ E s p => p C ω σ rfl s .refl⟩
theorem rs_never : RS X W st (fun _ _ => .bad) := ⟨_, ps_never, fun b C ω fr σ E s p => p⟩
theorem rs_doc {x j pos pos'} : RS X W (.Expr (.Constant (.str x) j pos) pos') sNext := ⟨_, ps_doc, fun b C ω fr σ E s p => p.nxt s .refl⟩
theorem rs_ret (h : RE X W e me) : RS X W (.Return (some e) pos) (sRet me) := by
  obtain ⟨t, ht, hq⟩ := h.ex
  refine ⟨_, ps_ret ht, fun b C ω fr σ E s p => ?_⟩
  refine hq _ C ω fr σ _ s.hw s.fw (p.bind s fun C1 d v s1 x1 r1 p1 => ?_)
  exact p1 C1 v rfl (s1.hw.less fun a z => .inl z) s1.ext (r1.to (car_less fun a z => .inl z))
theorem rs_retN : RS X W (.Return none pos) sRetN := ⟨_, ps_retN, fun b C ω fr σ E s p => p C .non rfl (s.hw.less fun a z => .inl z) s.ext rfl⟩
theorem rs_expr (h : RB X W e me) (hs : swapsWith e none pos.line X.env = pure false := by rfl) : RS X W (.Expr e pos) (sExpr me) := by
  obtain ⟨t, ht, hq⟩ := h.ex
  refine ⟨_, ps_expr ht hs, fun b C ω fr σ E s p => ?_⟩
  exact hq _ C ω fr σ _ s.hw s.fw (p.bind s fun C1 d v s1 x1 r1 p1 => p1.nxt s1 .refl)
theorem rs_if {c : Expr} {u v : List Stmt} (hc : RT X W c mt) (h1 : RSs X W u m1) (h2 : RSs X W v m2) : RS X W (.If c u v pos) (sIf mt m1 m2) := by
  obtain ⟨t, ht, hq⟩ := hc.ex
  obtain ⟨y, hy, hr⟩ := h1.ex
  obtain ⟨z, hz, hs⟩ := h2.ex
  refine ⟨_, ps_if ht hy hz, fun b C ω fr σ E s p => ?_⟩
  refine hq _ C ω fr σ _ s.hw s.fw (p.bind s fun C1 k k' s1 x1 r1 p1 => ?_)
  subst r1
  cases k' with
  | true => exact iteT (hr b C1 ω fr σ E s1 p1)
  | false => exact iteF (hs b C1 ω fr σ E s1 p1)
/-- the slot i is from now on a value like any (no statement of its own: ahead of one) -/
def sFreeze (i : Nat) (m : MS) : MS := fun fr h => match fr[i]? with
  | some (.o d) => m (fr.set i (.v d)) h
  | _ => m fr h
theorem sj_freeze {P : TS → Prop} (i : Nat) (h : SJ X W P m) : SJ X W P (sFreeze i m) := by
  obtain ⟨t, ht, hq⟩ := h.ex
  refine ⟨t, ht, fun b C ω fr σ E s p => ?_⟩
  unfold sFreeze at p
  split at p
  · rename_i d hd
    obtain ⟨s1, c1⟩ := s.freeze hd
    exact hq b C ω _ σ E s1 (p.from c1)
  · exact hq b C ω fr σ E s p
theorem SJ.imp {P : TS → Prop} (h : SJ X W P m) (e : ∀ fr h, m2 fr h = .bad ∨ m fr h = m2 fr h) : SJ X W P m2 := by
  obtain ⟨t, ht, hq⟩ := h.ex
  refine ⟨t, ht, fun b C ω fr σ E s p => hq b C ω fr σ E s ?_⟩
  rcases e fr C.h with q | q
  · rw [q] at p; exact p.elim
  · rw [q]; exact p
end

/-! ### targets, assignments -/
abbrev MG := D → Fr → Option Fr
abbrev MGs := List D → Fr → Option Fr
/-- no slot becomes one that holds a thing alone -/
def OwnLe (fr fr' : Fr) : Prop := ∀ (i : Nat) (d : D), fr'[i]? = some (.o d) → fr[i]? = some (.o d)
theorem OwnLe.refl (fr : Fr) : OwnLe fr fr := fun _ _ e => e
theorem OwnLe.trans {a b c : Fr} (h : OwnLe a b) (k : OwnLe b c) : OwnLe a c := fun i d e => h i d (k i d e)
/-- the slots but these are as they were -/
def Else (ws : List Nat) (σ σ' : St) : Prop := σ'.length = σ.length ∧ ∀ j, j ∉ ws → σ'[j]? = σ[j]?
theorem Else.trans {ws us : List Nat} {a b c : St} (h : Else ws a b) (k : Else us b c) : Else (ws ++ us) a c :=
  ⟨k.1.trans h.1, fun j hj => (k.2 j fun z => hj (List.mem_append_right _ z)).trans (h.2 j fun z => hj (List.mem_append_left _ z))⟩
structure RG (X : Cx) (tg : Expr) (ws : List Nat) (m : MG) : Prop where
  ex : ∃ g : TG, PG X tg g ∧ (∀ d fr fr', m d fr = some fr' → OwnLe fr fr') ∧ ∀ (F : Addr → Prop) (C : Cf) (ω : Nat → Addr) (fr fr' : Fr) (σ : St) (d : D) (v : V) (Q : St → Hp → Prop), Hw X.K X.mg F C → Fw X.K X.mg F C ω fr σ → rep X.K F C d v → m d fr = some fr' →
    (∀ σ', Fw X.K X.mg F C ω fr' σ' → Else ws σ σ' → Q σ' C.H) → g v σ C.H Q
structure RGs (X : Cx) (ts : List Expr) (ws : List Nat) (m : MGs) : Prop where
  ex : ∃ g : TGs, PGs X ts g ∧ (∀ d fr fr', m d fr = some fr' → OwnLe fr fr') ∧ ∀ (F : Addr → Prop) (C : Cf) (ω : Nat → Addr) (fr fr' : Fr) (σ : St) (ds : List D) (vs : List V) (Q : St → Hp → Prop), Hw X.K X.mg F C → Fw X.K X.mg F C ω fr σ → reps X.K F C ds vs → m ds fr = some fr' →
    (∀ σ', Fw X.K X.mg F C ω fr' σ' → Else ws σ σ' → Q σ' C.H) → g vs σ C.H Q
theorem Sw.less {K : PySem.W.Frag} {mg : Str → Option Value} {b : Bs} {C : Cf} {ω : Nat → Addr} {fr fr' : Fr} {σ σ' : St} (s : Sw K mg b C ω fr σ) (f : Fw K mg (Fof b.F ω fr) C ω fr' σ') (o : OwnLe fr fr') : Sw K mg b C ω fr' σ' ∧ Car K (Fof b.F ω fr) (Fof b.F ω fr') C C := by
  have hs : ∀ a, Fof b.F ω fr' a → Fof b.F ω fr a := by
    rintro a (h | ⟨i, d, e, q⟩)
    · exact .inl h
    · exact .inr ⟨i, d, o i d e, q⟩
  have c : Car K (Fof b.F ω fr) (Fof b.F ω fr') C C := car_less hs
  refine ⟨⟨s.hw.less hs, ⟨f.len, fun i x h => ?_⟩, s.ext, fun i d h => s.own i d (o i d h), fun i j d d' h h' => s.inj i j d d' (o i d h) (o j d' h')⟩, c⟩
  have q := f.slots i x h
  cases x with
  | u => trivial
  | v d => obtain ⟨v, q1, q2⟩ := q; exact ⟨v, q1, q2.to c⟩
  | o d =>
    obtain ⟨q1, q2, cl, q3, q4⟩ := q
    exact ⟨q1, .inr ⟨i, d, h, rfl⟩, cl, q3, q4.to c fun _ z => z⟩
section
variable {X : Cx} {W : WX} {e tg : Expr} {me : ME} {mg' : MG} {pos : Pos}
def gNm (i : Nat) : MG := fun d fr => some (fr.set i (.v d))
def gsNil : MGs := fun ds fr => match ds with
  | [] => some fr
  | _ => none
def gsCons (g : MG) (gs : MGs) : MGs := fun ds fr => match ds with
  | d :: r => (g d fr).bind fun fr1 => gs r fr1
  | [] => none
def gTp (gs : MGs) : MG := fun d fr => match d with
  | .tup ds => gs ds fr
  | _ => none
theorem ownLe_set {fr : Fr} {i : Nat} {x : Slot} (hx : ∀ d, x ≠ .o d) : OwnLe fr (fr.set i x) := fun j d e => get_set_o hx e
theorem rg_name (i : Nat) {x : Str} (hN : X.N.Nodup) (hi : X.N[i]? = some x := by rfl) (hx : Loc X.env.scope x := by first | exact Or.inl rfl | exact Or.inr rfl) (hf : X.fn x = true ∨ X.env.scope.names.lookup x = some .local := by first | exact .inl rfl | exact .inr rfl | assumption) : RG X (.Name x pos) [i] (gNm i) := by
  refine ⟨_, pg_name hN hi hx hf, fun d fr fr' e => ?_, fun F C ω fr fr' σ d v Q w f r e q => ?_⟩
  · cases e; exact ownLe_set fun _ z => nomatch z
  · cases e
    exact q _ (f.set i r) ⟨List.length_set, fun j hj => List.getElem?_set_ne fun e => hj (by simp [e])⟩
theorem rgs_nil : RGs X [] [] gsNil := by
  refine ⟨_, pgs_nil, fun d fr fr' e => ?_, fun F C ω fr fr' σ ds vs Q w f r e q => ?_⟩
  · cases d with
    | nil => cases e; exact .refl _
    | cons _ _ => cases e
  · cases ds with
    | nil => cases e; cases (show vs = [] from r); exact ⟨rfl, q _ f ⟨rfl, fun _ _ => rfl⟩⟩
    | cons _ _ => cases e
theorem rgs_cons {es : List Expr} {g : MG} {gs : MGs} {ws us : List Nat} (h : RG X e ws g) (hs : RGs X es us gs) (ha : (assignEach (e :: es) X.env).map (·.2) = assign e X.env :: (assignEach es X.env).map (·.2) := by rfl) : RGs X (e :: es) (ws ++ us) (gsCons g gs) := by
  obtain ⟨t, ht, ho, hq⟩ := h.ex
  obtain ⟨u, hu, hp, hr⟩ := hs.ex
  refine ⟨_, pgs_cons ht hu ha, fun ds fr fr' e => ?_, fun F C ω fr fr' σ ds vs Q w f r e q => ?_⟩
  · cases ds with
    | nil => cases e
    | cons d ds =>
      obtain ⟨fr1, e1, e2⟩ := Option.bind_eq_some_iff.mp e
      exact (ho _ _ _ e1).trans (hp _ _ _ e2)
  · cases ds with
    | nil => cases e
    | cons d ds =>
      obtain ⟨v, rr, rfl, r1, r2⟩ := r
      obtain ⟨fr1, e1, e2⟩ := Option.bind_eq_some_iff.mp e
      refine ⟨v, rr, rfl, hq F C ω fr fr1 σ d v _ w f r1 e1 fun σ1 f1 l1 => ?_⟩
      exact hr F C ω fr1 fr' σ1 ds rr Q w f1 r2 e2 fun σ2 f2 l2 => q σ2 f2 (l1.trans l2)
theorem rg_tup {es : List Expr} {k : Nat} {gs : MGs} {n : Nat} {ws : List Nat} (hc : X.calm = true) (hs : RGs X es ws gs) (hl : ∀ ds fr fr', gs ds fr = some fr' → ds.length = n)
    (hn : (assignEach es X.env).length = n := by rfl) (hst : (assignEach es X.env).findIdx? (·.1) = none := by rfl) : RG X (.Tuple es k pos) ws (gTp gs) := by
  obtain ⟨u, hu, hp, hr⟩ := hs.ex
  refine ⟨_, pg_tup hc hu hn hst, fun d fr fr' e => ?_, fun F C ω fr fr' σ d v Q w f r e q => ?_⟩
  · cases d with
    | tup ds => exact hp _ _ _ e
    | _ => cases e
  · cases d with
    | tup ds =>
      obtain ⟨a, vs, rfl, hs, rr⟩ := r
      exact ⟨a, vs, rfl, hs, by rw [← rr.length]; exact hl _ _ _ e, hr F C ω fr fr' σ ds vs Q w f rr e q⟩
    | _ => cases e
theorem gsNil_len : ∀ ds fr fr', gsNil ds fr = some fr' → ds.length = 0 := fun ds fr fr' e => by
  cases ds with
  | nil => rfl
  | cons _ _ => cases e
theorem gsCons_len {g : MG} {gs : MGs} {n : Nat} (h : ∀ ds fr fr', gs ds fr = some fr' → ds.length = n) : ∀ ds fr fr', gsCons g gs ds fr = some fr' → ds.length = n + 1 := fun ds fr fr' e => by
  cases ds with
  | nil => cases e
  | cons d ds =>
    obtain ⟨fr1, e1, e2⟩ := Option.bind_eq_some_iff.mp e
    rw [List.length_cons, h _ _ _ e2]
/-- a target within a statement -/
theorem RG.st {tg : Expr} {ws : List Nat} {m : MG} (h : RG X tg ws m) : ∃ g : TG, PG X tg g ∧ ∀ (b : Bs) (C : Cf) (ω : Nat → Addr) (fr fr' : Fr) (σ : St) (d : D) (v : V) (Q : St → Hp → Prop), Sw X.K X.mg b C ω fr σ → rep X.K (Fof b.F ω fr) C d v → m d fr = some fr' →
    (∀ σ', Sw X.K X.mg b C ω fr' σ' → Car X.K (Fof b.F ω fr) (Fof b.F ω fr') C C → Q σ' C.H) → g v σ C.H Q := by
  obtain ⟨g, hg, ho, hq⟩ := h.ex
  refine ⟨g, hg, fun b C ω fr fr' σ d v Q s r e q => ?_⟩
  refine hq _ C ω fr fr' σ d v Q s.hw s.fw r e fun σ' f _ => ?_
  obtain ⟨s', c'⟩ := s.less f (ho _ _ _ e)
  exact q σ' s' c'
def sAsg (me : ME) (g : MG) : MS := fun fr h => sOf (me fr h) fr fun d h1 => match g d fr with
  | some fr' => .nx fr' h1
  | none => .bad
theorem asg_fin {K : PySem.W.Frag} {b : Bs} {C1 : Cf} {ω : Nat → Addr} {fr : Fr} {σ : St} {E : Ends} {g : MG} {t : TG} {d : D} {v : V} (ht : ∀ (b : Bs) (C : Cf) (ω : Nat → Addr) (fr fr' : Fr) (σ : St) (d : D) (v : V) (Q : St → Hp → Prop), Sw X.K X.mg b C ω fr σ → rep X.K (Fof b.F ω fr) C d v → g d fr = some fr' →
    (∀ σ', Sw X.K X.mg b C ω fr' σ' → Car X.K (Fof b.F ω fr) (Fof b.F ω fr') C C → Q σ' C.H) → t v σ C.H Q) (s1 : Sw X.K X.mg b C1 ω fr σ) (r1 : rep X.K (Fof b.F ω fr) C1 d v)
    (p1 : SPost X.K X.mg b (Fof b.F ω fr) C1 W E (match g d fr with | some fr' => .nx fr' C1.h | none => .bad)) : t v σ C1.H E.nx := by
  cases q : g d fr with
  | none => rw [q] at p1; exact p1.elim
  | some fr' =>
    rw [q] at p1
    exact ht b C1 ω fr fr' σ d v _ s1 r1 q fun σ' s' c' => p1.nxt s' c'
theorem rs_asg {ws : List Nat} (h : RE X W e me) (hg : RG X tg ws mg') (hs : swapsWithSole [tg] e pos.line X.env = pure false := by rfl) (hw : swappedStores [tg] e X.env = pure none := by rfl)
    (h1 : (assignEach [tg] X.env).map (·.2) = [assign tg X.env] := by rfl) : RS X W (.Assign [tg] e pos) (sAsg me mg') := by
  obtain ⟨t, ht, hq⟩ := h.ex
  obtain ⟨u, hu, hr⟩ := hg.st
  refine ⟨_, ps_asg ht hu hs hw h1, fun b C ω fr σ E s p => ?_⟩
  refine hq _ C ω fr σ _ s.hw s.fw (p.bind s fun C1 d v s1 x1 r1 p1 => ?_)
  exact asg_fin (K := X.K) hr s1 r1 p1
theorem rs_set (i : Nat) {x : Str} {pos' : Pos} (hN : X.N.Nodup) (h : RE X W e me) (hi : X.N[i]? = some x := by rfl) (hx : Loc X.env.scope x := by first | exact Or.inl rfl | exact Or.inr rfl) (hs : swapsWith e (some (.Name x pos')) pos.line X.env = pure false := by rfl) (hf : X.fn x = true ∨ X.env.scope.names.lookup x = some .local := by first | exact .inl rfl | exact .inr rfl | assumption) :
    RS X W (.Assign [.Name x pos'] e pos) (sAsg me (gNm i)) := by
  obtain ⟨t, ht, hq⟩ := h.ex
  refine ⟨_, ps_set hN hi hx ht hs hf, fun b C ω fr σ E s p => ?_⟩
  refine hq _ C ω fr σ _ s.hw s.fw (p.bind s fun C1 d v s1 x1 r1 p1 => ?_)
  obtain ⟨s2, c2⟩ := s1.set i r1
  exact p1.nxt s2 c2
/-- a, b = x, y of local names -/
def sPar (i j : Nat) (ma : MA) : MS := fun fr h => sOf (ma fr h) fr fun ds h1 => match ds with
  | [x, y] => .nx ((fr.set i (.v x)).set j (.v y)) h1
  | _ => .bad
theorem rs_par (i j : Nat) {x y : Str} {a b : Expr} {ma : MA} {px py pt : Pos} {kt k2 pt2} (hc : X.calm = true) (hN : X.N.Nodup) (ha : RA X W [a, b] ma) (hi : X.N[i]? = some x := by rfl) (hj : X.N[j]? = some y := by rfl) (hij : i ≠ j := by decide)
    (hx : X.env.scope.names.lookup x = some .local := by rfl) (hy : X.env.scope.names.lookup y = some .local := by rfl)
    (hw : swappedStores [.Tuple [.Name x px, .Name y py] kt pt] (.Tuple [a, b] k2 pt2) X.env = pure (some [x, y]) := by rfl)
    (hs : swapsWithSole [.Tuple [.Name x px, .Name y py] kt pt] (.Tuple [a, b] k2 pt2) pos.line X.env = pure false := by rfl) :
    RS X W (.Assign [.Tuple [.Name x px, .Name y py] kt pt] (.Tuple [a, b] k2 pt2) pos) (sPar i j ma) := by
  obtain ⟨t, ht, hq⟩ := ha.ex
  refine ⟨_, ps_par hc hN hi hj hij hx hy ht hw hs, fun b C ω fr σ E s p => ?_⟩
  refine hq _ C ω fr σ _ s.hw s.fw (p.bind s fun C1 ds vs s1 x1 r1 p1 => ?_)
  match ds, r1, p1 with
  | [d1, d2], r1, p1 =>
    obtain ⟨v, r, rfl, h1, r, r2, e2, h2, e3⟩ := r1
    cases (show r2 = [] from e3)
    subst e2
    obtain ⟨s2, c2⟩ := s1.set i h1
    obtain ⟨s3, c3⟩ := s2.set j (h2.to c2)
    exact ⟨v, _, rfl, p1.nxt s3 (c2.trans c3)⟩
  | [], _, p1 => exact p1.elim
  | [_], _, p1 => exact p1.elim
  | _ :: _ :: _ :: _, _, p1 => exact p1.elim
/-- x += e, whole numbers -/
def sAugI (i : Nat) (f : Int → Int → Int) (me : ME) : MS := fun fr h => match fr[i]? with
  | some (.v (.int a)) => sOf (me fr h) fr fun d h1 => match d with
    | .int c => .nx (fr.set i (.v (.int (f a c)))) h1
    | _ => .bad
  | _ => .bad
theorem rs_augI (i : Nat) {x : Str} {pos' : Pos} {op : Operator} {f : Int → Int → Int} (hop : PIp X op (ipI f)) (hN : X.N.Nodup) (h : RE X W e me) (hi : X.N[i]? = some x := by rfl) (hx : Loc X.env.scope x := by first | exact Or.inl rfl | exact Or.inr rfl)
    (hf : X.fn x = true ∨ X.env.scope.names.lookup x = some .local := by first | exact .inl rfl | exact .inr rfl | assumption) : RS X W (.AugAssign (.Name x pos') op e pos) (sAugI i f me) := by
  obtain ⟨t, ht, hq⟩ := h.ex
  refine ⟨_, ps_aug hN hi hx ht hop hf, fun b C ω fr σ E s p => ?_⟩
  unfold sAugI at p
  split at p
  · rename_i a ha
    obtain ⟨v, e, r⟩ := s.fw.slots i _ ha
    cases (show v = .int a from r)
    refine ⟨_, e, hq _ C ω fr σ _ s.hw s.fw (p.bind s fun C1 d v s1 x1 r1 p1 => ?_)⟩
    cases d with
    | int c =>
      cases (show v = .int c from r1)
      obtain ⟨s2, c2⟩ := s1.set i (d := .int (f a c)) (v := .int (f a c)) rfl
      exact ⟨a, c, rfl, rfl, p1.nxt s2 c2⟩
    | _ => exact p1.elim
  · exact p.elim
end

/-! ### while -/
section
variable {X : Cx} {W : WX} {c : Expr} {body : List Stmt} {mt : MT} {mb : MS} {pos : Pos}
def whileM (t : MT) (body : MS) : Nat → Fr → AH → SO
  | 0, _, _ => .bad
  | n + 1, fr, h => sOf (t fr h) fr fun k h1 => if k = true then
      (match body fr h1 with
      | .nx fr2 h2 => whileM t body n fr2 h2
      | .ct fr2 h2 => whileM t body n fr2 h2
      | .bk fr2 h2 => .nx fr2 h2
      | o => o) else .nx fr h1
theorem rs_while (n : Nat) (hp : PassesOwn (model X.prog X.w) X.A X.env X.xe) (hc : RT X W c mt) (hb : RSs X W body mb) : RS X W (.While c body [] pos) (whileM mt mb n) := by
  obtain ⟨t, ht, hq⟩ := hc.ex
  obtain ⟨u, hu, hr⟩ := hb.ex
  refine ⟨_, ps_while hp ht hu, fun b C0 ω0 fr0 σ0 E s0 p0 => ?_⟩
  refine ⟨fun m σ H => ∃ C ω fr, C.H = H ∧ Sw X.K X.mg b C ω fr σ ∧ SPost X.K X.mg b (Fof b.F ω fr) C W E (whileM mt mb m fr C.h), ⟨n, C0, ω0, fr0, rfl, s0, p0⟩, ?_⟩
  rintro m σ H ⟨C, ω, fr, rfl, s, p⟩
  cases m with
  | zero => exact p.elim
  | succ m =>
    refine hq _ C ω fr σ _ s.hw s.fw (p.bind s fun C1 k k' s1 x1 r1 p1 => ?_)
    subst r1
    cases k' with
    | false => exact iteF (p1.nxt s1 .refl)
    | true =>
      refine iteT ⟨fun σ H => ∃ C ω fr, C.H = H ∧ Sw X.K X.mg b C ω fr σ ∧ SPost X.K X.mg b (Fof b.F ω fr) C W E (whileM mt mb m fr C.h), fun σ' H' q => ⟨m, Nat.lt_succ_self m, q⟩, ?_⟩
      refine hr b C1 ω fr σ _ s1 ?_
      have p2 : SPost X.K X.mg b (Fof b.F ω fr) C1 W E (match mb fr C1.h with
        | .nx fr2 h2 => whileM mt mb m fr2 h2
        | .ct fr2 h2 => whileM mt mb m fr2 h2
        | .bk fr2 h2 => .nx fr2 h2
        | o => o) := p1
      revert p2
      cases mb fr C1.h with
      | nx fr2 h2 =>
        intro p2 C2 ω2 σ2 e s2 c2
        subst e
        exact ⟨C2, ω2, fr2, rfl, s2, p2.from c2⟩
      | ct fr2 h2 =>
        intro p2 C2 ω2 σ2 e s2 c2
        subst e
        exact ⟨C2, ω2, fr2, rfl, s2, p2.from c2⟩
      | bk fr2 h2 => exact fun p2 => p2
      | rt d h2 => exact fun p2 => p2
      | err e fr2 h2 => exact fun p2 => p2
      | bad => exact fun p2 => p2
end

/-! ### what a for or a comprehension goes through -/
/-- J hands out the data ds, wherever what stood at C is carried to -/
def Wk (K : PySem.W.Frag) (mg : Str → Option Value) (F : Addr → Prop) (C : Cf) (ds : List D) (J : It) : Prop :=
  ∀ (F2 : Addr → Prop) (C2 : Cf), Hw K mg F2 C2 → Car K F F2 C C2 →
    (∀ (i : Nat) d, ds[i]? = some d → J.go i C2.H ∧ ∀ x H', J.yld i C2.H x H' → ∃ C3 : Cf, C3.H = H' ∧ C3.h = C2.h ∧ Ext C2 C3 ∧ Hw K mg F2 C3 ∧ rep K F2 C3 d x) ∧ J.stop ds.length C2.H
structure RI (X : Cx) (W : WX) (tg iter : Expr) (m : MA) : Prop where
  ex : ∃ t : TI, PI X tg iter t ∧ ∀ (F : Addr → Prop) (C : Cf) (ω : Nat → Addr) (fr : Fr) (σ : St) (R : It → Hp → Prop), Hw X.K X.mg F C → Fw X.K X.mg F C ω fr σ →
    Post X.K X.mg F C (fun C ds J => Wk X.K X.mg F C ds J) (fun cls dx H => W cls dx σ H) R (m fr C.h) → t σ C.H R
def forM (g : MG) (body : MS) : List D → Fr → AH → SO
  | [], fr, h => .nx fr h
  | d :: ds, fr, h => match g d fr with
    | none => .bad
    | some fr1 => match body fr1 h with
      | .nx fr2 h2 => forM g body ds fr2 h2
      | .ct fr2 h2 => forM g body ds fr2 h2
      | .bk fr2 h2 => .nx fr2 h2
      | o => o
def sFor (mi : MA) (g : MG) (body : MS) : MS := fun fr h => sOf (mi fr h) fr fun ds h1 => forM g body ds fr h1
section
variable {X : Cx} {W : WX} {tg iter : Expr} {body : List Stmt} {mi : MA} {g : MG} {mb : MS} {pos : Pos}
theorem rs_for {ws : List Nat} (hp : PassesOwn (model X.prog X.w) X.A X.env X.xe) (hc : X.calm = true) (hi : RI X W tg iter mi) (hg : RG X tg ws g) (hb : RSs X W body mb) (hs : ∀ x, foldedSetIterable iter X.env x = pure x := by intro _; rfl) :
    RS X W (.For tg iter body [] pos) (sFor mi g mb) := by
  obtain ⟨t, ht, hq⟩ := hi.ex
  obtain ⟨y, hy, hz⟩ := hg.st
  obtain ⟨u, hu, hr⟩ := hb.ex
  refine ⟨_, ps_for hp hc ht hy hu hs, fun b C0 ω0 fr0 σ0 E s0 p0 => ?_⟩
  refine hq _ C0 ω0 fr0 σ0 _ s0.hw s0.fw (p0.bind s0 fun C1 ds J s1 x1 wk p1 => ?_)
  refine ⟨fun i m σ H => ∃ C ω fr, C.H = H ∧ m + i = ds.length ∧ Sw X.K X.mg b C ω fr σ ∧ Car X.K (Fof b.F ω0 fr0) (Fof b.F ω fr) C1 C ∧ SPost X.K X.mg b (Fof b.F ω fr) C W E (forM g mb (ds.drop i) fr C.h),
    ⟨ds.length, C1, ω0, fr0, rfl, rfl, s1, .refl, p1⟩, ?_⟩
  rintro i m σ H ⟨C, ω, fr, rfl, hm, s, c, p⟩
  obtain ⟨w1, w2⟩ := wk _ C s.hw c
  cases m with
  | zero =>
    have hi : i = ds.length := by omega
    subst hi
    rw [List.drop_length] at p
    exact .inl ⟨w2, p.nxt s .refl⟩
  | succ m =>
    have hi : i < ds.length := by omega
    obtain ⟨g1, g2⟩ := w1 i ds[i] (List.getElem?_eq_getElem hi)
    refine .inr ⟨g1, fun σ H => ∃ C ω fr, C.H = H ∧ Sw X.K X.mg b C ω fr σ ∧ Car X.K (Fof b.F ω0 fr0) (Fof b.F ω fr) C1 C ∧ SPost X.K X.mg b (Fof b.F ω fr) C W E (forM g mb (ds.drop (i + 1)) fr C.h),
      fun σ' H' ⟨C', ω', fr', e1, e2, e3, e4⟩ => ⟨m, Nat.lt_succ_self m, C', ω', fr', e1, by omega, e2, e3, e4⟩, fun x H' yl => ?_⟩
    obtain ⟨C3, rfl, eh, x3, w3, r3⟩ := g2 x H' yl
    rw [List.drop_eq_getElem_cons hi, ← eh] at p
    have s3 := s.on w3 x3
    have p3 := p.from (C' := C3) (F1 := Fof b.F ω fr) x3.car
    unfold forM at p3
    cases eg : g ds[i] fr with
    | none => rw [eg] at p3; exact p3.elim
    | some fr1 =>
      rw [eg] at p3
      refine hz b C3 ω fr fr1 σ _ x _ s3 r3 eg fun σ4 s4 c4 => ?_
      refine hr b C3 ω fr1 σ4 _ s4 ?_
      have c5 : Car X.K (Fof b.F ω0 fr0) (Fof b.F ω fr1) C1 C3 := (c.trans x3.car).trans c4
      have p5 := p3.from c4
      revert p5
      simp only
      cases mb fr1 C3.h with
      | nx fr2 h2 =>
        intro p2 C2 ω2 σ2 e s2 c2
        subst e
        exact ⟨C2, ω2, fr2, rfl, s2, c5.trans c2, p2.from c2⟩
      | ct fr2 h2 =>
        intro p2 C2 ω2 σ2 e s2 c2
        subst e
        exact ⟨C2, ω2, fr2, rfl, s2, c5.trans c2, p2.from c2⟩
      | bk fr2 h2 => exact fun p2 => p2
      | rt d h2 => exact fun p2 => p2
      | err e fr2 h2 => exact fun p2 => p2
      | bad => exact fun p2 => p2
end
end Sim
set_option Elab.async false
set_option linter.all false
set_option maxRecDepth 100000
set_option maxHeartbeats 4000000
/-! SF: fresh lists and dicts, what a slot holds alone, what is gone through, comprehensions. -/
namespace Sim
open PySem L2

/-! ### something fresh -/
def Fadd (F : Addr → Prop) (p : Addr) : Addr → Prop := fun a => F a ∨ a = p
/-- p is new and nobody else's -/
def freshAt (K : PySem.W.Frag) (mg : Str → Option Value) (F : Addr → Prop) (C C' : Cf) (c : Cell) (v : V) : Prop :=
  ∃ p, v = .ref p ∧ C.H p = none ∧ Hw K mg (Fadd F p) C' ∧ objAt K mg (Fadd F p) C' p c
structure FJ (X : Cx) (W : WX) (P : TE → Prop) (m : Fr → AH → Out Cell) : Prop where
  ex : ∃ t : TE, P t ∧ ∀ (F : Addr → Prop) (C : Cf) (ω : Nat → Addr) (fr : Fr) (σ : St) (Q : VK), Hw X.K X.mg F C → Fw X.K X.mg F C ω fr σ →
    Post X.K X.mg F C (freshAt X.K X.mg F C) (fun cls dx H => W cls dx σ H) Q (m fr C.h) → t σ C.H Q
abbrev RF (X : Cx) (W : WX) (e : Expr) (m : Fr → AH → Out Cell) : Prop := FJ X W (PE X e) m
def valC : Cell → Option D
  | .lst xs => some (.lst xs)
  | .dic ks vs => some (.dic ks vs)
  | .ins _ _ => none
section
variable {K : PySem.W.Frag} {mg : Str → Option Value} {F : Addr → Prop} {C C' : Cf}
theorem freshAt.val (w0 : Hw K mg F C) {c : Cell} {v : V} {d : D} (h : freshAt K mg F C C' c v) (e : valC c = some d) : rep K F C' d v := by
  obtain ⟨p, rfl, hp, w, o⟩ := h
  have nF : ¬ F p := fun f => by obtain ⟨_, q, _⟩ := w0.fin p f; rw [hp] at q; cases q
  have nM : ¬ MH F C' p := by
    rintro (f | ⟨i, hi, q⟩)
    · exact nF f
    · exact w.nF i hi (.inr q)
  have c' : Car K (Fadd F p) F C' C' := car_less fun a f => .inl f
  cases c with
  | lst ds => cases e; obtain ⟨vs, q, r⟩ := o; exact ⟨p, vs, rfl, q, nM, r.to c'⟩
  | dic ks ds => cases e; obtain ⟨vs, q, l, r⟩ := o; exact ⟨p, vs, rfl, q, l, nM, r.to c'⟩
  | ins _ _ => cases e
/-- a new thing is laid, foreign from now on -/
theorem Hw.laidOwn (w : Hw K mg F C) {p : Addr} {o : HO} (hp : C.H p = none) (ho : ∀ xs, o ≠ .tup xs) : Hw K mg (Fadd F p) ⟨C.ρ, C.h, upd C.H p o⟩ where
  cells := fun i c hc => by
    have hi := (List.getElem?_eq_some_iff.mp hc).1
    refine (w.cells i c hc).to (F' := Fadd F p) (C' := ⟨C.ρ, C.h, upd C.H p o⟩) ⟨fun _ _ q => (Ext.laid hp).sqT q, fun a u q n => ?_, fun _ hi => ⟨hi, rfl⟩, (Ext.laid hp).frzs⟩ fun u q => (upd_ne (ne_of_none q hp)).trans q
    have ne := ne_of_none q hp
    refine ⟨(upd_ne ne).trans q, ?_⟩
    rintro ((f | f) | f)
    · exact n (.inl f)
    · exact ne f
    · exact n (.inr f)
  inj := w.inj
  nF := fun i hi f => by
    rcases f with f | f
    · exact w.nF i hi f
    · obtain ⟨c, hc⟩ : ∃ c, C.h[i]? = some c := ⟨_, List.getElem?_eq_getElem hi⟩
      obtain ⟨u, q, _⟩ := (w.cells i c hc).there
      have f' : C.ρ i = p := f
      rw [f', hp] at q; cases q
  fin := fun a f => by
    rcases f with f | f
    · obtain ⟨u, q, n⟩ := w.fin a f
      exact ⟨u, (upd_ne (ne_of_none q hp)).trans q, n⟩
    · subst f; exact ⟨o, upd_same, ho⟩
theorem carOwn {p : Addr} {o : HO} (hp : C.H p = none) : Car K F (Fadd F p) C ⟨C.ρ, C.h, upd C.H p o⟩ :=
  ⟨fun _ _ q => (Ext.laid hp).sqT q, fun a u q n => ⟨(upd_ne (ne_of_none q hp)).trans q, fun z => by
    rcases z with (f | f) | f
    · exact n (.inl f)
    · exact ne_of_none q hp f
    · exact n (.inr f)⟩, fun _ hi => ⟨hi, rfl⟩, (Ext.laid hp).frzs⟩
theorem fresh_lst (w : Hw K mg F C) {C0 : Cf} (e0 : Ext C0 C) {p : Addr} {ds : List D} {vs : List V} (hp : C.H p = none) (r : reps K F C ds vs) : freshAt K mg F C0 ⟨C.ρ, C.h, upd C.H p (.lst vs)⟩ (.lst ds) (.ref p) := by
  refine ⟨p, rfl, ?_, w.laidOwn hp (fun _ z => nomatch z), vs, upd_same, r.to (carOwn hp)⟩
  cases q : C0.H p with
  | none => rfl
  | some o => obtain ⟨u, q'⟩ := e0.dom p o q; rw [hp] at q'; cases q'
theorem fresh_dic (w : Hw K mg F C) {C0 : Cf} (e0 : Ext C0 C) {p : Addr} {ks : List Key} {ds : List D} {vs : List V} (hp : C.H p = none) (l : ks.length = vs.length) (r : reps K F C ds vs) : freshAt K mg F C0 ⟨C.ρ, C.h, upd C.H p (.dK (ks.zip vs))⟩ (.dic ks ds) (.ref p) := by
  refine ⟨p, rfl, ?_, w.laidOwn hp (fun _ z => nomatch z), vs, upd_same, l, r.to (carOwn hp)⟩
  cases q : C0.H p with
  | none => rfl
  | some o => obtain ⟨u, q'⟩ := e0.dom p o q; rw [hp] at q'; cases q'
theorem freshAt.from {C0 : Cf} (e0 : Ext C0 C) {c : Cell} {v : V} (h : freshAt K mg F C C' c v) : freshAt K mg F C0 C' c v := by
  obtain ⟨p, e, hp, w, o⟩ := h
  refine ⟨p, e, ?_, w, o⟩
  cases q : C0.H p with
  | none => rfl
  | some o => obtain ⟨u, q'⟩ := e0.dom p o q; rw [hp] at q'; cases q'
end
section
variable {X : Cx} {W : WX} {e : Expr} {es : List Expr} {m : Fr → AH → Out Cell} {ms : MA} {pos : Pos}
/-- .. as a value -/
def eF (m : Fr → AH → Out Cell) : ME := fun fr h => (m fr h).bind fun c h1 => .ofOpt (valC c) h1
theorem re_f (h : RF X W e m) : RE X W e (eF m) := by
  obtain ⟨t, ht, hq⟩ := h.ex
  refine ⟨t, ht, fun F C ω fr σ Q w f p => ?_⟩
  refine hq F C ω fr σ Q w f (p.bind fun C1 c v w1 x1 r1 p1 => ?_)
  cases ev : valC c with
  | none => rw [ev] at p1; exact p1.elim
  | some d => rw [ev] at p1; exact p1.now w1 (r1.val w ev)
/-- .. as a cell: changed in place from now on, by whoever holds it -/
def eCell (m : Fr → AH → Out Cell) : ME := fun fr h => (m fr h).bind fun c h1 => .ok (.ref h1.length) (h1 ++ [c])
theorem re_cell (h : RF X W e m) : RE X W e (eCell m) := by
  obtain ⟨t, ht, hq⟩ := h.ex
  refine ⟨t, ht, fun F C ω fr σ Q w f p => ?_⟩
  refine hq F C ω fr σ Q w f ?_
  unfold eCell at p
  revert p
  cases m fr C.h with
  | err e h1 => exact fun p => p
  | bad => exact fun p => p
  | ok c h1 =>
  intro p C1 v eh w1 x1 r1
  subst eh
  obtain ⟨a, rfl, hp, w2, o⟩ := r1
  -- the new cell's place
  let C2 : Cf := ⟨fun i => if i = C1.h.length then a else C1.ρ i, C1.h ++ [c], C1.H⟩
  have hlen : C2.h.length = C1.h.length + 1 := by simp [C2]
  have hρ : ∀ i, i < C1.h.length → C2.ρ i = C1.ρ i := fun i hi => if_neg (Nat.ne_of_lt hi)
  have hρ2 : C2.ρ C1.h.length = a := if_pos rfl
  have nF : ¬ F a := fun fa => by obtain ⟨_, q, _⟩ := w.fin a fa; rw [hp] at q; cases q
  have hM : ∀ b, MH F C2 b → MH (Fadd F a) C1 b := by
    rintro b (fb | ⟨i, hi, q⟩)
    · exact .inl (.inl fb)
    · by_cases hlt : i < C1.h.length
      · rw [hρ i hlt] at q; exact .inr ⟨i, hlt, q⟩
      · have : i = C1.h.length := by omega
        subst this
        rw [hρ2] at q; exact .inl (.inr q.symm)
  have c2 : Car X.K (Fadd F a) F C1 C2 := ⟨fun _ _ q => q, fun b o q n => ⟨q, fun z => n (hM b z)⟩, fun i hi => ⟨by omega, hρ i hi⟩, fun _ _ _ q => q⟩
  have w3 : Hw X.K X.mg F C2 := by
    refine ⟨fun i x hx => ?_, fun i j hi hj q => ?_, fun i hi => ?_, w1.fin⟩
    · by_cases hlt : i < C1.h.length
      · have hx' : C1.h[i]? = some x := by rw [← hx]; exact (List.getElem?_append_left hlt).symm
        rw [hρ i hlt]
        exact (w2.cells i x hx').to c2 fun _ q => q
      · have hi := (List.getElem?_eq_some_iff.mp hx).1
        have hi' : i = C1.h.length := by omega
        subst hi'
        have hx' : c = x := by
          have : (C1.h ++ [c])[C1.h.length]? = some x := hx
          simpa using this
        subst hx'
        rw [hρ2]
        exact o.to c2 fun _ q => q
    · have key : ∀ k, k < C1.h.length → C1.ρ k ≠ a := fun k hk q => w2.nF k hk (.inr q)
      by_cases h1 : i < C1.h.length
      · by_cases h2 : j < C1.h.length
        · rw [hρ i h1, hρ j h2] at q; exact w1.inj i j h1 h2 q
        · have : j = C1.h.length := by omega
          subst this
          rw [hρ i h1, hρ2] at q; exact absurd q (key i h1)
      · have : i = C1.h.length := by omega
        subst this
        by_cases h2 : j < C1.h.length
        · rw [hρ j h2, hρ2] at q; exact absurd q.symm (key j h2)
        · omega
    · by_cases hlt : i < C1.h.length
      · rw [hρ i hlt]; exact w1.nF i hlt
      · have : i = C1.h.length := by omega
        subst this
        rw [hρ2]; exact nF
  have x3 : Ext C C2 := by
    refine ⟨by have := x1.le; omega, fun i hi => (hρ i (Nat.lt_of_lt_of_le hi x1.le)).trans (x1.ext i hi), x1.keep, fun i h1 h2 => ?_, x1.dom, x1.tups, x1.frzs⟩
    by_cases hlt : i < C1.h.length
    · rw [hρ i hlt]; exact x1.new i h1 hlt
    · have : i = C1.h.length := by omega
      subst this
      rw [hρ2]; exact hp
  exact p C2 _ rfl w3 x3 ⟨by omega, by rw [hρ2]⟩
/-- displays -/
def fLst (ms : MA) : Fr → AH → Out Cell := fun fr h => (ms fr h).bind fun ds h1 => if ds.length ≤ sizeLine then .ok (.lst ds) h1 else .bad
theorem rf_lst (hs : RA X W es ms) : RF X W (.List es pos) (fLst ms) := by
  obtain ⟨x, hx, hq⟩ := hs.ex
  refine ⟨_, pe_lst hx, fun F C ω fr σ Q w f p => ?_⟩
  refine hq F C ω fr σ _ w f (p.bind fun C1 ds vs w1 x1 r1 p1 => ?_)
  split at p1
  · rename_i hz
    exact ⟨by rw [← r1.length]; exact hz, fun a ha => p1 ⟨C1.ρ, C1.h, _⟩ _ rfl (w1.laid ha) (Ext.laid ha) (fresh_lst w1 x1 ha r1)⟩
  · exact p1.elim
def fDic0 : Fr → AH → Out Cell := fun _ h => .ok (.dic [] []) h
theorem rf_dic0 : RF X W (.Dict [] [] pos) fDic0 := by
  refine ⟨_, pe_dnewK, fun F C ω fr σ Q w f p => ?_⟩
  intro a ha
  exact p ⟨C.ρ, C.h, _⟩ _ rfl (w.laid ha) (Ext.laid ha) (fresh_dic (ks := []) (ds := []) (vs := []) w (Ext.refl C) ha rfl rfl)
/-- .. held by a slot alone -/
def sOwn (i : Nat) (m : Fr → AH → Out Cell) : MS := fun fr h => sOf (m fr h) fr fun c h1 => match valC c with
  | some d => .nx (fr.set i (.o d)) h1
  | none => .bad
theorem sw_own {K : PySem.W.Frag} {mg : Str → Option Value} {b : Bs} {C C1 : Cf} {ω : Nat → Addr} {fr : Fr} {σ : St} {i : Nat} {c : Cell} {d : D} {v : V} (s : Sw K mg b C ω fr σ) (s1 : Sw K mg b C1 ω fr σ) (x1 : Ext C C1) (r : freshAt K mg (Fof b.F ω fr) C C1 c v) (ev : valC c = some d) :
    ∃ ω', Sw K mg b C1 ω' (fr.set i (.o d)) (σ.set i (some v)) ∧ Car K (Fof b.F ω fr) (Fof b.F ω' (fr.set i (.o d))) C C1 := by
  obtain ⟨a, rfl, hp, w2, o⟩ := r
  refine ⟨fun j => if j = i then a else ω j, ?_⟩
  have hωi : (fun j => if j = i then a else ω j) i = a := if_pos rfl
  have hωj : ∀ j, j ≠ i → (fun j => if j = i then a else ω j) j = ω j := fun j h => if_neg h
  generalize hω' : (fun j => if j = i then a else ω j) = ω' at hωi hωj
  have hs : ∀ x, Fof b.F ω' (fr.set i (.o d)) x → Fadd (Fof b.F ω fr) a x := by
    rintro x (h | ⟨j, e, h, q⟩)
    · exact .inl (.inl h)
    · by_cases hj : j = i
      · subst hj; rw [hωi] at q; exact .inr q.symm
      · rw [List.getElem?_set_ne (Ne.symm hj)] at h
        rw [hωj j hj] at q
        exact .inl (.inr ⟨j, e, h, q⟩)
  have nFa : ¬ Fof b.F ω fr a := fun f => by obtain ⟨_, q, _⟩ := s.hw.fin a f; rw [hp] at q; cases q
  have nMa : ∀ x o, C.H x = some o → x ≠ a := fun x o q e => by rw [e, hp] at q; cases q
  have c1 : Car K (Fadd (Fof b.F ω fr) a) (Fof b.F ω' (fr.set i (.o d))) C1 C1 := car_less hs
  have c0 : Car K (Fof b.F ω fr) (Fof b.F ω' (fr.set i (.o d))) C C1 := by
    refine ⟨x1.car (F := Fof b.F ω fr) |>.t, fun x u q n => ?_, x1.car (K := K) (F := Fof b.F ω fr) |>.r, x1.frzs⟩
    obtain ⟨q1, n1⟩ := x1.safe q n
    refine ⟨q1, ?_⟩
    rintro (f | f)
    · rcases hs x f with f | f
      · exact n1 (.inl f)
      · exact nMa x u q f
    · exact n1 (.inr f)
  refine ⟨⟨w2.less hs, ⟨by simp [s.fw.len], fun j x h => ?_⟩, s1.ext, fun j e h => ?_, fun j k e e' h h' q => ?_⟩, c0⟩
  · by_cases hj : i = j
    · subst hj
      by_cases hi : i < fr.length
      · rw [List.getElem?_set_self hi] at h; cases h
        refine ⟨?_, .inr ⟨i, d, List.getElem?_set_self hi, rfl⟩, c, ?_, ?_⟩
        · rw [hωi]; exact List.getElem?_set_self (by rw [s.fw.len]; exact hi)
        · cases c with
          | lst ds => cases ev; rfl
          | dic ks ds => cases ev; rfl
          | ins _ _ => cases ev
        · rw [hωi]; exact o.to c1 fun _ q => q
      · rw [List.getElem?_eq_none (by simpa using hi)] at h; cases h
    · have h' := h
      rw [List.getElem?_set_ne hj] at h'
      rw [List.getElem?_set_ne hj, hωj j (Ne.symm hj)]
      have q := s.fw.slots j x h'
      cases x with
      | u => trivial
      | v e => obtain ⟨u, q1, q2⟩ := q; exact ⟨u, q1, q2.to c0⟩
      | o e =>
        obtain ⟨q1, q2, cl, q3, q4⟩ := q
        refine ⟨q1, .inr ⟨j, e, h, hωj j (Ne.symm hj)⟩, cl, q3, q4.to c0 fun u z => ?_⟩
        exact x1.keep _ u z fun k hk e => s.hw.nF k hk (e ▸ q2)
  · by_cases hj : i = j
    · subst hj
      rw [hωi]
      refine ⟨?_, fun f => nFa (.inl f)⟩
      cases q : b.C0.H a with
      | none => rfl
      | some u => obtain ⟨u', q'⟩ := s.ext.dom a u q; rw [hp] at q'; cases q'
    · rw [List.getElem?_set_ne hj] at h
      rw [hωj j (Ne.symm hj)]
      exact s.own j e h
  · by_cases hj : i = j
    · by_cases hk : i = k
      · exact hj.symm.trans hk
      · exfalso
        subst hj
        rw [List.getElem?_set_ne hk] at h'
        rw [hωi, hωj k (Ne.symm hk)] at q
        exact nFa (.inr ⟨k, e', h', q.symm⟩)
    · by_cases hk : i = k
      · exfalso
        subst hk
        rw [List.getElem?_set_ne hj] at h
        rw [hωi, hωj j (Ne.symm hj)] at q
        exact nFa (.inr ⟨j, e, h, q⟩)
      · rw [List.getElem?_set_ne hj] at h
        rw [List.getElem?_set_ne hk] at h'
        rw [hωj j (Ne.symm hj), hωj k (Ne.symm hk)] at q
        exact s.inj j k e e' h h' q
theorem fj_own {st : Stmt} (i : Nat) (h : FJ X W (fun t => PS X st (tAsg t (gName i))) m) : RS X W st (sOwn i m) := by
  obtain ⟨t, ht, hq⟩ := h.ex
  refine ⟨_, ht, fun b C ω fr σ E s p => ?_⟩
  refine hq _ C ω fr σ _ s.hw s.fw ?_
  unfold sOwn at p
  revert p
  cases m fr C.h with
  | err e h1 => exact fun p C1 cl dx q w x r => p C1 ω σ cl dx q (s.on w x) x.car r
  | bad => exact fun p => p
  | ok c h1 =>
    intro p C1 v eh w1 x1 r1
    subst eh
    have p' : SPost X.K X.mg b (Fof b.F ω fr) C W E (match valC c with | some d => .nx (fr.set i (.o d)) C1.h | none => .bad) := p
    cases ev : valC c with
    | none => rw [ev] at p'; exact p'.elim
    | some d =>
      rw [ev] at p'
      obtain ⟨ω', s2, c2⟩ := sw_own (i := i) s (s.on w1 x1) x1 r1 ev
      exact p' C1 ω' _ rfl s2 c2
theorem fj_set {st : Stmt} (i : Nat) (h : FJ X W (fun t => PS X st (tAsg t (gName i))) m) : RS X W st (sAsg (eF m) (gNm i)) := by
  obtain ⟨t, ht, hq⟩ := h.ex
  refine ⟨_, ht, fun b C ω fr σ E s p => ?_⟩
  refine hq _ C ω fr σ _ s.hw s.fw ?_
  unfold sAsg eF at p
  revert p
  cases m fr C.h with
  | err e h1 => exact fun p C1 cl dx q w x r => p C1 ω σ cl dx q (s.on w x) x.car r
  | bad => exact fun p => p
  | ok c h1 =>
    intro p C1 v eh w1 x1 r1
    subst eh
    have p' : SPost X.K X.mg b (Fof b.F ω fr) C W E (sOf (Out.ofOpt (valC c) C1.h) fr fun d h1 => match gNm i d fr with | some fr' => .nx fr' h1 | none => .bad) := p
    cases ev : valC c with
    | none => rw [ev] at p'; exact p'.elim
    | some d =>
      rw [ev] at p'
      obtain ⟨s2, c2⟩ := (s.on w1 x1).set i (r1.val s.hw ev)
      exact p' C1 ω _ rfl s2 (x1.car.trans c2)
theorem rs_own (i : Nat) {x : Str} {pos' : Pos} (hN : X.N.Nodup) (h : RF X W e m) (hi : X.N[i]? = some x := by rfl) (hx : Loc X.env.scope x := by first | exact Or.inl rfl | exact Or.inr rfl) (hs : swapsWith e (some (.Name x pos')) pos.line X.env = pure false := by rfl) (hf : X.fn x = true ∨ X.env.scope.names.lookup x = some .local := by first | exact .inl rfl | exact .inr rfl | assumption) :
    RS X W (.Assign [.Name x pos'] e pos) (sOwn i m) := by
  obtain ⟨t, ht, hq⟩ := h.ex
  exact fj_own i ⟨t, ps_set hN hi hx ht hs hf, hq⟩
end
end Sim
set_option Elab.async false
set_option linter.all false
set_option maxRecDepth 100000
set_option maxHeartbeats 4000000
/-! SG: things changed in place, what is gone through, comprehensions. -/
namespace Sim
open PySem L2

/-! ### changes in place -/
/-- no tuple, nothing locked -/
def plainHO (o : HO) : Prop := (∀ xs, o ≠ .tup xs) ∧ ∀ u xs, o ≠ .frz u xs
section
variable {K : PySem.W.Frag} {mg : Str → Option Value} {F : Addr → Prop} {C : Cf}
theorem updCar {p : Addr} {o0 o' : HO} (h0 : C.H p = some o0) (pl : plainHO o0) (hM : MH F C p) : Car K F F C ⟨C.ρ, C.h, upd C.H p o'⟩ where
  t := fun a vs q => by
    rcases q with (q | ⟨u, q⟩) | q
    · refine .inl (.inl ((upd_ne fun e => ?_).trans q)); subst e; rw [h0] at q; cases q; exact pl.1 _ rfl
    · refine .inl (.inr ⟨u, (upd_ne fun e => ?_).trans q⟩); subst e; rw [h0] at q; cases q; exact pl.2 _ _ rfl
    · exact .inr q
  l := fun a u q n => ⟨(upd_ne fun e => n (by rw [e]; exact hM)).trans q, fun z => n z⟩
  r := fun _ hi => ⟨hi, rfl⟩
  f := fun a u xs q => (upd_ne fun e => by subst e; rw [h0] at q; cases q; exact pl.2 _ _ rfl).trans q
/-- a slot's own thing is changed -/
theorem Sw.ownUpd {b : Bs} {ω : Nat → Addr} {fr : Fr} {σ : St} (s : Sw K mg b C ω fr σ) {i : Nat} {d d' : D} {c' : Cell} {o' : HO} (hd : fr[i]? = some (.o d)) (ho : plainHO o') (hc : cellOf d' = some c')
    (ob : ∀ C', Car K (Fof b.F ω fr) (Fof b.F ω fr) C C' → C'.H (ω i) = some o' → objAt K mg (Fof b.F ω fr) C' (ω i) c') :
    Sw K mg b ⟨C.ρ, C.h, upd C.H (ω i) o'⟩ ω (fr.set i (.o d')) σ ∧ Car K (Fof b.F ω fr) (Fof b.F ω (fr.set i (.o d'))) C ⟨C.ρ, C.h, upd C.H (ω i) o'⟩ := by
  obtain ⟨q1, q2, cl, q3, q4⟩ := s.fw.slots i _ hd
  have hi : i < fr.length := (List.getElem?_eq_some_iff.mp hd).1
  obtain ⟨o0, h0, p1, p2⟩ := q4.there
  have key : ∀ (j : Nat) (e : D), (fr.set i (.o d'))[j]? = some (.o e) → ∃ e' : D, fr[j]? = some (.o e') := fun j e h => by
    by_cases hij : i = j
    · subst hij; exact ⟨d, hd⟩
    · rw [List.getElem?_set_ne hij] at h; exact ⟨e, h⟩
  have key2 : ∀ (j : Nat) (e : D), fr[j]? = some (.o e) → ∃ e' : D, (fr.set i (.o d'))[j]? = some (.o e') := fun j e h => by
    by_cases hij : i = j
    · subst hij; exact ⟨d', List.getElem?_set_self hi⟩
    · exact ⟨e, (List.getElem?_set_ne hij).trans h⟩
  have le1 : ∀ a, Fof b.F ω (fr.set i (.o d')) a → Fof b.F ω fr a := by
    rintro a (h | ⟨j, e, h, q⟩)
    · exact .inl h
    · obtain ⟨e', h'⟩ := key j e h; exact .inr ⟨j, e', h', q⟩
  have le2 : ∀ a, Fof b.F ω fr a → Fof b.F ω (fr.set i (.o d')) a := by
    rintro a (h | ⟨j, e, h, q⟩)
    · exact .inl h
    · obtain ⟨e', h'⟩ := key2 j e h; exact .inr ⟨j, e', h', q⟩
  have c1 : Car K (Fof b.F ω fr) (Fof b.F ω fr) C ⟨C.ρ, C.h, upd C.H (ω i) o'⟩ := updCar h0 ⟨p1, p2⟩ (.inl q2)
  have c2 : Car K (Fof b.F ω fr) (Fof b.F ω (fr.set i (.o d'))) (⟨C.ρ, C.h, upd C.H (ω i) o'⟩ : Cf) ⟨C.ρ, C.h, upd C.H (ω i) o'⟩ := car_less le1
  have c3 := c1.trans c2
  have ne : ∀ k, k < C.h.length → C.ρ k ≠ ω i := fun k hk e => s.hw.nF k hk (e ▸ q2)
  have hw : Hw K mg (Fof b.F ω fr) ⟨C.ρ, C.h, upd C.H (ω i) o'⟩ := by
    refine ⟨fun k x hx => ?_, s.hw.inj, s.hw.nF, fun a f => ?_⟩
    · exact (s.hw.cells k x hx).to c1 fun u q => (upd_ne (ne k (List.getElem?_eq_some_iff.mp hx).1)).trans q
    · by_cases ha : a = ω i
      · subst ha; exact ⟨o', upd_same, ho.1⟩
      · obtain ⟨u, q, n⟩ := s.hw.fin a f
        exact ⟨u, (upd_ne ha).trans q, n⟩
  refine ⟨⟨hw.less le1, ⟨by simp [s.fw.len], fun j x h => ?_⟩, ?_, fun j e h => ?_, fun j k e e' h h' => ?_⟩, c3⟩
  · by_cases hij : i = j
    · subst hij
      rw [List.getElem?_set_self hi] at h; cases h
      exact ⟨q1, .inr ⟨i, d', List.getElem?_set_self hi, rfl⟩, c', hc, (ob _ c1 upd_same).to c2 fun _ q => q⟩
    · have h' := h
      rw [List.getElem?_set_ne hij] at h'
      have q := s.fw.slots j x h'
      cases x with
      | u => trivial
      | v e => obtain ⟨u, r1, r2⟩ := q; exact ⟨u, r1, r2.to c3⟩
      | o e =>
        obtain ⟨r1, r2, cl', r3, r4⟩ := q
        refine ⟨r1, .inr ⟨j, e, h, rfl⟩, cl', r3, r4.to c3 fun u z => (upd_ne fun q => ?_).trans z⟩
        exact hij (s.inj i j d e hd h' q.symm)
  · have hn : b.C0.H (ω i) = none := (s.own i d hd).1
    refine ⟨s.ext.le, s.ext.ext, fun a u q n => (upd_ne fun e => ?_).trans (s.ext.keep a u q n), s.ext.new, fun a u q => ?_, fun a u q => (upd_ne fun e => ?_).trans (s.ext.tups a u q), fun a v u q => (upd_ne fun e => ?_).trans (s.ext.frzs a v u q)⟩
    · subst e; rw [hn] at q; cases q
    · by_cases ha : a = ω i
      · subst ha; exact ⟨o', upd_same⟩
      · obtain ⟨u', q'⟩ := s.ext.dom a u q; exact ⟨u', (upd_ne ha).trans q'⟩
    · subst e; rw [hn] at q; cases q
    · subst e; rw [hn] at q; cases q
  · obtain ⟨e', h'⟩ := key j e h; exact s.own j e' h'
  · obtain ⟨x, hx⟩ := key j e h
    obtain ⟨y, hy⟩ := key k e' h'
    exact s.inj j k x y hx hy
/-- a cell is changed -/
theorem Hw.cellUpd (w : Hw K mg F C) {n : Nat} {c c' : Cell} {o' : HO} (hc : C.h[n]? = some c) (ho : plainHO o') (ob : ∀ C', Car K F F C C' → C'.H (C.ρ n) = some o' → objAt K mg F C' (C.ρ n) c') :
    Hw K mg F ⟨C.ρ, C.h.set n c', upd C.H (C.ρ n) o'⟩ ∧ Ext C ⟨C.ρ, C.h.set n c', upd C.H (C.ρ n) o'⟩ := by
  have hn : n < C.h.length := (List.getElem?_eq_some_iff.mp hc).1
  obtain ⟨o0, h0, p1, p2⟩ := (w.cells n c hc).there
  have hlen : (C.h.set n c').length = C.h.length := List.length_set
  have c0 : Car K F F C ⟨C.ρ, C.h, upd C.H (C.ρ n) o'⟩ := updCar h0 ⟨p1, p2⟩ (.inr ⟨n, hn, rfl⟩)
  have c1 : Car K F F C ⟨C.ρ, C.h.set n c', upd C.H (C.ρ n) o'⟩ := ⟨c0.t, fun a u q m => by
    obtain ⟨q1, m1⟩ := c0.l a u q m
    refine ⟨q1, ?_⟩
    rintro (f | ⟨i, hi, e⟩)
    · exact m1 (.inl f)
    · exact m1 (.inr ⟨i, by have hi' : i < (C.h.set n c').length := hi; rw [hlen] at hi'; exact hi', e⟩), fun i hi => ⟨by show i < (C.h.set n c').length; rw [hlen]; exact hi, rfl⟩, c0.f⟩
  refine ⟨⟨fun k x hx => ?_, fun i j hi hj q => ?_, fun i hi => ?_, fun a f => ?_⟩, ⟨?_, fun _ _ => rfl, fun a u q m => (upd_ne fun e => m n hn e.symm).trans q, fun i h1 h2 => ?_, fun a u q => ?_, fun a u q => (upd_ne fun e => ?_).trans q, fun a v u q => (upd_ne fun e => ?_).trans q⟩⟩
  · have hx' : (C.h.set n c')[k]? = some x := hx
    by_cases hk : n = k
    · subst hk
      rw [List.getElem?_set_self hn] at hx'; cases hx'
      exact ob _ c1 upd_same
    · rw [List.getElem?_set_ne hk] at hx'
      refine (w.cells k x hx').to c1 fun u q => (upd_ne fun e => hk ?_).trans q
      exact w.inj n k hn (List.getElem?_eq_some_iff.mp hx').1 e.symm
  · have hi' : i < (C.h.set n c').length := hi
    have hj' : j < (C.h.set n c').length := hj
    rw [hlen] at hi' hj'
    exact w.inj i j hi' hj' q
  · have hi' : i < (C.h.set n c').length := hi
    rw [hlen] at hi'
    exact w.nF i hi'
  · obtain ⟨u, q, m⟩ := w.fin a f
    exact ⟨u, (upd_ne fun e => w.nF n hn (by rw [← e]; exact f)).trans q, m⟩
  · show C.h.length ≤ (C.h.set n c').length
    rw [hlen]; exact Nat.le_refl _
  · have h2' : i < (C.h.set n c').length := h2
    rw [hlen] at h2'; omega
  · by_cases ha : a = C.ρ n
    · subst ha; exact ⟨o', upd_same⟩
    · exact ⟨u, (upd_ne ha).trans q⟩
  · subst e; rw [h0] at q; cases q; exact p1 _ rfl
  · subst e; rw [h0] at q; cases q; exact p2 _ _ rfl
theorem plain_lst {vs : List V} : plainHO (.lst vs) := ⟨(fun _ z => nomatch z), fun _ _ z => nomatch z⟩
theorem plain_dK {vs : List (Key × V)} : plainHO (.dK vs) := ⟨(fun _ z => nomatch z), fun _ _ z => nomatch z⟩
theorem plain_ins {c dx : Addr} {vs : List (Str × V)} : plainHO (.ins c dx vs) := ⟨(fun _ z => nomatch z), fun _ _ z => nomatch z⟩
end

section
variable {X : Cx} {W : WX} {e o i : Expr} {me mo mi : ME} {pos cpos apos : Pos}
/-- x.append(e), the slot's own list -/
def sAppO (k : Nat) (me : ME) : MS := fun fr h => match fr[k]? with
  | some (.o (.lst ds)) => sOf (me fr h) fr fun d h1 => if ds.length < sizeLine then .nx (fr.set k (.o (.lst (ds ++ [d])))) h1 else .bad
  | _ => .bad
theorem own_lst {K : PySem.W.Frag} {mg : Str → Option Value} {b : Bs} {C : Cf} {ω : Nat → Addr} {fr : Fr} {σ : St} {k : Nat} {ds : List D} (s : Sw K mg b C ω fr σ) (hd : fr[k]? = some (.o (.lst ds))) : σ[k]? = some (some (.ref (ω k))) ∧ ∃ vs, C.H (ω k) = some (.lst vs) ∧ reps K (Fof b.F ω fr) C ds vs := by
  obtain ⟨q1, q2, cl, q3, q4⟩ := s.fw.slots k _ hd
  cases q3
  obtain ⟨vs, q, r⟩ := q4
  exact ⟨q1, vs, q, r⟩
theorem rs_appO (k : Nat) {x : Str} {p : Pos} (h : RE X W e me) (hN : X.N[k]? = some x := by rfl) (hv : Vis X.env.scope x := by first | exact Or.inl rfl | exact Or.inr (Or.inl rfl) | exact Or.inr (Or.inr rfl)) (hd : (x == ("__debug__" : Str)) = false := by decide)
    (hcd : (x == ("__classdict__" : Str)) = false := by decide)
    (hbase : attributeBase (.Name x p) "append" X.env (eval (.Name x p) X.env) = eval (.Name x p) X.env := by rfl)
    (hfew : ((backTo cpos (starEach [e] X.env)).all (fun x => !x.1) && (backToKw cpos (keywordEach [] X.env)).all (fun x => x.1.isSome) && decide ([e].length + ([] : List Keyword).length + (if ([] : List Keyword).isEmpty then 0 else 1) < 30)) = true := by rfl)
    (hline : (apos.endLine == cpos.line) = true := by rfl) (hs : starEach [e] X.env = (false, eval e X.env) :: starEach [] X.env := by rfl) (hplain : (backTo cpos (starEach [] X.env)).any (·.1) = false := by rfl)
    (hsw : swapsWith (.Call (.Attribute (.Name x p) "append" apos) [e] [] cpos) none pos.line X.env = pure false := by rfl) : RS X W (.Expr (.Call (.Attribute (.Name x p) "append" apos) [e] [] cpos) pos) (sAppO k me) := by
  obtain ⟨t, ht, hq⟩ := h.ex
  refine ⟨_, ps_expr (pe_bm PySem.F.plainAttrs_list PySem.F.slot_list_append PySem.F.type_list_append mt_append (pe_var hN hv hd hcd) (pa_cons ht pa_nil hs) hbase hfew hline hs hplain) hsw, fun b C ω fr σ E s p => ?_⟩
  unfold sAppO at p
  split at p
  · rename_i ds hds
    obtain ⟨q1, vs, q2, q3⟩ := own_lst s hds
    refine ⟨_, q1, .inl ⟨rfl, vs, .of q2⟩, ?_⟩
    refine hq _ C ω fr σ _ s.hw s.fw (p.bind s fun C1 d v s1 x1 rv p1 => ?_)
    have q2' : C1.H (ω k) = some (.lst vs) := x1.keep _ _ q2 fun j hj e => s.hw.nF j hj (.inr ⟨k, _, hds, e.symm⟩)
    have q3' := q3.to x1.car
    split at p1
    · rename_i hz
      obtain ⟨s2, c2⟩ := s1.ownUpd (d' := .lst (ds ++ [d])) (c' := .lst (ds ++ [d])) (o' := .lst (vs ++ [v])) hds plain_lst rfl fun C' c hC => ⟨_, hC, (q3'.app (reps.cons rv reps.nil)).to c⟩
      exact ⟨_, vs, v, rfl, rfl, q2', by rw [← q3.length]; exact hz, p1.go s2 rfl c2⟩
    · exact p1.elim
  · exact p.elim
/-- x.extend(e), the slot's own list, e a list -/
def sExtO (k : Nat) (me : ME) : MS := fun fr h => match fr[k]? with
  | some (.o (.lst ds)) => sOf (me fr h) fr fun d h1 => match d with
    | .lst es => if ds.length + es.length ≤ sizeLine then .nx (fr.set k (.o (.lst (ds ++ es)))) h1 else .bad
    | _ => .bad
  | _ => .bad
theorem rs_extO (k : Nat) {x : Str} {p : Pos} (h : RE X W e me) (hN : X.N[k]? = some x := by rfl) (hv : Vis X.env.scope x := by first | exact Or.inl rfl | exact Or.inr (Or.inl rfl) | exact Or.inr (Or.inr rfl)) (hd : (x == ("__debug__" : Str)) = false := by decide)
    (hcd : (x == ("__classdict__" : Str)) = false := by decide)
    (hbase : attributeBase (.Name x p) "extend" X.env (eval (.Name x p) X.env) = eval (.Name x p) X.env := by rfl)
    (hfew : ((backTo cpos (starEach [e] X.env)).all (fun x => !x.1) && (backToKw cpos (keywordEach [] X.env)).all (fun x => x.1.isSome) && decide ([e].length + ([] : List Keyword).length + (if ([] : List Keyword).isEmpty then 0 else 1) < 30)) = true := by rfl)
    (hline : (apos.endLine == cpos.line) = true := by rfl) (hs : starEach [e] X.env = (false, eval e X.env) :: starEach [] X.env := by rfl) (hplain : (backTo cpos (starEach [] X.env)).any (·.1) = false := by rfl)
    (hsw : swapsWith (.Call (.Attribute (.Name x p) "extend" apos) [e] [] cpos) none pos.line X.env = pure false := by rfl) : RS X W (.Expr (.Call (.Attribute (.Name x p) "extend" apos) [e] [] cpos) pos) (sExtO k me) := by
  obtain ⟨t, ht, hq⟩ := h.ex
  refine ⟨_, ps_expr (pe_bm PySem.F.plainAttrs_list PySem.F.slot_list_extend PySem.F.type_list_extend mt_extend (pe_var hN hv hd hcd) (pa_cons ht pa_nil hs) hbase hfew hline hs hplain) hsw, fun b C ω fr σ E s p => ?_⟩
  unfold sExtO at p
  split at p
  · rename_i ds hds
    obtain ⟨q1, vs, q2, q3⟩ := own_lst s hds
    refine ⟨_, q1, .inl ⟨rfl, vs, .of q2⟩, ?_⟩
    refine hq _ C ω fr σ _ s.hw s.fw (p.bind s fun C1 d v s1 x1 rv p1 => ?_)
    have q2' : C1.H (ω k) = some (.lst vs) := x1.keep _ _ q2 fun j hj e => s.hw.nF j hj (.inr ⟨k, _, hds, e.symm⟩)
    have q3' := q3.to x1.car
    split at p1
    · rename_i es
      obtain ⟨a, us, rfl, h1, n1, r1⟩ := rv
      split at p1
      · rename_i hz
        obtain ⟨s2, c2⟩ := s1.ownUpd (d' := .lst (ds ++ es)) (c' := .lst (ds ++ es)) (o' := .lst (vs ++ us)) hds plain_lst rfl fun C' c hC => ⟨_, hC, (q3'.app r1).to c⟩
        exact ⟨_, a, vs, us, rfl, rfl, q2', h1, by rw [← q3.length, ← r1.length]; exact hz, p1.go s2 rfl c2⟩
      · exact p1.elim
    · exact p1.elim
  · exact p.elim
/-- x[i] = e, the slot's own list -/
def sSetO (k : Nat) (mi me : ME) : MS := fun fr h => match fr[k]? with
  | some (.o (.lst ds)) => sOf (me fr h) fr fun d h1 => sOf (mi fr h1) fr fun j h2 => match j with
    | .int j => match ixN ds.length j with
      | some j => .nx (fr.set k (.o (.lst (ds.set j d)))) h2
      | none => .bad
    | _ => .bad
  | _ => .bad
/-- o[i] = e, a cell's list -/
def sSetC (mo mi me : ME) : MS := fun fr h => sOf (me fr h) fr fun d h1 => sOf (mo fr h1) fr fun x h2 => sOf (mi fr h2) fr fun j h3 => match x, j with
  | .ref n, .int j => match h3[n]? with
    | some (.lst ds) => match ixN ds.length j with
      | some j => .nx fr (h3.set n (.lst (ds.set j d)))
      | none => .bad
    | _ => .bad
  | _, _ => .bad
theorem rs_setC (h : RE X W e me) (ho : RE X W o mo) (hi : RE X W i mi) (ha : ∀ v, assign (.Subscript o i apos) X.env v = (do
      let ov ← holding [v] (eval o X.env)
      let iv ← holding [v, ov] (eval i X.env)
      standAt apos
      holding [v, ov, iv] (setItem ov iv v)
      release [v, ov, iv] []) := by intro _; rfl)
    (hs : swapsWithSole [.Subscript o i apos] e pos.line X.env = pure false := by rfl) (hw : swappedStores [.Subscript o i apos] e X.env = pure none := by rfl)
    (h1 : (assignEach [.Subscript o i apos] X.env).map (·.2) = [assign (.Subscript o i apos) X.env] := by rfl) : RS X W (.Assign [.Subscript o i apos] e pos) (sSetC mo mi me) := by
  obtain ⟨t, ht, qe⟩ := h.ex
  obtain ⟨u, hu, qo⟩ := ho.ex
  obtain ⟨z, hz, qi⟩ := hi.ex
  refine ⟨_, ps_asg ht (pg_sub hu hz set_list ha) hs hw h1, fun b C ω fr σ E s p => ?_⟩
  refine qe _ C ω fr σ _ s.hw s.fw (p.bind s fun C1 d v s1 x1 r1 p1 => ?_)
  refine qo _ C1 ω fr σ _ s1.hw s1.fw (p1.bind s1 fun C2 y yv s2 x2 r2 p2 => ?_)
  refine qi _ C2 ω fr σ _ s2.hw s2.fw (p2.bind s2 fun C3 j jv s3 x3 r3 p3 => ?_)
  split at p3
  · rename_i n j
    cases (show jv = .int j from r3)
    obtain ⟨hn, rfl⟩ := r2.to x3.car
    split at p3
    · rename_i ds hds
      split at p3
      · rename_i jj hj
        have rd := (r1.to x2.car).to x3.car
        obtain ⟨vs, g1, g2⟩ := s3.hw.cells n _ hds
        obtain ⟨w4, x4⟩ := s3.hw.cellUpd (c' := .lst (ds.set jj d)) (o' := .lst (vs.set jj v)) hds plain_lst fun C' c hC => ⟨_, hC, (g2.set jj rd).to c⟩
        exact ⟨_, vs, j, jj, rfl, rfl, g1, by rw [← g2.length]; exact hj, p3.go (s3.on w4 x4) rfl x4.car⟩
      · exact p3.elim
    · exact p3.elim
  · exact p3.elim
theorem rs_setO (k : Nat) {x : Str} {p : Pos} (h : RE X W e me) (hi : RE X W i mi) (hN : X.N[k]? = some x := by rfl) (hv : Vis X.env.scope x := by first | exact Or.inl rfl | exact Or.inr (Or.inl rfl) | exact Or.inr (Or.inr rfl)) (hd : (x == ("__debug__" : Str)) = false := by decide)
    (hcd : (x == ("__classdict__" : Str)) = false := by decide) (ha : ∀ v, assign (.Subscript (.Name x p) i apos) X.env v = (do
      let ov ← holding [v] (eval (.Name x p) X.env)
      let iv ← holding [v, ov] (eval i X.env)
      standAt apos
      holding [v, ov, iv] (setItem ov iv v)
      release [v, ov, iv] []) := by intro _; rfl)
    (hs : swapsWithSole [.Subscript (.Name x p) i apos] e pos.line X.env = pure false := by rfl) (hw : swappedStores [.Subscript (.Name x p) i apos] e X.env = pure none := by rfl)
    (h1 : (assignEach [.Subscript (.Name x p) i apos] X.env).map (·.2) = [assign (.Subscript (.Name x p) i apos) X.env] := by rfl) : RS X W (.Assign [.Subscript (.Name x p) i apos] e pos) (sSetO k mi me) := by
  obtain ⟨t, ht, qe⟩ := h.ex
  obtain ⟨z, hz, qi⟩ := hi.ex
  refine ⟨_, ps_asg ht (pg_sub (pe_var hN hv hd hcd) hz set_list ha) hs hw h1, fun b C ω fr σ E s p => ?_⟩
  unfold sSetO at p
  split at p
  · rename_i ds hds
    refine qe _ C ω fr σ _ s.hw s.fw (p.bind s fun C1 d v s1 x1 r1 p1 => ?_)
    obtain ⟨q1, _⟩ := own_lst s1 hds
    refine ⟨_, q1, ?_⟩
    refine qi _ C1 ω fr σ _ s1.hw s1.fw (p1.bind s1 fun C2 j jv s2 x2 r2 p2 => ?_)
    split at p2
    · rename_i j
      cases (show jv = .int j from r2)
      split at p2
      · rename_i jj hj
        obtain ⟨_, vs, q2, q3⟩ := own_lst s2 hds
        obtain ⟨s3, c3⟩ := s2.ownUpd (d' := .lst (ds.set jj d)) (c' := .lst (ds.set jj d)) (o' := .lst (vs.set jj v)) hds plain_lst rfl fun C' c hC => ⟨_, hC, (q3.set jj (r1.to x2.car)).to c⟩
        exact ⟨_, vs, j, jj, rfl, rfl, q2, by rw [← q3.length]; exact hj, p2.go s3 rfl c3⟩
      · exact p2.elim
    · exact p2.elim
  · exact p.elim
end
end Sim
set_option Elab.async false
set_option linter.all false
set_option maxRecDepth 100000
set_option maxHeartbeats 4000000
/-! SH: what is gone through, comprehensions. -/
namespace Sim
open PySem L2

/-! ### sources -/
section
variable {X : Cx} {W : WX} {tg e : Expr} {es : List Expr} {me : ME} {ma : MA} {p pos : Pos}
def iSeq (K : PySem.W.Frag) (tl : TE) : TI := fun σ H R => tl σ H fun x H1 => (∃ a, x = .ref a ∧ (∃ xs, SqL K H1 a xs) ∧ R (Itl K a) H1) ∨ (∃ a, x = .ref a ∧ (∃ xs, SqT K H1 a xs) ∧ R (Itt K a) H1) ∨ ∃ z, x = .str z ∧ R (Its z) H1
open PySem.Spec PyProof.Rows in
theorem pi_seq {l : Expr} {tl : TE} (hl : PE X l tl) : PI X tg l (iSeq X.K tl) := by
  refine ⟨fun pins s σ H R I h => ?_⟩
  refine thn (hl.run pins s σ H _ I h) fun v s1 ⟨x, H1, I1, r1, q1⟩ => ?_
  rcases q1 with ⟨a, e, ⟨xs, hq⟩, q⟩ | ⟨a, e, ⟨xs, hq⟩, q⟩ | ⟨z, ex, q⟩
  · subst e
    cases r1
    obtain ⟨its, rv, p, hz⟩ := I1.list hq
    refine wpAny_pyIter_list p.isList ?_
    refine ⟨s1.heap.objs.size, [s1.heap.objs.size], _, _, H1, rfl, I1.kept (t' := s1.toks) fun b o e => Heap.get?_push_of_some _ e, turn_list a _, ⟨_, Heap.get?_push_size _ rfl, rfl, rfl⟩, fun b hb => ?_, q⟩
    have e : b = s1.heap.objs.size := by simpa using hb
    subst e
    exact I1.fpOk (Nat.le_refl _) (I1.hok.fresh (Nat.le_refl _))
  · subst e
    cases r1
    obtain ⟨its, rv, p, hz⟩ := I1.tuple hq
    refine wpAny_pyIter_tuple (show s1.heap.IsTuple a its.toArray from p) ?_
    refine ⟨s1.heap.objs.size, [s1.heap.objs.size], _, _, H1, rfl, I1.kept (t' := s1.toks) fun b o e => Heap.get?_push_of_some _ e, turn_tuple a _, ⟨_, Heap.get?_push_size _ rfl, rfl, rfl⟩, fun b hb => ?_, q⟩
    have e : b = s1.heap.objs.size := by simpa using hb
    subst e
    exact I1.fpOk (Nat.le_refl _) (I1.hok.fresh (Nat.le_refl _))
  · subst ex
    obtain ⟨t, rfl⟩ := r1
    cases ha : z.cps.all (· < 128)
    · exact wpAny_pyIter_wide ha (pi_one (tk := s1.toks) I1 _ (turn_str _ z t "str_iterator" (.inr rfl)) ⟨_, Heap.get?_push_size _ rfl, rfl, rfl⟩ q)
    · exact wpAny_pyIter_ascii ha (pi_one (tk := s1.toks) I1 _ (turn_str _ z t "str_ascii_iterator" (.inl rfl)) ⟨_, Heap.get?_push_size _ rfl, rfl, rfl⟩ q)
/-- what is gone through, of a value -/
def goD : D → Option (List D)
  | .lst ds => some ds
  | .tup ds => some ds
  | .fro ds => some ds
  | .str z => some (z.cps.toList.map fun c => .str ⟨#[c]⟩)
  | _ => none
def iOf (me : ME) : MA := fun fr h => (me fr h).bind fun d h1 => .ofOpt (goD d) h1
theorem wk_lst {K : PySem.W.Frag} {mg : Str → Option Value} {F : Addr → Prop} {C : Cf} {ds : List D} {a : Addr} {vs : List V} (st : ∀ F2 C2, Car K F F2 C C2 → SqL K C2.H a vs) (r : reps K F C ds vs) : Wk K mg F C ds (Itl K a) := by
  intro F2 C2 w c
  have q := st F2 C2 c
  refine ⟨fun i d hd => ?_, vs, q, by rw [r.length]; exact Nat.le_refl _⟩
  obtain ⟨v, hv, rv⟩ := r.get hd
  refine ⟨⟨vs, v, q, hv⟩, fun x H' y => ?_⟩
  obtain ⟨e, y⟩ := y
  have hx := y vs q
  rw [hv] at hx; cases hx
  exact ⟨C2, e.symm, rfl, Ext.refl _, w, rv.to c⟩
theorem wk_tup {K : PySem.W.Frag} {mg : Str → Option Value} {F : Addr → Prop} {C : Cf} {ds : List D} {a : Addr} {vs : List V} (st : SqT K C.H a vs) (r : reps K F C ds vs) : Wk K mg F C ds (Itt K a) := by
  intro F2 C2 w c
  have q := c.t _ _ st
  refine ⟨fun i d hd => ?_, vs, q, by rw [r.length]; exact Nat.le_refl _⟩
  obtain ⟨v, hv, rv⟩ := r.get hd
  refine ⟨⟨vs, v, q, hv⟩, fun x H' y => ?_⟩
  obtain ⟨e, y⟩ := y
  have hx := y vs q
  rw [hv] at hx; cases hx
  exact ⟨C2, e.symm, rfl, Ext.refl _, w, rv.to c⟩
theorem wk_str {K : PySem.W.Frag} {mg : Str → Option Value} {F : Addr → Prop} {C : Cf} {z : Str} : Wk K mg F C (z.cps.toList.map fun c => .str ⟨#[c]⟩) (Its z) := by
  intro F2 C2 w c
  refine ⟨fun i d hd => ?_, by show z.cps.size ≤ _; simp⟩
  rw [List.getElem?_map, Array.getElem?_toList] at hd
  obtain ⟨ch, h1, h2⟩ := Option.map_eq_some_iff.mp hd
  refine ⟨(Array.getElem?_eq_some_iff.mp h1).1, fun x H' y => ?_⟩
  obtain ⟨e, ch', h3, rfl⟩ := y
  rw [h1] at h3; cases h3
  subst h2
  exact ⟨C2, e.symm, rfl, Ext.refl _, w, rfl⟩
theorem ri_seq (h : RE X W e me) : RI X W tg e (iOf me) := by
  obtain ⟨t, ht, hq⟩ := h.ex
  refine ⟨_, pi_seq ht, fun F C ω fr σ R w f p => ?_⟩
  refine hq F C ω fr σ _ w f (p.bind fun C1 d v w1 x1 r1 p1 => ?_)
  cases d with
  | lst ds =>
    obtain ⟨a, vs, rfl, q, n, r⟩ := r1
    exact .inl ⟨a, rfl, ⟨vs, .of q⟩, p1.now (R := fun C ds J => Wk X.K X.mg F C ds J) w1 (wk_lst (fun F2 C2 c => .of (c.l _ _ q n).1) r)⟩
  | fro ds =>
    obtain ⟨a, vs, rfl, q, r⟩ := r1
    refine .inl ⟨a, rfl, ⟨vs, ?_⟩, p1.now (R := fun C ds J => Wk X.K X.mg F C ds J) w1 (wk_lst (fun F2 C2 c => ?_) r)⟩
    · rcases q with ⟨o, q⟩ | q
      · exact .inl (.inr ⟨o, q⟩)
      · exact q.sq
    · rcases q with ⟨o, q⟩ | q
      · exact .inl (.inr ⟨o, c.f _ _ _ q⟩)
      · exact q.sq
  | tup ds =>
    obtain ⟨a, vs, rfl, q, r⟩ := r1
    exact .inr (.inl ⟨a, rfl, ⟨vs, q⟩, p1.now (R := fun C ds J => Wk X.K X.mg F C ds J) w1 (wk_tup q r)⟩)
  | str z =>
    exact .inr (.inr ⟨z, r1, p1.now (R := fun C ds J => Wk X.K X.mg F C ds J) w1 wk_str⟩)
  | _ => exact p1.elim
/-- range -/
def rangeD (lo : Int) (n : Nat) : List D := (List.range n).map fun (i : Nat) => .int (lo + (i : Int))
theorem wk_range {K : PySem.W.Frag} {mg : Str → Option Value} {F : Addr → Prop} {C : Cf} {lo : Int} {n : Nat} : Wk K mg F C (rangeD lo n) (Itr lo n) := by
  intro F2 C2 w c
  unfold rangeD
  refine ⟨fun i d hd => ?_, by show n ≤ _; simp⟩
  rw [List.getElem?_map] at hd
  obtain ⟨j, h1, h2⟩ := Option.map_eq_some_iff.mp hd
  obtain ⟨hi, h3⟩ := List.getElem?_eq_some_iff.mp h1
  rw [List.getElem_range] at h3
  subst h3
  rw [List.length_range] at hi
  refine ⟨hi, fun x H' y => ?_⟩
  obtain ⟨e, rfl⟩ := y
  subst h2
  exact ⟨C2, e.symm, rfl, Ext.refl _, w, rfl⟩
def rngOk (i : Int) : Bool := decide (-(2 ^ 62) ≤ i) && decide (i < 2 ^ 62)
def iRange1 (ma : ME) : MA := fun fr h => (ma fr h).bind fun d h1 => match d with
  | .int j => if rngOk j then .ok (rangeD 0 j.toNat) h1 else .bad
  | _ => .bad
def iRange2 (ma mb : ME) : MA := fun fr h => (ma fr h).bind fun d h1 => (mb fr h1).bind fun e h2 => match d, e with
  | .int i, .int j => if rngOk i && rngOk j then .ok (rangeD i (j - i).toNat) h2 else .bad
  | _, _ => .bad
theorem rngOk_iff {i : Int} (h : rngOk i = true) : -(2 ^ 62) ≤ i ∧ i < 2 ^ 62 := by
  unfold rngOk at h
  rw [Bool.and_eq_true] at h
  exact ⟨of_decide_eq_true h.1, of_decide_eq_true h.2⟩
theorem ri_range1 {a : Expr} (hg : Gl X "range") (hm : X.mg "range" = none) (ha : RE X W a me) (hst : starEach [a] X.env = (false, eval a X.env) :: starEach [] X.env := by rfl) (hs : starEach [a] X.env = [(false, eval a X.env)] := by rfl) : RI X W tg (.Call (.Name "range" p) [a] [] pos) (iRange1 me) := by
  obtain ⟨t, ht, hq⟩ := ha.ex
  refine ⟨_, pi_range1 hg hm (pa_cons ht pa_nil hst) hs, fun F C ω fr σ R w f p => ?_⟩
  refine hq F C ω fr σ _ w f (p.bind fun C1 d v w1 x1 r1 p1 => ?_)
  cases d with
  | int j =>
    cases (show v = .int j from r1)
    simp only at p1
    split at p1
    · rename_i hj
      obtain ⟨h1, h2⟩ := rngOk_iff hj
      exact ⟨j, rfl, h1, h2, p1.now (R := fun C ds J => Wk X.K X.mg F C ds J) w1 wk_range⟩
    · exact p1.elim
  | _ => exact p1.elim
theorem ri_range2 {a b : Expr} {mb : ME} (hg : Gl X "range") (hm : X.mg "range" = none) (ha : RE X W a me) (hb : RE X W b mb) (hst : starEach (a :: [b]) X.env = (false, eval a X.env) :: starEach [b] X.env := by rfl) (hst2 : starEach (b :: []) X.env = (false, eval b X.env) :: starEach [] X.env := by rfl)
    (hs : starEach [a, b] X.env = [(false, eval a X.env), (false, eval b X.env)] := by rfl) (hs2 : starEach [b] X.env = [(false, eval b X.env)] := by rfl) : RI X W tg (.Call (.Name "range" p) [a, b] [] pos) (iRange2 me mb) := by
  obtain ⟨t, ht, hq⟩ := ha.ex
  obtain ⟨u, hu, hr⟩ := hb.ex
  refine ⟨_, pi_range2 hg hm (pa_cons ht (pa_cons hu pa_nil hst2) hst) hs hs2, fun F C ω fr σ R w f p => ?_⟩
  refine hq F C ω fr σ _ w f (p.bind fun C1 d v w1 x1 r1 p1 => ?_)
  refine hr F C1 ω fr σ _ w1 (f.ext w x1) (p1.bind fun C2 e v2 w2 x2 r2 p2 => ?_)
  split at p2
  · rename_i i j
    cases (show v = .int i from r1)
    cases (show v2 = .int j from r2)
    split at p2
    · rename_i hj
      rw [Bool.and_eq_true] at hj
      obtain ⟨h1, h2⟩ := rngOk_iff hj.1
      obtain ⟨h3, h4⟩ := rngOk_iff hj.2
      exact ⟨i, j, rfl, ⟨h1, h2, h3, h4⟩, p2.now (R := fun C ds J => Wk X.K X.mg F C ds J) w2 wk_range⟩
    · exact p2.elim
  · exact p2.elim
end

/-! ### comprehensions -/
def wipeF (fr : Fr) : List Nat → Fr
  | [] => fr
  | v :: vs => (wipeF fr vs).set v .u
theorem Fw.wipe {K : PySem.W.Frag} {mg : Str → Option Value} {F : Addr → Prop} {C : Cf} {ω : Nat → Addr} {fr : Fr} {σ : St} (f : Fw K mg F C ω fr σ) : ∀ vs, Fw K mg F C ω (wipeF fr vs) (L2.wipe σ vs)
  | [] => f
  | v :: vs => (Fw.wipe f vs).wipe1 v none
theorem wipe_len (σ : St) : ∀ vs, (L2.wipe σ vs).length = σ.length
  | [] => rfl
  | v :: vs => by show ((L2.wipe σ vs).set v none).length = _; rw [List.length_set, wipe_len σ vs]
theorem wipe_in (σ : St) {i : Nat} : ∀ vs : List Nat, i ∈ vs → (L2.wipe σ vs)[i]? = if i < σ.length then some none else none
  | [], h => by cases h
  | v :: vs, h => by
    show ((L2.wipe σ vs).set v none)[i]? = _
    by_cases hv : v = i
    · subst hv
      split
      · rename_i hi; exact List.getElem?_set_self (by rw [wipe_len]; exact hi)
      · rename_i hi; exact List.getElem?_eq_none (by rw [List.length_set, wipe_len]; omega)
    · rw [List.getElem?_set_ne hv]
      exact wipe_in σ vs (by rcases List.mem_cons.mp h with e | e; exact absurd e.symm hv; exact e)
theorem wipe_else {σ σ2 : St} {ws vs : List Nat} (h : Else ws (L2.wipe σ vs) σ2) (hs : ∀ i ∈ ws, i ∈ vs) : L2.wipe σ2 vs = L2.wipe σ vs := by
  have hl : σ2.length = σ.length := by rw [h.1, wipe_len]
  refine List.ext_getElem? fun i => ?_
  by_cases hi : i ∈ vs
  · rw [wipe_in σ2 vs hi, wipe_in σ vs hi, hl]
  · rw [wipe_out hi, h.2 i fun z => hi (hs i z)]
/-- the plainest reading that is worth m -/
def TMg {α β : Type} (K : PySem.W.Frag) (mg : Str → Option Value) (W : WX) (R : (Addr → Prop) → Cf → α → β → Prop) (m : Fr → AH → Out α) : St → Hp → (β → Hp → Prop) → Prop := fun σ H Q =>
  ∃ F C ω fr, C.H = H ∧ Hw K mg F C ∧ Fw K mg F C ω fr σ ∧ Post K mg F C (R F) (fun cls dx H => W cls dx σ H) Q (m fr C.h)
def TGg (K : PySem.W.Frag) (mg : Str → Option Value) (ws : List Nat) (m : MG) : TG := fun v σ H Q =>
  ∃ F C ω fr fr' d, C.H = H ∧ Hw K mg F C ∧ Fw K mg F C ω fr σ ∧ rep K F C d v ∧ m d fr = some fr' ∧ ∀ σ', Fw K mg F C ω fr' σ' → Else ws σ σ' → Q σ' C.H
section
variable {X : Cx} {W : WX}
theorem RE.tm {e : Expr} {m : ME} (h : RE X W e m) : PE X e (TMg X.K X.mg W (fun F C => rep X.K F C) m) := by
  obtain ⟨t, ht, hq⟩ := h.ex
  refine ⟨fun pins s σ H Q I ⟨F, C, ω, fr, e, w, f, p⟩ => ?_⟩
  subst e
  exact ht.run pins s σ _ Q I (hq F C ω fr σ Q w f p)
abbrev RTs (X : Cx) (W : WX) (ifs : List Expr) (m : MT) : Prop := RJ (α := Bool) (β := Bool) (τ := Unit) X W (PTs X ifs) (fun _ _ a b => b = a) m
def tYesM : MT := fun _ h => .ok true h
theorem rts_nil : RTs X W [] tYesM := ⟨_, pts_nil, fun F C ω fr σ Q w f p => p.now w rfl⟩
theorem rts_one {c : Expr} {m : MT} (h : RT X W c m) : RTs X W [c] m := by
  obtain ⟨t, ht, hq⟩ := h.ex
  exact ⟨t, pts_one ht, hq⟩
theorem RTs.tm {es : List Expr} {m : MT} (h : RTs X W es m) : PTs X es (TMg X.K X.mg W (fun _ _ a b => b = a) m) := by
  obtain ⟨t, ht, hq⟩ := h.ex
  refine ⟨fun pins s σ H Q I ⟨F, C, ω, fr, e, w, f, p⟩ => ?_⟩
  subst e
  exact ht.run pins s σ _ Q I (hq F C ω fr σ Q w f p)
theorem RG.tm {e : Expr} {ws : List Nat} {m : MG} (h : RG X e ws m) : PG X e (TGg X.K X.mg ws m) := by
  obtain ⟨g, hg, _, hq⟩ := h.ex
  refine ⟨fun pins s σ H v u Q I r ⟨F, C, ω, fr, fr', d, e, w, f, rv, em, k⟩ => ?_⟩
  subst e
  exact hg.run pins s σ _ v u Q I r (hq F C ω fr fr' σ d v Q w f rv em k)
theorem bind_assoc {α β γ : Type} (x : Out α) (f : α → AH → Out β) (g : β → AH → Out γ) : (x.bind f).bind g = x.bind fun a h => (f a h).bind g := by cases x <;> rfl
/-- within a comprehension nothing is raised -/
def noErr {α : Type} : Out α → Out α
  | .err _ _ => .bad
  | o => o
def lcLoop (g : MG) (t : MT) (me : ME) (fr0 : Fr) : List D → List D → AH → Out (List D)
  | [], acc, h => .ok acc h
  | d :: ds, acc, h => match g d fr0 with
    | none => .bad
    | some fr1 => (noErr (t fr1 h)).bind fun k h1 => if k = true then
        (noErr (me fr1 h1)).bind fun y h2 => if acc.length < sizeLine then lcLoop g t me fr0 ds (acc ++ [y]) h2 else .bad
      else lcLoop g t me fr0 ds acc h1
def fLc (mi : MA) (g : MG) (t : MT) (me : ME) (vs : List Nat) : Fr → AH → Out Cell := fun fr h => (mi fr h).bind fun ds h1 => (lcLoop g t me (wipeF fr vs) ds [] h1).bind fun acc h2 => .ok (.lst acc) h2
theorem noErr_post {K : PySem.W.Frag} {mg : Str → Option Value} {F : Addr → Prop} {C : Cf} {α β : Type} {R : Cf → α → β → Prop} {E E' : Value → Option Addr → Hp → Prop} {Q : β → Hp → Prop} {x : Out α} (h : Post K mg F C R E Q (noErr x)) : Post K mg F C R E' Q x := by
  cases x with
  | ok a h1 => exact h
  | err e h1 => exact h.elim
  | bad => exact h
theorem Post.noE {K : PySem.W.Frag} {mg : Str → Option Value} {F : Addr → Prop} {C : Cf} {α β γ δ : Type} {R : Cf → α → β → Prop} {R' : Cf → γ → δ → Prop} {E E' : Value → Option Addr → Hp → Prop} {Q : δ → Hp → Prop} {Q' : β → Hp → Prop} {x : Out α} {f : α → AH → Out γ} {C0 : Cf} {F0 : Addr → Prop}
    (h : Post K mg F0 C0 R' E Q ((noErr x).bind f)) (hq : ∀ C1 d v, Hw K mg F C1 → Ext C C1 → R C1 d v → Post K mg F0 C0 R' E Q (f d C1.h) → Q' v C1.H) : Post K mg F C R E' Q' x := by
  cases x with
  | ok d h1 => intro C1 v e w x r; subst e; exact hq C1 d v w x r h
  | err e h1 => exact h.elim
  | bad => exact h
theorem Fw.own {K : PySem.W.Frag} {mg : Str → Option Value} {F F1 : Addr → Prop} {C C' : Cf} {ω : Nat → Addr} {fr : Fr} {σ : St} (f : Fw K mg F C ω fr σ) (hF : ∀ a, F a → F1 a) (c : Car K F F1 C C') (k : ∀ a o, F a → C.H a = some o → C'.H a = some o) : Fw K mg F1 C' ω fr σ := by
  refine ⟨f.len, fun i s h => ?_⟩
  have q := f.slots i s h
  cases s with
  | u => trivial
  | v d => obtain ⟨v, q1, q2⟩ := q; exact ⟨v, q1, q2.to c⟩
  | o d =>
    obtain ⟨q1, q2, cl, q3, q4⟩ := q
    exact ⟨q1, hF _ q2, cl, q3, q4.to c fun u z => k _ u q2 z⟩
/-- a foreign thing is changed -/
theorem Hw.forUpd {K : PySem.W.Frag} {mg : Str → Option Value} {F : Addr → Prop} {C : Cf} (w : Hw K mg F C) {p : Addr} {o' : HO} (hp : F p) (h0 : ∃ o0, C.H p = some o0 ∧ plainHO o0) (ho : plainHO o') : Hw K mg F ⟨C.ρ, C.h, upd C.H p o'⟩ ∧ Car K F F C ⟨C.ρ, C.h, upd C.H p o'⟩ := by
  obtain ⟨o0, h0, p0⟩ := h0
  have c1 : Car K F F C ⟨C.ρ, C.h, upd C.H p o'⟩ := updCar h0 p0 (.inl hp)
  refine ⟨⟨fun k x hx => (w.cells k x hx).to c1 fun u q => (upd_ne fun e => w.nF k (List.getElem?_eq_some_iff.mp hx).1 (by rw [e]; exact hp)).trans q, w.inj, w.nF, fun a f => ?_⟩, c1⟩
  by_cases ha : a = p
  · subst ha; exact ⟨o', upd_same, ho.1⟩
  · obtain ⟨u, q, n⟩ := w.fin a f
    exact ⟨u, (upd_ne ha).trans q, n⟩
theorem Ext.newUpd {C C2 : Cf} (x : Ext C C2) {p : Addr} {o' : HO} (hp : C.H p = none) : Ext C ⟨C2.ρ, C2.h, upd C2.H p o'⟩ where
  le := x.le
  ext := x.ext
  keep := fun a u q n => (upd_ne (ne_of_none q hp)).trans (x.keep a u q n)
  new := x.new
  dom := fun a u q => let ⟨u', q'⟩ := x.dom a u q; ⟨u', (upd_ne (ne_of_none q hp)).trans q'⟩
  tups := fun a u q => (upd_ne (ne_of_none q hp)).trans (x.tups a u q)
  frzs := fun a v u q => (upd_ne (ne_of_none q hp)).trans (x.frzs a v u q)
theorem fj_lc {tg iter : Expr} {vs : List Nat} {ws : List Nat} {mi : MA} {g : MG} {t : MT} {me : ME} {P : TE → Prop} (hi : RI X W tg iter mi) (hws : ∀ i ∈ ws, i ∈ vs)
    (hP : ∀ wi, PI X tg iter wi → P (tLc wi (TGg X.K X.mg ws g) (TMg X.K X.mg (fun _ _ _ _ => False) (fun _ _ a b => b = a) t) (TMg X.K X.mg (fun _ _ _ _ => False) (fun F C => rep X.K F C) me) vs)) : FJ X W P (fLc mi g t me vs) := by
  obtain ⟨wi, hwi, hq⟩ := hi.ex
  refine ⟨_, hP wi hwi, fun F C ω fr σ Q w f p => ?_⟩
  refine hq F C ω fr σ _ w f ?_
  unfold fLc at p
  revert p
  cases mi fr C.h with
  | err e h1 => exact fun p => p
  | bad => exact fun p => p
  | ok ds h1 =>
  intro p C1 J eh w1 x1 wk L0 hD
  subst eh
  have hD0 : C.H L0 = none := by
    cases q : C.H L0 with
    | none => rfl
    | some o => obtain ⟨u, q'⟩ := x1.dom L0 o q; rw [hD] at q'; cases q'
  have nFD : ¬ F L0 := fun fd => by obtain ⟨u, q, _⟩ := w.fin L0 fd; rw [hD0] at q; cases q
  refine ⟨fun i m H => ∃ (C2 : Cf) (acc : List D) (av : List V), C2.H = H ∧ m + i = ds.length ∧ Hw X.K X.mg (Fadd F L0) C2 ∧ Fw X.K X.mg (Fadd F L0) C2 ω (wipeF fr vs) (L2.wipe σ vs) ∧ Car X.K F (Fadd F L0) C1 C2 ∧ Ext C C2 ∧
    C2.H L0 = some (.lst av) ∧ reps X.K (Fadd F L0) C2 acc av ∧ Post X.K X.mg F C (freshAt X.K X.mg F C) (fun cls dx H => W cls dx σ H) Q ((lcLoop g t me (wipeF fr vs) (ds.drop i) acc C2.h).bind fun acc h2 => .ok (.lst acc) h2),
    ⟨ds.length, ⟨C1.ρ, C1.h, upd C1.H L0 (.lst [])⟩, [], [], rfl, rfl, w1.laidOwn hD (fun _ z => nomatch z), ?_, carOwn hD, x1.newUpd hD0, upd_same, rfl, p⟩, ?_⟩
  · refine ((f.ext w x1).own (F1 := Fadd F L0) (fun _ z => .inl z) (carOwn hD) fun a o fa q => (upd_ne fun e => nFD (by rw [← e]; exact fa)).trans q).wipe vs
  · rintro i m H ⟨C2, acc, av, rfl, hm, w2, f2, c2, x2, d2, r2, p2⟩
    obtain ⟨k1, k2⟩ := wk _ C2 w2 c2
    cases m with
    | zero =>
      have hi : i = ds.length := by omega
      subst hi
      rw [List.drop_length] at p2
      refine .inl ⟨k2, ?_⟩
      have p3 : Post X.K X.mg F C (freshAt X.K X.mg F C) (fun cls dx H => W cls dx σ H) Q (.ok (.lst acc) C2.h) := p2
      exact p3 C2 _ rfl (w2.less fun a z => .inl z) x2 ⟨L0, rfl, hD0, w2, av, d2, r2⟩
    | succ m =>
      have hi : i < ds.length := by omega
      obtain ⟨g1, g2⟩ := k1 i ds[i] (List.getElem?_eq_getElem hi)
      refine .inr ⟨g1, fun H => ∃ (C2 : Cf) (acc : List D) (av : List V), C2.H = H ∧ m + (i + 1) = ds.length ∧ Hw X.K X.mg (Fadd F L0) C2 ∧ Fw X.K X.mg (Fadd F L0) C2 ω (wipeF fr vs) (L2.wipe σ vs) ∧ Car X.K F (Fadd F L0) C1 C2 ∧ Ext C C2 ∧
        C2.H L0 = some (.lst av) ∧ reps X.K (Fadd F L0) C2 acc av ∧ Post X.K X.mg F C (freshAt X.K X.mg F C) (fun cls dx H => W cls dx σ H) Q ((lcLoop g t me (wipeF fr vs) (ds.drop (i + 1)) acc C2.h).bind fun acc h2 => .ok (.lst acc) h2),
        fun H' q => ⟨m, Nat.lt_succ_self m, q⟩, fun x H' yl => ?_⟩
      obtain ⟨C3, rfl, eh, x3, w3, r3⟩ := g2 x H' yl
      rw [List.drop_eq_getElem_cons hi, ← eh] at p2
      unfold lcLoop at p2
      cases eg : g ds[i] (wipeF fr vs) with
      | none => rw [eg] at p2; exact p2.elim
      | some fr1 =>
        rw [eg] at p2
        have f3 := f2.ext w2 x3
        refine ⟨Fadd F L0, C3, ω, _, fr1, _, rfl, w3, f3, r3, eg, fun σ' f' el => ⟨wipe_else el hws, ?_⟩⟩
        have p3 : Post X.K X.mg F C (freshAt X.K X.mg F C) (fun cls dx H => W cls dx σ H) Q ((noErr (t fr1 C3.h)).bind fun k h1 => (if k = true then
            (noErr (me fr1 h1)).bind fun y h2 => if acc.length < sizeLine then lcLoop g t me (wipeF fr vs) (ds.drop (i + 1)) (acc ++ [y]) h2 else .bad
          else lcLoop g t me (wipeF fr vs) (ds.drop (i + 1)) acc h1).bind fun acc h2 => .ok (.lst acc) h2) := by
          rw [← bind_assoc (noErr (t fr1 C3.h))]
          exact p2
        refine ⟨Fadd F L0, C3, ω, fr1, rfl, w3, f', p3.noE fun C4 k k' w4 x4 ek p4 => ?_⟩
        subst ek
        have d4 : C4.H L0 = some (.lst av) := x4.keep _ _ (x3.keep _ _ d2 fun j hj e => w2.nF j hj (.inr e)) fun j hj e => w3.nF j hj (.inr e)
        have c4 := (c2.trans x3.car).trans x4.car
        have x04 := (x2.trans x3).trans x4
        have r4 := (r2.to x3.car).to x4.car
        have f4 := f3.ext w3 x4
        cases k' with
        | false => exact iteF ⟨C4, acc, av, rfl, by omega, w4, f4, c4, x04, d4, r4, p4⟩
        | true =>
          refine iteT ?_
          have p5 : Post X.K X.mg F C (freshAt X.K X.mg F C) (fun cls dx H => W cls dx σ H) Q ((noErr (me fr1 C4.h)).bind fun y h2 => (if acc.length < sizeLine then lcLoop g t me (wipeF fr vs) (ds.drop (i + 1)) (acc ++ [y]) h2 else .bad).bind fun acc h2 => .ok (.lst acc) h2) := by
            rw [← bind_assoc (noErr (me fr1 C4.h))]
            exact p4
          refine ⟨Fadd F L0, C4, ω, fr1, rfl, w4, f'.ext w3 x4, p5.noE fun C5 y yv w5 x5 ry p6 => ?_⟩
          have d5 : C5.H L0 = some (.lst av) := x5.keep _ _ d4 fun j hj e => w4.nF j hj (.inr e)
          have r5 := r4.to x5.car
          split at p6
          · rename_i hz
            refine ⟨av, d5, by rw [← r5.length]; exact hz, ?_⟩
            obtain ⟨w6, c6⟩ := w5.forUpd (p := L0) (o' := .lst (av ++ [yv])) (.inr rfl) ⟨_, d5, plain_lst⟩ plain_lst
            refine ⟨⟨C5.ρ, C5.h, upd C5.H L0 (.lst (av ++ [yv]))⟩, acc ++ [y], av ++ [yv], rfl, by omega, w6, ?_, (c4.trans x5.car).trans c6, (x04.trans x5).newUpd hD0, upd_same, (r5.app (reps.cons ry reps.nil)).to c6, p6⟩
            have f5 := f4.ext w4 x5
            refine ⟨f5.len, fun j sl hj => ?_⟩
            have q := f5.slots j sl hj
            cases sl with
            | u => trivial
            | v d => obtain ⟨v, q1, q2⟩ := q; exact ⟨v, q1, q2.to c6⟩
            | o d =>
              obtain ⟨q1, q2, cl, q3, q4⟩ := q
              refine ⟨q1, q2, cl, q3, q4.to c6 fun u z => (upd_ne fun e => ?_).trans z⟩
              obtain ⟨_, q5, _⟩ := (f.wipe vs).slots j _ hj
              exact nFD (e ▸ q5)
          · exact p6.elim
theorem rf_lc {elt tg iter : Expr} {ifs : List Expr} {scope : Scope} {own : List (Str × Nat)} {pos : Pos} {ws : List Nat} {mi : MA} {g : MG} {t : MT} {me : ME} (hc : X.calm = true) (hN : X.N.Nodup) (hi : RI X W tg iter mi) (ok : BlkOk X.N X.env.scope scope own)
    (hg : ∀ (s : Shared) (H : Hp) (C : Addr) (cl : List (Str × Addr)) (fp : List Addr), RG (X.blk s H scope (compEnvC scope cl C X.env) fp) tg ws g) (hws : ∀ i ∈ ws, i ∈ own.map (·.2))
    (ht : ∀ (s : Shared) (H : Hp) (C : Addr) (cl : List (Str × Addr)) (fp : List Addr), RTs (X.blk s H scope (compEnvC scope cl C X.env) fp) (fun _ _ _ _ => False) ifs t)
    (he : ∀ (s : Shared) (H : Hp) (C : Addr) (cl : List (Str × Addr)) (fp : List Addr), RE (X.blk s H scope (compEnvC scope cl C X.env) fp) (fun _ _ _ _ => False) elt me) (hs : ∀ x, foldedSetIterable iter X.env x = pure x := by intro _; rfl) :
    RF X W (.ListComp elt [⟨tg, iter, ifs, 0⟩] scope pos) (fLc mi g t me (own.map (·.2))) :=
  fj_lc hi hws fun wi hwi => pe_lc hc hN hwi ok (fun s H C cl fp => (hg s H C cl fp).tm) (fun s H C cl fp => (ht s H C cl fp).tm) (fun s H C cl fp => (he s H C cl fp).tm) hs
/-- y = [..] -/
theorem fj_setLc (i : Nat) {y : Str} {py : Pos} {elt tg iter : Expr} {ifs : List Expr} {scope : Scope} {own : List (Str × Nat)} {pos spos : Pos} {ws : List Nat} {mi : MA} {g : MG} {t : MT} {me : ME} (hc : X.calm = true) (hN : X.N.Nodup) (hsw : swapsWith (.ListComp elt [⟨tg, iter, ifs, 0⟩] scope pos) (some (.Name y py)) spos.line X.env = pure true)
    (hi : RI X W tg iter mi) (ok : BlkOk X.N X.env.scope scope own)
    (hg : ∀ (s : Shared) (H : Hp) (C : Addr) (cl : List (Str × Addr)) (fp : List Addr), RG (X.blk s H scope (compEnvC scope cl C X.env) fp) tg ws g) (hws : ∀ i ∈ ws, i ∈ own.map (·.2))
    (ht : ∀ (s : Shared) (H : Hp) (C : Addr) (cl : List (Str × Addr)) (fp : List Addr), RTs (X.blk s H scope (compEnvC scope cl C X.env) fp) (fun _ _ _ _ => False) ifs t)
    (he : ∀ (s : Shared) (H : Hp) (C : Addr) (cl : List (Str × Addr)) (fp : List Addr), RE (X.blk s H scope (compEnvC scope cl C X.env) fp) (fun _ _ _ _ => False) elt me) (hy : X.N[i]? = some y := by rfl) (hyl : X.env.scope.names.lookup y = some .local := by rfl) (hs : ∀ x, foldedSetIterable iter X.env x = pure x := by intro _; rfl) :
    FJ X W (fun t => PS X (.Assign [.Name y py] (.ListComp elt [⟨tg, iter, ifs, 0⟩] scope pos) spos) (tAsg t (gName i))) (fLc mi g t me (own.map (·.2))) :=
  fj_lc hi hws fun wi hwi => ps_setLc hc hN hy hyl hsw hwi ok (fun s H C cl fp => (hg s H C cl fp).tm) (fun s H C cl fp => (ht s H C cl fp).tm) (fun s H C cl fp => (he s H C cl fp).tm) hs
end
end Sim
set_option Elab.async false
set_option linter.all false
set_option maxRecDepth 100000
set_option maxHeartbeats 4000000
/-! SI: defs and their calls. -/
namespace Sim
open PySem L2

abbrev MF := List D → AH → Out D
/-- the promise of a def that is worth m -/
def spOf (K : PySem.W.Frag) (mg : Str → Option Value) (n : Nat) (m : MF) : Sp := fun vs H Q E =>
  ∃ (F : Addr → Prop) (C : Cf) (ds : List D), C.H = H ∧ ds.length = n ∧ Hw K mg F C ∧ reps K F C ds vs ∧ Post K mg F C (fun C => rep K F C) E Q (m ds C.h)
/-- a def of the text as it stands behind the top -/
structure Def (K : PySem.W.Frag) (mg : Str → Option Value) (x qual : Str) (st : Stmt) (ps : List Str) : Prop where
  ex : ∃ f fd, Fun K x qual st f fd ∧ Binds K fd ps [] ∧ mg x = some (.ref f)
/-- the module's name x is a def that is worth m -/
structure Cal (P : Program) (w : World) (K : PySem.W.Frag) (mg : Str → Option Value) (base : Heap) (k : Nat) (x : Str) (n : Nat) (m : MF) : Prop where
  ex : ∃ f fd ps, List.length ps = n ∧ FnOk P w K mg base (L2.CX P w) k f fd ps (spOf K mg n m) ∧ Binds K fd ps [] ∧ mg x = some (.ref f) ∧ PySem.W.keepIn K (.ref f) = true
def frame0 (n : Nat) (ds : List D) : Fr := ds.map .v ++ List.replicate (n - ds.length) .u
/-- a def's worth, by its body's -/
def fnM (n : Nat) (m : MS) : MF := fun ds h => match m (frame0 n ds) h with
  | .rt d h' => .ok d h'
  | .nx _ h' => .ok .non h'
  | .err e _ h' => .err e h'
  | _ => .bad
section
variable {P : Program} {w : World} {K : PySem.W.Frag} {mg : Str → Option Value} {base : Heap}
theorem frame0_no (n : Nat) (ds : List D) : ∀ (i : Nat) (d : D), (frame0 n ds)[i]? ≠ some (.o d) := by
  intro i d e
  have hm := List.mem_of_getElem? e
  unfold frame0 at hm
  rcases List.mem_append.mp hm with hm | hm
  · obtain ⟨_, _, q⟩ := List.mem_map.mp hm; cases q
  · have := List.eq_of_mem_replicate hm; cases this
theorem frame0_get {F : Addr → Prop} {C : Cf} : ∀ {ds : List D} {vs : List V} {N : List Str} (_ : reps K F C ds vs) (_ : ds.length ≤ N.length) (i : Nat) (s : Slot) (_ : (frame0 N.length ds)[i]? = some s), slotOk K mg F C 0 s (L2.start N vs)[i]? := by
  intro ds vs N r hl i s e
  unfold frame0 at e
  unfold L2.start
  by_cases hi : i < ds.length
  · rw [List.getElem?_append_left (by simpa using hi), List.getElem?_map] at e
    obtain ⟨d, h1, h2⟩ := Option.map_eq_some_iff.mp e
    subst h2
    obtain ⟨v, h3, h4⟩ := r.get h1
    have hi2 : i < (vs.map some).length := by rw [List.length_map, ← r.length]; exact hi
    rw [List.getElem?_append_left hi2, List.getElem?_map, h3]
    exact ⟨v, rfl, h4⟩
  · rw [List.getElem?_append_right (by simpa using hi)] at e
    have := List.eq_of_mem_replicate (List.mem_of_getElem? e)
    subst this
    trivial
theorem Sw.entry {F : Addr → Prop} {C : Cf} {ds : List D} {vs : List V} {N : List Str} (w : Hw K mg F C) (r : reps K F C ds vs) (hl : ds.length ≤ N.length) : Sw K mg ⟨F, C⟩ C (fun _ => 0) (frame0 N.length ds) (L2.start N vs) := by
  have hF : ∀ a, Fof F (fun _ => 0) (frame0 N.length ds) a → F a := by
    rintro a (h | ⟨i, d, e, _⟩)
    · exact h
    · exact absurd e (frame0_no _ _ i d)
  have c : Car K F (Fof F (fun _ => 0) (frame0 N.length ds)) C C := car_less hF
  refine ⟨w.less hF, ⟨?_, fun i s e => ?_⟩, Ext.refl C, fun i d e => absurd e (frame0_no _ _ i d), fun i j d d' e => absurd e (frame0_no _ _ i d)⟩
  · unfold L2.start frame0
    rw [List.length_append, List.length_append, List.length_map, List.length_map, List.length_replicate, List.length_replicate, r.length]
  · have q := frame0_get (mg := mg) r hl i s e
    cases s with
    | u => trivial
    | v d => obtain ⟨v, q1, q2⟩ := q; exact ⟨v, q1, q2.to c⟩
    | o d => exact absurd e (frame0_no _ _ i d)
/-- THE RULE for a def -/
theorem fn_body {x qual : Str} {st : Stmt} {N ps : List Str} {k : Nat} {m : MS} {f : Addr} {fd : FuncData} (F : Fun K x qual st f fd) (S : FnScope N ps (defScope st))
    (hbody : ∀ (f : Addr) (cdv : Value) (A : Around) (outer : List Env) (s : Shared) (H : Hp) (E : XK), Room k (A.deeper (PyProof.Rows.envOfC qual (defScope st) s.heap.objs.size f cdv)) →
      RSs (cxOf (L2.CX P w) P w K mg base N qual (defScope st) f cdv A outer s H E) (fun cls d _ H => E cls d H) (defBody st) m) : FnOk P w K mg base (L2.CX P w) (k + 1) f fd ps (spOf K mg ps.length (fnM N.length m)) := by
  have hN : ps.length ≤ N.length := by rw [← S.pre]; simp; omega
  refine F.okX S (fun vs H Q E h => ?_) (fun cdv A outer s H vs Q E hr h => ?_)
  · obtain ⟨_, _, ds, _, hl, _, r, _⟩ := h
    rw [← r.length, hl]
  · obtain ⟨Fo, C, ds, rfl, hl, hw, r, p⟩ := h
    obtain ⟨t, ht, hq⟩ := (hbody f cdv A outer s C.H E hr).ex
    refine ⟨t, ht, ?_⟩
    refine hq ⟨Fo, C⟩ C (fun _ => 0) (frame0 N.length ds) (L2.start N vs) _ (Sw.entry hw r (by omega)) ?_
    have p' : Post K mg Fo C (fun C => rep K Fo C) E Q (match m (frame0 N.length ds) C.h with
      | .rt d h' => .ok d h'
      | .nx _ h' => .ok .non h'
      | .err e _ h' => .err e h'
      | _ => .bad) := p
    revert p'
    cases m (frame0 N.length ds) C.h with
    | rt d h' => exact fun p C' v e w x r => p C' v e w x r
    | nx fr h' => exact fun p C' ω σ e s c => p C' .non e (s.hw.less fun a z => .inl z) s.ext rfl
    | err e fr h' =>
      refine fun p C' ω σ cls dx q s c r => p C' cls dx q (s.hw.less fun a z => .inl z) s.ext ?_
      obtain ⟨CA, h1, h2, h3⟩ := r
      refine ⟨CA, h1, h2, ?_⟩
      cases hf : e.f with
      | none => rw [hf] at h3; exact h3
      | some nd =>
        rw [hf] at h3
        obtain ⟨y, v, h4, h5, h6⟩ := h3
        exact ⟨y, v, h4, h5, h6.to (car_less fun a z => .inl z)⟩
    | bk _ _ => exact fun p => p.elim
    | ct _ _ => exact fun p => p.elim
    | bad => exact fun p => p.elim
theorem Cal.of {x qual : Str} {st : Stmt} {N ps : List Str} {k : Nat} {m : MS} (d : Def K mg x qual st ps) (S : FnScope N ps (defScope st))
    (hbody : ∀ (f : Addr) (cdv : Value) (A : Around) (outer : List Env) (s : Shared) (H : Hp) (E : XK), Room k (A.deeper (PyProof.Rows.envOfC qual (defScope st) s.heap.objs.size f cdv)) →
      RSs (cxOf (L2.CX P w) P w K mg base N qual (defScope st) f cdv A outer s H E) (fun cls d _ H => E cls d H) (defBody st) m) : Cal P w K mg base (k + 1) x ps.length (fnM N.length m) := by
  obtain ⟨f, fd, F, b, hm⟩ := d.ex
  exact ⟨f, fd, ps, rfl, fn_body F S hbody, b, hm, F.kp⟩
/-- a plainer worth -/
theorem Cal.imp {k : Nat} {x : Str} {n : Nat} {m m' : MF} (c : Cal P w K mg base k x n m) (h : ∀ ds h, ds.length = n → m' ds h = .bad ∨ m ds h = m' ds h) : Cal P w K mg base k x n m' := by
  obtain ⟨f, fd, ps, hl, F, b, hm, hk⟩ := c.ex
  refine ⟨f, fd, ps, hl, F.imp fun vs H Q E q => ?_, b, hm, hk⟩
  obtain ⟨Fo, C, ds, e, hl, hw, r, p⟩ := q
  refine ⟨Fo, C, ds, e, hl, hw, r, ?_⟩
  rcases h ds C.h hl with z | z
  · rw [z] at p; exact p.elim
  · rw [z]; exact p
theorem Cal.mono {j k : Nat} {x : Str} {n : Nat} {m : MF} (c : Cal P w K mg base j x n m) (h : j ≤ k) : Cal P w K mg base k x n m := by
  obtain ⟨f, fd, ps, hl, F, r⟩ := c.ex
  exact ⟨f, fd, ps, hl, F.mono h, r⟩
end

/-! ### calls -/
section
variable {X : Cx} {W : WX} {e : Expr} {es : List Expr} {ms : MA} {m : MF} {pos p : Pos} {x : Str} {k n : Nat}
def eCall (m : MF) (n : Nat) (ms : MA) : ME := fun fr h => (ms fr h).bind fun ds h1 => if ds.length = n then m ds h1 else .bad
theorem re_call (c : Cal X.prog X.w X.K X.mg X.base k x n m) (hr : Room k X.A) (tk : Takes X W) (ha : RA X W (e :: es) ms) (hg : Gl X x := by rfl) (hdb : (x == ("__debug__" : Str)) = false := by decide)
    (he : starEach (e :: es) X.env = (false, eval e X.env) :: starEach es X.env := by rfl) (hpl : (backTo pos (starEach es X.env)).any (·.1) = false := by rfl) : RE X W (.Call (.Name x p) (e :: es) [] pos) (eCall m n ms) := by
  obtain ⟨f, fd, ps, hl, F, b, hm, hk⟩ := c.ex
  obtain ⟨t, ht, hq⟩ := ha.ex
  refine ⟨_, pe_callSD (E := fun σ cls d H => W cls d σ H) F hr hg hm hk b .nil (fun σ => passAt tk σ) ht hdb he hpl, fun Fo C ω fr σ Q w f p => ?_⟩
  refine hq Fo C ω fr σ _ w f (p.bind fun C1 ds vs w1 x1 r1 p1 => ?_)
  split at p1
  · rename_i hn
    refine ⟨Fo, C1, ds, rfl, hn, w1, by rw [List.append_nil]; exact r1, p1⟩
  · exact p1.elim
/-- a module's constant -/
theorem re_glob {d : D} {v : V} {u : Value} (hm : X.mg x = some u) (r : RelV v u) (hd : ∀ F C, rep X.K F C d v) (hg : Gl X x := by rfl) (hdb : (x == ("__debug__" : Str)) = false := by decide) : RE X W (.Name x pos) (eC d) :=
  re_const (pe_glob hg hm r hdb) hd
end
end Sim
set_option Elab.async false
set_option linter.all false
set_option maxRecDepth 100000
set_option maxHeartbeats 4000000
/-! SJ: built-ins on data. -/
namespace Sim
open PySem L2

section
variable {X : Cx} {W : WX} {K : PySem.W.Frag} {mg : Str → Option Value}
theorem repBs.one {F : Addr → Prop} {C : Cf} {d : D} {vs : List V} (h : repBs K mg F C [d] vs) : ∃ v, vs = [v] ∧ repB K mg F C d v := by
  obtain ⟨v, r, rfl, h1, h2⟩ := h
  cases (show r = [] from h2)
  exact ⟨v, rfl, h1⟩
theorem repBs.two {F : Addr → Prop} {C : Cf} {d e : D} {vs : List V} (h : repBs K mg F C [d, e] vs) : ∃ v u, vs = [v, u] ∧ repB K mg F C d v ∧ repB K mg F C e u := by
  obtain ⟨v, r, rfl, h1, h2⟩ := h
  obtain ⟨u, rfl, h3⟩ := repBs.one h2
  exact ⟨v, u, rfl, h1, h3⟩

/-- len -/
def lenD : FN := fun h ds => match ds with
  | [d] => match deref h d with
    | .str y => if y.length ≤ sizeLine then some (.int y.length) else none
    | .tup xs => some (.int xs.length)
    | .lst xs => some (.int xs.length)
    | .fro xs => some (.int xs.length)
    | .dic ks _ => some (.int ks.length)
    | _ => none
  | _ => none
def rLen (K : PySem.W.Frag) : List V → Hp → VK → Prop := fun xs H Q => (∃ x n, xs = [x] ∧ LenV K x H n ∧ Q (.int n) H) ∨ ∃ d kvs, xs = [.ref d] ∧ H d = some (.dK kvs) ∧ Q (.int kvs.length) H
theorem call_lenAll : CallR X (.builtin "len") (rLen X.K) := by
  intro pins s σ H xs us Q I r h
  rcases h with h | ⟨d, kvs, rfl, e, q⟩
  · exact call_len pins s σ H xs us Q I r h
  · obtain ⟨u, rfl, ru⟩ := vals1 r
    cases ru
    exact d_len I (.inl e) fun t s' I' => ⟨.int kvs.length, H, I', ⟨_, rfl⟩, q⟩
theorem vc_len : VC K mg (rLen K) lenD := by
  intro F C ds vs Q d w r e q
  unfold lenD at e
  split at e
  · obtain ⟨v, rfl, r1⟩ := r.one
    split at e <;> rename_i e1
    · split at e
      · rename_i hz
        cases e
        exact .inl ⟨v, _, rfl, by rw [seen_str w r1 e1]; exact ⟨hz, rfl⟩, q C _ rfl w (Ext.refl C) rfl⟩
      · cases e
    · cases e
      obtain ⟨a, us, rfl, h1, h2⟩ := seen_tup w r1 e1
      exact .inl ⟨_, us.length, rfl, .inr ⟨us, h1, rfl⟩, q C _ rfl w (Ext.refl C) (by rw [h2.length]; rfl)⟩
    · cases e
      obtain ⟨a, us, rfl, h1, h2⟩ := seen_lst w r1 e1
      exact .inl ⟨_, us.length, rfl, .inl ⟨us, .of h1, rfl⟩, q C _ rfl w (Ext.refl C) (by rw [h2.length]; rfl)⟩
    · cases e
      obtain ⟨a, us, rfl, h1, h2⟩ := seen_fro w r1 e1
      exact .inl ⟨_, us.length, rfl, .inl ⟨us, h1, rfl⟩, q C _ rfl w (Ext.refl C) (by rw [h2.length]; rfl)⟩
    · cases e
      obtain ⟨a, us, rfl, h1, l, h2⟩ := seen_dic w r1 e1
      exact .inr ⟨a, _, rfl, h1, q C _ rfl w (Ext.refl C) (by rw [List.length_zip, ← l, Nat.min_self]; rfl)⟩
    · cases e
  · cases e
/-- int of an int or a truth -/
def intD : FN := fun h ds => match ds with
  | [.int i] => some (.int i)
  | [.bl k] => some (.int (if k then 1 else 0))
  | _ => none
theorem repB.int {F : Addr → Prop} {C : Cf} {i : Int} {v : V} (h : repB K mg F C (.int i) v) : v = .int i := by
  rcases h with h | ⟨_, _, _, _, h, _⟩
  · exact h
  · cases h
theorem repB.bl {F : Addr → Prop} {C : Cf} {i : Bool} {v : V} (h : repB K mg F C (.bl i) v) : v = .bl i := by
  rcases h with h | ⟨_, _, _, _, h, _⟩
  · exact h
  · cases h
theorem repB.str {F : Addr → Prop} {C : Cf} {i : Str} {v : V} (h : repB K mg F C (.str i) v) : v = .str i := by
  rcases h with h | ⟨_, _, _, _, h, _⟩
  · exact h
  · cases h
theorem vc_int : VC K mg (fun xs H Q => (∃ i, xs = [.int i] ∧ Q (.int i) H) ∨ ∃ k, xs = [.bl k] ∧ Q (.int (if k then 1 else 0)) H) intD := by
  intro F C ds vs Q d w r e q
  unfold intD at e
  split at e
  · cases e
    obtain ⟨v, rfl, r1⟩ := r.one
    exact .inl ⟨_, by rw [r1.int], q C _ rfl w (Ext.refl C) rfl⟩
  · cases e
    obtain ⟨v, rfl, r1⟩ := r.one
    exact .inr ⟨_, by rw [r1.bl], q C _ rfl w (Ext.refl C) rfl⟩
  · cases e
/-- max(a, b), min(a, b), abs -/
def max2D : FN := fun h ds => match ds with
  | [.int i, .int j] => some (.int (if j > i then j else i))
  | _ => none
def min2D : FN := fun h ds => match ds with
  | [.int i, .int j] => some (.int (if j < i then j else i))
  | _ => none
def absD : FN := fun h ds => match ds with
  | [.int i] => some (.int (if i < 0 then -i else i))
  | _ => none
theorem vc_max2 : VC K mg (fun xs H Q => ∃ i j, xs = [.int i, .int j] ∧ Q (.int (if j > i then j else i)) H) max2D := by
  intro F C ds vs Q d w r e q
  unfold max2D at e
  split at e
  · cases e
    obtain ⟨v, u, rfl, r1, r2⟩ := r.two
    exact ⟨_, _, by rw [r1.int, r2.int], q C _ rfl w (Ext.refl C) rfl⟩
  · cases e
theorem vc_min2 : VC K mg (fun xs H Q => ∃ i j, xs = [.int i, .int j] ∧ Q (.int (if j < i then j else i)) H) min2D := by
  intro F C ds vs Q d w r e q
  unfold min2D at e
  split at e
  · cases e
    obtain ⟨v, u, rfl, r1, r2⟩ := r.two
    exact ⟨_, _, by rw [r1.int, r2.int], q C _ rfl w (Ext.refl C) rfl⟩
  · cases e
theorem vc_abs : VC K mg (fun xs H Q => ∃ i, xs = [.int i] ∧ Q (.int (if i < 0 then -i else i)) H) absD := by
  intro F C ds vs Q d w r e q
  unfold absD at e
  split at e
  · cases e
    obtain ⟨v, rfl, r1⟩ := r.one
    exact ⟨_, by rw [r1.int], q C _ rfl w (Ext.refl C) rfl⟩
  · cases e
/-- tuple(a list or tuple) -/
def tupleD : FN := fun h ds => match ds with
  | [d] => match deref h d with
    | .lst xs => some (.tup xs)
    | .fro xs => some (.tup xs)
    | .tup xs => some (.tup xs)
    | _ => none
  | _ => none
theorem vc_tuple : VC K mg (fun xs H Q => ∃ p ys, xs = [.ref p] ∧ ((SqL K H p ys ∧ ∀ l, H l = none → Q (.ref l) (upd H l (.tup ys))) ∨ (SqT K H p ys ∧ Q (.ref p) H))) tupleD := by
  intro F C ds vs Q d w r e q
  unfold tupleD at e
  split at e
  · obtain ⟨v, rfl, r1⟩ := r.one
    split at e <;> rename_i e1
    · cases e
      obtain ⟨a, us, rfl, h1, h2⟩ := seen_lst w r1 e1
      exact ⟨a, us, rfl, .inl ⟨.of h1, fun l hl => q ⟨C.ρ, C.h, _⟩ _ rfl (w.laid hl) (Ext.laid hl) (rep.tupNew w hl h2)⟩⟩
    · cases e
      obtain ⟨a, us, rfl, h1, h2⟩ := seen_fro w r1 e1
      exact ⟨a, us, rfl, .inl ⟨h1, fun l hl => q ⟨C.ρ, C.h, _⟩ _ rfl (w.laid hl) (Ext.laid hl) (rep.tupNew w hl h2)⟩⟩
    · cases e
      obtain ⟨a, us, rfl, h1, h2⟩ := seen_tup w r1 e1
      exact ⟨a, us, rfl, .inr ⟨h1, q C _ rfl w (Ext.refl C) ⟨a, us, rfl, h1, h2⟩⟩⟩
    · cases e
  · cases e
/-- list(a list or tuple): a fresh one -/
def listD : AH → List D → Option Cell := fun h ds => match ds with
  | [d] => (itemsOf (deref h d)).map .lst
  | _ => none
def fFn (f : AH → List D → Option Cell) (ms : MA) : Fr → AH → Out Cell := fun fr h => (ms fr h).bind fun ds h1 => .ofOpt (f h1 ds) h1
theorem rf_list {e : Expr} {ms : MA} {p pos : Pos} (hm : X.mg "list" = none) (hs : RAB X W [e] ms) (hg : Gl X "list" := by rfl)
    (he : starEach [e] X.env = (false, eval e X.env) :: starEach [] X.env := by rfl) (hpl : (backTo pos (starEach [] X.env)).any (·.1) = false := by rfl) : RF X W (.Call (.Name "list" p) [e] [] pos) (fFn listD ms) := by
  obtain ⟨t, ht, hq⟩ := hs.ex
  refine ⟨_, pe_callTy call_list_of hg hm (by decide +kernel) ht (by decide) (by decide) he hpl, fun F C ω fr σ Q w f p => ?_⟩
  refine hq F C ω fr σ _ w f ?_
  unfold fFn at p
  revert p
  cases ms fr C.h with
  | err e h1 => exact fun p => p
  | bad => exact fun p => p
  | ok ds h1 =>
    intro p C1 vs eh w1 x1 r1
    subst eh
    have p' : Post X.K X.mg F C (freshAt X.K X.mg F C) (fun cls dx H => W cls dx σ H) Q (.ofOpt (listD C1.h ds) C1.h) := p
    unfold listD at p'
    split at p'
    · rename_i d
      obtain ⟨v, rfl, r2⟩ := r1.one
      cases e1 : deref C1.h d with
      | lst xs =>
        rw [e1] at p'
        obtain ⟨a, us, rfl, h1, h2⟩ := seen_lst w1 r2 e1
        exact ⟨a, us, rfl, .inl (.of h1), fun l hl => p' ⟨C1.ρ, C1.h, _⟩ _ rfl (w1.laid hl) (x1.trans (Ext.laid hl)) (fresh_lst w1 x1 hl h2)⟩
      | fro xs =>
        rw [e1] at p'
        obtain ⟨a, us, rfl, h1, h2⟩ := seen_fro w1 r2 e1
        exact ⟨a, us, rfl, .inl h1, fun l hl => p' ⟨C1.ρ, C1.h, _⟩ _ rfl (w1.laid hl) (x1.trans (Ext.laid hl)) (fresh_lst w1 x1 hl h2)⟩
      | tup xs =>
        rw [e1] at p'
        obtain ⟨a, us, rfl, h1, h2⟩ := seen_tup w1 r2 e1
        exact ⟨a, us, rfl, .inr h1, fun l hl => p' ⟨C1.ρ, C1.h, _⟩ _ rfl (w1.laid hl) (x1.trans (Ext.laid hl)) (fresh_lst w1 x1 hl h2)⟩
      | _ => rw [e1] at p'; exact p'.elim
    · exact p'.elim
/-- all of a list of truths -/
def blD : D → Option Bool
  | .bl b => some b
  | _ => none
def allD : FN := fun h ds => match ds with
  | [d] => match deref h d with
    | .lst xs => if (xs.all fun x => (blD x).isSome) then some (.bl (xs.all fun x => (blD x).getD false)) else none
    | _ => none
  | _ => none
def anyD : FN := fun h ds => match ds with
  | [d] => match deref h d with
    | .lst xs => if (xs.all fun x => (blD x).isSome) then some (.bl (xs.any fun x => (blD x).getD false)) else none
    | _ => none
  | _ => none
theorem reps.bls {F : Addr → Prop} {C : Cf} : ∀ {ds : List D} {vs : List V}, reps K F C ds vs → (ds.all fun x => (blD x).isSome) = true → vs = (ds.map fun x => (blD x).getD false).map V.bl
  | [], vs, h, _ => h
  | d :: ds, vs, h, c => by
    obtain ⟨v, r, rfl, h1, h2⟩ := h
    rw [List.all_cons, Bool.and_eq_true] at c
    have e1 : v = .bl ((blD d).getD false) := by
      cases d with
      | bl b => exact h1
      | _ => exact nomatch c.1
    rw [List.map_cons, List.map_cons, ← e1, ← reps.bls h2 c.2]
theorem vc_all : VC K mg (rAll K) allD := by
  intro F C ds vs Q d w r e q
  unfold allD at e
  split at e
  · obtain ⟨v, rfl, r1⟩ := r.one
    split at e <;> rename_i e1
    · split at e
      · rename_i hz
        cases e
        obtain ⟨a, us, rfl, h1, h2⟩ := seen_lst w r1 e1
        refine ⟨a, _, rfl, .of (by rw [h1, h2.bls hz]), ?_⟩
        rw [List.all_map]
        exact q C _ rfl w (Ext.refl C) rfl
      · cases e
    · cases e
  · cases e
theorem vc_any : VC K mg (rAny K) anyD := by
  intro F C ds vs Q d w r e q
  unfold anyD at e
  split at e
  · obtain ⟨v, rfl, r1⟩ := r.one
    split at e <;> rename_i e1
    · split at e
      · rename_i hz
        cases e
        obtain ⟨a, us, rfl, h1, h2⟩ := seen_lst w r1 e1
        refine ⟨a, _, rfl, .of (by rw [h1, h2.bls hz]), ?_⟩
        rw [List.any_map]
        exact q C _ rfl w (Ext.refl C) rfl
      · cases e
    · cases e
  · cases e

/-! ### isinstance -/
def tyOfD : D → String
  | .non => "NoneType"
  | .bl _ => "bool"
  | .int _ => "int"
  | .str _ => "str"
  | .tup _ => "tuple"
  | .lst _ => "list"
  | .fro _ => "list"
  | .dic _ _ => "dict"
  | .ref _ => ""
def knownTy : D → Bool
  | .ref _ => false
  | _ => true
def isaS (T a : String) : Bool := a == T || (T == "int" && a == "bool")
/-- T is one of the types whose answers are known -/
def TyKnown (T : String) : Prop := ∀ d, knownTy d = true → kitB (tyOfD d) T = some (isaS T (tyOfD d))
def tyNames : List String := ["NoneType", "bool", "int", "str", "tuple", "list", "dict"]
theorem tyOfD_mem : ∀ d, knownTy d = true → tyOfD d ∈ tyNames
  | .non, _ => by decide
  | .bl _, _ => show "bool" ∈ tyNames by decide
  | .int _, _ => show "int" ∈ tyNames by decide
  | .str _, _ => show "str" ∈ tyNames by decide
  | .tup _, _ => show "tuple" ∈ tyNames by decide
  | .lst _, _ => show "list" ∈ tyNames by decide
  | .fro _, _ => show "list" ∈ tyNames by decide
  | .dic _ _, _ => show "dict" ∈ tyNames by decide
  | .ref _, h => nomatch h
theorem tk_of {T : String} (h : (tyNames.all fun a => kitB a T == some (isaS T a)) = true) : TyKnown T := fun d hk => eq_of_beq (List.all_eq_true.mp h _ (tyOfD_mem d hk))
theorem tk_int : TyKnown "int" := tk_of (by decide +kernel)
theorem tk_bool : TyKnown "bool" := tk_of (by decide +kernel)
theorem tk_str : TyKnown "str" := tk_of (by decide +kernel)
theorem tk_tuple : TyKnown "tuple" := tk_of (by decide +kernel)
theorem tk_list : TyKnown "list" := tk_of (by decide +kernel)
theorem tyx_of {F : Addr → Prop} {C : Cf} {d : D} {v : V} (w : Hw K mg F C) (r : repB K mg F C d v) (hk : knownTy (deref C.h d) = true) : TyX K C.H v (.type (tyOfD (deref C.h d))) := by
  have q := r.seen w
  revert hk q
  cases deref C.h d with
  | non => intro _ q; cases (show v = .non from q); exact .base .non
  | bl b => intro _ q; cases (show v = .bl b from q); exact .base (.bl b)
  | int i => intro _ q; cases (show v = .int i from q); exact .base (.int i)
  | str y => intro _ q; cases (show v = .str y from q); exact .base (.str y)
  | tup ds =>
    rintro _ ⟨a, vs, rfl, h, _⟩
    rcases h with (h | ⟨o, h⟩) | ⟨o, its, n, h1, h2, _⟩
    · exact .base (.tup h)
    · exact .fTuple h
    · exact .kTuple h1 h2
  | lst ds => rintro _ ⟨a, vs, rfl, h, _⟩; exact .base (.lst h)
  | fro ds =>
    rintro _ ⟨a, vs, rfl, h, _⟩
    rcases h with (h | ⟨o, h⟩) | ⟨o, its, n, h1, h2, _⟩
    · exact .base (.lst h)
    · exact .base (.frz h)
    · exact .kList h1 h2
  | dic ks ds => rintro _ ⟨a, vs, rfl, h, _⟩; exact .base (.dK h)
  | ref n => intro hk; exact nomatch hk
def isiM (T : String) (me : ME) : ME := fun fr h => (me fr h).bind fun d h1 => if knownTy (deref h1 d) then .ok (.bl (isaS T (tyOfD (deref h1 d)))) h1 else .bad
theorem re_isi {e : Expr} {me : ME} {T : String} {p pos tp : Pos} (hT : TyKnown T) (hm : X.mg "isinstance" = none) (hmT : X.mg (Str.ofString T) = none) (hb : bootBuiltins (Str.ofString T) = some (.type T)) (h : RB X W e me) (hg : Gl X "isinstance" := by rfl) (hgT : Gl X (Str.ofString T) := by rfl)
    (hn : (Str.ofString T) ≠ "__name__" := by decide +kernel) (hd : ((Str.ofString T) == ("__debug__" : Str)) = false := by decide +kernel)
    (he : starEach (e :: [.Name (Str.ofString T) tp]) X.env = (false, eval e X.env) :: starEach [.Name (Str.ofString T) tp] X.env := by rfl) (he2 : starEach (.Name (Str.ofString T) tp :: []) X.env = (false, eval (.Name (Str.ofString T) tp) X.env) :: starEach [] X.env := by rfl)
    (hpl : (backTo pos (starEach [.Name (Str.ofString T) tp] X.env)).any (·.1) = false := by rfl) : RE X W (.Call (.Name "isinstance" p) [e, .Name (Str.ofString T) tp] [] pos) (isiM T me) := by
  obtain ⟨t, ht, hq⟩ := h.ex
  refine ⟨_, pe_callB call_isi hg hm (by decide +kernel) (pa_cons ht (pa_cons (pe_bltn (v := .ty T) hgT hmT hb rfl hn hd) pa_nil he2) he) (by decide) (by decide) he hpl, fun F C ω fr σ Q w f p => ?_⟩
  refine hq F C ω fr σ _ w f (p.bind fun C1 d v w1 x1 r1 p1 => ?_)
  split at p1
  · rename_i hk
    exact ⟨v, .ty T, _, _, _, rfl, .ty T, tyx_of w1 r1 hk, kit_ty (hT _ hk), p1.now w1 rfl⟩
  · exact p1.elim
/-! ### texts joined -/
def strD : D → Option Str
  | .str x => some x
  | _ => none
def joinOk (a : Str) (ys : List Str) : Bool := decide ((ys.map (·.length)).sum + ys.length * a.length ≤ 16777216)
def joinD (h : AH) (x : Str) (b : D) : Option D := match itemsOf (deref h b) with
  | some xs => if (xs.all fun y => (strD y).isSome) && joinOk x (xs.map fun y => (strD y).getD ⟨#[]⟩) then some (.str (Txt.join x (xs.map fun y => (strD y).getD ⟨#[]⟩))) else none
  | none => none
theorem reps.strs {F : Addr → Prop} {C : Cf} : ∀ {ds : List D} {vs : List V}, reps K F C ds vs → (ds.all fun x => (strD x).isSome) = true → vs = (ds.map fun x => (strD x).getD ⟨#[]⟩).map V.str
  | [], vs, h, _ => h
  | d :: ds, vs, h, c => by
    obtain ⟨v, r, rfl, h1, h2⟩ := h
    rw [List.all_cons, Bool.and_eq_true] at c
    have e1 : v = .str ((strD d).getD ⟨#[]⟩) := by
      cases d with
      | str b => exact h1
      | _ => exact nomatch c.1
    rw [List.map_cons, List.map_cons, ← e1, ← reps.strs h2 c.2]
def eJoin (ma mb : ME) : ME := fun fr h => (ma fr h).bind fun a h1 => match a with
  | .str x => (mb fr h1).bind fun b h2 => .ofOpt (joinD h2 x b) h2
  | _ => .bad
theorem re_join {o e : Expr} {mo me : ME} {apos pos : Pos} (ho : RE X W o mo) (he : RB X W e me) (hs : starEach [e] X.env = [(false, eval e X.env)] := by rfl) (hbase : attributeBase o "join" X.env (eval o X.env) = eval o X.env := by rfl) (hline : (apos.endLine == pos.line) = true := by rfl) :
    RE X W (.Call (.Attribute o "join" apos) [e] [] pos) (eJoin mo me) := by
  obtain ⟨t, ht, hq⟩ := ho.ex
  obtain ⟨u, hu, hr⟩ := he.ex
  refine ⟨_, pe_join ht hu hs hbase hline, fun F C ω fr σ Q w f p => ?_⟩
  refine hq F C ω fr σ _ w f (p.bind fun C1 a v w1 x1 r1 p1 => ?_)
  cases a with
  | str x =>
    cases (show v = .str x from r1)
    refine ⟨⟨x, rfl⟩, ?_⟩
    refine hr F C1 ω fr σ _ w1 (f.ext w x1) (p1.bind fun C2 b v2 w2 x2 r2 p2 => ?_)
    have fin : ∀ (xs : List D) (c : Addr) (us : List V), itemsOf (deref C2.h b) = some xs → v2 = .ref c → (SqL X.K C2.H c us ∨ SqT X.K C2.H c us) → reps X.K F C2 xs us → ∃ (a : Str) (p : Addr) (ys : List Str), V.str x = .str a ∧ [v2] = [.ref p] ∧ (SqL X.K C2.H p (ys.map V.str) ∨ SqT X.K C2.H p (ys.map V.str)) ∧
        (ys.map (·.length)).sum + ys.length * a.length ≤ 16777216 ∧ Q (.str (Txt.join a ys)) C2.H := by
      intro xs c us ei ev hs hr
      unfold joinD at p2
      rw [ei] at p2
      simp only at p2
      split at p2
      · rename_i hc
        rw [Bool.and_eq_true] at hc
        refine ⟨x, c, _, rfl, by rw [ev], ?_, of_decide_eq_true hc.2, p2.now w2 rfl⟩
        rw [← hr.strs hc.1]
        exact hs
      · exact p2.elim
    cases e1 : deref C2.h b with
    | lst xs => obtain ⟨c, us, ev, h1, h2⟩ := seen_lst w2 r2 e1; exact fin xs c us (by rw [e1]; rfl) ev (.inl (.of h1)) h2
    | fro xs => obtain ⟨c, us, ev, h1, h2⟩ := seen_fro w2 r2 e1; exact fin xs c us (by rw [e1]; rfl) ev (.inl h1) h2
    | tup xs => obtain ⟨c, us, ev, h1, h2⟩ := seen_tup w2 r2 e1; exact fin xs c us (by rw [e1]; rfl) ev (.inr h1) h2
    | _ => unfold joinD at p2; rw [e1] at p2; exact p2.elim
  | _ => exact p1.elim
end
end Sim
set_option Elab.async false
set_option linter.all false
set_option maxRecDepth 100000
set_option maxHeartbeats 4000000
/-! SK: the top's facts, the end of a law. -/
namespace Sim
open PySem L2

section
variable {X : Cx} {W : WX} {x : Str} {pos : Pos}
theorem re_gstr {s : Str} (hm : ∃ t, X.mg x = some (.str s t)) (hg : Gl X x := by rfl) (hdb : (x == ("__debug__" : Str)) = false := by decide) : RE X W (.Name x pos) (eC (.str s)) := by
  obtain ⟨t, hm⟩ := hm
  exact re_glob (d := .str s) (v := .str s) hm ⟨t, rfl⟩ (fun _ _ => rfl) hg hdb
theorem re_gint {i : Int} (hm : ∃ t, X.mg x = some (.int i t)) (hg : Gl X x := by rfl) (hdb : (x == ("__debug__" : Str)) = false := by decide) : RE X W (.Name x pos) (eC (.int i)) := by
  obtain ⟨t, hm⟩ := hm
  exact re_glob (d := .int i) (v := .int i) hm ⟨t, rfl⟩ (fun _ _ => rfl) hg hdb
end
theorem b_len : bootBuiltins "len" = some (.builtin "len") := by decide +kernel
theorem b_max : bootBuiltins "max" = some (.builtin "max") := by decide +kernel
theorem b_min : bootBuiltins "min" = some (.builtin "min") := by decide +kernel
theorem b_abs : bootBuiltins "abs" = some (.builtin "abs") := by decide +kernel
theorem b_all : bootBuiltins "all" = some (.builtin "all") := by decide +kernel
theorem b_any : bootBuiltins "any" = some (.builtin "any") := by decide +kernel
theorem b_int : bootBuiltins "int" = some (.type "int") := by decide +kernel
theorem b_bool : bootBuiltins "bool" = some (.type "bool") := by decide +kernel
theorem b_str : bootBuiltins "str" = some (.type "str") := by decide +kernel
theorem b_tuple : bootBuiltins "tuple" = some (.type "tuple") := by decide +kernel
theorem b_list : bootBuiltins "list" = some (.type "list") := by decide +kernel

section
variable {K : PySem.W.Frag} {mg : Str → Option Value} {h : Heap}
theorem mkDef {x qual : Str} {st : Stmt} {ps : List Str} {f : Addr} {oc : Value} {od an : Option Addr} {osl : Array (Option Value)} {kV doc pm cdv ct : Value} (X : K.In h) (G : h.Ns mainGlobals mg)
    (hb : ∀ (kV doc pm : Value) (an : Option Addr) (cdv ct : Value) (us : List Value), us.length = ps.length → bindArgs (PySem.W.fnOf x qual (defArgs st) (defBody st) (defScope st) .none kV doc pm an cdv ct) ⟨us, []⟩ = pure (ps.zip us))
    (a : PySem.W.nsIn K mainGlobals x = some (some (.ref f)))
    (l : K.lookup f = some ⟨oc, od, .func (PySem.W.fnOf x qual (defArgs st) (defBody st) (defScope st) .none kV doc pm an cdv ct), osl⟩) (c : PySem.W.codeIn K cdv qual = true) (k : PySem.W.keepIn K (.ref f) = true) : Def K mg x qual st ps := by
  have F := fun_mk (st := st) l c k
  exact ⟨f, _, F, F.binds hb, PySem.W.mg_of X G a⟩
end
/-- the promise of a law: True at every script -/
def spLaw (K : PySem.W.Frag) : Sp := fun vs H Q _ => ∃ (a : Addr) (ns : List Int), vs = [.ref a] ∧ Only H ∧ SqL K H a (ns.map V.int) ∧ ns.length ≤ 63 ∧ ∀ H', Q (.bl true) H'
theorem spLaw_imp {K : PySem.W.Frag} {mg : Str → Option Value} {m : MF} (hm : ∀ ns : List Int, ns.length ≤ 63 → ∃ h, m [.fro (ns.map .int)] [] = .ok (.bl true) h) (vs : List V) (H : Hp) (Q : VK) (E : XK) (h : spLaw K vs H Q E) : spOf K mg 1 m vs H Q E := by
  obtain ⟨a, ns, rfl, hO, hS, hl, q⟩ := h
  refine ⟨fun _ => False, ⟨fun _ => 0, [], H⟩, [.fro (ns.map .int)], rfl, rfl, ⟨fun i c e => by simp at e, fun i j hi => by have hi' : i < 0 := hi; omega, fun i hi => by have hi' : i < 0 := hi; omega, fun a f => f.elim⟩, ?_, ?_⟩
  · refine reps.cons ⟨a, ns.map V.int, rfl, ?_, ?_⟩ reps.nil
    · rcases hS with (h | ⟨o, h⟩) | h
      · rcases hO a with e | ⟨o, xs, e⟩
        · rw [e] at h; cases h
        · rw [e] at h; cases h
      · exact .inl ⟨o, h⟩
      · exact .inr h
    · exact reps.map (f := D.int) (g := V.int) (fun _ => rfl) ns
  · obtain ⟨h', e⟩ := hm ns hl
    show Post K mg _ _ _ E Q (m [.fro (ns.map .int)] [])
    rw [e]
    intro C' v _ _ _ r
    cases (show v = .bl true from r)
    exact q _
theorem walkLaw {l : PySem.W.OpenLaw} {k : Nat} {q : Program} {loose : List Str} {XP : (Str → Option Value) → Heap → Prop} {YP : World → Heap → Prop} {d : DefRec} {K : Params → PySem.W.Frag} {x : Str} (hn : l.most = some 63) (hdf : d.params.defaults = []) (hr : Room k callerA)
    (hY : ∀ (w : World) (h : Heap), YP w h → (K w.params).In h)
    (F : ∀ (w : World) (mg : Str → Option Value) (fa : Addr) (h : Heap), (K w.params).In h → h.Ns mainGlobals mg → mg d.name = some (.ref fa) →
      ∃ fd : FuncData, (∀ (s : Shared) (u : Value), BindsTo s fd ⟨[u], []⟩ [(x, u)]) ∧ ∀ base : Heap, (K w.params).In base → base.Ns mainGlobals mg → FnOk l.prog w (K w.params) mg base (L2.CX l.prog w) k fa fd [x] (spLaw (K w.params))) :
    PySem.W.WalkO q loose XP YP l.row.toRowW d [] (fun f vs => PySem.call f vs) :=
  L2.walk_of (n := 63) (k := k) (x := x) (CX := fun w => L2.CX l.prog w) (sp := fun w => spLaw (K w.params)) hn (by decide) hdf hr hY F (fun _ H a ns hl hO hS => ⟨a, ns, rfl, hO, hS, hl, fun _ => rfl⟩) fun w H s e s' z => by
    obtain ⟨_, _, _, _, _, _, _, _, _, _, _, _, z⟩ := z
    exact z.elim
/-- the law's own def -/
theorem law_fn {P : Program} {w : World} {K : PySem.W.Frag} {mg : Str → Option Value} {base : Heap} {k : Nat} {qual x : Str} {st : Stmt} {N : List Str} {m : MS} {f : Addr} {fd : FuncData} (F : Fun K "law" qual st f fd) (S : FnScope N [x] (defScope st))
    (hbody : ∀ (f : Addr) (cdv : Value) (A : Around) (outer : List Env) (s : Shared) (H : Hp) (E : XK), Room k (A.deeper (PyProof.Rows.envOfC qual (defScope st) s.heap.objs.size f cdv)) →
      RSs (cxOf (L2.CX P w) P w K mg base N qual (defScope st) f cdv A outer s H E) (fun cls d _ H => E cls d H) (defBody st) m)
    (hm : ∀ ns : List Int, ns.length ≤ 63 → ∃ h, fnM N.length m [.fro (ns.map .int)] [] = .ok (.bl true) h) : FnOk P w K mg base (L2.CX P w) (k + 1) f fd [x] (spLaw K) := by
  refine FnOk.imp (sp := spOf K mg 1 (fnM N.length m)) ?_ fun vs H Q E h => spLaw_imp hm vs H Q E h
  exact fn_body F S hbody
end Sim
set_option Elab.async false
set_option linter.all false
set_option maxRecDepth 100000
set_option maxHeartbeats 4000000
/-! SL: how a worth is reckoned (rewriting rules of the combinators). -/
namespace Sim
open PySem L2
section
variable (fr : Fr) (h : AH)
@[simp] theorem ev_fnM (n : Nat) (m : MS) (ds : List D) : fnM n m ds h = match m (frame0 n ds) h with
  | .rt d h' => .ok d h'
  | .nx _ h' => .ok .non h'
  | .err e _ h' => .err e h'
  | _ => .bad := rfl
@[simp] theorem ev_sRet (m : ME) : sRet m fr h = sOf (m fr h) fr fun d h1 => .rt d h1 := rfl
@[simp] theorem ev_sRetN : sRetN fr h = .rt .non h := rfl
@[simp] theorem ev_sNext : sNext fr h = .nx fr h := rfl
@[simp] theorem ev_sBreak : sBreak fr h = .bk fr h := rfl
@[simp] theorem ev_sCont : sCont fr h = .ct fr h := rfl
@[simp] theorem ev_sSeq (a b : MS) : sSeq a b fr h = match a fr h with
  | .nx fr1 h1 => b fr1 h1
  | o => o := rfl
@[simp] theorem ev_sIf (t : MT) (a b : MS) : sIf t a b fr h = sOf (t fr h) fr fun k h1 => if k = true then a fr h1 else b fr h1 := rfl
@[simp] theorem ev_sExpr (m : ME) : sExpr m fr h = sOf (m fr h) fr fun _ h1 => .nx fr h1 := rfl
@[simp] theorem ev_sAsg (m : ME) (g : MG) : sAsg m g fr h = sOf (m fr h) fr fun d h1 => match g d fr with
  | some fr' => .nx fr' h1
  | none => .bad := rfl
@[simp] theorem ev_gNm (i : Nat) (d : D) : gNm i d fr = some (fr.set i (.v d)) := rfl
@[simp] theorem ev_sPar (i j : Nat) (m : MA) : sPar i j m fr h = sOf (m fr h) fr fun ds h1 => match ds with
  | [x, y] => .nx ((fr.set i (.v x)).set j (.v y)) h1
  | _ => .bad := rfl
@[simp] theorem ev_sAugI (i : Nat) (f : Int → Int → Int) (m : ME) : sAugI i f m fr h = match fr[i]? with
  | some (.v (.int a)) => sOf (m fr h) fr fun d h1 => match d with
    | .int c => .nx (fr.set i (.v (.int (f a c)))) h1
    | _ => .bad
  | _ => .bad := rfl
@[simp] theorem ev_sFreeze (i : Nat) (m : MS) : sFreeze i m fr h = match fr[i]? with
  | some (.o d) => m (fr.set i (.v d)) h
  | _ => m fr h := rfl
@[simp] theorem ev_sOwn (i : Nat) (m : Fr → AH → Out Cell) : sOwn i m fr h = sOf (m fr h) fr fun c h1 => match valC c with
  | some d => .nx (fr.set i (.o d)) h1
  | none => .bad := rfl
@[simp] theorem ev_sAppO (k : Nat) (m : ME) : sAppO k m fr h = match fr[k]? with
  | some (.o (.lst ds)) => sOf (m fr h) fr fun d h1 => if ds.length < sizeLine then .nx (fr.set k (.o (.lst (ds ++ [d])))) h1 else .bad
  | _ => .bad := rfl
@[simp] theorem ev_sExtO (k : Nat) (m : ME) : sExtO k m fr h = match fr[k]? with
  | some (.o (.lst ds)) => sOf (m fr h) fr fun d h1 => match d with
    | .lst es => if ds.length + es.length ≤ sizeLine then .nx (fr.set k (.o (.lst (ds ++ es)))) h1 else .bad
    | _ => .bad
  | _ => .bad := rfl
@[simp] theorem ev_sSetO (k : Nat) (mi m : ME) : sSetO k mi m fr h = match fr[k]? with
  | some (.o (.lst ds)) => sOf (m fr h) fr fun d h1 => sOf (mi fr h1) fr fun j h2 => match j with
    | .int j => match ixN ds.length j with
      | some j => .nx (fr.set k (.o (.lst (ds.set j d)))) h2
      | none => .bad
    | _ => .bad
  | _ => .bad := rfl
@[simp] theorem ev_sSetC (mo mi me : ME) : sSetC mo mi me fr h = sOf (me fr h) fr fun d h1 => sOf (mo fr h1) fr fun x h2 => sOf (mi fr h2) fr fun j h3 => match x, j with
  | .ref n, .int j => match h3[n]? with
    | some (.lst ds) => match ixN ds.length j with
      | some j => .nx fr (h3.set n (.lst (ds.set j d)))
      | none => .bad
    | _ => .bad
  | _, _ => .bad := rfl
@[simp] theorem ev_sFor (mi : MA) (g : MG) (b : MS) : sFor mi g b fr h = sOf (mi fr h) fr fun ds h1 => forM g b ds fr h1 := rfl
@[simp] theorem ev_forM_nil (g : MG) (b : MS) : forM g b [] fr h = .nx fr h := rfl
theorem ev_forM_cons (g : MG) (b : MS) (d : D) (ds : List D) : forM g b (d :: ds) fr h = match g d fr with
    | none => .bad
    | some fr1 => match b fr1 h with
      | .nx fr2 h2 => forM g b ds fr2 h2
      | .ct fr2 h2 => forM g b ds fr2 h2
      | .bk fr2 h2 => .nx fr2 h2
      | o => o := rfl
@[simp] theorem ev_eVar (i : Nat) : eVar i fr h = match fr[i]? with
  | some (.v d) => .ok d h
  | _ => .bad := rfl
@[simp] theorem ev_eOwn (i : Nat) : eOwn i fr h = match fr[i]? with
  | some (.v d) => .ok d h
  | some (.o d) => .ok d h
  | _ => .bad := rfl
@[simp] theorem ev_eC (d : D) : eC d fr h = .ok d h := rfl
@[simp] theorem ev_e2 (f : F2) (a b : ME) : e2 f a b fr h = (a fr h).bind fun x h1 => (b fr h1).bind fun y h2 => .ofOpt (f h2 x y) h2 := rfl
@[simp] theorem ev_t2 (f : F2) (a b : ME) : t2 f a b fr h = (e2 f a b fr h).bind fun d h1 => match d with
  | .bl b => .ok b h1
  | _ => .bad := rfl
@[simp] theorem ev_tOfE (m : ME) : tOfE m fr h = (m fr h).bind fun d h1 => match d with
  | .bl b => .ok b h1
  | _ => .bad := rfl
@[simp] theorem ev_eChain (f g : F2) (a b c : ME) : eChain f g a b c fr h = (a fr h).bind fun x h1 => (b fr h1).bind fun y h2 => (Out.ofOpt (f h2 x y) h2).bind fun z h3 => match z with
  | .bl true => (c fr h3).bind fun u h4 => .ofOpt (g h4 y u) h4
  | .bl false => .ok (.bl false) h3
  | _ => .bad := rfl
@[simp] theorem ev_eCall (m : MF) (n : Nat) (a : MA) : eCall m n a fr h = (a fr h).bind fun ds h1 => if ds.length = n then m ds h1 else .bad := rfl
@[simp] theorem ev_eFn (f : FN) (a : MA) : eFn f a fr h = (a fr h).bind fun ds h1 => .ofOpt (f h1 ds) h1 := rfl
@[simp] theorem ev_fFn (f : AH → List D → Option Cell) (a : MA) : fFn f a fr h = (a fr h).bind fun ds h1 => .ofOpt (f h1 ds) h1 := rfl
@[simp] theorem ev_eF (m : Fr → AH → Out Cell) : eF m fr h = (m fr h).bind fun c h1 => .ofOpt (valC c) h1 := rfl
@[simp] theorem ev_eCell (m : Fr → AH → Out Cell) : eCell m fr h = (m fr h).bind fun c h1 => .ok (.ref h1.length) (h1 ++ [c]) := rfl
@[simp] theorem ev_valC_lst (xs : List D) : valC (.lst xs) = some (.lst xs) := rfl
@[simp] theorem ev_valC_dic (ks : List Key) (xs : List D) : valC (.dic ks xs) = some (.dic ks xs) := rfl
@[simp] theorem ev_fLst (a : MA) : fLst a fr h = (a fr h).bind fun ds h1 => if ds.length ≤ sizeLine then .ok (.lst ds) h1 else .bad := rfl
@[simp] theorem ev_fDic0 : fDic0 fr h = .ok (.dic [] []) h := rfl
@[simp] theorem ev_aNil : aNil fr h = .ok [] h := rfl
@[simp] theorem ev_aCons (m : ME) (ms : MA) : aCons m ms fr h = (m fr h).bind fun d h1 => (ms fr h1).bind fun ds h2 => .ok (d :: ds) h2 := rfl
@[simp] theorem ev_eTup (a : MA) : eTup a fr h = (a fr h).bind fun ds h1 => if ds.length ≤ sizeLine then .ok (.tup ds) h1 else .bad := rfl
@[simp] theorem ev_eIf (t : MT) (a b : ME) : eIf t a b fr h = (t fr h).bind fun k h1 => if k = true then a fr h1 else b fr h1 := rfl
@[simp] theorem ev_eAndM (a b : ME) : eAndM a b fr h = (a fr h).bind fun x h1 => (Out.ofOpt (truD h1 x) h1).bind fun k h2 => if k = true then b fr h2 else .ok x h2 := rfl
@[simp] theorem ev_eOrM (a b : ME) : eOrM a b fr h = (a fr h).bind fun x h1 => (Out.ofOpt (truD h1 x) h1).bind fun k h2 => if k = true then .ok x h2 else b fr h2 := rfl
@[simp] theorem ev_eNotM (a : ME) : eNotM a fr h = (a fr h).bind fun x h1 => (Out.ofOpt (truD h1 x) h1).bind fun k h2 => .ok (.bl (!k)) h2 := rfl
@[simp] theorem ev_negM (a : ME) : negM a fr h = (a fr h).bind fun x h1 => match x with
  | .int i => .ok (.int (-i)) h1
  | _ => .bad := rfl
@[simp] theorem ev_tTru (m : ME) : tTru m fr h = (m fr h).bind fun d h1 => .ofOpt (truD h1 d) h1 := rfl
@[simp] theorem ev_tAndM (t u : MT) : tAndM t u fr h = (t fr h).bind fun k h1 => if k = true then u fr h1 else .ok false h1 := rfl
@[simp] theorem ev_tOrM (t u : MT) : tOrM t u fr h = (t fr h).bind fun k h1 => if k = true then .ok true h1 else u fr h1 := rfl
@[simp] theorem ev_tNotM (t : MT) : tNotM t fr h = (t fr h).bind fun k h1 => .ok (!k) h1 := rfl
@[simp] theorem ev_tYesM : tYesM fr h = .ok true h := rfl
@[simp] theorem ev_isiM (T : String) (m : ME) : isiM T m fr h = (m fr h).bind fun d h1 => if knownTy (deref h1 d) then .ok (.bl (isaS T (tyOfD (deref h1 d)))) h1 else .bad := rfl
@[simp] theorem ev_eSlice (a : ME) (l u : MO) : eSlice a l u fr h = (a fr h).bind fun x h1 => (l fr h1).bind fun lo h2 => (u fr h2).bind fun hi h3 => .ofOpt (sliceD h3 x lo hi) h3 := rfl
@[simp] theorem ev_oNone : oNone fr h = .ok none h := rfl
@[simp] theorem ev_oSome (m : ME) : oSome m fr h = (m fr h).bind fun d h1 => match d with
  | .int i => .ok (some i) h1
  | _ => .bad := rfl
@[simp] theorem ev_iOf (m : ME) : iOf m fr h = (m fr h).bind fun d h1 => .ofOpt (goD d) h1 := rfl
@[simp] theorem ev_iRange1 (m : ME) : iRange1 m fr h = (m fr h).bind fun d h1 => match d with
  | .int j => if rngOk j then .ok (rangeD 0 j.toNat) h1 else .bad
  | _ => .bad := rfl
@[simp] theorem ev_fLc (mi : MA) (g : MG) (t : MT) (me : ME) (vs : List Nat) : fLc mi g t me vs fr h = (mi fr h).bind fun ds h1 => (lcLoop g t me (wipeF fr vs) ds [] h1).bind fun acc h2 => .ok (.lst acc) h2 := rfl
@[simp] theorem ev_eJoin (a b : ME) : eJoin a b fr h = (a fr h).bind fun x h1 => match x with
  | .str x => (b fr h1).bind fun b h2 => .ofOpt (joinD h2 x b) h2
  | _ => .bad := rfl
@[simp] theorem ev_wipe1 (i : Nat) : wipeF fr [i] = fr.set i .u := rfl
@[simp] theorem ev_deref_non : deref h .non = .non := rfl
@[simp] theorem ev_deref_bl (b : Bool) : deref h (.bl b) = .bl b := rfl
@[simp] theorem ev_deref_int (i : Int) : deref h (.int i) = .int i := rfl
@[simp] theorem ev_deref_str (s : Str) : deref h (.str s) = .str s := rfl
@[simp] theorem ev_deref_tup (ds : List D) : deref h (.tup ds) = .tup ds := rfl
@[simp] theorem ev_deref_lst (ds : List D) : deref h (.lst ds) = .lst ds := rfl
@[simp] theorem ev_deref_fro (ds : List D) : deref h (.fro ds) = .fro ds := rfl
@[simp] theorem ev_deref_dic (ks : List Key) (ds : List D) : deref h (.dic ks ds) = .dic ks ds := rfl

@[simp] theorem ev_truD_bl (b : Bool) : truD h (.bl b) = some b := rfl
@[simp] theorem ev_truD_non : truD h .non = some false := rfl
@[simp] theorem ev_truD_int (i : Int) : truD h (.int i) = some (i != 0) := rfl
@[simp] theorem ev_truD_tup (ds : List D) : truD h (.tup ds) = some (!ds.isEmpty) := rfl
@[simp] theorem ev_truD_lst (ds : List D) : truD h (.lst ds) = some (!ds.isEmpty) := rfl
@[simp] theorem ev_addD (i j : Int) : addD h (.int i) (.int j) = some (.int (i + j)) := rfl
@[simp] theorem ev_subD (i j : Int) : subD h (.int i) (.int j) = some (.int (i - j)) := rfl
@[simp] theorem ev_ltD (i j : Int) : ltD h (.int i) (.int j) = some (.bl (decide (i < j))) := rfl
@[simp] theorem ev_leD (i j : Int) : leD h (.int i) (.int j) = some (.bl (decide (i ≤ j))) := rfl
@[simp] theorem ev_gtD (i j : Int) : gtD h (.int i) (.int j) = some (.bl (decide (j < i))) := rfl
@[simp] theorem ev_geD (i j : Int) : geD h (.int i) (.int j) = some (.bl (decide (j ≤ i))) := rfl
@[simp] theorem ev_eqD_int (i j : Int) : eqD h (.int i) (.int j) = some (.bl (i == j)) := rfl
@[simp] theorem ev_eqD_str (i j : Str) : eqD h (.str i) (.str j) = some (.bl (i == j)) := rfl
@[simp] theorem ev_eqD_bl (i j : Bool) : eqD h (.bl i) (.bl j) = some (.bl (i == j)) := rfl
@[simp] theorem ev_neD_bl (i j : Bool) : neD h (.bl i) (.bl j) = some (.bl (!(i == j))) := rfl
@[simp] theorem ev_neD_int (i j : Int) : neD h (.int i) (.int j) = some (.bl (!(i == j))) := rfl
@[simp] theorem ev_modD (i j : Int) : modD h (.int i) (.int j) = if 0 < j then some (.int (i % j)) else none := rfl
@[simp] theorem ev_divD (i j : Int) : divD h (.int i) (.int j) = if CDivW i j then some (.int (i / j)) else none := rfl
@[simp] theorem ev_mulD (i j : Int) : mulD h (.int i) (.int j) = if CMul i j ∨ CMulW i j then some (.int (i * j)) else none := rfl
@[simp] theorem ev_powD (i j : Int) : powD h (.int i) (.int j) = if CPow i j then some (.int (i ^ j.toNat)) else none := rfl
@[simp] theorem ev_isND (neg : Bool) (a : D) : isND neg h a .non = some (.bl (if neg then !isNoneD a else isNoneD a)) := rfl
@[simp] theorem ev_isNone_non : isNoneD .non = true := rfl
@[simp] theorem ev_isNone_int (i : Int) : isNoneD (.int i) = false := rfl
@[simp] theorem ev_isNone_str (i : Str) : isNoneD (.str i) = false := rfl
@[simp] theorem ev_isNone_bl (i : Bool) : isNoneD (.bl i) = false := rfl
@[simp] theorem ev_isNone_tup (i : List D) : isNoneD (.tup i) = false := rfl
@[simp] theorem ev_isNone_lst (i : List D) : isNoneD (.lst i) = false := rfl
@[simp] theorem ev_isNone_dic (k : List Key) (i : List D) : isNoneD (.dic k i) = false := rfl
@[simp] theorem ev_len_tup (ds : List D) : lenD h [.tup ds] = some (.int ds.length) := rfl
@[simp] theorem ev_len_lst (ds : List D) : lenD h [.lst ds] = some (.int ds.length) := rfl
@[simp] theorem ev_len_fro (ds : List D) : lenD h [.fro ds] = some (.int ds.length) := rfl
@[simp] theorem ev_len_str (s : Str) : lenD h [.str s] = if s.length ≤ sizeLine then some (.int s.length) else none := rfl
@[simp] theorem ev_int_bl (b : Bool) : intD h [.bl b] = some (.int (if b then 1 else 0)) := rfl
@[simp] theorem ev_int_int (b : Int) : intD h [.int b] = some (.int b) := rfl
@[simp] theorem ev_max2 (i j : Int) : max2D h [.int i, .int j] = some (.int (if j > i then j else i)) := rfl
@[simp] theorem ev_min2 (i j : Int) : min2D h [.int i, .int j] = some (.int (if j < i then j else i)) := rfl
@[simp] theorem ev_goD_lst (ds : List D) : goD (.lst ds) = some ds := rfl
@[simp] theorem ev_goD_tup (ds : List D) : goD (.tup ds) = some ds := rfl
@[simp] theorem ev_goD_fro (ds : List D) : goD (.fro ds) = some ds := rfl
end
/-- the tests of the frames are by places -/
@[simp] theorem ev_frame0 (n : Nat) (ds : List D) : frame0 n ds = ds.map .v ++ List.replicate (n - ds.length) .u := rfl
section
variable {h : AH}
theorem ev_deref_ref {n : Nat} {ds : List D} (e : h[n]? = some (.lst ds)) : deref h (.ref n) = .lst ds := by simp [deref, e]
theorem ev_ix_ref {n : Nat} {ds : List D} (e : h[n]? = some (.lst ds)) (i : Int) : ixD h (.ref n) (.int i) = atI ds i := by simp [ixD, ev_deref_ref e]
@[simp] theorem ev_ix_lst (ds : List D) (i : Int) : ixD h (.lst ds) (.int i) = atI ds i := rfl
@[simp] theorem ev_ix_tup (ds : List D) (i : Int) : ixD h (.tup ds) (.int i) = atI ds i := rfl
@[simp] theorem ev_ix_fro (ds : List D) (i : Int) : ixD h (.fro ds) (.int i) = atI ds i := rfl
theorem ev_ix_str (z : Str) (i : Int) : ixD h (.str z) (.int i) = if z.length ≤ sizeLine then (atI z.cps.toList i).map fun c => .str ⟨#[c]⟩ else none := rfl
theorem get_set_eq {n : Nat} {c c0 : Cell} (e : h[n]? = some c0) : (h.set n c)[n]? = some c := List.getElem?_set_self (List.getElem?_eq_some_iff.mp e).1
end
/-- a comprehension whose element changes nothing -/
theorem lc_pure {g : MG} {t : MT} {me : ME} {fr0 : Fr} (f : D → D) : ∀ (ds acc : List D) (h : AH), (∀ d ∈ ds, ∃ fr1, g d fr0 = some fr1 ∧ t fr1 h = .ok true h ∧ me fr1 h = .ok (f d) h) → acc.length + ds.length ≤ sizeLine → lcLoop g t me fr0 ds acc h = .ok (acc ++ ds.map f) h
  | [], acc, h, _, _ => by simp [lcLoop]
  | d :: ds, acc, h, H, hl => by
    obtain ⟨fr1, e1, e2, e3⟩ := H d (List.mem_cons_self ..)
    rw [List.length_cons] at hl
    have hz : acc.length < sizeLine := by omega
    simp only [lcLoop, e1, e2, e3, noErr, bind_ok, if_true, if_pos hz]
    rw [lc_pure f ds (acc ++ [f d]) h (fun x hx => H x (List.mem_cons_of_mem _ hx)) (by rw [List.length_append, List.length_singleton]; omega)]
    simp
/-- .. with a test -/
theorem lc_filter {g : MG} {t : MT} {me : ME} {fr0 : Fr} (p : D → Bool) (f : D → D) : ∀ (ds acc : List D) (h : AH), (∀ d ∈ ds, ∃ fr1, g d fr0 = some fr1 ∧ t fr1 h = .ok (p d) h ∧ (p d = true → me fr1 h = .ok (f d) h)) → acc.length + ds.length ≤ sizeLine → lcLoop g t me fr0 ds acc h = .ok (acc ++ (ds.filter p).map f) h
  | [], acc, h, _, _ => by simp [lcLoop]
  | d :: ds, acc, h, H, hl => by
    obtain ⟨fr1, e1, e2, e3⟩ := H d (List.mem_cons_self ..)
    rw [List.length_cons] at hl
    have hz : acc.length < sizeLine := by omega
    cases hp : p d with
    | true =>
      rw [hp] at e2
      simp only [lcLoop, e1, e2, e3 hp, noErr, bind_ok, if_true, if_pos hz]
      rw [lc_filter p f ds (acc ++ [f d]) h (fun x hx => H x (List.mem_cons_of_mem _ hx)) (by rw [List.length_append, List.length_singleton]; omega)]
      simp [hp]
    | false =>
      rw [hp] at e2
      simp only [lcLoop, e1, e2, noErr, bind_ok, Bool.false_eq_true, if_false]
      rw [lc_filter p f ds acc h (fun x hx => H x (List.mem_cons_of_mem _ hx)) (by omega)]
      simp [hp]
/-- a comprehension whose element draws -/
theorem lc_draw {g : MG} {t : MT} {me : ME} {fr0 : Fr} (I : Nat → AH → Prop) (P : D → Prop) : ∀ (ds acc : List D) (h : AH) (k : Nat), I k h → (∀ i d h, ds[i]? = some d → I (k + i) h → ∃ fr1 v h1, g d fr0 = some fr1 ∧ t fr1 h = .ok true h ∧ me fr1 h = .ok v h1 ∧ P v ∧ I (k + i + 1) h1) → acc.length + ds.length ≤ sizeLine →
    ∃ vs h1, lcLoop g t me fr0 ds acc h = .ok (acc ++ vs) h1 ∧ vs.length = ds.length ∧ (∀ v ∈ vs, P v) ∧ I (k + ds.length) h1
  | [], acc, h, k, i, _, _ => ⟨[], h, by simp [lcLoop], rfl, by simp, i⟩
  | d :: ds, acc, h, k, i, H, hl => by
    obtain ⟨fr1, v, h1, e1, e2, e3, pv, i1⟩ := H 0 d h rfl i
    rw [List.length_cons] at hl
    have hz : acc.length < sizeLine := by omega
    obtain ⟨vs, h2, e4, hv, pvs, i2⟩ := lc_draw I P ds (acc ++ [v]) h1 (k + 1) i1 (fun j x h hj ij => by
      have e : k + 1 + j = k + (j + 1) := by omega
      rw [e] at ij ⊢
      exact H (j + 1) x h (by simpa using hj) ij) (by rw [List.length_append, List.length_singleton]; omega)
    refine ⟨v :: vs, h2, ?_, by rw [List.length_cons, hv, List.length_cons], fun x hx => ?_, by rw [List.length_cons, Nat.add_comm ds.length 1, ← Nat.add_assoc]; exact i2⟩
    · simp only [lcLoop, e1, e2, e3, noErr, bind_ok, if_true, if_pos hz]
      rw [e4]; simp
    · rcases List.mem_cons.mp hx with e | e
      · rw [e]; exact pv
      · exact pvs x e
/-- a for by what holds between two turns -/
theorem forM_inv {g : MG} {b : MS} (I : Nat → Fr → AH → Prop) : ∀ (ds : List D) (j : Nat) (fr : Fr) (h : AH), I j fr h → (∀ i d fr h, ds[i]? = some d → I (j + i) fr h → ∃ fr1 fr2 h2, g d fr = some fr1 ∧ b fr1 h = .nx fr2 h2 ∧ I (j + i + 1) fr2 h2) →
    ∃ fr' h', forM g b ds fr h = .nx fr' h' ∧ I (j + ds.length) fr' h'
  | [], j, fr, h, i, _ => ⟨fr, h, rfl, i⟩
  | d :: ds, j, fr, h, i, H => by
    obtain ⟨fr1, fr2, h2, e1, e2, i2⟩ := H 0 d fr h rfl i
    obtain ⟨fr3, h3, e3, i3⟩ := forM_inv I ds (j + 1) fr2 h2 i2 fun k x fr h hk ik => by
      have e : j + 1 + k = j + (k + 1) := by omega
      rw [e] at ik ⊢
      exact H (k + 1) x fr h (by simpa using hk) ik
    refine ⟨fr3, h3, ?_, by rw [List.length_cons]; have e : j + (ds.length + 1) = j + 1 + ds.length := by omega
                            rw [e]; exact i3⟩
    rw [ev_forM_cons, e1]
    simp only [e2]
    exact e3
theorem atI_mem {xs : List D} {v : Int} (h0 : 0 ≤ v) (h1 : v < xs.length) : ∃ d, d ∈ xs ∧ atI xs v = some d := by
  have hlt : v.toNat < xs.length := by omega
  have e : ((v.toNat : Nat) : Int) = v := Int.toNat_of_nonneg h0
  refine ⟨xs[v.toNat], List.getElem_mem _, ?_⟩
  have := atI_nat (xs := xs) (j := v.toNat) (v := xs[v.toNat]) (List.getElem?_eq_getElem hlt)
  rw [e] at this; exact this
theorem glued_cps (sep : Str) (ys : List Str) : Txt.join sep ys = Str.join sep ys := PySem.StrLaws.glued_eq_join _ _
/-- texts of one sign each, joined -/
theorem join_signs : ∀ ys : List Str, (Str.join (Str.ofString "") ys).cps.toList = ys.flatMap fun y => y.cps.toList
  | [] => rfl
  | [x] => by simp [Str.join]
  | x :: y :: r => by
    have e : Str.join (Str.ofString "") (x :: y :: r) = x ++ Str.ofString "" ++ Str.join (Str.ofString "") (y :: r) := rfl
    have e0 : (Str.ofString "").cps = #[] := by decide +kernel
    have ea : ∀ a b : Str, (a ++ b).cps = a.cps ++ b.cps := fun _ _ => rfl
    rw [e, ea, ea, e0, Array.append_empty, Array.toList_append, join_signs (y :: r)]
    rfl
theorem sizeL : sizeLine = 16777216 := sizeLine_eq
end Sim
set_option Elab.async false
set_option linter.all false
set_option maxRecDepth 100000
set_option maxHeartbeats 4000000
/-! SM: more rewriting rules. -/
namespace Sim
open PySem L2
@[simp] theorem isa_int_NoneType : isaS "int" "NoneType" = false := by decide +kernel
@[simp] theorem isa_int_bool : isaS "int" "bool" = true := by decide +kernel
@[simp] theorem isa_int_int : isaS "int" "int" = true := by decide +kernel
@[simp] theorem isa_int_str : isaS "int" "str" = false := by decide +kernel
@[simp] theorem isa_int_tuple : isaS "int" "tuple" = false := by decide +kernel
@[simp] theorem isa_int_list : isaS "int" "list" = false := by decide +kernel
@[simp] theorem isa_int_dict : isaS "int" "dict" = false := by decide +kernel
@[simp] theorem isa_bool_NoneType : isaS "bool" "NoneType" = false := by decide +kernel
@[simp] theorem isa_bool_bool : isaS "bool" "bool" = true := by decide +kernel
@[simp] theorem isa_bool_int : isaS "bool" "int" = false := by decide +kernel
@[simp] theorem isa_bool_str : isaS "bool" "str" = false := by decide +kernel
@[simp] theorem isa_bool_tuple : isaS "bool" "tuple" = false := by decide +kernel
@[simp] theorem isa_bool_list : isaS "bool" "list" = false := by decide +kernel
@[simp] theorem isa_bool_dict : isaS "bool" "dict" = false := by decide +kernel
@[simp] theorem isa_str_NoneType : isaS "str" "NoneType" = false := by decide +kernel
@[simp] theorem isa_str_bool : isaS "str" "bool" = false := by decide +kernel
@[simp] theorem isa_str_int : isaS "str" "int" = false := by decide +kernel
@[simp] theorem isa_str_str : isaS "str" "str" = true := by decide +kernel
@[simp] theorem isa_str_tuple : isaS "str" "tuple" = false := by decide +kernel
@[simp] theorem isa_str_list : isaS "str" "list" = false := by decide +kernel
@[simp] theorem isa_str_dict : isaS "str" "dict" = false := by decide +kernel
@[simp] theorem isa_tuple_NoneType : isaS "tuple" "NoneType" = false := by decide +kernel
@[simp] theorem isa_tuple_bool : isaS "tuple" "bool" = false := by decide +kernel
@[simp] theorem isa_tuple_int : isaS "tuple" "int" = false := by decide +kernel
@[simp] theorem isa_tuple_str : isaS "tuple" "str" = false := by decide +kernel
@[simp] theorem isa_tuple_tuple : isaS "tuple" "tuple" = true := by decide +kernel
@[simp] theorem isa_tuple_list : isaS "tuple" "list" = false := by decide +kernel
@[simp] theorem isa_tuple_dict : isaS "tuple" "dict" = false := by decide +kernel
@[simp] theorem isa_list_NoneType : isaS "list" "NoneType" = false := by decide +kernel
@[simp] theorem isa_list_bool : isaS "list" "bool" = false := by decide +kernel
@[simp] theorem isa_list_int : isaS "list" "int" = false := by decide +kernel
@[simp] theorem isa_list_str : isaS "list" "str" = false := by decide +kernel
@[simp] theorem isa_list_tuple : isaS "list" "tuple" = false := by decide +kernel
@[simp] theorem isa_list_list : isaS "list" "list" = true := by decide +kernel
@[simp] theorem isa_list_dict : isaS "list" "dict" = false := by decide +kernel
@[simp] theorem tyOf_non  : tyOfD (.non ) = "NoneType" := rfl
@[simp] theorem known_non  : knownTy (.non ) = true := rfl
@[simp] theorem tyOf_bl (b : Bool) : tyOfD (.bl b) = "bool" := rfl
@[simp] theorem known_bl (b : Bool) : knownTy (.bl b) = true := rfl
@[simp] theorem tyOf_int (b : Int) : tyOfD (.int b) = "int" := rfl
@[simp] theorem known_int (b : Int) : knownTy (.int b) = true := rfl
@[simp] theorem tyOf_str (b : Str) : tyOfD (.str b) = "str" := rfl
@[simp] theorem known_str (b : Str) : knownTy (.str b) = true := rfl
@[simp] theorem tyOf_tup (b : List D) : tyOfD (.tup b) = "tuple" := rfl
@[simp] theorem known_tup (b : List D) : knownTy (.tup b) = true := rfl
@[simp] theorem tyOf_lst (b : List D) : tyOfD (.lst b) = "list" := rfl
@[simp] theorem known_lst (b : List D) : knownTy (.lst b) = true := rfl
@[simp] theorem tyOf_fro (b : List D) : tyOfD (.fro b) = "list" := rfl
@[simp] theorem known_fro (b : List D) : knownTy (.fro b) = true := rfl
@[simp] theorem tyOf_dic (k : List Key) (b : List D) : tyOfD (.dic k b) = "dict" := rfl
@[simp] theorem known_dic (k : List Key) (b : List D) : knownTy (.dic k b) = true := rfl
@[simp] theorem ev_addS (h : AH) (a b : Str) : addD h (.str a) (.str b) = if a.length + b.length ≤ sizeLine then some (.str (a ++ b)) else none := rfl
@[simp] theorem ev_addL (h : AH) (a b : List D) : addD h (.lst a) (.lst b) = if a.length + b.length ≤ sizeLine then some (.lst (a ++ b)) else none := rfl
@[simp] theorem ev_addT (h : AH) (a b : List D) : addD h (.tup a) (.tup b) = if a.length + b.length ≤ sizeLine then some (.tup (a ++ b)) else none := rfl
@[simp] theorem ev_addB (h : AH) (k : Bool) (j : Int) : addD h (.bl k) (.int j) = some (.int ((if k = true then 1 else 0) + j)) := rfl
@[simp] theorem ev_slS (h : AH) (z : Str) (lo hi : Option Int) : sliceD h (.str z) lo hi = if z.length ≤ sizeLine then some (.str (cutS z lo hi)) else none := rfl
@[simp] theorem ev_slL (h : AH) (z : List D) (lo hi : Option Int) : sliceD h (.lst z) lo hi = some (.lst (cutD z lo hi)) := rfl
@[simp] theorem ev_slT (h : AH) (z : List D) (lo hi : Option Int) : sliceD h (.tup z) lo hi = some (.tup (cutD z lo hi)) := rfl
@[simp] theorem ev_isNone_ref (i : Nat) : isNoneD (.ref i) = false := rfl
@[simp] theorem ev_isNone_fro (i : List D) : isNoneD (.fro i) = false := rfl
theorem len_app (a b : Str) : (a ++ b).length = a.length + b.length := by
  show (a.cps ++ b.cps).size = a.cps.size + b.cps.size
  exact Array.size_append
@[simp] theorem ev_tuple_lst (h : AH) (xs : List D) : tupleD h [.lst xs] = some (.tup xs) := rfl
@[simp] theorem ev_tuple_tup (h : AH) (xs : List D) : tupleD h [.tup xs] = some (.tup xs) := rfl
@[simp] theorem ev_list_tup (h : AH) (xs : List D) : listD h [.tup xs] = some (.lst xs) := rfl
@[simp] theorem ev_list_lst (h : AH) (xs : List D) : listD h [.lst xs] = some (.lst xs) := rfl
theorem ev_all (h : AH) (xs : List D) : allD h [.lst xs] = if (xs.all fun x => (blD x).isSome) then some (.bl (xs.all fun x => (blD x).getD false)) else none := rfl
/-- a thing against a text -/
theorem eq_str (h : AH) (d : D) (s : Str) (hd : match d with | .ref _ => False | _ => True) : eqD h d (.str s) = some (.bl (match d with | .str z => z == s | _ => false)) := by
  cases d <;> first | rfl | exact hd.elim | skip
theorem range_nat {a : ME} {m : Nat} {fr : Fr} {h h1 : AH} (e : a fr h = .ok (.int m) h1) (rg : rngOk (m : Int) = true) : iRange1 a fr h = .ok (rangeD 0 m) h1 := by
  rw [ev_iRange1, e, bind_ok]
  show (if rngOk (m : Int) then Out.ok (rangeD 0 (m : Int).toNat) h1 else .bad) = _
  rw [if_pos rg]; rfl
theorem rng_small {m : Nat} (h : m ≤ 1000000) : rngOk (m : Int) = true := by
  unfold rngOk
  rw [Bool.and_eq_true]
  exact ⟨decide_eq_true (by omega), decide_eq_true (by omega)⟩
theorem ev_sFor_of {a : MA} {g : MG} {b : MS} {fr : Fr} {h h1 : AH} {ds : List D} {o : SO} (e : a fr h = .ok ds h1) (e2 : forM g b ds fr h1 = o) : sFor a g b fr h = o := by
  rw [ev_sFor, e]; exact e2
end Sim
set_option Elab.async false
set_option linter.all false
set_option maxRecDepth 100000
set_option maxHeartbeats 4000000
/-! SN: sets that live for one expression: sorted(set(..)) of ints, len(set(..)) of texts and ints. -/
namespace Sim
open PySem PySem.Spec PyProof.Rows L2
/-! ### set(..) of a list, by what its loop does -/
abbrev set0 (w : World) : Obj := { cls := .type "set", dict := none, data := .set #[] 0 (.fresh 0 0 (!w.params.followText "set-order")) }
abbrev lit0 (l : Addr) : Obj := { cls := .type "list_iterator", data := .fields #[.ref l, .int 0 0] }
def LoopOk (P : Program) (w : World) (items : Array Value) (Rs : Heap → Addr → Prop) : Prop :=
  ∀ (A : Around) (I : Addr) (fp wr : List Addr) (G : Array GenState → Array GenState → Prop) (St : Nat → Shared → Prop) (R : Result → Shared → Prop),
    WalksS P w A.in1 I fp wr G items.size (fun i v => items[i]? = some v) St → ∀ S : Addr, S ∉ fp → ∀ s : Shared, St 0 s → s.heap.get? S = some (set0 w) →
      (∀ s', Moved (S :: wr) G s s' → Rs s'.heap S → R (.ok (.ret .none)) s') → codeAny (model P w) A (.builtin "set.update.loop" ⟨[.ref S, .ref I], []⟩) R s
section
variable {P : Program} {w : World} {A : Around} {E : Value → Shared → Prop} {s : Shared}
set_option maxRecDepth 100000 in
set_option maxHeartbeats 3200000 in
theorem set_of_list {l : Addr} {items : Array Value} {Rs : Heap → Addr → Prop} {Q : Value → Shared → Prop} (lp : LoopOk P w items Rs) (hd : A.handled = none) (il : s.heap.IsList l items)
    (q : ∀ (g : Heap) (tk : Nat), Rs g s.heap.objs.size → (∀ b o, s.heap.get? b = some o → g.get? b = some o) → Q (.ref s.heap.objs.size) { s with heap := g, toks := tk }) :
    wpAny (model P w) A (call (.type "set") [.ref l]) Q E s := by
  have ⟨c, tl, mr⟩ := F.called_set.mro
  have md := F.called_set.made
  have sb := F.called_set.sub
  apply wpAny_call
  apply codeAny_of_tree
  show wpAny _ _ (callAny (.type "set") _) _ _ _
  apply wpAny_pure
  refine ⟨Code.quiet_builtin _ (by decide +kernel), ?_⟩
  apply codeAny_builtin F.entry_type_call
  rw [Around.under_plain (weight_type_call_type "set" [.ref l] []) rfl]
  have t1 := F.called_set.notType
  have t2 := F.called_set.canCreate
  have t3 := F.typeCall_set_1 (.ref l)
  repeat (any_goals (first | assumption | wp_step))
  have nw := code_set_led1 (P := P) (w := w) (A := A.in1) (E := E) (s := s) (.ref l) (Q₁ := fun o z => o = .ref s.heap.objs.size ∧ z = { s with heap := s.heap.push (set0 w) }) ⟨rfl, rfl⟩
  refine codeAny_mono nw fun r z hz => ?_
  match r, hz with
  | .error e, hz => exact hz
  | .ok (.ret o), hz =>
    obtain ⟨rfl, rfl⟩ := hz
    have gS : (s.heap.push (set0 w)).get? s.heap.objs.size = some (set0 w) := Heap.get?_push_size _ rfl
    have tS : Shared.TypeIs { s with heap := s.heap.push (set0 w) } (.ref s.heap.objs.size) "set" := ⟨_, gS, rfl⟩
    have u1 := F.called_set.init.lookup
    have u2 := F.called_set.init.bind (.ref s.heap.objs.size)
    repeat (any_goals (first | assumption | wp_step))
    refine codeAny_mono (codeAny_call_builtin (R := wants (fun r z => r = .none ∧ ∃ g tk, z = { s with heap := g, toks := tk } ∧ Rs g s.heap.objs.size ∧ ∀ b o, s.heap.get? b = some o → g.get? b = some o) E) F.called_set.init.plain F.entry_set_init
      (check_set_init_1 tS ?_)) fun r z hz => ?_
    · have il0 := il
      obtain ⟨⟨oc, od, oda, osl⟩, gl, cl, nl, dl⟩ := il
      cases cl
      cases dl
      have gl1 := Heap.get?_push_of_some (set0 w) gl
      have x1 := F.sub_list_set
      have x2 := F.sub_list_frozenset
      have x3 : (Value.type "list" == Value.type "dict") = false := by decide
      have il1 : (s.heap.push (set0 w)).IsList l items := ⟨_, gl1, rfl, nl, rfl⟩
      unfold Builtin.«set.__init__» noKeywords Builtin.Frozenset.updateFrom
      generalize hPI : pyIter = PI
      wp_walk
      subst hPI
      refine wpAny_pyIter_list il1 ?_
      apply wpAny_bind
      apply wpAny_runValue
      have ll : l < s.heap.objs.size := Heap.lt_size gl
      have sz : (s.heap.push (set0 w)).objs.size = s.heap.objs.size + 1 := Heap.size_push ..
      have nI : l ≠ (s.heap.push (set0 w)).objs.size := sz ▸ Nat.ne_of_lt (Nat.lt_succ_of_lt ll)
      refine lp _ _ _ _ _ _ _ ((Walks.list (by simp [hd]) _ l nI items).toS) s.heap.objs.size (by
        intro m
        rcases List.mem_cons.mp m with m | m
        · exact Nat.ne_of_lt (Nat.lt_succ_self _) (m.trans sz)
        · exact Nat.ne_of_gt ll (List.mem_singleton.mp m)) _ ⟨⟨_, Heap.get?_push_size _ rfl, rfl, rfl⟩, il1.push _⟩ (Heap.get?_push_of_some _ gS) fun s' mv rs => ?_
      obtain ⟨g, g2, dr, tk, os⟩ := s'
      obtain rfl : g2 = s.gens := mv.gens
      obtain rfl : dr = s.drawn := mv.drawn
      obtain rfl : os = s.os := mv.os
      show wpAny _ _ _ _ _ _
      apply wpAny_pure
      show wpAny _ _ (ret Value.none) _ _ _
      apply wpAny_pure
      refine ⟨rfl, g, tk, rfl, rs, fun b o e => ?_⟩
      have b0 : b < s.heap.objs.size := Heap.lt_size e
      refine mv.heap b o (fun m => ?_) (Heap.get?_push_of_some _ (Heap.get?_push_of_some _ e))
      rcases List.mem_cons.mp m with m | m
      · exact Nat.ne_of_lt b0 m
      · exact Nat.ne_of_lt (Nat.lt_succ_of_lt b0) ((List.mem_singleton.mp m).trans sz)
    · match r, hz with
      | .error e, hz => exact hz
      | .ok (.ret r), hz =>
        obtain ⟨rfl, g, tk, rfl, rs, kp⟩ := hz
        repeat (any_goals (first | assumption | wp_step))
        exact q _ _ rs kp
theorem loop_ints {items : Array Value} {ns : List Int} (hi : IntsAre items.toList ns) (hb : ns.length + 1 < scanBound) : LoopOk P w items fun h S => ∃ c, SetR w h S (fun j => decide (j ∈ ns)) c ∧ c ≤ ns.length := by
  intro A I fp wr G St R W S hS s st g k
  have sz : items.size = ns.length := by
    have := IntsAre.length hi
    rwa [Array.length_toList] at this
  refine set_update_ints W S hS ns sz hb (fun i v hv => ?_) (items.size - 0) 0 s rfl (Nat.zero_le _) st ⟨0, Nat.le_refl 0, setR_new_at g⟩ fun s' c mv hc rs => k s' mv ⟨c, rs, by omega⟩
  have hlt : i < ns.length := by rw [← sz]; exact (Array.getElem?_eq_some_iff.mp hv).1
  obtain ⟨t, e⟩ := PyProof.Rows.IntsAre.int_at hi i v (by rw [Array.getElem?_toList]; exact hv)
  refine ⟨ns[i], t, List.getElem?_eq_getElem hlt, ?_⟩
  rw [e]; simp [hlt]
end
end Sim
set_option Elab.async false
set_option linter.all false
set_option maxRecDepth 100000
set_option maxHeartbeats 4000000
/-! SO: sets of texts; sorted(set(..)), len(set(..)). -/
namespace Sim
open PySem PySem.Spec PyProof.Rows L2
section
variable {P : Program} {w : World} {A : Around} {E : Value → Shared → Prop} {s : Shared}
/-- the texts, each once, in their order -/
def setStep (acc : List Str) (x : Str) : List Str := if x ∈ acc then acc else acc ++ [x]
def dist (xs : List Str) : List Str := xs.foldl setStep []
theorem setStep_mem (acc : List Str) (x k : Str) : k ∈ setStep acc x ↔ k ∈ acc ∨ k = x := by
  unfold setStep
  split
  · exact ⟨.inl, fun h => h.elim id fun e => e ▸ by assumption⟩
  · simp
theorem setStep_len (acc : List Str) (x : Str) : (setStep acc x).length ≤ acc.length + 1 := by
  unfold setStep
  split <;> simp
theorem dist_take (xs : List Str) (i : Nat) (x : Str) (h : xs[i]? = some x) : dist (xs.take (i + 1)) = setStep (dist (xs.take i)) x := by
  unfold dist
  rw [List.take_add_one, h]
  simp
theorem dist_len_take (xs : List Str) : ∀ i, (dist (xs.take i)).length ≤ i
  | 0 => by simp [dist]
  | i + 1 => by
    have ih := dist_len_take xs i
    by_cases h : i < xs.length
    · rw [dist_take xs i _ (List.getElem?_eq_getElem h)]
      exact Nat.le_trans (setStep_len _ _) (by omega)
    · have e : xs.take (i + 1) = xs.take i := by rw [List.take_of_length_le (by omega), List.take_of_length_le (by omega)]
      rw [e]; omega
theorem loop_strs_go {I : Addr} {fp wr : List Addr} {G : Array GenState → Array GenState → Prop} {n : Nat} {items : Array Value} {St : Nat → Shared → Prop} {R : Result → Shared → Prop}
    (W : WalksS P w A.in1 I fp wr G n (fun i v => items[i]? = some v) St) (S : Addr) (hS : S ∉ fp) (xs : List Str) (hn : n = xs.length) (hb : xs.length + 1 < scanBound) (hv : ∀ (i : Nat) (v : Value), items[i]? = some v → ∃ k t, xs[i]? = some k ∧ v = Value.str k t) :
    ∀ (d i : Nat) (s : Shared), n - i = d → i ≤ n → St i s → s.heap.SetOf (PySem.strKind P w) S (fun k => decide (k ∈ dist (xs.take i))) (dist (xs.take i)).length →
      (∀ z, Moved (S :: wr) G s z → z.heap.SetOf (PySem.strKind P w) S (fun k => decide (k ∈ dist xs)) (dist xs).length → R (.ok (.ret .none)) z) →
      codeAny (model P w) A (.builtin "set.update.loop" ⟨[.ref S, .ref I], []⟩) R s := by
  have nS : S ∉ wr := fun h => hS (W.sub _ h)
  have up : ∀ b ∈ wr, b ∈ S :: wr := fun b hb => List.mem_cons_of_mem _ hb
  have kp : ∀ {a z : Shared} {T : Str → Bool} {c : Nat}, Moved wr G a z → a.heap.SetOf (PySem.strKind P w) S T c → z.heap.SetOf (PySem.strKind P w) S T c := fun mv ⟨o, es, ep, tb, ho, r⟩ => ⟨o, es, ep, tb, mv.heap S _ nS ho, r⟩
  intro d
  induction d with
  | zero =>
    intro i s hd hi st so k
    have e : i = n := by omega
    subst e
    apply codeAny_builtin F.entry_set_update_loop
    rw [Around.under_plainId F.plain_set_update_loop _]
    show wpAny _ A.in1 (pyNext (.ref I) >>= _) _ _ s
    apply wpAny_bind
    refine W.done s _ _ st fun z mv => ?_
    show wpAny _ A.in1 (ret Value.none) _ _ z
    rw [List.take_of_length_le (by omega)] at so
    exact wpAny_pure (k z (mv.mono up) (kp mv so))
  | succ d ih =>
    intro i s hd hi st so k
    have lt : i < n := by omega
    apply codeAny_builtin F.entry_set_update_loop
    rw [Around.under_plainId F.plain_set_update_loop _]
    show wpAny _ A.in1 (pyNext (.ref I) >>= _) _ _ s
    apply wpAny_bind
    refine W.item i s _ _ lt st fun v z pv st' mv => ?_
    obtain ⟨x, t, hx, rfl⟩ := hv i v pv
    have so' := kp mv so
    show wpAny _ A.in1 (holding [Value.str x t] (setAdd S (.str x t)) >>= _) _ _ z
    apply wpAny_bind
    apply wpAny_holding
    unfold setAdd
    apply wpAny_holding
    apply wpAny_bind
    refine (PySem.strKind P w).pyHash (k := x) (strKind_is _ _ _ _) ?_
    have room : (dist (xs.take i)).length + 1 < scanBound := by
      have := dist_len_take xs i
      omega
    refine wpAny_setAddHashed_of (knd := PySem.strKind P w) (s := { z with toks := z.toks + 1 }) (strKind_is _ _ _ _) rfl so' room fun g only so2 => ?_
    have so3 : g.SetOf (PySem.strKind P w) S (fun k => decide (k ∈ dist (xs.take (i + 1)))) (dist (xs.take (i + 1))).length := by
      rw [dist_take xs i x hx]
      refine SetOf_congr so2 (fun k => ?_) ?_
      · rw [Bool.eq_iff_iff]; simp [setStep_mem]
      · unfold setStep
        by_cases c : x ∈ dist (xs.take i) <;> simp [c]
    refine wpAny_pure ⟨plainId_quiet F.plain_set_update_loop _, ih (i + 1) _ (by omega) lt (W.frame _ z _ _ st' (Nat.le_succ _) fun b hb o e => ?_) so3 fun y mv2 so4 => ?_⟩
    · rw [only.2 b fun h => hS (h ▸ hb)]
      exact e
    · refine k y (Moved.trans W.gtrans ((mv.mono up).then_heap (Nat.le_succ _) fun b o hb e => ?_) mv2) so4
      rw [only.2 b fun h => hb (h ▸ List.mem_cons_self)]
      exact e
theorem loop_strs {items : Array Value} {xs : List Str} (hi : StrsAre items.toList xs) (hb : xs.length + 1 < scanBound) : LoopOk P w items fun h S => h.SetOf (PySem.strKind P w) S (fun k => decide (k ∈ dist xs)) (dist xs).length := by
  intro A I fp wr G St R W S hS s st g k
  have sz : items.size = xs.length := by rw [← StrsAre.len_eq hi, Array.length_toList]
  refine loop_strs_go W S hS xs sz hb (fun i v hv => ?_) (items.size - 0) 0 s rfl (Nat.zero_le _) st ?_ k
  · have hlt : i < xs.length := by rw [← sz]; exact (Array.getElem?_eq_some_iff.mp hv).1
    obtain ⟨t, e⟩ := SS.strs_at hi i v (by rw [Array.getElem?_toList]; exact hv)
    refine ⟨xs[i], t, List.getElem?_eq_getElem hlt, ?_⟩
    rw [e]; simp [hlt]
  · exact SetOf_congr ((setObjOf_fresh (knd := PySem.strKind P w) _).setOf g (by unfold scanBound; omega)) (fun k => by simp [dist]) rfl
end
end Sim
set_option Elab.async false
set_option linter.all false
set_option maxRecDepth 100000
set_option maxHeartbeats 4000000
/-! SP: sorted(set(..)), len(set(..)) as worths. -/
namespace Sim
open PySem PySem.Spec PyProof.Rows L2
/-- put in, each number once, rising -/
def insI (x : Int) : List Int → List Int
  | [] => [x]
  | y :: r => if x < y then x :: y :: r else if x = y then y :: r else y :: insI x r
def sortI (ns : List Int) : List Int := ns.foldr insI []
theorem insI_mem (x k : Int) : ∀ l, k ∈ insI x l ↔ k = x ∨ k ∈ l
  | [] => by simp [insI]
  | y :: r => by
    unfold insI
    split
    · simp
    · split
      · rename_i h; subst h; simp
      · simp [insI_mem x k r]; constructor
        · rintro (h | h | h) <;> simp [h]
        · rintro (h | h | h) <;> simp [h]
theorem insI_ris (x : Int) : ∀ l, l.Pairwise (· < ·) → (insI x l).Pairwise (· < ·)
  | [], _ => by simp [insI]
  | y :: r, h => by
    have h' := List.pairwise_cons.mp h
    unfold insI
    split
    · rename_i c
      refine List.pairwise_cons.mpr ⟨fun z hz => ?_, h⟩
      rcases List.mem_cons.mp hz with e | e
      · omega
      · have := h'.1 z e; omega
    · split
      · exact h
      · refine List.pairwise_cons.mpr ⟨fun z hz => ?_, insI_ris x r h'.2⟩
        rcases (insI_mem x z r).mp hz with e | e
        · omega
        · exact h'.1 z e
theorem sortI_mem (k : Int) : ∀ ns, k ∈ sortI ns ↔ k ∈ ns
  | [] => by simp [sortI]
  | n :: ns => by
    show k ∈ insI n (sortI ns) ↔ _
    rw [insI_mem, sortI_mem k ns, List.mem_cons]
theorem sortI_ris : ∀ ns, (sortI ns).Pairwise (· < ·)
  | [] => List.Pairwise.nil
  | n :: ns => insI_ris n _ (sortI_ris ns)
theorem ris_one : ∀ l m : List Int, l.Pairwise (· < ·) → m.Pairwise (· < ·) → (∀ k, k ∈ l ↔ k ∈ m) → l = m
  | [], [], _, _, _ => rfl
  | [], y :: m, _, _, h => absurd ((h y).mpr (List.mem_cons_self ..)) (by simp)
  | x :: l, [], _, _, h => absurd ((h x).mp (List.mem_cons_self ..)) (by simp)
  | x :: l, y :: m, hl, hm, h => by
    have hl' := List.pairwise_cons.mp hl
    have hm' := List.pairwise_cons.mp hm
    have e : x = y := by
      rcases List.mem_cons.mp ((h x).mp (List.mem_cons_self ..)) with a | a
      · exact a
      · rcases List.mem_cons.mp ((h y).mpr (List.mem_cons_self ..)) with b | b
        · exact b.symm
        · have := hm'.1 x a
          have := hl'.1 y b
          omega
    subst e
    rw [ris_one l m hl'.2 hm'.2 fun k => ?_]
    constructor
    · intro a
      rcases List.mem_cons.mp ((h k).mp (List.mem_cons_of_mem _ a)) with b | b
      · have := hl'.1 k a; omega
      · exact b
    · intro a
      rcases List.mem_cons.mp ((h k).mpr (List.mem_cons_of_mem _ a)) with b | b
      · have := hm'.1 k a; omega
      · exact b
theorem nodup_len : ∀ l m : List Int, l.Nodup → (∀ k ∈ l, k ∈ m) → l.length ≤ m.length
  | [], _, _, _ => Nat.zero_le _
  | x :: l, m, h, s => by
    have h' := List.nodup_cons.mp h
    have ih := nodup_len l (m.erase x) h'.2 fun k hk => (List.mem_erase_of_ne (fun e => by subst e; exact h'.1 hk)).mpr (s k (List.mem_cons_of_mem _ hk))
    have := List.length_erase_of_mem (s x (List.mem_cons_self ..))
    have : 0 < m.length := List.length_pos_of_mem (s x (List.mem_cons_self ..))
    rw [List.length_cons]; omega
section
variable {X : Cx} {W : WX} {e : Expr} {ta : TE} {p p2 q pos : Pos}
theorem bt_sorted : bootBuiltins "sorted" = some (.builtin "sorted") := by decide +kernel
theorem sorted_inv {pins : List (Addr × Obj)} {s : Shared} {σ : L2.St} {H : Hp} {Q : VK} {a : Addr} {S : Int → Bool} {n : Nat} (hc : X.calm = true) (I : L2.Inv X pins σ H s) (R : SetR X.w s.heap a S n) (h64 : n < 64)
    (q : ∀ (ns : List Int) (p : Addr), ns.Pairwise (· < ·) → (∀ k : Int, k ∈ ns ↔ S k = true) → H p = none → Q (.ref p) (upd H p (.lst (ns.map V.int)))) :
    wpAny (model X.prog X.w) X.A (call (.builtin "sorted") [.ref a]) (EP X pins σ Q) X.xe s := by
  refine sorted_set R (I.ok.hd hc) h64 fun z p out cc ns kz gz oz hp hgt hi hs hm hl => ?_
  have hn : H p = none := I.hok.fresh hp
  have le : (ns.map V.int).length ≤ sizeLine := by rw [List.length_map, hl, sizeLine_eq]; omega
  have J : L2.Inv X pins σ (upd H p (.lst (ns.map V.int))) { s with heap := z.heap, gens := z.gens, drawn := z.drawn, toks := z.toks } :=
    I.call (ch := []) (Un.laid kz hp hn) (I.hok.laid kz hp ⟨le, out.toList, cc, vals_of_ints hi, hgt⟩) (by rw [gz]; exact I.bare) (fun _ z => nomatch z)
  have ez : z = { s with heap := z.heap, gens := z.gens, drawn := z.drawn, toks := z.toks } := by
    obtain ⟨_, _, _, _, _⟩ := z
    cases oz
    rfl
  rw [ez]
  exact ⟨.ref p, _, J, rfl, q ns p hs hm hn⟩
def tSS (K : PySem.W.Frag) (ta : TE) : TE := fun σ H Q => ta σ H fun x H1 => ∃ (l : Addr) (ns : List Int), x = .ref l ∧ SqL K H1 l (ns.map V.int) ∧ ns.length ≤ 4000 ∧ (sortI ns).length < 64 ∧
  ∀ p, H1 p = none → Q (.ref p) (upd H1 p (.lst ((sortI ns).map V.int)))
theorem pe_sortSet (hg : Gl X "sorted") (hm : X.mg "sorted" = none) (hg2 : Gl X "set") (hm2 : X.mg "set" = none) (ha : PE X e ta) (hc : X.calm = true := by rfl)
    (na : starEach [e] X.env = (false, eval e X.env) :: starEach [] X.env := by rfl) : PE X (.Call (.Name "sorted" p) [.Call (.Name "set" p2) [e] [] q] [] pos) (tSS X.K ta) := by
  constructor
  intro pins s σ H Q I h
  refine Call_ (ld_blt I hg hm bt_sorted ?_)
  refine callWith_builtin1 (args_cons ?_ rfl) rfl rfl
  refine Call_ (ld_blt I hg2 hm2 boot_set ?_)
  refine callWith_type1 (args_cons ?_ na) na rfl
  refine thn (ha.run pins s σ H _ I h) fun v s1 ⟨x, H1, I1, r1, l, ns, hx, hq, hl, h64, q1⟩ => args_nil ?_
  subst hx
  cases r1
  obtain ⟨its, r, pl, hz⟩ := I1.list hq
  have il : its.length = ns.length := by rw [← r.length, List.length_map]
  have lp : LoopOk X.prog X.w its.toArray fun h S => ∃ c, SetR X.w h S (fun j => decide (j ∈ ns)) c ∧ c ≤ ns.length := loop_ints (by simpa using RZ.intsAre_vals r) (by unfold scanBound; omega)
  refine set_of_list lp (I1.ok.hd hc) pl.isList fun g tk ⟨c, R, hcc⟩ kp => args_nil ?_
  have I2 : Inv X pins σ H1 { s1 with heap := g, toks := tk } := I1.kept kp
  have c64 : c < 64 := by
    obtain ⟨o, es, ep, t, ho, hex, hd, gd, nd, mem, _, _, hn, _⟩ := id R
    have := nodup_len _ (sortI ns) nd fun k hk => (sortI_mem k ns).mpr (of_decide_eq_true ((mem k).mpr hk))
    rw [List.length_map, Array.length_toList] at this
    omega
  refine sorted_inv hc I2 R c64 fun ns' pp hs hmm hp => ?_
  have es : ns' = sortI ns := ris_one _ _ hs (sortI_ris ns) fun k => by rw [hmm k, sortI_mem]; simp
  rw [es]
  exact q1 pp hp
def distI (ns : List Int) : List Int := firstMet (fun i => ns.getD i 0) ns.length
/-- len(set(..)) -/
def tLS (K : PySem.W.Frag) (ta : TE) : TE := fun σ H Q => ta σ H fun x H1 => ∃ (l : Addr) (xs : List Str), x = .ref l ∧ SqL K H1 l (xs.map V.str) ∧ xs.length ≤ 4000 ∧ Q (.int (dist xs).length) H1
theorem pe_lenSetS (hg : Gl X "len") (hm : X.mg "len" = none) (hg2 : Gl X "set") (hm2 : X.mg "set" = none) (ha : PE X e ta) (hc : X.calm = true := by rfl)
    (na : starEach [e] X.env = (false, eval e X.env) :: starEach [] X.env := by rfl) : PE X (.Call (.Name "len" p) [.Call (.Name "set" p2) [e] [] q] [] pos) (tLS X.K ta) := by
  constructor
  intro pins s σ H Q I h
  refine Call_ (ld_blt I hg hm boot_len ?_)
  refine callWith_builtin1 (args_cons ?_ rfl) rfl rfl
  refine Call_ (ld_blt I hg2 hm2 boot_set ?_)
  refine callWith_type1 (args_cons ?_ na) na rfl
  refine thn (ha.run pins s σ H _ I h) fun v s1 ⟨x, H1, I1, r1, l, xs, hx, hq, hl, q1⟩ => args_nil ?_
  subst hx
  cases r1
  obtain ⟨its, r, pl, hz⟩ := I1.list hq
  have lp := loop_strs (P := X.prog) (w := X.w) (items := its.toArray) (xs := xs) (by simpa using L2.strsAre_of r) (by unfold scanBound; omega)
  have dl := dist_len_take xs xs.length
  rw [List.take_length] at dl
  refine set_of_list lp (I1.ok.hd hc) pl.isList fun g tk ⟨o, es, ep, t, ho, hex, hd, _, _, _, hf, hn⟩ kp => args_nil ?_
  have I2 : Inv X pins σ H1 { s1 with heap := g, toks := tk } := I1.kept kp
  exact call_len_set ho hex hd hf (by rw [hn]; omega) ⟨.int (dist xs).length, H1, I2.tok _, ⟨_, by rw [hn]⟩, q1⟩
end
end Sim
set_option Elab.async false
set_option linter.all false
set_option maxRecDepth 100000
set_option maxHeartbeats 4000000
/-! SQ: sorted(set(..)), len(set(..)), products of texts and lists, chains of three. -/
namespace Sim
open PySem L2
def toInts : List D → Option (List Int)
  | [] => some []
  | .int i :: r => (toInts r).map (i :: ·)
  | _ :: _ => none
def toStrs : List D → Option (List Str)
  | [] => some []
  | .str i :: r => (toStrs r).map (i :: ·)
  | _ :: _ => none
theorem toInts_map : ∀ ns : List Int, toInts (ns.map .int) = some ns
  | [] => rfl
  | n :: ns => by simp [toInts, toInts_map ns]
theorem toStrs_map : ∀ ns : List Str, toStrs (ns.map .str) = some ns
  | [] => rfl
  | n :: ns => by simp [toStrs, toStrs_map ns]
section
variable {X : Cx} {W : WX} {K : PySem.W.Frag} {mg : Str → Option Value} {F : Addr → Prop} {C : Cf} {e : Expr} {p p2 q pos : Pos}
theorem reps_ints : ∀ {ds : List D} {vs : List V} {ns : List Int}, reps K F C ds vs → toInts ds = some ns → vs = ns.map V.int
  | [], vs, ns, r, e => by cases e; exact r
  | .int i :: ds, vs, ns, r, e => by
    obtain ⟨v, us, rfl, r1, r2⟩ := r
    cases q : toInts ds with
    | none => simp [toInts, q] at e
    | some ms =>
      simp [toInts, q] at e
      subst e
      rw [reps_ints r2 q]
      exact congrArg (· :: _) (show v = .int i from r1)
  | .non :: _, _, _, _, e | .bl _ :: _, _, _, _, e | .str _ :: _, _, _, _, e | .tup _ :: _, _, _, _, e | .lst _ :: _, _, _, _, e | .dic _ _ :: _, _, _, _, e | .ref _ :: _, _, _, _, e | .fro _ :: _, _, _, _, e => by simp [toInts] at e
theorem reps_strs : ∀ {ds : List D} {vs : List V} {ns : List Str}, reps K F C ds vs → toStrs ds = some ns → vs = ns.map V.str
  | [], vs, ns, r, e => by cases e; exact r
  | .str i :: ds, vs, ns, r, e => by
    obtain ⟨v, us, rfl, r1, r2⟩ := r
    cases q : toStrs ds with
    | none => simp [toStrs, q] at e
    | some ms =>
      simp [toStrs, q] at e
      subst e
      rw [reps_strs r2 q]
      exact congrArg (· :: _) (show v = .str i from r1)
  | .non :: _, _, _, _, e | .bl _ :: _, _, _, _, e | .int _ :: _, _, _, _, e | .tup _ :: _, _, _, _, e | .lst _ :: _, _, _, _, e | .dic _ _ :: _, _, _, _, e | .ref _ :: _, _, _, _, e | .fro _ :: _, _, _, _, e => by simp [toStrs] at e
theorem reps_of_ints : ∀ ns : List Int, reps K F C (ns.map .int) (ns.map V.int)
  | [] => rfl
  | n :: ns => ⟨_, _, rfl, rfl, reps_of_ints ns⟩
/-- sorted(set(..)) of a list of ints -/
def sortSetM (m : ME) : Fr → AH → Out Cell := fun fr h => (m fr h).bind fun d h1 => match deref h1 d with
  | .lst xs => match toInts xs with
    | some ns => if ns.length ≤ 4000 ∧ (sortI ns).length < 64 then .ok (.lst ((sortI ns).map .int)) h1 else .bad
    | none => .bad
  | _ => .bad
theorem rf_sortSet {m : ME} (hm : X.mg "sorted" = none) (hm2 : X.mg "set" = none) (hs : RB X W e m) (hg : Gl X "sorted" := by rfl) (hg2 : Gl X "set" := by rfl) (hc : X.calm = true := by rfl)
    (na : starEach [e] X.env = (false, eval e X.env) :: starEach [] X.env := by rfl) : RF X W (.Call (.Name "sorted" p) [.Call (.Name "set" p2) [e] [] q] [] pos) (sortSetM m) := by
  obtain ⟨t, ht, hq⟩ := hs.ex
  refine ⟨_, pe_sortSet hg hm hg2 hm2 ht hc na, fun F C ω fr σ Q w f p => ?_⟩
  refine hq F C ω fr σ _ w f ?_
  unfold sortSetM at p
  revert p
  cases m fr C.h with
  | err e h1 => exact fun p => p
  | bad => exact fun p => p
  | ok d h1 =>
    intro p C1 v eh w1 x1 r1
    subst eh
    have p' : Post X.K X.mg F C (freshAt X.K X.mg F C) (fun cls dx H => W cls dx σ H) Q (match deref C1.h d with
      | .lst xs => match toInts xs with
        | some ns => if ns.length ≤ 4000 ∧ (sortI ns).length < 64 then .ok (.lst ((sortI ns).map .int)) C1.h else .bad
        | none => .bad
      | _ => .bad) := p
    cases e1 : deref C1.h d with
    | lst xs =>
      rw [e1] at p'
      dsimp only at p'
      obtain ⟨a, us, rfl, h1, h2⟩ := seen_lst w1 r1 e1
      cases e2 : toInts xs with
      | none => rw [e2] at p'; exact p'.elim
      | some ns =>
        rw [e2] at p'
        dsimp only at p'
        split at p'
        · rename_i hz
          have ev := reps_ints h2 e2
          subst ev
          exact ⟨a, ns, rfl, .of h1, hz.1, hz.2, fun l hl => p' ⟨C1.ρ, C1.h, _⟩ _ rfl (w1.laid hl) (x1.trans (Ext.laid hl)) (fresh_lst w1 x1 hl (reps_of_ints _))⟩
        · exact p'.elim
    | _ => rw [e1] at p'; exact p'.elim
/-- len(set(..)) of a list of texts -/
def lenSetM (m : ME) : ME := fun fr h => (m fr h).bind fun d h1 => match deref h1 d with
  | .lst xs => match toStrs xs with
    | some ns => if ns.length ≤ 4000 then .ok (.int (dist ns).length) h1 else .bad
    | none => .bad
  | _ => .bad
theorem re_lenSet {m : ME} (hm : X.mg "len" = none) (hm2 : X.mg "set" = none) (hs : RB X W e m) (hg : Gl X "len" := by rfl) (hg2 : Gl X "set" := by rfl) (hc : X.calm = true := by rfl)
    (na : starEach [e] X.env = (false, eval e X.env) :: starEach [] X.env := by rfl) : RE X W (.Call (.Name "len" p) [.Call (.Name "set" p2) [e] [] q] [] pos) (lenSetM m) := by
  obtain ⟨t, ht, hq⟩ := hs.ex
  refine ⟨_, pe_lenSetS hg hm hg2 hm2 ht hc na, fun F C ω fr σ Q w f p => ?_⟩
  refine hq F C ω fr σ _ w f (Post.bind (R := fun C => repB X.K X.mg F C) p fun C1 d v w1 x1 r1 p1 => ?_)
  cases e1 : deref C1.h d with
  | lst xs =>
    rw [e1] at p1
    dsimp only at p1
    obtain ⟨a, us, rfl, h1, h2⟩ := seen_lst w1 r1 e1
    cases e2 : toStrs xs with
    | none => rw [e2] at p1; exact p1.elim
    | some ns =>
      rw [e2] at p1
      dsimp only at p1
      split at p1
      · rename_i hz
        have ev := reps_strs h2 e2
        subst ev
        exact ⟨a, ns, rfl, .of h1, hz, p1.now w1 rfl⟩
      · exact p1.elim
  | _ => rw [e1] at p1; exact p1.elim
/-- a op b op c op d -/
def tChain3 (r r' r'' : R2) (ta tb tc td : TE) : TE := fun σ H Q => ta σ H fun x H1 => tb σ H1 fun y H2 => r x y H2 fun z H3 => ∃ k, z = .bl k ∧
  (if k = true then tc σ H3 fun u H4 => r' y u H4 fun z2 H5 => ∃ k2, z2 = .bl k2 ∧ (if k2 = true then td σ H5 fun o H6 => r'' u o H6 Q else Q (.bl false) H5) else Q (.bl false) H3)
section
open PyProof.Rows
variable {a b c d : Expr} {ta tb tc td : TE} {op op' op'' : CmpOp} {r r' r'' : R2}
theorem pe_chain3 (ho : OpR X (compareOp op) r) (ho' : OpR X (compareOp op') r') (ho'' : OpR X (compareOp op'') r'') (ha : PE X a ta) (hb : PE X b tb) (hc : PE X c tc) (hd : PE X d td)
    (hm : lastMarks [op, op', op''] [b, c, d] = false := by with_unfolding_all rfl) : PE X (.Compare a [op, op', op''] [b, c, d] pos) (tChain3 r r' r'' ta tb tc td) := by
  constructor
  intro pins s σ H Q I h
  refine Compare_chain ?_ hm
  refine thn (ha.run pins s σ H _ I h) fun v s1 ⟨x, H1, I1, r1, q1⟩ => chain_link ?_
  refine thn (hb.run pins s1 σ H1 _ I1 q1) fun u s2 ⟨y, H2, I2, r2, q2⟩ => ?_
  refine thn (ho pins s2 σ H2 x y v u _ I2 r1 r2 q2) fun g s3 ⟨z, H3, I3, r3, k, e, q3⟩ => ?_
  subst e
  cases r3
  refine wpAny_truthy_bool ?_
  cases k with
  | false => exact ite_ff ⟨.bl false, H3, I3, rfl, q3⟩
  | true =>
    refine ite_tt (chain_link ?_)
    refine thn (hc.run pins s3 σ H3 _ I3 q3) fun u4 s4 ⟨z4, H4, I4, r4, q4⟩ => ?_
    refine thn (ho' pins s4 σ H4 y z4 u u4 _ I4 r2 r4 q4) fun g5 s5 ⟨z5, H5, I5, r5, k5, e5, q5⟩ => ?_
    subst e5
    cases r5
    refine wpAny_truthy_bool ?_
    cases k5 with
    | false => exact ite_ff ⟨.bl false, H5, I5, rfl, q5⟩
    | true => exact ite_tt (chain_last (thn (hd.run pins s5 σ H5 _ I5 q5) fun u6 s6 ⟨z6, H6, I6, r6, q6⟩ => ho'' pins s6 σ H6 z4 z6 u4 u6 Q I6 r4 r6 q6))
end
def eChain3 (f g k : F2) (ma mb mc md : ME) : ME := fun fr h => (ma fr h).bind fun x h1 => (mb fr h1).bind fun y h2 => (Out.ofOpt (f h2 x y) h2).bind fun z h3 => match z with
  | .bl true => (mc fr h3).bind fun u h4 => (Out.ofOpt (g h4 y u) h4).bind fun z h5 => match z with
    | .bl true => (md fr h5).bind fun o h6 => .ofOpt (k h6 u o) h6
    | .bl false => .ok (.bl false) h5
    | _ => .bad
  | .bl false => .ok (.bl false) h3
  | _ => .bad
theorem re_chain3 {a b c d : Expr} {ma mb mc md : ME} {op op' op'' : CmpOp} {r r' r'' : R2} {f g k : F2} (ho : OpR X (compareOp op) r) (hv : V2 X.K X.mg r f) (ho' : OpR X (compareOp op') r') (hv' : V2 X.K X.mg r' g) (ho'' : OpR X (compareOp op'') r'') (hv'' : V2 X.K X.mg r'' k)
    (ha : RB X W a ma) (hb : RB X W b mb) (hc : RB X W c mc) (hd : RB X W d md) (hm : lastMarks [op, op', op''] [b, c, d] = false := by with_unfolding_all rfl) : RE X W (.Compare a [op, op', op''] [b, c, d] pos) (eChain3 f g k ma mb mc md) := by
  obtain ⟨ta, hta, qa⟩ := ha.ex
  obtain ⟨tb, htb, qb⟩ := hb.ex
  obtain ⟨tc, htc, qc⟩ := hc.ex
  obtain ⟨td, htd, qd⟩ := hd.ex
  refine ⟨_, pe_chain3 ho ho' ho'' hta htb htc htd hm, fun F C ω fr σ Q w f' p => ?_⟩
  refine qa F C ω fr σ _ w f' (Post.bind (R := fun C => repB X.K X.mg F C) p fun C1 d1 v1 w1 x1 r1 p1 => ?_)
  refine qb F C1 ω fr σ _ w1 (f'.ext w x1) (p1.bind fun C2 d2 v2 w2 x2 r2 p2 => ?_)
  refine hv.run w2 (r1.ext w1 x2) r2 (E := fun cls dx H => W cls dx σ H) (p2.bind fun C3 d3 v3 w3 x3 r3 p3 => ?_)
  cases d3 with
  | bl k3 =>
    refine ⟨k3, r3, ?_⟩
    cases k3 with
    | false => exact iteF (p3.now w3 rfl)
    | true =>
      refine iteT ?_
      have f3 := ((f'.ext w x1).ext w1 x2).ext w2 x3
      refine qc F C3 ω fr σ _ w3 f3 (p3.bind fun C4 d4 v4 w4 x4 r4 p4 => ?_)
      refine hv'.run w4 ((r2.ext w2 x3).ext w3 x4) r4 (E := fun cls dx H => W cls dx σ H) (p4.bind fun C5 d5 v5 w5 x5 r5 p5 => ?_)
      cases d5 with
      | bl k5 =>
        refine ⟨k5, r5, ?_⟩
        cases k5 with
        | false => exact iteF (p5.now w5 rfl)
        | true =>
          refine iteT ?_
          refine qd F C5 ω fr σ _ w5 ((f3.ext w3 x4).ext w4 x5) (p5.bind fun C6 d6 v6 w6 x6 r6 p6 => ?_)
          exact hv''.run w6 ((r4.ext w4 x5).ext w5 x6) r6 p6
      | _ => exact p5.elim
  | _ => exact p3.elim
/-- products -/
def mulStrOk (z : Str) (k : Int) : Bool := decide (0 ≤ k) && decide (k ≤ 1000) && decide (z.length ≤ 1000)
def mulAD : F2 := fun h a b => match deref h a, deref h b with
  | .int i, .int j => if CMul i j ∨ CMulW i j then some (.int (i * j)) else none
  | .str z, .int k => if mulStrOk z k = true then some (.str (Txt.mul z k)) else none
  | .lst xs, .int k => if -(2 ^ 63) ≤ k ∧ k < 2 ^ 63 ∧ xs.length * k.toNat ≤ sizeLine then some (.lst (List.replicate k.toNat xs).flatten) else none
  | _, _ => none
theorem fold_size (a : Array Nat) : ∀ (n : Nat) (b : Array Nat), ((List.replicate n a).foldl (· ++ ·) b).size = b.size + n * a.size
  | 0, b => by simp
  | n + 1, b => by
    rw [List.replicate_succ, List.foldl_cons, fold_size a n, Array.size_append, Nat.add_mul]
    omega
theorem reps_rep {ds : List D} {vs : List V} (h : reps K F C ds vs) : ∀ n : Nat, reps K F C (List.replicate n ds).flatten (List.replicate n vs).flatten
  | 0 => rfl
  | n + 1 => by
    rw [List.replicate_succ, List.replicate_succ, List.flatten_cons, List.flatten_cons]
    exact h.app (reps_rep h n)
def rMulS : R2 := fun x y H Q => ∃ z k, x = .str z ∧ y = .int k ∧ mulStrOk z k = true ∧ Q (.str (Txt.mul z k)) H
theorem op_mulS : OpR X (binaryOp .Mult) rMulS := by
  intro pins s σ H x y v u Q I rx ry h
  obtain ⟨z, k, rfl, rfl, ok, q⟩ := h
  obtain ⟨t, rfl⟩ := rx
  obtain ⟨t2, rfl⟩ := ry
  unfold mulStrOk at ok
  rw [Bool.and_eq_true, Bool.and_eq_true] at ok
  obtain ⟨⟨h0, h1⟩, h2⟩ := ok
  have h0 := of_decide_eq_true h0
  have h1 := of_decide_eq_true h1
  have h2 := of_decide_eq_true h2
  refine PySem.P.mul_str ?_ ?_ ?_ ?_
  · rw [decide_eq_false (by omega), decide_eq_false (by omega)]; rfl
  · intro a _ b
    have : (2 ^ 63 - 1 : Int) / k ≥ 9223372036854775 := Int.le_ediv_of_mul_le (by omega) (by omega)
    omega
  · intro _ _
    have : z.length * k.toNat ≤ 1000 * 1000 := Nat.mul_le_mul h2 (by omega)
    show decide (z.length * k.toNat > sizeLine) = false
    exact decide_eq_false (by rw [sizeLine_eq]; omega)
  · unfold Txt.mul at q
    split
    · rename_i c
      rw [if_pos c] at q
      exact ⟨by decide, .str Str.empty, H, I.tok _, ⟨_, rfl⟩, q⟩
    · rename_i c
      rw [if_neg c] at q
      split
      · rename_i c2
        rw [if_pos c2] at q
        exact ⟨.str z, H, I, ⟨_, rfl⟩, q⟩
      · rename_i c2
        rw [if_neg c2] at q
        refine ⟨?_, .str _, H, I.tok _, ⟨_, rfl⟩, q⟩
        show ((List.replicate k.toNat z.cps).foldl (· ++ ·) #[]).size ≤ sizeLine
        rw [fold_size]
        have : k.toNat * z.cps.size ≤ 1000 * 1000 := Nat.mul_le_mul (by omega) h2
        rw [sizeLine_eq]; simp; omega
theorem v2_mulAD : V2 K mg (fun x y H Q => rI (fun i j => CMul i j ∨ CMulW i j) (fun i j => .int (i * j)) x y H Q ∨ rMulS x y H Q ∨ rRep x y H Q) mulAD := by
  intro F C d1 v1 d2 v2 Q d w r1 r2 e q
  unfold mulAD at e
  split at e
  · rename_i i j e1 e2
    split at e
    · rename_i hz
      cases e
      exact .inl ⟨i, j, seen_int w r1 e1, seen_int w r2 e2, hz, q C _ rfl w (Ext.refl C) rfl⟩
    · cases e
  · rename_i z k e1 e2
    split at e
    · rename_i hz
      cases e
      exact .inr (.inl ⟨z, k, seen_str w r1 e1, seen_int w r2 e2, hz, q C _ rfl w (Ext.refl C) rfl⟩)
    · cases e
  · rename_i xs k e1 e2
    split at e
    · rename_i hz
      cases e
      obtain ⟨a, vs, rfl, s1, p1⟩ := seen_lst w r1 e1
      have l1 := p1.length
      refine .inr (.inr ⟨a, k, vs, rfl, seen_int w r2 e2, s1, hz.1, hz.2.1, by rw [← l1]; exact hz.2.2, fun p hp => q ⟨C.ρ, C.h, _⟩ _ rfl (w.laid hp) (Ext.laid hp) (rep.lstNew w hp (reps_rep p1 _))⟩)
    · cases e
  · cases e
theorem op_mulAD : OpR X (binaryOp .Mult) (fun x y H Q => rI (fun i j => CMul i j ∨ CMulW i j) (fun i j => .int (i * j)) x y H Q ∨ rMulS x y H Q ∨ rRep x y H Q) := op_mulD.or (op_mulS.or op_rep)
end
end Sim
set_option Elab.async false
set_option linter.all false
set_option maxRecDepth 100000
set_option maxHeartbeats 4000000
/-! SR: recursion's ground; rewriting rules of SQ. -/
namespace Sim
open PySem L2
section
variable {P : Program} {w : World} {K : PySem.W.Frag} {mg : Str → Option Value} {base : Heap}
theorem Cal.bad {x qual : Str} {st : Stmt} {N ps : List Str} {k : Nat} (d : Def K mg x qual st ps) (S : FnScope N ps (defScope st)) : Cal P w K mg base (k + 1) x ps.length (fun _ _ => .bad) := by
  obtain ⟨f, fd, F, b, hm⟩ := d.ex
  refine ⟨f, fd, ps, rfl, F.okX S (fun vs H Q E h => ?_) (fun cdv A outer s H vs Q E hr h => ?_), b, hm, F.kp⟩
  · obtain ⟨_, _, ds, _, hl, _, r, _⟩ := h
    rw [← r.length, hl]
  · obtain ⟨Fo, C, ds, e, hl, hw, r, p⟩ := h
    exact p.elim
end
theorem sSeq_nx {a b : MS} {fr fr1 : Fr} {h h1 : AH} (e : a fr h = .nx fr1 h1) : sSeq a b fr h = b fr1 h1 := by rw [ev_sSeq, e]
theorem sSeq_rt {a b : MS} {fr : Fr} {h h1 : AH} {d : D} (e : a fr h = .rt d h1) : sSeq a b fr h = .rt d h1 := by rw [ev_sSeq, e]
theorem fn_rt {n : Nat} {m : MS} {ds : List D} {h h1 : AH} {d : D} (e : m (frame0 n ds) h = .rt d h1) : fnM n m ds h = .ok d h1 := by rw [ev_fnM, e]
section
variable (fr : Fr) (h : AH)
@[simp] theorem ev_sortSetM (m : ME) : sortSetM m fr h = (m fr h).bind fun d h1 => match deref h1 d with
  | .lst xs => match toInts xs with
    | some ns => if ns.length ≤ 4000 ∧ (sortI ns).length < 64 then .ok (.lst ((sortI ns).map .int)) h1 else .bad
    | none => .bad
  | _ => .bad := rfl
@[simp] theorem ev_lenSetM (m : ME) : lenSetM m fr h = (m fr h).bind fun d h1 => match deref h1 d with
  | .lst xs => match toStrs xs with
    | some ns => if ns.length ≤ 4000 then .ok (.int (dist ns).length) h1 else .bad
    | none => .bad
  | _ => .bad := rfl
@[simp] theorem ev_eChain3 (f g k : F2) (ma mb mc md : ME) : eChain3 f g k ma mb mc md fr h = (ma fr h).bind fun x h1 => (mb fr h1).bind fun y h2 => (Out.ofOpt (f h2 x y) h2).bind fun z h3 => match z with
  | .bl true => (mc fr h3).bind fun u h4 => (Out.ofOpt (g h4 y u) h4).bind fun z h5 => match z with
    | .bl true => (md fr h5).bind fun o h6 => .ofOpt (k h6 u o) h6
    | .bl false => .ok (.bl false) h5
    | _ => .bad
  | .bl false => .ok (.bl false) h3
  | _ => .bad := rfl
@[simp] theorem ev_mulA_int (i j : Int) : mulAD h (.int i) (.int j) = if CMul i j ∨ CMulW i j then some (.int (i * j)) else none := rfl
theorem mulA_str {z : Str} {k : Int} (ok : mulStrOk z k = true) : mulAD h (.str z) (.int k) = some (.str (Txt.mul z k)) := by
  show (if mulStrOk z k = true then some (D.str (Txt.mul z k)) else none) = _
  rw [if_pos ok]
@[simp] theorem ev_mulA_lst (xs : List D) (k : Int) : mulAD h (.lst xs) (.int k) = if -(2 ^ 63) ≤ k ∧ k < 2 ^ 63 ∧ xs.length * k.toNat ≤ sizeLine then some (.lst (List.replicate k.toNat xs).flatten) else none := rfl
@[simp] theorem ev_iRange2 (m1 m2 : ME) : iRange2 m1 m2 fr h = (m1 fr h).bind fun d h1 => (m2 fr h1).bind fun e h2 => match d, e with
  | .int i, .int j => if rngOk i && rngOk j then .ok (rangeD i (j - i).toNat) h2 else .bad
  | _, _ => .bad := rfl
@[simp] theorem ev_gTp (gs : MGs) (d : D) : gTp gs d fr = match d with
  | .tup ds => gs ds fr
  | _ => none := rfl
@[simp] theorem ev_gsCons (g : MG) (gs : MGs) (d : D) (ds : List D) : gsCons g gs (d :: ds) fr = (g d fr).bind fun fr1 => gs ds fr1 := rfl
@[simp] theorem ev_gsNil : gsNil [] fr = some fr := rfl
@[simp] theorem ev_abs (i : Int) : absD h [.int i] = some (.int (if i < 0 then -i else i)) := rfl
end
end Sim
set_option Elab.async false
set_option linter.all false
set_option maxRecDepth 100000
set_option maxHeartbeats 4000000
namespace My
open PySem L2 Sim
def top (i : Nat) : Stmt := PySem.Challenge.pw_calledfirst_k19_books_looked_at.main.body.getD i (.Pass ⟨0, 0, 0, 0⟩)
abbrev s_is_whole : Stmt := top 4
abbrev N_is_whole : List Str := ["thing"]
abbrev s_is_moment : Stmt := top 5
abbrev N_is_moment : List Str := ["thing"]
abbrev s_is_word : Stmt := top 6
abbrev N_is_word : List Str := ["thing", "sign"]
abbrev s_is_rising : Stmt := top 7
abbrev N_is_rising : List Str := ["row", "k"]
abbrev s_is_span : Stmt := top 9
abbrev N_is_span : List Str := ["begin", "end"]
abbrev s_is_change : Stmt := top 10
abbrev N_is_change : List Str := ["thing"]
abbrev s_is_jump : Stmt := top 14
abbrev N_is_jump : List Str := ["thing", "at", "by"]
abbrev s_are_jumps : Stmt := top 15
abbrev N_are_jumps : List Str := ["thing", "jump"]
abbrev s_is_turn : Stmt := top 19
abbrev N_is_turn : List Str := ["thing", "low", "high", "begin", "end", "hand"]
abbrev s_are_turns : Stmt := top 20
abbrev N_are_turns : List Str := ["thing", "most", "low", "turn"]
abbrev s_is_layer : Stmt := top 21
abbrev N_is_layer : List Str := ["thing", "word", "start", "days", "turns"]
abbrev s_is_book : Stmt := top 25
abbrev N_is_book : List Str := ["thing", "layers", "changes", "layer", "change"]
abbrev s__law_hand : Stmt := top 27
abbrev N__law_hand : List Str := ["_law_script", "_law_k", "_law_cell"]
abbrev s__law_take : Stmt := top 28
abbrev N__law_take : List Str := ["_law_hand_here", "_law_many", "_law_digit", "_law_turn", "_law_more", "_law_mixed", "_law_other"]
abbrev s__law_pick : Stmt := top 29
abbrev N__law_pick : List Str := ["_law_hand_here", "_law_some"]
abbrev s__law_great : Stmt := top 30
abbrev N__law_great : List Str := ["_law_hand_here", "_law_found", "_law_k"]
abbrev s__law_moment : Stmt := top 31
abbrev N__law_moment : List Str := ["_law_hand_here", "_law_way"]
abbrev s__law_words : Stmt := top 32
abbrev N__law_words : List Str := ["_law_hand_here", "_law_many", "_law_signs", "_law_begin", "_law_step", "_law_stem", "_law_at", "_law_short", "_law_words_here", "_law_k", "_law_behind", "_law_sign"]
abbrev s__law_jumps : Stmt := top 33
abbrev N__law_jumps : List Str := ["_law_hand_here", "_law_most", "_law_found", "_law_at", "_law_k", "_law_way", "_law_by"]
abbrev s__law_minute : Stmt := top 34
abbrev N__law_minute : List Str := ["_law_hand_here", "_law_days", "_law_way", "_law_day"]
abbrev s__law_layer : Stmt := top 35
abbrev N__law_layer : List Str := ["_law_hand_here", "_law_word", "_law_names", "_law_days", "_law_most", "_law_start", "_law_ends", "_law_k", "_law_turns"]
abbrev s__law_change : Stmt := top 36
abbrev N__law_change : List Str := ["_law_hand_here", "_law_names", "_law_low", "_law_way", "_law_begin", "_law_ending", "_law_end", "_law_at", "_law_other"]
abbrev s__law_jump_row : Stmt := top 37
abbrev N__law_jump_row : List Str := ["_law_hand_here", "_law_many", "_law_found", "_law_at", "_law_k"]
abbrev s__law_good : Stmt := top 38
abbrev N__law_good : List Str := ["_law_hand_here", "_law_names", "_law_words_here", "_law_full", "_law_more", "_law_jumps_here", "_law_layers", "_law_k", "_law_changes", "_law_one"]
abbrev s__law_odd : Stmt := top 39
abbrev N__law_odd : List Str := ["_law_hand_here", "_law_thing", "_law_way"]
abbrev s__law_spoilt : Stmt := top 40
abbrev N__law_spoilt : List Str := ["_law_hand_here", "_law_thing", "_law_deep", "_law_row", "_law_way", "_law_at"]
abbrev s__law_is_whole : Stmt := top 41
abbrev N__law_is_whole : List Str := ["_law_thing", "_law_low", "_law_high"]
abbrev s__law_is_row : Stmt := top 42
abbrev N__law_is_row : List Str := ["_law_thing", "_law_many"]
abbrev s__law_is_word : Stmt := top 43
abbrev N__law_is_word : List Str := ["_law_thing", "_law_sign"]
abbrev s__law_are_jumps : Stmt := top 44
abbrev N__law_are_jumps : List Str := ["_law_thing", "_law_ahead", "_law_one"]
abbrev s__law_is_layer : Stmt := top 45
abbrev N__law_is_layer : List Str := ["_law_thing", "_law_ahead", "_law_one"]
abbrev s__law_is_change : Stmt := top 46
abbrev N__law_is_change : List Str := ["_law_thing", "_law_word"]
abbrev s__law_is_book : Stmt := top 47
abbrev N__law_is_book : List Str := ["_law_thing", "_law_one", "_law_words_here"]
abbrev s__law_same : Stmt := top 48
abbrev N__law_same : List Str := ["_law_found", "_law_due"]
abbrev s_law : Stmt := top 49
abbrev N_law : List Str := ["_law_script", "_law_k", "_law_hand_here", "_law_good_here", "_law_thing", "_law_some", "_law_one"]
/-- what the top has left -/
structure Tops (K : PySem.W.Frag) (mg : Str → Option Value) : Prop where
  d_is_whole : Def K mg "is_whole" "is_whole" s_is_whole ["thing"]
  d_is_moment : Def K mg "is_moment" "is_moment" s_is_moment ["thing"]
  d_is_word : Def K mg "is_word" "is_word" s_is_word ["thing"]
  d_is_rising : Def K mg "is_rising" "is_rising" s_is_rising ["row"]
  d_is_span : Def K mg "is_span" "is_span" s_is_span ["begin", "end"]
  d_is_change : Def K mg "is_change" "is_change" s_is_change ["thing"]
  d_is_jump : Def K mg "is_jump" "is_jump" s_is_jump ["thing"]
  d_are_jumps : Def K mg "are_jumps" "are_jumps" s_are_jumps ["thing"]
  d_is_turn : Def K mg "is_turn" "is_turn" s_is_turn ["thing", "low", "high"]
  d_are_turns : Def K mg "are_turns" "are_turns" s_are_turns ["thing", "most"]
  d_is_layer : Def K mg "is_layer" "is_layer" s_is_layer ["thing"]
  d_is_book : Def K mg "is_book" "is_book" s_is_book ["thing"]
  d__law_hand : Def K mg "_law_hand" "_law_hand" s__law_hand ["_law_script", "_law_k"]
  d__law_take : Def K mg "_law_take" "_law_take" s__law_take ["_law_hand_here", "_law_many"]
  d__law_pick : Def K mg "_law_pick" "_law_pick" s__law_pick ["_law_hand_here", "_law_some"]
  d__law_great : Def K mg "_law_great" "_law_great" s__law_great ["_law_hand_here"]
  d__law_moment : Def K mg "_law_moment" "_law_moment" s__law_moment ["_law_hand_here"]
  d__law_words : Def K mg "_law_words" "_law_words" s__law_words ["_law_hand_here", "_law_many"]
  d__law_jumps : Def K mg "_law_jumps" "_law_jumps" s__law_jumps ["_law_hand_here", "_law_most"]
  d__law_minute : Def K mg "_law_minute" "_law_minute" s__law_minute ["_law_hand_here", "_law_days"]
  d__law_layer : Def K mg "_law_layer" "_law_layer" s__law_layer ["_law_hand_here", "_law_word", "_law_names", "_law_days", "_law_most"]
  d__law_change : Def K mg "_law_change" "_law_change" s__law_change ["_law_hand_here", "_law_names", "_law_low"]
  d__law_jump_row : Def K mg "_law_jump_row" "_law_jump_row" s__law_jump_row ["_law_hand_here", "_law_many"]
  d__law_good : Def K mg "_law_good" "_law_good" s__law_good ["_law_hand_here"]
  d__law_odd : Def K mg "_law_odd" "_law_odd" s__law_odd ["_law_hand_here", "_law_thing"]
  d__law_spoilt : Def K mg "_law_spoilt" "_law_spoilt" s__law_spoilt ["_law_hand_here", "_law_thing", "_law_deep"]
  d__law_is_whole : Def K mg "_law_is_whole" "_law_is_whole" s__law_is_whole ["_law_thing", "_law_low", "_law_high"]
  d__law_is_row : Def K mg "_law_is_row" "_law_is_row" s__law_is_row ["_law_thing", "_law_many"]
  d__law_is_word : Def K mg "_law_is_word" "_law_is_word" s__law_is_word ["_law_thing"]
  d__law_are_jumps : Def K mg "_law_are_jumps" "_law_are_jumps" s__law_are_jumps ["_law_thing"]
  d__law_is_layer : Def K mg "_law_is_layer" "_law_is_layer" s__law_is_layer ["_law_thing"]
  d__law_is_change : Def K mg "_law_is_change" "_law_is_change" s__law_is_change ["_law_thing"]
  d__law_is_book : Def K mg "_law_is_book" "_law_is_book" s__law_is_book ["_law_thing"]
  d__law_same : Def K mg "_law_same" "_law_same" s__law_same ["_law_found", "_law_due"]
  n_abs : mg "abs" = none
  n_all : mg "all" = none
  n_bool : mg "bool" = none
  n_int : mg "int" = none
  n_isinstance : mg "isinstance" = none
  n_len : mg "len" = none
  n_list : mg "list" = none
  n_max : mg "max" = none
  n_min : mg "min" = none
  n_range : mg "range" = none
  n_set : mg "set" = none
  n_sorted : mg "sorted" = none
  n_str : mg "str" = none
  n_tuple : mg "tuple" = none
  g_SIGNS : ∃ t, mg "SIGNS" = some (.str "abcdefghijklmnopqrstuvwxyz0123456789" t)
  g_LATEST : ∃ t, mg "LATEST" = some (.int 1000000000000000000000000000000000000000000000000000000000000 t)
  g_DAY : ∃ t, mg "DAY" = some (.int 1440 t)
  g_MOST_JUMPS : ∃ t, mg "MOST_JUMPS" = some (.int 8 t)
  g_FARTHEST : ∃ t, mg "FARTHEST" = some (.int 1440 t)
  g_MOST_DAYS : ∃ t, mg "MOST_DAYS" = some (.int 60 t)
  g_MOST_TURNS : ∃ t, mg "MOST_TURNS" = some (.int 12 t)
  g_MOST_LAYERS : ∃ t, mg "MOST_LAYERS" = some (.int 4 t)
  g_MOST_CHANGES : ∃ t, mg "MOST_CHANGES" = some (.int 24 t)
def b_is_whole : MS :=
    sRet (eAndM (isiM "int" (eVar 0)) (eNotM (isiM "bool" (eVar 0))))
def m_is_whole : MF := fnM 1 b_is_whole
def b_is_moment : MS :=
    sRet (eAndM (eCall m_is_whole 1 (aCons (eVar 0) (aNil))) (eChain (leD) (ltD) (eC (.int 0)) (eVar 0) (eC (.int 1000000000000000000000000000000000000000000000000000000000000))))
def m_is_moment : MF := fnM 1 b_is_moment
def q1_is_word : MS :=
    sIf (tOrM (tNotM (tTru (isiM "str" (eVar 0)))) (tNotM (tOfE (eChain (leD) (leD) (eC (.int 1)) (eFn lenD (aCons (eVar 0) (aNil))) (eC (.int 8))))))
    (sRet (eC (.bl false)))
    (sNext)
def x2_is_word : ME :=
    e2 (inD false) (eVar 1) (eC (.str "abcdefghijklmnopqrstuvwxyz0123456789"))
def b_is_word : MS :=
    sSeq (q1_is_word)
    (sRet (eFn allD (aCons (eF (fLc (iOf (eVar 0)) (gNm 1) (tYesM) (x2_is_word) [1])) (aNil))))
def m_is_word : MF := fnM 2 b_is_word
def x1_is_rising : ME :=
    e2 (ltD) (e2 ixD (eVar 0) (eVar 1)) (e2 ixD (eVar 0) (e2 addD (eVar 1) (eC (.int 1))))
def b_is_rising : MS :=
    sRet (eFn allD (aCons (eF (fLc (iRange1 (e2 subD (eFn lenD (aCons (eVar 0) (aNil))) (eC (.int 1)))) (gNm 1) (tYesM) (x1_is_rising) [1])) (aNil)))
def m_is_rising : MF := fnM 2 b_is_rising
def q1_is_span : MS :=
    sIf (tNotM (tTru (eCall m_is_moment 1 (aCons (eVar 0) (aNil)))))
    (sRet (eC (.bl false)))
    (sNext)
def b_is_span : MS :=
    sSeq (q1_is_span)
    (sRet (eOrM (e2 (isND false) (eVar 1) (eC .non)) (eAndM (eCall m_is_moment 1 (aCons (eVar 1) (aNil))) (e2 (ltD) (eVar 0) (eVar 1)))))
def m_is_span : MF := fnM 2 b_is_span
def q1_is_change : MS :=
    sIf (tOrM (tNotM (tTru (isiM "tuple" (eVar 0)))) (tOrM (tNotM (tOfE (eChain (leD) (leD) (eC (.int 4)) (eFn lenD (aCons (eVar 0) (aNil))) (eC (.int 5))))) (tNotM (tTru (isiM "str" (e2 ixD (eVar 0) (eC (.int 0))))))))
    (sRet (eC (.bl false)))
    (sNext)
def q2_is_change : MS :=
    sIf (tOrM (t2 (eqD) (eFn lenD (aCons (eVar 0) (aNil))) (eC (.int 4))) (tOrM (tNotM (tTru (eCall m_is_word 1 (aCons (e2 ixD (eVar 0) (eC (.int 2))) (aNil))))) (t2 (eqD) (e2 ixD (eVar 0) (eC (.int 1))) (e2 ixD (eVar 0) (eC (.int 2))))))
    (sRet (eC (.bl false)))
    (sNext)
def q3_is_change : MS :=
    sIf (tOrM (t2 (inD true) (e2 ixD (eVar 0) (eC (.int 0))) (eTup (aCons (eC (.str "away")) (aCons (eC (.str "on")) (aNil))))) (t2 (eqD) (eFn lenD (aCons (eVar 0) (aNil))) (eC (.int 5))))
    (sRet (eC (.bl false)))
    (sNext)
def q4_is_change : MS :=
    sIf (t2 (eqD) (e2 ixD (eVar 0) (eC (.int 0))) (eC (.str "for")))
    (q2_is_change)
    (q3_is_change)
def b_is_change : MS :=
    sSeq (q1_is_change)
    (sSeq (q4_is_change)
    (sRet (eAndM (eCall m_is_word 1 (aCons (e2 ixD (eVar 0) (eC (.int 1))) (aNil))) (eCall m_is_span 2 (aCons (e2 ixD (eVar 0) (negM (eC (.int 2)))) (aCons (e2 ixD (eVar 0) (negM (eC (.int 1)))) (aNil)))))))
def m_is_change : MF := fnM 1 b_is_change
def q1_is_jump : MS :=
    sIf (tOrM (tNotM (tTru (isiM "tuple" (eVar 0)))) (t2 (neD) (eFn lenD (aCons (eVar 0) (aNil))) (eC (.int 2))))
    (sRet (eC (.bl false)))
    (sNext)
def q2_is_jump : MS :=
    sIf (tOrM (tNotM (tTru (eCall m_is_moment 1 (aCons (eVar 1) (aNil))))) (t2 (eqD) (eVar 1) (eC (.int 0))))
    (sRet (eC (.bl false)))
    (sNext)
def b_is_jump : MS :=
    sSeq (q1_is_jump)
    (sSeq (sAsg (eVar 0) (gTp (gsCons (gNm 1) (gsCons (gNm 2) (gsNil)))))
    (sSeq (q2_is_jump)
    (sRet (eAndM (eCall m_is_whole 1 (aCons (eVar 2) (aNil))) (eAndM (e2 (neD) (eVar 2) (eC (.int 0))) (e2 (leD) (eFn absD (aCons (eVar 2) (aNil))) (eC (.int 1440))))))))
def m_is_jump : MF := fnM 3 b_is_jump
def q1_are_jumps : MS :=
    sIf (tOrM (tNotM (tTru (isiM "tuple" (eVar 0)))) (t2 (gtD) (eFn lenD (aCons (eVar 0) (aNil))) (eC (.int 8))))
    (sRet (eC (.bl false)))
    (sNext)
def x2_are_jumps : ME :=
    eCall m_is_jump 1 (aCons (eVar 1) (aNil))
def q3_are_jumps : MS :=
    sIf (tNotM (tTru (eFn allD (aCons (eF (fLc (iOf (eVar 0)) (gNm 1) (tYesM) (x2_are_jumps) [1])) (aNil)))))
    (sRet (eC (.bl false)))
    (sNext)
def x4_are_jumps : ME :=
    e2 ixD (eVar 1) (eC (.int 0))
def b_are_jumps : MS :=
    sSeq (q1_are_jumps)
    (sSeq (q3_are_jumps)
    (sRet (eCall m_is_rising 1 (aCons (eF (fLc (iOf (eVar 0)) (gNm 1) (tYesM) (x4_are_jumps) [1])) (aNil)))))
def m_are_jumps : MF := fnM 2 b_are_jumps
def q1_is_turn : MS :=
    sIf (tOrM (tNotM (tTru (isiM "tuple" (eVar 0)))) (t2 (neD) (eFn lenD (aCons (eVar 0) (aNil))) (eC (.int 3))))
    (sRet (eC (.bl false)))
    (sNext)
def q2_is_turn : MS :=
    sIf (tOrM (tNotM (tTru (eCall m_is_whole 1 (aCons (eVar 3) (aNil))))) (tOrM (tNotM (tTru (eCall m_is_whole 1 (aCons (eVar 4) (aNil))))) (tNotM (tTru (eCall m_is_word 1 (aCons (eVar 5) (aNil)))))))
    (sRet (eC (.bl false)))
    (sNext)
def b_is_turn : MS :=
    sSeq (q1_is_turn)
    (sSeq (sAsg (eVar 0) (gTp (gsCons (gNm 3) (gsCons (gNm 4) (gsCons (gNm 5) (gsNil))))))
    (sSeq (q2_is_turn)
    (sRet (eChain3 (leD) (ltD) (leD) (eVar 1) (eVar 3) (eVar 4) (eVar 2)))))
def m_is_turn : MF := fnM 6 b_is_turn
def q1_are_turns : MS :=
    sIf (tOrM (tNotM (tTru (isiM "tuple" (eVar 0)))) (t2 (gtD) (eFn lenD (aCons (eVar 0) (aNil))) (eC (.int 12))))
    (sRet (eC (.bl false)))
    (sNext)
def q2_are_turns : MS :=
    sIf (tNotM (tTru (eCall m_is_turn 3 (aCons (eVar 3) (aCons (eVar 2) (aCons (eVar 1) (aNil)))))))
    (sRet (eC (.bl false)))
    (sNext)
def q3_are_turns : MS :=
    sSeq (q2_are_turns)
    (sAsg (e2 ixD (eVar 3) (eC (.int 1))) (gNm 2))
def b_are_turns : MS :=
    sSeq (q1_are_turns)
    (sSeq (sAsg (eC (.int 0)) (gNm 2))
    (sSeq (sFor (iOf (eVar 0)) (gNm 3)
    (q3_are_turns))
    (sRet (eC (.bl true)))))
def m_are_turns : MF := fnM 4 b_are_turns
def q1_is_layer : MS :=
    sIf (tOrM (tNotM (tTru (isiM "tuple" (eVar 0)))) (t2 (neD) (eFn lenD (aCons (eVar 0) (aNil))) (eC (.int 4))))
    (sRet (eC (.bl false)))
    (sNext)
def q2_is_layer : MS :=
    sIf (tOrM (tNotM (tTru (eCall m_is_word 1 (aCons (eVar 1) (aNil))))) (tOrM (tNotM (tTru (eCall m_is_whole 1 (aCons (eVar 2) (aNil))))) (tNotM (tTru (eCall m_is_whole 1 (aCons (eVar 3) (aNil)))))))
    (sRet (eC (.bl false)))
    (sNext)
def q3_is_layer : MS :=
    sIf (tOrM (tNotM (tOfE (eChain (leD) (leD) (eC (.int 1)) (eVar 3) (eC (.int 60))))) (tNotM (tOfE (eChain (leD) (ltD) (eC (.int 0)) (eVar 2) (e2 mulAD (eC (.int 1440)) (eVar 3))))))
    (sRet (eC (.bl false)))
    (sNext)
def b_is_layer : MS :=
    sSeq (q1_is_layer)
    (sSeq (sAsg (eVar 0) (gTp (gsCons (gNm 1) (gsCons (gNm 2) (gsCons (gNm 3) (gsCons (gNm 4) (gsNil)))))))
    (sSeq (q2_is_layer)
    (sSeq (q3_is_layer)
    (sRet (eCall m_are_turns 2 (aCons (eVar 4) (aCons (e2 mulAD (eC (.int 1440)) (eVar 3)) (aNil))))))))
def m_is_layer : MF := fnM 5 b_is_layer
def q1_is_book : MS :=
    sIf (tOrM (tNotM (tTru (isiM "tuple" (eVar 0)))) (tOrM (t2 (neD) (eFn lenD (aCons (eVar 0) (aNil))) (eC (.int 3))) (tNotM (tTru (eCall m_are_jumps 1 (aCons (e2 ixD (eVar 0) (eC (.int 0))) (aNil)))))))
    (sRet (eC (.bl false)))
    (sNext)
def q2_is_book : MS :=
    sIf (tOrM (tNotM (tTru (isiM "tuple" (eVar 1)))) (t2 (gtD) (eFn lenD (aCons (eVar 1) (aNil))) (eC (.int 4))))
    (sRet (eC (.bl false)))
    (sNext)
def q3_is_book : MS :=
    sIf (tOrM (tNotM (tTru (isiM "tuple" (eVar 2)))) (t2 (gtD) (eFn lenD (aCons (eVar 2) (aNil))) (eC (.int 24))))
    (sRet (eC (.bl false)))
    (sNext)
def x4_is_book : ME :=
    eCall m_is_layer 1 (aCons (eVar 3) (aNil))
def x5_is_book : ME :=
    eCall m_is_change 1 (aCons (eVar 4) (aNil))
def q6_is_book : MS :=
    sIf (tOrM (tNotM (tTru (eFn allD (aCons (eF (fLc (iOf (eVar 1)) (gNm 3) (tYesM) (x4_is_book) [3])) (aNil))))) (tNotM (tTru (eFn allD (aCons (eF (fLc (iOf (eVar 2)) (gNm 4) (tYesM) (x5_is_book) [4])) (aNil))))))
    (sRet (eC (.bl false)))
    (sNext)
def x7_is_book : ME :=
    e2 ixD (eVar 3) (eC (.int 0))
def r8_is_book : MS :=
    sSeq (q6_is_book)
    (sRet (e2 (eqD) (lenSetM (eF (fLc (iOf (eVar 1)) (gNm 3) (tYesM) (x7_is_book) [3]))) (eFn lenD (aCons (eVar 1) (aNil)))))
def b_is_book : MS :=
    sSeq (q1_is_book)
    (sSeq (sPar 1 2 (aCons (e2 ixD (eVar 0) (eC (.int 1))) (aCons (e2 ixD (eVar 0) (eC (.int 2))) (aNil))))
    (sSeq (q2_is_book)
    (sSeq (q3_is_book)
    (r8_is_book))))
def m_is_book : MF := fnM 5 b_is_book
def q1__law_hand : MS :=
    sIf (t2 (ltD) (eVar 1) (eFn lenD (aCons (eVar 0) (aNil))))
    (sAsg (e2 ixD (eVar 0) (eVar 1)) (gNm 2))
    (sNext)
def b__law_hand : MS :=
    sSeq (sAsg (eC (.int 0)) (gNm 2))
    (sSeq (q1__law_hand)
    (sRet (eCell (fLst (aCons (e2 mulAD (eVar 2) (eFn intD (aCons (e2 (geD) (eVar 2) (e2 powD (eC (.int 10)) (eC (.int 18)))) (aNil)))) (aCons (e2 addD (e2 addD (e2 modD (eVar 2) (eC (.int 2305843009213693951))) (e2 mulAD (eC (.int 7919)) (eVar 1))) (eC (.int 3))) (aCons (eC (.int 0)) (aNil))))))))
def m__law_hand : MF := fnM 3 b__law_hand
def q1__law_take : MS :=
    sIf (t2 (gtD) (e2 ixD (eVar 0) (eC (.int 0))) (eC (.int 0)))
    (sSeq (sAsg (e2 modD (e2 ixD (eVar 0) (eC (.int 0))) (eVar 1)) (gNm 2))
    (sSeq (sSetC (eVar 0) (eC (.int 0)) (e2 divD (e2 ixD (eVar 0) (eC (.int 0))) (eVar 1)))
    (sRet (eVar 2))))
    (sNext)
def r2__law_take : MS :=
    sSeq (sAsg (e2 modD (e2 mulAD (e2 addD (e2 ixD (eVar 0) (eC (.int 1))) (e2 mulAD (eC (.int 1299709)) (eVar 3))) (eVar 4)) (eC (.int 2305843009213693921))) (gNm 5))
    (sSeq (sAsg (e2 addD (e2 addD (e2 modD (eVar 5) (eC (.int 1000003))) (e2 mulAD (eVar 3) (eC (.int 99991)))) (eC (.int 11))) (gNm 6))
    (sSeq (sAsg (e2 modD (e2 mulAD (eVar 5) (eVar 6)) (eC (.int 2305843009213693907))) (gNm 5))
    (sRet (e2 modD (e2 addD (e2 divD (eVar 5) (eC (.int 97))) (e2 divD (eVar 5) (eC (.int 1000033)))) (eVar 1)))))
def b__law_take : MS :=
    sSeq (q1__law_take)
    (sSeq (sSetC (eVar 0) (eC (.int 2)) (e2 addD (e2 ixD (eVar 0) (eC (.int 2))) (eC (.int 1))))
    (sSeq (sAsg (e2 ixD (eVar 0) (eC (.int 2))) (gNm 3))
    (sSeq (sAsg (e2 addD (e2 addD (eC (.int 48271)) (e2 mulAD (e2 mulAD (eC (.int 2)) (eVar 3)) (eVar 3))) (e2 mulAD (eC (.int 65537)) (eVar 3))) (gNm 4))
    (r2__law_take))))
def m__law_take : MF := fnM 7 b__law_take
def b__law_pick : MS :=
    sRet (e2 ixD (eVar 1) (eCall m__law_take 2 (aCons (eVar 0) (aCons (eFn lenD (aCons (eVar 1) (aNil))) (aNil)))))
def m__law_pick : MF := fnM 2 b__law_pick
def q1__law_great : MS :=
    sAsg (e2 addD (e2 mulAD (eVar 1) (e2 powD (eC (.int 10)) (eC (.int 15)))) (eCall m__law_take 2 (aCons (eVar 0) (aCons (e2 powD (eC (.int 10)) (eC (.int 15))) (aNil))))) (gNm 1)
def b__law_great : MS :=
    sSeq (sAsg (eC (.int 0)) (gNm 1))
    (sSeq (sFor (iRange1 (eC (.int 4))) (gNm 2)
    (q1__law_great))
    (sRet (eVar 1)))
def m__law_great : MF := fnM 3 b__law_great
def q1__law_moment : MS :=
    sIf (t2 (ltD) (eVar 1) (eC (.int 5)))
    (sRet (eCall m__law_take 2 (aCons (eVar 0) (aCons (eC (.int 20000)) (aNil)))))
    (sNext)
def q2__law_moment : MS :=
    sIf (t2 (eqD) (eVar 1) (eC (.int 5)))
    (sRet (eCall m__law_take 2 (aCons (eVar 0) (aCons (eC (.int 9000000)) (aNil)))))
    (sNext)
def q3__law_moment : MS :=
    sIf (t2 (eqD) (eVar 1) (eC (.int 6)))
    (sRet (eCall m__law_great 1 (aCons (eVar 0) (aNil))))
    (sNext)
def b__law_moment : MS :=
    sSeq (sAsg (eCall m__law_take 2 (aCons (eVar 0) (aCons (eC (.int 8)) (aNil)))) (gNm 1))
    (sSeq (q1__law_moment)
    (sSeq (q2__law_moment)
    (sSeq (q3__law_moment)
    (sRet (e2 subD (e2 subD (e2 powD (eC (.int 10)) (eC (.int 60))) (eC (.int 1))) (eCall m__law_take 2 (aCons (eVar 0) (aCons (eC (.int 9000)) (aNil)))))))))
def m__law_moment : MF := fnM 2 b__law_moment
def q1__law_words : MS :=
    sIf (tAndM (t2 (eqD) (eVar 7) (eC (.int 1))) (t2 (eqD) (e2 modD (eVar 9) (eC (.int 2))) (eC (.int 1))))
    (sAsg (eC (.str "")) (gNm 10))
    (sNext)
def q2__law_words : MS :=
    sSeq (sAsg (eSlice (eVar 5) (oSome (eVar 6)) (oNone)) (gNm 10))
    (sSeq (q1__law_words)
    (sSeq (sAsg (e2 ixD (eVar 2) (e2 modD (e2 addD (eVar 3) (e2 mulAD (eVar 4) (eVar 9))) (eC (.int 36)))) (gNm 11))
    (sAppO 8 (e2 addD (e2 addD (eSlice (eVar 5) (oNone) (oSome (eVar 6))) (eVar 11)) (eVar 10)))))
def r3__law_words : MS :=
    sSeq (sAsg (eCall m__law_take 2 (aCons (eVar 0) (aCons (eC (.int 2)) (aNil)))) (gNm 7))
    (sSeq (sOwn 8 (fLst (aNil)))
    (sSeq (sFor (iRange1 (eVar 1)) (gNm 9)
    (q2__law_words))
    (sFreeze 8 (sRet (eVar 8)))))
def b__law_words : MS :=
    sSeq (sAsg (eC (.str "abcdefghijklmnopqrstuvwxyz0123456789")) (gNm 2))
    (sSeq (sPar 3 4 (aCons (eCall m__law_take 2 (aCons (eVar 0) (aCons (eC (.int 36)) (aNil)))) (aCons (eCall m__law_pick 2 (aCons (eVar 0) (aCons (eF (fLst (aCons (eC (.int 1)) (aCons (eC (.int 5)) (aCons (eC (.int 7)) (aCons (eC (.int 11)) (aCons (eC (.int 13)) (aCons (eC (.int 17)) (aNil))))))))) (aNil)))) (aNil))))
    (sSeq (sAsg (e2 mulAD (e2 ixD (eVar 2) (eCall m__law_take 2 (aCons (eVar 0) (aCons (eC (.int 36)) (aNil))))) (eCall m__law_pick 2 (aCons (eVar 0) (aCons (eF (fLst (aCons (eC (.int 0)) (aCons (eC (.int 1)) (aCons (eC (.int 0)) (aCons (eC (.int 2)) (aCons (eC (.int 7)) (aNil)))))))) (aNil))))) (gNm 5))
    (sSeq (sAsg (eCall m__law_take 2 (aCons (eVar 0) (aCons (e2 addD (eFn lenD (aCons (eVar 5) (aNil))) (eC (.int 1))) (aNil)))) (gNm 6))
    (r3__law_words))))
def m__law_words : MF := fnM 12 b__law_words
def q1__law_jumps : MS :=
    sIf (t2 (ltD) (eVar 5) (eC (.int 3)))
    (sAsg (e2 addD (e2 addD (eVar 3) (eC (.int 1))) (eCall m__law_take 2 (aCons (eVar 0) (aCons (eC (.int 4000)) (aNil))))) (gNm 3))
    (sAsg (e2 addD (e2 addD (eVar 3) (eC (.int 1))) (eCall m__law_moment 1 (aCons (eVar 0) (aNil)))) (gNm 3))
def q2__law_jumps : MS :=
    sIf (t2 (eqD) (eVar 5) (eC (.int 0)))
    (sAsg (e2 addD (e2 addD (eVar 3) (eC (.int 1))) (eCall m__law_take 2 (aCons (eVar 0) (aCons (eC (.int 5)) (aNil))))) (gNm 3))
    (q1__law_jumps)
def q3__law_jumps : MS :=
    sIf (t2 (eqD) (eVar 6) (eC (.int 0)))
    (sAsg (e2 subD (eCall m__law_take 2 (aCons (eVar 0) (aCons (eC (.int 2880)) (aNil)))) (eC (.int 1440))) (gNm 6))
    (sNext)
def q4__law_jumps : MS :=
    sIf (tAndM (t2 (gtD) (eVar 6) (negM (eC (.int 1)))) (t2 (ltD) (eVar 6) (eC (.int 1))))
    (sAsg (eC (.int 1440)) (gNm 6))
    (sNext)
def q5__law_jumps : MS :=
    sIf (t2 (ltD) (eVar 3) (e2 powD (eC (.int 10)) (eC (.int 60))))
    (sAppO 2 (eTup (aCons (eVar 3) (aCons (eVar 6) (aNil)))))
    (sNext)
def q6__law_jumps : MS :=
    sSeq (sAsg (eCall m__law_take 2 (aCons (eVar 0) (aCons (eC (.int 4)) (aNil)))) (gNm 5))
    (sSeq (q2__law_jumps)
    (sSeq (sAsg (eCall m__law_pick 2 (aCons (eVar 0) (aCons (eF (fLst (aCons (eC (.int 60)) (aCons (negM (eC (.int 60))) (aCons (eC (.int 30)) (aCons (negM (eC (.int 30))) (aCons (eC (.int 1)) (aCons (negM (eC (.int 1))) (aCons (eC (.int 1440)) (aCons (negM (eC (.int 1440))) (aCons (eC (.int 0)) (aCons (eC (.int 0)) (aNil))))))))))))) (aNil)))) (gNm 6))
    (sSeq (q3__law_jumps)
    (sSeq (q4__law_jumps)
    (q5__law_jumps)))))
def b__law_jumps : MS :=
    sSeq (sOwn 2 (fLst (aNil)))
    (sSeq (sAsg (eC (.int 0)) (gNm 3))
    (sSeq (sFor (iRange1 (eCall m__law_take 2 (aCons (eVar 0) (aCons (e2 addD (eVar 1) (eC (.int 1))) (aNil))))) (gNm 4)
    (q6__law_jumps))
    (sRet (eFn tupleD (aCons (eOwn 2) (aNil))))))
def m__law_jumps : MF := fnM 7 b__law_jumps
def q1__law_minute : MS :=
    sIf (t2 (eqD) (eVar 2) (eC (.int 0)))
    (sRet (e2 mulAD (eC (.int 1440)) (e2 addD (eVar 3) (eCall m__law_take 2 (aCons (eVar 0) (aCons (eC (.int 2)) (aNil)))))))
    (sNext)
def q2__law_minute : MS :=
    sIf (t2 (eqD) (eVar 2) (eC (.int 1)))
    (sRet (e2 addD (e2 mulAD (eC (.int 1440)) (eVar 3)) (eCall m__law_pick 2 (aCons (eVar 0) (aCons (eF (fLst (aCons (eC (.int 480)) (aCons (eC (.int 540)) (aCons (eC (.int 1020)) (aCons (eC (.int 1080)) (aCons (eC (.int 1320)) (aCons (eC (.int 360)) (aNil))))))))) (aNil))))))
    (sNext)
def b__law_minute : MS :=
    sSeq (sAsg (eCall m__law_take 2 (aCons (eVar 0) (aCons (eC (.int 3)) (aNil)))) (gNm 2))
    (sSeq (sAsg (eCall m__law_take 2 (aCons (eVar 0) (aCons (eVar 1) (aNil)))) (gNm 3))
    (sSeq (q1__law_minute)
    (sSeq (q2__law_minute)
    (sRet (e2 addD (e2 mulAD (eC (.int 1440)) (eVar 3)) (eCall m__law_take 2 (aCons (eVar 0) (aCons (eC (.int 1441)) (aNil)))))))))
def m__law_minute : MF := fnM 4 b__law_minute
def q1__law_layer : MS :=
    sIf (t2 (eqD) (eCall m__law_take 2 (aCons (eVar 0) (aCons (eC (.int 8)) (aNil)))) (eC (.int 0)))
    (sRet (eTup (aCons (eVar 1) (aCons (eVar 5) (aCons (eVar 3) (aCons (eTup (aCons (eTup (aCons (eC (.int 0)) (aCons (e2 mulAD (eC (.int 1440)) (eVar 3)) (aCons (eCall m__law_pick 2 (aCons (eVar 0) (aCons (eVar 2) (aNil)))) (aNil))))) (aNil))) (aNil)))))))
    (sNext)
def x2__law_layer : ME :=
    eCall m__law_minute 2 (aCons (eVar 0) (aCons (eVar 3) (aNil)))
def q3__law_layer : MS :=
    sIf (t2 (gtD) (eCall m__law_take 2 (aCons (eVar 0) (aCons (eC (.int 4)) (aNil)))) (eC (.int 0)))
    (sAppO 8 (eTup (aCons (e2 ixD (eVar 6) (eVar 7)) (aCons (e2 ixD (eVar 6) (e2 addD (eVar 7) (eC (.int 1)))) (aCons (eCall m__law_pick 2 (aCons (eVar 0) (aCons (eVar 2) (aNil)))) (aNil))))))
    (sNext)
def q4__law_layer : MS :=
    q3__law_layer
def r5__law_layer : MS :=
    sSeq (sFor (iRange1 (e2 subD (eFn lenD (aCons (eVar 6) (aNil))) (eC (.int 1)))) (gNm 7)
    (q4__law_layer))
    (sRet (eTup (aCons (eVar 1) (aCons (eVar 5) (aCons (eVar 3) (aCons (eFn tupleD (aCons (eOwn 8) (aNil))) (aNil)))))))
def b__law_layer : MS :=
    sSeq (sAsg (e2 mulAD (eCall m__law_take 2 (aCons (eVar 0) (aCons (e2 mulAD (eC (.int 1440)) (eVar 3)) (aNil)))) (eCall m__law_take 2 (aCons (eVar 0) (aCons (eC (.int 2)) (aNil))))) (gNm 5))
    (sSeq (q1__law_layer)
    (sSeq (sAsg (eF (sortSetM (eF (fLc (iRange1 (e2 addD (eC (.int 1)) (eVar 4))) (gNm 7) (tYesM) (x2__law_layer) [7])))) (gNm 6))
    (sSeq (sOwn 8 (fLst (aNil)))
    (r5__law_layer))))
def m__law_layer : MF := fnM 9 b__law_layer
def q1__law_change : MS :=
    sIf (t2 (eqD) (eCall m__law_take 2 (aCons (eVar 0) (aCons (eC (.int 8)) (aNil)))) (eC (.int 0)))
    (sAsg (eCall m__law_moment 1 (aCons (eVar 0) (aNil))) (gNm 4))
    (sNext)
def q2__law_change : MS :=
    sIf (t2 (eqD) (eVar 5) (eC (.int 1)))
    (sAsg (e2 addD (eVar 4) (eC (.int 1))) (gNm 6))
    (sNext)
def q3__law_change : MS :=
    sIf (t2 (eqD) (eVar 5) (eC (.int 0)))
    (sAsg (eC .non) (gNm 6))
    (q2__law_change)
def q4__law_change : MS :=
    sIf (tAndM (t2 (eqD) (eVar 3) (eC (.int 0))) (t2 (gtD) (eFn lenD (aCons (eVar 1) (aNil))) (eC (.int 1))))
    (sSeq (sAsg (eCall m__law_take 2 (aCons (eVar 0) (aCons (eFn lenD (aCons (eVar 1) (aNil))) (aNil)))) (gNm 7))
    (sSeq (sAsg (e2 modD (e2 addD (e2 addD (eVar 7) (eC (.int 1))) (eCall m__law_take 2 (aCons (eVar 0) (aCons (e2 subD (eFn lenD (aCons (eVar 1) (aNil))) (eC (.int 1))) (aNil))))) (eFn lenD (aCons (eVar 1) (aNil)))) (gNm 8))
    (sRet (eTup (aCons (eC (.str "for")) (aCons (e2 ixD (eVar 1) (eVar 7)) (aCons (e2 ixD (eVar 1) (eVar 8)) (aCons (eVar 4) (aCons (eVar 6) (aNil))))))))))
    (sNext)
def r5__law_change : MS :=
    sSeq (sAsg (eCall m__law_take 2 (aCons (eVar 0) (aCons (eC (.int 6)) (aNil)))) (gNm 5))
    (sSeq (sAsg (eFn min2D (aCons (e2 addD (e2 addD (eVar 4) (eC (.int 1))) (eCall m__law_take 2 (aCons (eVar 0) (aCons (eC (.int 3000)) (aNil))))) (aCons (e2 subD (e2 powD (eC (.int 10)) (eC (.int 60))) (eC (.int 1))) (aNil)))) (gNm 6))
    (sSeq (q3__law_change)
    (sSeq (q4__law_change)
    (sRet (eTup (aCons (eCall m__law_pick 2 (aCons (eVar 0) (aCons (eF (fLst (aCons (eC (.str "away")) (aCons (eC (.str "away")) (aCons (eC (.str "on")) (aNil)))))) (aNil)))) (aCons (eCall m__law_pick 2 (aCons (eVar 0) (aCons (eVar 1) (aNil)))) (aCons (eVar 4) (aCons (eVar 6) (aNil))))))))))
def b__law_change : MS :=
    sSeq (sAsg (eCall m__law_take 2 (aCons (eVar 0) (aCons (eC (.int 3)) (aNil)))) (gNm 3))
    (sSeq (sAsg (e2 addD (eVar 2) (eCall m__law_take 2 (aCons (eVar 0) (aCons (eC (.int 3000)) (aNil))))) (gNm 4))
    (sSeq (q1__law_change)
    (sSeq (sAsg (eFn min2D (aCons (eVar 4) (aCons (e2 subD (e2 powD (eC (.int 10)) (eC (.int 60))) (eC (.int 2))) (aNil)))) (gNm 4))
    (r5__law_change))))
def m__law_change : MF := fnM 9 b__law_change
def q1__law_jump_row : MS :=
    sSeq (sAsg (e2 addD (e2 addD (eVar 3) (eC (.int 1))) (eCall m__law_take 2 (aCons (eVar 0) (aCons (eC (.int 500)) (aNil))))) (gNm 3))
    (sAppO 2 (eTup (aCons (eVar 3) (aCons (eCall m__law_pick 2 (aCons (eVar 0) (aCons (eF (fLst (aCons (eC (.int 60)) (aCons (negM (eC (.int 60))) (aCons (eC (.int 1440)) (aCons (negM (eC (.int 1440))) (aCons (eC (.int 1)) (aCons (negM (eC (.int 1))) (aNil))))))))) (aNil)))) (aNil)))))
def b__law_jump_row : MS :=
    sSeq (sOwn 2 (fLst (aNil)))
    (sSeq (sAsg (eC (.int 0)) (gNm 3))
    (sSeq (sFor (iRange1 (eVar 1)) (gNm 4)
    (q1__law_jump_row))
    (sRet (eFn tupleD (aCons (eOwn 2) (aNil))))))
def m__law_jump_row : MF := fnM 5 b__law_jump_row
def x1__law_good : ME :=
    eCall m__law_layer 5 (aCons (eVar 0) (aCons (e2 ixD (eVar 2) (eVar 7)) (aCons (eVar 1) (aCons (e2 addD (eC (.int 1)) (eCall m__law_take 2 (aCons (eVar 0) (aCons (eC (.int 4)) (aNil))))) (aCons (eC (.int 2)) (aNil))))))
def x2__law_good : ME :=
    eCall m__law_change 3 (aCons (eVar 0) (aCons (eVar 1) (aCons (eC (.int 50)) (aNil))))
def x3__law_good : ME :=
    eCall m__law_layer 5 (aCons (eVar 0) (aCons (e2 ixD (eVar 2) (eVar 7)) (aCons (eVar 1) (aCons (eC (.int 60)) (aCons (eC (.int 13)) (aNil))))))
def q4__law_good : MS :=
    sIf (t2 (eqD) (eVar 3) (eC (.int 0)))
    (sSeq (sAsg (eCall m__law_jump_row 2 (aCons (eVar 0) (aCons (e2 addD (eC (.int 8)) (eFn intD (aCons (e2 (eqD) (eVar 4) (eC (.int 0))) (aNil)))) (aNil)))) (gNm 5))
    (sSeq (sAsg (eF (fLc (iRange1 (e2 addD (eC (.int 4)) (eFn intD (aCons (e2 (eqD) (eVar 4) (eC (.int 1))) (aNil))))) (gNm 7) (tYesM) (x3__law_good) [7])) (gNm 6))
    (sSeq (sAsg (eCall m__law_change 3 (aCons (eVar 0) (aCons (eVar 1) (aCons (eC (.int 50)) (aNil))))) (gNm 9))
    (sAsg (e2 mulAD (eF (fLst (aCons (eVar 9) (aNil)))) (e2 addD (eC (.int 24)) (eFn intD (aCons (e2 (eqD) (eVar 4) (eC (.int 2))) (aNil))))) (gNm 8)))))
    (sNext)
def r5__law_good : MS :=
    sSeq (sAsg (eCall m__law_jumps 2 (aCons (eVar 0) (aCons (eC (.int 3)) (aNil)))) (gNm 5))
    (sSeq (sAsg (eF (fLc (iRange1 (eCall m__law_take 2 (aCons (eVar 0) (aCons (eC (.int 4)) (aNil))))) (gNm 7) (tYesM) (x1__law_good) [7])) (gNm 6))
    (sSeq (sAsg (eF (fLc (iRange1 (eCall m__law_take 2 (aCons (eVar 0) (aCons (eC (.int 4)) (aNil))))) (gNm 7) (tYesM) (x2__law_good) [7])) (gNm 8))
    (sSeq (q4__law_good)
    (sRet (eTup (aCons (eVar 5) (aCons (eFn tupleD (aCons (eVar 6) (aNil))) (aCons (eFn tupleD (aCons (eVar 8) (aNil))) (aNil)))))))))
def b__law_good : MS :=
    sSeq (sAsg (eCall m__law_words 2 (aCons (eVar 0) (aCons (eC (.int 3)) (aNil)))) (gNm 1))
    (sSeq (sAsg (eCall m__law_words 2 (aCons (eVar 0) (aCons (eC (.int 5)) (aNil)))) (gNm 2))
    (sSeq (sAsg (eCall m__law_take 2 (aCons (eVar 0) (aCons (eC (.int 4)) (aNil)))) (gNm 3))
    (sSeq (sAsg (eCall m__law_take 2 (aCons (eVar 0) (aCons (eC (.int 6)) (aNil)))) (gNm 4))
    (r5__law_good))))
def m__law_good : MF := fnM 10 b__law_good
def q1__law_odd : MS :=
    sIf (t2 (eqD) (eVar 2) (eC (.int 0)))
    (sRet (eCall m__law_pick 2 (aCons (eVar 0) (aCons (eF (fLst (aCons (eC (.bl true)) (aCons (eC (.bl false)) (aCons (eC .non) (aCons (negM (eC (.int 1))) (aCons (eC (.int 0)) (aCons (eC (.int 1)) (aCons (e2 powD (eC (.int 10)) (eC (.int 60))) (aCons (eC (.int 61)) (aCons (eC (.int 86400)) (aCons (eC (.int 1441)) (aCons (negM (eC (.int 1441))) (aCons (eC (.int 1440)) (aNil))))))))))))))) (aNil)))))
    (sNext)
def q2__law_odd : MS :=
    sIf (t2 (eqD) (eVar 2) (eC (.int 1)))
    (sRet (eCall m__law_pick 2 (aCons (eVar 0) (aCons (eF (fLst (aCons (eC (.str "")) (aCons (eC (.str "a")) (aCons (eC (.str "abcdefghi")) (aCons (eC (.str "A")) (aCons (eC (.str "on")) (aCons (eC (.str "away")) (aNil))))))))) (aNil)))))
    (sNext)
def q3__law_odd : MS :=
    sIf (t2 (eqD) (eVar 2) (eC (.int 2)))
    (sRet (eCall m__law_pick 2 (aCons (eVar 0) (aCons (eF (fLst (aCons (eTup (aNil)) (aCons (eTup (aCons (eC (.str "a")) (aNil))) (aCons (eF (fLst (aNil))) (aCons (eTup (aCons (eC (.int 0)) (aCons (eC (.int 1)) (aNil)))) (aCons (eF (fDic0)) (aCons (eTup (aCons (eC (.int 1)) (aCons (eC (.int 1)) (aNil)))) (aCons (eTup (aCons (eC (.int 0)) (aCons (eC (.int 1)) (aCons (eC (.str "a")) (aNil))))) (aNil)))))))))) (aNil)))))
    (sNext)
def q4__law_odd : MS :=
    sIf (tTru (isiM "int" (eVar 1)))
    (sRet (e2 addD (eVar 1) (eCall m__law_pick 2 (aCons (eVar 0) (aCons (eF (fLst (aCons (eC (.int 1)) (aCons (negM (eC (.int 1))) (aCons (eC (.int 1440)) (aCons (negM (eC (.int 1440))) (aCons (e2 powD (eC (.int 10)) (eC (.int 60))) (aNil)))))))) (aNil))))))
    (sNext)
def q5__law_odd : MS :=
    sIf (tTru (isiM "tuple" (eVar 1)))
    (sRet (eF (fFn listD (aCons (eVar 1) (aNil)))))
    (sNext)
def r6__law_odd : MS :=
    sSeq (q4__law_odd)
    (sSeq (q5__law_odd)
    (sRet (eVar 1)))
def b__law_odd : MS :=
    sSeq (sAsg (eCall m__law_take 2 (aCons (eVar 0) (aCons (eC (.int 6)) (aNil)))) (gNm 2))
    (sSeq (q1__law_odd)
    (sSeq (q2__law_odd)
    (sSeq (q3__law_odd)
    (r6__law_odd))))
def m__law_odd : MF := fnM 3 b__law_odd
def q1__law_spoilt (rc : MF) : MS :=
    sIf (tOrM (tNotM (tTru (isiM "tuple" (eVar 1)))) (tOrM (t2 (eqD) (eVar 2) (eC (.int 0))) (t2 (eqD) (eCall m__law_take 2 (aCons (eVar 0) (aCons (eC (.int 5)) (aNil)))) (eC (.int 0)))))
    (sRet (eCall m__law_odd 2 (aCons (eVar 0) (aCons (eVar 1) (aNil)))))
    (sNext)
def q2__law_spoilt (rc : MF) : MS :=
    sIf (t2 (eqD) (eVar 4) (eC (.int 2)))
    (sAsg (e2 addD (e2 addD (eSlice (eOwn 3) (oNone) (oSome (eVar 5))) (eF (fLst (aCons (e2 ixD (eOwn 3) (e2 subD (eVar 5) (eC (.int 1)))) (aNil))))) (eSlice (eOwn 3) (oSome (eVar 5)) (oNone))) (gNm 3))
    (sSeq (sAsg (eCall m__law_take 2 (aCons (eVar 0) (aCons (eFn lenD (aCons (eOwn 3) (aNil))) (aNil)))) (gNm 5))
    (sSetO 3 (eVar 5) (eCall rc 3 (aCons (eVar 0) (aCons (e2 ixD (eOwn 3) (eVar 5)) (aCons (e2 subD (eVar 2) (eC (.int 1))) (aNil)))))))
def q3__law_spoilt (rc : MF) : MS :=
    sIf (t2 (eqD) (eVar 4) (eC (.int 1)))
    (sAsg (e2 addD (eSlice (eOwn 3) (oNone) (oSome (eVar 5))) (eSlice (eOwn 3) (oSome (e2 addD (eVar 5) (eC (.int 1)))) (oNone))) (gNm 3))
    ((q2__law_spoilt rc))
def q4__law_spoilt (rc : MF) : MS :=
    sIf (t2 (eqD) (eOwn 3) (eF (fLst (aNil))))
    (sOwn 3 (fLst (aCons (eCall m__law_odd 2 (aCons (eVar 0) (aCons (eC .non) (aNil)))) (aNil))))
    ((q3__law_spoilt rc))
def q5__law_spoilt (rc : MF) : MS :=
    sIf (t2 (eqD) (eVar 4) (eC (.int 0)))
    (sAsg (e2 addD (e2 addD (eSlice (eOwn 3) (oNone) (oSome (eVar 5))) (eF (fLst (aCons (eCall m__law_odd 2 (aCons (eVar 0) (aCons (eC .non) (aNil)))) (aNil))))) (eSlice (eOwn 3) (oSome (eVar 5)) (oNone))) (gNm 3))
    ((q4__law_spoilt rc))
def r6__law_spoilt (rc : MF) : MS :=
    sSeq ((q5__law_spoilt rc))
    (sRet (eFn tupleD (aCons (eOwn 3) (aNil))))
def b__law_spoilt (rc : MF) : MS :=
    sSeq ((q1__law_spoilt rc))
    (sSeq (sOwn 3 (fFn listD (aCons (eVar 1) (aNil))))
    (sSeq (sAsg (eCall m__law_take 2 (aCons (eVar 0) (aCons (eC (.int 8)) (aNil)))) (gNm 4))
    (sSeq (sAsg (eCall m__law_take 2 (aCons (eVar 0) (aCons (e2 addD (eFn lenD (aCons (eOwn 3) (aNil))) (eC (.int 1))) (aNil)))) (gNm 5))
    ((r6__law_spoilt rc)))))
def m__law_spoilt : Nat → MF
  | 0 => fun _ _ => .bad
  | n + 1 => fnM 6 (b__law_spoilt (m__law_spoilt n))
def b__law_is_whole : MS :=
    sRet (eAndM (isiM "int" (eVar 0)) (eAndM (eNotM (isiM "bool" (eVar 0))) (eAndM (e2 (leD) (eVar 1) (eVar 0)) (e2 (leD) (eVar 0) (eVar 2)))))
def m__law_is_whole : MF := fnM 3 b__law_is_whole
def b__law_is_row : MS :=
    sRet (eAndM (isiM "tuple" (eVar 0)) (e2 (eqD) (eFn lenD (aCons (eVar 0) (aNil))) (eVar 1)))
def m__law_is_row : MF := fnM 2 b__law_is_row
def q1__law_is_word : MS :=
    sIf (tOrM (tNotM (tTru (isiM "str" (eVar 0)))) (tOrM (t2 (ltD) (eFn lenD (aCons (eVar 0) (aNil))) (eC (.int 1))) (t2 (gtD) (eFn lenD (aCons (eVar 0) (aNil))) (eC (.int 8)))))
    (sRet (eC (.bl false)))
    (sNext)
def x2__law_is_word : ME :=
    e2 (inD false) (eVar 1) (eC (.str "abcdefghijklmnopqrstuvwxyz0123456789"))
def b__law_is_word : MS :=
    sSeq (q1__law_is_word)
    (sRet (eFn allD (aCons (eF (fLc (iOf (eVar 0)) (gNm 1) (tYesM) (x2__law_is_word) [1])) (aNil))))
def m__law_is_word : MF := fnM 2 b__law_is_word
def q1__law_are_jumps : MS :=
    sIf (tOrM (tNotM (tTru (isiM "tuple" (eVar 0)))) (t2 (gtD) (eFn lenD (aCons (eVar 0) (aNil))) (eC (.int 8))))
    (sRet (eC (.bl false)))
    (sNext)
def q2__law_are_jumps : MS :=
    sIf (tOrM (tNotM (tTru (eCall m__law_is_row 2 (aCons (eVar 2) (aCons (eC (.int 2)) (aNil)))))) (tNotM (tTru (eCall m__law_is_whole 3 (aCons (e2 ixD (eVar 2) (eC (.int 0))) (aCons (e2 addD (eVar 1) (eC (.int 1))) (aCons (e2 subD (e2 powD (eC (.int 10)) (eC (.int 60))) (eC (.int 1))) (aNil))))))))
    (sRet (eC (.bl false)))
    (sNext)
def q3__law_are_jumps : MS :=
    sIf (tOrM (tNotM (tTru (eCall m__law_is_whole 3 (aCons (e2 ixD (eVar 2) (eC (.int 1))) (aCons (negM (eC (.int 1440))) (aCons (eC (.int 1440)) (aNil))))))) (t2 (eqD) (e2 ixD (eVar 2) (eC (.int 1))) (eC (.int 0))))
    (sRet (eC (.bl false)))
    (sNext)
def q4__law_are_jumps : MS :=
    sSeq (q2__law_are_jumps)
    (sSeq (q3__law_are_jumps)
    (sAsg (e2 ixD (eVar 2) (eC (.int 0))) (gNm 1)))
def b__law_are_jumps : MS :=
    sSeq (q1__law_are_jumps)
    (sSeq (sAsg (eC (.int 0)) (gNm 1))
    (sSeq (sFor (iOf (eVar 0)) (gNm 2)
    (q4__law_are_jumps))
    (sRet (eC (.bl true)))))
def m__law_are_jumps : MF := fnM 3 b__law_are_jumps
def q1__law_is_layer : MS :=
    sIf (tOrM (tNotM (tTru (eCall m__law_is_row 2 (aCons (eVar 0) (aCons (eC (.int 4)) (aNil)))))) (tOrM (tNotM (tTru (eCall m__law_is_word 1 (aCons (e2 ixD (eVar 0) (eC (.int 0))) (aNil))))) (tNotM (tTru (eCall m__law_is_whole 3 (aCons (e2 ixD (eVar 0) (eC (.int 2))) (aCons (eC (.int 1)) (aCons (eC (.int 60)) (aNil)))))))))
    (sRet (eC (.bl false)))
    (sNext)
def q2__law_is_layer : MS :=
    sIf (tOrM (tNotM (tTru (eCall m__law_is_whole 3 (aCons (e2 ixD (eVar 0) (eC (.int 1))) (aCons (eC (.int 0)) (aCons (e2 subD (e2 mulAD (eC (.int 1440)) (e2 ixD (eVar 0) (eC (.int 2)))) (eC (.int 1))) (aNil))))))) (tOrM (tNotM (tTru (isiM "tuple" (e2 ixD (eVar 0) (eC (.int 3)))))) (t2 (gtD) (eFn lenD (aCons (e2 ixD (eVar 0) (eC (.int 3))) (aNil))) (eC (.int 12)))))
    (sRet (eC (.bl false)))
    (sNext)
def q3__law_is_layer : MS :=
    sIf (tOrM (tNotM (tTru (eCall m__law_is_row 2 (aCons (eVar 2) (aCons (eC (.int 3)) (aNil)))))) (tNotM (tTru (eCall m__law_is_whole 3 (aCons (e2 ixD (eVar 2) (eC (.int 0))) (aCons (eVar 1) (aCons (e2 mulAD (eC (.int 1440)) (e2 ixD (eVar 0) (eC (.int 2)))) (aNil))))))))
    (sRet (eC (.bl false)))
    (sNext)
def q4__law_is_layer : MS :=
    sIf (tOrM (tNotM (tTru (eCall m__law_is_whole 3 (aCons (e2 ixD (eVar 2) (eC (.int 1))) (aCons (e2 addD (e2 ixD (eVar 2) (eC (.int 0))) (eC (.int 1))) (aCons (e2 mulAD (eC (.int 1440)) (e2 ixD (eVar 0) (eC (.int 2)))) (aNil))))))) (tNotM (tTru (eCall m__law_is_word 1 (aCons (e2 ixD (eVar 2) (eC (.int 2))) (aNil))))))
    (sRet (eC (.bl false)))
    (sNext)
def q5__law_is_layer : MS :=
    sSeq (q3__law_is_layer)
    (sSeq (q4__law_is_layer)
    (sAsg (e2 ixD (eVar 2) (eC (.int 1))) (gNm 1)))
def b__law_is_layer : MS :=
    sSeq (q1__law_is_layer)
    (sSeq (q2__law_is_layer)
    (sSeq (sAsg (eC (.int 0)) (gNm 1))
    (sSeq (sFor (iOf (e2 ixD (eVar 0) (eC (.int 3)))) (gNm 2)
    (q5__law_is_layer))
    (sRet (eC (.bl true))))))
def m__law_is_layer : MF := fnM 3 b__law_is_layer
def q1__law_is_change : MS :=
    sIf (tOrM (tNotM (tTru (isiM "tuple" (eVar 0)))) (tOrM (t2 (inD true) (eFn lenD (aCons (eVar 0) (aNil))) (eTup (aCons (eC (.int 4)) (aCons (eC (.int 5)) (aNil))))) (tNotM (tTru (isiM "str" (e2 ixD (eVar 0) (eC (.int 0))))))))
    (sRet (eC (.bl false)))
    (sNext)
def q2__law_is_change : MS :=
    sIf (tOrM (t2 (inD true) (e2 ixD (eVar 0) (eC (.int 0))) (eTup (aCons (eC (.str "away")) (aCons (eC (.str "for")) (aCons (eC (.str "on")) (aNil)))))) (t2 (neD) (eFn lenD (aCons (eVar 0) (aNil))) (e2 addD (eC (.int 4)) (eFn intD (aCons (e2 (eqD) (e2 ixD (eVar 0) (eC (.int 0))) (eC (.str "for"))) (aNil))))))
    (sRet (eC (.bl false)))
    (sNext)
def x3__law_is_change : ME :=
    eCall m__law_is_word 1 (aCons (eVar 1) (aNil))
def q4__law_is_change : MS :=
    sIf (tOrM (tNotM (tTru (eFn allD (aCons (eF (fLc (iOf (eSlice (eVar 0) (oSome (eC (.int 1))) (oSome (negM (eC (.int 2)))))) (gNm 1) (tYesM) (x3__law_is_change) [1])) (aNil))))) (tAndM (t2 (eqD) (e2 ixD (eVar 0) (eC (.int 0))) (eC (.str "for"))) (t2 (eqD) (e2 ixD (eVar 0) (eC (.int 1))) (e2 ixD (eVar 0) (eC (.int 2))))))
    (sRet (eC (.bl false)))
    (sNext)
def q5__law_is_change : MS :=
    sIf (tNotM (tTru (eCall m__law_is_whole 3 (aCons (e2 ixD (eVar 0) (negM (eC (.int 2)))) (aCons (eC (.int 0)) (aCons (e2 subD (e2 powD (eC (.int 10)) (eC (.int 60))) (eC (.int 1))) (aNil)))))))
    (sRet (eC (.bl false)))
    (sNext)
def b__law_is_change : MS :=
    sSeq (q1__law_is_change)
    (sSeq (q2__law_is_change)
    (sSeq (q4__law_is_change)
    (sSeq (q5__law_is_change)
    (sRet (eOrM (e2 (isND false) (e2 ixD (eVar 0) (negM (eC (.int 1)))) (eC .non)) (eCall m__law_is_whole 3 (aCons (e2 ixD (eVar 0) (negM (eC (.int 1)))) (aCons (e2 addD (e2 ixD (eVar 0) (negM (eC (.int 2)))) (eC (.int 1))) (aCons (e2 subD (e2 powD (eC (.int 10)) (eC (.int 60))) (eC (.int 1))) (aNil))))))))))
def m__law_is_change : MF := fnM 2 b__law_is_change
def q1__law_is_book : MS :=
    sIf (tOrM (tNotM (tTru (eCall m__law_is_row 2 (aCons (eVar 0) (aCons (eC (.int 3)) (aNil)))))) (tNotM (tTru (eCall m__law_are_jumps 1 (aCons (e2 ixD (eVar 0) (eC (.int 0))) (aNil))))))
    (sRet (eC (.bl false)))
    (sNext)
def x2__law_is_book : ME :=
    eCall m__law_is_layer 1 (aCons (eVar 1) (aNil))
def q3__law_is_book : MS :=
    sIf (tOrM (tNotM (tTru (isiM "tuple" (e2 ixD (eVar 0) (eC (.int 1)))))) (tOrM (t2 (gtD) (eFn lenD (aCons (e2 ixD (eVar 0) (eC (.int 1))) (aNil))) (eC (.int 4))) (tNotM (tTru (eFn allD (aCons (eF (fLc (iOf (e2 ixD (eVar 0) (eC (.int 1)))) (gNm 1) (tYesM) (x2__law_is_book) [1])) (aNil)))))))
    (sRet (eC (.bl false)))
    (sNext)
def x4__law_is_book : ME :=
    e2 ixD (eVar 1) (eC (.int 0))
def q5__law_is_book : MS :=
    sIf (tOrM (t2 (neD) (lenSetM (eVar 2)) (eFn lenD (aCons (eVar 2) (aNil)))) (tOrM (tNotM (tTru (isiM "tuple" (e2 ixD (eVar 0) (eC (.int 2)))))) (t2 (gtD) (eFn lenD (aCons (e2 ixD (eVar 0) (eC (.int 2))) (aNil))) (eC (.int 24)))))
    (sRet (eC (.bl false)))
    (sNext)
def x6__law_is_book : ME :=
    eCall m__law_is_change 1 (aCons (eVar 1) (aNil))
def b__law_is_book : MS :=
    sSeq (q1__law_is_book)
    (sSeq (q3__law_is_book)
    (sSeq (sAsg (eF (fLc (iOf (e2 ixD (eVar 0) (eC (.int 1)))) (gNm 1) (tYesM) (x4__law_is_book) [1])) (gNm 2))
    (sSeq (q5__law_is_book)
    (sRet (eFn allD (aCons (eF (fLc (iOf (e2 ixD (eVar 0) (eC (.int 2)))) (gNm 1) (tYesM) (x6__law_is_book) [1])) (aNil)))))))
def m__law_is_book : MF := fnM 3 b__law_is_book
def b__law_same : MS :=
    sRet (eAndM (isiM "bool" (eVar 0)) (e2 (eqD) (eVar 0) (eVar 1)))
def m__law_same : MF := fnM 2 b__law_same
def q1_law : MS :=
    sIf (tNotM (tTru (eCall m__law_same 2 (aCons (eCall m_is_book 1 (aCons (eVar 4) (aNil))) (aCons (eCall m__law_is_book 1 (aCons (eVar 4) (aNil))) (aNil))))))
    (sRet (eC (.bl false)))
    (sNext)
def q2_law : MS :=
    sIf (tNotM (tTru (eCall m__law_same 2 (aCons (eCall m_are_jumps 1 (aCons (e2 ixD (eVar 4) (eC (.int 0))) (aNil))) (aCons (eCall m__law_are_jumps 1 (aCons (e2 ixD (eVar 4) (eC (.int 0))) (aNil))) (aNil))))))
    (sRet (eC (.bl false)))
    (sNext)
def x3_law : ME :=
    eCall m__law_same 2 (aCons (eCall m_is_layer 1 (aCons (eVar 6) (aNil))) (aCons (eCall m__law_is_layer 1 (aCons (eVar 6) (aNil))) (aNil)))
def q4_law : MS :=
    sIf (tNotM (tTru (eFn allD (aCons (eF (fLc (iOf (eVar 5)) (gNm 6) (tYesM) (x3_law) [6])) (aNil)))))
    (sRet (eC (.bl false)))
    (sNext)
def q5_law : MS :=
    sIf (tAndM (tTru (isiM "tuple" (eVar 4))) (t2 (gtD) (eFn lenD (aCons (eVar 4) (aNil))) (eC (.int 1))))
    (sSeq (q2_law)
    (sSeq (sAsg (eIf (tTru (isiM "tuple" (e2 ixD (eVar 4) (eC (.int 1))))) (eSlice (eF (fFn listD (aCons (e2 ixD (eVar 4) (eC (.int 1))) (aNil)))) (oNone) (oSome (eC (.int 5)))) (eF (fLst (aCons (e2 ixD (eVar 4) (eC (.int 1))) (aNil))))) (gNm 5))
    (q4_law)))
    (sNext)
def q6_law : MS :=
    sSeq (q1_law)
    (q5_law)
def q7_law : MS :=
    sSeq (sAsg (eCall m__law_hand 2 (aCons (eVar 0) (aCons (eVar 1) (aNil)))) (gNm 2))
    (sSeq (sAsg (eCall m__law_good 1 (aCons (eVar 2) (aNil))) (gNm 3))
    (sFor (iOf (eF (fLst (aCons (eVar 3) (aCons (eCall (m__law_spoilt 6) 3 (aCons (eVar 2) (aCons (eVar 3) (aCons (eC (.int 4)) (aNil))))) (aNil)))))) (gNm 4)
    (q6_law)))
def b_law : MS :=
    sSeq (sFor (iRange1 (eFn max2D (aCons (eC (.int 2)) (aCons (eFn min2D (aCons (eC (.int 10)) (aCons (eFn lenD (aCons (eVar 0) (aNil))) (aNil)))) (aNil))))) (gNm 1)
    (q7_law))
    (sRet (eC (.bl true)))
def m_law : MF := fnM 7 b_law
section
variable {P : Program} {w : World} {K : PySem.W.Frag} {mg : Str → Option Value} {base : Heap}
theorem sc_is_whole : FnScope N_is_whole ["thing"] (defScope s_is_whole) := ⟨rfl, rfl, rfl, by decide +kernel, rfl, by decide +kernel, by decide +kernel⟩
theorem c_is_whole (T : Tops K mg) : Cal P w K mg base 1 "is_whole" 1 m_is_whole := by
  have S := sc_is_whole
  refine Cal.of T.d_is_whole S (fun f cdv A outer s H E hr => ?_)
  unfold b_is_whole
  exact rss_one (rs_ret (re_and (re_isi (T := "int") tk_int T.n_isinstance T.n_int b_int (RB.of (re_var 0))) (re_one (re_not (RB.of (re_isi (T := "bool") tk_bool T.n_isinstance T.n_bool b_bool (RB.of (re_var 0))))))))
theorem sc_is_moment : FnScope N_is_moment ["thing"] (defScope s_is_moment) := ⟨rfl, rfl, rfl, by decide +kernel, rfl, by decide +kernel, by decide +kernel⟩
theorem c_is_moment (T : Tops K mg) : Cal P w K mg base 2 "is_moment" 1 m_is_moment := by
  have S := sc_is_moment
  refine Cal.of T.d_is_moment S (fun f cdv A outer s H E hr => ?_)
  unfold b_is_moment
  exact rss_one (rs_ret (re_and (re_call ((c_is_whole T).mono (by decide)) hr (takes_of rfl rfl rfl rfl) (ra_cons (re_var 0) (ra_nil))) (re_one (re_chain op_le v2_leD op_lt v2_ltD (RB.of (re_int)) (RB.of (re_var 0)) (RB.of (re_gint T.g_LATEST))))))
theorem sc_is_word : FnScope N_is_word ["thing"] (defScope s_is_word) := ⟨rfl, rfl, rfl, by decide +kernel, rfl, by decide +kernel, by decide +kernel⟩
theorem c_is_word (T : Tops K mg) : Cal P w K mg base 1 "is_word" 1 m_is_word := by
  have S := sc_is_word
  refine Cal.of T.d_is_word S (fun f cdv A outer s H E hr => ?_)
  unfold b_is_word
  exact rss_cons (rs_if (rt_w (rw_or (rt_not (rt_truth (RB.of (re_isi (T := "str") tk_str T.n_isinstance T.n_str b_str (RB.of (re_var 0)))) (fun _ => rfl))) (rw_or1 (rt_not (rt_chain op_le v2_leD op_le v2_leD (RB.of (re_int)) (RB.of (re_callB call_lenAll vc_len rfl T.n_len b_len (rab_cons (RB.of (re_var 0)) (rab_nil)))) (RB.of (re_int)))))))
    (rss_one (rs_ret (re_bl)))
    (rss_nil))
    (rss_one (rs_ret (re_callB (cr_all rfl) vc_all rfl T.n_all b_all (rab_cons (RB.of (re_f (rf_lc (own := [("sign", 1)]) rfl S.nd (ri_seq (re_var 0)) (blkOk_by (own := [("sign", 1)]) (N := N_is_word) (sc := defScope s_is_word) (by decide +kernel)) (fun _ _ _ _ _ => rg_name 1 S.nd) (by decide) (fun _ _ _ _ _ => rts_nil) (fun _ _ _ _ _ => re_cmp op_inAll (v2_inD false) (RB.of (re_var 1)) (RB.of (re_gstr T.g_SIGNS)) (by with_unfolding_all rfl))))) (rab_nil)))))
theorem sc_is_rising : FnScope N_is_rising ["row"] (defScope s_is_rising) := ⟨rfl, rfl, rfl, by decide +kernel, rfl, by decide +kernel, by decide +kernel⟩
theorem c_is_rising (T : Tops K mg) : Cal P w K mg base 1 "is_rising" 1 m_is_rising := by
  have S := sc_is_rising
  refine Cal.of T.d_is_rising S (fun f cdv A outer s H E hr => ?_)
  unfold b_is_rising
  exact rss_one (rs_ret (re_callB (cr_all rfl) vc_all rfl T.n_all b_all (rab_cons (RB.of (re_f (rf_lc (own := [("k", 1)]) rfl S.nd (ri_range1 rfl T.n_range (re_bin op_sub v2_subD (RB.of (re_callB call_lenAll vc_len rfl T.n_len b_len (rab_cons (RB.of (re_var 0)) (rab_nil)))) (RB.of (re_int)))) (blkOk_by (own := [("k", 1)]) (N := N_is_rising) (sc := defScope s_is_rising) (by decide +kernel)) (fun _ _ _ _ _ => rg_name 1 S.nd) (by decide) (fun _ _ _ _ _ => rts_nil) (fun _ _ _ _ _ => re_cmp op_lt v2_ltD (RB.of (re_ix ix_seq v2_ixD (RB.of (re_var 0)) (RB.of (re_var 1)) (fun _ _ => rfl))) (RB.of (re_ix ix_seq v2_ixD (RB.of (re_var 0)) (RB.of (re_bin op_addD v2_addD (RB.of (re_var 1)) (RB.of (re_int)))) (fun _ _ => rfl))) (nomark _))))) (rab_nil))))
theorem sc_is_span : FnScope N_is_span ["begin", "end"] (defScope s_is_span) := ⟨rfl, rfl, rfl, by decide +kernel, rfl, by decide +kernel, by decide +kernel⟩
theorem c_is_span (T : Tops K mg) : Cal P w K mg base 3 "is_span" 2 m_is_span := by
  have S := sc_is_span
  refine Cal.of T.d_is_span S (fun f cdv A outer s H E hr => ?_)
  unfold b_is_span
  exact rss_cons (rs_if (rt_not (rt_truth (RB.of (re_call ((c_is_moment T).mono (by decide)) hr (takes_of rfl rfl rfl rfl) (ra_cons (re_var 0) (ra_nil)))) (fun _ => rfl)))
    (rss_one (rs_ret (re_bl)))
    (rss_nil))
    (rss_one (rs_ret (re_or (re_cmp op_isN v2_isN (RB.of (re_var 1)) (RB.of (re_non)) (nomark _)) (re_one (re_and (re_call ((c_is_moment T).mono (by decide)) hr (takes_of rfl rfl rfl rfl) (ra_cons (re_var 1) (ra_nil))) (re_one (re_cmp op_lt v2_ltD (RB.of (re_var 0)) (RB.of (re_var 1)) (nomark _))))))))
theorem sc_is_change : FnScope N_is_change ["thing"] (defScope s_is_change) := ⟨rfl, rfl, rfl, by decide +kernel, rfl, by decide +kernel, by decide +kernel⟩
theorem c_is_change (T : Tops K mg) : Cal P w K mg base 4 "is_change" 1 m_is_change := by
  have S := sc_is_change
  refine Cal.of T.d_is_change S (fun f cdv A outer s H E hr => ?_)
  unfold b_is_change
  exact rss_cons (rs_if (rt_w (rw_or (rt_not (rt_truth (RB.of (re_isi (T := "tuple") tk_tuple T.n_isinstance T.n_tuple b_tuple (RB.of (re_var 0)))) (fun _ => rfl))) (rw_or (rt_not (rt_chain op_le v2_leD op_le v2_leD (RB.of (re_int)) (RB.of (re_callB call_lenAll vc_len rfl T.n_len b_len (rab_cons (RB.of (re_var 0)) (rab_nil)))) (RB.of (re_int)))) (rw_or1 (rt_not (rt_truth (RB.of (re_isi (T := "str") tk_str T.n_isinstance T.n_str b_str (RB.of (re_ix ix_seq v2_ixD (RB.of (re_var 0)) (RB.of (re_int)) (fun _ _ => rfl))))) (fun _ => rfl)))))))
    (rss_one (rs_ret (re_bl)))
    (rss_nil))
    (rss_cons (rs_if (rt_cmp (op_eqAll hr.units) v2_eqD (RB.of (re_ix ix_seq v2_ixD (RB.of (re_var 0)) (RB.of (re_int)) (fun _ _ => rfl))) (RB.of (re_str)) (nomark _))
    (rss_one (rs_if (rt_w (rw_or (rt_cmp (op_eqAll hr.units) v2_eqD (RB.of (re_callB call_lenAll vc_len rfl T.n_len b_len (rab_cons (RB.of (re_var 0)) (rab_nil)))) (RB.of (re_int)) (nomark _)) (rw_or (rt_not (rt_truth (RB.of (re_call ((c_is_word T).mono (by decide)) hr (takes_of rfl rfl rfl rfl) (ra_cons (re_ix ix_seq v2_ixD (RB.of (re_var 0)) (RB.of (re_int)) (fun _ _ => rfl)) (ra_nil)))) (fun _ => rfl))) (rw_or1 (rt_cmp (op_eqAll hr.units) v2_eqD (RB.of (re_ix ix_seq v2_ixD (RB.of (re_var 0)) (RB.of (re_int)) (fun _ _ => rfl))) (RB.of (re_ix ix_seq v2_ixD (RB.of (re_var 0)) (RB.of (re_int)) (fun _ _ => rfl))) (nomark _))))))
    (rss_one (rs_ret (re_bl)))
    (rss_nil)))
    (rss_one (rs_if (rt_w (rw_or (rt_cmp op_notInAll (v2_inD true) (RB.of (re_ix ix_seq v2_ixD (RB.of (re_var 0)) (RB.of (re_int)) (fun _ _ => rfl))) (RB.of (re_tup (ra_cons (re_str) (ra_cons (re_str) (ra_nil))))) (by with_unfolding_all rfl)) (rw_or1 (rt_cmp (op_eqAll hr.units) v2_eqD (RB.of (re_callB call_lenAll vc_len rfl T.n_len b_len (rab_cons (RB.of (re_var 0)) (rab_nil)))) (RB.of (re_int)) (nomark _)))))
    (rss_one (rs_ret (re_bl)))
    (rss_nil))))
    (rss_one (rs_ret (re_and (re_call ((c_is_word T).mono (by decide)) hr (takes_of rfl rfl rfl rfl) (ra_cons (re_ix ix_seq v2_ixD (RB.of (re_var 0)) (RB.of (re_int)) (fun _ _ => rfl)) (ra_nil))) (re_one (re_call ((c_is_span T).mono (by decide)) hr (takes_of rfl rfl rfl rfl) (ra_cons (re_ix ix_seq v2_ixD (RB.of (re_var 0)) (RB.of (re_neg (re_int))) (fun _ _ => rfl)) (ra_cons (re_ix ix_seq v2_ixD (RB.of (re_var 0)) (RB.of (re_neg (re_int))) (fun _ _ => rfl)) (ra_nil)))))))))
theorem sc_is_jump : FnScope N_is_jump ["thing"] (defScope s_is_jump) := ⟨rfl, rfl, rfl, by decide +kernel, rfl, by decide +kernel, by decide +kernel⟩
theorem c_is_jump (T : Tops K mg) : Cal P w K mg base 3 "is_jump" 1 m_is_jump := by
  have S := sc_is_jump
  refine Cal.of T.d_is_jump S (fun f cdv A outer s H E hr => ?_)
  unfold b_is_jump
  exact rss_cons (rs_if (rt_w (rw_or (rt_not (rt_truth (RB.of (re_isi (T := "tuple") tk_tuple T.n_isinstance T.n_tuple b_tuple (RB.of (re_var 0)))) (fun _ => rfl))) (rw_or1 (rt_cmp (op_neAll hr.units) v2_neD (RB.of (re_callB call_lenAll vc_len rfl T.n_len b_len (rab_cons (RB.of (re_var 0)) (rab_nil)))) (RB.of (re_int)) (nomark _)))))
    (rss_one (rs_ret (re_bl)))
    (rss_nil))
    (rss_cons (rs_asg (re_var 0) (rg_tup rfl (rgs_cons (rg_name 1 S.nd) (rgs_cons (rg_name 2 S.nd) (rgs_nil))) (gsCons_len (gsCons_len (gsNil_len)))))
    (rss_cons (rs_if (rt_w (rw_or (rt_not (rt_truth (RB.of (re_call ((c_is_moment T).mono (by decide)) hr (takes_of rfl rfl rfl rfl) (ra_cons (re_var 1) (ra_nil)))) (fun _ => rfl))) (rw_or1 (rt_cmp (op_eqAll hr.units) v2_eqD (RB.of (re_var 1)) (RB.of (re_int)) (nomark _)))))
    (rss_one (rs_ret (re_bl)))
    (rss_nil))
    (rss_one (rs_ret (re_and (re_call ((c_is_whole T).mono (by decide)) hr (takes_of rfl rfl rfl rfl) (ra_cons (re_var 2) (ra_nil))) (re_and (re_cmp (op_neAll hr.units) v2_neD (RB.of (re_var 2)) (RB.of (re_int)) (nomark _)) (re_one (re_cmp op_le v2_leD (RB.of (re_callB call_abs vc_abs rfl T.n_abs b_abs (rab_cons (RB.of (re_var 2)) (rab_nil)))) (RB.of (re_gint T.g_FARTHEST)) (nomark _)))))))))
theorem sc_are_jumps : FnScope N_are_jumps ["thing"] (defScope s_are_jumps) := ⟨rfl, rfl, rfl, by decide +kernel, rfl, by decide +kernel, by decide +kernel⟩
theorem c_are_jumps (T : Tops K mg) : Cal P w K mg base 4 "are_jumps" 1 m_are_jumps := by
  have S := sc_are_jumps
  refine Cal.of T.d_are_jumps S (fun f cdv A outer s H E hr => ?_)
  unfold b_are_jumps
  exact rss_cons (rs_if (rt_w (rw_or (rt_not (rt_truth (RB.of (re_isi (T := "tuple") tk_tuple T.n_isinstance T.n_tuple b_tuple (RB.of (re_var 0)))) (fun _ => rfl))) (rw_or1 (rt_cmp op_gt v2_gtD (RB.of (re_callB call_lenAll vc_len rfl T.n_len b_len (rab_cons (RB.of (re_var 0)) (rab_nil)))) (RB.of (re_gint T.g_MOST_JUMPS)) (nomark _)))))
    (rss_one (rs_ret (re_bl)))
    (rss_nil))
    (rss_cons (rs_if (rt_not (rt_truth (RB.of (re_callB (cr_all rfl) vc_all rfl T.n_all b_all (rab_cons (RB.of (re_f (rf_lc (own := [("jump", 1)]) rfl S.nd (ri_seq (re_var 0)) (blkOk_by (own := [("jump", 1)]) (N := N_are_jumps) (sc := defScope s_are_jumps) (by decide +kernel)) (fun _ _ _ _ _ => rg_name 1 S.nd) (by decide) (fun _ _ _ _ _ => rts_nil) (fun _ _ _ _ _ => re_call ((c_is_jump T).mono (by decide)) hr takes0 (ra_cons (re_var 1) (ra_nil)))))) (rab_nil)))) (fun _ => rfl)))
    (rss_one (rs_ret (re_bl)))
    (rss_nil))
    (rss_one (rs_ret (re_call ((c_is_rising T).mono (by decide)) hr (takes_of rfl rfl rfl rfl) (ra_cons (re_f (rf_lc (own := [("jump", 1)]) rfl S.nd (ri_seq (re_var 0)) (blkOk_by (own := [("jump", 1)]) (N := N_are_jumps) (sc := defScope s_are_jumps) (by decide +kernel)) (fun _ _ _ _ _ => rg_name 1 S.nd) (by decide) (fun _ _ _ _ _ => rts_nil) (fun _ _ _ _ _ => re_ix ix_seq v2_ixD (RB.of (re_var 1)) (RB.of (re_int)) (fun _ _ => rfl)))) (ra_nil))))))
theorem sc_is_turn : FnScope N_is_turn ["thing", "low", "high"] (defScope s_is_turn) := ⟨rfl, rfl, rfl, by decide +kernel, rfl, by decide +kernel, by decide +kernel⟩
theorem c_is_turn (T : Tops K mg) : Cal P w K mg base 2 "is_turn" 3 m_is_turn := by
  have S := sc_is_turn
  refine Cal.of T.d_is_turn S (fun f cdv A outer s H E hr => ?_)
  unfold b_is_turn
  exact rss_cons (rs_if (rt_w (rw_or (rt_not (rt_truth (RB.of (re_isi (T := "tuple") tk_tuple T.n_isinstance T.n_tuple b_tuple (RB.of (re_var 0)))) (fun _ => rfl))) (rw_or1 (rt_cmp (op_neAll hr.units) v2_neD (RB.of (re_callB call_lenAll vc_len rfl T.n_len b_len (rab_cons (RB.of (re_var 0)) (rab_nil)))) (RB.of (re_int)) (nomark _)))))
    (rss_one (rs_ret (re_bl)))
    (rss_nil))
    (rss_cons (rs_asg (re_var 0) (rg_tup rfl (rgs_cons (rg_name 3 S.nd) (rgs_cons (rg_name 4 S.nd) (rgs_cons (rg_name 5 S.nd) (rgs_nil)))) (gsCons_len (gsCons_len (gsCons_len (gsNil_len))))))
    (rss_cons (rs_if (rt_w (rw_or (rt_not (rt_truth (RB.of (re_call ((c_is_whole T).mono (by decide)) hr (takes_of rfl rfl rfl rfl) (ra_cons (re_var 3) (ra_nil)))) (fun _ => rfl))) (rw_or (rt_not (rt_truth (RB.of (re_call ((c_is_whole T).mono (by decide)) hr (takes_of rfl rfl rfl rfl) (ra_cons (re_var 4) (ra_nil)))) (fun _ => rfl))) (rw_or1 (rt_not (rt_truth (RB.of (re_call ((c_is_word T).mono (by decide)) hr (takes_of rfl rfl rfl rfl) (ra_cons (re_var 5) (ra_nil)))) (fun _ => rfl)))))))
    (rss_one (rs_ret (re_bl)))
    (rss_nil))
    (rss_one (rs_ret (re_chain3 op_le v2_leD op_lt v2_ltD op_le v2_leD (RB.of (re_var 1)) (RB.of (re_var 3)) (RB.of (re_var 4)) (RB.of (re_var 2)))))))
theorem sc_are_turns : FnScope N_are_turns ["thing", "most"] (defScope s_are_turns) := ⟨rfl, rfl, rfl, by decide +kernel, rfl, by decide +kernel, by decide +kernel⟩
theorem c_are_turns (T : Tops K mg) : Cal P w K mg base 3 "are_turns" 2 m_are_turns := by
  have S := sc_are_turns
  refine Cal.of T.d_are_turns S (fun f cdv A outer s H E hr => ?_)
  unfold b_are_turns
  exact rss_cons (rs_if (rt_w (rw_or (rt_not (rt_truth (RB.of (re_isi (T := "tuple") tk_tuple T.n_isinstance T.n_tuple b_tuple (RB.of (re_var 0)))) (fun _ => rfl))) (rw_or1 (rt_cmp op_gt v2_gtD (RB.of (re_callB call_lenAll vc_len rfl T.n_len b_len (rab_cons (RB.of (re_var 0)) (rab_nil)))) (RB.of (re_gint T.g_MOST_TURNS)) (nomark _)))))
    (rss_one (rs_ret (re_bl)))
    (rss_nil))
    (rss_cons (rs_set 2 S.nd (re_int))
    (rss_cons (rs_for (passes_of rfl) rfl (ri_seq (re_var 0)) (rg_name 3 S.nd)
    (rss_cons (rs_if (rt_not (rt_truth (RB.of (re_call ((c_is_turn T).mono (by decide)) hr (takes_of rfl rfl rfl rfl) (ra_cons (re_var 3) (ra_cons (re_var 2) (ra_cons (re_var 1) (ra_nil)))))) (fun _ => rfl)))
    (rss_one (rs_ret (re_bl)))
    (rss_nil))
    (rss_one (rs_set 2 S.nd (re_ix ix_seq v2_ixD (RB.of (re_var 3)) (RB.of (re_int)) (fun _ _ => rfl))))))
    (rss_one (rs_ret (re_bl)))))
theorem sc_is_layer : FnScope N_is_layer ["thing"] (defScope s_is_layer) := ⟨rfl, rfl, rfl, by decide +kernel, rfl, by decide +kernel, by decide +kernel⟩
theorem c_is_layer (T : Tops K mg) : Cal P w K mg base 4 "is_layer" 1 m_is_layer := by
  have S := sc_is_layer
  refine Cal.of T.d_is_layer S (fun f cdv A outer s H E hr => ?_)
  unfold b_is_layer
  exact rss_cons (rs_if (rt_w (rw_or (rt_not (rt_truth (RB.of (re_isi (T := "tuple") tk_tuple T.n_isinstance T.n_tuple b_tuple (RB.of (re_var 0)))) (fun _ => rfl))) (rw_or1 (rt_cmp (op_neAll hr.units) v2_neD (RB.of (re_callB call_lenAll vc_len rfl T.n_len b_len (rab_cons (RB.of (re_var 0)) (rab_nil)))) (RB.of (re_int)) (nomark _)))))
    (rss_one (rs_ret (re_bl)))
    (rss_nil))
    (rss_cons (rs_asg (re_var 0) (rg_tup rfl (rgs_cons (rg_name 1 S.nd) (rgs_cons (rg_name 2 S.nd) (rgs_cons (rg_name 3 S.nd) (rgs_cons (rg_name 4 S.nd) (rgs_nil))))) (gsCons_len (gsCons_len (gsCons_len (gsCons_len (gsNil_len)))))))
    (rss_cons (rs_if (rt_w (rw_or (rt_not (rt_truth (RB.of (re_call ((c_is_word T).mono (by decide)) hr (takes_of rfl rfl rfl rfl) (ra_cons (re_var 1) (ra_nil)))) (fun _ => rfl))) (rw_or (rt_not (rt_truth (RB.of (re_call ((c_is_whole T).mono (by decide)) hr (takes_of rfl rfl rfl rfl) (ra_cons (re_var 2) (ra_nil)))) (fun _ => rfl))) (rw_or1 (rt_not (rt_truth (RB.of (re_call ((c_is_whole T).mono (by decide)) hr (takes_of rfl rfl rfl rfl) (ra_cons (re_var 3) (ra_nil)))) (fun _ => rfl)))))))
    (rss_one (rs_ret (re_bl)))
    (rss_nil))
    (rss_cons (rs_if (rt_w (rw_or (rt_not (rt_chain op_le v2_leD op_le v2_leD (RB.of (re_int)) (RB.of (re_var 3)) (RB.of (re_gint T.g_MOST_DAYS)))) (rw_or1 (rt_not (rt_chain op_le v2_leD op_lt v2_ltD (RB.of (re_int)) (RB.of (re_var 2)) (RB.of (re_bin op_mulAD v2_mulAD (RB.of (re_gint T.g_DAY)) (RB.of (re_var 3)))))))))
    (rss_one (rs_ret (re_bl)))
    (rss_nil))
    (rss_one (rs_ret (re_call ((c_are_turns T).mono (by decide)) hr (takes_of rfl rfl rfl rfl) (ra_cons (re_var 4) (ra_cons (re_bin op_mulAD v2_mulAD (RB.of (re_gint T.g_DAY)) (RB.of (re_var 3))) (ra_nil)))))))))
theorem sc_is_book : FnScope N_is_book ["thing"] (defScope s_is_book) := ⟨rfl, rfl, rfl, by decide +kernel, rfl, by decide +kernel, by decide +kernel⟩
theorem c_is_book (T : Tops K mg) : Cal P w K mg base 5 "is_book" 1 m_is_book := by
  have S := sc_is_book
  refine Cal.of T.d_is_book S (fun f cdv A outer s H E hr => ?_)
  unfold b_is_book
  exact rss_cons (rs_if (rt_w (rw_or (rt_not (rt_truth (RB.of (re_isi (T := "tuple") tk_tuple T.n_isinstance T.n_tuple b_tuple (RB.of (re_var 0)))) (fun _ => rfl))) (rw_or (rt_cmp (op_neAll hr.units) v2_neD (RB.of (re_callB call_lenAll vc_len rfl T.n_len b_len (rab_cons (RB.of (re_var 0)) (rab_nil)))) (RB.of (re_int)) (nomark _)) (rw_or1 (rt_not (rt_truth (RB.of (re_call ((c_are_jumps T).mono (by decide)) hr (takes_of rfl rfl rfl rfl) (ra_cons (re_ix ix_seq v2_ixD (RB.of (re_var 0)) (RB.of (re_int)) (fun _ _ => rfl)) (ra_nil)))) (fun _ => rfl)))))))
    (rss_one (rs_ret (re_bl)))
    (rss_nil))
    (rss_cons (rs_par 1 2 rfl S.nd (ra_cons (re_ix ix_seq v2_ixD (RB.of (re_var 0)) (RB.of (re_int)) (fun _ _ => rfl)) (ra_cons (re_ix ix_seq v2_ixD (RB.of (re_var 0)) (RB.of (re_int)) (fun _ _ => rfl)) (ra_nil))))
    (rss_cons (rs_if (rt_w (rw_or (rt_not (rt_truth (RB.of (re_isi (T := "tuple") tk_tuple T.n_isinstance T.n_tuple b_tuple (RB.of (re_var 1)))) (fun _ => rfl))) (rw_or1 (rt_cmp op_gt v2_gtD (RB.of (re_callB call_lenAll vc_len rfl T.n_len b_len (rab_cons (RB.of (re_var 1)) (rab_nil)))) (RB.of (re_gint T.g_MOST_LAYERS)) (nomark _)))))
    (rss_one (rs_ret (re_bl)))
    (rss_nil))
    (rss_cons (rs_if (rt_w (rw_or (rt_not (rt_truth (RB.of (re_isi (T := "tuple") tk_tuple T.n_isinstance T.n_tuple b_tuple (RB.of (re_var 2)))) (fun _ => rfl))) (rw_or1 (rt_cmp op_gt v2_gtD (RB.of (re_callB call_lenAll vc_len rfl T.n_len b_len (rab_cons (RB.of (re_var 2)) (rab_nil)))) (RB.of (re_gint T.g_MOST_CHANGES)) (nomark _)))))
    (rss_one (rs_ret (re_bl)))
    (rss_nil))
    (rss_cons (rs_if (rt_w (rw_or (rt_not (rt_truth (RB.of (re_callB (cr_all rfl) vc_all rfl T.n_all b_all (rab_cons (RB.of (re_f (rf_lc (own := [("layer", 3)]) rfl S.nd (ri_seq (re_var 1)) (blkOk_by (own := [("layer", 3)]) (N := N_is_book) (sc := defScope s_is_book) (by decide +kernel)) (fun _ _ _ _ _ => rg_name 3 S.nd) (by decide) (fun _ _ _ _ _ => rts_nil) (fun _ _ _ _ _ => re_call ((c_is_layer T).mono (by decide)) hr takes0 (ra_cons (re_var 3) (ra_nil)))))) (rab_nil)))) (fun _ => rfl))) (rw_or1 (rt_not (rt_truth (RB.of (re_callB (cr_all rfl) vc_all rfl T.n_all b_all (rab_cons (RB.of (re_f (rf_lc (own := [("change", 4)]) rfl S.nd (ri_seq (re_var 2)) (blkOk_by (own := [("change", 4)]) (N := N_is_book) (sc := defScope s_is_book) (by decide +kernel)) (fun _ _ _ _ _ => rg_name 4 S.nd) (by decide) (fun _ _ _ _ _ => rts_nil) (fun _ _ _ _ _ => re_call ((c_is_change T).mono (by decide)) hr takes0 (ra_cons (re_var 4) (ra_nil)))))) (rab_nil)))) (fun _ => rfl))))))
    (rss_one (rs_ret (re_bl)))
    (rss_nil))
    (rss_one (rs_ret (re_cmp (op_eqAll hr.units) v2_eqD (RB.of (re_lenSet T.n_len T.n_set (RB.of (re_f (rf_lc (own := [("layer", 3)]) rfl S.nd (ri_seq (re_var 1)) (blkOk_by (own := [("layer", 3)]) (N := N_is_book) (sc := defScope s_is_book) (by decide +kernel)) (fun _ _ _ _ _ => rg_name 3 S.nd) (by decide) (fun _ _ _ _ _ => rts_nil) (fun _ _ _ _ _ => re_ix ix_seq v2_ixD (RB.of (re_var 3)) (RB.of (re_int)) (fun _ _ => rfl))))))) (RB.of (re_callB call_lenAll vc_len rfl T.n_len b_len (rab_cons (RB.of (re_var 1)) (rab_nil)))) (nomark _))))))))
theorem sc__law_hand : FnScope N__law_hand ["_law_script", "_law_k"] (defScope s__law_hand) := ⟨rfl, rfl, rfl, by decide +kernel, rfl, by decide +kernel, by decide +kernel⟩
theorem c__law_hand (T : Tops K mg) : Cal P w K mg base 1 "_law_hand" 2 m__law_hand := by
  have S := sc__law_hand
  refine Cal.of T.d__law_hand S (fun f cdv A outer s H E hr => ?_)
  unfold b__law_hand
  exact rss_cons (rs_set 2 S.nd (re_int))
    (rss_cons (rs_if (rt_cmp op_lt v2_ltD (RB.of (re_var 1)) (RB.of (re_callB call_lenAll vc_len rfl T.n_len b_len (rab_cons (RB.of (re_var 0)) (rab_nil)))) (nomark _))
    (rss_one (rs_set 2 S.nd (re_ix ix_seq v2_ixD (RB.of (re_var 0)) (RB.of (re_var 1)) (fun _ _ => rfl))))
    (rss_nil))
    (rss_one (rs_ret (re_cell (rf_lst (ra_cons (re_bin op_mulAD v2_mulAD (RB.of (re_var 2)) (RB.of (re_callTy call_int1 vc_int rfl T.n_int b_int (rab_cons (RB.of (re_cmp op_ge v2_geD (RB.of (re_var 2)) (RB.of (re_bin op_pow v2_powD (RB.of (re_int)) (RB.of (re_int)))) (nomark _))) (rab_nil))))) (ra_cons (re_bin op_addD v2_addD (RB.of (re_bin op_addD v2_addD (RB.of (re_bin op_mod v2_modD (RB.of (re_var 2)) (RB.of (re_int)))) (RB.of (re_bin op_mulAD v2_mulAD (RB.of (re_int)) (RB.of (re_var 1)))))) (RB.of (re_int))) (ra_cons (re_int) (ra_nil)))))))))
theorem sc__law_take : FnScope N__law_take ["_law_hand_here", "_law_many"] (defScope s__law_take) := ⟨rfl, rfl, rfl, by decide +kernel, rfl, by decide +kernel, by decide +kernel⟩
theorem c__law_take (T : Tops K mg) : Cal P w K mg base 1 "_law_take" 2 m__law_take := by
  have S := sc__law_take
  refine Cal.of T.d__law_take S (fun f cdv A outer s H E hr => ?_)
  unfold b__law_take
  exact rss_cons (rs_if (rt_cmp op_gt v2_gtD (RB.of (re_ix ix_seq v2_ixD (RB.of (re_var 0)) (RB.of (re_int)) (fun _ _ => rfl))) (RB.of (re_int)) (nomark _))
    (rss_cons (rs_set 2 S.nd (re_bin op_mod v2_modD (RB.of (re_ix ix_seq v2_ixD (RB.of (re_var 0)) (RB.of (re_int)) (fun _ _ => rfl))) (RB.of (re_var 1))))
    (rss_cons (rs_setC (re_bin op_fdivW v2_divD (RB.of (re_ix ix_seq v2_ixD (RB.of (re_var 0)) (RB.of (re_int)) (fun _ _ => rfl))) (RB.of (re_var 1))) (re_var 0) (re_int))
    (rss_one (rs_ret (re_var 2)))))
    (rss_nil))
    (rss_cons (rs_setC (re_bin op_addD v2_addD (RB.of (re_ix ix_seq v2_ixD (RB.of (re_var 0)) (RB.of (re_int)) (fun _ _ => rfl))) (RB.of (re_int))) (re_var 0) (re_int))
    (rss_cons (rs_set 3 S.nd (re_ix ix_seq v2_ixD (RB.of (re_var 0)) (RB.of (re_int)) (fun _ _ => rfl)))
    (rss_cons (rs_set 4 S.nd (re_bin op_addD v2_addD (RB.of (re_bin op_addD v2_addD (RB.of (re_int)) (RB.of (re_bin op_mulAD v2_mulAD (RB.of (re_bin op_mulAD v2_mulAD (RB.of (re_int)) (RB.of (re_var 3)))) (RB.of (re_var 3)))))) (RB.of (re_bin op_mulAD v2_mulAD (RB.of (re_int)) (RB.of (re_var 3))))))
    (rss_cons (rs_set 5 S.nd (re_bin op_mod v2_modD (RB.of (re_bin op_mulAD v2_mulAD (RB.of (re_bin op_addD v2_addD (RB.of (re_ix ix_seq v2_ixD (RB.of (re_var 0)) (RB.of (re_int)) (fun _ _ => rfl))) (RB.of (re_bin op_mulAD v2_mulAD (RB.of (re_int)) (RB.of (re_var 3)))))) (RB.of (re_var 4)))) (RB.of (re_int))))
    (rss_cons (rs_set 6 S.nd (re_bin op_addD v2_addD (RB.of (re_bin op_addD v2_addD (RB.of (re_bin op_mod v2_modD (RB.of (re_var 5)) (RB.of (re_int)))) (RB.of (re_bin op_mulAD v2_mulAD (RB.of (re_var 3)) (RB.of (re_int)))))) (RB.of (re_int))))
    (rss_cons (rs_set 5 S.nd (re_bin op_mod v2_modD (RB.of (re_bin op_mulAD v2_mulAD (RB.of (re_var 5)) (RB.of (re_var 6)))) (RB.of (re_int))))
    (rss_one (rs_ret (re_bin op_mod v2_modD (RB.of (re_bin op_addD v2_addD (RB.of (re_bin op_fdivW v2_divD (RB.of (re_var 5)) (RB.of (re_int)))) (RB.of (re_bin op_fdivW v2_divD (RB.of (re_var 5)) (RB.of (re_int)))))) (RB.of (re_var 1)))))))))))
theorem sc__law_pick : FnScope N__law_pick ["_law_hand_here", "_law_some"] (defScope s__law_pick) := ⟨rfl, rfl, rfl, by decide +kernel, rfl, by decide +kernel, by decide +kernel⟩
theorem c__law_pick (T : Tops K mg) : Cal P w K mg base 2 "_law_pick" 2 m__law_pick := by
  have S := sc__law_pick
  refine Cal.of T.d__law_pick S (fun f cdv A outer s H E hr => ?_)
  unfold b__law_pick
  exact rss_one (rs_ret (re_ix ix_seq v2_ixD (RB.of (re_var 1)) (RB.of (re_call ((c__law_take T).mono (by decide)) hr (takes_of rfl rfl rfl rfl) (ra_cons (re_var 0) (ra_cons (re_callB call_lenAll vc_len rfl T.n_len b_len (rab_cons (RB.of (re_var 1)) (rab_nil))) (ra_nil))))) (fun _ _ => rfl)))
theorem sc__law_great : FnScope N__law_great ["_law_hand_here"] (defScope s__law_great) := ⟨rfl, rfl, rfl, by decide +kernel, rfl, by decide +kernel, by decide +kernel⟩
theorem c__law_great (T : Tops K mg) : Cal P w K mg base 2 "_law_great" 1 m__law_great := by
  have S := sc__law_great
  refine Cal.of T.d__law_great S (fun f cdv A outer s H E hr => ?_)
  unfold b__law_great
  exact rss_cons (rs_set 1 S.nd (re_int))
    (rss_cons (rs_for (passes_of rfl) rfl (ri_range1 rfl T.n_range (re_int)) (rg_name 2 S.nd)
    (rss_one (rs_set 1 S.nd (re_bin op_addD v2_addD (RB.of (re_bin op_mulAD v2_mulAD (RB.of (re_var 1)) (RB.of (re_bin op_pow v2_powD (RB.of (re_int)) (RB.of (re_int)))))) (RB.of (re_call ((c__law_take T).mono (by decide)) hr (takes_of rfl rfl rfl rfl) (ra_cons (re_var 0) (ra_cons (re_bin op_pow v2_powD (RB.of (re_int)) (RB.of (re_int))) (ra_nil)))))))))
    (rss_one (rs_ret (re_var 1))))
theorem sc__law_moment : FnScope N__law_moment ["_law_hand_here"] (defScope s__law_moment) := ⟨rfl, rfl, rfl, by decide +kernel, rfl, by decide +kernel, by decide +kernel⟩
theorem c__law_moment (T : Tops K mg) : Cal P w K mg base 3 "_law_moment" 1 m__law_moment := by
  have S := sc__law_moment
  refine Cal.of T.d__law_moment S (fun f cdv A outer s H E hr => ?_)
  unfold b__law_moment
  exact rss_cons (rs_set 1 S.nd (re_call ((c__law_take T).mono (by decide)) hr (takes_of rfl rfl rfl rfl) (ra_cons (re_var 0) (ra_cons (re_int) (ra_nil)))))
    (rss_cons (rs_if (rt_cmp op_lt v2_ltD (RB.of (re_var 1)) (RB.of (re_int)) (nomark _))
    (rss_one (rs_ret (re_call ((c__law_take T).mono (by decide)) hr (takes_of rfl rfl rfl rfl) (ra_cons (re_var 0) (ra_cons (re_int) (ra_nil))))))
    (rss_nil))
    (rss_cons (rs_if (rt_cmp (op_eqAll hr.units) v2_eqD (RB.of (re_var 1)) (RB.of (re_int)) (nomark _))
    (rss_one (rs_ret (re_call ((c__law_take T).mono (by decide)) hr (takes_of rfl rfl rfl rfl) (ra_cons (re_var 0) (ra_cons (re_int) (ra_nil))))))
    (rss_nil))
    (rss_cons (rs_if (rt_cmp (op_eqAll hr.units) v2_eqD (RB.of (re_var 1)) (RB.of (re_int)) (nomark _))
    (rss_one (rs_ret (re_call ((c__law_great T).mono (by decide)) hr (takes_of rfl rfl rfl rfl) (ra_cons (re_var 0) (ra_nil)))))
    (rss_nil))
    (rss_one (rs_ret (re_bin op_sub v2_subD (RB.of (re_bin op_sub v2_subD (RB.of (re_bin op_pow v2_powD (RB.of (re_int)) (RB.of (re_int)))) (RB.of (re_int)))) (RB.of (re_call ((c__law_take T).mono (by decide)) hr (takes_of rfl rfl rfl rfl) (ra_cons (re_var 0) (ra_cons (re_int) (ra_nil)))))))))))
theorem sc__law_words : FnScope N__law_words ["_law_hand_here", "_law_many"] (defScope s__law_words) := ⟨rfl, rfl, rfl, by decide +kernel, rfl, by decide +kernel, by decide +kernel⟩
theorem c__law_words (T : Tops K mg) : Cal P w K mg base 3 "_law_words" 2 m__law_words := by
  have S := sc__law_words
  refine Cal.of T.d__law_words S (fun f cdv A outer s H E hr => ?_)
  unfold b__law_words
  exact rss_cons (rs_set 2 S.nd (re_str))
    (rss_cons (rs_par 3 4 rfl S.nd (ra_cons (re_call ((c__law_take T).mono (by decide)) hr (takes_of rfl rfl rfl rfl) (ra_cons (re_var 0) (ra_cons (re_int) (ra_nil)))) (ra_cons (re_call ((c__law_pick T).mono (by decide)) hr (takes_of rfl rfl rfl rfl) (ra_cons (re_var 0) (ra_cons (re_f (rf_lst (ra_cons (re_int) (ra_cons (re_int) (ra_cons (re_int) (ra_cons (re_int) (ra_cons (re_int) (ra_cons (re_int) (ra_nil))))))))) (ra_nil)))) (ra_nil))))
    (rss_cons (rs_set 5 S.nd (re_bin op_mulAD v2_mulAD (RB.of (re_ix ix_seq v2_ixD (RB.of (re_var 2)) (RB.of (re_call ((c__law_take T).mono (by decide)) hr (takes_of rfl rfl rfl rfl) (ra_cons (re_var 0) (ra_cons (re_int) (ra_nil))))) (fun _ _ => rfl))) (RB.of (re_call ((c__law_pick T).mono (by decide)) hr (takes_of rfl rfl rfl rfl) (ra_cons (re_var 0) (ra_cons (re_f (rf_lst (ra_cons (re_int) (ra_cons (re_int) (ra_cons (re_int) (ra_cons (re_int) (ra_cons (re_int) (ra_nil)))))))) (ra_nil)))))))
    (rss_cons (rs_set 6 S.nd (re_call ((c__law_take T).mono (by decide)) hr (takes_of rfl rfl rfl rfl) (ra_cons (re_var 0) (ra_cons (re_bin op_addD v2_addD (RB.of (re_callB call_lenAll vc_len rfl T.n_len b_len (rab_cons (RB.of (re_var 5)) (rab_nil)))) (RB.of (re_int))) (ra_nil)))))
    (rss_cons (rs_set 7 S.nd (re_call ((c__law_take T).mono (by decide)) hr (takes_of rfl rfl rfl rfl) (ra_cons (re_var 0) (ra_cons (re_int) (ra_nil)))))
    (rss_cons (rs_own 8 S.nd (rf_lst (ra_nil)))
    (rss_cons (rs_for (passes_of rfl) rfl (ri_range1 rfl T.n_range (re_var 1)) (rg_name 9 S.nd)
    (rss_cons (rs_set 10 S.nd (re_slice (RB.of (re_var 5)) (ro_some (re_var 6)) (ro_none)))
    (rss_cons (rs_if (rt_w (rw_and (rt_cmp (op_eqAll hr.units) v2_eqD (RB.of (re_var 7)) (RB.of (re_int)) (nomark _)) (rw_and1 (rt_cmp (op_eqAll hr.units) v2_eqD (RB.of (re_bin op_mod v2_modD (RB.of (re_var 9)) (RB.of (re_int)))) (RB.of (re_int)) (nomark _)))))
    (rss_one (rs_set 10 S.nd (re_str)))
    (rss_nil))
    (rss_cons (rs_set 11 S.nd (re_ix ix_seq v2_ixD (RB.of (re_var 2)) (RB.of (re_bin op_mod v2_modD (RB.of (re_bin op_addD v2_addD (RB.of (re_var 3)) (RB.of (re_bin op_mulAD v2_mulAD (RB.of (re_var 4)) (RB.of (re_var 9)))))) (RB.of (re_int)))) (fun _ _ => rfl)))
    (rss_one (rs_appO 8 (re_bin op_addD v2_addD (RB.of (re_bin op_addD v2_addD (RB.of (re_slice (RB.of (re_var 5)) (ro_none) (ro_some (re_var 6)))) (RB.of (re_var 11)))) (RB.of (re_var 10)))))))))
    (rss_one (sj_freeze 8 (rs_ret (re_var 8))))))))))
theorem sc__law_jumps : FnScope N__law_jumps ["_law_hand_here", "_law_most"] (defScope s__law_jumps) := ⟨rfl, rfl, rfl, by decide +kernel, rfl, by decide +kernel, by decide +kernel⟩
theorem c__law_jumps (T : Tops K mg) : Cal P w K mg base 4 "_law_jumps" 2 m__law_jumps := by
  have S := sc__law_jumps
  refine Cal.of T.d__law_jumps S (fun f cdv A outer s H E hr => ?_)
  unfold b__law_jumps
  exact rss_cons (rs_own 2 S.nd (rf_lst (ra_nil)))
    (rss_cons (rs_set 3 S.nd (re_int))
    (rss_cons (rs_for (passes_of rfl) rfl (ri_range1 rfl T.n_range (re_call ((c__law_take T).mono (by decide)) hr (takes_of rfl rfl rfl rfl) (ra_cons (re_var 0) (ra_cons (re_bin op_addD v2_addD (RB.of (re_var 1)) (RB.of (re_int))) (ra_nil))))) (rg_name 4 S.nd)
    (rss_cons (rs_set 5 S.nd (re_call ((c__law_take T).mono (by decide)) hr (takes_of rfl rfl rfl rfl) (ra_cons (re_var 0) (ra_cons (re_int) (ra_nil)))))
    (rss_cons (rs_if (rt_cmp (op_eqAll hr.units) v2_eqD (RB.of (re_var 5)) (RB.of (re_int)) (nomark _))
    (rss_one (rs_set 3 S.nd (re_bin op_addD v2_addD (RB.of (re_bin op_addD v2_addD (RB.of (re_var 3)) (RB.of (re_int)))) (RB.of (re_call ((c__law_take T).mono (by decide)) hr (takes_of rfl rfl rfl rfl) (ra_cons (re_var 0) (ra_cons (re_int) (ra_nil))))))))
    (rss_one (rs_if (rt_cmp op_lt v2_ltD (RB.of (re_var 5)) (RB.of (re_int)) (nomark _))
    (rss_one (rs_set 3 S.nd (re_bin op_addD v2_addD (RB.of (re_bin op_addD v2_addD (RB.of (re_var 3)) (RB.of (re_int)))) (RB.of (re_call ((c__law_take T).mono (by decide)) hr (takes_of rfl rfl rfl rfl) (ra_cons (re_var 0) (ra_cons (re_int) (ra_nil))))))))
    (rss_one (rs_set 3 S.nd (re_bin op_addD v2_addD (RB.of (re_bin op_addD v2_addD (RB.of (re_var 3)) (RB.of (re_int)))) (RB.of (re_call ((c__law_moment T).mono (by decide)) hr (takes_of rfl rfl rfl rfl) (ra_cons (re_var 0) (ra_nil))))))))))
    (rss_cons (rs_set 6 S.nd (re_call ((c__law_pick T).mono (by decide)) hr (takes_of rfl rfl rfl rfl) (ra_cons (re_var 0) (ra_cons (re_f (rf_lst (ra_cons (re_int) (ra_cons (re_neg (re_int)) (ra_cons (re_int) (ra_cons (re_neg (re_int)) (ra_cons (re_int) (ra_cons (re_neg (re_int)) (ra_cons (re_int) (ra_cons (re_neg (re_int)) (ra_cons (re_int) (ra_cons (re_int) (ra_nil))))))))))))) (ra_nil)))))
    (rss_cons (rs_if (rt_cmp (op_eqAll hr.units) v2_eqD (RB.of (re_var 6)) (RB.of (re_int)) (nomark _))
    (rss_one (rs_set 6 S.nd (re_bin op_sub v2_subD (RB.of (re_call ((c__law_take T).mono (by decide)) hr (takes_of rfl rfl rfl rfl) (ra_cons (re_var 0) (ra_cons (re_int) (ra_nil))))) (RB.of (re_int)))))
    (rss_nil))
    (rss_cons (rs_if (rt_w (rw_and (rt_cmp op_gt v2_gtD (RB.of (re_var 6)) (RB.of (re_neg (re_int))) (nomark _)) (rw_and1 (rt_cmp op_lt v2_ltD (RB.of (re_var 6)) (RB.of (re_int)) (nomark _)))))
    (rss_one (rs_set 6 S.nd (re_int)))
    (rss_nil))
    (rss_one (rs_if (rt_cmp op_lt v2_ltD (RB.of (re_var 3)) (RB.of (re_bin op_pow v2_powD (RB.of (re_int)) (RB.of (re_int)))) (nomark _))
    (rss_one (rs_appO 2 (re_tup (ra_cons (re_var 3) (ra_cons (re_var 6) (ra_nil))))))
    (rss_nil)))))))))
    (rss_one (rs_ret (re_callTy call_tuple_of vc_tuple rfl T.n_tuple b_tuple (rab_cons (rb_own 2) (rab_nil)))))))
theorem sc__law_minute : FnScope N__law_minute ["_law_hand_here", "_law_days"] (defScope s__law_minute) := ⟨rfl, rfl, rfl, by decide +kernel, rfl, by decide +kernel, by decide +kernel⟩
theorem c__law_minute (T : Tops K mg) : Cal P w K mg base 3 "_law_minute" 2 m__law_minute := by
  have S := sc__law_minute
  refine Cal.of T.d__law_minute S (fun f cdv A outer s H E hr => ?_)
  unfold b__law_minute
  exact rss_cons (rs_set 2 S.nd (re_call ((c__law_take T).mono (by decide)) hr (takes_of rfl rfl rfl rfl) (ra_cons (re_var 0) (ra_cons (re_int) (ra_nil)))))
    (rss_cons (rs_set 3 S.nd (re_call ((c__law_take T).mono (by decide)) hr (takes_of rfl rfl rfl rfl) (ra_cons (re_var 0) (ra_cons (re_var 1) (ra_nil)))))
    (rss_cons (rs_if (rt_cmp (op_eqAll hr.units) v2_eqD (RB.of (re_var 2)) (RB.of (re_int)) (nomark _))
    (rss_one (rs_ret (re_bin op_mulAD v2_mulAD (RB.of (re_int)) (RB.of (re_bin op_addD v2_addD (RB.of (re_var 3)) (RB.of (re_call ((c__law_take T).mono (by decide)) hr (takes_of rfl rfl rfl rfl) (ra_cons (re_var 0) (ra_cons (re_int) (ra_nil))))))))))
    (rss_nil))
    (rss_cons (rs_if (rt_cmp (op_eqAll hr.units) v2_eqD (RB.of (re_var 2)) (RB.of (re_int)) (nomark _))
    (rss_one (rs_ret (re_bin op_addD v2_addD (RB.of (re_bin op_mulAD v2_mulAD (RB.of (re_int)) (RB.of (re_var 3)))) (RB.of (re_call ((c__law_pick T).mono (by decide)) hr (takes_of rfl rfl rfl rfl) (ra_cons (re_var 0) (ra_cons (re_f (rf_lst (ra_cons (re_int) (ra_cons (re_int) (ra_cons (re_int) (ra_cons (re_int) (ra_cons (re_int) (ra_cons (re_int) (ra_nil))))))))) (ra_nil))))))))
    (rss_nil))
    (rss_one (rs_ret (re_bin op_addD v2_addD (RB.of (re_bin op_mulAD v2_mulAD (RB.of (re_int)) (RB.of (re_var 3)))) (RB.of (re_call ((c__law_take T).mono (by decide)) hr (takes_of rfl rfl rfl rfl) (ra_cons (re_var 0) (ra_cons (re_int) (ra_nil)))))))))))
theorem sc__law_layer : FnScope N__law_layer ["_law_hand_here", "_law_word", "_law_names", "_law_days", "_law_most"] (defScope s__law_layer) := ⟨rfl, rfl, rfl, by decide +kernel, rfl, by decide +kernel, by decide +kernel⟩
theorem c__law_layer (T : Tops K mg) : Cal P w K mg base 4 "_law_layer" 5 m__law_layer := by
  have S := sc__law_layer
  refine Cal.of T.d__law_layer S (fun f cdv A outer s H E hr => ?_)
  unfold b__law_layer
  exact rss_cons (rs_set 5 S.nd (re_bin op_mulAD v2_mulAD (RB.of (re_call ((c__law_take T).mono (by decide)) hr (takes_of rfl rfl rfl rfl) (ra_cons (re_var 0) (ra_cons (re_bin op_mulAD v2_mulAD (RB.of (re_int)) (RB.of (re_var 3))) (ra_nil))))) (RB.of (re_call ((c__law_take T).mono (by decide)) hr (takes_of rfl rfl rfl rfl) (ra_cons (re_var 0) (ra_cons (re_int) (ra_nil)))))))
    (rss_cons (rs_if (rt_cmp (op_eqAll hr.units) v2_eqD (RB.of (re_call ((c__law_take T).mono (by decide)) hr (takes_of rfl rfl rfl rfl) (ra_cons (re_var 0) (ra_cons (re_int) (ra_nil))))) (RB.of (re_int)) (nomark _))
    (rss_one (rs_ret (re_tup (ra_cons (re_var 1) (ra_cons (re_var 5) (ra_cons (re_var 3) (ra_cons (re_tup (ra_cons (re_tup (ra_cons (re_int) (ra_cons (re_bin op_mulAD v2_mulAD (RB.of (re_int)) (RB.of (re_var 3))) (ra_cons (re_call ((c__law_pick T).mono (by decide)) hr (takes_of rfl rfl rfl rfl) (ra_cons (re_var 0) (ra_cons (re_var 2) (ra_nil)))) (ra_nil))))) (ra_nil))) (ra_nil))))))))
    (rss_nil))
    (rss_cons (rs_set 6 S.nd (re_f (rf_sortSet T.n_sorted T.n_set (RB.of (re_f (rf_lc (own := [("_law_k", 7)]) rfl S.nd (ri_range1 rfl T.n_range (re_bin op_addD v2_addD (RB.of (re_int)) (RB.of (re_var 4)))) (blkOk_by (own := [("_law_k", 7)]) (N := N__law_layer) (sc := defScope s__law_layer) (by decide +kernel)) (fun _ _ _ _ _ => rg_name 7 S.nd) (by decide) (fun _ _ _ _ _ => rts_nil) (fun _ _ _ _ _ => re_call ((c__law_minute T).mono (by decide)) hr takes0 (ra_cons (re_var 0) (ra_cons (re_var 3) (ra_nil))))))))))
    (rss_cons (rs_own 8 S.nd (rf_lst (ra_nil)))
    (rss_cons (rs_for (passes_of rfl) rfl (ri_range1 rfl T.n_range (re_bin op_sub v2_subD (RB.of (re_callB call_lenAll vc_len rfl T.n_len b_len (rab_cons (RB.of (re_var 6)) (rab_nil)))) (RB.of (re_int)))) (rg_name 7 S.nd)
    (rss_one (rs_if (rt_cmp op_gt v2_gtD (RB.of (re_call ((c__law_take T).mono (by decide)) hr (takes_of rfl rfl rfl rfl) (ra_cons (re_var 0) (ra_cons (re_int) (ra_nil))))) (RB.of (re_int)) (nomark _))
    (rss_one (rs_appO 8 (re_tup (ra_cons (re_ix ix_seq v2_ixD (RB.of (re_var 6)) (RB.of (re_var 7)) (fun _ _ => rfl)) (ra_cons (re_ix ix_seq v2_ixD (RB.of (re_var 6)) (RB.of (re_bin op_addD v2_addD (RB.of (re_var 7)) (RB.of (re_int)))) (fun _ _ => rfl)) (ra_cons (re_call ((c__law_pick T).mono (by decide)) hr (takes_of rfl rfl rfl rfl) (ra_cons (re_var 0) (ra_cons (re_var 2) (ra_nil)))) (ra_nil)))))))
    (rss_nil))))
    (rss_one (rs_ret (re_tup (ra_cons (re_var 1) (ra_cons (re_var 5) (ra_cons (re_var 3) (ra_cons (re_callTy call_tuple_of vc_tuple rfl T.n_tuple b_tuple (rab_cons (rb_own 8) (rab_nil))) (ra_nil))))))))))))
theorem sc__law_change : FnScope N__law_change ["_law_hand_here", "_law_names", "_law_low"] (defScope s__law_change) := ⟨rfl, rfl, rfl, by decide +kernel, rfl, by decide +kernel, by decide +kernel⟩
theorem c__law_change (T : Tops K mg) : Cal P w K mg base 4 "_law_change" 3 m__law_change := by
  have S := sc__law_change
  refine Cal.of T.d__law_change S (fun f cdv A outer s H E hr => ?_)
  unfold b__law_change
  exact rss_cons (rs_set 3 S.nd (re_call ((c__law_take T).mono (by decide)) hr (takes_of rfl rfl rfl rfl) (ra_cons (re_var 0) (ra_cons (re_int) (ra_nil)))))
    (rss_cons (rs_set 4 S.nd (re_bin op_addD v2_addD (RB.of (re_var 2)) (RB.of (re_call ((c__law_take T).mono (by decide)) hr (takes_of rfl rfl rfl rfl) (ra_cons (re_var 0) (ra_cons (re_int) (ra_nil)))))))
    (rss_cons (rs_if (rt_cmp (op_eqAll hr.units) v2_eqD (RB.of (re_call ((c__law_take T).mono (by decide)) hr (takes_of rfl rfl rfl rfl) (ra_cons (re_var 0) (ra_cons (re_int) (ra_nil))))) (RB.of (re_int)) (nomark _))
    (rss_one (rs_set 4 S.nd (re_call ((c__law_moment T).mono (by decide)) hr (takes_of rfl rfl rfl rfl) (ra_cons (re_var 0) (ra_nil)))))
    (rss_nil))
    (rss_cons (rs_set 4 S.nd (re_callB (call_min2 rfl) vc_min2 rfl T.n_min b_min (rab_cons (RB.of (re_var 4)) (rab_cons (RB.of (re_bin op_sub v2_subD (RB.of (re_bin op_pow v2_powD (RB.of (re_int)) (RB.of (re_int)))) (RB.of (re_int)))) (rab_nil)))))
    (rss_cons (rs_set 5 S.nd (re_call ((c__law_take T).mono (by decide)) hr (takes_of rfl rfl rfl rfl) (ra_cons (re_var 0) (ra_cons (re_int) (ra_nil)))))
    (rss_cons (rs_set 6 S.nd (re_callB (call_min2 rfl) vc_min2 rfl T.n_min b_min (rab_cons (RB.of (re_bin op_addD v2_addD (RB.of (re_bin op_addD v2_addD (RB.of (re_var 4)) (RB.of (re_int)))) (RB.of (re_call ((c__law_take T).mono (by decide)) hr (takes_of rfl rfl rfl rfl) (ra_cons (re_var 0) (ra_cons (re_int) (ra_nil))))))) (rab_cons (RB.of (re_bin op_sub v2_subD (RB.of (re_bin op_pow v2_powD (RB.of (re_int)) (RB.of (re_int)))) (RB.of (re_int)))) (rab_nil)))))
    (rss_cons (rs_if (rt_cmp (op_eqAll hr.units) v2_eqD (RB.of (re_var 5)) (RB.of (re_int)) (nomark _))
    (rss_one (rs_set 6 S.nd (re_non)))
    (rss_one (rs_if (rt_cmp (op_eqAll hr.units) v2_eqD (RB.of (re_var 5)) (RB.of (re_int)) (nomark _))
    (rss_one (rs_set 6 S.nd (re_bin op_addD v2_addD (RB.of (re_var 4)) (RB.of (re_int)))))
    (rss_nil))))
    (rss_cons (rs_if (rt_w (rw_and (rt_cmp (op_eqAll hr.units) v2_eqD (RB.of (re_var 3)) (RB.of (re_int)) (nomark _)) (rw_and1 (rt_cmp op_gt v2_gtD (RB.of (re_callB call_lenAll vc_len rfl T.n_len b_len (rab_cons (RB.of (re_var 1)) (rab_nil)))) (RB.of (re_int)) (nomark _)))))
    (rss_cons (rs_set 7 S.nd (re_call ((c__law_take T).mono (by decide)) hr (takes_of rfl rfl rfl rfl) (ra_cons (re_var 0) (ra_cons (re_callB call_lenAll vc_len rfl T.n_len b_len (rab_cons (RB.of (re_var 1)) (rab_nil))) (ra_nil)))))
    (rss_cons (rs_set 8 S.nd (re_bin op_mod v2_modD (RB.of (re_bin op_addD v2_addD (RB.of (re_bin op_addD v2_addD (RB.of (re_var 7)) (RB.of (re_int)))) (RB.of (re_call ((c__law_take T).mono (by decide)) hr (takes_of rfl rfl rfl rfl) (ra_cons (re_var 0) (ra_cons (re_bin op_sub v2_subD (RB.of (re_callB call_lenAll vc_len rfl T.n_len b_len (rab_cons (RB.of (re_var 1)) (rab_nil)))) (RB.of (re_int))) (ra_nil))))))) (RB.of (re_callB call_lenAll vc_len rfl T.n_len b_len (rab_cons (RB.of (re_var 1)) (rab_nil))))))
    (rss_one (rs_ret (re_tup (ra_cons (re_str) (ra_cons (re_ix ix_seq v2_ixD (RB.of (re_var 1)) (RB.of (re_var 7)) (fun _ _ => rfl)) (ra_cons (re_ix ix_seq v2_ixD (RB.of (re_var 1)) (RB.of (re_var 8)) (fun _ _ => rfl)) (ra_cons (re_var 4) (ra_cons (re_var 6) (ra_nil)))))))))))
    (rss_nil))
    (rss_one (rs_ret (re_tup (ra_cons (re_call ((c__law_pick T).mono (by decide)) hr (takes_of rfl rfl rfl rfl) (ra_cons (re_var 0) (ra_cons (re_f (rf_lst (ra_cons (re_str) (ra_cons (re_str) (ra_cons (re_str) (ra_nil)))))) (ra_nil)))) (ra_cons (re_call ((c__law_pick T).mono (by decide)) hr (takes_of rfl rfl rfl rfl) (ra_cons (re_var 0) (ra_cons (re_var 1) (ra_nil)))) (ra_cons (re_var 4) (ra_cons (re_var 6) (ra_nil)))))))))))))))
theorem sc__law_jump_row : FnScope N__law_jump_row ["_law_hand_here", "_law_many"] (defScope s__law_jump_row) := ⟨rfl, rfl, rfl, by decide +kernel, rfl, by decide +kernel, by decide +kernel⟩
theorem c__law_jump_row (T : Tops K mg) : Cal P w K mg base 3 "_law_jump_row" 2 m__law_jump_row := by
  have S := sc__law_jump_row
  refine Cal.of T.d__law_jump_row S (fun f cdv A outer s H E hr => ?_)
  unfold b__law_jump_row
  exact rss_cons (rs_own 2 S.nd (rf_lst (ra_nil)))
    (rss_cons (rs_set 3 S.nd (re_int))
    (rss_cons (rs_for (passes_of rfl) rfl (ri_range1 rfl T.n_range (re_var 1)) (rg_name 4 S.nd)
    (rss_cons (rs_set 3 S.nd (re_bin op_addD v2_addD (RB.of (re_bin op_addD v2_addD (RB.of (re_var 3)) (RB.of (re_int)))) (RB.of (re_call ((c__law_take T).mono (by decide)) hr (takes_of rfl rfl rfl rfl) (ra_cons (re_var 0) (ra_cons (re_int) (ra_nil)))))))
    (rss_one (rs_appO 2 (re_tup (ra_cons (re_var 3) (ra_cons (re_call ((c__law_pick T).mono (by decide)) hr (takes_of rfl rfl rfl rfl) (ra_cons (re_var 0) (ra_cons (re_f (rf_lst (ra_cons (re_int) (ra_cons (re_neg (re_int)) (ra_cons (re_int) (ra_cons (re_neg (re_int)) (ra_cons (re_int) (ra_cons (re_neg (re_int)) (ra_nil))))))))) (ra_nil)))) (ra_nil))))))))
    (rss_one (rs_ret (re_callTy call_tuple_of vc_tuple rfl T.n_tuple b_tuple (rab_cons (rb_own 2) (rab_nil)))))))
theorem sc__law_good : FnScope N__law_good ["_law_hand_here"] (defScope s__law_good) := ⟨rfl, rfl, rfl, by decide +kernel, rfl, by decide +kernel, by decide +kernel⟩
theorem c__law_good (T : Tops K mg) : Cal P w K mg base 5 "_law_good" 1 m__law_good := by
  have S := sc__law_good
  refine Cal.of T.d__law_good S (fun f cdv A outer s H E hr => ?_)
  unfold b__law_good
  exact rss_cons (rs_set 1 S.nd (re_call ((c__law_words T).mono (by decide)) hr (takes_of rfl rfl rfl rfl) (ra_cons (re_var 0) (ra_cons (re_int) (ra_nil)))))
    (rss_cons (rs_set 2 S.nd (re_call ((c__law_words T).mono (by decide)) hr (takes_of rfl rfl rfl rfl) (ra_cons (re_var 0) (ra_cons (re_int) (ra_nil)))))
    (rss_cons (rs_set 3 S.nd (re_call ((c__law_take T).mono (by decide)) hr (takes_of rfl rfl rfl rfl) (ra_cons (re_var 0) (ra_cons (re_int) (ra_nil)))))
    (rss_cons (rs_set 4 S.nd (re_call ((c__law_take T).mono (by decide)) hr (takes_of rfl rfl rfl rfl) (ra_cons (re_var 0) (ra_cons (re_int) (ra_nil)))))
    (rss_cons (rs_set 5 S.nd (re_call ((c__law_jumps T).mono (by decide)) hr (takes_of rfl rfl rfl rfl) (ra_cons (re_var 0) (ra_cons (re_int) (ra_nil)))))
    (rss_cons (fj_set 6 (fj_setLc 6 (own := [("_law_k", 7)]) rfl S.nd (sw_true rfl rfl rfl (by decide +kernel)) (ri_range1 rfl T.n_range (re_call ((c__law_take T).mono (by decide)) hr (takes_of rfl rfl rfl rfl) (ra_cons (re_var 0) (ra_cons (re_int) (ra_nil))))) (blkOk_by (own := [("_law_k", 7)]) (N := N__law_good) (sc := defScope s__law_good) (by decide +kernel)) (fun _ _ _ _ _ => rg_name 7 S.nd) (by decide) (fun _ _ _ _ _ => rts_nil) (fun _ _ _ _ _ => re_call ((c__law_layer T).mono (by decide)) hr takes0 (ra_cons (re_var 0) (ra_cons (re_ix ix_seq v2_ixD (RB.of (re_var 2)) (RB.of (re_var 7)) (fun _ _ => rfl)) (ra_cons (re_var 1) (ra_cons (re_bin op_addD v2_addD (RB.of (re_int)) (RB.of (re_call ((c__law_take T).mono (by decide)) hr takes0 (ra_cons (re_var 0) (ra_cons (re_int) (ra_nil)))))) (ra_cons (re_int) (ra_nil)))))))))
    (rss_cons (fj_set 8 (fj_setLc 8 (own := [("_law_k", 7)]) rfl S.nd (sw_true rfl rfl rfl (by decide +kernel)) (ri_range1 rfl T.n_range (re_call ((c__law_take T).mono (by decide)) hr (takes_of rfl rfl rfl rfl) (ra_cons (re_var 0) (ra_cons (re_int) (ra_nil))))) (blkOk_by (own := [("_law_k", 7)]) (N := N__law_good) (sc := defScope s__law_good) (by decide +kernel)) (fun _ _ _ _ _ => rg_name 7 S.nd) (by decide) (fun _ _ _ _ _ => rts_nil) (fun _ _ _ _ _ => re_call ((c__law_change T).mono (by decide)) hr takes0 (ra_cons (re_var 0) (ra_cons (re_var 1) (ra_cons (re_int) (ra_nil)))))))
    (rss_cons (rs_if (rt_cmp (op_eqAll hr.units) v2_eqD (RB.of (re_var 3)) (RB.of (re_int)) (nomark _))
    (rss_cons (rs_set 5 S.nd (re_call ((c__law_jump_row T).mono (by decide)) hr (takes_of rfl rfl rfl rfl) (ra_cons (re_var 0) (ra_cons (re_bin op_addD v2_addD (RB.of (re_int)) (RB.of (re_callTy call_int1 vc_int rfl T.n_int b_int (rab_cons (RB.of (re_cmp (op_eqAll hr.units) v2_eqD (RB.of (re_var 4)) (RB.of (re_int)) (nomark _))) (rab_nil))))) (ra_nil)))))
    (rss_cons (fj_set 6 (fj_setLc 6 (own := [("_law_k", 7)]) rfl S.nd (sw_true rfl rfl rfl (by decide +kernel)) (ri_range1 rfl T.n_range (re_bin op_addD v2_addD (RB.of (re_int)) (RB.of (re_callTy call_int1 vc_int rfl T.n_int b_int (rab_cons (RB.of (re_cmp (op_eqAll hr.units) v2_eqD (RB.of (re_var 4)) (RB.of (re_int)) (nomark _))) (rab_nil)))))) (blkOk_by (own := [("_law_k", 7)]) (N := N__law_good) (sc := defScope s__law_good) (by decide +kernel)) (fun _ _ _ _ _ => rg_name 7 S.nd) (by decide) (fun _ _ _ _ _ => rts_nil) (fun _ _ _ _ _ => re_call ((c__law_layer T).mono (by decide)) hr takes0 (ra_cons (re_var 0) (ra_cons (re_ix ix_seq v2_ixD (RB.of (re_var 2)) (RB.of (re_var 7)) (fun _ _ => rfl)) (ra_cons (re_var 1) (ra_cons (re_int) (ra_cons (re_int) (ra_nil)))))))))
    (rss_cons (rs_set 9 S.nd (re_call ((c__law_change T).mono (by decide)) hr (takes_of rfl rfl rfl rfl) (ra_cons (re_var 0) (ra_cons (re_var 1) (ra_cons (re_int) (ra_nil))))))
    (rss_one (rs_set 8 S.nd (re_bin op_mulAD v2_mulAD (RB.of (re_f (rf_lst (ra_cons (re_var 9) (ra_nil))))) (RB.of (re_bin op_addD v2_addD (RB.of (re_int)) (RB.of (re_callTy call_int1 vc_int rfl T.n_int b_int (rab_cons (RB.of (re_cmp (op_eqAll hr.units) v2_eqD (RB.of (re_var 4)) (RB.of (re_int)) (nomark _))) (rab_nil))))))))))))
    (rss_nil))
    (rss_one (rs_ret (re_tup (ra_cons (re_var 5) (ra_cons (re_callTy call_tuple_of vc_tuple rfl T.n_tuple b_tuple (rab_cons (RB.of (re_var 6)) (rab_nil))) (ra_cons (re_callTy call_tuple_of vc_tuple rfl T.n_tuple b_tuple (rab_cons (RB.of (re_var 8)) (rab_nil))) (ra_nil))))))))))))))
theorem sc__law_odd : FnScope N__law_odd ["_law_hand_here", "_law_thing"] (defScope s__law_odd) := ⟨rfl, rfl, rfl, by decide +kernel, rfl, by decide +kernel, by decide +kernel⟩
theorem c__law_odd (T : Tops K mg) : Cal P w K mg base 3 "_law_odd" 2 m__law_odd := by
  have S := sc__law_odd
  refine Cal.of T.d__law_odd S (fun f cdv A outer s H E hr => ?_)
  unfold b__law_odd
  exact rss_cons (rs_set 2 S.nd (re_call ((c__law_take T).mono (by decide)) hr (takes_of rfl rfl rfl rfl) (ra_cons (re_var 0) (ra_cons (re_int) (ra_nil)))))
    (rss_cons (rs_if (rt_cmp (op_eqAll hr.units) v2_eqD (RB.of (re_var 2)) (RB.of (re_int)) (nomark _))
    (rss_one (rs_ret (re_call ((c__law_pick T).mono (by decide)) hr (takes_of rfl rfl rfl rfl) (ra_cons (re_var 0) (ra_cons (re_f (rf_lst (ra_cons (re_bl) (ra_cons (re_bl) (ra_cons (re_non) (ra_cons (re_neg (re_int)) (ra_cons (re_int) (ra_cons (re_int) (ra_cons (re_bin op_pow v2_powD (RB.of (re_int)) (RB.of (re_int))) (ra_cons (re_int) (ra_cons (re_int) (ra_cons (re_int) (ra_cons (re_neg (re_int)) (ra_cons (re_int) (ra_nil))))))))))))))) (ra_nil))))))
    (rss_nil))
    (rss_cons (rs_if (rt_cmp (op_eqAll hr.units) v2_eqD (RB.of (re_var 2)) (RB.of (re_int)) (nomark _))
    (rss_one (rs_ret (re_call ((c__law_pick T).mono (by decide)) hr (takes_of rfl rfl rfl rfl) (ra_cons (re_var 0) (ra_cons (re_f (rf_lst (ra_cons (re_str) (ra_cons (re_str) (ra_cons (re_str) (ra_cons (re_str) (ra_cons (re_str) (ra_cons (re_str) (ra_nil))))))))) (ra_nil))))))
    (rss_nil))
    (rss_cons (rs_if (rt_cmp (op_eqAll hr.units) v2_eqD (RB.of (re_var 2)) (RB.of (re_int)) (nomark _))
    (rss_one (rs_ret (re_call ((c__law_pick T).mono (by decide)) hr (takes_of rfl rfl rfl rfl) (ra_cons (re_var 0) (ra_cons (re_f (rf_lst (ra_cons (re_tup (ra_nil)) (ra_cons (re_tup (ra_cons (re_str) (ra_nil))) (ra_cons (re_f (rf_lst (ra_nil))) (ra_cons (re_tup (ra_cons (re_int) (ra_cons (re_int) (ra_nil)))) (ra_cons (re_f (rf_dic0)) (ra_cons (re_tup (ra_cons (re_int) (ra_cons (re_int) (ra_nil)))) (ra_cons (re_tup (ra_cons (re_int) (ra_cons (re_int) (ra_cons (re_str) (ra_nil))))) (ra_nil)))))))))) (ra_nil))))))
    (rss_nil))
    (rss_cons (rs_if (rt_truth (RB.of (re_isi (T := "int") tk_int T.n_isinstance T.n_int b_int (RB.of (re_var 1)))) (fun _ => rfl))
    (rss_one (rs_ret (re_bin op_addD v2_addD (RB.of (re_var 1)) (RB.of (re_call ((c__law_pick T).mono (by decide)) hr (takes_of rfl rfl rfl rfl) (ra_cons (re_var 0) (ra_cons (re_f (rf_lst (ra_cons (re_int) (ra_cons (re_neg (re_int)) (ra_cons (re_int) (ra_cons (re_neg (re_int)) (ra_cons (re_bin op_pow v2_powD (RB.of (re_int)) (RB.of (re_int))) (ra_nil)))))))) (ra_nil))))))))
    (rss_nil))
    (rss_cons (rs_if (rt_truth (RB.of (re_isi (T := "tuple") tk_tuple T.n_isinstance T.n_tuple b_tuple (RB.of (re_var 1)))) (fun _ => rfl))
    (rss_one (rs_ret (re_f (rf_list T.n_list (rab_cons (RB.of (re_var 1)) (rab_nil))))))
    (rss_nil))
    (rss_one (rs_ret (re_var 1))))))))
theorem sc__law_spoilt : FnScope N__law_spoilt ["_law_hand_here", "_law_thing", "_law_deep"] (defScope s__law_spoilt) := ⟨rfl, rfl, rfl, by decide +kernel, rfl, by decide +kernel, by decide +kernel⟩
theorem c__law_spoilt (T : Tops K mg) : ∀ n : Nat, Cal P w K mg base (4 + n) "_law_spoilt" 3 (m__law_spoilt n)
  | 0 => Cal.bad T.d__law_spoilt sc__law_spoilt
  | n + 1 => by
    have ih := c__law_spoilt T n
    have S := sc__law_spoilt
    refine Cal.of (k := 4 + n) T.d__law_spoilt S (fun f cdv A outer s H E hr => ?_)
    unfold b__law_spoilt
    exact rss_cons (rs_if (rt_w (rw_or (rt_not (rt_truth (RB.of (re_isi (T := "tuple") tk_tuple T.n_isinstance T.n_tuple b_tuple (RB.of (re_var 1)))) (fun _ => rfl))) (rw_or (rt_cmp (op_eqAll hr.units) v2_eqD (RB.of (re_var 2)) (RB.of (re_int)) (nomark _)) (rw_or1 (rt_cmp (op_eqAll hr.units) v2_eqD (RB.of (re_call ((c__law_take T).mono (by omega)) hr (takes_of rfl rfl rfl rfl) (ra_cons (re_var 0) (ra_cons (re_int) (ra_nil))))) (RB.of (re_int)) (nomark _))))))
        (rss_one (rs_ret (re_call ((c__law_odd T).mono (by omega)) hr (takes_of rfl rfl rfl rfl) (ra_cons (re_var 0) (ra_cons (re_var 1) (ra_nil))))))
        (rss_nil))
        (rss_cons (rs_own 3 S.nd (rf_list T.n_list (rab_cons (RB.of (re_var 1)) (rab_nil))))
        (rss_cons (rs_set 4 S.nd (re_call ((c__law_take T).mono (by omega)) hr (takes_of rfl rfl rfl rfl) (ra_cons (re_var 0) (ra_cons (re_int) (ra_nil)))))
        (rss_cons (rs_set 5 S.nd (re_call ((c__law_take T).mono (by omega)) hr (takes_of rfl rfl rfl rfl) (ra_cons (re_var 0) (ra_cons (re_bin op_addD v2_addD (RB.of (re_callB call_lenAll vc_len rfl T.n_len b_len (rab_cons (rb_own 3) (rab_nil)))) (RB.of (re_int))) (ra_nil)))))
        (rss_cons (rs_if (rt_cmp (op_eqAll hr.units) v2_eqD (RB.of (re_var 4)) (RB.of (re_int)) (nomark _))
        (rss_one (rs_set 3 S.nd (re_bin op_addD v2_addD (RB.of (re_bin op_addD v2_addD (RB.of (re_slice (rb_own 3) (ro_none) (ro_some (re_var 5)))) (RB.of (re_f (rf_lst (ra_cons (re_call ((c__law_odd T).mono (by omega)) hr (takes_of rfl rfl rfl rfl) (ra_cons (re_var 0) (ra_cons (re_non) (ra_nil)))) (ra_nil))))))) (RB.of (re_slice (rb_own 3) (ro_some (re_var 5)) (ro_none))))))
        (rss_one (rs_if (rt_cmp (op_eqAll hr.units) v2_eqD (rb_own 3) (RB.of (re_f (rf_lst (ra_nil)))) (nomark _))
        (rss_one (rs_own 3 S.nd (rf_lst (ra_cons (re_call ((c__law_odd T).mono (by omega)) hr (takes_of rfl rfl rfl rfl) (ra_cons (re_var 0) (ra_cons (re_non) (ra_nil)))) (ra_nil)))))
        (rss_one (rs_if (rt_cmp (op_eqAll hr.units) v2_eqD (RB.of (re_var 4)) (RB.of (re_int)) (nomark _))
        (rss_one (rs_set 3 S.nd (re_bin op_addD v2_addD (RB.of (re_slice (rb_own 3) (ro_none) (ro_some (re_var 5)))) (RB.of (re_slice (rb_own 3) (ro_some (re_bin op_addD v2_addD (RB.of (re_var 5)) (RB.of (re_int)))) (ro_none))))))
        (rss_one (rs_if (rt_cmp (op_eqAll hr.units) v2_eqD (RB.of (re_var 4)) (RB.of (re_int)) (nomark _))
        (rss_one (rs_set 3 S.nd (re_bin op_addD v2_addD (RB.of (re_bin op_addD v2_addD (RB.of (re_slice (rb_own 3) (ro_none) (ro_some (re_var 5)))) (RB.of (re_f (rf_lst (ra_cons (re_ix ix_seq v2_ixD (rb_own 3) (RB.of (re_bin op_sub v2_subD (RB.of (re_var 5)) (RB.of (re_int)))) (fun _ _ => rfl)) (ra_nil))))))) (RB.of (re_slice (rb_own 3) (ro_some (re_var 5)) (ro_none))))))
        (rss_cons (rs_set 5 S.nd (re_call ((c__law_take T).mono (by omega)) hr (takes_of rfl rfl rfl rfl) (ra_cons (re_var 0) (ra_cons (re_callB call_lenAll vc_len rfl T.n_len b_len (rab_cons (rb_own 3) (rab_nil))) (ra_nil)))))
        (rss_one (rs_setO 3 (re_call ih hr (takes_of rfl rfl rfl rfl) (ra_cons (re_var 0) (ra_cons (re_ix ix_seq v2_ixD (rb_own 3) (RB.of (re_var 5)) (fun _ _ => rfl)) (ra_cons (re_bin op_sub v2_subD (RB.of (re_var 2)) (RB.of (re_int))) (ra_nil))))) (re_var 5)))))))))))
        (rss_one (rs_ret (re_callTy call_tuple_of vc_tuple rfl T.n_tuple b_tuple (rab_cons (rb_own 3) (rab_nil)))))))))
theorem sc__law_is_whole : FnScope N__law_is_whole ["_law_thing", "_law_low", "_law_high"] (defScope s__law_is_whole) := ⟨rfl, rfl, rfl, by decide +kernel, rfl, by decide +kernel, by decide +kernel⟩
theorem c__law_is_whole (T : Tops K mg) : Cal P w K mg base 1 "_law_is_whole" 3 m__law_is_whole := by
  have S := sc__law_is_whole
  refine Cal.of T.d__law_is_whole S (fun f cdv A outer s H E hr => ?_)
  unfold b__law_is_whole
  exact rss_one (rs_ret (re_and (re_isi (T := "int") tk_int T.n_isinstance T.n_int b_int (RB.of (re_var 0))) (re_and (re_not (RB.of (re_isi (T := "bool") tk_bool T.n_isinstance T.n_bool b_bool (RB.of (re_var 0))))) (re_and (re_cmp op_le v2_leD (RB.of (re_var 1)) (RB.of (re_var 0)) (nomark _)) (re_one (re_cmp op_le v2_leD (RB.of (re_var 0)) (RB.of (re_var 2)) (nomark _)))))))
theorem sc__law_is_row : FnScope N__law_is_row ["_law_thing", "_law_many"] (defScope s__law_is_row) := ⟨rfl, rfl, rfl, by decide +kernel, rfl, by decide +kernel, by decide +kernel⟩
theorem c__law_is_row (T : Tops K mg) : Cal P w K mg base 1 "_law_is_row" 2 m__law_is_row := by
  have S := sc__law_is_row
  refine Cal.of T.d__law_is_row S (fun f cdv A outer s H E hr => ?_)
  unfold b__law_is_row
  exact rss_one (rs_ret (re_and (re_isi (T := "tuple") tk_tuple T.n_isinstance T.n_tuple b_tuple (RB.of (re_var 0))) (re_one (re_cmp (op_eqAll hr.units) v2_eqD (RB.of (re_callB call_lenAll vc_len rfl T.n_len b_len (rab_cons (RB.of (re_var 0)) (rab_nil)))) (RB.of (re_var 1)) (nomark _)))))
theorem sc__law_is_word : FnScope N__law_is_word ["_law_thing"] (defScope s__law_is_word) := ⟨rfl, rfl, rfl, by decide +kernel, rfl, by decide +kernel, by decide +kernel⟩
theorem c__law_is_word (T : Tops K mg) : Cal P w K mg base 1 "_law_is_word" 1 m__law_is_word := by
  have S := sc__law_is_word
  refine Cal.of T.d__law_is_word S (fun f cdv A outer s H E hr => ?_)
  unfold b__law_is_word
  exact rss_cons (rs_if (rt_w (rw_or (rt_not (rt_truth (RB.of (re_isi (T := "str") tk_str T.n_isinstance T.n_str b_str (RB.of (re_var 0)))) (fun _ => rfl))) (rw_or (rt_cmp op_lt v2_ltD (RB.of (re_callB call_lenAll vc_len rfl T.n_len b_len (rab_cons (RB.of (re_var 0)) (rab_nil)))) (RB.of (re_int)) (nomark _)) (rw_or1 (rt_cmp op_gt v2_gtD (RB.of (re_callB call_lenAll vc_len rfl T.n_len b_len (rab_cons (RB.of (re_var 0)) (rab_nil)))) (RB.of (re_int)) (nomark _))))))
    (rss_one (rs_ret (re_bl)))
    (rss_nil))
    (rss_one (rs_ret (re_callB (cr_all rfl) vc_all rfl T.n_all b_all (rab_cons (RB.of (re_f (rf_lc (own := [("_law_sign", 1)]) rfl S.nd (ri_seq (re_var 0)) (blkOk_by (own := [("_law_sign", 1)]) (N := N__law_is_word) (sc := defScope s__law_is_word) (by decide +kernel)) (fun _ _ _ _ _ => rg_name 1 S.nd) (by decide) (fun _ _ _ _ _ => rts_nil) (fun _ _ _ _ _ => re_cmp op_inAll (v2_inD false) (RB.of (re_var 1)) (RB.of (re_str)) (by with_unfolding_all rfl))))) (rab_nil)))))
theorem sc__law_are_jumps : FnScope N__law_are_jumps ["_law_thing"] (defScope s__law_are_jumps) := ⟨rfl, rfl, rfl, by decide +kernel, rfl, by decide +kernel, by decide +kernel⟩
theorem c__law_are_jumps (T : Tops K mg) : Cal P w K mg base 2 "_law_are_jumps" 1 m__law_are_jumps := by
  have S := sc__law_are_jumps
  refine Cal.of T.d__law_are_jumps S (fun f cdv A outer s H E hr => ?_)
  unfold b__law_are_jumps
  exact rss_cons (rs_if (rt_w (rw_or (rt_not (rt_truth (RB.of (re_isi (T := "tuple") tk_tuple T.n_isinstance T.n_tuple b_tuple (RB.of (re_var 0)))) (fun _ => rfl))) (rw_or1 (rt_cmp op_gt v2_gtD (RB.of (re_callB call_lenAll vc_len rfl T.n_len b_len (rab_cons (RB.of (re_var 0)) (rab_nil)))) (RB.of (re_int)) (nomark _)))))
    (rss_one (rs_ret (re_bl)))
    (rss_nil))
    (rss_cons (rs_set 1 S.nd (re_int))
    (rss_cons (rs_for (passes_of rfl) rfl (ri_seq (re_var 0)) (rg_name 2 S.nd)
    (rss_cons (rs_if (rt_w (rw_or (rt_not (rt_truth (RB.of (re_call ((c__law_is_row T).mono (by decide)) hr (takes_of rfl rfl rfl rfl) (ra_cons (re_var 2) (ra_cons (re_int) (ra_nil))))) (fun _ => rfl))) (rw_or1 (rt_not (rt_truth (RB.of (re_call ((c__law_is_whole T).mono (by decide)) hr (takes_of rfl rfl rfl rfl) (ra_cons (re_ix ix_seq v2_ixD (RB.of (re_var 2)) (RB.of (re_int)) (fun _ _ => rfl)) (ra_cons (re_bin op_addD v2_addD (RB.of (re_var 1)) (RB.of (re_int))) (ra_cons (re_bin op_sub v2_subD (RB.of (re_bin op_pow v2_powD (RB.of (re_int)) (RB.of (re_int)))) (RB.of (re_int))) (ra_nil)))))) (fun _ => rfl))))))
    (rss_one (rs_ret (re_bl)))
    (rss_nil))
    (rss_cons (rs_if (rt_w (rw_or (rt_not (rt_truth (RB.of (re_call ((c__law_is_whole T).mono (by decide)) hr (takes_of rfl rfl rfl rfl) (ra_cons (re_ix ix_seq v2_ixD (RB.of (re_var 2)) (RB.of (re_int)) (fun _ _ => rfl)) (ra_cons (re_neg (re_int)) (ra_cons (re_int) (ra_nil)))))) (fun _ => rfl))) (rw_or1 (rt_cmp (op_eqAll hr.units) v2_eqD (RB.of (re_ix ix_seq v2_ixD (RB.of (re_var 2)) (RB.of (re_int)) (fun _ _ => rfl))) (RB.of (re_int)) (nomark _)))))
    (rss_one (rs_ret (re_bl)))
    (rss_nil))
    (rss_one (rs_set 1 S.nd (re_ix ix_seq v2_ixD (RB.of (re_var 2)) (RB.of (re_int)) (fun _ _ => rfl)))))))
    (rss_one (rs_ret (re_bl)))))
theorem sc__law_is_layer : FnScope N__law_is_layer ["_law_thing"] (defScope s__law_is_layer) := ⟨rfl, rfl, rfl, by decide +kernel, rfl, by decide +kernel, by decide +kernel⟩
theorem c__law_is_layer (T : Tops K mg) : Cal P w K mg base 2 "_law_is_layer" 1 m__law_is_layer := by
  have S := sc__law_is_layer
  refine Cal.of T.d__law_is_layer S (fun f cdv A outer s H E hr => ?_)
  unfold b__law_is_layer
  exact rss_cons (rs_if (rt_w (rw_or (rt_not (rt_truth (RB.of (re_call ((c__law_is_row T).mono (by decide)) hr (takes_of rfl rfl rfl rfl) (ra_cons (re_var 0) (ra_cons (re_int) (ra_nil))))) (fun _ => rfl))) (rw_or (rt_not (rt_truth (RB.of (re_call ((c__law_is_word T).mono (by decide)) hr (takes_of rfl rfl rfl rfl) (ra_cons (re_ix ix_seq v2_ixD (RB.of (re_var 0)) (RB.of (re_int)) (fun _ _ => rfl)) (ra_nil)))) (fun _ => rfl))) (rw_or1 (rt_not (rt_truth (RB.of (re_call ((c__law_is_whole T).mono (by decide)) hr (takes_of rfl rfl rfl rfl) (ra_cons (re_ix ix_seq v2_ixD (RB.of (re_var 0)) (RB.of (re_int)) (fun _ _ => rfl)) (ra_cons (re_int) (ra_cons (re_int) (ra_nil)))))) (fun _ => rfl)))))))
    (rss_one (rs_ret (re_bl)))
    (rss_nil))
    (rss_cons (rs_if (rt_w (rw_or (rt_not (rt_truth (RB.of (re_call ((c__law_is_whole T).mono (by decide)) hr (takes_of rfl rfl rfl rfl) (ra_cons (re_ix ix_seq v2_ixD (RB.of (re_var 0)) (RB.of (re_int)) (fun _ _ => rfl)) (ra_cons (re_int) (ra_cons (re_bin op_sub v2_subD (RB.of (re_bin op_mulAD v2_mulAD (RB.of (re_int)) (RB.of (re_ix ix_seq v2_ixD (RB.of (re_var 0)) (RB.of (re_int)) (fun _ _ => rfl))))) (RB.of (re_int))) (ra_nil)))))) (fun _ => rfl))) (rw_or (rt_not (rt_truth (RB.of (re_isi (T := "tuple") tk_tuple T.n_isinstance T.n_tuple b_tuple (RB.of (re_ix ix_seq v2_ixD (RB.of (re_var 0)) (RB.of (re_int)) (fun _ _ => rfl))))) (fun _ => rfl))) (rw_or1 (rt_cmp op_gt v2_gtD (RB.of (re_callB call_lenAll vc_len rfl T.n_len b_len (rab_cons (RB.of (re_ix ix_seq v2_ixD (RB.of (re_var 0)) (RB.of (re_int)) (fun _ _ => rfl))) (rab_nil)))) (RB.of (re_int)) (nomark _))))))
    (rss_one (rs_ret (re_bl)))
    (rss_nil))
    (rss_cons (rs_set 1 S.nd (re_int))
    (rss_cons (rs_for (passes_of rfl) rfl (ri_seq (re_ix ix_seq v2_ixD (RB.of (re_var 0)) (RB.of (re_int)) (fun _ _ => rfl))) (rg_name 2 S.nd)
    (rss_cons (rs_if (rt_w (rw_or (rt_not (rt_truth (RB.of (re_call ((c__law_is_row T).mono (by decide)) hr (takes_of rfl rfl rfl rfl) (ra_cons (re_var 2) (ra_cons (re_int) (ra_nil))))) (fun _ => rfl))) (rw_or1 (rt_not (rt_truth (RB.of (re_call ((c__law_is_whole T).mono (by decide)) hr (takes_of rfl rfl rfl rfl) (ra_cons (re_ix ix_seq v2_ixD (RB.of (re_var 2)) (RB.of (re_int)) (fun _ _ => rfl)) (ra_cons (re_var 1) (ra_cons (re_bin op_mulAD v2_mulAD (RB.of (re_int)) (RB.of (re_ix ix_seq v2_ixD (RB.of (re_var 0)) (RB.of (re_int)) (fun _ _ => rfl)))) (ra_nil)))))) (fun _ => rfl))))))
    (rss_one (rs_ret (re_bl)))
    (rss_nil))
    (rss_cons (rs_if (rt_w (rw_or (rt_not (rt_truth (RB.of (re_call ((c__law_is_whole T).mono (by decide)) hr (takes_of rfl rfl rfl rfl) (ra_cons (re_ix ix_seq v2_ixD (RB.of (re_var 2)) (RB.of (re_int)) (fun _ _ => rfl)) (ra_cons (re_bin op_addD v2_addD (RB.of (re_ix ix_seq v2_ixD (RB.of (re_var 2)) (RB.of (re_int)) (fun _ _ => rfl))) (RB.of (re_int))) (ra_cons (re_bin op_mulAD v2_mulAD (RB.of (re_int)) (RB.of (re_ix ix_seq v2_ixD (RB.of (re_var 0)) (RB.of (re_int)) (fun _ _ => rfl)))) (ra_nil)))))) (fun _ => rfl))) (rw_or1 (rt_not (rt_truth (RB.of (re_call ((c__law_is_word T).mono (by decide)) hr (takes_of rfl rfl rfl rfl) (ra_cons (re_ix ix_seq v2_ixD (RB.of (re_var 2)) (RB.of (re_int)) (fun _ _ => rfl)) (ra_nil)))) (fun _ => rfl))))))
    (rss_one (rs_ret (re_bl)))
    (rss_nil))
    (rss_one (rs_set 1 S.nd (re_ix ix_seq v2_ixD (RB.of (re_var 2)) (RB.of (re_int)) (fun _ _ => rfl)))))))
    (rss_one (rs_ret (re_bl))))))
theorem sc__law_is_change : FnScope N__law_is_change ["_law_thing"] (defScope s__law_is_change) := ⟨rfl, rfl, rfl, by decide +kernel, rfl, by decide +kernel, by decide +kernel⟩
theorem c__law_is_change (T : Tops K mg) : Cal P w K mg base 2 "_law_is_change" 1 m__law_is_change := by
  have S := sc__law_is_change
  refine Cal.of T.d__law_is_change S (fun f cdv A outer s H E hr => ?_)
  unfold b__law_is_change
  exact rss_cons (rs_if (rt_w (rw_or (rt_not (rt_truth (RB.of (re_isi (T := "tuple") tk_tuple T.n_isinstance T.n_tuple b_tuple (RB.of (re_var 0)))) (fun _ => rfl))) (rw_or (rt_cmp op_notInAll (v2_inD true) (RB.of (re_callB call_lenAll vc_len rfl T.n_len b_len (rab_cons (RB.of (re_var 0)) (rab_nil)))) (RB.of (re_tup (ra_cons (re_int) (ra_cons (re_int) (ra_nil))))) (by with_unfolding_all rfl)) (rw_or1 (rt_not (rt_truth (RB.of (re_isi (T := "str") tk_str T.n_isinstance T.n_str b_str (RB.of (re_ix ix_seq v2_ixD (RB.of (re_var 0)) (RB.of (re_int)) (fun _ _ => rfl))))) (fun _ => rfl)))))))
    (rss_one (rs_ret (re_bl)))
    (rss_nil))
    (rss_cons (rs_if (rt_w (rw_or (rt_cmp op_notInAll (v2_inD true) (RB.of (re_ix ix_seq v2_ixD (RB.of (re_var 0)) (RB.of (re_int)) (fun _ _ => rfl))) (RB.of (re_tup (ra_cons (re_str) (ra_cons (re_str) (ra_cons (re_str) (ra_nil)))))) (by with_unfolding_all rfl)) (rw_or1 (rt_cmp (op_neAll hr.units) v2_neD (RB.of (re_callB call_lenAll vc_len rfl T.n_len b_len (rab_cons (RB.of (re_var 0)) (rab_nil)))) (RB.of (re_bin op_addD v2_addD (RB.of (re_int)) (RB.of (re_callTy call_int1 vc_int rfl T.n_int b_int (rab_cons (RB.of (re_cmp (op_eqAll hr.units) v2_eqD (RB.of (re_ix ix_seq v2_ixD (RB.of (re_var 0)) (RB.of (re_int)) (fun _ _ => rfl))) (RB.of (re_str)) (nomark _))) (rab_nil)))))) (nomark _)))))
    (rss_one (rs_ret (re_bl)))
    (rss_nil))
    (rss_cons (rs_if (rt_w (rw_or (rt_not (rt_truth (RB.of (re_callB (cr_all rfl) vc_all rfl T.n_all b_all (rab_cons (RB.of (re_f (rf_lc (own := [("_law_word", 1)]) rfl S.nd (ri_seq (re_slice (RB.of (re_var 0)) (ro_some (re_int)) (ro_some (re_neg (re_int))))) (blkOk_by (own := [("_law_word", 1)]) (N := N__law_is_change) (sc := defScope s__law_is_change) (by decide +kernel)) (fun _ _ _ _ _ => rg_name 1 S.nd) (by decide) (fun _ _ _ _ _ => rts_nil) (fun _ _ _ _ _ => re_call ((c__law_is_word T).mono (by decide)) hr takes0 (ra_cons (re_var 1) (ra_nil)))))) (rab_nil)))) (fun _ => rfl))) (rw_or1 (rt_w (rw_and (rt_cmp (op_eqAll hr.units) v2_eqD (RB.of (re_ix ix_seq v2_ixD (RB.of (re_var 0)) (RB.of (re_int)) (fun _ _ => rfl))) (RB.of (re_str)) (nomark _)) (rw_and1 (rt_cmp (op_eqAll hr.units) v2_eqD (RB.of (re_ix ix_seq v2_ixD (RB.of (re_var 0)) (RB.of (re_int)) (fun _ _ => rfl))) (RB.of (re_ix ix_seq v2_ixD (RB.of (re_var 0)) (RB.of (re_int)) (fun _ _ => rfl))) (nomark _))))))))
    (rss_one (rs_ret (re_bl)))
    (rss_nil))
    (rss_cons (rs_if (rt_not (rt_truth (RB.of (re_call ((c__law_is_whole T).mono (by decide)) hr (takes_of rfl rfl rfl rfl) (ra_cons (re_ix ix_seq v2_ixD (RB.of (re_var 0)) (RB.of (re_neg (re_int))) (fun _ _ => rfl)) (ra_cons (re_int) (ra_cons (re_bin op_sub v2_subD (RB.of (re_bin op_pow v2_powD (RB.of (re_int)) (RB.of (re_int)))) (RB.of (re_int))) (ra_nil)))))) (fun _ => rfl)))
    (rss_one (rs_ret (re_bl)))
    (rss_nil))
    (rss_one (rs_ret (re_or (re_cmp op_isN v2_isN (RB.of (re_ix ix_seq v2_ixD (RB.of (re_var 0)) (RB.of (re_neg (re_int))) (fun _ _ => rfl))) (RB.of (re_non)) (nomark _)) (re_one (re_call ((c__law_is_whole T).mono (by decide)) hr (takes_of rfl rfl rfl rfl) (ra_cons (re_ix ix_seq v2_ixD (RB.of (re_var 0)) (RB.of (re_neg (re_int))) (fun _ _ => rfl)) (ra_cons (re_bin op_addD v2_addD (RB.of (re_ix ix_seq v2_ixD (RB.of (re_var 0)) (RB.of (re_neg (re_int))) (fun _ _ => rfl))) (RB.of (re_int))) (ra_cons (re_bin op_sub v2_subD (RB.of (re_bin op_pow v2_powD (RB.of (re_int)) (RB.of (re_int)))) (RB.of (re_int))) (ra_nil))))))))))))
theorem sc__law_is_book : FnScope N__law_is_book ["_law_thing"] (defScope s__law_is_book) := ⟨rfl, rfl, rfl, by decide +kernel, rfl, by decide +kernel, by decide +kernel⟩
theorem c__law_is_book (T : Tops K mg) : Cal P w K mg base 3 "_law_is_book" 1 m__law_is_book := by
  have S := sc__law_is_book
  refine Cal.of T.d__law_is_book S (fun f cdv A outer s H E hr => ?_)
  unfold b__law_is_book
  exact rss_cons (rs_if (rt_w (rw_or (rt_not (rt_truth (RB.of (re_call ((c__law_is_row T).mono (by decide)) hr (takes_of rfl rfl rfl rfl) (ra_cons (re_var 0) (ra_cons (re_int) (ra_nil))))) (fun _ => rfl))) (rw_or1 (rt_not (rt_truth (RB.of (re_call ((c__law_are_jumps T).mono (by decide)) hr (takes_of rfl rfl rfl rfl) (ra_cons (re_ix ix_seq v2_ixD (RB.of (re_var 0)) (RB.of (re_int)) (fun _ _ => rfl)) (ra_nil)))) (fun _ => rfl))))))
    (rss_one (rs_ret (re_bl)))
    (rss_nil))
    (rss_cons (rs_if (rt_w (rw_or (rt_not (rt_truth (RB.of (re_isi (T := "tuple") tk_tuple T.n_isinstance T.n_tuple b_tuple (RB.of (re_ix ix_seq v2_ixD (RB.of (re_var 0)) (RB.of (re_int)) (fun _ _ => rfl))))) (fun _ => rfl))) (rw_or (rt_cmp op_gt v2_gtD (RB.of (re_callB call_lenAll vc_len rfl T.n_len b_len (rab_cons (RB.of (re_ix ix_seq v2_ixD (RB.of (re_var 0)) (RB.of (re_int)) (fun _ _ => rfl))) (rab_nil)))) (RB.of (re_int)) (nomark _)) (rw_or1 (rt_not (rt_truth (RB.of (re_callB (cr_all rfl) vc_all rfl T.n_all b_all (rab_cons (RB.of (re_f (rf_lc (own := [("_law_one", 1)]) rfl S.nd (ri_seq (re_ix ix_seq v2_ixD (RB.of (re_var 0)) (RB.of (re_int)) (fun _ _ => rfl))) (blkOk_by (own := [("_law_one", 1)]) (N := N__law_is_book) (sc := defScope s__law_is_book) (by decide +kernel)) (fun _ _ _ _ _ => rg_name 1 S.nd) (by decide) (fun _ _ _ _ _ => rts_nil) (fun _ _ _ _ _ => re_call ((c__law_is_layer T).mono (by decide)) hr takes0 (ra_cons (re_var 1) (ra_nil)))))) (rab_nil)))) (fun _ => rfl)))))))
    (rss_one (rs_ret (re_bl)))
    (rss_nil))
    (rss_cons (fj_set 2 (fj_setLc 2 (own := [("_law_one", 1)]) rfl S.nd (sw_true rfl rfl rfl (by decide +kernel)) (ri_seq (re_ix ix_seq v2_ixD (RB.of (re_var 0)) (RB.of (re_int)) (fun _ _ => rfl))) (blkOk_by (own := [("_law_one", 1)]) (N := N__law_is_book) (sc := defScope s__law_is_book) (by decide +kernel)) (fun _ _ _ _ _ => rg_name 1 S.nd) (by decide) (fun _ _ _ _ _ => rts_nil) (fun _ _ _ _ _ => re_ix ix_seq v2_ixD (RB.of (re_var 1)) (RB.of (re_int)) (fun _ _ => rfl))))
    (rss_cons (rs_if (rt_w (rw_or (rt_cmp (op_neAll hr.units) v2_neD (RB.of (re_lenSet T.n_len T.n_set (RB.of (re_var 2)))) (RB.of (re_callB call_lenAll vc_len rfl T.n_len b_len (rab_cons (RB.of (re_var 2)) (rab_nil)))) (nomark _)) (rw_or (rt_not (rt_truth (RB.of (re_isi (T := "tuple") tk_tuple T.n_isinstance T.n_tuple b_tuple (RB.of (re_ix ix_seq v2_ixD (RB.of (re_var 0)) (RB.of (re_int)) (fun _ _ => rfl))))) (fun _ => rfl))) (rw_or1 (rt_cmp op_gt v2_gtD (RB.of (re_callB call_lenAll vc_len rfl T.n_len b_len (rab_cons (RB.of (re_ix ix_seq v2_ixD (RB.of (re_var 0)) (RB.of (re_int)) (fun _ _ => rfl))) (rab_nil)))) (RB.of (re_int)) (nomark _))))))
    (rss_one (rs_ret (re_bl)))
    (rss_nil))
    (rss_one (rs_ret (re_callB (cr_all rfl) vc_all rfl T.n_all b_all (rab_cons (RB.of (re_f (rf_lc (own := [("_law_one", 1)]) rfl S.nd (ri_seq (re_ix ix_seq v2_ixD (RB.of (re_var 0)) (RB.of (re_int)) (fun _ _ => rfl))) (blkOk_by (own := [("_law_one", 1)]) (N := N__law_is_book) (sc := defScope s__law_is_book) (by decide +kernel)) (fun _ _ _ _ _ => rg_name 1 S.nd) (by decide) (fun _ _ _ _ _ => rts_nil) (fun _ _ _ _ _ => re_call ((c__law_is_change T).mono (by decide)) hr takes0 (ra_cons (re_var 1) (ra_nil)))))) (rab_nil))))))))
theorem sc__law_same : FnScope N__law_same ["_law_found", "_law_due"] (defScope s__law_same) := ⟨rfl, rfl, rfl, by decide +kernel, rfl, by decide +kernel, by decide +kernel⟩
theorem c__law_same (T : Tops K mg) : Cal P w K mg base 1 "_law_same" 2 m__law_same := by
  have S := sc__law_same
  refine Cal.of T.d__law_same S (fun f cdv A outer s H E hr => ?_)
  unfold b__law_same
  exact rss_one (rs_ret (re_and (re_isi (T := "bool") tk_bool T.n_isinstance T.n_bool b_bool (RB.of (re_var 0))) (re_one (re_cmp (op_eqAll hr.units) v2_eqD (RB.of (re_var 0)) (RB.of (re_var 1)) (nomark _)))))
theorem sc_law : FnScope N_law ["_law_script"] (defScope s_law) := ⟨rfl, rfl, rfl, by decide +kernel, rfl, by decide +kernel, by decide +kernel⟩
theorem r_law (T : Tops K mg) (f : Addr) (cdv : Value) (A : Around) (outer : List Env) (s : Shared) (H : Hp) (E : XK) (hr : Room 10 (A.deeper (PyProof.Rows.envOfC "law" (defScope s_law) s.heap.objs.size f cdv))) :
    RSs (cxOf (L2.CX P w) P w K mg base N_law "law" (defScope s_law) f cdv A outer s H E) (fun cls d _ H => E cls d H) (defBody s_law) b_law := by
  have S := sc_law
  unfold b_law
  exact rss_cons (rs_for (passes_of rfl) rfl (ri_range1 rfl T.n_range (re_callB (call_max2 rfl) vc_max2 rfl T.n_max b_max (rab_cons (RB.of (re_int)) (rab_cons (RB.of (re_callB (call_min2 rfl) vc_min2 rfl T.n_min b_min (rab_cons (RB.of (re_int)) (rab_cons (RB.of (re_callB call_lenAll vc_len rfl T.n_len b_len (rab_cons (RB.of (re_var 0)) (rab_nil)))) (rab_nil))))) (rab_nil))))) (rg_name 1 S.nd)
    (rss_cons (rs_set 2 S.nd (re_call ((c__law_hand T).mono (by decide)) hr (takes_of rfl rfl rfl rfl) (ra_cons (re_var 0) (ra_cons (re_var 1) (ra_nil)))))
    (rss_cons (rs_set 3 S.nd (re_call ((c__law_good T).mono (by decide)) hr (takes_of rfl rfl rfl rfl) (ra_cons (re_var 2) (ra_nil))))
    (rss_one (rs_for (passes_of rfl) rfl (ri_seq (re_f (rf_lst (ra_cons (re_var 3) (ra_cons (re_call ((c__law_spoilt T 6).mono (by decide)) hr (takes_of rfl rfl rfl rfl) (ra_cons (re_var 2) (ra_cons (re_var 3) (ra_cons (re_int) (ra_nil))))) (ra_nil)))))) (rg_name 4 S.nd)
    (rss_cons (rs_if (rt_not (rt_truth (RB.of (re_call ((c__law_same T).mono (by decide)) hr (takes_of rfl rfl rfl rfl) (ra_cons (re_call ((c_is_book T).mono (by decide)) hr (takes_of rfl rfl rfl rfl) (ra_cons (re_var 4) (ra_nil))) (ra_cons (re_call ((c__law_is_book T).mono (by decide)) hr (takes_of rfl rfl rfl rfl) (ra_cons (re_var 4) (ra_nil))) (ra_nil))))) (fun _ => rfl)))
    (rss_one (rs_ret (re_bl)))
    (rss_nil))
    (rss_one (rs_if (rt_w (rw_and (rt_truth (RB.of (re_isi (T := "tuple") tk_tuple T.n_isinstance T.n_tuple b_tuple (RB.of (re_var 4)))) (fun _ => rfl)) (rw_and1 (rt_cmp op_gt v2_gtD (RB.of (re_callB call_lenAll vc_len rfl T.n_len b_len (rab_cons (RB.of (re_var 4)) (rab_nil)))) (RB.of (re_int)) (nomark _)))))
    (rss_cons (rs_if (rt_not (rt_truth (RB.of (re_call ((c__law_same T).mono (by decide)) hr (takes_of rfl rfl rfl rfl) (ra_cons (re_call ((c_are_jumps T).mono (by decide)) hr (takes_of rfl rfl rfl rfl) (ra_cons (re_ix ix_seq v2_ixD (RB.of (re_var 4)) (RB.of (re_int)) (fun _ _ => rfl)) (ra_nil))) (ra_cons (re_call ((c__law_are_jumps T).mono (by decide)) hr (takes_of rfl rfl rfl rfl) (ra_cons (re_ix ix_seq v2_ixD (RB.of (re_var 4)) (RB.of (re_int)) (fun _ _ => rfl)) (ra_nil))) (ra_nil))))) (fun _ => rfl)))
    (rss_one (rs_ret (re_bl)))
    (rss_nil))
    (rss_cons (rs_set 5 S.nd (re_ifExp (rt_truth (RB.of (re_isi (T := "tuple") tk_tuple T.n_isinstance T.n_tuple b_tuple (RB.of (re_ix ix_seq v2_ixD (RB.of (re_var 4)) (RB.of (re_int)) (fun _ _ => rfl))))) (fun _ => rfl)) (re_slice (RB.of (re_f (rf_list T.n_list (rab_cons (RB.of (re_ix ix_seq v2_ixD (RB.of (re_var 4)) (RB.of (re_int)) (fun _ _ => rfl))) (rab_nil))))) (ro_none) (ro_some (re_int))) (re_f (rf_lst (ra_cons (re_ix ix_seq v2_ixD (RB.of (re_var 4)) (RB.of (re_int)) (fun _ _ => rfl)) (ra_nil))))))
    (rss_one (rs_if (rt_not (rt_truth (RB.of (re_callB (cr_all rfl) vc_all rfl T.n_all b_all (rab_cons (RB.of (re_f (rf_lc (own := [("_law_one", 6)]) rfl S.nd (ri_seq (re_var 5)) (blkOk_by (own := [("_law_one", 6)]) (N := N_law) (sc := defScope s_law) (by decide +kernel)) (fun _ _ _ _ _ => rg_name 6 S.nd) (by decide) (fun _ _ _ _ _ => rts_nil) (fun _ _ _ _ _ => re_call ((c__law_same T).mono (by decide)) hr takes0 (ra_cons (re_call ((c_is_layer T).mono (by decide)) hr takes0 (ra_cons (re_var 6) (ra_nil))) (ra_cons (re_call ((c__law_is_layer T).mono (by decide)) hr takes0 (ra_cons (re_var 6) (ra_nil))) (ra_nil))))))) (rab_nil)))) (fun _ => rfl)))
    (rss_one (rs_ret (re_bl)))
    (rss_nil)))))
    (rss_nil)))))))))
    (rss_one (rs_ret (re_bl)))
end
end My
set_option Elab.async false
set_option linter.all false
set_option maxRecDepth 100000
set_option maxHeartbeats 4000000
namespace My
open PySem L2 Sim
/-- the cell n is a drawing hand, asked at most k times so far -/
def Hand (h : AH) (n : Nat) (k : Nat) : Prop := ∃ a b c : Int, h[n]? = some (.lst [.int a, .int b, .int c]) ∧ 0 ≤ a ∧ 0 ≤ b ∧ b < 4611686018427387904 ∧ 0 ≤ c ∧ c ≤ k
theorem Hand.mono {h : AH} {n j k : Nat} (H : Hand h n j) (hk : j ≤ k) : Hand h n k := by
  obtain ⟨a, b, c, e, h1, h2, h3, h4, h5⟩ := H
  exact ⟨a, b, c, e, h1, h2, h3, h4, by omega⟩
@[simp] theorem atI3_0 (a b c : D) : atI [a, b, c] 0 = some a := rfl
@[simp] theorem atI3_1 (a b c : D) : atI [a, b, c] 1 = some b := rfl
@[simp] theorem atI3_2 (a b c : D) : atI [a, b, c] 2 = some c := rfl
@[simp] theorem ixN3_0 : ixN 3 0 = some 0 := rfl
@[simp] theorem ixN3_2 : ixN 3 2 = some 2 := rfl
theorem div_ok {i m : Int} (h0 : 0 < m) (h1 : m ≤ 1000000000000000) : CDivW i m := ⟨h0, Nat.lt_of_le_of_lt ((Nat.log2_lt (by omega)).mpr (by omega : m.natAbs < 2 ^ 60) |> Nat.le_of_lt) (by decide)⟩
theorem mul_l {i j : Int} (h0 : -18446744073709551616 < i) (h1 : i < 18446744073709551616) : CMul i j ∨ CMulW i j := .inl (.inl ⟨by omega, by omega⟩)
theorem mul_r {i j : Int} (h0 : -18446744073709551616 < j) (h1 : j < 18446744073709551616) : CMul i j ∨ CMulW i j := .inl (.inr ⟨by omega, by omega⟩)
theorem v_take {h : AH} {n k : Nat} (H : Hand h n k) (hk : k ≤ 1000000) (m : Int) (h0 : 0 < m) (h1 : m ≤ 1000000000000000) :
    ∃ v h', m__law_take [.ref n, .int m] h = .ok (.int v) h' ∧ 0 ≤ v ∧ v < m ∧ Hand h' n (k + 1) := by
  obtain ⟨a, b, c, e, ha, hb, hb2, hc, hc2⟩ := H
  have hn : n < h.length := (List.getElem?_eq_some_iff.mp e).1
  have hd : ∀ i, CDivW i m := fun i => div_ok h0 h1
  by_cases hp : 0 < a
  · refine ⟨a % m, h.set n (.lst [.int (a / m), .int b, .int c]), ?_, Int.emod_nonneg _ (by omega), Int.emod_lt_of_pos _ h0, ?_⟩
    · simp [m__law_take, b__law_take, r2__law_take, q1__law_take, ev_ix_ref e, hp, h0, hd, e]
    · exact ⟨a / m, b, c, get_set_eq e, Int.ediv_nonneg ha (by omega), hb, hb2, hc, by omega⟩
  · have e2 := get_set_eq (c := .lst [.int a, .int b, .int (c + 1)]) e
    have d97 : ∀ i, CDivW i 97 := fun i => div_ok (by omega) (by omega)
    have d1m : ∀ i, CDivW i 1000033 := fun i => div_ok (by omega) (by omega)
    have q1 : ∀ j, CMul 2 j ∨ CMulW 2 j := fun j => mul_l (by omega) (by omega)
    have q2 : CMul (2 * (c + 1)) (c + 1) ∨ CMulW (2 * (c + 1)) (c + 1) := mul_r (by omega) (by omega)
    have q3 : ∀ j, CMul 65537 j ∨ CMulW 65537 j := fun j => mul_l (by omega) (by omega)
    have q4 : ∀ j, CMul 1299709 j ∨ CMulW 1299709 j := fun j => mul_l (by omega) (by omega)
    have q5 : ∀ j, CMul (b + 1299709 * (c + 1)) j ∨ CMulW (b + 1299709 * (c + 1)) j := fun j => mul_l (by omega) (by omega)
    have q6 : ∀ j, CMul j 99991 ∨ CMulW j 99991 := fun j => mul_r (by omega) (by omega)
    have q7 : ∀ i j, CMul (i % 2305843009213693921) j ∨ CMulW (i % 2305843009213693921) j := fun i j => mul_l (by omega) (by omega)
    have r1 : m__law_take [.ref n, .int m] h = .ok (.int (((b + 1299709 * (c + 1)) * (48271 + 2 * (c + 1) * (c + 1) + 65537 * (c + 1)) % 2305843009213693921 * ((b + 1299709 * (c + 1)) * (48271 + 2 * (c + 1) * (c + 1) + 65537 * (c + 1)) % 2305843009213693921 % 1000003 + (c + 1) * 99991 + 11) % 2305843009213693907 / 97 + (b + 1299709 * (c + 1)) * (48271 + 2 * (c + 1) * (c + 1) + 65537 * (c + 1)) % 2305843009213693921 * ((b + 1299709 * (c + 1)) * (48271 + 2 * (c + 1) * (c + 1) + 65537 * (c + 1)) % 2305843009213693921 % 1000003 + (c + 1) * 99991 + 11) % 2305843009213693907 / 1000033) % m)) (h.set n (.lst [.int a, .int b, .int (c + 1)])) := by
      simp [m__law_take, b__law_take, r2__law_take, q1__law_take, ev_ix_ref e, ev_ix_ref e2, hp, h0, d97, d1m, q1, q2, q3, q4, q5, q6, q7, e]
    exact ⟨_, _, r1, Int.emod_nonneg _ (by omega), Int.emod_lt_of_pos _ h0, a, b, c + 1, e2, ha, hb, hb2, by omega, by omega⟩
theorem v_pick {h : AH} {n k : Nat} (H : Hand h n k) (hk : k ≤ 1000000) (xs : List D) (h0 : 0 < xs.length) (h1 : xs.length ≤ 1000000) :
    ∃ d h', m__law_pick [.ref n, .lst xs] h = .ok d h' ∧ d ∈ xs ∧ Hand h' n (k + 1) := by
  obtain ⟨v, h', e, v0, v1, H'⟩ := v_take H hk xs.length (by omega) (by omega)
  obtain ⟨d, hd, ed⟩ := atI_mem v0 v1
  exact ⟨d, h', by simp [m__law_pick, b__law_pick, e, ed], hd, H'⟩
@[simp] theorem p15 : CPow 10 15 := by decide
@[simp] theorem p18 : CPow 10 18 := by decide
@[simp] theorem p60 : CPow 10 60 := by decide
@[simp] theorem p61 : CPow 10 61 := by decide
theorem v_great {h : AH} {n k : Nat} (H : Hand h n k) (hk : k ≤ 999900) :
    ∃ v h', m__law_great [.ref n] h = .ok (.int v) h' ∧ 0 ≤ v ∧ Hand h' n (k + 4) := by
  obtain ⟨fr', h', e, f, x, efr, hf, H'⟩ := forM_inv (g := gNm 2) (b := q1__law_great)
    (fun j fr h => ∃ (f : Int) (x : Slot), fr = [.v (.ref n), .v (.int f), x] ∧ 0 ≤ f ∧ Hand h n (k + j) ∧ j ≤ 4) (rangeD 0 4) 0 [.v (.ref n), .v (.int 0), .u] h ⟨0, .u, rfl, by omega, H, by omega⟩ fun i d fr h hd ⟨f, x, efr, hf, Hh, hj⟩ => by
      have hi : i < 4 := by
        have := (List.getElem?_eq_some_iff.mp hd).1
        simpa [rangeD] using this
      subst efr
      obtain ⟨v, h2, e, v0, v1, H2⟩ := v_take Hh (by omega) 1000000000000000 (by omega) (by omega)
      have q : CMul f 1000000000000000 ∨ CMulW f 1000000000000000 := mul_r (by omega) (by omega)
      refine ⟨_, [.v (.ref n), .v (.int (f * 1000000000000000 + v)), .v d], h2, rfl, ?_, f * 1000000000000000 + v, .v d, rfl, by omega, H2, by omega⟩
      simp [q1__law_great, q, e]
  refine ⟨f, h', ?_, hf, H'.1⟩
  simp [m__law_great, b__law_great, rngOk]
  simp [e, efr]
theorem v_moment {h : AH} {n k : Nat} (H : Hand h n k) (hk : k ≤ 999000) :
    ∃ v h', m__law_moment [.ref n] h = .ok (.int v) h' ∧ Hand h' n (k + 5) := by
  obtain ⟨w, h1, e1, w0, w1, H1⟩ := v_take H (by omega) 8 (by omega) (by omega)
  by_cases c5 : w < 5
  · obtain ⟨v, h2, e2, v0, v1, H2⟩ := v_take H1 (by omega) 20000 (by omega) (by omega)
    exact ⟨v, h2, by simp [m__law_moment, b__law_moment, q1__law_moment, q2__law_moment, q3__law_moment, e1, c5, e2], H2.mono (by omega)⟩
  · by_cases c6 : w = 5
    · obtain ⟨v, h2, e2, v0, v1, H2⟩ := v_take H1 (by omega) 9000000 (by omega) (by omega)
      exact ⟨v, h2, by simp [m__law_moment, b__law_moment, q1__law_moment, q2__law_moment, q3__law_moment, e1, c5, c6, e2], H2.mono (by omega)⟩
    · by_cases c7 : w = 6
      · obtain ⟨v, h2, e2, v0, H2⟩ := v_great H1 (by omega)
        exact ⟨v, h2, by simp [m__law_moment, b__law_moment, q1__law_moment, q2__law_moment, q3__law_moment, e1, c5, c6, c7, e2], H2.mono (by omega)⟩
      · obtain ⟨v, h2, e2, v0, v1, H2⟩ := v_take H1 (by omega) 9000 (by omega) (by omega)
        exact ⟨_, h2, by simp [m__law_moment, b__law_moment, q1__law_moment, q2__law_moment, q3__law_moment, e1, c5, c6, c7, e2]; rfl, H2.mono (by omega)⟩
end My
set_option Elab.async false
set_option linter.all false
set_option maxRecDepth 100000
set_option maxHeartbeats 4000000
namespace My
open PySem L2 Sim
/-- a list of short texts -/
def okS (s : Str) : Bool := s.cps.all (· < 0x110000)
def Sh (L : Nat) (s : Str) : Prop := (decide (s.length ≤ L) && okS s) = true
instance (L : Nat) (s : Str) : Decidable (Sh L s) := inferInstanceAs (Decidable (_ = true))
theorem Sh.of {L : Nat} {s : Str} (h : s.length ≤ L) (o : okS s = true) : Sh L s := by
  unfold Sh
  rw [Bool.and_eq_true]
  exact ⟨decide_eq_true h, o⟩
theorem Sh.len {L : Nat} {s : Str} (h : Sh L s) : s.length ≤ L := by
  unfold Sh at h
  rw [Bool.and_eq_true] at h
  exact of_decide_eq_true h.1
theorem Sh.ok {L : Nat} {s : Str} (h : Sh L s) : okS s = true := by
  unfold Sh at h
  rw [Bool.and_eq_true] at h
  exact h.2
theorem Sh.mono {L M : Nat} {s : Str} (hl : L ≤ M) (h : Sh L s) : Sh M s := .of (Nat.le_trans h.len hl) h.ok
theorem okS_iff (s : Str) : okS s = true ↔ ∀ c ∈ s.cps.toList, c < 0x110000 := by
  unfold okS
  rw [← Array.all_toList, List.all_eq_true]
  simp
theorem okS_app {a b : Str} (ha : okS a = true) (hb : okS b = true) : okS (a ++ b) = true := by
  rw [okS_iff] at *
  intro c hc
  have : c ∈ a.cps.toList ++ b.cps.toList := by rw [← Array.toList_append]; exact hc
  rcases List.mem_append.mp this with q | q
  · exact ha c q
  · exact hb c q
theorem okS_cut {z : Str} (h : okS z = true) (lo hi : Option Int) : okS (cutS z lo hi) = true := by
  rw [okS_iff] at *
  intro c hc
  exact h c (List.mem_of_mem_drop (List.mem_of_mem_take (by simpa [cutS] using hc)))
theorem okS_mul {z : Str} (h : okS z = true) (k : Int) : okS (Txt.mul z k) = true := by
  unfold Txt.mul
  split
  · decide +kernel
  · split
    · exact h
    · rw [okS_iff] at *
      have go : ∀ (n : Nat) (b : Array Nat), (∀ c ∈ b.toList, c < 0x110000) → ∀ c ∈ ((List.replicate n z.cps).foldl (· ++ ·) b).toList, c < 0x110000 := by
        intro n
        induction n with
        | zero => intro b hb; exact hb
        | succ n ih =>
          intro b hb
          rw [List.replicate_succ, List.foldl_cons]
          refine ih _ fun c hc => ?_
          rw [Array.toList_append] at hc
          rcases List.mem_append.mp hc with q | q
          · exact hb c q
          · exact h c q
      exact go _ #[] (by simp)
def Wds (L : Nat) (xs : List D) : Prop := ∀ d ∈ xs, ∃ s : Str, d = .str s ∧ Sh L s
theorem signs_len : (Str.ofString "abcdefghijklmnopqrstuvwxyz0123456789").length = 36 := by decide +kernel
theorem signs_at (v : Int) (h0 : 0 ≤ v) (h1 : v < 36) : ∃ c, atI (Str.ofString "abcdefghijklmnopqrstuvwxyz0123456789").cps.toList v = some c := by
  have hl : (Str.ofString "abcdefghijklmnopqrstuvwxyz0123456789").cps.toList.length = 36 := by rw [Array.length_toList]; exact signs_len
  have hlt : v.toNat < (Str.ofString "abcdefghijklmnopqrstuvwxyz0123456789").cps.toList.length := by omega
  have e : ((v.toNat : Nat) : Int) = v := Int.toNat_of_nonneg h0
  have q := atI_nat (j := v.toNat) (List.getElem?_eq_getElem hlt)
  rw [e] at q
  exact ⟨_, q⟩
theorem sign_ix (h : AH) (v : Int) (h0 : 0 ≤ v) (h1 : v < 36) : ∃ z : Str, ixD h (.str "abcdefghijklmnopqrstuvwxyz0123456789") (.int v) = some (.str z) ∧ z.length = 1 ∧ okS z = true := by
  obtain ⟨c, e⟩ := signs_at v h0 h1
  have hm : c ∈ (Str.ofString "abcdefghijklmnopqrstuvwxyz0123456789").cps.toList := by
    unfold atI at e
    obtain ⟨j, _, q⟩ := Option.bind_eq_some_iff.mp e
    exact List.mem_of_getElem? q
  have ok : okS (Str.ofString "abcdefghijklmnopqrstuvwxyz0123456789") = true := by decide +kernel
  have oc := (okS_iff _).mp ok c hm
  refine ⟨⟨#[c]⟩, ?_, rfl, (okS_iff _).mpr (by intro x hx; simp at hx; rw [hx]; exact oc)⟩
  rw [ev_ix_str, if_pos (by rw [signs_len, sizeL]; omega), e]
  rfl
theorem mul_len (z : Str) (k : Int) (h : 0 ≤ k) : (Txt.mul z k).length ≤ z.length * (k.toNat + 1) := by
  unfold Txt.mul
  split
  · exact Nat.zero_le _
  · split
    · exact Nat.le_mul_of_pos_right _ (by omega)
    · show ((List.replicate k.toNat z.cps).foldl (· ++ ·) #[]).size ≤ _
      rw [fold_size]
      show #[].size + k.toNat * z.length ≤ _
      rw [Nat.mul_comm]
      simp [Nat.mul_add]
theorem pick_int {h : AH} {n k : Nat} (H : Hand h n k) (hk : k ≤ 1000000) (xs : List Int) (h0 : 0 < xs.length) (h1 : xs.length ≤ 1000000) :
    ∃ v h', m__law_pick [.ref n, .lst (xs.map .int)] h = .ok (.int v) h' ∧ v ∈ xs ∧ Hand h' n (k + 1) := by
  obtain ⟨d, h', e, hd, H'⟩ := v_pick H hk (xs.map .int) (by simpa using h0) (by simpa using h1)
  obtain ⟨v, hv, rfl⟩ := List.mem_map.mp hd
  exact ⟨v, h', e, hv, H'⟩
theorem v_words {h : AH} {n k : Nat} (H : Hand h n k) (hk : k ≤ 999000) (m : Nat) (hm : m ≤ 100) :
    ∃ ws h', m__law_words [.ref n, .int m] h = .ok (.lst ws) h' ∧ ws.length = m ∧ Wds 30 ws ∧ Hand h' n (k + 8) := by
  have sz := sizeL
  obtain ⟨b, h1, f1, b0, b1, H1⟩ := v_take H (by omega) 36 (by omega) (by omega)
  obtain ⟨st, h2, f2, hst, H2⟩ := pick_int H1 (by omega) [1, 5, 7, 11, 13, 17] (by decide) (by decide)
  obtain ⟨v, h3, f3, v0, v1, H3⟩ := v_take H2 (by omega) 36 (by omega) (by omega)
  obtain ⟨z, ez, lz, oz⟩ := sign_ix h3 v v0 v1
  obtain ⟨q, h4, f4, hq, H4⟩ := pick_int H3 (by omega) [0, 1, 0, 2, 7] (by decide) (by decide)
  have q0 : 0 ≤ q ∧ q ≤ 7 := by simp at hq; omega
  have st0 : 0 ≤ st ∧ st ≤ 17 := by simp at hst; omega
  obtain ⟨stem, em, ls, os⟩ : ∃ stem : Str, (∀ hh : AH, mulAD hh (.str z) (.int q) = some (.str stem)) ∧ stem.length ≤ 8 ∧ okS stem = true := by
    have ls := mul_len z q q0.1
    have ls2 : z.length * (q.toNat + 1) ≤ 8 := by rw [lz]; omega
    refine ⟨Txt.mul z q, fun hh => mulA_str hh ?_, by omega, okS_mul oz q⟩
    unfold mulStrOk
    rw [Bool.and_eq_true, Bool.and_eq_true]
    exact ⟨⟨decide_eq_true (by omega), decide_eq_true (by omega)⟩, decide_eq_true (by omega)⟩
  obtain ⟨a, h5, f5, a0, a1, H5⟩ := v_take H4 (by omega) (stem.length + 1) (by omega) (by omega)
  obtain ⟨sh, h6, f6, s0, s1, H6⟩ := v_take H5 (by omega) 2 (by omega) (by omega)
  have lstem : stem.length ≤ sizeLine := by omega
  have c1 := cutS_length stem none (some a)
  have c2 := cutS_length stem (some a) none
  have mst : ∀ j, CMul st j ∨ CMulW st j := fun j => mul_l (by omega) (by omega)
  obtain ⟨fr', h', e, ws, x9, x10, x11, efr, lw, hw, eh⟩ := forM_inv (g := gNm 9) (b := q2__law_words)
    (fun j fr hh => ∃ (ws : List D) (x9 x10 x11 : Slot), fr = [.v (.ref n), .v (.int m), .v (.str "abcdefghijklmnopqrstuvwxyz0123456789"), .v (.int b), .v (.int st), .v (.str stem), .v (.int a), .v (.int sh), .o (.lst ws), x9, x10, x11] ∧ ws.length = j ∧ Wds 30 ws ∧ hh = h6)
    (rangeD 0 m) 0 [.v (.ref n), .v (.int m), .v (.str "abcdefghijklmnopqrstuvwxyz0123456789"), .v (.int b), .v (.int st), .v (.str stem), .v (.int a), .v (.int sh), .o (.lst []), .u, .u, .u] h6 ⟨[], .u, .u, .u, rfl, rfl, (by intro d hd; cases hd), rfl⟩ fun i d fr hh hd ⟨ws, x9, x10, x11, efr, lw, hw, eh⟩ => by
      have hi : i < m := by
        have := (List.getElem?_eq_some_iff.mp hd).1
        simpa [rangeD] using this
      have hd' : d = .int (i : Nat) := by
        simp only [rangeD, List.getElem?_map, List.getElem?_range hi] at hd
        simpa using hd.symm
      subst efr hd' eh
      obtain ⟨y, ey, ly, oy⟩ := sign_ix hh ((b + st * (i : Int)) % 36) (Int.emod_nonneg _ (by omega)) (Int.emod_lt_of_pos _ (by omega))
      have lws : ws.length < sizeLine := by omega
      have lw1 : (cutS stem none (some a)).length + y.length ≤ sizeLine := by omega
      have go : ∃ r : Str, r.length ≤ 8 ∧ okS r = true ∧ q1__law_words [.v (.ref n), .v (.int m), .v (.str "abcdefghijklmnopqrstuvwxyz0123456789"), .v (.int b), .v (.int st), .v (.str stem), .v (.int a), .v (.int sh), .o (.lst ws), .v (.int i), .v (.str (cutS stem (some a) none)), x11] hh = .nx [.v (.ref n), .v (.int m), .v (.str "abcdefghijklmnopqrstuvwxyz0123456789"), .v (.int b), .v (.int st), .v (.str stem), .v (.int a), .v (.int sh), .o (.lst ws), .v (.int i), .v (.str r), x11] hh := by
        by_cases cs : sh = 1
        · by_cases ci : (i : Int) % 2 = 1
          · exact ⟨"", by decide +kernel, by decide +kernel, by simp [q1__law_words, cs, ci]⟩
          · exact ⟨cutS stem (some a) none, by omega, okS_cut os _ _, by simp [q1__law_words, cs, ci]⟩
        · exact ⟨cutS stem (some a) none, by omega, okS_cut os _ _, by simp [q1__law_words, cs]⟩
      obtain ⟨r, lr, or_, gr⟩ := go
      have lw2 : (cutS stem none (some a) ++ y).length + r.length ≤ sizeLine := by rw [len_app]; omega
      refine ⟨_, _, hh, rfl, ?_, ws ++ [.str (cutS stem none (some a) ++ y ++ r)], .v (.int i), .v (.str r), .v (.str y), rfl, by simp; omega, fun d hd => ?_, rfl⟩
      · simp [q2__law_words, lstem, gr, mst, ey, lw1, lw2, lws]
      · rcases List.mem_append.mp hd with c | c
        · exact hw d c
        · rw [List.mem_singleton.mp c]
          exact ⟨_, rfl, .of (by rw [len_app, len_app]; omega) (okS_app (okS_app (okS_cut os _ _) oy) or_)⟩
  simp [rangeD] at lw
  refine ⟨ws, h6, ?_, lw, hw, H6.mono (by omega)⟩
  have z6 : 6 ≤ sizeLine := by omega
  have z5 : 5 ≤ sizeLine := by omega
  have e0 := ev_sFor_of (range_nat (a := eVar 1) (fr := [.v (.ref n), .v (.int m), .v (.str "abcdefghijklmnopqrstuvwxyz0123456789"), .v (.int b), .v (.int st), .v (.str stem), .v (.int a), .v (.int sh), .o (.lst []), .u, .u, .u]) (h := h6) (m := m) rfl (rng_small (by omega))) e
  simp at f2 f4
  have tl : r3__law_words [.v (.ref n), .v (.int m), .v (.str "abcdefghijklmnopqrstuvwxyz0123456789"), .v (.int b), .v (.int st), .v (.str stem), .v (.int a), .u, .u, .u, .u, .u] h5 = .rt (.lst ws) h6 := by
    unfold r3__law_words
    refine (sSeq_nx (fr1 := [.v (.ref n), .v (.int m), .v (.str "abcdefghijklmnopqrstuvwxyz0123456789"), .v (.int b), .v (.int st), .v (.str stem), .v (.int a), .v (.int sh), .u, .u, .u, .u]) (h1 := h6) (by simp [f6])).trans ?_
    refine (sSeq_nx (fr1 := [.v (.ref n), .v (.int m), .v (.str "abcdefghijklmnopqrstuvwxyz0123456789"), .v (.int b), .v (.int st), .v (.str stem), .v (.int a), .v (.int sh), .o (.lst []), .u, .u, .u]) (h1 := h6) (by simp)).trans ?_
    refine (sSeq_nx e0).trans ?_
    simp [efr, eh]
  simp [m__law_words, b__law_words, f1, f2, f3, f4, f5, ez, em, z6, z5, lstem, tl]
end My
set_option Elab.async false
set_option linter.all false
set_option maxRecDepth 100000
set_option maxHeartbeats 4000000
namespace My
open PySem L2 Sim
/-- a tree of tuples over numbers, short texts, None -/
def Tree : Nat → D → Prop
  | _, .non => True
  | _, .int _ => True
  | _, .str s => Sh 100 s
  | n + 1, .tup xs => xs.length ≤ 100 ∧ ∀ x ∈ xs, Tree n x
  | _, _ => False
theorem Tree.int {n : Nat} (i : Int) : Tree n (.int i) := by cases n <;> exact trivial
theorem Tree.non {n : Nat} : Tree n .non := by cases n <;> exact trivial
theorem Tree.str {n : Nat} {s : Str} (h : Sh 100 s) : Tree n (.str s) := by cases n <;> exact h
theorem Tree.tup {n : Nat} {xs : List D} (h : xs.length ≤ 100) (a : ∀ x ∈ xs, Tree n x) : Tree (n + 1) (.tup xs) := ⟨h, a⟩
theorem Tree.wd {n L : Nat} {xs : List D} (h : Wds L xs) (hL : L ≤ 100) : ∀ x ∈ xs, Tree n x := fun x hx => by
  obtain ⟨s, rfl, l⟩ := h x hx
  exact Tree.str (l.mono hL)
theorem range_at {m i : Nat} {d : D} (h : (rangeD 0 m)[i]? = some d) : i < m ∧ d = .int (i : Nat) := by
  have hi : i < m := by
    have := (List.getElem?_eq_some_iff.mp h).1
    simpa [rangeD] using this
  refine ⟨hi, ?_⟩
  simp only [rangeD, List.getElem?_map, List.getElem?_range hi] at h
  simpa using h.symm
theorem range_len (m : Nat) : (rangeD 0 m).length = m := by simp [rangeD]
theorem v_jumps_turn {h : AH} {n k : Nat} (H : Hand h n k) (hk : k ≤ 998000) (b : D) (at_ : Int) (ws : List D) (hw : ws.length ≤ 50) (x4 x5 x6 : Slot) :
    ∃ ws' at' y5 y6 h', q6__law_jumps [.v (.ref n), .v b, .o (.lst ws), .v (.int at_), x4, x5, x6] h = .nx [.v (.ref n), .v b, .o (.lst ws'), .v (.int at'), x4, y5, y6] h' ∧ ws'.length ≤ ws.length + 1 ∧ (∀ w ∈ ws', w ∈ ws ∨ ∃ i j, w = .tup [.int i, .int j]) ∧ Hand h' n (k + 20) := by
  have z10 : 10 ≤ sizeLine := by rw [sizeL]; omega
  have z2 : 2 ≤ sizeLine := by rw [sizeL]; omega
  have lw : ws.length < sizeLine := by rw [sizeL]; omega
  obtain ⟨w, h1, f1, w0, w1, H1⟩ := v_take H (by omega) 4 (by omega) (by omega)
  obtain ⟨a1, h2, f2, H2⟩ : ∃ a1 h2, q2__law_jumps [.v (.ref n), .v b, .o (.lst ws), .v (.int at_), x4, .v (.int w), x6] h1 = .nx [.v (.ref n), .v b, .o (.lst ws), .v (.int a1), x4, .v (.int w), x6] h2 ∧ Hand h2 n (k + 10) := by
    by_cases c0 : w = 0
    · obtain ⟨v, h2, f2, v0, v1, H2⟩ := v_take H1 (by omega) 5 (by omega) (by omega)
      exact ⟨at_ + 1 + v, h2, by simp [q2__law_jumps, c0, f2], H2.mono (by omega)⟩
    by_cases c3 : w < 3
    · obtain ⟨v, h2, f2, v0, v1, H2⟩ := v_take H1 (by omega) 4000 (by omega) (by omega)
      exact ⟨at_ + 1 + v, h2, by simp [q2__law_jumps, q1__law_jumps, c0, c3, f2], H2.mono (by omega)⟩
    · obtain ⟨v, h2, f2, H2⟩ := v_moment H1 (by omega)
      exact ⟨at_ + 1 + v, h2, by simp [q2__law_jumps, q1__law_jumps, c0, c3, f2], H2.mono (by omega)⟩
  obtain ⟨p, h3, f3, hp, H3⟩ := pick_int H2 (by omega) [60, -60, 30, -30, 1, -1, 1440, -1440, 0, 0] (by decide) (by decide)
  simp at f3
  obtain ⟨p2, h4, f4, H4⟩ : ∃ p2 h4, q3__law_jumps [.v (.ref n), .v b, .o (.lst ws), .v (.int a1), x4, .v (.int w), .v (.int p)] h3 = .nx [.v (.ref n), .v b, .o (.lst ws), .v (.int a1), x4, .v (.int w), .v (.int p2)] h4 ∧ Hand h4 n (k + 12) := by
    by_cases c : p = 0
    · obtain ⟨v, h4, f4, v0, v1, H4⟩ := v_take H3 (by omega) 2880 (by omega) (by omega)
      exact ⟨v - 1440, h4, by simp [q3__law_jumps, c, f4], H4.mono (by omega)⟩
    · exact ⟨p, h3, by simp [q3__law_jumps, c], H3.mono (by omega)⟩
  obtain ⟨p3, f5⟩ : ∃ p3, q4__law_jumps [.v (.ref n), .v b, .o (.lst ws), .v (.int a1), x4, .v (.int w), .v (.int p2)] h4 = .nx [.v (.ref n), .v b, .o (.lst ws), .v (.int a1), x4, .v (.int w), .v (.int p3)] h4 := by
    by_cases c : -1 < p2
    · by_cases c2 : p2 < 1
      · exact ⟨1440, by simp [q4__law_jumps, c, c2]⟩
      · exact ⟨p2, by simp [q4__law_jumps, c, c2]⟩
    · exact ⟨p2, by simp [q4__law_jumps, c]⟩
  have go : ∀ ws' : List D, q5__law_jumps [.v (.ref n), .v b, .o (.lst ws), .v (.int a1), x4, .v (.int w), .v (.int p3)] h4 = .nx [.v (.ref n), .v b, .o (.lst ws'), .v (.int a1), x4, .v (.int w), .v (.int p3)] h4 →
      q6__law_jumps [.v (.ref n), .v b, .o (.lst ws), .v (.int at_), x4, x5, x6] h = .nx [.v (.ref n), .v b, .o (.lst ws'), .v (.int a1), x4, .v (.int w), .v (.int p3)] h4 := fun ws' e => by
    simp [q6__law_jumps, f1, f2, f3, f4, f5, z10, e]
  by_cases c : a1 < 1000000000000000000000000000000000000000000000000000000000000
  · refine ⟨ws ++ [.tup [.int a1, .int p3]], a1, _, _, h4, go _ (by simp [q5__law_jumps, c, z2, lw]), by simp, fun x hx => ?_, H4.mono (by omega)⟩
    rcases List.mem_append.mp hx with q | q
    · exact .inl q
    · exact .inr ⟨a1, p3, List.mem_singleton.mp q⟩
  · exact ⟨ws, a1, _, _, h4, go _ (by simp [q5__law_jumps, c]), by omega, fun x hx => .inl hx, H4.mono (by omega)⟩
theorem v_jumps {h : AH} {n k : Nat} (H : Hand h n k) (hk : k ≤ 990000) (m : Nat) (hm : m ≤ 20) :
    ∃ js h', m__law_jumps [.ref n, .int m] h = .ok (.tup js) h' ∧ Tree 2 (.tup js) ∧ Hand h' n (k + 500) := by
  obtain ⟨c, h1, f1, c0, c1, H1⟩ := v_take H (by omega) (m + 1) (by omega) (by omega)
  obtain ⟨c, rfl⟩ : ∃ c' : Nat, c = c' := ⟨c.toNat, by omega⟩
  obtain ⟨fr', h', e, ws, at_, x4, x5, x6, efr, lw, hw, H'⟩ := forM_inv (g := gNm 4) (b := q6__law_jumps)
    (fun j fr hh => ∃ (ws : List D) (at_ : Int) (x4 x5 x6 : Slot), fr = [.v (.ref n), .v (.int m), .o (.lst ws), .v (.int at_), x4, x5, x6] ∧ ws.length ≤ j ∧ (∀ w ∈ ws, ∃ i j, w = .tup [.int i, .int j]) ∧ Hand hh n (k + 1 + 20 * j))
    (rangeD 0 c) 0 [.v (.ref n), .v (.int m), .o (.lst []), .v (.int 0), .u, .u, .u] h1 ⟨[], 0, .u, .u, .u, rfl, Nat.le_refl _, (by intro w hw; cases hw), H1⟩ fun i d fr hh hd ⟨ws, at_, x4, x5, x6, efr, lw, hw, H⟩ => by
      obtain ⟨hi, rfl⟩ := range_at hd
      subst efr
      obtain ⟨ws', a', y5, y6, h2, e, lw', hw', H2⟩ := v_jumps_turn H (by omega) (.int m) at_ ws (by omega) (.v (.int (i : Nat))) x5 x6
      refine ⟨_, _, h2, rfl, e, ws', a', _, y5, y6, rfl, by omega, fun w hm => ?_, H2.mono (by omega)⟩
      rcases hw' w hm with q | q
      · exact hw w q
      · exact q
  rw [range_len, Nat.zero_add] at lw H'
  have e0 := ev_sFor_of (range_nat (a := eCall m__law_take 2 (aCons (eVar 0) (aCons (e2 addD (eVar 1) (eC (.int 1))) (aNil)))) (fr := [.v (.ref n), .v (.int m), .o (.lst []), .v (.int 0), .u, .u, .u]) (h := h) (h1 := h1) (m := c) (by simp [f1]) (rng_small (by omega))) e
  refine ⟨ws, h', ?_, Tree.tup (by omega) fun x hx => ?_, H'.mono (by omega)⟩
  · unfold m__law_jumps b__law_jumps
    refine fn_rt ?_
    refine (sSeq_nx (fr1 := [.v (.ref n), .v (.int m), .o (.lst []), .u, .u, .u, .u]) (h1 := h) (by simp)).trans ?_
    refine (sSeq_nx (fr1 := [.v (.ref n), .v (.int m), .o (.lst []), .v (.int 0), .u, .u, .u]) (h1 := h) (by simp)).trans ?_
    refine (sSeq_nx e0).trans ?_
    simp [efr]
  · obtain ⟨i, j, rfl⟩ := hw x hx
    exact Tree.tup (by simp) fun y hy => by
      simp at hy
      rcases hy with rfl | rfl <;> exact Tree.int _
theorem v_minute {h : AH} {n k : Nat} (H : Hand h n k) (hk : k ≤ 998000) (d : Int) (d0 : 0 < d) (d1 : d ≤ 1000) :
    ∃ v h', m__law_minute [.ref n, .int d] h = .ok (.int v) h' ∧ Hand h' n (k + 3) := by
  have m1 : ∀ j, CMul 1440 j ∨ CMulW 1440 j := fun j => mul_l (by omega) (by omega)
  obtain ⟨w, h1, f1, w0, w1, H1⟩ := v_take H (by omega) 3 (by omega) (by omega)
  obtain ⟨v, h2, f2, v0, v1, H2⟩ := v_take H1 (by omega) d (by omega) (by omega)
  by_cases c0 : w = 0
  · obtain ⟨x, h3, f3, x0, x1, H3⟩ := v_take H2 (by omega) 2 (by omega) (by omega)
    exact ⟨1440 * (v + x), h3, by simp [m__law_minute, b__law_minute, q1__law_minute, f1, f2, c0, f3, m1], H3⟩
  by_cases c1 : w = 1
  · obtain ⟨x, h3, f3, hx, H3⟩ := pick_int H2 (by omega) [480, 540, 1020, 1080, 1320, 360] (by decide) (by decide)
    have z6 : 6 ≤ sizeLine := by rw [sizeL]; omega
    simp at f3
    exact ⟨1440 * v + x, h3, by simp [m__law_minute, b__law_minute, q1__law_minute, q2__law_minute, f1, f2, c0, c1, f3, m1, z6], H3⟩
  · obtain ⟨x, h3, f3, x0, x1, H3⟩ := v_take H2 (by omega) 1441 (by omega) (by omega)
    exact ⟨1440 * v + x, h3, by simp [m__law_minute, b__law_minute, q1__law_minute, q2__law_minute, f1, f2, c0, c1, f3, m1], H3⟩
end My
set_option Elab.async false
set_option linter.all false
set_option maxRecDepth 100000
set_option maxHeartbeats 4000000
namespace My
open PySem L2 Sim
theorem ints_list : ∀ vs : List D, (∀ v ∈ vs, ∃ i, v = .int i) → ∃ ns : List Int, vs = ns.map .int
  | [], _ => ⟨[], rfl⟩
  | v :: vs, h => by
    obtain ⟨i, rfl⟩ := h v (List.mem_cons_self ..)
    obtain ⟨ns, rfl⟩ := ints_list vs fun x hx => h x (List.mem_cons_of_mem _ hx)
    exact ⟨i :: ns, rfl⟩
theorem sortI_len (ns : List Int) : (sortI ns).length ≤ ns.length := nodup_len _ _ ((sortI_ris ns).imp fun h => by omega) fun k hk => (sortI_mem k ns).mp hk
theorem at_int (ms : List Int) (i : Nat) (h : i < ms.length) : ∃ v, atI (ms.map D.int) (i : Nat) = some (.int v) := ⟨ms[i], atI_nat (by simp [h])⟩
theorem v_layer_turn {h : AH} {n k : Nat} (H : Hand h n k) (hk : k ≤ 998000) (wd : D) (names : List D) (hn : 0 < names.length) (hn2 : names.length ≤ 1000) (hw : Wds 30 names) (x3 x4 x5 : D) (ms : List Int) (i : Nat) (hi : i + 1 < ms.length) (ws : List D) (lw : ws.length ≤ 100) :
    ∃ ws' h', q4__law_layer [.v (.ref n), .v wd, .v (.lst names), .v x3, .v x4, .v x5, .v (.lst (ms.map .int)), .v (.int (i : Nat)), .o (.lst ws)] h = .nx [.v (.ref n), .v wd, .v (.lst names), .v x3, .v x4, .v x5, .v (.lst (ms.map .int)), .v (.int (i : Nat)), .o (.lst ws')] h' ∧ ws'.length ≤ ws.length + 1 ∧ (∀ w ∈ ws', w ∈ ws ∨ Tree 1 w) ∧ Hand h' n (k + 2) := by
  have z3 : 3 ≤ sizeLine := by rw [sizeL]; omega
  have lws : ws.length < sizeLine := by rw [sizeL]; omega
  obtain ⟨w, h1, f1, w0, w1, H1⟩ := v_take H (by omega) 4 (by omega) (by omega)
  by_cases c : 0 < w
  · obtain ⟨d, h2, f2, hd, H2⟩ := v_pick H1 (by omega) names (by omega) (by omega)
    obtain ⟨a, ea⟩ := at_int ms i (by omega)
    obtain ⟨b, eb⟩ := at_int ms (i + 1) hi
    have eb' : atI (ms.map D.int) ((i : Int) + 1) = some (.int b) := eb
    obtain ⟨s, rfl, ls⟩ := hw d hd
    refine ⟨ws ++ [.tup [.int a, .int b, .str s]], h2, by simp [q4__law_layer, q3__law_layer, f1, c, f2, ea, eb', z3, lws], by simp, fun x hx => ?_, H2⟩
    rcases List.mem_append.mp hx with q | q
    · exact .inl q
    · rw [List.mem_singleton.mp q]
      exact .inr (Tree.tup (by simp) fun y hy => by
        simp at hy
        rcases hy with rfl | rfl | rfl
        · exact Tree.int _
        · exact Tree.int _
        · exact Tree.str (ls.mono (by omega)))
  · exact ⟨ws, h1, by simp [q4__law_layer, q3__law_layer, f1, c], by omega, fun x hx => .inl hx, H1.mono (by omega)⟩
theorem v_layer {h : AH} {n k : Nat} (H : Hand h n k) (hk : k ≤ 990000) (wd : Str) (lwd : Sh 30 wd) (names : List D) (hn : 0 < names.length) (hn2 : names.length ≤ 1000) (hw : Wds 30 names) (dy : Int) (d0 : 0 < dy) (d1 : dy ≤ 60) (most : Nat) (hm : most ≤ 20) :
    ∃ x h', m__law_layer [.ref n, .str wd, .lst names, .int dy, .int most] h = .ok x h' ∧ Tree 3 x ∧ Hand h' n (k + 300) := by
  have z4 : 4 ≤ sizeLine := by rw [sizeL]; omega
  have z3 : 3 ≤ sizeLine := by rw [sizeL]; omega
  have z1 : 1 ≤ sizeLine := by rw [sizeL]; omega
  have m1 : ∀ j, CMul 1440 j ∨ CMulW 1440 j := fun j => mul_l (by omega) (by omega)
  obtain ⟨a, h1, f1, a0, a1, H1⟩ := v_take H (by omega) (1440 * dy) (by omega) (by omega)
  obtain ⟨b, h2, f2, b0, b1, H2⟩ := v_take H1 (by omega) 2 (by omega) (by omega)
  have m2 : CMul a b ∨ CMulW a b := mul_l (by omega) (by omega)
  obtain ⟨w, h3, f3, w0, w1, H3⟩ := v_take H2 (by omega) 8 (by omega) (by omega)
  have leaf : ∀ t : D, Tree 2 t → Tree 3 (.tup [.str wd, .int (a * b), .int dy, t]) := fun t ht => Tree.tup (by simp) fun y hy => by
    simp at hy
    rcases hy with rfl | rfl | rfl | rfl
    · exact Tree.str (lwd.mono (by omega))
    · exact Tree.int _
    · exact Tree.int _
    · exact ht
  have s0 : sAsg (e2 mulAD (eCall m__law_take 2 (aCons (eVar 0) (aCons (e2 mulAD (eC (.int 1440)) (eVar 3)) (aNil)))) (eCall m__law_take 2 (aCons (eVar 0) (aCons (eC (.int 2)) (aNil))))) (gNm 5) [.v (.ref n), .v (.str wd), .v (.lst names), .v (.int dy), .v (.int most), .u, .u, .u, .u] h = .nx [.v (.ref n), .v (.str wd), .v (.lst names), .v (.int dy), .v (.int most), .v (.int (a * b)), .u, .u, .u] h2 := by
    simp [m1, f1, f2, m2]
  by_cases c0 : w = 0
  · obtain ⟨d, h4, f4, hd, H4⟩ := v_pick H3 (by omega) names (by omega) (by omega)
    obtain ⟨s, rfl, ls⟩ := hw d hd
    refine ⟨_, h4, ?_, leaf (.tup [.tup [.int 0, .int (1440 * dy), .str s]]) (Tree.tup (by simp) fun y hy => ?_), H4.mono (by omega)⟩
    · unfold m__law_layer b__law_layer
      refine fn_rt ((sSeq_nx s0).trans (sSeq_rt ?_))
      simp [q1__law_layer, f3, c0, m1, f4, z1, z3, z4]
    · rw [List.mem_singleton.mp hy]
      exact Tree.tup (by simp) fun y hy => by
        simp at hy
        rcases hy with rfl | rfl | rfl
        · exact Tree.int _
        · exact Tree.int _
        · exact Tree.str (ls.mono (by omega))
  · have s1 : q1__law_layer [.v (.ref n), .v (.str wd), .v (.lst names), .v (.int dy), .v (.int most), .v (.int (a * b)), .u, .u, .u] h2 = .nx [.v (.ref n), .v (.str wd), .v (.lst names), .v (.int dy), .v (.int most), .v (.int (a * b)), .u, .u, .u] h3 := by
      simp [q1__law_layer, f3, c0]
    obtain ⟨vs, h4, e4, lv, pv, H4⟩ := lc_draw (g := gNm 7) (t := tYesM) (me := x2__law_layer) (fr0 := [.v (.ref n), .v (.str wd), .v (.lst names), .v (.int dy), .v (.int most), .v (.int (a * b)), .u, .u, .u])
      (fun j h => Hand h n (k + 3 + 3 * j)) (fun d => ∃ i, d = .int i) (rangeD 0 (1 + most)) [] h3 0 H3 (fun j d h hd Hh => by
        obtain ⟨hj, rfl⟩ := range_at hd
        obtain ⟨v, h5, f5, H5⟩ := v_minute Hh (by omega) dy d0 (by omega)
        exact ⟨_, .int v, h5, rfl, rfl, by simp [x2__law_layer, f5], ⟨v, rfl⟩, H5.mono (by omega)⟩) (by rw [range_len, sizeL]; simp; omega)
    rw [range_len] at lv H4
    obtain ⟨ns, rfl⟩ := ints_list vs pv
    rw [List.length_map] at lv
    have ll := sortI_len ns
    have lp : 0 < (sortI ns).length := by
      match ns, lv with
      | [], lv => simp at lv; omega
      | x :: r, _ => exact List.length_pos_of_mem ((sortI_mem x (x :: r)).mpr (List.mem_cons_self ..))
    have s2 : sAsg (eF (sortSetM (eF (fLc (iRange1 (e2 addD (eC (.int 1)) (eVar 4))) (gNm 7) (tYesM) (x2__law_layer) [7])))) (gNm 6) [.v (.ref n), .v (.str wd), .v (.lst names), .v (.int dy), .v (.int most), .v (.int (a * b)), .u, .u, .u] h3 = .nx [.v (.ref n), .v (.str wd), .v (.lst names), .v (.int dy), .v (.int most), .v (.int (a * b)), .v (.lst ((sortI ns).map .int)), .u, .u] h4 := by
      have er : iRange1 (e2 addD (eC (.int 1)) (eVar 4)) [.v (.ref n), .v (.str wd), .v (.lst names), .v (.int dy), .v (.int most), .v (.int (a * b)), .u, .u, .u] h3 = .ok (rangeD 0 (1 + most)) h3 := range_nat (by simp) (rng_small (by omega))
      have e5 : fLc (iRange1 (e2 addD (eC (.int 1)) (eVar 4))) (gNm 7) (tYesM) (x2__law_layer) [7] [.v (.ref n), .v (.str wd), .v (.lst names), .v (.int dy), .v (.int most), .v (.int (a * b)), .u, .u, .u] h3 = .ok (.lst (ns.map .int)) h4 := by
        rw [ev_fLc, er, bind_ok, ev_wipe1]
        simp only [List.set]
        rw [e4, bind_ok]
        simp
      have c : ns.length ≤ 4000 ∧ (sortI ns).length < 64 := ⟨by omega, by omega⟩
      simp [e5, toInts_map, c, -ev_fLc]
    obtain ⟨l, hl⟩ : ∃ l : Nat, (sortI ns).length = l + 1 := ⟨(sortI ns).length - 1, by omega⟩
    obtain ⟨fr', h', e, ws, x7, efr, lw, hww, H'⟩ := forM_inv (g := gNm 7) (b := q4__law_layer)
      (fun j fr hh => ∃ (ws : List D) (x7 : Slot), fr = [.v (.ref n), .v (.str wd), .v (.lst names), .v (.int dy), .v (.int most), .v (.int (a * b)), .v (.lst ((sortI ns).map .int)), x7, .o (.lst ws)] ∧ ws.length ≤ j ∧ (∀ w ∈ ws, Tree 1 w) ∧ Hand hh n (k + 70 + 2 * j))
      (rangeD 0 l) 0 [.v (.ref n), .v (.str wd), .v (.lst names), .v (.int dy), .v (.int most), .v (.int (a * b)), .v (.lst ((sortI ns).map .int)), .u, .o (.lst [])] h4 ⟨[], .u, rfl, Nat.le_refl _, (by intro w hw; cases hw), H4.mono (by omega)⟩ fun i d fr hh hd ⟨ws, x7, efr, lw, hww, H⟩ => by
        obtain ⟨hi, rfl⟩ := range_at hd
        subst efr
        obtain ⟨ws', h2, e, lw', hw', H2⟩ := v_layer_turn H (by omega) (.str wd) names hn hn2 hw (.int dy) (.int most) (.int (a * b)) (sortI ns) i (by omega) ws (by omega)
        refine ⟨_, _, h2, rfl, e, ws', _, rfl, by omega, fun w hm => ?_, H2.mono (by omega)⟩
        rcases hw' w hm with q | q
        · exact hww w q
        · exact q
    rw [range_len, Nat.zero_add] at lw H'
    have e0 := ev_sFor_of (range_nat (a := e2 subD (eFn lenD (aCons (eVar 6) (aNil))) (eC (.int 1))) (fr := [.v (.ref n), .v (.str wd), .v (.lst names), .v (.int dy), .v (.int most), .v (.int (a * b)), .v (.lst ((sortI ns).map .int)), .u, .o (.lst [])]) (h := h4) (h1 := h4) (m := l) (by simp [hl]) (rng_small (by omega))) e
    refine ⟨_, h', ?_, leaf (.tup ws) (Tree.tup (by omega) hww), H'.mono (by omega)⟩
    unfold m__law_layer b__law_layer r5__law_layer
    refine fn_rt ((sSeq_nx s0).trans ((sSeq_nx s1).trans ((sSeq_nx s2).trans ?_)))
    refine (sSeq_nx (fr1 := [.v (.ref n), .v (.str wd), .v (.lst names), .v (.int dy), .v (.int most), .v (.int (a * b)), .v (.lst ((sortI ns).map .int)), .u, .o (.lst [])]) (h1 := h4) (by simp)).trans ?_
    refine (sSeq_nx e0).trans ?_
    simp [efr, z4]
end My
set_option Elab.async false
set_option linter.all false
set_option maxRecDepth 100000
set_option maxHeartbeats 4000000
namespace My
open PySem L2 Sim
theorem mulA_lst (h : AH) {xs : List D} {k : Int} (c : -(2 ^ 63) ≤ k ∧ k < 2 ^ 63 ∧ xs.length * k.toNat ≤ sizeLine) : mulAD h (.lst xs) (.int k) = some (.lst (List.replicate k.toNat xs).flatten) := by
  show (if -(2 ^ 63) ≤ k ∧ k < 2 ^ 63 ∧ xs.length * k.toNat ≤ sizeLine then some (D.lst (List.replicate k.toNat xs).flatten) else none) = _
  rw [if_pos c]
theorem at_list (xs : List D) (i : Nat) (h : i < xs.length) : ∃ d, d ∈ xs ∧ atI xs (i : Nat) = some d := ⟨xs[i], List.getElem_mem h, atI_nat (by simp [h])⟩
theorem v_change_end {h : AH} {n k : Nat} (H : Hand h n k) (hk : k ≤ 998000) (names : List D) (hn : 0 < names.length) (hn2 : names.length ≤ 1000) (hw : Wds 30 names) (low : D) (wy bg : Int) :
    ∃ x h', r5__law_change [.v (.ref n), .v (.lst names), .v low, .v (.int wy), .v (.int bg), .u, .u, .u, .u] h = .rt x h' ∧ Tree 1 x ∧ Hand h' n (k + 10) := by
  have z5 : 5 ≤ sizeLine := by rw [sizeL]; omega
  have z4 : 4 ≤ sizeLine := by rw [sizeL]; omega
  have z3 : 3 ≤ sizeLine := by rw [sizeL]; omega
  obtain ⟨g, h1, f1, g0, g1, H1⟩ := v_take H (by omega) 6 (by omega) (by omega)
  obtain ⟨e, h2, f2, e0, e1, H2⟩ := v_take H1 (by omega) 3000 (by omega) (by omega)
  obtain ⟨en, s2⟩ : ∃ en, sAsg (eFn min2D (aCons (e2 addD (e2 addD (eVar 4) (eC (.int 1))) (eCall m__law_take 2 (aCons (eVar 0) (aCons (eC (.int 3000)) (aNil))))) (aCons (e2 subD (e2 powD (eC (.int 10)) (eC (.int 60))) (eC (.int 1))) (aNil)))) (gNm 6) [.v (.ref n), .v (.lst names), .v low, .v (.int wy), .v (.int bg), .v (.int g), .u, .u, .u] h1 = .nx [.v (.ref n), .v (.lst names), .v low, .v (.int wy), .v (.int bg), .v (.int g), .v (.int en), .u, .u] h2 :=
    ⟨if 999999999999999999999999999999999999999999999999999999999999 < bg + 1 + e then 999999999999999999999999999999999999999999999999999999999999 else bg + 1 + e, by simp [f2]⟩
  obtain ⟨ed, s3, te⟩ : ∃ ed, q3__law_change [.v (.ref n), .v (.lst names), .v low, .v (.int wy), .v (.int bg), .v (.int g), .v (.int en), .u, .u] h2 = .nx [.v (.ref n), .v (.lst names), .v low, .v (.int wy), .v (.int bg), .v (.int g), .v ed, .u, .u] h2 ∧ Tree 0 ed := by
    by_cases c0 : g = 0
    · exact ⟨.non, by simp [q3__law_change, c0], Tree.non⟩
    by_cases c1 : g = 1
    · exact ⟨.int (bg + 1), by simp [q3__law_change, q2__law_change, c0, c1], Tree.int _⟩
    · exact ⟨.int en, by simp [q3__law_change, q2__law_change, c0, c1], Tree.int _⟩
  have s1 : sAsg (eCall m__law_take 2 (aCons (eVar 0) (aCons (eC (.int 6)) (aNil)))) (gNm 5) [.v (.ref n), .v (.lst names), .v low, .v (.int wy), .v (.int bg), .u, .u, .u, .u] h = .nx [.v (.ref n), .v (.lst names), .v low, .v (.int wy), .v (.int bg), .v (.int g), .u, .u, .u] h1 := by simp [f1]
  have pre : ∀ x h', sSeq q4__law_change (sRet (eTup (aCons (eCall m__law_pick 2 (aCons (eVar 0) (aCons (eF (fLst (aCons (eC (.str "away")) (aCons (eC (.str "away")) (aCons (eC (.str "on")) (aNil)))))) (aNil)))) (aCons (eCall m__law_pick 2 (aCons (eVar 0) (aCons (eVar 1) (aNil)))) (aCons (eVar 4) (aCons (eVar 6) (aNil))))))) [.v (.ref n), .v (.lst names), .v low, .v (.int wy), .v (.int bg), .v (.int g), .v ed, .u, .u] h2 = .rt x h' →
      r5__law_change [.v (.ref n), .v (.lst names), .v low, .v (.int wy), .v (.int bg), .u, .u, .u, .u] h = .rt x h' := fun x h' e => by
    unfold r5__law_change
    exact (sSeq_nx s1).trans ((sSeq_nx s2).trans ((sSeq_nx s3).trans e))
  by_cases cf : wy = 0 ∧ 1 < (names.length : Int)
  · obtain ⟨i, h3, f3, i0, i1, H3⟩ := v_take H2 (by omega) names.length (by omega) (by omega)
    obtain ⟨j, h4, f4, j0, j1, H4⟩ := v_take H3 (by omega) ((names.length : Int) - 1) (by omega) (by omega)
    obtain ⟨d, hd, ed1⟩ := atI_mem i0 i1
    obtain ⟨d2, hd2, ed2⟩ := atI_mem (xs := names) (v := (i + 1 + j) % names.length) (Int.emod_nonneg _ (by omega)) (Int.emod_lt_of_pos _ (by omega))
    obtain ⟨s, rfl, ls⟩ := hw d hd
    obtain ⟨t, rfl, lt⟩ := hw d2 hd2
    have np : 0 < (names.length : Int) := by omega
    refine ⟨.tup [.str "for", .str s, .str t, .int bg, ed], h4, pre _ _ (sSeq_rt ?_), Tree.tup (by simp) fun y hy => ?_, H4.mono (by omega)⟩
    · simp [q4__law_change, cf.1, cf.2, f3, f4, ed1, ed2, z5, np, -Int.natCast_pos]
    · simp at hy
      rcases hy with rfl | rfl | rfl | rfl | rfl
      · exact Tree.str (by decide +kernel)
      · exact Tree.str (ls.mono (by omega))
      · exact Tree.str (lt.mono (by omega))
      · exact Tree.int _
      · exact te
  · have s4 : q4__law_change [.v (.ref n), .v (.lst names), .v low, .v (.int wy), .v (.int bg), .v (.int g), .v ed, .u, .u] h2 = .nx [.v (.ref n), .v (.lst names), .v low, .v (.int wy), .v (.int bg), .v (.int g), .v ed, .u, .u] h2 := by
      by_cases c : wy = 0
      · have c2 : ¬ 1 < (names.length : Int) := fun h => cf ⟨c, h⟩
        simp [q4__law_change, c, c2]
      · simp [q4__law_change, c]
    obtain ⟨p, h3, f3, hp, H3⟩ := v_pick H2 (by omega) [.str "away", .str "away", .str "on"] (by decide) (by decide)
    obtain ⟨d, h4, f4, hd, H4⟩ := v_pick H3 (by omega) names (by omega) (by omega)
    obtain ⟨s, rfl, ls⟩ := hw d hd
    refine ⟨.tup [p, .str s, .int bg, ed], h4, pre _ _ ((sSeq_nx s4).trans ?_), Tree.tup (by simp) fun y hy => ?_, H4.mono (by omega)⟩
    · simp [f3, f4, z3, z4]
    · simp at hy
      rcases hy with rfl | rfl | rfl | rfl
      · simp at hp
        rcases hp with rfl | rfl <;> exact Tree.str (by decide +kernel)
      · exact Tree.str (ls.mono (by omega))
      · exact Tree.int _
      · exact te
theorem v_change {h : AH} {n k : Nat} (H : Hand h n k) (hk : k ≤ 990000) (names : List D) (hn : 0 < names.length) (hn2 : names.length ≤ 1000) (hw : Wds 30 names) (low : Int) :
    ∃ x h', m__law_change [.ref n, .lst names, .int low] h = .ok x h' ∧ Tree 1 x ∧ Hand h' n (k + 40) := by
  obtain ⟨w, h1, f1, w0, w1, H1⟩ := v_take H (by omega) 3 (by omega) (by omega)
  obtain ⟨b, h2, f2, b0, b1, H2⟩ := v_take H1 (by omega) 3000 (by omega) (by omega)
  obtain ⟨c, h3, f3, c0, c1, H3⟩ := v_take H2 (by omega) 8 (by omega) (by omega)
  obtain ⟨bg, h4, s2, H4⟩ : ∃ bg h4, q1__law_change [.v (.ref n), .v (.lst names), .v (.int low), .v (.int w), .v (.int (low + b)), .u, .u, .u, .u] h2 = .nx [.v (.ref n), .v (.lst names), .v (.int low), .v (.int w), .v (.int bg), .u, .u, .u, .u] h4 ∧ Hand h4 n (k + 10) := by
    by_cases cc : c = 0
    · obtain ⟨v, h4, f4, H4⟩ := v_moment H3 (by omega)
      exact ⟨v, h4, by simp [q1__law_change, f3, cc, f4], H4.mono (by omega)⟩
    · exact ⟨low + b, h3, by simp [q1__law_change, f3, cc], H3.mono (by omega)⟩
  obtain ⟨b2, s3⟩ : ∃ b2, sAsg (eFn min2D (aCons (eVar 4) (aCons (e2 subD (e2 powD (eC (.int 10)) (eC (.int 60))) (eC (.int 2))) (aNil)))) (gNm 4) [.v (.ref n), .v (.lst names), .v (.int low), .v (.int w), .v (.int bg), .u, .u, .u, .u] h4 = .nx [.v (.ref n), .v (.lst names), .v (.int low), .v (.int w), .v (.int b2), .u, .u, .u, .u] h4 :=
    ⟨if 999999999999999999999999999999999999999999999999999999999998 < bg then 999999999999999999999999999999999999999999999999999999999998 else bg, by simp⟩
  obtain ⟨x, h5, e, tx, H5⟩ := v_change_end H4 (by omega) names hn hn2 hw (.int low) w b2
  refine ⟨x, h5, ?_, tx, H5.mono (by omega)⟩
  unfold m__law_change b__law_change
  refine fn_rt ?_
  refine (sSeq_nx (fr1 := [.v (.ref n), .v (.lst names), .v (.int low), .v (.int w), .u, .u, .u, .u, .u]) (h1 := h1) (by simp [f1])).trans ?_
  refine (sSeq_nx (fr1 := [.v (.ref n), .v (.lst names), .v (.int low), .v (.int w), .v (.int (low + b)), .u, .u, .u, .u]) (h1 := h2) (by simp [f2])).trans ?_
  exact (sSeq_nx s2).trans ((sSeq_nx s3).trans e)
theorem v_jump_row {h : AH} {n k : Nat} (H : Hand h n k) (hk : k ≤ 990000) (m : Nat) (hm : m ≤ 20) :
    ∃ js h', m__law_jump_row [.ref n, .int m] h = .ok (.tup js) h' ∧ Tree 2 (.tup js) ∧ Hand h' n (k + 60) := by
  have z6 : 6 ≤ sizeLine := by rw [sizeL]; omega
  have z2 : 2 ≤ sizeLine := by rw [sizeL]; omega
  obtain ⟨fr', h', e, ws, at_, x4, efr, lw, hw, H'⟩ := forM_inv (g := gNm 4) (b := q1__law_jump_row)
    (fun j fr hh => ∃ (ws : List D) (at_ : Int) (x4 : Slot), fr = [.v (.ref n), .v (.int m), .o (.lst ws), .v (.int at_), x4] ∧ ws.length ≤ j ∧ (∀ w ∈ ws, Tree 1 w) ∧ Hand hh n (k + 2 * j))
    (rangeD 0 m) 0 [.v (.ref n), .v (.int m), .o (.lst []), .v (.int 0), .u] h ⟨[], 0, .u, rfl, Nat.le_refl _, (by intro w hw; cases hw), H⟩ fun i d fr hh hd ⟨ws, at_, x4, efr, lw, hw, H⟩ => by
      obtain ⟨hi, rfl⟩ := range_at hd
      subst efr
      have lws : ws.length < sizeLine := by rw [sizeL]; omega
      obtain ⟨v, h1, f1, v0, v1, H1⟩ := v_take H (by omega) 500 (by omega) (by omega)
      obtain ⟨p, h2, f2, hp, H2⟩ := pick_int H1 (by omega) [60, -60, 1440, -1440, 1, -1] (by decide) (by decide)
      simp at f2
      refine ⟨_, [.v (.ref n), .v (.int m), .o (.lst (ws ++ [.tup [.int (at_ + 1 + v), .int p]])), .v (.int (at_ + 1 + v)), .v (.int (i : Nat))], h2, rfl, by simp [q1__law_jump_row, f1, f2, z6, z2, lws], _, _, _, rfl, by simp; omega, fun w hm => ?_, H2.mono (by omega)⟩
      rcases List.mem_append.mp hm with q | q
      · exact hw w q
      · rw [List.mem_singleton.mp q]
        exact Tree.tup (by simp) fun y hy => by
          simp at hy
          rcases hy with rfl | rfl <;> exact Tree.int _
  rw [range_len, Nat.zero_add] at lw H'
  have e0 := ev_sFor_of (range_nat (a := eVar 1) (fr := [.v (.ref n), .v (.int m), .o (.lst []), .v (.int 0), .u]) (h := h) (m := m) rfl (rng_small (by omega))) e
  refine ⟨ws, h', ?_, Tree.tup (by omega) hw, H'.mono (by omega)⟩
  unfold m__law_jump_row b__law_jump_row
  refine fn_rt ?_
  refine (sSeq_nx (fr1 := [.v (.ref n), .v (.int m), .o (.lst []), .u, .u]) (h1 := h) (by simp)).trans ?_
  refine (sSeq_nx (fr1 := [.v (.ref n), .v (.int m), .o (.lst []), .v (.int 0), .u]) (h1 := h) (by simp)).trans ?_
  refine (sSeq_nx e0).trans ?_
  simp [efr]
end My
set_option Elab.async false
set_option linter.all false
set_option maxRecDepth 100000
set_option maxHeartbeats 4000000
namespace My
open PySem L2 Sim
theorem plus_flag (c k more : Int) (c0 : 0 ≤ c) (fr : Fr) (h : AH) (e : fr[4]? = some (.v (.int more))) :
    ∃ m : Nat, (m : Int) ≤ c + 1 ∧ c ≤ (m : Int) ∧ (e2 addD (eC (.int c)) (eFn intD (aCons (e2 (eqD) (eVar 4) (eC (.int k))) (aNil)))) fr h = .ok (.int m) h := by
  by_cases q : more = k
  · refine ⟨c.toNat + 1, by omega, by omega, ?_⟩
    have : ((c.toNat + 1 : Nat) : Int) = c + 1 := by omega
    rw [this]
    simp [e, q]
  · refine ⟨c.toNat, by omega, by omega, ?_⟩
    have : ((c.toNat : Nat) : Int) = c := by omega
    rw [this]
    simp [e, q]
theorem aCons_ok {m : ME} {ms : MA} {fr : Fr} {h h1 h2 : AH} {d : D} {ds : List D} (e : m fr h = .ok d h1) (e2 : ms fr h1 = .ok ds h2) : aCons m ms fr h = .ok (d :: ds) h2 := by
  rw [ev_aCons, e, bind_ok, e2, bind_ok]
theorem v_good {h : AH} {n k : Nat} (H : Hand h n k) (hk : k ≤ 900000) :
    ∃ x h', m__law_good [.ref n] h = .ok x h' ∧ Tree 5 x ∧ Hand h' n (k + 9000) := by
  have z3 : 3 ≤ sizeLine := by rw [sizeL]; omega
  have z1 : 1 ≤ sizeLine := by rw [sizeL]; omega
  obtain ⟨names, h1, f1, ln, wn, H1⟩ := v_words H (by omega) 3 (by omega)
  obtain ⟨wds, h2, f2, lws, wws, H2⟩ := v_words H1 (by omega) 5 (by omega)
  obtain ⟨full, h3, f3, _, _, H3⟩ := v_take H2 (by omega) 4 (by omega) (by omega)
  obtain ⟨more, h4, f4, _, _, H4⟩ := v_take H3 (by omega) 6 (by omega) (by omega)
  obtain ⟨js, h5, f5, tj, H5⟩ := v_jumps H4 (by omega) 3 (by omega)
  have f1' : m__law_words [.ref n, .int 3] h = .ok (.lst names) h1 := f1
  have f2' : m__law_words [.ref n, .int 5] h1 = .ok (.lst wds) h2 := f2
  have f5' : m__law_jumps [.ref n, .int 3] h4 = .ok (.tup js) h5 := f5
  obtain ⟨cl, h6, f6, cl0, cl1, H6⟩ := v_take H5 (by omega) 4 (by omega) (by omega)
  obtain ⟨cl, rfl⟩ : ∃ c' : Nat, cl = c' := ⟨cl.toNat, by omega⟩
  have wat : ∀ i : Nat, i < 5 → ∃ s : Str, atI wds (i : Nat) = some (.str s) ∧ Sh 30 s := fun i hi => by
    obtain ⟨d, hd, e⟩ := at_list wds i (by omega)
    obtain ⟨s, rfl, ls⟩ := wws d hd
    exact ⟨s, e, ls⟩
  -- layers
  obtain ⟨ly, h7, e7, l7, t7, H7⟩ := lc_draw (g := gNm 7) (t := tYesM) (me := x1__law_good) (fr0 := [.v (.ref n), .v (.lst names), .v (.lst wds), .v (.int full), .v (.int more), .v (.tup js), .u, .u, .u, .u])
    (fun j h => Hand h n (k + 600 + 301 * j)) (fun d => Tree 3 d) (rangeD 0 cl) [] h6 0 (H6.mono (by omega)) (fun j d h hd Hh => by
      obtain ⟨hj, rfl⟩ := range_at hd
      obtain ⟨s, es, ls⟩ := wat j (by omega)
      obtain ⟨v, ha, fa, v0, v1, Ha⟩ := v_take Hh (by omega) 4 (by omega) (by omega)
      obtain ⟨x, hb, fb, tx, Hb⟩ := v_layer Ha (by omega) s ls names (by omega) (by omega) wn (1 + v) (by omega) (by omega) 2 (by omega)
      have fb' : m__law_layer [.ref n, .str s, .lst names, .int (1 + v), .int 2] ha = .ok x hb := fb
      exact ⟨_, x, hb, rfl, rfl, by simp [x1__law_good, es, fa, fb'], tx, Hb.mono (by omega)⟩) (by rw [range_len, sizeL]; simp; omega)
  rw [range_len] at l7 H7
  obtain ⟨cc, h8, f8, cc0, cc1, H8⟩ := v_take H7 (by omega) 4 (by omega) (by omega)
  obtain ⟨cc, rfl⟩ : ∃ c' : Nat, cc = c' := ⟨cc.toNat, by omega⟩
  obtain ⟨cg, h9, e9, l9, t9, H9⟩ := lc_draw (g := gNm 7) (t := tYesM) (me := x2__law_good) (fr0 := [.v (.ref n), .v (.lst names), .v (.lst wds), .v (.int full), .v (.int more), .v (.tup js), .v (.lst ly), .u, .u, .u])
    (fun j h => Hand h n (k + 2000 + 41 * j)) (fun d => Tree 3 d) (rangeD 0 cc) [] h8 0 (H8.mono (by omega)) (fun j d h hd Hh => by
      obtain ⟨hj, rfl⟩ := range_at hd
      obtain ⟨x, hb, fb, tx, Hb⟩ := v_change Hh (by omega) names (by omega) (by omega) wn 50
      refine ⟨_, x, hb, rfl, rfl, by simp [x2__law_good, fb], ?_, Hb.mono (by omega)⟩
      cases x with
      | tup xs => exact ⟨tx.1, fun y hy => by
          have := tx.2 y hy
          cases y <;> first | exact trivial | exact this | exact this.elim⟩
      | _ => first | exact trivial | exact tx | exact tx.elim) (by rw [range_len, sizeL]; simp; omega)
  rw [range_len] at l9 H9
  simp only [List.nil_append] at e7 e9
  have s5 : sAsg (eCall m__law_jumps 2 (aCons (eVar 0) (aCons (eC (.int 3)) (aNil)))) (gNm 5) [.v (.ref n), .v (.lst names), .v (.lst wds), .v (.int full), .v (.int more), .u, .u, .u, .u, .u] h4 = .nx [.v (.ref n), .v (.lst names), .v (.lst wds), .v (.int full), .v (.int more), .v (.tup js), .u, .u, .u, .u] h5 := by simp [f5']
  have s6 : sAsg (eF (fLc (iRange1 (eCall m__law_take 2 (aCons (eVar 0) (aCons (eC (.int 4)) (aNil))))) (gNm 7) (tYesM) (x1__law_good) [7])) (gNm 6) [.v (.ref n), .v (.lst names), .v (.lst wds), .v (.int full), .v (.int more), .v (.tup js), .u, .u, .u, .u] h5 = .nx [.v (.ref n), .v (.lst names), .v (.lst wds), .v (.int full), .v (.int more), .v (.tup js), .v (.lst ly), .u, .u, .u] h7 := by
    have er : iRange1 (eCall m__law_take 2 (aCons (eVar 0) (aCons (eC (.int 4)) (aNil)))) [.v (.ref n), .v (.lst names), .v (.lst wds), .v (.int full), .v (.int more), .v (.tup js), .u, .u, .u, .u] h5 = .ok (rangeD 0 cl) h6 := range_nat (by simp [f6]) (rng_small (by omega))
    have ec : fLc (iRange1 (eCall m__law_take 2 (aCons (eVar 0) (aCons (eC (.int 4)) (aNil))))) (gNm 7) (tYesM) (x1__law_good) [7] [.v (.ref n), .v (.lst names), .v (.lst wds), .v (.int full), .v (.int more), .v (.tup js), .u, .u, .u, .u] h5 = .ok (.lst ly) h7 := by
      rw [ev_fLc, er, bind_ok, ev_wipe1]
      simp only [List.set]
      rw [e7, bind_ok]
    simp [ec, -ev_fLc]
  have s7 : sAsg (eF (fLc (iRange1 (eCall m__law_take 2 (aCons (eVar 0) (aCons (eC (.int 4)) (aNil))))) (gNm 7) (tYesM) (x2__law_good) [7])) (gNm 8) [.v (.ref n), .v (.lst names), .v (.lst wds), .v (.int full), .v (.int more), .v (.tup js), .v (.lst ly), .u, .u, .u] h7 = .nx [.v (.ref n), .v (.lst names), .v (.lst wds), .v (.int full), .v (.int more), .v (.tup js), .v (.lst ly), .u, .v (.lst cg), .u] h9 := by
    have er : iRange1 (eCall m__law_take 2 (aCons (eVar 0) (aCons (eC (.int 4)) (aNil)))) [.v (.ref n), .v (.lst names), .v (.lst wds), .v (.int full), .v (.int more), .v (.tup js), .v (.lst ly), .u, .u, .u] h7 = .ok (rangeD 0 cc) h8 := range_nat (by simp [f8]) (rng_small (by omega))
    have ec : fLc (iRange1 (eCall m__law_take 2 (aCons (eVar 0) (aCons (eC (.int 4)) (aNil))))) (gNm 7) (tYesM) (x2__law_good) [7] [.v (.ref n), .v (.lst names), .v (.lst wds), .v (.int full), .v (.int more), .v (.tup js), .v (.lst ly), .u, .u, .u] h7 = .ok (.lst cg) h9 := by
      rw [ev_fLc, er, bind_ok, ev_wipe1]
      simp only [List.set]
      rw [e9, bind_ok]
    simp [ec, -ev_fLc]
  obtain ⟨js', ly', x7, cg', x9, hz, s8, tj', lly, tly, lcg, tcg, Hz⟩ : ∃ (js' ly' : List D) (x7 : Slot) (cg' : List D) (x9 : Slot) (hz : AH), q4__law_good [.v (.ref n), .v (.lst names), .v (.lst wds), .v (.int full), .v (.int more), .v (.tup js), .v (.lst ly), .u, .v (.lst cg), .u] h9 = .nx [.v (.ref n), .v (.lst names), .v (.lst wds), .v (.int full), .v (.int more), .v (.tup js'), .v (.lst ly'), x7, .v (.lst cg'), x9] hz ∧ Tree 2 (.tup js') ∧ ly'.length ≤ 100 ∧ (∀ x ∈ ly', Tree 3 x) ∧ cg'.length ≤ 100 ∧ (∀ x ∈ cg', Tree 3 x) ∧ Hand hz n (k + 9000) := by
    by_cases cf : full = 0
    · obtain ⟨mj, mj1, mj2, emj⟩ := plus_flag 8 0 more (by omega) [.v (.ref n), .v (.lst names), .v (.lst wds), .v (.int full), .v (.int more), .v (.tup js), .v (.lst ly), .u, .v (.lst cg), .u] h9 rfl
      obtain ⟨j2, ha, fa, tj2, Ha⟩ := v_jump_row H9 (by omega) mj (by omega)
      obtain ⟨ml, ml1, ml2, eml⟩ := plus_flag 4 1 more (by omega) [.v (.ref n), .v (.lst names), .v (.lst wds), .v (.int full), .v (.int more), .v (.tup j2), .v (.lst ly), .u, .v (.lst cg), .u] ha rfl
      obtain ⟨l2, hb, eb, lb, tb, Hb⟩ := lc_draw (g := gNm 7) (t := tYesM) (me := x3__law_good) (fr0 := [.v (.ref n), .v (.lst names), .v (.lst wds), .v (.int full), .v (.int more), .v (.tup j2), .v (.lst ly), .u, .v (.lst cg), .u])
        (fun j h => Hand h n (k + 4000 + 301 * j)) (fun d => Tree 3 d) (rangeD 0 ml) [] ha 0 (Ha.mono (by omega)) (fun j d h hd Hh => by
          obtain ⟨hj, rfl⟩ := range_at hd
          obtain ⟨s, es, ls⟩ := wat j (by omega)
          obtain ⟨x, hb, fb, tx, Hb⟩ := v_layer Hh (by omega) s ls names (by omega) (by omega) wn 60 (by omega) (by omega) 13 (by omega)
          have fb' : m__law_layer [.ref n, .str s, .lst names, .int 60, .int 13] h = .ok x hb := fb
          exact ⟨_, x, hb, rfl, rfl, by simp [x3__law_good, es, fb'], tx, Hb.mono (by omega)⟩) (by rw [range_len, sizeL]; simp; omega)
      rw [range_len] at lb Hb
      simp only [List.nil_append] at eb
      obtain ⟨x, hc, fc, tx, Hc⟩ := v_change Hb (by omega) names (by omega) (by omega) wn 50
      obtain ⟨mc, mc1, mc2, emc⟩ := plus_flag 24 2 more (by omega) [.v (.ref n), .v (.lst names), .v (.lst wds), .v (.int full), .v (.int more), .v (.tup j2), .v (.lst l2), .u, .v (.lst cg), .v x] hc rfl
      have em := mulA_lst hc (xs := [x]) (k := (mc : Int)) ⟨by omega, by omega, by rw [sizeL]; simp; omega⟩
      have tx3 : Tree 3 x := by
        cases x with
        | tup xs => exact ⟨tx.1, fun y hy => by
            have := tx.2 y hy
            cases y <;> first | exact trivial | exact this | exact this.elim⟩
        | _ => first | exact trivial | exact tx | exact tx.elim
      have sa : sAsg (eCall m__law_jump_row 2 (aCons (eVar 0) (aCons (e2 addD (eC (.int 8)) (eFn intD (aCons (e2 (eqD) (eVar 4) (eC (.int 0))) (aNil)))) (aNil)))) (gNm 5) [.v (.ref n), .v (.lst names), .v (.lst wds), .v (.int full), .v (.int more), .v (.tup js), .v (.lst ly), .u, .v (.lst cg), .u] h9 = .nx [.v (.ref n), .v (.lst names), .v (.lst wds), .v (.int full), .v (.int more), .v (.tup j2), .v (.lst ly), .u, .v (.lst cg), .u] ha := by
        have ea : aCons (eVar 0) (aCons (e2 addD (eC (.int 8)) (eFn intD (aCons (e2 (eqD) (eVar 4) (eC (.int 0))) (aNil)))) (aNil)) [.v (.ref n), .v (.lst names), .v (.lst wds), .v (.int full), .v (.int more), .v (.tup js), .v (.lst ly), .u, .v (.lst cg), .u] h9 = .ok [.ref n, .int mj] h9 := by
          exact aCons_ok rfl (aCons_ok emj rfl)
        rw [ev_sAsg, ev_eCall, ea, bind_ok, if_pos (show [D.ref n, D.int (mj : Int)].length = 2 from rfl), fa]
        rfl
      have sb : sAsg (eF (fLc (iRange1 (e2 addD (eC (.int 4)) (eFn intD (aCons (e2 (eqD) (eVar 4) (eC (.int 1))) (aNil))))) (gNm 7) (tYesM) (x3__law_good) [7])) (gNm 6) [.v (.ref n), .v (.lst names), .v (.lst wds), .v (.int full), .v (.int more), .v (.tup j2), .v (.lst ly), .u, .v (.lst cg), .u] ha = .nx [.v (.ref n), .v (.lst names), .v (.lst wds), .v (.int full), .v (.int more), .v (.tup j2), .v (.lst l2), .u, .v (.lst cg), .u] hb := by
        have er := range_nat eml (rng_small (by omega))
        have ec : fLc (iRange1 (e2 addD (eC (.int 4)) (eFn intD (aCons (e2 (eqD) (eVar 4) (eC (.int 1))) (aNil))))) (gNm 7) (tYesM) (x3__law_good) [7] [.v (.ref n), .v (.lst names), .v (.lst wds), .v (.int full), .v (.int more), .v (.tup j2), .v (.lst ly), .u, .v (.lst cg), .u] ha = .ok (.lst l2) hb := by
          rw [ev_fLc, er, bind_ok, ev_wipe1]
          simp only [List.set]
          rw [eb, bind_ok]
        simp [ec, -ev_fLc]
      have sc : sAsg (eCall m__law_change 3 (aCons (eVar 0) (aCons (eVar 1) (aCons (eC (.int 50)) (aNil))))) (gNm 9) [.v (.ref n), .v (.lst names), .v (.lst wds), .v (.int full), .v (.int more), .v (.tup j2), .v (.lst l2), .u, .v (.lst cg), .u] hb = .nx [.v (.ref n), .v (.lst names), .v (.lst wds), .v (.int full), .v (.int more), .v (.tup j2), .v (.lst l2), .u, .v (.lst cg), .v x] hc := by simp [fc]
      have sd : sAsg (e2 mulAD (eF (fLst (aCons (eVar 9) (aNil)))) (e2 addD (eC (.int 24)) (eFn intD (aCons (e2 (eqD) (eVar 4) (eC (.int 2))) (aNil))))) (gNm 8) [.v (.ref n), .v (.lst names), .v (.lst wds), .v (.int full), .v (.int more), .v (.tup j2), .v (.lst l2), .u, .v (.lst cg), .v x] hc = .nx [.v (.ref n), .v (.lst names), .v (.lst wds), .v (.int full), .v (.int more), .v (.tup j2), .v (.lst l2), .u, .v (.lst (List.replicate mc [x]).flatten), .v x] hc := by
        have q : eF (fLst (aCons (eVar 9) (aNil))) [.v (.ref n), .v (.lst names), .v (.lst wds), .v (.int full), .v (.int more), .v (.tup j2), .v (.lst l2), .u, .v (.lst cg), .v x] hc = .ok (.lst [x]) hc := by simp [z1]
        rw [ev_sAsg, ev_e2, q, bind_ok, emc, bind_ok, em]
        rfl
      refine ⟨j2, l2, .u, (List.replicate mc [x]).flatten, .v x, hc, ?_, tj2, by omega, tb, by simp; omega, fun y hy => ?_, Hc.mono (by omega)⟩
      · unfold q4__law_good
        rw [ev_sIf]
        have t : t2 (eqD) (eVar 3) (eC (.int 0)) [.v (.ref n), .v (.lst names), .v (.lst wds), .v (.int full), .v (.int more), .v (.tup js), .v (.lst ly), .u, .v (.lst cg), .u] h9 = .ok true h9 := by simp [cf]
        rw [t]
        exact (sSeq_nx sa).trans ((sSeq_nx sb).trans ((sSeq_nx sc).trans sd))
      · simp at hy
        rw [hy.2]; exact tx3
    · refine ⟨js, ly, .u, cg, .u, h9, by simp [q4__law_good, cf], tj, by omega, t7, by omega, t9, H9.mono (by omega)⟩
  have up : ∀ {m : Nat} {d : D}, Tree m d → Tree (m + 1) d := by
    intro m
    induction m with
    | zero => intro d t; cases d <;> first | exact t | exact t.elim
    | succ m ih =>
      intro d t
      cases d with
      | tup xs => exact ⟨t.1, fun y hy => ih (t.2 y hy)⟩
      | _ => exact t
  refine ⟨.tup [.tup js', .tup ly', .tup cg'], hz, ?_, Tree.tup (by simp) fun y hy => ?_, Hz⟩
  · unfold m__law_good b__law_good r5__law_good
    refine fn_rt ?_
    refine (sSeq_nx (fr1 := [.v (.ref n), .v (.lst names), .u, .u, .u, .u, .u, .u, .u, .u]) (h1 := h1) (by simp [f1'])).trans ?_
    refine (sSeq_nx (fr1 := [.v (.ref n), .v (.lst names), .v (.lst wds), .u, .u, .u, .u, .u, .u, .u]) (h1 := h2) (by simp [f2'])).trans ?_
    refine (sSeq_nx (fr1 := [.v (.ref n), .v (.lst names), .v (.lst wds), .v (.int full), .u, .u, .u, .u, .u, .u]) (h1 := h3) (by simp [f3])).trans ?_
    refine (sSeq_nx (fr1 := [.v (.ref n), .v (.lst names), .v (.lst wds), .v (.int full), .v (.int more), .u, .u, .u, .u, .u]) (h1 := h4) (by simp [f4])).trans ?_
    refine (sSeq_nx s5).trans ((sSeq_nx s6).trans ((sSeq_nx s7).trans ((sSeq_nx s8).trans ?_)))
    simp [z3]
  · simp at hy
    rcases hy with rfl | rfl | rfl
    · exact up (up tj')
    · exact Tree.tup lly tly
    · exact Tree.tup lcg tcg
end My
set_option Elab.async false
set_option linter.all false
set_option maxRecDepth 100000
set_option maxHeartbeats 4000000
namespace My
open PySem L2 Sim
/-- data without things that change -/
inductive Fine : D → Prop
  | non : Fine .non
  | bl (b : Bool) : Fine (.bl b)
  | int (i : Int) : Fine (.int i)
  | str (s : Str) (h : s.length ≤ 100) : Fine (.str s)
  | tup (xs : List D) (h : xs.length ≤ 1000) (a : ∀ x ∈ xs, Fine x) : Fine (.tup xs)
  | lst (xs : List D) (h : xs.length ≤ 1000) (a : ∀ x ∈ xs, Fine x) : Fine (.lst xs)
  | dic : Fine (.dic [] [])
theorem Tree.fine : ∀ {m : Nat} {d : D}, Tree m d → Fine d := by
  intro m
  induction m with
  | zero => intro d t; cases d <;> first | exact .non | exact .int _ | exact .str _ t.len | exact t.elim
  | succ m ih =>
    intro d t
    cases d with
    | tup xs => exact .tup xs (Nat.le_trans t.1 (by omega)) fun x hx => ih (t.2 x hx)
    | non => exact .non
    | int i => exact .int i
    | str s => exact .str s t.len
    | _ => exact t.elim
theorem tree_lay : ∀ (m : Nat) (d : D), Tree m d → PyData.canLay0 (toPy d) = true ∧ (toPy d).depth ≤ m := by
  intro m
  induction m with
  | zero => 
    intro d t
    cases d with
    | str s => exact ⟨t.ok, Nat.zero_le _⟩
    | non => exact ⟨rfl, Nat.zero_le _⟩
    | int i => exact ⟨rfl, Nat.zero_le _⟩
    | _ => exact t.elim
  | succ m ih =>
    intro d t
    cases d with
    | tup xs =>
      have go : ∀ ys : List D, (∀ y ∈ ys, Tree m y) → PyData.canLayAll0 (toPys ys) = true ∧ PyData.depthAll (toPys ys) ≤ m := by
        intro ys
        induction ys with
        | nil => exact fun _ => ⟨by simp [toPys, PyData.canLayAll0], by simp [toPys, PyData.depthAll]⟩
        | cons y ys ihy =>
          intro h
          obtain ⟨a1, a2⟩ := ih y (h y (List.mem_cons_self ..))
          obtain ⟨b1, b2⟩ := ihy fun z hz => h z (List.mem_cons_of_mem _ hz)
          exact ⟨by simp [toPys, PyData.canLayAll0, a1, b1], by simp [toPys, PyData.depthAll]; omega⟩
      obtain ⟨a, b⟩ := go xs t.2
      exact ⟨by simp [toPy, PyData.canLay0, a], by simp [toPy, PyData.depth]; omega⟩
    | str s => exact ⟨t.ok, Nat.zero_le _⟩
    | non => exact ⟨rfl, Nat.zero_le _⟩
    | int i => exact ⟨rfl, Nat.zero_le _⟩
    | _ => exact t.elim
end My
set_option Elab.async false
set_option linter.all false
set_option maxRecDepth 100000
set_option maxHeartbeats 4000000
namespace My
open PySem L2 Sim
theorem eq_nil {h : AH} {m : Nat} (hm : m ≤ 60) {xs : List D} (t : ∀ x ∈ xs, Tree m x) (hl : xs.length ≤ 100) : eqD h (.lst xs) (.lst []) = some (.bl xs.isEmpty) := by
  obtain ⟨a, b⟩ := tree_lay (m + 1) (.tup xs) ⟨hl, t⟩
  have s1 : SeqAt.shaped (toPy (.lst xs)) = true := by
    unfold SeqAt.shaped
    rw [Bool.and_eq_true]
    refine ⟨by simpa [toPy, PyData.canLay0] using a, decide_eq_true ?_⟩
    have : (toPy (.lst xs)).depth = (toPy (.tup xs)).depth := by simp [toPy, PyData.depth]
    omega
  have s2 : SeqAt.shaped (toPy (.lst [])) = true := by decide +kernel
  show (eqB h (.lst xs) (.lst [])).map D.bl = _
  unfold eqB
  simp [scalD, bigD, isStrD, s1, s2, -toPy]
  cases xs with
  | nil => simp [toPy, toPys, PyData.eqv, PyData.eqvAll]
  | cons x r => simp [toPy, toPys, PyData.eqv, PyData.eqvAll]
theorem cutD_mem {xs : List D} {lo hi : Option Int} {d : D} (h : d ∈ cutD xs lo hi) : d ∈ xs := List.mem_of_mem_drop (List.mem_of_mem_take h)
theorem cutD_len (xs : List D) (lo hi : Option Int) : (cutD xs lo hi).length ≤ xs.length := by
  unfold cutD
  rw [List.length_take, List.length_drop]
  omega
def odd0 : List D := [.bl true, .bl false, .non, .int (-1), .int 0, .int 1, .int (10 ^ 60), .int 61, .int 86400, .int 1441, .int (-1441), .int 1440]
def odd1 : List D := [.str "", .str "a", .str "abcdefghi", .str "A", .str "on", .str "away"]
def odd2 : List D := [.tup [], .tup [.str "a"], .lst [], .tup [.int 0, .int 1], .dic [] [], .tup [.int 1, .int 1], .tup [.int 0, .int 1, .str "a"]]
theorem odd0_fine : ∀ x ∈ odd0, Fine x := by
  intro x hx
  simp only [odd0, List.mem_cons, List.not_mem_nil, or_false] at hx
  rcases hx with rfl | rfl | rfl | rfl | rfl | rfl | rfl | rfl | rfl | rfl | rfl | rfl <;> first | exact .bl _ | exact .non | exact .int _
theorem odd1_fine : ∀ x ∈ odd1, Fine x := by
  intro x hx
  simp only [odd1, List.mem_cons, List.not_mem_nil, or_false] at hx
  rcases hx with rfl | rfl | rfl | rfl | rfl | rfl <;> exact .str _ (by decide +kernel)
theorem odd2_fine : ∀ x ∈ odd2, Fine x := by
  have fa : Fine (.str "a") := .str _ (by decide +kernel)
  intro x hx
  simp only [odd2, List.mem_cons, List.not_mem_nil, or_false] at hx
  rcases hx with rfl | rfl | rfl | rfl | rfl | rfl | rfl
  · exact .tup _ (by simp) (by intro y hy; cases hy)
  · exact .tup _ (by simp) (by intro y hy; simp at hy; rw [hy]; exact fa)
  · exact .lst _ (by simp) (by intro y hy; cases hy)
  · exact .tup _ (by simp) (by intro y hy; simp at hy; rcases hy with rfl | rfl <;> exact .int _)
  · exact .dic
  · exact .tup _ (by simp) (by intro y hy; simp at hy; rw [hy]; exact .int _)
  · exact .tup _ (by simp) (by intro y hy; simp at hy; rcases hy with rfl | rfl | rfl <;> first | exact .int _ | exact fa)
theorem v_odd {h : AH} {n k : Nat} (H : Hand h n k) (hk : k ≤ 990000) {m : Nat} {d : D} (t : Tree m d) :
    ∃ x h', m__law_odd [.ref n, d] h = .ok x h' ∧ Fine x ∧ Hand h' n (k + 3) := by
  have z12 : 12 ≤ sizeLine := by rw [sizeL]; omega
  have z7 : 7 ≤ sizeLine := by rw [sizeL]; omega
  have z6 : 6 ≤ sizeLine := by rw [sizeL]; omega
  have z5 : 5 ≤ sizeLine := by rw [sizeL]; omega
  have z3 : 3 ≤ sizeLine := by rw [sizeL]; omega
  have z2 : 2 ≤ sizeLine := by rw [sizeL]; omega
  have z1 : 1 ≤ sizeLine := by rw [sizeL]; omega
  obtain ⟨w, h1, f1, w0, w1, H1⟩ := v_take H (by omega) 6 (by omega) (by omega)
  by_cases c0 : w = 0
  · obtain ⟨x, h2, f2, hx, H2⟩ := v_pick H1 (by omega) odd0 (by decide) (by decide)
    refine ⟨x, h2, ?_, odd0_fine x hx, H2.mono (by omega)⟩
    unfold odd0 at f2
    simp at f2
    simp [m__law_odd, b__law_odd, q1__law_odd, f1, c0, z12, f2]
  by_cases c1 : w = 1
  · obtain ⟨x, h2, f2, hx, H2⟩ := v_pick H1 (by omega) odd1 (by decide) (by decide)
    refine ⟨x, h2, ?_, odd1_fine x hx, H2.mono (by omega)⟩
    unfold odd1 at f2
    simp [m__law_odd, b__law_odd, q1__law_odd, q2__law_odd, f1, c0, c1, z6, f2]
  by_cases c2 : w = 2
  · obtain ⟨x, h2, f2, hx, H2⟩ := v_pick H1 (by omega) odd2 (by decide) (by decide)
    refine ⟨x, h2, ?_, odd2_fine x hx, H2.mono (by omega)⟩
    unfold odd2 at f2
    simp [m__law_odd, b__law_odd, q1__law_odd, q2__law_odd, q3__law_odd, f1, c0, c1, c2, z7, z3, z2, z1, f2]
  have fd := t.fine
  cases d with
  | int i =>
    obtain ⟨v, h3, f3, hx, H3⟩ := pick_int H1 (by omega) [1, -1, 1440, -1440, 10 ^ 60] (by decide) (by decide)
    simp at f3
    exact ⟨.int (i + v), h3, by simp [m__law_odd, b__law_odd, r6__law_odd, q1__law_odd, q2__law_odd, q3__law_odd, q4__law_odd, f1, c0, c1, c2, f3, z5], .int _, H3.mono (by omega)⟩
  | tup xs =>
    cases fd with
    | tup _ hl a => exact ⟨.lst xs, h1, by simp [m__law_odd, b__law_odd, r6__law_odd, q1__law_odd, q2__law_odd, q3__law_odd, q4__law_odd, q5__law_odd, f1, c0, c1, c2], .lst _ hl a, H1.mono (by omega)⟩
  | non => exact ⟨.non, h1, by simp [m__law_odd, b__law_odd, r6__law_odd, q1__law_odd, q2__law_odd, q3__law_odd, q4__law_odd, q5__law_odd, f1, c0, c1, c2], .non, H1.mono (by omega)⟩
  | str s => exact ⟨.str s, h1, by simp [m__law_odd, b__law_odd, r6__law_odd, q1__law_odd, q2__law_odd, q3__law_odd, q4__law_odd, q5__law_odd, f1, c0, c1, c2], fd, H1.mono (by omega)⟩
  | _ => first | (cases fd; done) | (cases m <;> exact t.elim)
end My
set_option Elab.async false
set_option linter.all false
set_option maxRecDepth 100000
set_option maxHeartbeats 4000000
namespace My
open PySem L2 Sim
theorem q5_done (rc : MF) {h : AH} {n k m : Nat} (H : Hand h n k) (hk : k ≤ 900000) (hm : m ≤ 50) (deep : Nat) (hd : 0 < deep) (xs : List D) (hl : xs.length ≤ 100) (t : ∀ x ∈ xs, Tree m x) (w a : Int) (w0 : 0 ≤ w) (a0 : 0 ≤ a) (a1 : a < xs.length + 1) (G : Nat)
    (hG : ∀ (h : AH) (k2 : Nat) (d : D), Hand h n k2 → k2 ≤ k + 10 → Tree m d → ∃ x h', rc [.ref n, d, .int ((deep : Int) - 1)] h = .ok x h' ∧ Fine x ∧ Hand h' n (k2 + G)) :
    ∃ (ys : List D) (y5 s : Slot) (h' : AH), (s = .v (.lst ys) ∨ s = .o (.lst ys)) ∧ q5__law_spoilt rc [.v (.ref n), .v (.tup xs), .v (.int deep), .o (.lst xs), .v (.int w), .v (.int a)] h = .nx [.v (.ref n), .v (.tup xs), .v (.int deep), s, .v (.int w), y5] h' ∧ ys.length ≤ 1000 ∧ (∀ y ∈ ys, Fine y) ∧ Hand h' n (k + 10 + G) := by
  have z1 : 1 ≤ sizeLine := by rw [sizeL]; omega
  have tf : ∀ x ∈ xs, Fine x := fun x hx => (t x hx).fine
  have cl : ∀ lo hi, (cutD xs lo hi).length ≤ 100 := fun lo hi => Nat.le_trans (cutD_len xs lo hi) hl
  have cf : ∀ lo hi, ∀ y ∈ cutD xs lo hi, Fine y := fun lo hi y hy => tf y (cutD_mem hy)
  have g1 : ∀ lo hi, (cutD xs lo hi).length + 1 ≤ sizeLine := fun lo hi => by have := cl lo hi; rw [sizeL]; omega
  have g2 : ∀ lo hi lo2 hi2, (cutD xs lo hi).length + 1 + (cutD xs lo2 hi2).length ≤ sizeLine := fun lo hi lo2 hi2 => by
    have := cl lo hi
    have := cl lo2 hi2
    rw [sizeL]; omega
  have g3 : ∀ lo hi lo2 hi2, (cutD xs lo hi).length + (cutD xs lo2 hi2).length ≤ sizeLine := fun lo hi lo2 hi2 => by
    have := g2 lo hi lo2 hi2; omega
  have three : ∀ (z : D), Fine z → ∀ lo hi lo2 hi2, ∀ y ∈ cutD xs lo hi ++ z :: cutD xs lo2 hi2, Fine y := fun z fz lo hi lo2 hi2 y hy => by
    rcases List.mem_append.mp hy with q | q
    · exact cf _ _ y q
    · rcases List.mem_cons.mp q with q | q
      · rw [q]; exact fz
      · exact cf _ _ y q
  have l3 : ∀ (z : D) lo hi lo2 hi2, (cutD xs lo hi ++ z :: cutD xs lo2 hi2).length ≤ 1000 := fun z lo hi lo2 hi2 => by
    rw [List.length_append, List.length_cons]
    have := cl lo hi
    have := cl lo2 hi2
    omega
  by_cases c0 : w = 0
  · obtain ⟨z, h1, f1, fz, H1⟩ := v_odd (m := 0) H (by omega) Tree.non
    refine ⟨cutD xs none (some a) ++ z :: cutD xs (some a) none, .v (.int a), _, h1, .inl rfl, ?_, l3 _ _ _ _ _, three z fz _ _ _ _, H1.mono (by omega)⟩
    simp [q5__law_spoilt, c0, f1, g1, g2, z1]
  have en := eq_nil (h := h) (by omega) t hl
  by_cases ce : xs = []
  · obtain ⟨z, h1, f1, fz, H1⟩ := v_odd (m := 0) H (by omega) Tree.non
    subst ce
    refine ⟨[z], .v (.int a), _, h1, .inr rfl, ?_, by simp, by intro y hy; rw [List.mem_singleton.mp hy]; exact fz, H1.mono (by omega)⟩
    simp [q5__law_spoilt, q4__law_spoilt, c0, en, f1, z1]
  have ne : xs.isEmpty = false := by cases xs with | nil => exact absurd rfl ce | cons _ _ => rfl
  rw [ne] at en
  have lp : 0 < xs.length := List.length_pos_iff.mpr ce
  by_cases c1 : w = 1
  · refine ⟨cutD xs none (some a) ++ cutD xs (some (a + 1)) none, .v (.int a), _, h, .inl rfl, ?_, ?_, fun y hy => ?_, H.mono (by omega)⟩
    · simp [q5__law_spoilt, q4__law_spoilt, q3__law_spoilt, c0, c1, en, g3]
    · rw [List.length_append]
      have := cl none (some a)
      have := cl (some (a + 1)) none
      omega
    · rcases List.mem_append.mp hy with q | q <;> exact cf _ _ y q
  by_cases c2 : w = 2
  · have ex : ∃ z, z ∈ xs ∧ atI xs (a - 1) = some z := by
      by_cases ca : a = 0
      · refine ⟨xs[xs.length - 1], List.getElem_mem _, ?_⟩
        subst ca
        unfold atI ixN
        have e1 : ¬(0 ≤ (0 : Int) - 1) := by omega
        rw [if_neg e1, if_pos (by omega)]
        simp
        have : ((-1 : Int) + xs.length).toNat = xs.length - 1 := by omega
        rw [this]
        exact List.getElem?_eq_getElem (by omega)
      · exact atI_mem (by omega) (by omega)
    obtain ⟨z, hz, ez⟩ := ex
    refine ⟨cutD xs none (some a) ++ z :: cutD xs (some a) none, .v (.int a), _, h, .inl rfl, ?_, l3 _ _ _ _ _, three z (tf z hz) _ _ _ _, H.mono (by omega)⟩
    simp [q5__law_spoilt, q4__law_spoilt, q3__law_spoilt, q2__law_spoilt, c0, c1, c2, en, ez, g1, g2, z1]
  · obtain ⟨v, h1, f1, v0, v1, H1⟩ := v_take H (by omega) xs.length (by omega) (by omega)
    obtain ⟨d, hd2, ed⟩ := atI_mem v0 v1
    obtain ⟨x, h2, f2, fx, H2⟩ := hG h1 (k + 1) d H1 (by omega) (t d hd2)
    have hv : ixN xs.length v = some v.toNat := by
      unfold ixN
      simp [v0, v1]
    refine ⟨xs.set v.toNat x, .v (.int v), _, h2, .inr rfl, ?_, by simp; omega, fun y hy => ?_, H2.mono (by omega)⟩
    · simp [q5__law_spoilt, q4__law_spoilt, q3__law_spoilt, q2__law_spoilt, c0, c1, c2, en, f1, ed, f2, hv]
    · rcases List.mem_or_eq_of_mem_set hy with q | q
      · exact tf y q
      · rw [q]; exact fx
theorem v_spoilt : ∀ (fuel m deep : Nat) (d : D) (h : AH) (n k : Nat), deep < fuel → m ≤ 50 → fuel ≤ 20 → Hand h n k → k + 30 * fuel ≤ 900000 → Tree m d → ∃ x h', m__law_spoilt fuel [.ref n, d, .int deep] h = .ok x h' ∧ Fine x ∧ Hand h' n (k + 30 * fuel) := by
  intro fuel
  induction fuel with
  | zero => intro m deep d h n k c; omega
  | succ fuel ih =>
    intro m deep d h n k c hm hf H hk t
    have direct : ∀ (h1 : AH) (k1 : Nat), Hand h1 n k1 → k1 ≤ k + 1 → q1__law_spoilt (m__law_spoilt fuel) [.v (.ref n), .v d, .v (.int deep), .u, .u, .u] h = sRet (eCall m__law_odd 2 (aCons (eVar 0) (aCons (eVar 1) (aNil)))) [.v (.ref n), .v d, .v (.int deep), .u, .u, .u] h1 →
        ∃ x h', m__law_spoilt (fuel + 1) [.ref n, d, .int deep] h = .ok x h' ∧ Fine x ∧ Hand h' n (k + 30 * (fuel + 1)) := fun h1 k1 H1 hk1 e => by
      obtain ⟨x, h2, f2, fx, H2⟩ := v_odd H1 (by omega) t
      refine ⟨x, h2, ?_, fx, H2.mono (by omega)⟩
      show fnM 6 (b__law_spoilt (m__law_spoilt fuel)) _ h = _
      refine fn_rt ?_
      unfold b__law_spoilt
      refine sSeq_rt ?_
      refine Eq.trans e ?_
      simp [f2]
    have non_tup : (∀ xs, d ≠ .tup xs) → ∃ x h', m__law_spoilt (fuel + 1) [.ref n, d, .int deep] h = .ok x h' ∧ Fine x ∧ Hand h' n (k + 30 * (fuel + 1)) := fun nt => by
      refine direct h k H (by omega) ?_
      have fd := t.fine
      cases fd with
      | tup xs => exact absurd rfl (nt xs)
      | _ => simp [q1__law_spoilt]
    cases d with
    | tup xs =>
      match m, t with
      | m + 1, t =>
        by_cases cd : deep = 0
        · refine direct h k H (by omega) ?_
          subst cd
          simp [q1__law_spoilt]
        · obtain ⟨v, h1, f1, v0, v1, H1⟩ := v_take H (by omega) 5 (by omega) (by omega)
          have cd' : ¬((deep : Int) = 0) := by omega
          by_cases cv : v = 0
          · refine direct h1 (k + 1) H1 (by omega) ?_
            simp [q1__law_spoilt, cd, f1, cv]
          · obtain ⟨w, h2, f2, w0, w1, H2⟩ := v_take H1 (by omega) 8 (by omega) (by omega)
            obtain ⟨a, h3, f3, a0, a1, H3⟩ := v_take H2 (by omega) ((xs.length : Int) + 1) (by omega) (by have := t.1; omega)
            obtain ⟨ys, y5, s, h4, hs, e, ly, fy, H4⟩ := q5_done (m__law_spoilt fuel) H3 (by omega) (m := m) (by omega) deep (by omega) xs t.1 t.2 w a w0 a0 a1 (30 * fuel) (fun h k2 d Hh hk2 td => by
              have e1 : ((deep : Int) - 1) = ((deep - 1 : Nat) : Int) := by omega
              rw [e1]
              exact ih m (deep - 1) d h n k2 (by omega) (by omega) (by omega) Hh (by omega) td)
            refine ⟨.tup ys, h4, ?_, .tup ys ly fy, H4.mono (by omega)⟩
            show fnM 6 (b__law_spoilt (m__law_spoilt fuel)) _ h = _
            refine fn_rt ?_
            unfold b__law_spoilt r6__law_spoilt
            refine (sSeq_nx (fr1 := [.v (.ref n), .v (.tup xs), .v (.int deep), .u, .u, .u]) (h1 := h1) (by simp [q1__law_spoilt, cd, f1, cv])).trans ?_
            refine (sSeq_nx (fr1 := [.v (.ref n), .v (.tup xs), .v (.int deep), .o (.lst xs), .u, .u]) (h1 := h1) (by simp)).trans ?_
            refine (sSeq_nx (fr1 := [.v (.ref n), .v (.tup xs), .v (.int deep), .o (.lst xs), .v (.int w), .u]) (h1 := h2) (by simp [f2])).trans ?_
            refine (sSeq_nx (fr1 := [.v (.ref n), .v (.tup xs), .v (.int deep), .o (.lst xs), .v (.int w), .v (.int a)]) (h1 := h3) (by simp [f3])).trans ?_
            refine (sSeq_nx e).trans ?_
            rcases hs with rfl | rfl <;> simp
    | non => exact non_tup (by intro xs e; cases e)
    | int i => exact non_tup (by intro xs e; cases e)
    | str s => exact non_tup (by intro xs e; cases e)
    | _ => first | (cases m <;> exact t.elim)
end My
set_option Elab.async false
set_option linter.all false
set_option maxRecDepth 100000
set_option maxHeartbeats 4000000
namespace My
open PySem L2 Sim
def isSign (c : Nat) : Bool := decide (c ∈ (Str.ofString "abcdefghijklmnopqrstuvwxyz0123456789").cps.toList)
def wholeD : D → Bool
  | .int _ => true
  | _ => false
def whole2 : D → Int → Int → Bool
  | .int i, lo, hi => decide (lo ≤ i) && decide (i ≤ hi)
  | _, _, _ => false
def momentD : D → Bool
  | .int i => decide (0 ≤ i) && decide (i < 1000000000000000000000000000000000000000000000000000000000000)
  | _ => false
def spanD : D → D → Bool
  | .int i, .non => momentD (.int i)
  | .int i, .int j => momentD (.int i) && decide (i < j) && decide (j < 1000000000000000000000000000000000000000000000000000000000000)
  | _, _ => false
def wordD : D → Bool
  | .str s => decide (1 ≤ s.length) && decide (s.length ≤ 8) && s.cps.toList.all isSign
  | _ => false
def rowD : D → Int → Bool
  | .tup xs, n => (xs.length : Int) == n
  | _, _ => false
theorem v_is_whole {d : D} (h : AH) (k : Fine d) : m_is_whole [d] h = .ok (.bl (wholeD d)) h := by
  cases k <;> simp [m_is_whole, b_is_whole, wholeD]
theorem w_is_whole {d : D} (h : AH) (k : Fine d) (lo hi : Int) : m__law_is_whole [d, .int lo, .int hi] h = .ok (.bl (whole2 d lo hi)) h := by
  cases k with
  | int i => by_cases c : lo ≤ i <;> simp [m__law_is_whole, b__law_is_whole, whole2, c]
  | _ => simp [m__law_is_whole, b__law_is_whole, whole2]
theorem w_is_row {d : D} (h : AH) (k : Fine d) (n : Int) : m__law_is_row [d, .int n] h = .ok (.bl (rowD d n)) h := by
  cases k <;> simp [m__law_is_row, b__law_is_row, rowD]
theorem v_is_moment {d : D} (h : AH) (k : Fine d) : m_is_moment [d] h = .ok (.bl (momentD d)) h := by
  cases k with
  | int i => by_cases c : 0 ≤ i <;> simp [m_is_moment, b_is_moment, v_is_whole h (.int i), wholeD, momentD, c]
  | non => simp [m_is_moment, b_is_moment, v_is_whole h .non, wholeD, momentD]
  | bl b => simp [m_is_moment, b_is_moment, v_is_whole h (.bl b), wholeD, momentD]
  | str s l => simp [m_is_moment, b_is_moment, v_is_whole h (.str s l), wholeD, momentD]
  | tup xs l a => simp [m_is_moment, b_is_moment, v_is_whole h (.tup xs l a), wholeD, momentD]
  | lst xs l a => simp [m_is_moment, b_is_moment, v_is_whole h (.lst xs l a), wholeD, momentD]
  | dic => simp [m_is_moment, b_is_moment, v_is_whole h .dic, wholeD, momentD]
theorem v_is_span {d e : D} (h : AH) (k : Fine d) (k2 : Fine e) : m_is_span [d, e] h = .ok (.bl (spanD d e)) h := by
  by_cases c : momentD d = true
  · cases d with
    | int i =>
      cases e with
      | int j =>
        simp [m_is_span, b_is_span, q1_is_span, v_is_moment h k, v_is_moment h k2, c]
        simp [momentD] at c
        by_cases c2 : 0 ≤ j <;> by_cases c3 : j < 1000000000000000000000000000000000000000000000000000000000000 <;> by_cases c4 : i < j <;> simp [spanD, momentD, c, c2, c3, c4] <;> omega
      | _ => simp [m_is_span, b_is_span, q1_is_span, v_is_moment h k, v_is_moment h k2, c, spanD] <;> simp [momentD]
    | _ => simp [momentD] at c
  · have : spanD d e = false := by
      cases d <;> cases e <;> first | rfl | (simp [momentD] at c; simp [spanD, momentD]; intro a b; omega) | (simp [momentD] at c; simp [spanD, momentD]; omega)
    simp [m_is_span, b_is_span, q1_is_span, v_is_moment h k, c, this]
theorem in_sign (h : AH) (neg : Bool) (c : Nat) : inD neg h (.str ⟨#[c]⟩) (.str (Str.ofString "abcdefghijklmnopqrstuvwxyz0123456789")) = some (.bl (if neg then !isSign c else isSign c)) := rfl
theorem v_is_word {d : D} (h : AH) (k : Fine d) : m_is_word [d] h = .ok (.bl (wordD d)) h := by
  have sz := sizeL
  cases k with
  | str s hs =>
    have z : s.length ≤ sizeLine := by omega
    by_cases c1 : 1 ≤ s.length
    · by_cases c8 : s.length ≤ 8
      · have e := lc_pure (g := gNm 1) (t := tYesM) (me := x2_is_word) (fr0 := [.v (.str s), .u]) (fun d => match d with | .str y => .bl (isSign (y.cps.getD 0 0)) | _ => .bl false) (s.cps.toList.map fun c => .str ⟨#[c]⟩) [] h (fun d hd => by
          obtain ⟨c, hc, rfl⟩ := List.mem_map.mp hd
          exact ⟨_, rfl, rfl, by simp [x2_is_word, in_sign]⟩) (by
          have : s.cps.toList.length = s.length := Array.length_toList
          rw [List.length_nil, List.length_map]; omega)
        simp at e
        have c1' : (1 : Int) ≤ s.length := by omega
        have c8' : (s.length : Int) ≤ 8 := by omega
        simp [m_is_word, b_is_word, q1_is_word, z, c1', c8']
        simp [goD, e, ev_all, wordD, c1, c8, List.all_map, Function.comp_def, blD]
      · have c1' : (1 : Int) ≤ s.length := by omega
        have c8' : ¬(s.length : Int) ≤ 8 := by omega
        simp [m_is_word, b_is_word, q1_is_word, z, c1', c8', wordD, c1, c8]
    · have c1' : ¬(1 : Int) ≤ s.length := by omega
      simp [m_is_word, b_is_word, q1_is_word, z, c1', wordD, c1]
  | _ => simp [m_is_word, b_is_word, q1_is_word, wordD]
theorem w_is_word {d : D} (h : AH) (k : Fine d) : m__law_is_word [d] h = .ok (.bl (wordD d)) h := by
  have sz := sizeL
  cases k with
  | str s hs =>
    have z : s.length ≤ sizeLine := by omega
    by_cases c1 : 1 ≤ s.length
    · by_cases c8 : s.length ≤ 8
      · have e := lc_pure (g := gNm 1) (t := tYesM) (me := x2__law_is_word) (fr0 := [.v (.str s), .u]) (fun d => match d with | .str y => .bl (isSign (y.cps.getD 0 0)) | _ => .bl false) (s.cps.toList.map fun c => .str ⟨#[c]⟩) [] h (fun d hd => by
          obtain ⟨c, hc, rfl⟩ := List.mem_map.mp hd
          exact ⟨_, rfl, rfl, by simp [x2__law_is_word, in_sign]⟩) (by
          have : s.cps.toList.length = s.length := Array.length_toList
          rw [List.length_nil, List.length_map]; omega)
        simp at e
        have c1' : ¬(s.length : Int) < 1 := by omega
        have c8' : ¬8 < (s.length : Int) := by omega
        simp [m__law_is_word, b__law_is_word, q1__law_is_word, z, c1', c8']
        simp [goD, e, ev_all, wordD, c1, c8, List.all_map, Function.comp_def, blD]
      · have c1' : ¬(s.length : Int) < 1 := by omega
        have c8' : 8 < (s.length : Int) := by omega
        simp [m__law_is_word, b__law_is_word, q1__law_is_word, z, c1', c8', wordD, c1, c8]
    · have c1' : (s.length : Int) < 1 := by omega
      simp [m__law_is_word, b__law_is_word, q1__law_is_word, z, c1', wordD, c1]
  | _ => simp [m__law_is_word, b__law_is_word, q1__law_is_word, wordD]
end My
set_option Elab.async false
set_option linter.all false
set_option maxRecDepth 100000
set_option maxHeartbeats 4000000
namespace My
open PySem L2 Sim
@[simp] theorem at4_0 (a b c d : D) : atI [a, b, c, d] 0 = some a := rfl
@[simp] theorem at4_1 (a b c d : D) : atI [a, b, c, d] 1 = some b := rfl
@[simp] theorem at4_2 (a b c d : D) : atI [a, b, c, d] 2 = some c := rfl
@[simp] theorem at4_m1 (a b c d : D) : atI [a, b, c, d] (-1) = some d := rfl
@[simp] theorem at4_m2 (a b c d : D) : atI [a, b, c, d] (-2) = some c := rfl
@[simp] theorem at5_0 (a b c d e : D) : atI [a, b, c, d, e] 0 = some a := rfl
@[simp] theorem at5_1 (a b c d e : D) : atI [a, b, c, d, e] 1 = some b := rfl
@[simp] theorem at5_2 (a b c d e : D) : atI [a, b, c, d, e] 2 = some c := rfl
@[simp] theorem at5_m1 (a b c d e : D) : atI [a, b, c, d, e] (-1) = some e := rfl
@[simp] theorem at5_m2 (a b c d e : D) : atI [a, b, c, d, e] (-2) = some d := rfl
@[simp] theorem cut4 (a b c d : D) : cutD [a, b, c, d] (some 1) (some (-2)) = [b] := rfl
@[simp] theorem cut5 (a b c d e : D) : cutD [a, b, c, d, e] (some 1) (some (-2)) = [b, c] := rfl
def eqWord : D → D → Bool
  | .str a, .str b => a == b
  | _, _ => false
def changeD : D → Bool
  | .tup [.str a, b, c, d] => (a == "away" || a == "on") && wordD b && spanD c d
  | .tup [.str a, b, c, d, e] => a == "for" && wordD c && !eqWord b c && wordD b && spanD d e
  | _ => false
theorem in2 (h : AH) (a : Str) : inD true h (.str a) (.tup [.str "away", .str "on"]) = some (.bl (!(a == "away" || a == "on"))) := by
  show some (D.bl (!(("away" == a) || (("on" == a) || false)))) = _
  rw [Bool.or_false, show (("away" : Str) == a) = (a == "away") from BEq.comm, show (("on" : Str) == a) = (a == "on") from BEq.comm]
theorem in3 (h : AH) (a : Str) : inD true h (.str a) (.tup [.str "away", .str "for", .str "on"]) = some (.bl (!(a == "away" || a == "for" || a == "on"))) := by
  show some (D.bl (!(("away" == a) || (("for" == a) || (("on" == a) || false))))) = _
  rw [Bool.or_false, show (("away" : Str) == a) = (a == "away") from BEq.comm, show (("on" : Str) == a) = (a == "on") from BEq.comm, show (("for" : Str) == a) = (a == "for") from BEq.comm, Bool.or_assoc]
theorem in45 (h : AH) (a : Int) : inD true h (.int a) (.tup [.int 4, .int 5]) = some (.bl (!(a == 4 || a == 5))) := by
  show some (D.bl (!((4 == a) || ((5 == a) || false)))) = _
  rw [Bool.or_false, show ((4 : Int) == a) = (a == 4) from BEq.comm, show ((5 : Int) == a) = (a == 5) from BEq.comm]
theorem eq_word (h : AH) {b c : D} (k : Fine b) (kc : wordD c = true) : eqD h b c = some (.bl (eqWord b c)) := by
  cases c with
  | str s => 
    rw [eq_str h b s (by cases k <;> trivial)]
    cases b <;> rfl
  | _ => simp [wordD] at kc
theorem v_is_change4 (h : AH) {a b c d : D} (ka : Fine a) (kb : Fine b) (kc : Fine c) (kd : Fine d) :
    m_is_change [.tup [a, b, c, d]] h = .ok (.bl (changeD (.tup [a, b, c, d]))) h := by
  have s2 : 2 ≤ sizeLine := by rw [sizeL]; decide
  cases a with
  | str s =>
    by_cases f : s = "for"
    · subst f
      simp [m_is_change, b_is_change, q1_is_change, q4_is_change, q2_is_change, changeD]
      intro q
      rcases q with q | q <;> exact absurd q (by decide +kernel)
    · by_cases g : (s == "away" || s == "on") = true
      · by_cases w : wordD b = true
        · simp [m_is_change, b_is_change, q1_is_change, q4_is_change, q3_is_change, changeD, f, s2, in2, g, w, v_is_word h kb, v_is_span h kc kd, -Bool.or_eq_true]
        · simp [m_is_change, b_is_change, q1_is_change, q4_is_change, q3_is_change, changeD, f, s2, in2, g, w, v_is_word h kb, v_is_span h kc kd, -Bool.or_eq_true]
      · simp [m_is_change, b_is_change, q1_is_change, q4_is_change, q3_is_change, changeD, f, s2, in2, g, -Bool.or_eq_true]
  | _ => first | (cases ka; done) | simp [m_is_change, b_is_change, q1_is_change, changeD]
theorem v_is_change5 (h : AH) {a b c d e : D} (ka : Fine a) (kb : Fine b) (kc : Fine c) (kd : Fine d) (ke : Fine e) :
    m_is_change [.tup [a, b, c, d, e]] h = .ok (.bl (changeD (.tup [a, b, c, d, e]))) h := by
  have s2 : 2 ≤ sizeLine := by rw [sizeL]; decide
  cases a with
  | str s =>
    by_cases f : s = "for"
    · subst f
      by_cases w : wordD c = true
      · by_cases q : eqWord b c = true
        · simp [m_is_change, b_is_change, q1_is_change, q4_is_change, q2_is_change, changeD, v_is_word h kc, w, eq_word h kb w, q]
        · by_cases w2 : wordD b = true <;> simp [m_is_change, b_is_change, q1_is_change, q4_is_change, q2_is_change, changeD, v_is_word h kc, v_is_word h kb, w, w2, eq_word h kb w, q, v_is_span h kd ke]
      · simp [m_is_change, b_is_change, q1_is_change, q4_is_change, q2_is_change, changeD, v_is_word h kc, w]
    · by_cases g : (s == "away" || s == "on") = true <;> simp [m_is_change, b_is_change, q1_is_change, q4_is_change, q3_is_change, changeD, f, s2, in2, g, -Bool.or_eq_true]
  | _ => first | (cases ka; done) | simp [m_is_change, b_is_change, q1_is_change, changeD]
theorem v_is_change_other (h : AH) {r : List D} (h4 : r.length ≠ 4) (h5 : r.length ≠ 5) : m_is_change [.tup r] h = .ok (.bl false) h := by
  by_cases c : (4 : Int) ≤ r.length
  · have c2 : ¬(r.length : Int) ≤ 5 := by omega
    simp [m_is_change, b_is_change, q1_is_change, c, c2]
  · simp [m_is_change, b_is_change, q1_is_change, c]
theorem v_is_change_lst (h : AH) {r : List D} : m_is_change [.lst r] h = .ok (.bl false) h := by
  simp [m_is_change, b_is_change, q1_is_change]
end My
set_option Elab.async false
set_option linter.all false
set_option maxRecDepth 100000
set_option maxHeartbeats 4000000
namespace My
open PySem L2 Sim
theorem ev_all1 (h : AH) (p : Bool) : allD h [.lst [.bl p]] = some (.bl p) := by cases p <;> rfl
theorem ev_all2 (h : AH) (p q : Bool) : allD h [.lst [.bl p, .bl q]] = some (.bl (p && q)) := by cases p <;> cases q <;> rfl
theorem so_words (h : AH) (p : Slot) (ws : List D) (k : ∀ w ∈ ws, Fine w) (hl : ws.length ≤ 2) : lcLoop (gNm 1) tYesM x3__law_is_change [p, .u] ws [] h = .ok (ws.map fun w => .bl (wordD w)) h := by
  have sz := sizeL
  have e := lc_pure (g := gNm 1) (t := tYesM) (me := x3__law_is_change) (fr0 := [p, .u]) (fun w => .bl (wordD w)) ws [] h (fun d hd => by
    refine ⟨_, rfl, rfl, ?_⟩
    simp [x3__law_is_change, w_is_word h (k d hd)]) (by simp; omega)
  simpa using e
theorem v_tail (h : AH) {xs : List D} {b e : D} (kb : Fine b) (ke : Fine e) (h2 : atI xs (-2) = some b) (h1 : atI xs (-1) = some e) :
    sSeq q5__law_is_change (sRet (eOrM (e2 (isND false) (e2 ixD (eVar 0) (negM (eC (.int 1)))) (eC .non)) (eCall m__law_is_whole 3 (aCons (e2 ixD (eVar 0) (negM (eC (.int 1)))) (aCons (e2 addD (e2 ixD (eVar 0) (negM (eC (.int 2)))) (eC (.int 1))) (aCons (e2 subD (e2 powD (eC (.int 10)) (eC (.int 60))) (eC (.int 1))) (aNil))))))) [.v (.tup xs), .u] h = .rt (.bl (spanD b e)) h := by
  by_cases c : whole2 b 0 999999999999999999999999999999999999999999999999999999999999 = true
  · cases b with
    | int i =>
      have c' := c
      simp [whole2] at c'
      cases ke with
      | int j =>
        simp [q5__law_is_change, h2, h1, w_is_whole h (.int i), w_is_whole h (.int j), c]
        rw [Bool.eq_iff_iff]
        simp [whole2, spanD, momentD]
        omega
      | non =>
        simp [q5__law_is_change, h2, h1, w_is_whole h (.int i), c]
        simp [spanD, momentD]
        omega
      | bl x => simp [q5__law_is_change, h2, h1, w_is_whole h (.int i), w_is_whole h (.bl x), c, spanD]; rfl
      | str x l => simp [q5__law_is_change, h2, h1, w_is_whole h (.int i), w_is_whole h (.str x l), c, spanD]; rfl
      | tup x l a => simp [q5__law_is_change, h2, h1, w_is_whole h (.int i), w_is_whole h (.tup x l a), c, spanD]; rfl
      | lst x l a => simp [q5__law_is_change, h2, h1, w_is_whole h (.int i), w_is_whole h (.lst x l a), c, spanD]; rfl
      | dic => simp [q5__law_is_change, h2, h1, w_is_whole h (.int i), w_is_whole h .dic, c, spanD]; rfl
    | _ => simp [whole2] at c
  · have : spanD b e = false := by
      cases b <;> first | rfl | skip
      rename_i i
      simp [whole2] at c
      cases e <;> first | rfl | (simp [spanD, momentD]; omega)
    simp [q5__law_is_change, h2, w_is_whole h kb, c, this]
theorem w_is_change4 (h : AH) {a b c d : D} (ka : Fine a) (kb : Fine b) (kc : Fine c) (kd : Fine d) :
    m__law_is_change [.tup [a, b, c, d]] h = .ok (.bl (changeD (.tup [a, b, c, d]))) h := by
  have s2 : 2 ≤ sizeLine := by rw [sizeL]; decide
  have s3 : 3 ≤ sizeLine := by rw [sizeL]; decide
  cases a with
  | str s =>
    have e1 : q1__law_is_change [.v (.tup [.str s, b, c, d]), .u] h = .nx [.v (.tup [.str s, b, c, d]), .u] h := by
      simp [q1__law_is_change, s2, in45]
    have stop : ∀ o, q2__law_is_change [.v (.tup [.str s, b, c, d]), .u] h = .rt o h → m__law_is_change [.tup [.str s, b, c, d]] h = .ok o h := fun o e =>
      fn_rt ((sSeq_nx e1).trans (sSeq_rt e))
    by_cases f : s = "for"
    · subst f
      have n1 : (("for" : Str) == "away") = false := by decide +kernel
      have n2 : (("for" : Str) == "on") = false := by decide +kernel
      rw [stop (.bl false) (by simp [q2__law_is_change, s3, in3])]
      simp [changeD, n1, n2]
    · have f' : (s == "for") = false := by simpa using f
      by_cases g : (s == "away" || s == "on") = true
      · have g3 : (s == "away" || s == "for" || s == "on") = true := by rw [f', Bool.or_false]; exact g
        have e2' : q2__law_is_change [.v (.tup [.str s, b, c, d]), .u] h = .nx [.v (.tup [.str s, b, c, d]), .u] h := by
          rw [Bool.or_eq_true] at g
          rcases g with g | g
          · have := eq_of_beq g
            subst this
            simp [q2__law_is_change, s3, in3, f']
          · have := eq_of_beq g
            subst this
            simp [q2__law_is_change, s3, in3, f']
        have w := so_words h (.v (.tup [.str s, b, c, d])) [b] (by simpa using kb) (by simp)
        by_cases wb : wordD b = true
        · have e4 : q4__law_is_change [.v (.tup [.str s, b, c, d]), .u] h = .nx [.v (.tup [.str s, b, c, d]), .u] h := by
            simp [q4__law_is_change, w, ev_all1, wb, f']
          rw [show m__law_is_change [.tup [.str s, b, c, d]] h = .ok (.bl (spanD c d)) h from fn_rt ((sSeq_nx e1).trans ((sSeq_nx e2').trans ((sSeq_nx e4).trans (v_tail h kc kd rfl rfl))))]
          simp [changeD, g, wb, -Bool.or_eq_true]
        · have e4 : q4__law_is_change [.v (.tup [.str s, b, c, d]), .u] h = .rt (.bl false) h := by
            simp [q4__law_is_change, w, ev_all1, wb]
          rw [show m__law_is_change [.tup [.str s, b, c, d]] h = .ok (.bl false) h from fn_rt ((sSeq_nx e1).trans ((sSeq_nx e2').trans (sSeq_rt e4)))]
          simp [changeD, wb]
      · have g3 : (s == "away" || s == "for" || s == "on") = false := by rw [f', Bool.or_false]; simpa using g
        rw [stop (.bl false) (by simp [q2__law_is_change, s3, in3, g3, -Bool.or_eq_true])]
        simp [changeD, g, -Bool.or_eq_true]
  | _ => first | (cases ka; done) | simp [m__law_is_change, b__law_is_change, q1__law_is_change, changeD, in45, s2]
theorem w_is_change5 (h : AH) {a b c d e : D} (ka : Fine a) (kb : Fine b) (kc : Fine c) (kd : Fine d) (ke : Fine e) :
    m__law_is_change [.tup [a, b, c, d, e]] h = .ok (.bl (changeD (.tup [a, b, c, d, e]))) h := by
  have s2 : 2 ≤ sizeLine := by rw [sizeL]; decide
  have s3 : 3 ≤ sizeLine := by rw [sizeL]; decide
  cases a with
  | str s =>
    have e1 : q1__law_is_change [.v (.tup [.str s, b, c, d, e]), .u] h = .nx [.v (.tup [.str s, b, c, d, e]), .u] h := by
      simp [q1__law_is_change, s2, in45]
    have stop : ∀ o, q2__law_is_change [.v (.tup [.str s, b, c, d, e]), .u] h = .rt o h → m__law_is_change [.tup [.str s, b, c, d, e]] h = .ok o h := fun o e =>
      fn_rt ((sSeq_nx e1).trans (sSeq_rt e))
    by_cases f : s = "for"
    · subst f
      have e2' : q2__law_is_change [.v (.tup [.str "for", b, c, d, e]), .u] h = .nx [.v (.tup [.str "for", b, c, d, e]), .u] h := by
        simp [q2__law_is_change, s3, in3]
      have w := so_words h (.v (.tup [.str "for", b, c, d, e])) [b, c] (by simp [kb, kc]) (by simp)
      have bad : q4__law_is_change [.v (.tup [.str "for", b, c, d, e]), .u] h = .rt (.bl false) h → changeD (.tup [.str "for", b, c, d, e]) = false → m__law_is_change [.tup [.str "for", b, c, d, e]] h = .ok (.bl (changeD (.tup [.str "for", b, c, d, e]))) h := fun e4 e5 => by
        rw [e5]
        exact fn_rt ((sSeq_nx e1).trans ((sSeq_nx e2').trans (sSeq_rt e4)))
      by_cases wc : wordD c = true
      · by_cases wb : wordD b = true
        · by_cases q : eqWord b c = true
          · exact bad (by simp [q4__law_is_change, w, ev_all2, wb, wc, eq_word h kb wc, q]) (by simp [changeD, q])
          · have e4 : q4__law_is_change [.v (.tup [.str "for", b, c, d, e]), .u] h = .nx [.v (.tup [.str "for", b, c, d, e]), .u] h := by
              simp [q4__law_is_change, w, ev_all2, wb, wc, eq_word h kb wc, q]
            rw [show m__law_is_change [.tup [.str "for", b, c, d, e]] h = .ok (.bl (spanD d e)) h from fn_rt ((sSeq_nx e1).trans ((sSeq_nx e2').trans ((sSeq_nx e4).trans (v_tail h kd ke rfl rfl))))]
            simp [changeD, q, wb, wc]
        · exact bad (by simp [q4__law_is_change, w, ev_all2, wb, wc]) (by simp [changeD, wb])
      · exact bad (by simp [q4__law_is_change, w, ev_all2, wc]) (by simp [changeD, wc])
    · have f' : (s == "for") = false := by simpa using f
      by_cases g3 : (s == "away" || s == "for" || s == "on") = true
      · rw [stop (.bl false) (by simp [q2__law_is_change, s3, in3, g3, f', -Bool.or_eq_true])]
        simp [changeD, f']
      · rw [stop (.bl false) (by simp [q2__law_is_change, s3, in3, g3, -Bool.or_eq_true])]
        simp [changeD, f']
  | _ => first | (cases ka; done) | simp [m__law_is_change, b__law_is_change, q1__law_is_change, changeD, in45, s2]
theorem changeD_other {r : List D} (h4 : r.length ≠ 4) (h5 : r.length ≠ 5) : changeD (.tup r) = false := by
  unfold changeD
  split
  · rename_i e; cases e; exact absurd rfl h4
  · rename_i e; cases e; exact absurd rfl h5
  · rfl
theorem v_is_change {d : D} (h : AH) (k : Fine d) : m_is_change [d] h = .ok (.bl (changeD d)) h := by
  cases k with
  | tup r hl a =>
    by_cases h4 : r.length = 4
    · match r, h4, a with
      | [a, b, c, d], _, k => exact v_is_change4 h (k a (by simp)) (k b (by simp)) (k c (by simp)) (k d (by simp))
    by_cases h5 : r.length = 5
    · match r, h5, a with
      | [a, b, c, d, e], _, k => exact v_is_change5 h (k a (by simp)) (k b (by simp)) (k c (by simp)) (k d (by simp)) (k e (by simp))
    rw [changeD_other h4 h5]
    exact v_is_change_other h h4 h5
  | _ => simp [m_is_change, b_is_change, q1_is_change, changeD]
theorem w_is_change {d : D} (h : AH) (k : Fine d) : m__law_is_change [d] h = .ok (.bl (changeD d)) h := by
  have s2 : 2 ≤ sizeLine := by rw [sizeL]; decide
  cases k with
  | tup r hl a =>
    by_cases h4 : r.length = 4
    · match r, h4, a with
      | [a, b, c, d], _, k => exact w_is_change4 h (k a (by simp)) (k b (by simp)) (k c (by simp)) (k d (by simp))
    by_cases h5 : r.length = 5
    · match r, h5, a with
      | [a, b, c, d, e], _, k => exact w_is_change5 h (k a (by simp)) (k b (by simp)) (k c (by simp)) (k d (by simp)) (k e (by simp))
    rw [changeD_other h4 h5]
    have n4 : ¬((r.length : Int) = 4) := by omega
    have n5 : ¬((r.length : Int) = 5) := by omega
    simp [m__law_is_change, b__law_is_change, q1__law_is_change, in45, s2, n4, n5]
  | _ => simp [m__law_is_change, b__law_is_change, q1__law_is_change, changeD]
end My
set_option Elab.async false
set_option linter.all false
set_option maxRecDepth 100000
set_option maxHeartbeats 4000000
namespace My
open PySem L2 Sim
@[simp] theorem at2_0 (a b : D) : atI [a, b] 0 = some a := rfl
@[simp] theorem at2_1 (a b : D) : atI [a, b] 1 = some b := rfl
def okJ (a b : Int) : Bool := decide (a < 1000000000000000000000000000000000000000000000000000000000000) && decide (b ≠ 0) && decide (-1440 ≤ b) && decide (b ≤ 1440)
def jumpD : D → Bool
  | .tup [.int a, .int b] => decide (0 < a) && okJ a b
  | _ => false
def goJ : Int → List D → Bool
  | _, [] => true
  | p, .tup [.int a, .int b] :: r => decide (p < a) && okJ a b && goJ a r
  | _, _ :: _ => false
def ris : List Int → Bool
  | a :: b :: r => decide (a < b) && ris (b :: r)
  | _ => true
theorem v_is_jump {d : D} (h : AH) (k : Fine d) : m_is_jump [d] h = .ok (.bl (jumpD d)) h := by
  cases k with
  | tup xs hl ha =>
    by_cases h2 : xs.length = 2
    · match xs, h2, ha with
      | [a, b], _, ha =>
        have ka := ha a (by simp)
        have kb := ha b (by simp)
        by_cases ma : momentD a = true
        · cases a with
          | int i =>
            by_cases i0 : i = 0
            · subst i0
              have : jumpD (.tup [.int 0, b]) = false := by cases b <;> simp [jumpD]
              simp [m_is_jump, b_is_jump, q1_is_jump, q2_is_jump, v_is_moment h ka, ma, this]
            · simp [momentD] at ma
              cases kb with
              | int j =>
                have w := v_is_whole h (.int j)
                by_cases j0 : j = 0
                · subst j0
                  simp [m_is_jump, b_is_jump, q1_is_jump, q2_is_jump, v_is_moment h ka, momentD, ma, i0, w, wholeD, jumpD, okJ]
                · have e : (decide ((if j < 0 then -j else j) ≤ 1440)) = (decide (-1440 ≤ j) && decide (j ≤ 1440)) := by
                    rw [Bool.eq_iff_iff]
                    by_cases c : j < 0 <;> simp [c] <;> omega
                  have p : 0 < i := by omega
                  simp [m_is_jump, b_is_jump, q1_is_jump, q2_is_jump, v_is_moment h ka, momentD, ma, i0, w, wholeD, j0, jumpD, okJ, e, p]
              | non => simp [m_is_jump, b_is_jump, q1_is_jump, q2_is_jump, v_is_moment h ka, momentD, ma, i0, v_is_whole h .non, wholeD, jumpD]
              | bl x => simp [m_is_jump, b_is_jump, q1_is_jump, q2_is_jump, v_is_moment h ka, momentD, ma, i0, v_is_whole h (.bl x), wholeD, jumpD]
              | str x l => simp [m_is_jump, b_is_jump, q1_is_jump, q2_is_jump, v_is_moment h ka, momentD, ma, i0, v_is_whole h (.str x l), wholeD, jumpD]
              | tup x l a => simp [m_is_jump, b_is_jump, q1_is_jump, q2_is_jump, v_is_moment h ka, momentD, ma, i0, v_is_whole h (.tup x l a), wholeD, jumpD]
              | lst x l a => simp [m_is_jump, b_is_jump, q1_is_jump, q2_is_jump, v_is_moment h ka, momentD, ma, i0, v_is_whole h (.lst x l a), wholeD, jumpD]
              | dic => simp [m_is_jump, b_is_jump, q1_is_jump, q2_is_jump, v_is_moment h ka, momentD, ma, i0, v_is_whole h .dic, wholeD, jumpD]
          | _ => simp [momentD] at ma
        · have : jumpD (.tup [a, b]) = false := by
            cases a <;> first | rfl | skip
            rename_i i
            cases b <;> first | rfl | skip
            simp [momentD] at ma
            simp [jumpD, okJ]
            omega
          simp [m_is_jump, b_is_jump, q1_is_jump, q2_is_jump, v_is_moment h ka, ma, this]
    · have : jumpD (.tup xs) = false := by
        unfold jumpD
        split
        · rename_i e; cases e; exact absurd rfl h2
        · rfl
      have h2' : ¬((xs.length : Int) = 2) := by omega
      simp [m_is_jump, b_is_jump, q1_is_jump, h2', this]
  | _ => simp [m_is_jump, b_is_jump, q1_is_jump, jumpD]
theorem e2_ok {f : F2} {a b : ME} {fr : Fr} {h h1 h2 : AH} {x y d : D} (ea : a fr h = .ok x h1) (eb : b fr h1 = .ok y h2) (ef : f h2 x y = some d) : Sim.e2 f a b fr h = .ok d h2 := by
  rw [ev_e2, ea, bind_ok, eb, bind_ok, ef]; rfl
theorem ris_all : ∀ ns : List Int, (List.range (ns.length - 1)).all (fun k => decide (ns.getD k 0 < ns.getD (k + 1) 0)) = ris ns
  | [] => rfl
  | [a] => rfl
  | a :: b :: r => by
    have ih := ris_all (b :: r)
    have e : (a :: b :: r).length - 1 = ((b :: r).length - 1) + 1 := by simp
    rw [e, List.range_succ_eq_map, List.all_cons, List.all_map]
    have : (List.range ((b :: r).length - 1)).all ((fun k => decide ((a :: b :: r).getD k 0 < (a :: b :: r).getD (k + 1) 0)) ∘ Nat.succ) = (List.range ((b :: r).length - 1)).all (fun k => decide ((b :: r).getD k 0 < (b :: r).getD (k + 1) 0)) := by
      congr 1
    rw [this, ih]
    simp [ris]
theorem v_is_rising (h : AH) (ns : List Int) (hl : ns.length ≤ 1000) : m_is_rising [.lst (ns.map .int)] h = .ok (.bl (ris ns)) h := by
  have sz := sizeL
  match ns, hl with
  | [], _ =>
    simp [m_is_rising, b_is_rising, rngOk, rangeD, lcLoop, ev_all, ris]
  | n :: ns, hl =>
    have ee : (eFn lenD (aCons (eVar 0) (aNil))) [.v (.lst ((n :: ns).map .int)), .u] h = .ok (.int ((n :: ns).length : Nat)) h := by simp
    have er : iRange1 (e2 subD (eFn lenD (aCons (eVar 0) (aNil))) (eC (.int 1))) [.v (.lst ((n :: ns).map .int)), .u] h = .ok (rangeD 0 ns.length) h := range_nat (by simp) (rng_small (by simp at hl; omega))
    have e := lc_pure (g := gNm 1) (t := tYesM) (me := x1_is_rising) (fr0 := [.v (.lst ((n :: ns).map .int)), .u]) (fun d => match d with | .int k => .bl (decide ((n :: ns).getD k.toNat 0 < (n :: ns).getD (k.toNat + 1) 0)) | _ => .non) (rangeD 0 ns.length) [] h (fun d hd => by
      obtain ⟨k, hk⟩ := List.mem_iff_getElem?.mp hd
      obtain ⟨hi, rfl⟩ := range_at hk
      have a1 : atI ((n :: ns).map D.int) (k : Nat) = some (.int ((n :: ns).getD k 0)) := atI_nat (by
        have : k < (n :: ns).length := by simp; omega
        rw [List.getElem?_map, List.getD_eq_getElem?_getD, List.getElem?_eq_getElem this]; rfl)
      have a2 : atI ((n :: ns).map D.int) ((k : Int) + 1) = some (.int ((n :: ns).getD (k + 1) 0)) := by
        have q : atI ((n :: ns).map D.int) ((k + 1 : Nat) : Int) = some (.int ((n :: ns).getD (k + 1) 0)) := atI_nat (by
          have : k + 1 < (n :: ns).length := by simp; omega
          rw [List.getElem?_map, List.getD_eq_getElem?_getD, List.getElem?_eq_getElem this]; rfl)
        exact q
      refine ⟨_, rfl, rfl, ?_⟩
      exact e2_ok (e2_ok (x := .lst ((n :: ns).map .int)) (y := .int (k : Nat)) rfl rfl a1) (e2_ok (x := .lst ((n :: ns).map .int)) (y := .int ((k : Int) + 1)) rfl (e2_ok rfl rfl rfl) a2) rfl) (by rw [range_len]; simp at hl ⊢; omega)
    have ec : fLc (iRange1 (e2 subD (eFn lenD (aCons (eVar 0) (aNil))) (eC (.int 1)))) (gNm 1) (tYesM) (x1_is_rising) [1] [.v (.lst ((n :: ns).map .int)), .u] h = .ok (.lst ((rangeD 0 ns.length).map fun d => match d with | .int k => .bl (decide ((n :: ns).getD k.toNat 0 < (n :: ns).getD (k.toNat + 1) 0)) | _ => .non)) h := by
      rw [ev_fLc, er, bind_ok, ev_wipe1]
      simp only [List.set]
      rw [e, bind_ok]
      simp
    have el : ((rangeD 0 ns.length).map fun d => match d with | .int k => D.bl (decide ((n :: ns).getD k.toNat 0 < (n :: ns).getD (k.toNat + 1) 0)) | _ => .non) = (List.range ns.length).map fun k => D.bl (decide ((n :: ns).getD k 0 < (n :: ns).getD (k + 1) 0)) := by
      unfold rangeD
      rw [List.map_map]
      refine List.map_congr_left fun k _ => ?_
      simp only [Function.comp, Int.zero_add, Int.toNat_natCast]
    rw [el] at ec
    have ra := ris_all (n :: ns)
    have al : allD h [.lst ((List.range ns.length).map fun k => D.bl (decide ((n :: ns).getD k 0 < (n :: ns).getD (k + 1) 0)))] = some (.bl (ris (n :: ns))) := by
      rw [ev_all, ← ra]
      simp [List.all_map, Function.comp_def, blD]
    unfold m_is_rising b_is_rising
    refine fn_rt ?_
    have fx : frame0 2 [.lst ((n :: ns).map .int)] = [.v (.lst ((n :: ns).map .int)), .u] := rfl
    rw [fx]
    have ef : eF (fLc (iRange1 (e2 subD (eFn lenD (aCons (eVar 0) (aNil))) (eC (.int 1)))) (gNm 1) (tYesM) (x1_is_rising) [1]) [.v (.lst ((n :: ns).map .int)), .u] h = .ok (.lst ((List.range ns.length).map fun k => D.bl (decide ((n :: ns).getD k 0 < (n :: ns).getD (k + 1) 0)))) h := by
      rw [ev_eF, ec]; rfl
    rw [ev_sRet, ev_eFn, aCons_ok ef rfl, bind_ok, al]
    rfl
end My
set_option Elab.async false
set_option linter.all false
set_option maxRecDepth 100000
set_option maxHeartbeats 4000000
namespace My
open PySem L2 Sim
def pj (p : Int × Int) : D := .tup [.int p.1, .int p.2]
theorem jump_pairs : ∀ xs : List D, xs.all jumpD = true → ∃ ps : List (Int × Int), xs = ps.map pj
  | [], _ => ⟨[], rfl⟩
  | x :: xs, h => by
    rw [List.all_cons, Bool.and_eq_true] at h
    obtain ⟨ps, rfl⟩ := jump_pairs xs h.2
    have hx := h.1
    unfold jumpD at hx
    split at hx
    · exact ⟨(_, _) :: ps, rfl⟩
    · cases hx
theorem goJ_ris : ∀ (ps : List (Int × Int)) (q : Int), (ps.map pj).all jumpD = true → goJ q (ps.map pj) = ris (q :: ps.map (·.1))
  | [], q, _ => rfl
  | p :: ps, q, h => by
    rw [List.map_cons, List.all_cons, Bool.and_eq_true] at h
    have ih := goJ_ris ps p.1 h.2
    have ok : okJ p.1 p.2 = true := by
      have := h.1
      simp only [pj, jumpD, Bool.and_eq_true] at this
      exact this.2
    show (decide (q < p.1) && okJ p.1 p.2 && goJ p.1 (ps.map pj)) = _
    rw [ok, ih]
    simp [ris]
theorem goJ_all : ∀ (xs : List D) (q : Int), 0 ≤ q → goJ q xs = true → xs.all jumpD = true
  | [], _, _, _ => rfl
  | x :: xs, q, hq, h => by
    unfold goJ at h
    split at h
    · rename_i e
      cases e
    · rename_i a b r e
      cases e
      rw [Bool.and_eq_true, Bool.and_eq_true] at h
      have hp := of_decide_eq_true h.1.1
      rw [List.all_cons, Bool.and_eq_true]
      refine ⟨?_, goJ_all xs a (by omega) h.2⟩
      show (decide (0 < a) && okJ a b) = true
      rw [Bool.and_eq_true]
      exact ⟨decide_eq_true (by omega), h.1.2⟩
    · cases h
/-- a row of jumps -/
def jumpsD : D → Bool
  | .tup xs => decide (xs.length ≤ 8) && goJ 0 xs
  | _ => false
theorem goJ_0 (ps : List (Int × Int)) (h : (ps.map pj).all jumpD = true) : goJ 0 (ps.map pj) = ris (ps.map (·.1)) := by
  rw [goJ_ris ps 0 h]
  match ps, h with
  | [], _ => rfl
  | p :: ps, h =>
    rw [List.map_cons, List.all_cons, Bool.and_eq_true] at h
    have : 0 < p.1 := by
      have := h.1
      simp only [pj, jumpD, Bool.and_eq_true] at this
      exact of_decide_eq_true this.1
    simp [ris, this]
theorem v_are_jumps {d : D} (h : AH) (k : Fine d) : m_are_jumps [d] h = .ok (.bl (jumpsD d)) h := by
  have sz := sizeL
  cases k with
  | tup xs hl ha =>
    by_cases c8 : xs.length ≤ 8
    · have c8' : ¬(8 < (xs.length : Int)) := by omega
      have e := lc_pure (g := gNm 1) (t := tYesM) (me := x2_are_jumps) (fr0 := [.v (.tup xs), .u]) (fun d => .bl (jumpD d)) xs [] h (fun d hd => ⟨_, rfl, rfl, by simp [x2_are_jumps, v_is_jump h (ha d hd)]⟩) (by simp; omega)
      simp only [List.nil_append] at e
      have al : allD h [.lst (xs.map fun d => D.bl (jumpD d))] = some (.bl (xs.all jumpD)) := by
        rw [ev_all]
        simp [List.all_map, Function.comp_def, blD]
      have s1 : q1_are_jumps [.v (.tup xs), .u] h = .nx [.v (.tup xs), .u] h := by simp [q1_are_jumps, c8']
      by_cases ca : xs.all jumpD = true
      · have s3 : q3_are_jumps [.v (.tup xs), .u] h = .nx [.v (.tup xs), .u] h := by
          simp [q3_are_jumps, e, al, ca, -List.all_eq_true]
        obtain ⟨ps, rfl⟩ := jump_pairs xs ca
        have e4 := lc_pure (g := gNm 1) (t := tYesM) (me := x4_are_jumps) (fr0 := [.v (.tup (ps.map pj)), .u]) (fun d => match d with | .tup [a, _] => a | _ => .non) (ps.map pj) [] h (fun d hd => by
          obtain ⟨p, _, rfl⟩ := List.mem_map.mp hd
          exact ⟨_, rfl, rfl, by simp [x4_are_jumps, pj]⟩) (by simp at hl ⊢; omega)
        simp only [List.nil_append, List.map_map] at e4
        have el : ps.map ((fun d => match d with | D.tup [a, _] => a | _ => D.non) ∘ pj) = (ps.map (·.1)).map D.int := by
          rw [List.map_map]; rfl
        rw [el] at e4
        have r := v_is_rising h (ps.map (·.1)) (by simp at hl ⊢; omega)
        have fin : sRet (eCall m_is_rising 1 (aCons (eF (fLc (iOf (eVar 0)) (gNm 1) (tYesM) (x4_are_jumps) [1])) (aNil))) [.v (.tup (ps.map pj)), .u] h = .rt (.bl (ris (ps.map (·.1)))) h := by
          have ef : eF (fLc (iOf (eVar 0)) (gNm 1) (tYesM) (x4_are_jumps) [1]) [.v (.tup (ps.map pj)), .u] h = .ok (.lst ((ps.map (·.1)).map D.int)) h := by
            rw [ev_eF, ev_fLc]
            show (((lcLoop (gNm 1) tYesM x4_are_jumps [.v (.tup (ps.map pj)), .u] (ps.map pj) [] h).bind fun acc h2 => Out.ok (Cell.lst acc) h2).bind fun c h1 => Out.ofOpt (valC c) h1) = _
            rw [e4]; rfl
          rw [ev_sRet, ev_eCall, aCons_ok ef rfl, bind_ok]
          show sOf (m_is_rising [.lst ((ps.map (·.1)).map D.int)] h) _ _ = _
          rw [r]; rfl
        have : jumpsD (.tup (ps.map pj)) = ris (ps.map (·.1)) := by
          show (decide ((ps.map pj).length ≤ 8) && goJ 0 (ps.map pj)) = _
          rw [goJ_0 ps ca, decide_eq_true c8, Bool.true_and]
        rw [this]
        exact fn_rt ((sSeq_nx s1).trans ((sSeq_nx s3).trans fin))
      · have s3 : q3_are_jumps [.v (.tup xs), .u] h = .rt (.bl false) h := by
          have ca' : xs.all jumpD = false := by simpa using ca
          simp [q3_are_jumps, e, al, ca', -List.all_eq_true, -List.all_eq_false]
        have : jumpsD (.tup xs) = false := by
          show (decide (xs.length ≤ 8) && goJ 0 xs) = false
          rw [Bool.and_eq_false_iff]
          refine .inr ?_
          cases g : goJ 0 xs with
          | false => rfl
          | true => exact absurd (goJ_all xs 0 (by omega) g) ca
        rw [this]
        exact fn_rt ((sSeq_nx s1).trans (sSeq_rt s3))
    · have c8' : 8 < (xs.length : Int) := by omega
      have : jumpsD (.tup xs) = false := by simp [jumpsD, c8]
      simp [m_are_jumps, b_are_jumps, q1_are_jumps, c8', this]
  | _ => simp [m_are_jumps, b_are_jumps, q1_are_jumps, jumpsD]
theorem w_jumps_turn (h : AH) (t : D) (p : Int) {x : D} (k : Fine x) :
    (∃ a b, x = .tup [.int a, .int b] ∧ (decide (p < a) && okJ a b) = true ∧ q4__law_are_jumps [.v t, .v (.int p), .v x] h = .nx [.v t, .v (.int a), .v x] h) ∨ ((∀ r, goJ p (x :: r) = false) ∧ q4__law_are_jumps [.v t, .v (.int p), .v x] h = .rt (.bl false) h) := by
  by_cases c2 : rowD x 2 = true
  · cases x with
    | tup xs =>
      simp [rowD] at c2
      have h2 : xs.length = 2 := by omega
      match xs, h2, k with
      | [a, b], _, k =>
        cases k with
        | tup _ hl ha =>
          have ka := ha a (by simp)
          have kb := ha b (by simp)
          have row := w_is_row h (.tup [a, b] hl ha) 2
          have rd : rowD (.tup [a, b]) 2 = true := rfl
          rw [rd] at row
          by_cases ca : whole2 a (p + 1) 999999999999999999999999999999999999999999999999999999999999 = true
          · by_cases cb : whole2 b (-1440) 1440 = true
            · cases a with
              | int i =>
                cases b with
                | int j =>
                  simp [whole2] at ca cb
                  have wa : whole2 (.int i) (p + 1) 999999999999999999999999999999999999999999999999999999999999 = true := by simp [whole2]; omega
                  have wb : whole2 (.int j) (-1440) 1440 = true := by simp [whole2]; omega
                  by_cases j0 : j = 0
                  · subst j0
                    refine .inr ⟨fun r => by simp [goJ, okJ], ?_⟩
                    simp [q4__law_are_jumps, q2__law_are_jumps, q3__law_are_jumps, row, w_is_whole h ka, w_is_whole h kb, wa, wb]
                  · refine .inl ⟨i, j, rfl, ?_, ?_⟩
                    · simp [okJ, j0]; omega
                    · simp [q4__law_are_jumps, q2__law_are_jumps, q3__law_are_jumps, row, w_is_whole h ka, w_is_whole h kb, wa, wb, j0]
                | _ => simp [whole2] at cb
              | _ => simp [whole2] at ca
            · refine .inr ⟨fun r => ?_, ?_⟩
              · cases a <;> first | rfl | skip
                cases b <;> first | rfl | skip
                simp [whole2] at cb
                simp [goJ, okJ]
                omega
              · simp [q4__law_are_jumps, q2__law_are_jumps, q3__law_are_jumps, row, w_is_whole h ka, w_is_whole h kb, ca, cb]
          · refine .inr ⟨fun r => ?_, ?_⟩
            · cases a <;> first | rfl | skip
              cases b <;> first | rfl | skip
              simp [whole2] at ca
              simp [goJ, okJ]
              omega
            · simp [q4__law_are_jumps, q2__law_are_jumps, row, w_is_whole h ka, ca]
    | _ => simp [rowD] at c2
  · refine .inr ⟨fun r => ?_, ?_⟩
    · unfold goJ
      split
      · rename_i e; cases e
      · rename_i e; cases e; exact absurd rfl c2
      · rfl
    · simp [q4__law_are_jumps, q2__law_are_jumps, w_is_row h k, c2]
theorem w_jumps_loop (h : AH) (t : D) : ∀ (xs : List D), (∀ x ∈ xs, Fine x) → ∀ (p : Int) (x2 : Slot), (goJ p xs = true → ∃ fr', forM (gNm 2) q4__law_are_jumps xs [.v t, .v (.int p), x2] h = .nx fr' h) ∧ (goJ p xs = false → forM (gNm 2) q4__law_are_jumps xs [.v t, .v (.int p), x2] h = .rt (.bl false) h)
  | [], _, p, x2 => ⟨fun _ => ⟨_, rfl⟩, fun e => by simp [goJ] at e⟩
  | x :: xs, k, p, x2 => by
    have ih := w_jumps_loop h t xs fun y hy => k y (List.mem_cons_of_mem _ hy)
    rw [ev_forM_cons]
    rcases w_jumps_turn h t p (k x (List.mem_cons_self ..)) with ⟨a, b, rfl, ok, e⟩ | ⟨f, e⟩
    · have g : goJ p (.tup [.int a, .int b] :: xs) = goJ a xs := by
        show (decide (p < a) && okJ a b && goJ a xs) = _
        rw [ok, Bool.true_and]
      rw [g]
      have e' : q4__law_are_jumps ([.v t, .v (.int p), x2].set 2 (.v (.tup [.int a, .int b]))) h = .nx [.v t, .v (.int a), .v (.tup [.int a, .int b])] h := e
      simp only [ev_gNm, e']
      exact ih a _
    · rw [f xs]
      have e' : q4__law_are_jumps ([.v t, .v (.int p), x2].set 2 (.v x)) h = .rt (.bl false) h := e
      simp only [ev_gNm, e']
      exact ⟨fun z => (by cases z), fun _ => trivial⟩
theorem w_are_jumps {d : D} (h : AH) (k : Fine d) : m__law_are_jumps [d] h = .ok (.bl (jumpsD d)) h := by
  cases k with
  | tup xs hl ha =>
    by_cases c8 : xs.length ≤ 8
    · have c8' : ¬(8 < (xs.length : Int)) := by omega
      have s1 : q1__law_are_jumps [.v (.tup xs), .u, .u] h = .nx [.v (.tup xs), .u, .u] h := by simp [q1__law_are_jumps, c8']
      have s2 : sAsg (eC (.int 0)) (gNm 1) [.v (.tup xs), .u, .u] h = .nx [.v (.tup xs), .v (.int 0), .u] h := by simp
      have lp := w_jumps_loop h (.tup xs) xs ha 0 .u
      have jd : jumpsD (.tup xs) = goJ 0 xs := by
        show (decide (xs.length ≤ 8) && goJ 0 xs) = _
        rw [decide_eq_true c8, Bool.true_and]
      rw [jd]
      cases g : goJ 0 xs with
      | true =>
        obtain ⟨fr', e⟩ := lp.1 g
        exact fn_rt ((sSeq_nx s1).trans ((sSeq_nx s2).trans ((sSeq_nx (ev_sFor_of (a := iOf (eVar 0)) rfl e)).trans (by simp))))
      | false =>
        exact fn_rt ((sSeq_nx s1).trans ((sSeq_nx s2).trans (sSeq_rt (ev_sFor_of (a := iOf (eVar 0)) rfl (lp.2 g)))))
    · have c8' : 8 < (xs.length : Int) := by omega
      have : jumpsD (.tup xs) = false := by simp [jumpsD, c8]
      simp [m__law_are_jumps, b__law_are_jumps, q1__law_are_jumps, c8', this]
  | _ => simp [m__law_are_jumps, b__law_are_jumps, q1__law_are_jumps, jumpsD]
end My
set_option Elab.async false
set_option linter.all false
set_option maxRecDepth 100000
set_option maxHeartbeats 4000000
namespace My
open PySem L2 Sim
@[simp] theorem atI3_x (a b c : D) : atI [a, b, c] (1 : Int) = some b := rfl
def turnD (low high : Int) : D → Bool
  | .tup [.int b, .int e, w] => wordD w && decide (low ≤ b) && decide (b < e) && decide (e ≤ high)
  | _ => false
def goT (most : Int) : Int → List D → Bool
  | _, [] => true
  | low, .tup [.int b, .int e, w] :: r => (wordD w && decide (low ≤ b) && decide (b < e) && decide (e ≤ most)) && goT most e r
  | _, _ :: _ => false
theorem turn3 (low high : Int) {xs : List D} (h : xs.length ≠ 3) : turnD low high (.tup xs) = false := by
  unfold turnD
  split
  · rename_i e; cases e; exact absurd rfl h
  · rfl
theorem v_is_turn {d : D} (h : AH) (k : Fine d) (low high : Int) : m_is_turn [d, .int low, .int high] h = .ok (.bl (turnD low high d)) h := by
  cases k with
  | tup xs hl ha =>
    by_cases h3 : xs.length = 3
    · match xs, h3, ha with
      | [a, b, c], _, ha =>
        have ka := ha a (by simp)
        have kb := ha b (by simp)
        have kc := ha c (by simp)
        have no : (wholeD a && wholeD b && wordD c) = false → turnD low high (.tup [a, b, c]) = false := fun e => by
          cases a <;> first | rfl | skip
          cases b <;> first | rfl | skip
          simp [wholeD] at e
          simp [turnD, e]
        by_cases wa : wholeD a = true
        · by_cases wb : wholeD b = true
          · by_cases wc : wordD c = true
            · cases a with
              | int i =>
                cases b with
                | int j =>
                  by_cases c1 : low ≤ i <;> by_cases c2 : i < j <;> simp [m_is_turn, b_is_turn, q1_is_turn, q2_is_turn, v_is_whole h ka, v_is_whole h kb, v_is_word h kc, wa, wb, wc, turnD, c1, c2]
                | _ => simp [wholeD] at wb
              | _ => simp [wholeD] at wa
            · rw [no (by simp [wc])]
              simp [m_is_turn, b_is_turn, q1_is_turn, q2_is_turn, v_is_whole h ka, v_is_whole h kb, v_is_word h kc, wa, wb, wc]
          · rw [no (by simp [wb])]
            simp [m_is_turn, b_is_turn, q1_is_turn, q2_is_turn, v_is_whole h ka, v_is_whole h kb, wa, wb]
        · rw [no (by simp [wa])]
          simp [m_is_turn, b_is_turn, q1_is_turn, q2_is_turn, v_is_whole h ka, wa]
    · have h3' : ¬((xs.length : Int) = 3) := by omega
      rw [turn3 low high h3]
      simp [m_is_turn, b_is_turn, q1_is_turn, h3']
  | _ => simp [m_is_turn, b_is_turn, q1_is_turn, turnD]
theorem goT_cons (most low : Int) (x : D) (r : List D) : (∃ b e w, x = .tup [.int b, .int e, w] ∧ turnD low most x = true ∧ goT most low (x :: r) = goT most e r) ∨ (turnD low most x = false ∧ goT most low (x :: r) = false) := by
  cases t : turnD low most x with
  | true =>
    unfold turnD at t
    split at t
    · rename_i b e w
      refine .inl ⟨b, e, w, rfl, rfl, ?_⟩
      show ((wordD w && decide (low ≤ b) && decide (b < e) && decide (e ≤ most)) && goT most e r) = _
      rw [t, Bool.true_and]
    · cases t
  | false =>
    refine .inr ⟨rfl, ?_⟩
    unfold goT
    split
    · rename_i e; cases e
    · rename_i lo xl b e w r2 q
      cases q
      rw [Bool.and_eq_false_iff]
      exact .inl t
    · rfl
theorem v_turns_loop (h : AH) (t : D) (most : Int) : ∀ (xs : List D), (∀ x ∈ xs, Fine x) → ∀ (p : Int) (x3 : Slot), (goT most p xs = true → ∃ fr', forM (gNm 3) q3_are_turns xs [.v t, .v (.int most), .v (.int p), x3] h = .nx fr' h) ∧ (goT most p xs = false → forM (gNm 3) q3_are_turns xs [.v t, .v (.int most), .v (.int p), x3] h = .rt (.bl false) h)
  | [], _, p, x3 => ⟨fun _ => ⟨_, rfl⟩, fun e => by simp [goT] at e⟩
  | x :: xs, k, p, x3 => by
    have ih := v_turns_loop h t most xs fun y hy => k y (List.mem_cons_of_mem _ hy)
    have vt := v_is_turn h (k x (List.mem_cons_self ..)) p most
    rw [ev_forM_cons]
    rcases goT_cons most p x xs with ⟨b, e, w, rfl, tt, g⟩ | ⟨tt, g⟩
    · rw [g]
      have e' : q3_are_turns ([.v t, .v (.int most), .v (.int p), x3].set 3 (.v (.tup [.int b, .int e, w]))) h = .nx [.v t, .v (.int most), .v (.int e), .v (.tup [.int b, .int e, w])] h := by
        simp [q3_are_turns, q2_are_turns, vt, tt]
      simp only [ev_gNm, e']
      exact ih e _
    · rw [g]
      have e' : q3_are_turns ([.v t, .v (.int most), .v (.int p), x3].set 3 (.v x)) h = .rt (.bl false) h := by
        simp [q3_are_turns, q2_are_turns, vt, tt]
      simp only [ev_gNm, e']
      exact ⟨fun z => (by cases z), fun _ => trivial⟩
def turnsD (most : Int) : D → Bool
  | .tup xs => decide (xs.length ≤ 12) && goT most 0 xs
  | _ => false
theorem v_are_turns {d : D} (h : AH) (k : Fine d) (most : Int) : m_are_turns [d, .int most] h = .ok (.bl (turnsD most d)) h := by
  cases k with
  | tup xs hl ha =>
    by_cases c8 : xs.length ≤ 12
    · have c8' : ¬(12 < (xs.length : Int)) := by omega
      have s1 : q1_are_turns [.v (.tup xs), .v (.int most), .u, .u] h = .nx [.v (.tup xs), .v (.int most), .u, .u] h := by simp [q1_are_turns, c8']
      have s2 : sAsg (eC (.int 0)) (gNm 2) [.v (.tup xs), .v (.int most), .u, .u] h = .nx [.v (.tup xs), .v (.int most), .v (.int 0), .u] h := by simp
      have lp := v_turns_loop h (.tup xs) most xs ha 0 .u
      have jd : turnsD most (.tup xs) = goT most 0 xs := by
        show (decide (xs.length ≤ 12) && goT most 0 xs) = _
        rw [decide_eq_true c8, Bool.true_and]
      rw [jd]
      cases g : goT most 0 xs with
      | true =>
        obtain ⟨fr', e⟩ := lp.1 g
        exact fn_rt ((sSeq_nx s1).trans ((sSeq_nx s2).trans ((sSeq_nx (ev_sFor_of (a := iOf (eVar 0)) rfl e)).trans (by simp))))
      | false =>
        exact fn_rt ((sSeq_nx s1).trans ((sSeq_nx s2).trans (sSeq_rt (ev_sFor_of (a := iOf (eVar 0)) rfl (lp.2 g)))))
    · have c8' : 12 < (xs.length : Int) := by omega
      have : turnsD most (.tup xs) = false := by simp [turnsD, c8]
      simp [m_are_turns, b_are_turns, q1_are_turns, c8', this]
  | _ => simp [m_are_turns, b_are_turns, q1_are_turns, turnsD]
def layerD : D → Bool
  | .tup [w, .int s, .int dy, ts] => wordD w && decide (1 ≤ dy) && decide (dy ≤ 60) && decide (0 ≤ s) && decide (s < 1440 * dy) && turnsD (1440 * dy) ts
  | _ => false
theorem layer4 {xs : List D} (h : xs.length ≠ 4) : layerD (.tup xs) = false := by
  unfold layerD
  split
  · rename_i e; cases e; exact absurd rfl h
  · rfl
theorem v_is_layer {d : D} (h : AH) (k : Fine d) : m_is_layer [d] h = .ok (.bl (layerD d)) h := by
  have m1 : ∀ j, CMul 1440 j ∨ CMulW 1440 j := fun j => mul_l (by omega) (by omega)
  cases k with
  | tup xs hl ha =>
    by_cases h4 : xs.length = 4
    · match xs, h4, ha with
      | [w, s, y, ts], _, ha =>
        have kw := ha w (by simp)
        have ks := ha s (by simp)
        have ky := ha y (by simp)
        have kt := ha ts (by simp)
        have no : (wordD w && wholeD s && wholeD y) = false → layerD (.tup [w, s, y, ts]) = false := fun e => by
          cases s <;> first | rfl | skip
          cases y <;> first | rfl | skip
          simp [wholeD] at e
          simp [layerD, e]
        by_cases ww : wordD w = true
        · by_cases ws : wholeD s = true
          · by_cases wy : wholeD y = true
            · cases s with
              | int i =>
                cases y with
                | int j =>
                  have vt := v_are_turns h kt (1440 * j)
                  by_cases c1 : 1 ≤ j <;> by_cases c2 : j ≤ 60 <;> by_cases c3 : 0 ≤ i <;> by_cases c4 : i < 1440 * j <;> simp [m_is_layer, b_is_layer, q1_is_layer, q2_is_layer, q3_is_layer, v_is_whole h ks, v_is_whole h ky, v_is_word h kw, ww, ws, wy, layerD, c1, c2, c3, c4, m1, vt]
                | _ => simp [wholeD] at wy
              | _ => simp [wholeD] at ws
            · rw [no (by simp [wy])]
              simp [m_is_layer, b_is_layer, q1_is_layer, q2_is_layer, v_is_whole h ks, v_is_whole h ky, v_is_word h kw, ww, ws, wy]
          · rw [no (by simp [ws])]
            simp [m_is_layer, b_is_layer, q1_is_layer, q2_is_layer, v_is_whole h ks, v_is_word h kw, ww, ws]
        · rw [no (by simp [ww])]
          simp [m_is_layer, b_is_layer, q1_is_layer, q2_is_layer, v_is_word h kw, ww]
    · have h4' : ¬((xs.length : Int) = 4) := by omega
      rw [layer4 h4]
      simp [m_is_layer, b_is_layer, q1_is_layer, h4']
  | _ => simp [m_is_layer, b_is_layer, q1_is_layer, layerD]
end My
set_option Elab.async false
set_option linter.all false
set_option maxRecDepth 100000
set_option maxHeartbeats 4000000
namespace My
open PySem L2 Sim
@[simp] theorem at4_3 (a b c d : D) : atI [a, b, c, d] 3 = some d := rfl
theorem w_turn_turn (h : AH) (w ts : D) (i j p : Int) {x : D} (k : Fine x) :
    (∀ b e u, x = .tup [.int b, .int e, u] → turnD p (1440 * j) x = true → q5__law_is_layer [.v (.tup [w, .int i, .int j, ts]), .v (.int p), .v x] h = .nx [.v (.tup [w, .int i, .int j, ts]), .v (.int e), .v x] h) ∧
    (turnD p (1440 * j) x = false → q5__law_is_layer [.v (.tup [w, .int i, .int j, ts]), .v (.int p), .v x] h = .rt (.bl false) h) := by
  have m1 : ∀ j, CMul 1440 j ∨ CMulW 1440 j := fun j => mul_l (by omega) (by omega)
  have rw3 := w_is_row h k 3
  constructor
  · rintro b e u rfl t
    have t' := t
    simp [turnD] at t'
    cases k with
    | tup _ hl ha =>
      have kb := ha (.int b) (by simp)
      have ke := ha (.int e) (by simp)
      have ku := ha u (by simp)
      have wb : whole2 (.int b) p (1440 * j) = true := by simp [whole2]; omega
      have we : whole2 (.int e) (b + 1) (1440 * j) = true := by simp [whole2]; omega
      have r3 : rowD (.tup [.int b, .int e, u]) 3 = true := rfl
      rw [r3] at rw3
      simp [q5__law_is_layer, q3__law_is_layer, q4__law_is_layer, rw3, w_is_whole h kb, w_is_whole h ke, w_is_word h ku, wb, we, t'.1.1.1, m1]
  · intro t
    by_cases c3 : rowD x 3 = true
    · rw [c3] at rw3
      cases x with
      | tup xs =>
        simp [rowD] at c3
        have h3 : xs.length = 3 := by omega
        match xs, h3, k with
        | [a, b, u], _, k =>
          cases k with
          | tup _ hl ha =>
            have ka := ha a (by simp)
            have kb := ha b (by simp)
            have ku := ha u (by simp)
            by_cases wa : whole2 a p (1440 * j) = true
            · cases a with
              | int a =>
                by_cases wb : whole2 b (a + 1) (1440 * j) = true
                · cases b with
                  | int b =>
                    have wu : wordD u = false := by
                      cases q : wordD u with
                      | false => rfl
                      | true =>
                        simp [whole2] at wa wb
                        simp [turnD, q] at t
                        omega
                    simp [q5__law_is_layer, q3__law_is_layer, q4__law_is_layer, rw3, w_is_whole h ka, w_is_whole h kb, w_is_word h ku, wa, wb, wu, m1]
                  | _ => simp [whole2] at wb
                · simp [q5__law_is_layer, q3__law_is_layer, q4__law_is_layer, rw3, w_is_whole h ka, w_is_whole h kb, wa, wb, m1]
              | _ => simp [whole2] at wa
            · simp [q5__law_is_layer, q3__law_is_layer, rw3, w_is_whole h ka, wa, m1]
      | _ => simp [rowD] at c3
    · simp [q5__law_is_layer, q3__law_is_layer, rw3, c3]
theorem w_turns_loop (h : AH) (w ts : D) (i j : Int) : ∀ (xs : List D), (∀ x ∈ xs, Fine x) → ∀ (p : Int) (x2 : Slot), (goT (1440 * j) p xs = true → ∃ fr', forM (gNm 2) q5__law_is_layer xs [.v (.tup [w, .int i, .int j, ts]), .v (.int p), x2] h = .nx fr' h) ∧ (goT (1440 * j) p xs = false → forM (gNm 2) q5__law_is_layer xs [.v (.tup [w, .int i, .int j, ts]), .v (.int p), x2] h = .rt (.bl false) h)
  | [], _, p, x2 => ⟨fun _ => ⟨_, rfl⟩, fun e => by simp [goT] at e⟩
  | x :: xs, k, p, x2 => by
    have ih := w_turns_loop h w ts i j xs fun y hy => k y (List.mem_cons_of_mem _ hy)
    have st := w_turn_turn h w ts i j p (k x (List.mem_cons_self ..))
    rw [ev_forM_cons]
    rcases goT_cons (1440 * j) p x xs with ⟨b, e, u, rfl, tt, g⟩ | ⟨tt, g⟩
    · rw [g]
      have e' : q5__law_is_layer ([.v (.tup [w, .int i, .int j, ts]), .v (.int p), x2].set 2 (.v (.tup [.int b, .int e, u]))) h = .nx [.v (.tup [w, .int i, .int j, ts]), .v (.int e), .v (.tup [.int b, .int e, u])] h := st.1 b e u rfl tt
      simp only [ev_gNm, e']
      exact ih e _
    · rw [g]
      have e' : q5__law_is_layer ([.v (.tup [w, .int i, .int j, ts]), .v (.int p), x2].set 2 (.v x)) h = .rt (.bl false) h := st.2 tt
      simp only [ev_gNm, e']
      exact ⟨fun z => (by cases z), fun _ => trivial⟩
theorem w_is_layer {d : D} (h : AH) (k : Fine d) : m__law_is_layer [d] h = .ok (.bl (layerD d)) h := by
  have m1 : ∀ j, CMul 1440 j ∨ CMulW 1440 j := fun j => mul_l (by omega) (by omega)
  have row := w_is_row h k 4
  by_cases c4 : rowD d 4 = true
  · rw [c4] at row
    cases d with
    | tup xs =>
      simp [rowD] at c4
      have h4 : xs.length = 4 := by omega
      match xs, h4, k with
      | [w, s, y, ts], _, k =>
        cases k with
        | tup _ hl ha =>
          have kw := ha w (by simp)
          have ks := ha s (by simp)
          have ky := ha y (by simp)
          have kt := ha ts (by simp)
          by_cases ww : wordD w = true
          · by_cases wy : whole2 y 1 60 = true
            · cases y with
              | int j =>
                have s1 : q1__law_is_layer [.v (.tup [w, s, .int j, ts]), .u, .u] h = .nx [.v (.tup [w, s, .int j, ts]), .u, .u] h := by
                  simp [q1__law_is_layer, row, w_is_word h kw, w_is_whole h ky, ww, wy]
                simp [whole2] at wy
                by_cases ws : whole2 s 0 (1440 * j - 1) = true
                · cases s with
                  | int i =>
                    have ws' := ws
                    simp [whole2] at ws'
                    have ld : layerD (.tup [w, .int i, .int j, ts]) = turnsD (1440 * j) ts := by
                      have : i < 1440 * j := by omega
                      simp [layerD, ww, wy, ws', this]
                    rw [ld]
                    cases kt with
                    | tup xs hl2 ha2 =>
                      by_cases c12 : xs.length ≤ 12
                      · have c12' : ¬(12 < (xs.length : Int)) := by omega
                        have s2 : q2__law_is_layer [.v (.tup [w, .int i, .int j, .tup xs]), .u, .u] h = .nx [.v (.tup [w, .int i, .int j, .tup xs]), .u, .u] h := by
                          simp [q2__law_is_layer, w_is_whole h ks, ws, m1, c12']
                        have s3 : sAsg (eC (.int 0)) (gNm 1) [.v (.tup [w, .int i, .int j, .tup xs]), .u, .u] h = .nx [.v (.tup [w, .int i, .int j, .tup xs]), .v (.int 0), .u] h := by simp
                        have lp := w_turns_loop h w (.tup xs) i j xs ha2 0 .u
                        have jd : turnsD (1440 * j) (.tup xs) = goT (1440 * j) 0 xs := by
                          show (decide (xs.length ≤ 12) && goT (1440 * j) 0 xs) = _
                          rw [decide_eq_true c12, Bool.true_and]
                        rw [jd]
                        cases g : goT (1440 * j) 0 xs with
                        | true =>
                          obtain ⟨fr', e⟩ := lp.1 g
                          exact fn_rt ((sSeq_nx s1).trans ((sSeq_nx s2).trans ((sSeq_nx s3).trans ((sSeq_nx (ev_sFor_of (a := iOf (e2 ixD (eVar 0) (eC (.int 3)))) rfl e)).trans (by simp)))))
                        | false =>
                          exact fn_rt ((sSeq_nx s1).trans ((sSeq_nx s2).trans ((sSeq_nx s3).trans (sSeq_rt (ev_sFor_of (a := iOf (e2 ixD (eVar 0) (eC (.int 3)))) rfl (lp.2 g))))))
                      · have c12' : 12 < (xs.length : Int) := by omega
                        have s2 : q2__law_is_layer [.v (.tup [w, .int i, .int j, .tup xs]), .u, .u] h = .rt (.bl false) h := by
                          simp [q2__law_is_layer, w_is_whole h ks, ws, m1, c12']
                        have : turnsD (1440 * j) (.tup xs) = false := by simp [turnsD, c12]
                        rw [this]
                        exact fn_rt ((sSeq_nx s1).trans (sSeq_rt s2))
                    | _ =>
                      refine fn_rt ((sSeq_nx s1).trans (sSeq_rt ?_))
                      simp [q2__law_is_layer, w_is_whole h ks, ws, m1, turnsD]
                  | _ => simp [whole2] at ws
                · have ld : layerD (.tup [w, s, .int j, ts]) = false := by
                    cases s <;> first | rfl | skip
                    rename_i i
                    simp [whole2] at ws
                    simp [layerD]
                    intro _ _ _ a b
                    omega
                  rw [ld]
                  refine fn_rt ((sSeq_nx s1).trans (sSeq_rt ?_))
                  simp [q2__law_is_layer, w_is_whole h ks, ws, m1]
              | _ => simp [whole2] at wy
            · have ld : layerD (.tup [w, s, y, ts]) = false := by
                cases s <;> first | rfl | skip
                cases y <;> first | rfl | skip
                simp [whole2] at wy
                simp [layerD]
                intro _ a b
                omega
              rw [ld]
              refine fn_rt (sSeq_rt ?_)
              simp [q1__law_is_layer, row, w_is_word h kw, w_is_whole h ky, ww, wy]
          · have ld : layerD (.tup [w, s, y, ts]) = false := by
              cases s <;> first | rfl | skip
              cases y <;> first | rfl | skip
              simp [layerD, ww]
            rw [ld]
            refine fn_rt (sSeq_rt ?_)
            simp [q1__law_is_layer, row, w_is_word h kw, ww]
    | _ => simp [rowD] at c4
  · have ld : layerD d = false := by
      unfold layerD
      split
      · exact absurd rfl c4
      · rfl
    rw [ld]
    refine fn_rt (sSeq_rt ?_)
    simp [q1__law_is_layer, row, c4]
end My
set_option Elab.async false
set_option linter.all false
set_option maxRecDepth 100000
set_option maxHeartbeats 4000000
namespace My
open PySem L2 Sim
theorem comp_tup {src me : ME} {s : Nat} {fr : Fr} {h : AH} {xs : List D} (f : D → D) (es : src fr h = .ok (.tup xs) h) (hm : ∀ x ∈ xs, me ((fr.set s .u).set s (.v x)) h = .ok (f x) h) (hl : xs.length ≤ 1000) :
    eF (fLc (iOf src) (gNm s) (tYesM) me [s]) fr h = .ok (.lst (xs.map f)) h := by
  have sz := sizeL
  have e := lc_pure (g := gNm s) (t := tYesM) (me := me) (fr0 := fr.set s .u) f xs [] h (fun d hd => ⟨_, rfl, rfl, hm d hd⟩) (by simp; omega)
  simp only [List.nil_append] at e
  rw [ev_eF, ev_fLc, ev_iOf, es, bind_ok]
  show (((lcLoop (gNm s) tYesM me (fr.set s .u) xs [] h).bind fun acc h2 => Out.ok (Cell.lst acc) h2).bind fun c h1 => Out.ofOpt (valC c) h1) = _
  rw [e]; rfl
theorem all_tup {src me : ME} {s : Nat} {fr : Fr} {h : AH} {xs : List D} (p : D → Bool) (es : src fr h = .ok (.tup xs) h) (hm : ∀ x ∈ xs, me ((fr.set s .u).set s (.v x)) h = .ok (.bl (p x)) h) (hl : xs.length ≤ 1000) :
    eFn allD (aCons (eF (fLc (iOf src) (gNm s) (tYesM) me [s])) (aNil)) fr h = .ok (.bl (xs.all p)) h := by
  rw [ev_eFn, aCons_ok (comp_tup (fun x => .bl (p x)) es hm hl) rfl, bind_ok, ev_all]
  have a1 : ((xs.map fun x => D.bl (p x)).all fun x => (blD x).isSome) = true := by simp [blD]
  have a2 : ((xs.map fun x => D.bl (p x)).all fun x => (blD x).getD false) = xs.all p := by simp [List.all_map, Function.comp_def, blD]
  rw [a1, a2]; rfl
def wordOf : D → Str
  | .tup (.str w :: _) => w
  | _ => ⟨#[]⟩
def flagW (ls : List D) : Bool := (dist (ls.map wordOf)).length == ls.length
def bookD : D → Bool
  | .tup [j, .tup ls, .tup cs] => jumpsD j && decide (ls.length ≤ 4) && ls.all layerD && flagW ls && decide (cs.length ≤ 24) && cs.all changeD
  | _ => false
theorem layer_word {x : D} (h : layerD x = true) (k : AH) : ixD k x (.int 0) = some (.str (wordOf x)) := by
  unfold layerD at h
  split at h
  · rename_i w s dy ts
    cases w <;> first | rfl | (simp [wordD] at h)
  · cases h
theorem strs_words (ls : List D) : toStrs (ls.map fun x => D.str (wordOf x)) = some (ls.map wordOf) := by
  have := toStrs_map (ls.map wordOf)
  rw [List.map_map] at this
  exact this
/-- the cases of a thing that may be a book -/
theorem book_cases (d : D) (k : Fine d) : (∃ j l c, d = .tup [j, l, c] ∧ Fine j ∧ Fine l ∧ Fine c) ∨ (rowD d 3 = false ∧ bookD d = false ∧ ∀ xs, d = .tup xs → xs.length ≠ 3) := by
  by_cases c : rowD d 3 = true
  · cases d with
    | tup xs =>
      simp [rowD] at c
      have h3 : xs.length = 3 := by omega
      match xs, h3, k with
      | [j, l, c], _, k =>
        cases k with
        | tup _ hl ha => exact .inl ⟨j, l, c, rfl, ha j (by simp), ha l (by simp), ha c (by simp)⟩
    | _ => simp [rowD] at c
  · refine .inr ⟨by simpa using c, ?_, fun xs e h3 => c (by rw [e]; simp [rowD]; omega)⟩
    unfold bookD
    split
    · exact absurd rfl c
    · rfl
theorem v_is_book {d : D} (h : AH) (k : Fine d) : m_is_book [d] h = .ok (.bl (bookD d)) h := by
  rcases book_cases d k with ⟨j, l, c, rfl, kj, kl, kc⟩ | ⟨r3, b0, n3⟩
  · by_cases cj : jumpsD j = true
    · have s1 : q1_is_book [.v (.tup [j, l, c]), .u, .u, .u, .u] h = .nx [.v (.tup [j, l, c]), .u, .u, .u, .u] h := by
        simp [q1_is_book, v_are_jumps h kj, cj]
      have s2 : sPar 1 2 (aCons (e2 ixD (eVar 0) (eC (.int 1))) (aCons (e2 ixD (eVar 0) (eC (.int 2))) (aNil))) [.v (.tup [j, l, c]), .u, .u, .u, .u] h = .nx [.v (.tup [j, l, c]), .v l, .v c, .u, .u] h := by
        simp
      have pre : ∀ o, (sSeq q2_is_book (sSeq q3_is_book r8_is_book)) [.v (.tup [j, l, c]), .v l, .v c, .u, .u] h = .rt o h → m_is_book [.tup [j, l, c]] h = .ok o h := fun o e => fn_rt ((sSeq_nx s1).trans ((sSeq_nx s2).trans e))
      cases kl with
      | tup ls hll hla =>
        by_cases c4 : ls.length ≤ 4
        · have c4' : ¬(4 < (ls.length : Int)) := by omega
          have s3 : q2_is_book [.v (.tup [j, .tup ls, c]), .v (.tup ls), .v c, .u, .u] h = .nx [.v (.tup [j, .tup ls, c]), .v (.tup ls), .v c, .u, .u] h := by simp [q2_is_book, c4']
          cases kc with
          | tup cs hcl hca =>
            by_cases c24 : cs.length ≤ 24
            · have c24' : ¬(24 < (cs.length : Int)) := by omega
              have s4 : q3_is_book [.v (.tup [j, .tup ls, .tup cs]), .v (.tup ls), .v (.tup cs), .u, .u] h = .nx [.v (.tup [j, .tup ls, .tup cs]), .v (.tup ls), .v (.tup cs), .u, .u] h := by simp [q3_is_book, c24']
              have al := all_tup (src := eVar 1) (me := x4_is_book) (s := 3) (fr := [.v (.tup [j, .tup ls, .tup cs]), .v (.tup ls), .v (.tup cs), .u, .u]) (h := h) layerD rfl (fun x hx => by simp [x4_is_book, v_is_layer h (hla x hx)]) hll
              have ac := all_tup (src := eVar 2) (me := x5_is_book) (s := 4) (fr := [.v (.tup [j, .tup ls, .tup cs]), .v (.tup ls), .v (.tup cs), .u, .u]) (h := h) changeD rfl (fun x hx => by simp [x5_is_book, v_is_change h (hca x hx)]) hcl
              by_cases cl : ls.all layerD = true
              · by_cases cc : cs.all changeD = true
                · rw [cl] at al
                  rw [cc] at ac
                  have s6 : q6_is_book [.v (.tup [j, .tup ls, .tup cs]), .v (.tup ls), .v (.tup cs), .u, .u] h = .nx [.v (.tup [j, .tup ls, .tup cs]), .v (.tup ls), .v (.tup cs), .u, .u] h := by
                    simp [q6_is_book, al, ac, -ev_eFn]
                  have cw := comp_tup (src := eVar 1) (me := x7_is_book) (s := 3) (fr := [.v (.tup [j, .tup ls, .tup cs]), .v (.tup ls), .v (.tup cs), .u, .u]) (h := h) (fun x => .str (wordOf x)) rfl (fun x hx => by
                    have := layer_word (List.all_eq_true.mp cl x hx) h
                    simp [x7_is_book, this]) hll
                  have ln : (ls.map wordOf).length ≤ 4000 := by rw [List.length_map]; omega
                  have el : lenSetM (eF (fLc (iOf (eVar 1)) (gNm 3) (tYesM) (x7_is_book) [3])) [.v (.tup [j, .tup ls, .tup cs]), .v (.tup ls), .v (.tup cs), .u, .u] h = .ok (.int (dist (ls.map wordOf)).length) h := by
                    rw [ev_lenSetM, cw, bind_ok]
                    show (match toStrs (ls.map fun x => D.str (wordOf x)) with | some ns => if ns.length ≤ 4000 then Out.ok (D.int (dist ns).length) h else .bad | none => .bad) = _
                    rw [strs_words]
                    exact if_pos ln
                  rw [pre (.bl (flagW ls)) ((sSeq_nx s3).trans ((sSeq_nx s4).trans ((sSeq_nx s6).trans (by
                    rw [ev_sRet, e2_ok el (show (eFn lenD (aCons (eVar 1) aNil)) [.v (.tup [j, .tup ls, .tup cs]), .v (.tup ls), .v (.tup cs), .u, .u] h = .ok (D.int ls.length) h by simp) (ev_eqD_int h _ _)]
                    show SO.rt (D.bl (((dist (ls.map wordOf)).length : Int) == (ls.length : Int))) h = SO.rt (D.bl ((dist (ls.map wordOf)).length == ls.length)) h
                    congr 2
                    rw [Bool.eq_iff_iff]; simp; omega))))]
                  simp only [bookD, cj, cl, cc, decide_eq_true c4, decide_eq_true c24, Bool.true_and, Bool.and_true]
                · have cc' : cs.all changeD = false := by simpa using cc
                  rw [cl] at al
                  rw [cc'] at ac
                  have s6 : q6_is_book [.v (.tup [j, .tup ls, .tup cs]), .v (.tup ls), .v (.tup cs), .u, .u] h = .rt (.bl false) h := by
                    simp [q6_is_book, al, ac, -ev_eFn]
                  rw [pre (.bl false) ((sSeq_nx s3).trans ((sSeq_nx s4).trans (sSeq_rt s6)))]
                  simp only [bookD, cc', Bool.and_false]
              · have cl' : ls.all layerD = false := by simpa using cl
                rw [cl'] at al
                have s6 : q6_is_book [.v (.tup [j, .tup ls, .tup cs]), .v (.tup ls), .v (.tup cs), .u, .u] h = .rt (.bl false) h := by
                  simp [q6_is_book, al, -ev_eFn]
                rw [pre (.bl false) ((sSeq_nx s3).trans ((sSeq_nx s4).trans (sSeq_rt s6)))]
                simp only [bookD, cl', Bool.and_false, Bool.false_and]
            · have c24' : 24 < (cs.length : Int) := by omega
              rw [pre (.bl false) ((sSeq_nx s3).trans (sSeq_rt (by simp [q3_is_book, c24'])))]
              simp only [bookD, decide_eq_false c24, Bool.and_false, Bool.false_and]
          | _ =>
            rw [pre (.bl false) ((sSeq_nx s3).trans (sSeq_rt (by simp [q3_is_book])))]
            rfl
        · have c4' : 4 < (ls.length : Int) := by omega
          rw [pre (.bl false) (sSeq_rt (by simp [q2_is_book, c4']))]
          cases kc <;> first | rfl | simp only [bookD, decide_eq_false c4, Bool.and_false, Bool.false_and]
      | _ =>
        rw [pre (.bl false) (sSeq_rt (by simp [q2_is_book]))]
        rfl
    · have cj' : jumpsD j = false := by simpa using cj
      rw [show m_is_book [.tup [j, l, c]] h = .ok (.bl false) h from fn_rt (sSeq_rt (by simp [q1_is_book, v_are_jumps h kj, cj']))]
      cases kl <;> first | rfl | (cases kc <;> first | rfl | simp only [bookD, cj', Bool.false_and])
  · rw [b0]
    refine fn_rt (sSeq_rt ?_)
    cases k with
    | tup xs hl ha =>
      have : ¬((xs.length : Int) = 3) := by have := n3 xs rfl; omega
      simp [q1_is_book, this]
    | _ => simp [q1_is_book]
end My
set_option Elab.async false
set_option linter.all false
set_option maxRecDepth 100000
set_option maxHeartbeats 4000000
namespace My
open PySem L2 Sim
theorem w_is_book {d : D} (h : AH) (k : Fine d) : m__law_is_book [d] h = .ok (.bl (bookD d)) h := by
  have row := w_is_row h k 3
  rcases book_cases d k with ⟨j, l, c, rfl, kj, kl, kc⟩ | ⟨r3, b0, n3⟩
  · have rd : rowD (.tup [j, l, c]) 3 = true := rfl
    rw [rd] at row
    by_cases cj : jumpsD j = true
    · have s1 : q1__law_is_book [.v (.tup [j, l, c]), .u, .u] h = .nx [.v (.tup [j, l, c]), .u, .u] h := by
        simp [q1__law_is_book, row, w_are_jumps h kj, cj]
      have pre : ∀ o, (sSeq q3__law_is_book (sSeq (sAsg (eF (fLc (iOf (e2 ixD (eVar 0) (eC (.int 1)))) (gNm 1) (tYesM) (x4__law_is_book) [1])) (gNm 2)) (sSeq q5__law_is_book (sRet (eFn allD (aCons (eF (fLc (iOf (e2 ixD (eVar 0) (eC (.int 2)))) (gNm 1) (tYesM) (x6__law_is_book) [1])) (aNil))))))) [.v (.tup [j, l, c]), .u, .u] h = .rt o h → m__law_is_book [.tup [j, l, c]] h = .ok o h := fun o e => fn_rt ((sSeq_nx s1).trans e)
      cases kl with
      | tup ls hll hla =>
        have ix1 : Sim.e2 ixD (eVar 0) (eC (.int 1)) [.v (.tup [j, .tup ls, c]), .u, .u] h = .ok (.tup ls) h := rfl
        by_cases c4 : ls.length ≤ 4
        · have c4' : ¬(4 < (ls.length : Int)) := by omega
          have al := all_tup (src := Sim.e2 ixD (eVar 0) (eC (.int 1))) (me := x2__law_is_book) (s := 1) (fr := [.v (.tup [j, .tup ls, c]), .u, .u]) (h := h) layerD ix1 (fun x hx => by simp [x2__law_is_book, w_is_layer h (hla x hx)]) hll
          by_cases cl : ls.all layerD = true
          · rw [cl] at al
            have s3 : q3__law_is_book [.v (.tup [j, .tup ls, c]), .u, .u] h = .nx [.v (.tup [j, .tup ls, c]), .u, .u] h := by
              unfold q3__law_is_book
              have t1 : t2 (gtD) (eFn lenD (aCons (Sim.e2 ixD (eVar 0) (eC (.int 1))) (aNil))) (eC (.int 4)) [.v (.tup [j, .tup ls, c]), .u, .u] h = .ok false h := by simp [c4']
              have t0 : tNotM (tTru (isiM "tuple" (Sim.e2 ixD (eVar 0) (eC (.int 1))))) [.v (.tup [j, .tup ls, c]), .u, .u] h = .ok false h := by simp
              rw [ev_sIf, ev_tOrM, t0, bind_ok, if_neg Bool.false_ne_true, ev_tOrM, t1, bind_ok, if_neg Bool.false_ne_true, ev_tNotM, ev_tTru, al]
              rfl
            have cw := comp_tup (src := Sim.e2 ixD (eVar 0) (eC (.int 1))) (me := x4__law_is_book) (s := 1) (fr := [.v (.tup [j, .tup ls, c]), .u, .u]) (h := h) (fun x => .str (wordOf x)) ix1 (fun x hx => by
              have := layer_word (List.all_eq_true.mp cl x hx) h
              simp [x4__law_is_book, this]) hll
            have s4 : sAsg (eF (fLc (iOf (Sim.e2 ixD (eVar 0) (eC (.int 1)))) (gNm 1) (tYesM) (x4__law_is_book) [1])) (gNm 2) [.v (.tup [j, .tup ls, c]), .u, .u] h = .nx [.v (.tup [j, .tup ls, c]), .u, .v (.lst (ls.map fun x => .str (wordOf x)))] h := by
              rw [ev_sAsg, cw]; rfl
            have ln : (ls.map wordOf).length ≤ 4000 := by rw [List.length_map]; omega
            have el : lenSetM (eVar 2) [.v (.tup [j, .tup ls, c]), .u, .v (.lst (ls.map fun x => .str (wordOf x)))] h = .ok (.int (dist (ls.map wordOf)).length) h := by
              rw [ev_lenSetM]
              show (match toStrs (ls.map fun x => D.str (wordOf x)) with | some ns => if ns.length ≤ 4000 then Out.ok (D.int (dist ns).length) h else .bad | none => .bad) = _
              rw [strs_words]
              exact if_pos ln
            have en : eFn lenD (aCons (eVar 2) aNil) [.v (.tup [j, .tup ls, c]), .u, .v (.lst (ls.map fun x => .str (wordOf x)))] h = .ok (D.int ls.length) h := by simp
            have tn : t2 (neD) (lenSetM (eVar 2)) (eFn lenD (aCons (eVar 2) (aNil))) [.v (.tup [j, .tup ls, c]), .u, .v (.lst (ls.map fun x => .str (wordOf x)))] h = .ok (!flagW ls) h := by
              rw [ev_t2, e2_ok el en (ev_neD_int h _ _), bind_ok]
              show Out.ok (!(((dist (ls.map wordOf)).length : Int) == (ls.length : Int))) h = Out.ok (!((dist (ls.map wordOf)).length == ls.length)) h
              congr 2
              rw [Bool.eq_iff_iff]; simp; omega
            by_cases cf : flagW ls = true
            · rw [cf] at tn
              cases kc with
              | tup cs hcl hca =>
                by_cases c24 : cs.length ≤ 24
                · have c24' : ¬(24 < (cs.length : Int)) := by omega
                  have s5 : q5__law_is_book [.v (.tup [j, .tup ls, .tup cs]), .u, .v (.lst (ls.map fun x => .str (wordOf x)))] h = .nx [.v (.tup [j, .tup ls, .tup cs]), .u, .v (.lst (ls.map fun x => .str (wordOf x)))] h := by
                    unfold q5__law_is_book
                    rw [ev_sIf, ev_tOrM, tn, bind_ok]
                    simp [c24']
                  have ac := all_tup (src := Sim.e2 ixD (eVar 0) (eC (.int 2))) (me := x6__law_is_book) (s := 1) (fr := [.v (.tup [j, .tup ls, .tup cs]), .u, .v (.lst (ls.map fun x => .str (wordOf x)))]) (h := h) changeD rfl (fun x hx => by simp [x6__law_is_book, w_is_change h (hca x hx)]) hcl
                  rw [pre (.bl (cs.all changeD)) ((sSeq_nx s3).trans ((sSeq_nx s4).trans ((sSeq_nx s5).trans (by rw [ev_sRet, ac]; rfl))))]
                  simp only [bookD, cj, cl, cf, decide_eq_true c4, decide_eq_true c24, Bool.true_and, Bool.and_true]
                · have c24' : 24 < (cs.length : Int) := by omega
                  have s5 : q5__law_is_book [.v (.tup [j, .tup ls, .tup cs]), .u, .v (.lst (ls.map fun x => .str (wordOf x)))] h = .rt (.bl false) h := by
                    unfold q5__law_is_book
                    rw [ev_sIf, ev_tOrM, tn, bind_ok]
                    simp [c24']
                  rw [pre (.bl false) ((sSeq_nx s3).trans ((sSeq_nx s4).trans (sSeq_rt s5)))]
                  simp only [bookD, decide_eq_false c24, Bool.and_false, Bool.false_and]
              | _ =>
                rw [pre (.bl false) ((sSeq_nx s3).trans ((sSeq_nx s4).trans (sSeq_rt (by
                  unfold q5__law_is_book
                  rw [ev_sIf, ev_tOrM, tn, bind_ok]
                  simp))))]
                rfl
            · have cf' : flagW ls = false := by simpa using cf
              rw [cf'] at tn
              rw [pre (.bl false) ((sSeq_nx s3).trans ((sSeq_nx s4).trans (sSeq_rt (by
                unfold q5__law_is_book
                rw [ev_sIf, ev_tOrM, tn, bind_ok]
                rfl))))]
              cases kc <;> first | rfl | simp only [bookD, cf', Bool.and_false, Bool.false_and]
          · have cl' : ls.all layerD = false := by simpa using cl
            rw [cl'] at al
            have s3 : q3__law_is_book [.v (.tup [j, .tup ls, c]), .u, .u] h = .rt (.bl false) h := by
              unfold q3__law_is_book
              have t1 : t2 (gtD) (eFn lenD (aCons (Sim.e2 ixD (eVar 0) (eC (.int 1))) (aNil))) (eC (.int 4)) [.v (.tup [j, .tup ls, c]), .u, .u] h = .ok false h := by simp [c4']
              have t0 : tNotM (tTru (isiM "tuple" (Sim.e2 ixD (eVar 0) (eC (.int 1))))) [.v (.tup [j, .tup ls, c]), .u, .u] h = .ok false h := by simp
              rw [ev_sIf, ev_tOrM, t0, bind_ok, if_neg Bool.false_ne_true, ev_tOrM, t1, bind_ok, if_neg Bool.false_ne_true, ev_tNotM, ev_tTru, al]
              rfl
            rw [pre (.bl false) (sSeq_rt s3)]
            cases kc <;> first | rfl | simp only [bookD, cl', Bool.and_false, Bool.false_and]
        · have c4' : 4 < (ls.length : Int) := by omega
          rw [pre (.bl false) (sSeq_rt (by simp [q3__law_is_book, c4']))]
          cases kc <;> first | rfl | simp only [bookD, decide_eq_false c4, Bool.and_false, Bool.false_and]
      | _ =>
        rw [pre (.bl false) (sSeq_rt (by simp [q3__law_is_book]))]
        rfl
    · have cj' : jumpsD j = false := by simpa using cj
      rw [show m__law_is_book [.tup [j, l, c]] h = .ok (.bl false) h from fn_rt (sSeq_rt (by simp [q1__law_is_book, row, w_are_jumps h kj, cj']))]
      cases kl <;> first | rfl | (cases kc <;> first | rfl | simp only [bookD, cj', Bool.false_and])
  · rw [b0]
    rw [r3] at row
    refine fn_rt (sSeq_rt ?_)
    simp [q1__law_is_book, row]
end My
set_option Elab.async false
set_option linter.all false
set_option maxRecDepth 100000
set_option maxHeartbeats 4000000
namespace My
open PySem L2 Sim
/-- the hand is laid -/
theorem v_hand (ns : List Int) (hl : ns.length ≤ 63) (k : Nat) (hk : k ≤ 63) (h : AH) : ∃ h', m__law_hand [.fro (ns.map .int), .int k] h = .ok (.ref h.length) h' ∧ Hand h' h.length 0 := by
  have fin : ∀ c : Int, ∃ h', q1__law_hand [.v (.fro (ns.map .int)), .v (.int k), .v (.int 0)] h = .nx [.v (.fro (ns.map .int)), .v (.int k), .v (.int c)] h → m__law_hand [.fro (ns.map .int), .int k] h = .ok (.ref h.length) h' ∧ Hand h' h.length 0 := fun c => by
    have m1 : CMul 7919 (k : Int) ∨ CMulW 7919 (k : Int) := mul_l (by omega) (by omega)
    have m2 : ∀ b : Bool, CMul c (if b then 1 else 0) ∨ CMulW c (if b then 1 else 0) := fun b => mul_r (by split <;> omega) (by split <;> omega)
    have m3 : CMul c 1 ∨ CMulW c 1 := mul_r (by omega) (by omega)
    have m4 : CMul c 0 ∨ CMulW c 0 := mul_r (by omega) (by omega)
    by_cases hc : (1000000000000000000 : Int) ≤ c
    · refine ⟨h ++ [.lst [.int c, .int (c % 2305843009213693951 + 7919 * k + 3), .int 0]], fun q => ⟨?_, c, _, 0, List.getElem?_concat_length, by omega, by omega, by omega, by omega, by omega⟩⟩
      simp [m__law_hand, b__law_hand, q, m1, m2, m3, hc, sizeL]
    · refine ⟨h ++ [.lst [.int 0, .int (c % 2305843009213693951 + 7919 * k + 3), .int 0]], fun q => ⟨?_, 0, _, 0, List.getElem?_concat_length, by omega, by omega, by omega, by omega, by omega⟩⟩
      simp [m__law_hand, b__law_hand, q, m1, m2, m4, hc, sizeL]
  by_cases hs : k < ns.length
  · obtain ⟨h', e⟩ := fin ns[k]
    have a : atI (ns.map D.int) (k : Int) = some (D.int ns[k]) := atI_nat (by simp [hs])
    exact ⟨h', e (by simp [q1__law_hand, hs, a])⟩
  · obtain ⟨h', e⟩ := fin 0
    exact ⟨h', e (by simp [q1__law_hand]; omega)⟩
theorem w_same (h : AH) (b : Bool) : m__law_same [.bl b, .bl b] h = .ok (.bl true) h := by
  simp [m__law_same, b__law_same]
theorem v_q6 (h : AH) (s0 s1 s2 s3 s5 s6 : Slot) {x : D} (k : Fine x) : ∃ y5, q6_law [s0, s1, s2, s3, .v x, s5, s6] h = .nx [s0, s1, s2, s3, .v x, y5, s6] h := by
  have g1 : q1_law [s0, s1, s2, s3, .v x, s5, s6] h = .nx [s0, s1, s2, s3, .v x, s5, s6] h := by
    simp [q1_law, v_is_book h k, w_is_book h k, w_same]
  by_cases ct : ∃ xs, x = .tup xs ∧ 1 < xs.length
  · obtain ⟨xs, rfl, l1⟩ := ct
    cases k with
    | tup _ hl ha =>
      obtain ⟨a, b, r, rfl⟩ : ∃ a b r, xs = a :: b :: r := by
        match xs, l1 with
        | a :: b :: r, _ => exact ⟨a, b, r, rfl⟩
      have ka := ha a (by simp)
      have kb := ha b (by simp)
      have l1' : 1 < (((a :: b :: r).length : Nat) : Int) := by simp; omega
      have i0 : atI (a :: b :: r) 0 = some a := by
        have := atI_nat (xs := a :: b :: r) (j := 0) (v := a) rfl
        exact this
      have i1 : atI (a :: b :: r) 1 = some b := by
        have := atI_nat (xs := a :: b :: r) (j := 1) (v := b) rfl
        exact this
      have g2 : q2_law [s0, s1, s2, s3, .v (.tup (a :: b :: r)), s5, s6] h = .nx [s0, s1, s2, s3, .v (.tup (a :: b :: r)), s5, s6] h := by
        simp [q2_law, i0, v_are_jumps h ka, w_are_jumps h ka, w_same]
      obtain ⟨ys, fy, ly, g3⟩ : ∃ ys : List D, (∀ y ∈ ys, Fine y) ∧ ys.length ≤ 1000 ∧ sAsg (eIf (tTru (isiM "tuple" (e2 ixD (eVar 4) (eC (.int 1))))) (eSlice (eF (fFn listD (aCons (e2 ixD (eVar 4) (eC (.int 1))) (aNil)))) (oNone) (oSome (eC (.int 5)))) (eF (fLst (aCons (e2 ixD (eVar 4) (eC (.int 1))) (aNil))))) (gNm 5) [s0, s1, s2, s3, .v (.tup (a :: b :: r)), s5, s6] h = .nx [s0, s1, s2, s3, .v (.tup (a :: b :: r)), .v (.lst ys), s6] h := by
        have z1 : 1 ≤ sizeLine := by rw [sizeL]; omega
        have one : Fine b → ∀ y ∈ [b], Fine y := fun kb y hy => by rw [List.mem_singleton.mp hy]; exact kb
        cases kb with
        | tup zs hz az => exact ⟨cutD zs none (some 5), fun y hy => az y (cutD_mem hy), Nat.le_trans (cutD_len _ _ _) hz, by simp [i1]⟩
        | non => exact ⟨[_], one .non, by simp, by simp [i1, z1]⟩
        | bl q => exact ⟨[_], one (.bl q), by simp, by simp [i1, z1]⟩
        | int q => exact ⟨[_], one (.int q), by simp, by simp [i1, z1]⟩
        | str q l => exact ⟨[_], one (.str q l), by simp, by simp [i1, z1]⟩
        | lst q l z => exact ⟨[_], one (.lst q l z), by simp, by simp [i1, z1]⟩
        | dic => exact ⟨[_], one .dic, by simp, by simp [i1, z1]⟩
      have g4 : q4_law [s0, s1, s2, s3, .v (.tup (a :: b :: r)), .v (.lst ys), s6] h = .nx [s0, s1, s2, s3, .v (.tup (a :: b :: r)), .v (.lst ys), s6] h := by
        have sz := sizeL
        have e := lc_pure (g := gNm 6) (t := tYesM) (me := x3_law) (fr0 := [s0, s1, s2, s3, .v (.tup (a :: b :: r)), .v (.lst ys), .u]) (fun _ => .bl true) ys [] h (fun d hd => ⟨_, rfl, rfl, by simp [x3_law, v_is_layer h (fy d hd), w_is_layer h (fy d hd), w_same]⟩) (by simp; omega)
        simp only [List.nil_append] at e
        have al : allD h [.lst (ys.map fun _ => D.bl true)] = some (.bl true) := by
          rw [ev_all]
          have a1 : ((ys.map fun _ => D.bl true).all fun x => (blD x).isSome) = true := by simp [blD]
          have a2 : ((ys.map fun _ => D.bl true).all fun x => (blD x).getD false) = true := by simp [blD]
          rw [a1, a2]; rfl
        have ef : eF (fLc (iOf (eVar 5)) (gNm 6) (tYesM) (x3_law) [6]) [s0, s1, s2, s3, .v (.tup (a :: b :: r)), .v (.lst ys), s6] h = .ok (.lst (ys.map fun _ => D.bl true)) h := by
          rw [ev_eF, ev_fLc]
          show (((lcLoop (gNm 6) tYesM x3_law [s0, s1, s2, s3, .v (.tup (a :: b :: r)), .v (.lst ys), .u] ys [] h).bind fun acc h2 => Out.ok (Cell.lst acc) h2).bind fun c h1 => Out.ofOpt (valC c) h1) = _
          rw [e]; rfl
        unfold q4_law
        rw [ev_sIf, ev_tNotM, ev_tTru, ev_eFn, aCons_ok ef rfl, bind_ok, al]
        rfl
      have g5 : q5_law [s0, s1, s2, s3, .v (.tup (a :: b :: r)), s5, s6] h = .nx [s0, s1, s2, s3, .v (.tup (a :: b :: r)), .v (.lst ys), s6] h := by
        unfold q5_law
        have t : tAndM (tTru (isiM "tuple" (eVar 4))) (t2 (gtD) (eFn lenD (aCons (eVar 4) (aNil))) (eC (.int 1))) [s0, s1, s2, s3, .v (.tup (a :: b :: r)), s5, s6] h = .ok true h := by
          simp only [ev_tAndM]
          have t1 : tTru (isiM "tuple" (eVar 4)) [s0, s1, s2, s3, .v (.tup (a :: b :: r)), s5, s6] h = .ok true h := by simp
          have t2' : t2 (gtD) (eFn lenD (aCons (eVar 4) (aNil))) (eC (.int 1)) [s0, s1, s2, s3, .v (.tup (a :: b :: r)), s5, s6] h = .ok true h := by
            simp; omega
          rw [t1, bind_ok, if_pos rfl, t2']
        rw [ev_sIf, t]
        exact (sSeq_nx g2).trans ((sSeq_nx g3).trans g4)
      exact ⟨_, (sSeq_nx g1).trans g5⟩
  · have g5 : q5_law [s0, s1, s2, s3, .v x, s5, s6] h = .nx [s0, s1, s2, s3, .v x, s5, s6] h := by
      cases k with
      | tup xs hl ha =>
        have : ¬(1 < (xs.length : Int)) := fun c => ct ⟨xs, rfl, by omega⟩
        simp [q5_law, this]
      | _ => simp [q5_law]
    exact ⟨_, (sSeq_nx g1).trans g5⟩
theorem v_q7 (ns : List Int) (hl : ns.length ≤ 63) (k : Nat) (hk : k ≤ 63) (h : AH) (s2 s3 s4 s5 s6 : Slot) :
    ∃ t2 t3 t4 t5 t6 h', q7_law [.v (.fro (ns.map .int)), .v (.int k), s2, s3, s4, s5, s6] h = .nx [.v (.fro (ns.map .int)), .v (.int k), t2, t3, t4, t5, t6] h' := by
  have z2 : 2 ≤ sizeLine := by rw [sizeL]; omega
  obtain ⟨h1, f1, H1⟩ := v_hand ns hl k hk h
  obtain ⟨t, h2, f2, G, H2⟩ := v_good H1 (by omega)
  obtain ⟨x, h3, f3, fx, H3⟩ := v_spoilt 6 5 4 t h2 h.length 9000 (by omega) (by omega) (by omega) (by simpa using H2) (by omega) G
  have f3' : m__law_spoilt 6 [.ref h.length, t, .int 4] h2 = .ok x h3 := f3
  obtain ⟨y5, g1⟩ := v_q6 h3 (.v (.fro (ns.map .int))) (.v (.int k)) (.v (.ref h.length)) (.v t) s5 s6 G.fine
  obtain ⟨z5, g2⟩ := v_q6 h3 (.v (.fro (ns.map .int))) (.v (.int k)) (.v (.ref h.length)) (.v t) y5 s6 fx
  have a1 : sAsg (eCall m__law_hand 2 (aCons (eVar 0) (aCons (eVar 1) (aNil)))) (gNm 2) [.v (.fro (ns.map .int)), .v (.int k), s2, s3, s4, s5, s6] h = .nx [.v (.fro (ns.map .int)), .v (.int k), .v (.ref h.length), s3, s4, s5, s6] h1 := by simp [f1]
  have a2 : sAsg (eCall m__law_good 1 (aCons (eVar 2) (aNil))) (gNm 3) [.v (.fro (ns.map .int)), .v (.int k), .v (.ref h.length), s3, s4, s5, s6] h1 = .nx [.v (.fro (ns.map .int)), .v (.int k), .v (.ref h.length), .v t, s4, s5, s6] h2 := by simp [f2]
  have a3 : iOf (eF (fLst (aCons (eVar 3) (aCons (eCall (m__law_spoilt 6) 3 (aCons (eVar 2) (aCons (eVar 3) (aCons (eC (.int 4)) (aNil))))) (aNil))))) [.v (.fro (ns.map .int)), .v (.int k), .v (.ref h.length), .v t, s4, s5, s6] h2 = .ok [t, x] h3 := by
    simp [f3', z2]
  have lp : forM (gNm 4) q6_law [t, x] [.v (.fro (ns.map .int)), .v (.int k), .v (.ref h.length), .v t, s4, s5, s6] h3 = .nx [.v (.fro (ns.map .int)), .v (.int k), .v (.ref h.length), .v t, .v x, z5, s6] h3 := by
    rw [ev_forM_cons]
    have e1 : q6_law ([.v (.fro (ns.map .int)), .v (.int k), .v (.ref h.length), .v t, s4, s5, s6].set 4 (.v t)) h3 = .nx [.v (.fro (ns.map .int)), .v (.int k), .v (.ref h.length), .v t, .v t, y5, s6] h3 := g1
    simp only [ev_gNm, e1]
    rw [ev_forM_cons]
    have e2' : q6_law ([.v (.fro (ns.map .int)), .v (.int k), .v (.ref h.length), .v t, .v t, y5, s6].set 4 (.v x)) h3 = .nx [.v (.fro (ns.map .int)), .v (.int k), .v (.ref h.length), .v t, .v x, z5, s6] h3 := g2
    simp only [ev_gNm, e2', ev_forM_nil]
  exact ⟨_, _, _, _, _, h3, (sSeq_nx a1).trans ((sSeq_nx a2).trans (ev_sFor_of a3 lp))⟩
theorem law_true : ∀ ns : List Int, ns.length ≤ 63 → ∃ h, fnM N_law.length b_law [.fro (ns.map .int)] [] = .ok (.bl true) h := by
  intro ns hl
  have hm : ∃ m : Nat, m ≤ 60 ∧ (if (if (ns.length : Int) < 10 then (ns.length : Int) else 10) > 2 then (if (ns.length : Int) < 10 then (ns.length : Int) else 10) else 2) = (m : Int) := by
    by_cases c : (ns.length : Int) < 10
    · by_cases c2 : (ns.length : Int) > 2
      · exact ⟨ns.length, by omega, by rw [if_pos c, if_pos c2]⟩
      · exact ⟨2, by omega, by rw [if_pos c, if_neg c2]; rfl⟩
    · exact ⟨10, by omega, by rw [if_neg c, if_pos (by omega)]; rfl⟩
  obtain ⟨m, hm1, hm2⟩ := hm
  obtain ⟨fr', h', e, _⟩ := forM_inv (g := gNm 1) (b := q7_law)
    (fun j fr h => ∃ t1 t2 t3 t4 t5 t6, fr = [.v (.fro (ns.map .int)), t1, t2, t3, t4, t5, t6])
    (rangeD 0 m) 0 [.v (.fro (ns.map .int)), .u, .u, .u, .u, .u, .u] [] ⟨_, _, _, _, _, _, rfl⟩ fun i d fr h hd ⟨t1, t2, t3, t4, t5, t6, efr⟩ => by
      obtain ⟨hi, rfl⟩ := range_at hd
      subst efr
      obtain ⟨u2, u3, u4, u5, u6, h2, e⟩ := v_q7 ns hl i (by omega) h t2 t3 t4 t5 t6
      exact ⟨_, _, h2, rfl, e, _, _, _, _, _, _, rfl⟩
  refine ⟨h', ?_⟩
  have r1 : (eFn max2D (aCons (eC (.int 2)) (aCons (eFn min2D (aCons (eC (.int 10)) (aCons (eFn lenD (aCons (eVar 0) (aNil))) (aNil)))) (aNil)))) [.v (.fro (ns.map .int)), .u, .u, .u, .u, .u, .u] [] = .ok (.int m) [] := by
    simp [hm2]
  have e0 := ev_sFor_of (range_nat r1 (rng_small (by omega))) e
  have e1 : fnM 7 b_law [.fro (ns.map .int)] [] = .ok (.bl true) h' := fn_rt ((sSeq_nx e0).trans rfl)
  exact e1
end My
set_option Elab.async false
set_option linter.all false
set_option maxRecDepth 100000
set_option maxHeartbeats 4000000
namespace My
open PySem L2 Sim
theorem all_mk {l : PySem.W.OpenLaw} {w : World} {K : PySem.W.Frag} {h : Heap} {mg : Str → Option Value} {fa f0 f1 f2 f3 f4 f5 f6 f7 f8 f9 f10 f11 f12 f13 f14 f15 f16 f17 f18 f19 f20 f21 f22 f23 f24 f25 f26 f27 f28 f29 f30 f31 f32 f33 f34 : Addr} (X : K.In h) (G : h.Ns mainGlobals mg) (hfa : mg "law" = some (.ref fa))
    {od0 an0 od1 an1 od2 an2 od3 an3 od4 an4 od5 an5 od6 an6 od7 an7 od8 an8 od9 an9 od10 an10 od11 an11 od12 an12 od13 an13 od14 an14 od15 an15 od16 an16 od17 an17 od18 an18 od19 an19 od20 an20 od21 an21 od22 an22 od23 an23 od24 an24 od25 an25 od26 an26 od27 an27 od28 an28 od29 an29 od30 an30 od31 an31 od32 an32 od33 an33 od34 an34 : Option Addr} {sl0 sl1 sl2 sl3 sl4 sl5 sl6 sl7 sl8 sl9 sl10 sl11 sl12 sl13 sl14 sl15 sl16 sl17 sl18 sl19 sl20 sl21 sl22 sl23 sl24 sl25 sl26 sl27 sl28 sl29 sl30 sl31 sl32 sl33 sl34 : Array (Option Value)} {oc0 kV0 dc0 pm0 cd0 ct0 oc1 kV1 dc1 pm1 cd1 ct1 oc2 kV2 dc2 pm2 cd2 ct2 oc3 kV3 dc3 pm3 cd3 ct3 oc4 kV4 dc4 pm4 cd4 ct4 oc5 kV5 dc5 pm5 cd5 ct5 oc6 kV6 dc6 pm6 cd6 ct6 oc7 kV7 dc7 pm7 cd7 ct7 oc8 kV8 dc8 pm8 cd8 ct8 oc9 kV9 dc9 pm9 cd9 ct9 oc10 kV10 dc10 pm10 cd10 ct10 oc11 kV11 dc11 pm11 cd11 ct11 oc12 kV12 dc12 pm12 cd12 ct12 oc13 kV13 dc13 pm13 cd13 ct13 oc14 kV14 dc14 pm14 cd14 ct14 oc15 kV15 dc15 pm15 cd15 ct15 oc16 kV16 dc16 pm16 cd16 ct16 oc17 kV17 dc17 pm17 cd17 ct17 oc18 kV18 dc18 pm18 cd18 ct18 oc19 kV19 dc19 pm19 cd19 ct19 oc20 kV20 dc20 pm20 cd20 ct20 oc21 kV21 dc21 pm21 cd21 ct21 oc22 kV22 dc22 pm22 cd22 ct22 oc23 kV23 dc23 pm23 cd23 ct23 oc24 kV24 dc24 pm24 cd24 ct24 oc25 kV25 dc25 pm25 cd25 ct25 oc26 kV26 dc26 pm26 cd26 ct26 oc27 kV27 dc27 pm27 cd27 ct27 oc28 kV28 dc28 pm28 cd28 ct28 oc29 kV29 dc29 pm29 cd29 ct29 oc30 kV30 dc30 pm30 cd30 ct30 oc31 kV31 dc31 pm31 cd31 ct31 oc32 kV32 dc32 pm32 cd32 ct32 oc33 kV33 dc33 pm33 cd33 ct33 oc34 kV34 dc34 pm34 cd34 ct34 : Value}
    (a0 : PySem.W.nsIn K mainGlobals "is_whole" = some (some (.ref f0))) (l0 : K.lookup f0 = some ⟨oc0, od0, .func (PySem.W.fnOf "is_whole" "is_whole" (defArgs s_is_whole) (defBody s_is_whole) (defScope s_is_whole) .none kV0 dc0 pm0 an0 cd0 ct0), sl0⟩) (c0 : PySem.W.codeIn K cd0 "is_whole" = true) (k0 : PySem.W.keepIn K (.ref f0) = true)
    (a1 : PySem.W.nsIn K mainGlobals "is_moment" = some (some (.ref f1))) (l1 : K.lookup f1 = some ⟨oc1, od1, .func (PySem.W.fnOf "is_moment" "is_moment" (defArgs s_is_moment) (defBody s_is_moment) (defScope s_is_moment) .none kV1 dc1 pm1 an1 cd1 ct1), sl1⟩) (c1 : PySem.W.codeIn K cd1 "is_moment" = true) (k1 : PySem.W.keepIn K (.ref f1) = true)
    (a2 : PySem.W.nsIn K mainGlobals "is_word" = some (some (.ref f2))) (l2 : K.lookup f2 = some ⟨oc2, od2, .func (PySem.W.fnOf "is_word" "is_word" (defArgs s_is_word) (defBody s_is_word) (defScope s_is_word) .none kV2 dc2 pm2 an2 cd2 ct2), sl2⟩) (c2 : PySem.W.codeIn K cd2 "is_word" = true) (k2 : PySem.W.keepIn K (.ref f2) = true)
    (a3 : PySem.W.nsIn K mainGlobals "is_rising" = some (some (.ref f3))) (l3 : K.lookup f3 = some ⟨oc3, od3, .func (PySem.W.fnOf "is_rising" "is_rising" (defArgs s_is_rising) (defBody s_is_rising) (defScope s_is_rising) .none kV3 dc3 pm3 an3 cd3 ct3), sl3⟩) (c3 : PySem.W.codeIn K cd3 "is_rising" = true) (k3 : PySem.W.keepIn K (.ref f3) = true)
    (a4 : PySem.W.nsIn K mainGlobals "is_span" = some (some (.ref f4))) (l4 : K.lookup f4 = some ⟨oc4, od4, .func (PySem.W.fnOf "is_span" "is_span" (defArgs s_is_span) (defBody s_is_span) (defScope s_is_span) .none kV4 dc4 pm4 an4 cd4 ct4), sl4⟩) (c4 : PySem.W.codeIn K cd4 "is_span" = true) (k4 : PySem.W.keepIn K (.ref f4) = true)
    (a5 : PySem.W.nsIn K mainGlobals "is_change" = some (some (.ref f5))) (l5 : K.lookup f5 = some ⟨oc5, od5, .func (PySem.W.fnOf "is_change" "is_change" (defArgs s_is_change) (defBody s_is_change) (defScope s_is_change) .none kV5 dc5 pm5 an5 cd5 ct5), sl5⟩) (c5 : PySem.W.codeIn K cd5 "is_change" = true) (k5 : PySem.W.keepIn K (.ref f5) = true)
    (a6 : PySem.W.nsIn K mainGlobals "is_jump" = some (some (.ref f6))) (l6 : K.lookup f6 = some ⟨oc6, od6, .func (PySem.W.fnOf "is_jump" "is_jump" (defArgs s_is_jump) (defBody s_is_jump) (defScope s_is_jump) .none kV6 dc6 pm6 an6 cd6 ct6), sl6⟩) (c6 : PySem.W.codeIn K cd6 "is_jump" = true) (k6 : PySem.W.keepIn K (.ref f6) = true)
    (a7 : PySem.W.nsIn K mainGlobals "are_jumps" = some (some (.ref f7))) (l7 : K.lookup f7 = some ⟨oc7, od7, .func (PySem.W.fnOf "are_jumps" "are_jumps" (defArgs s_are_jumps) (defBody s_are_jumps) (defScope s_are_jumps) .none kV7 dc7 pm7 an7 cd7 ct7), sl7⟩) (c7 : PySem.W.codeIn K cd7 "are_jumps" = true) (k7 : PySem.W.keepIn K (.ref f7) = true)
    (a8 : PySem.W.nsIn K mainGlobals "is_turn" = some (some (.ref f8))) (l8 : K.lookup f8 = some ⟨oc8, od8, .func (PySem.W.fnOf "is_turn" "is_turn" (defArgs s_is_turn) (defBody s_is_turn) (defScope s_is_turn) .none kV8 dc8 pm8 an8 cd8 ct8), sl8⟩) (c8 : PySem.W.codeIn K cd8 "is_turn" = true) (k8 : PySem.W.keepIn K (.ref f8) = true)
    (a9 : PySem.W.nsIn K mainGlobals "are_turns" = some (some (.ref f9))) (l9 : K.lookup f9 = some ⟨oc9, od9, .func (PySem.W.fnOf "are_turns" "are_turns" (defArgs s_are_turns) (defBody s_are_turns) (defScope s_are_turns) .none kV9 dc9 pm9 an9 cd9 ct9), sl9⟩) (c9 : PySem.W.codeIn K cd9 "are_turns" = true) (k9 : PySem.W.keepIn K (.ref f9) = true)
    (a10 : PySem.W.nsIn K mainGlobals "is_layer" = some (some (.ref f10))) (l10 : K.lookup f10 = some ⟨oc10, od10, .func (PySem.W.fnOf "is_layer" "is_layer" (defArgs s_is_layer) (defBody s_is_layer) (defScope s_is_layer) .none kV10 dc10 pm10 an10 cd10 ct10), sl10⟩) (c10 : PySem.W.codeIn K cd10 "is_layer" = true) (k10 : PySem.W.keepIn K (.ref f10) = true)
    (a11 : PySem.W.nsIn K mainGlobals "is_book" = some (some (.ref f11))) (l11 : K.lookup f11 = some ⟨oc11, od11, .func (PySem.W.fnOf "is_book" "is_book" (defArgs s_is_book) (defBody s_is_book) (defScope s_is_book) .none kV11 dc11 pm11 an11 cd11 ct11), sl11⟩) (c11 : PySem.W.codeIn K cd11 "is_book" = true) (k11 : PySem.W.keepIn K (.ref f11) = true)
    (a12 : PySem.W.nsIn K mainGlobals "_law_hand" = some (some (.ref f12))) (l12 : K.lookup f12 = some ⟨oc12, od12, .func (PySem.W.fnOf "_law_hand" "_law_hand" (defArgs s__law_hand) (defBody s__law_hand) (defScope s__law_hand) .none kV12 dc12 pm12 an12 cd12 ct12), sl12⟩) (c12 : PySem.W.codeIn K cd12 "_law_hand" = true) (k12 : PySem.W.keepIn K (.ref f12) = true)
    (a13 : PySem.W.nsIn K mainGlobals "_law_take" = some (some (.ref f13))) (l13 : K.lookup f13 = some ⟨oc13, od13, .func (PySem.W.fnOf "_law_take" "_law_take" (defArgs s__law_take) (defBody s__law_take) (defScope s__law_take) .none kV13 dc13 pm13 an13 cd13 ct13), sl13⟩) (c13 : PySem.W.codeIn K cd13 "_law_take" = true) (k13 : PySem.W.keepIn K (.ref f13) = true)
    (a14 : PySem.W.nsIn K mainGlobals "_law_pick" = some (some (.ref f14))) (l14 : K.lookup f14 = some ⟨oc14, od14, .func (PySem.W.fnOf "_law_pick" "_law_pick" (defArgs s__law_pick) (defBody s__law_pick) (defScope s__law_pick) .none kV14 dc14 pm14 an14 cd14 ct14), sl14⟩) (c14 : PySem.W.codeIn K cd14 "_law_pick" = true) (k14 : PySem.W.keepIn K (.ref f14) = true)
    (a15 : PySem.W.nsIn K mainGlobals "_law_great" = some (some (.ref f15))) (l15 : K.lookup f15 = some ⟨oc15, od15, .func (PySem.W.fnOf "_law_great" "_law_great" (defArgs s__law_great) (defBody s__law_great) (defScope s__law_great) .none kV15 dc15 pm15 an15 cd15 ct15), sl15⟩) (c15 : PySem.W.codeIn K cd15 "_law_great" = true) (k15 : PySem.W.keepIn K (.ref f15) = true)
    (a16 : PySem.W.nsIn K mainGlobals "_law_moment" = some (some (.ref f16))) (l16 : K.lookup f16 = some ⟨oc16, od16, .func (PySem.W.fnOf "_law_moment" "_law_moment" (defArgs s__law_moment) (defBody s__law_moment) (defScope s__law_moment) .none kV16 dc16 pm16 an16 cd16 ct16), sl16⟩) (c16 : PySem.W.codeIn K cd16 "_law_moment" = true) (k16 : PySem.W.keepIn K (.ref f16) = true)
    (a17 : PySem.W.nsIn K mainGlobals "_law_words" = some (some (.ref f17))) (l17 : K.lookup f17 = some ⟨oc17, od17, .func (PySem.W.fnOf "_law_words" "_law_words" (defArgs s__law_words) (defBody s__law_words) (defScope s__law_words) .none kV17 dc17 pm17 an17 cd17 ct17), sl17⟩) (c17 : PySem.W.codeIn K cd17 "_law_words" = true) (k17 : PySem.W.keepIn K (.ref f17) = true)
    (a18 : PySem.W.nsIn K mainGlobals "_law_jumps" = some (some (.ref f18))) (l18 : K.lookup f18 = some ⟨oc18, od18, .func (PySem.W.fnOf "_law_jumps" "_law_jumps" (defArgs s__law_jumps) (defBody s__law_jumps) (defScope s__law_jumps) .none kV18 dc18 pm18 an18 cd18 ct18), sl18⟩) (c18 : PySem.W.codeIn K cd18 "_law_jumps" = true) (k18 : PySem.W.keepIn K (.ref f18) = true)
    (a19 : PySem.W.nsIn K mainGlobals "_law_minute" = some (some (.ref f19))) (l19 : K.lookup f19 = some ⟨oc19, od19, .func (PySem.W.fnOf "_law_minute" "_law_minute" (defArgs s__law_minute) (defBody s__law_minute) (defScope s__law_minute) .none kV19 dc19 pm19 an19 cd19 ct19), sl19⟩) (c19 : PySem.W.codeIn K cd19 "_law_minute" = true) (k19 : PySem.W.keepIn K (.ref f19) = true)
    (a20 : PySem.W.nsIn K mainGlobals "_law_layer" = some (some (.ref f20))) (l20 : K.lookup f20 = some ⟨oc20, od20, .func (PySem.W.fnOf "_law_layer" "_law_layer" (defArgs s__law_layer) (defBody s__law_layer) (defScope s__law_layer) .none kV20 dc20 pm20 an20 cd20 ct20), sl20⟩) (c20 : PySem.W.codeIn K cd20 "_law_layer" = true) (k20 : PySem.W.keepIn K (.ref f20) = true)
    (a21 : PySem.W.nsIn K mainGlobals "_law_change" = some (some (.ref f21))) (l21 : K.lookup f21 = some ⟨oc21, od21, .func (PySem.W.fnOf "_law_change" "_law_change" (defArgs s__law_change) (defBody s__law_change) (defScope s__law_change) .none kV21 dc21 pm21 an21 cd21 ct21), sl21⟩) (c21 : PySem.W.codeIn K cd21 "_law_change" = true) (k21 : PySem.W.keepIn K (.ref f21) = true)
    (a22 : PySem.W.nsIn K mainGlobals "_law_jump_row" = some (some (.ref f22))) (l22 : K.lookup f22 = some ⟨oc22, od22, .func (PySem.W.fnOf "_law_jump_row" "_law_jump_row" (defArgs s__law_jump_row) (defBody s__law_jump_row) (defScope s__law_jump_row) .none kV22 dc22 pm22 an22 cd22 ct22), sl22⟩) (c22 : PySem.W.codeIn K cd22 "_law_jump_row" = true) (k22 : PySem.W.keepIn K (.ref f22) = true)
    (a23 : PySem.W.nsIn K mainGlobals "_law_good" = some (some (.ref f23))) (l23 : K.lookup f23 = some ⟨oc23, od23, .func (PySem.W.fnOf "_law_good" "_law_good" (defArgs s__law_good) (defBody s__law_good) (defScope s__law_good) .none kV23 dc23 pm23 an23 cd23 ct23), sl23⟩) (c23 : PySem.W.codeIn K cd23 "_law_good" = true) (k23 : PySem.W.keepIn K (.ref f23) = true)
    (a24 : PySem.W.nsIn K mainGlobals "_law_odd" = some (some (.ref f24))) (l24 : K.lookup f24 = some ⟨oc24, od24, .func (PySem.W.fnOf "_law_odd" "_law_odd" (defArgs s__law_odd) (defBody s__law_odd) (defScope s__law_odd) .none kV24 dc24 pm24 an24 cd24 ct24), sl24⟩) (c24 : PySem.W.codeIn K cd24 "_law_odd" = true) (k24 : PySem.W.keepIn K (.ref f24) = true)
    (a25 : PySem.W.nsIn K mainGlobals "_law_spoilt" = some (some (.ref f25))) (l25 : K.lookup f25 = some ⟨oc25, od25, .func (PySem.W.fnOf "_law_spoilt" "_law_spoilt" (defArgs s__law_spoilt) (defBody s__law_spoilt) (defScope s__law_spoilt) .none kV25 dc25 pm25 an25 cd25 ct25), sl25⟩) (c25 : PySem.W.codeIn K cd25 "_law_spoilt" = true) (k25 : PySem.W.keepIn K (.ref f25) = true)
    (a26 : PySem.W.nsIn K mainGlobals "_law_is_whole" = some (some (.ref f26))) (l26 : K.lookup f26 = some ⟨oc26, od26, .func (PySem.W.fnOf "_law_is_whole" "_law_is_whole" (defArgs s__law_is_whole) (defBody s__law_is_whole) (defScope s__law_is_whole) .none kV26 dc26 pm26 an26 cd26 ct26), sl26⟩) (c26 : PySem.W.codeIn K cd26 "_law_is_whole" = true) (k26 : PySem.W.keepIn K (.ref f26) = true)
    (a27 : PySem.W.nsIn K mainGlobals "_law_is_row" = some (some (.ref f27))) (l27 : K.lookup f27 = some ⟨oc27, od27, .func (PySem.W.fnOf "_law_is_row" "_law_is_row" (defArgs s__law_is_row) (defBody s__law_is_row) (defScope s__law_is_row) .none kV27 dc27 pm27 an27 cd27 ct27), sl27⟩) (c27 : PySem.W.codeIn K cd27 "_law_is_row" = true) (k27 : PySem.W.keepIn K (.ref f27) = true)
    (a28 : PySem.W.nsIn K mainGlobals "_law_is_word" = some (some (.ref f28))) (l28 : K.lookup f28 = some ⟨oc28, od28, .func (PySem.W.fnOf "_law_is_word" "_law_is_word" (defArgs s__law_is_word) (defBody s__law_is_word) (defScope s__law_is_word) .none kV28 dc28 pm28 an28 cd28 ct28), sl28⟩) (c28 : PySem.W.codeIn K cd28 "_law_is_word" = true) (k28 : PySem.W.keepIn K (.ref f28) = true)
    (a29 : PySem.W.nsIn K mainGlobals "_law_are_jumps" = some (some (.ref f29))) (l29 : K.lookup f29 = some ⟨oc29, od29, .func (PySem.W.fnOf "_law_are_jumps" "_law_are_jumps" (defArgs s__law_are_jumps) (defBody s__law_are_jumps) (defScope s__law_are_jumps) .none kV29 dc29 pm29 an29 cd29 ct29), sl29⟩) (c29 : PySem.W.codeIn K cd29 "_law_are_jumps" = true) (k29 : PySem.W.keepIn K (.ref f29) = true)
    (a30 : PySem.W.nsIn K mainGlobals "_law_is_layer" = some (some (.ref f30))) (l30 : K.lookup f30 = some ⟨oc30, od30, .func (PySem.W.fnOf "_law_is_layer" "_law_is_layer" (defArgs s__law_is_layer) (defBody s__law_is_layer) (defScope s__law_is_layer) .none kV30 dc30 pm30 an30 cd30 ct30), sl30⟩) (c30 : PySem.W.codeIn K cd30 "_law_is_layer" = true) (k30 : PySem.W.keepIn K (.ref f30) = true)
    (a31 : PySem.W.nsIn K mainGlobals "_law_is_change" = some (some (.ref f31))) (l31 : K.lookup f31 = some ⟨oc31, od31, .func (PySem.W.fnOf "_law_is_change" "_law_is_change" (defArgs s__law_is_change) (defBody s__law_is_change) (defScope s__law_is_change) .none kV31 dc31 pm31 an31 cd31 ct31), sl31⟩) (c31 : PySem.W.codeIn K cd31 "_law_is_change" = true) (k31 : PySem.W.keepIn K (.ref f31) = true)
    (a32 : PySem.W.nsIn K mainGlobals "_law_is_book" = some (some (.ref f32))) (l32 : K.lookup f32 = some ⟨oc32, od32, .func (PySem.W.fnOf "_law_is_book" "_law_is_book" (defArgs s__law_is_book) (defBody s__law_is_book) (defScope s__law_is_book) .none kV32 dc32 pm32 an32 cd32 ct32), sl32⟩) (c32 : PySem.W.codeIn K cd32 "_law_is_book" = true) (k32 : PySem.W.keepIn K (.ref f32) = true)
    (a33 : PySem.W.nsIn K mainGlobals "_law_same" = some (some (.ref f33))) (l33 : K.lookup f33 = some ⟨oc33, od33, .func (PySem.W.fnOf "_law_same" "_law_same" (defArgs s__law_same) (defBody s__law_same) (defScope s__law_same) .none kV33 dc33 pm33 an33 cd33 ct33), sl33⟩) (c33 : PySem.W.codeIn K cd33 "_law_same" = true) (k33 : PySem.W.keepIn K (.ref f33) = true)
    (a34 : PySem.W.nsIn K mainGlobals "law" = some (some (.ref f34))) (l34 : K.lookup f34 = some ⟨oc34, od34, .func (PySem.W.fnOf "law" "law" (defArgs s_law) (defBody s_law) (defScope s_law) .none kV34 dc34 pm34 an34 cd34 ct34), sl34⟩) (c34 : PySem.W.codeIn K cd34 "law" = true) (k34 : PySem.W.keepIn K (.ref f34) = true)
    {t_SIGNS : Tok} (g_SIGNS : PySem.W.nsIn K mainGlobals "SIGNS" = some (some (.str "abcdefghijklmnopqrstuvwxyz0123456789" t_SIGNS)))
    {t_LATEST : Tok} (g_LATEST : PySem.W.nsIn K mainGlobals "LATEST" = some (some (.int 1000000000000000000000000000000000000000000000000000000000000 t_LATEST)))
    {t_DAY : Tok} (g_DAY : PySem.W.nsIn K mainGlobals "DAY" = some (some (.int 1440 t_DAY)))
    {t_MOST_JUMPS : Tok} (g_MOST_JUMPS : PySem.W.nsIn K mainGlobals "MOST_JUMPS" = some (some (.int 8 t_MOST_JUMPS)))
    {t_FARTHEST : Tok} (g_FARTHEST : PySem.W.nsIn K mainGlobals "FARTHEST" = some (some (.int 1440 t_FARTHEST)))
    {t_MOST_DAYS : Tok} (g_MOST_DAYS : PySem.W.nsIn K mainGlobals "MOST_DAYS" = some (some (.int 60 t_MOST_DAYS)))
    {t_MOST_TURNS : Tok} (g_MOST_TURNS : PySem.W.nsIn K mainGlobals "MOST_TURNS" = some (some (.int 12 t_MOST_TURNS)))
    {t_MOST_LAYERS : Tok} (g_MOST_LAYERS : PySem.W.nsIn K mainGlobals "MOST_LAYERS" = some (some (.int 4 t_MOST_LAYERS)))
    {t_MOST_CHANGES : Tok} (g_MOST_CHANGES : PySem.W.nsIn K mainGlobals "MOST_CHANGES" = some (some (.int 24 t_MOST_CHANGES)))
    (z_abs : PySem.W.nsIn K mainGlobals "abs" = some none)
    (z_all : PySem.W.nsIn K mainGlobals "all" = some none)
    (z_bool : PySem.W.nsIn K mainGlobals "bool" = some none)
    (z_int : PySem.W.nsIn K mainGlobals "int" = some none)
    (z_isinstance : PySem.W.nsIn K mainGlobals "isinstance" = some none)
    (z_len : PySem.W.nsIn K mainGlobals "len" = some none)
    (z_list : PySem.W.nsIn K mainGlobals "list" = some none)
    (z_max : PySem.W.nsIn K mainGlobals "max" = some none)
    (z_min : PySem.W.nsIn K mainGlobals "min" = some none)
    (z_range : PySem.W.nsIn K mainGlobals "range" = some none)
    (z_set : PySem.W.nsIn K mainGlobals "set" = some none)
    (z_sorted : PySem.W.nsIn K mainGlobals "sorted" = some none)
    (z_str : PySem.W.nsIn K mainGlobals "str" = some none)
    (z_tuple : PySem.W.nsIn K mainGlobals "tuple" = some none) :
    ∃ fd : FuncData, (∀ (s : Shared) (v : Value), BindsTo s fd ⟨[v], []⟩ [("_law_script", v)]) ∧ ∀ base : Heap, K.In base → base.Ns mainGlobals mg → FnOk l.prog w K mg base (L2.CX l.prog w) 11 fa fd ["_law_script"] (spLaw K) := by
  have e := hfa.symm.trans (PySem.W.mg_of X G a34)
  cases e
  have T : Tops K mg := ⟨mkDef X G (fun _ _ _ _ _ _ us hl => match us, hl with | [_], _ => rfl) a0 l0 c0 k0,
    mkDef X G (fun _ _ _ _ _ _ us hl => match us, hl with | [_], _ => rfl) a1 l1 c1 k1,
    mkDef X G (fun _ _ _ _ _ _ us hl => match us, hl with | [_], _ => rfl) a2 l2 c2 k2,
    mkDef X G (fun _ _ _ _ _ _ us hl => match us, hl with | [_], _ => rfl) a3 l3 c3 k3,
    mkDef X G (fun _ _ _ _ _ _ us hl => match us, hl with | [_, _], _ => rfl) a4 l4 c4 k4,
    mkDef X G (fun _ _ _ _ _ _ us hl => match us, hl with | [_], _ => rfl) a5 l5 c5 k5,
    mkDef X G (fun _ _ _ _ _ _ us hl => match us, hl with | [_], _ => rfl) a6 l6 c6 k6,
    mkDef X G (fun _ _ _ _ _ _ us hl => match us, hl with | [_], _ => rfl) a7 l7 c7 k7,
    mkDef X G (fun _ _ _ _ _ _ us hl => match us, hl with | [_, _, _], _ => rfl) a8 l8 c8 k8,
    mkDef X G (fun _ _ _ _ _ _ us hl => match us, hl with | [_, _], _ => rfl) a9 l9 c9 k9,
    mkDef X G (fun _ _ _ _ _ _ us hl => match us, hl with | [_], _ => rfl) a10 l10 c10 k10,
    mkDef X G (fun _ _ _ _ _ _ us hl => match us, hl with | [_], _ => rfl) a11 l11 c11 k11,
    mkDef X G (fun _ _ _ _ _ _ us hl => match us, hl with | [_, _], _ => rfl) a12 l12 c12 k12,
    mkDef X G (fun _ _ _ _ _ _ us hl => match us, hl with | [_, _], _ => rfl) a13 l13 c13 k13,
    mkDef X G (fun _ _ _ _ _ _ us hl => match us, hl with | [_, _], _ => rfl) a14 l14 c14 k14,
    mkDef X G (fun _ _ _ _ _ _ us hl => match us, hl with | [_], _ => rfl) a15 l15 c15 k15,
    mkDef X G (fun _ _ _ _ _ _ us hl => match us, hl with | [_], _ => rfl) a16 l16 c16 k16,
    mkDef X G (fun _ _ _ _ _ _ us hl => match us, hl with | [_, _], _ => rfl) a17 l17 c17 k17,
    mkDef X G (fun _ _ _ _ _ _ us hl => match us, hl with | [_, _], _ => rfl) a18 l18 c18 k18,
    mkDef X G (fun _ _ _ _ _ _ us hl => match us, hl with | [_, _], _ => rfl) a19 l19 c19 k19,
    mkDef X G (fun _ _ _ _ _ _ us hl => match us, hl with | [_, _, _, _, _], _ => rfl) a20 l20 c20 k20,
    mkDef X G (fun _ _ _ _ _ _ us hl => match us, hl with | [_, _, _], _ => rfl) a21 l21 c21 k21,
    mkDef X G (fun _ _ _ _ _ _ us hl => match us, hl with | [_, _], _ => rfl) a22 l22 c22 k22,
    mkDef X G (fun _ _ _ _ _ _ us hl => match us, hl with | [_], _ => rfl) a23 l23 c23 k23,
    mkDef X G (fun _ _ _ _ _ _ us hl => match us, hl with | [_, _], _ => rfl) a24 l24 c24 k24,
    mkDef X G (fun _ _ _ _ _ _ us hl => match us, hl with | [_, _, _], _ => rfl) a25 l25 c25 k25,
    mkDef X G (fun _ _ _ _ _ _ us hl => match us, hl with | [_, _, _], _ => rfl) a26 l26 c26 k26,
    mkDef X G (fun _ _ _ _ _ _ us hl => match us, hl with | [_, _], _ => rfl) a27 l27 c27 k27,
    mkDef X G (fun _ _ _ _ _ _ us hl => match us, hl with | [_], _ => rfl) a28 l28 c28 k28,
    mkDef X G (fun _ _ _ _ _ _ us hl => match us, hl with | [_], _ => rfl) a29 l29 c29 k29,
    mkDef X G (fun _ _ _ _ _ _ us hl => match us, hl with | [_], _ => rfl) a30 l30 c30 k30,
    mkDef X G (fun _ _ _ _ _ _ us hl => match us, hl with | [_], _ => rfl) a31 l31 c31 k31,
    mkDef X G (fun _ _ _ _ _ _ us hl => match us, hl with | [_], _ => rfl) a32 l32 c32 k32,
    mkDef X G (fun _ _ _ _ _ _ us hl => match us, hl with | [_, _], _ => rfl) a33 l33 c33 k33,
    PySem.W.mg_none_of X G z_abs,
    PySem.W.mg_none_of X G z_all,
    PySem.W.mg_none_of X G z_bool,
    PySem.W.mg_none_of X G z_int,
    PySem.W.mg_none_of X G z_isinstance,
    PySem.W.mg_none_of X G z_len,
    PySem.W.mg_none_of X G z_list,
    PySem.W.mg_none_of X G z_max,
    PySem.W.mg_none_of X G z_min,
    PySem.W.mg_none_of X G z_range,
    PySem.W.mg_none_of X G z_set,
    PySem.W.mg_none_of X G z_sorted,
    PySem.W.mg_none_of X G z_str,
    PySem.W.mg_none_of X G z_tuple,
    ⟨t_SIGNS, PySem.W.mg_of X G g_SIGNS⟩,
    ⟨t_LATEST, PySem.W.mg_of X G g_LATEST⟩,
    ⟨t_DAY, PySem.W.mg_of X G g_DAY⟩,
    ⟨t_MOST_JUMPS, PySem.W.mg_of X G g_MOST_JUMPS⟩,
    ⟨t_FARTHEST, PySem.W.mg_of X G g_FARTHEST⟩,
    ⟨t_MOST_DAYS, PySem.W.mg_of X G g_MOST_DAYS⟩,
    ⟨t_MOST_TURNS, PySem.W.mg_of X G g_MOST_TURNS⟩,
    ⟨t_MOST_LAYERS, PySem.W.mg_of X G g_MOST_LAYERS⟩,
    ⟨t_MOST_CHANGES, PySem.W.mg_of X G g_MOST_CHANGES⟩⟩
  have F := fun_mk (st := s_law) l34 c34 k34
  exact ⟨_, fun s v => .of_eq rfl, fun base _ _ => law_fn F sc_law (fun f cdv A outer s H E hr => r_law T f cdv A outer s H E hr) law_true⟩
end My
open PySem PySem.W PyProof.Rows
set_option maxRecDepth 100000 in
set_option maxHeartbeats 0 in
theorem PySem.Challenge.cw_calledfirst_k19_books_looked_at_holds : PySem.Challenge.rw_calledfirst_k19_books_looked_at.Holds := by
  w_on; o_law; k_head; (case hw => w_witness2)
  k_fill
  refine Sim.walkLaw (l := PySem.Challenge.rw_calledfirst_k19_books_looked_at) (k := 11) (x := "_law_script") rfl rfl ⟨rfl, by decide, by decide⟩ (fun w h Y => PySem.W.kIn_of Y) ?F
  case F =>
    intro w mg fa h KX G hmg
    refine' My.all_mk KX G hmg ?a0 ?l0 ?c0 ?k0 ?a1 ?l1 ?c1 ?k1 ?a2 ?l2 ?c2 ?k2 ?a3 ?l3 ?c3 ?k3 ?a4 ?l4 ?c4 ?k4 ?a5 ?l5 ?c5 ?k5 ?a6 ?l6 ?c6 ?k6 ?a7 ?l7 ?c7 ?k7 ?a8 ?l8 ?c8 ?k8 ?a9 ?l9 ?c9 ?k9 ?a10 ?l10 ?c10 ?k10 ?a11 ?l11 ?c11 ?k11 ?a12 ?l12 ?c12 ?k12 ?a13 ?l13 ?c13 ?k13 ?a14 ?l14 ?c14 ?k14 ?a15 ?l15 ?c15 ?k15 ?a16 ?l16 ?c16 ?k16 ?a17 ?l17 ?c17 ?k17 ?a18 ?l18 ?c18 ?k18 ?a19 ?l19 ?c19 ?k19 ?a20 ?l20 ?c20 ?k20 ?a21 ?l21 ?c21 ?k21 ?a22 ?l22 ?c22 ?k22 ?a23 ?l23 ?c23 ?k23 ?a24 ?l24 ?c24 ?k24 ?a25 ?l25 ?c25 ?k25 ?a26 ?l26 ?c26 ?k26 ?a27 ?l27 ?c27 ?k27 ?a28 ?l28 ?c28 ?k28 ?a29 ?l29 ?c29 ?k29 ?a30 ?l30 ?c30 ?k30 ?a31 ?l31 ?c31 ?k31 ?a32 ?l32 ?c32 ?k32 ?a33 ?l33 ?c33 ?k33 ?a34 ?l34 ?c34 ?k34 ?g_SIGNS ?g_LATEST ?g_DAY ?g_MOST_JUMPS ?g_FARTHEST ?g_MOST_DAYS ?g_MOST_TURNS ?g_MOST_LAYERS ?g_MOST_CHANGES ?z_abs ?z_all ?z_bool ?z_int ?z_isinstance ?z_len ?z_list ?z_max ?z_min ?z_range ?z_set ?z_sorted ?z_str ?z_tuple
    (case a0 => k_is)
    (case l0 => k_is)
    (case c0 => k_is)
    (case k0 => k_is)
    (case a1 => k_is)
    (case l1 => k_is)
    (case c1 => k_is)
    (case k1 => k_is)
    (case a2 => k_is)
    (case l2 => k_is)
    (case c2 => k_is)
    (case k2 => k_is)
    (case a3 => k_is)
    (case l3 => k_is)
    (case c3 => k_is)
    (case k3 => k_is)
    (case a4 => k_is)
    (case l4 => k_is)
    (case c4 => k_is)
    (case k4 => k_is)
    (case a5 => k_is)
    (case l5 => k_is)
    (case c5 => k_is)
    (case k5 => k_is)
    (case a6 => k_is)
    (case l6 => k_is)
    (case c6 => k_is)
    (case k6 => k_is)
    (case a7 => k_is)
    (case l7 => k_is)
    (case c7 => k_is)
    (case k7 => k_is)
    (case a8 => k_is)
    (case l8 => k_is)
    (case c8 => k_is)
    (case k8 => k_is)
    (case a9 => k_is)
    (case l9 => k_is)
    (case c9 => k_is)
    (case k9 => k_is)
    (case a10 => k_is)
    (case l10 => k_is)
    (case c10 => k_is)
    (case k10 => k_is)
    (case a11 => k_is)
    (case l11 => k_is)
    (case c11 => k_is)
    (case k11 => k_is)
    (case a12 => k_is)
    (case l12 => k_is)
    (case c12 => k_is)
    (case k12 => k_is)
    (case a13 => k_is)
    (case l13 => k_is)
    (case c13 => k_is)
    (case k13 => k_is)
    (case a14 => k_is)
    (case l14 => k_is)
    (case c14 => k_is)
    (case k14 => k_is)
    (case a15 => k_is)
    (case l15 => k_is)
    (case c15 => k_is)
    (case k15 => k_is)
    (case a16 => k_is)
    (case l16 => k_is)
    (case c16 => k_is)
    (case k16 => k_is)
    (case a17 => k_is)
    (case l17 => k_is)
    (case c17 => k_is)
    (case k17 => k_is)
    (case a18 => k_is)
    (case l18 => k_is)
    (case c18 => k_is)
    (case k18 => k_is)
    (case a19 => k_is)
    (case l19 => k_is)
    (case c19 => k_is)
    (case k19 => k_is)
    (case a20 => k_is)
    (case l20 => k_is)
    (case c20 => k_is)
    (case k20 => k_is)
    (case a21 => k_is)
    (case l21 => k_is)
    (case c21 => k_is)
    (case k21 => k_is)
    (case a22 => k_is)
    (case l22 => k_is)
    (case c22 => k_is)
    (case k22 => k_is)
    (case a23 => k_is)
    (case l23 => k_is)
    (case c23 => k_is)
    (case k23 => k_is)
    (case a24 => k_is)
    (case l24 => k_is)
    (case c24 => k_is)
    (case k24 => k_is)
    (case a25 => k_is)
    (case l25 => k_is)
    (case c25 => k_is)
    (case k25 => k_is)
    (case a26 => k_is)
    (case l26 => k_is)
    (case c26 => k_is)
    (case k26 => k_is)
    (case a27 => k_is)
    (case l27 => k_is)
    (case c27 => k_is)
    (case k27 => k_is)
    (case a28 => k_is)
    (case l28 => k_is)
    (case c28 => k_is)
    (case k28 => k_is)
    (case a29 => k_is)
    (case l29 => k_is)
    (case c29 => k_is)
    (case k29 => k_is)
    (case a30 => k_is)
    (case l30 => k_is)
    (case c30 => k_is)
    (case k30 => k_is)
    (case a31 => k_is)
    (case l31 => k_is)
    (case c31 => k_is)
    (case k31 => k_is)
    (case a32 => k_is)
    (case l32 => k_is)
    (case c32 => k_is)
    (case k32 => k_is)
    (case a33 => k_is)
    (case l33 => k_is)
    (case c33 => k_is)
    (case k33 => k_is)
    (case a34 => k_is)
    (case l34 => k_is)
    (case c34 => k_is)
    (case k34 => k_is)
    (case g_SIGNS => k_is)
    (case g_LATEST => k_is)
    (case g_DAY => k_is)
    (case g_MOST_JUMPS => k_is)
    (case g_FARTHEST => k_is)
    (case g_MOST_DAYS => k_is)
    (case g_MOST_TURNS => k_is)
    (case g_MOST_LAYERS => k_is)
    (case g_MOST_CHANGES => k_is)
    (case z_abs => k_is)
    (case z_all => k_is)
    (case z_bool => k_is)
    (case z_int => k_is)
    (case z_isinstance => k_is)
    (case z_len => k_is)
    (case z_list => k_is)
    (case z_max => k_is)
    (case z_min => k_is)
    (case z_range => k_is)
    (case z_set => k_is)
    (case z_sorted => k_is)
    (case z_str => k_is)
    (case z_tuple => k_is)
