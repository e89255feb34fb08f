import PyProof.Rows.All
import Wide.All
import OpenK.AllK
import Wide.FinOn
import HandS.ForMost
import HandS.ForExc
import HandS.IsInst
import HandS.CallSlots
import HandS.Deep
import HandS.Walk
import HandS.Wide
import HandS.TupAny
import HandS.TupMul
import HandS.Gcd
import HandS.EndBits
import HandS.Style
import PySem.Challenge.RW_onewatcher_k62_great_payments
set_option Elab.async false
set_option linter.all false
set_option maxRecDepth 100000
/-! MP: a small semantics of Python by functions, over the hand layer. -/
namespace MP
open PySem L2

/-- data: what a value stands for. lst: a list that nobody changes; fls: the same, a list that stood before (the script); ref: a mutable object, by its place in the store -/
inductive D where
  | non | bl (b : Bool) | int (i : Int) | str (x : Str) | tup (xs : List D) | lst (xs : List D) | fls (xs : List D) | ref (i : Nat)

/-- a mutable object -/
inductive Ob where
  | lst (xs : List D)

abbrev Store := List Ob

structure Xn where
  cls : Nat
  args : List D

inductive R (α : Type) where
  | stuck
  | ok (a : α)
  | exc (x : Xn) (S : Store)

def R.bind {α β : Type} (r : R α) (k : α → R β) : R β := match r with
  | .stuck => .stuck
  | .ok a => k a
  | .exc x S => .exc x S
theorem R.bind_ok {α β : Type} (a : α) (k : α → R β) : (R.ok a).bind k = k a := rfl
theorem R.bind_stuck {α β : Type} (k : α → R β) : (R.stuck : R α).bind k = .stuck := rfl
theorem R.bind_exc {α β : Type} (x : Xn) (S : Store) (k : α → R β) : (R.exc x S : R α).bind k = .exc x S := rfl

/-- a slot of a frame: nothing known; a value; a list that this frame alone has -/
inductive Slot where
  | no
  | val (d : D)
  | own (xs : List D)
abbrev Env := List Slot

/-! ### what stands for what -/
def WrL (K : PySem.W.Frag) (a : Addr) (xs : List V) : Prop :=
  ∃ (o : Obj) (its : Array Value) (n : Nat), K.lookup a = some o ∧ o.cls = .type "list" ∧ o.dict = none ∧ o.data = .seq its n ∧ its.size ≤ sizeLine ∧ Vals xs its.toList
def WrT (K : PySem.W.Frag) (a : Addr) (xs : List V) : Prop :=
  ∃ (o : Obj) (its : Array Value) (n : Nat), K.lookup a = some o ∧ o.cls = .type "tuple" ∧ o.data = .seq its n ∧ its.size ≤ sizeLine ∧ Vals xs its.toList
def LsA (H : Hp) (bad : Addr → Prop) (a : Addr) (xs : List V) : Prop := H a = some (.lst xs) ∧ ¬ bad a
def FlA (K : PySem.W.Frag) (H : Hp) (bad : Addr → Prop) (a : Addr) (xs : List V) : Prop := (Rd H a (.lst xs) ∧ ¬ bad a) ∨ WrL K a xs
def TpA (K : PySem.W.Frag) (H : Hp) (bad : Addr → Prop) (a : Addr) (xs : List V) : Prop := (Rd H a (.tup xs) ∧ ¬ bad a) ∨ WrT K a xs

mutual
def Rep (K : PySem.W.Frag) (H : Hp) (bad : Addr → Prop) (μ : List Addr) : D → V → Prop
  | .non, v => v = .non
  | .bl b, v => v = .bl b
  | .int i, v => v = .int i
  | .str x, v => v = .str x
  | .tup ds, v => ∃ a xs, v = .ref a ∧ TpA K H bad a xs ∧ Reps K H bad μ ds xs
  | .lst ds, v => ∃ a xs, v = .ref a ∧ LsA H bad a xs ∧ Reps K H bad μ ds xs
  | .fls ds, v => ∃ a xs, v = .ref a ∧ FlA K H bad a xs ∧ Reps K H bad μ ds xs
  | .ref i, v => ∃ a, v = .ref a ∧ μ[i]? = some a
def Reps (K : PySem.W.Frag) (H : Hp) (bad : Addr → Prop) (μ : List Addr) : List D → List V → Prop
  | [], vs => vs = []
  | d :: ds, vs => ∃ v r, vs = v :: r ∧ Rep K H bad μ d v ∧ Reps K H bad μ ds r
end
/-- as Rep; a list at the top may be one that this frame alone has -/
def RepB (K : PySem.W.Frag) (H : Hp) (bad : Addr → Prop) (μ : List Addr) : D → V → Prop
  | .lst ds, v => ∃ a xs, v = .ref a ∧ LsA H (· ∈ μ) a xs ∧ Reps K H bad μ ds xs
  | d, v => Rep K H bad μ d v
def RepsB (K : PySem.W.Frag) (H : Hp) (bad : Addr → Prop) (μ : List Addr) : List D → List V → Prop
  | [], vs => vs = []
  | d :: ds, vs => ∃ v r, vs = v :: r ∧ RepB K H bad μ d v ∧ RepsB K H bad μ ds r

/-- from one state to a later one: only the objects of the store may have changed -/
structure Tr (H : Hp) (av : Addr → Prop) (μ : List Addr) (H' : Hp) (av' : Addr → Prop) (μ' : List Addr) : Prop where
  keep : ∀ a o, H a = some o → a ∉ μ → H' a = some o
  dom : ∀ a, H a ≠ none → H' a ≠ none
  avm : ∀ a, av a → av' a
  avn : ∀ a, av' a → av a ∨ H a = none
  pre : ∃ ν, μ' = μ ++ ν
  new : ∀ a ∈ μ', a ∈ μ ∨ H a = none

def ObRep (K : PySem.W.Frag) (H : Hp) (av : Addr → Prop) (μ : List Addr) (a : Addr) : Ob → Prop
  | .lst xs => ∃ vs, H a = some (.lst vs) ∧ Reps K H av μ xs vs

/-- the store stands in the heap -/
structure HG (K : PySem.W.Frag) (H : Hp) (av : Addr → Prop) (μ : List Addr) (S : Store) : Prop where
  len : μ.length = S.length
  nd : μ.Nodup
  sub : ∀ a ∈ μ, av a
  dom : ∀ a, av a → H a ≠ none
  obj : ∀ (i : Nat) (a : Addr) (o : Ob), μ[i]? = some a → S[i]? = some o → ObRep K H av μ a o

def SlotRep (K : PySem.W.Frag) (H : Hp) (av : Addr → Prop) (μ : List Addr) : Slot → Option (Option V) → Prop
  | .no, _ => True
  | .val d, u => ∃ v, u = some (some v) ∧ Rep K H av μ d v
  | .own xs, u => ∃ a vs, u = some (some (.ref a)) ∧ H a = some (.lst vs) ∧ Reps K H av μ xs vs ∧ av a ∧ a ∉ μ
/-- slot i holds, alone, the object at a -/
def Owns (ρ : Env) (σ : St) (i : Nat) (a : Addr) : Prop := ∃ xs, ρ[i]? = some (.own xs) ∧ σ[i]? = some (some (.ref a))
structure ER (K : PySem.W.Frag) (H : Hp) (av : Addr → Prop) (μ : List Addr) (ρ : Env) (σ : St) : Prop where
  len : σ.length = ρ.length
  at' : ∀ (i : Nat) (s : Slot), ρ[i]? = some s → SlotRep K H av μ s σ[i]?
  one : ∀ (i j : Nat) (a : Addr), Owns ρ σ i a → Owns ρ σ j a → i = j

section
variable {K : PySem.W.Frag} {H H1 H2 H' : Hp} {av av1 av2 av' bad bad' : Addr → Prop} {μ μ1 μ2 μ' : List Addr} {S S' : Store} {ρ : Env} {σ : St}

theorem Tr.refl : Tr H av μ H av μ := ⟨fun _ _ h _ => h, fun _ h => h, fun _ h => h, fun _ h => .inl h, ⟨[], by simp⟩, fun _ h => .inl h⟩
theorem Tr.trans (a : Tr H av μ H1 av1 μ1) (b : Tr H1 av1 μ1 H2 av2 μ2) : Tr H av μ H2 av2 μ2 where
  keep := fun x o h hx => b.keep x o (a.keep x o h hx) fun hm => (a.new x hm).elim hx fun z => by rw [h] at z; cases z
  dom := fun x h => b.dom x (a.dom x h)
  avm := fun x h => b.avm x (a.avm x h)
  avn := fun x h => (b.avn x h).elim (a.avn x) fun z => .inr (by
    cases e : H x with
    | none => rfl
    | some o => exact absurd z (a.dom x (by rw [e]; simp)))
  pre := let ⟨ν, h⟩ := a.pre; let ⟨ν', h'⟩ := b.pre; ⟨ν ++ ν', by rw [h', h, List.append_assoc]⟩
  new := fun x h => (b.new x h).elim (a.new x) fun z => .inr (by
    cases e : H x with
    | none => rfl
    | some o => exact absurd z (a.dom x (by rw [e]; simp)))

theorem Rd.keep {a : Addr} {u : HO} (h : Rd H a u) (k : ∀ o, H a = some o → H' a = some o) : Rd H' a u := by
  rcases h with h | ⟨o, h⟩
  · exact .inl (k _ h)
  · exact .inr ⟨o, k _ h⟩
theorem Rd.some {a : Addr} {u : HO} (h : Rd H a u) : H a ≠ none := by
  rcases h with h | ⟨o, h⟩ <;> rw [h] <;> simp

/-- how Rep goes on: what is read stays, and is not bad later -/
def Goes (K : PySem.W.Frag) (H : Hp) (bad : Addr → Prop) (μ : List Addr) (H' : Hp) (bad' : Addr → Prop) (μ' : List Addr) : Prop :=
  (∀ a o, H a = some o → ¬ bad a → H' a = some o ∧ ¬ bad' a) ∧ ∃ ν, μ' = μ ++ ν

theorem LsA.goes {a : Addr} {xs : List V} (g : ∀ a o, H a = some o → ¬ bad a → H' a = some o ∧ ¬ bad' a) (h : LsA H bad a xs) : LsA H' bad' a xs := g a _ h.1 h.2
theorem FlA.goes {a : Addr} {xs : List V} (g : ∀ a o, H a = some o → ¬ bad a → H' a = some o ∧ ¬ bad' a) (h : FlA K H bad a xs) : FlA K H' bad' a xs := by
  rcases h with ⟨r, n⟩ | h
  · refine .inl ⟨Rd.keep r fun o e => (g a o e n).1, ?_⟩
    cases e : H a with
    | none => exact absurd e (Rd.some r)
    | some o => exact (g a o e n).2
  · exact .inr h
theorem TpA.goes {a : Addr} {xs : List V} (g : ∀ a o, H a = some o → ¬ bad a → H' a = some o ∧ ¬ bad' a) (h : TpA K H bad a xs) : TpA K H' bad' a xs := by
  rcases h with ⟨r, n⟩ | h
  · refine .inl ⟨Rd.keep r fun o e => (g a o e n).1, ?_⟩
    cases e : H a with
    | none => exact absurd e (Rd.some r)
    | some o => exact (g a o e n).2
  · exact .inr h
mutual
theorem Rep.goes (g : Goes K H bad μ H' bad' μ') : ∀ (d : D) (v : V), Rep K H bad μ d v → Rep K H' bad' μ' d v
  | .non, v, h => h
  | .bl b, v, h => h
  | .int i, v, h => h
  | .str x, v, h => h
  | .tup ds, v, h => by
    obtain ⟨a, xs, e, t, r⟩ := h
    exact ⟨a, xs, e, t.goes g.1, Reps.goes g ds xs r⟩
  | .lst ds, v, h => by
    obtain ⟨a, xs, e, t, r⟩ := h
    exact ⟨a, xs, e, t.goes g.1, Reps.goes g ds xs r⟩
  | .fls ds, v, h => by
    obtain ⟨a, xs, e, t, r⟩ := h
    exact ⟨a, xs, e, t.goes g.1, Reps.goes g ds xs r⟩
  | .ref i, v, h => by
    obtain ⟨a, e, m⟩ := h
    obtain ⟨ν, q⟩ := g.2
    refine ⟨a, e, ?_⟩
    rw [q, List.getElem?_append_left (List.getElem?_eq_some_iff.mp m).1]
    exact m
theorem Reps.goes (g : Goes K H bad μ H' bad' μ') : ∀ (ds : List D) (vs : List V), Reps K H bad μ ds vs → Reps K H' bad' μ' ds vs
  | [], vs, h => h
  | d :: ds, vs, h => by
    obtain ⟨v, r, e, h1, h2⟩ := h
    exact ⟨v, r, e, Rep.goes g d v h1, Reps.goes g ds r h2⟩
end
theorem Tr.goes (t : Tr H av μ H' av' μ') (hs : ∀ a ∈ μ, av a) : Goes K H av μ H' av' μ' :=
  ⟨fun a o e n => ⟨t.keep a o e fun h => n (hs a h), fun h => (t.avn a h).elim n fun z => by rw [e] at z; cases z⟩, t.pre⟩
theorem Rep.tr {d : D} {v : V} (h : Rep K H av μ d v) (t : Tr H av μ H' av' μ') (hs : ∀ a ∈ μ, av a) : Rep K H' av' μ' d v := Rep.goes (t.goes hs) d v h
theorem Reps.tr {d : List D} {v : List V} (h : Reps K H av μ d v) (t : Tr H av μ H' av' μ') (hs : ∀ a ∈ μ, av a) : Reps K H' av' μ' d v := Reps.goes (t.goes hs) d v h
theorem LsA.weak {a : Addr} {xs : List V} (w : ∀ a, bad' a → bad a) (h : LsA H bad a xs) : LsA H bad' a xs := ⟨h.1, fun z => h.2 (w a z)⟩
theorem Rep.b (hs : ∀ a ∈ μ, av a) : ∀ {d : D} {v : V}, Rep K H av μ d v → RepB K H av μ d v
  | .non, _, h => h
  | .bl _, _, h => h
  | .int _, _, h => h
  | .str _, _, h => h
  | .tup _, _, h => h
  | .lst _, _, h => let ⟨a, xs, e, t, r⟩ := h; ⟨a, xs, e, t.weak hs, r⟩
  | .fls _, _, h => h
  | .ref _, _, h => h
theorem RepB.tr (t : Tr H av μ H' av' μ') (hs : ∀ a ∈ μ, av a) : ∀ {d : D} {v : V}, RepB K H av μ d v → RepB K H' av' μ' d v
  | .non, _, h => h
  | .bl _, _, h => h
  | .int _, _, h => h
  | .str _, _, h => h
  | .tup xs, v, h => show Rep K H' av' μ' (.tup xs) v from Rep.tr (d := .tup xs) h t hs
  | .lst _, _, h => by
    obtain ⟨a, xs, e, l, r⟩ := h
    refine ⟨a, xs, e, l.goes fun a o e n => ⟨t.keep a o e n, fun z => (t.new a z).elim n fun q => by rw [e] at q; cases q⟩, Reps.tr r t hs⟩
  | .fls xs, v, h => show Rep K H' av' μ' (.fls xs) v from Rep.tr (d := .fls xs) h t hs
  | .ref i, v, h => show Rep K H' av' μ' (.ref i) v from Rep.tr (d := .ref i) h t hs
theorem RepsB.tr (t : Tr H av μ H' av' μ') (hs : ∀ a ∈ μ, av a) : ∀ {d : List D} {v : List V}, RepsB K H av μ d v → RepsB K H' av' μ' d v
  | [], _, h => h
  | _ :: _, _, h => let ⟨v, r, e, h1, h2⟩ := h; ⟨v, r, e, RepB.tr t hs h1, RepsB.tr t hs h2⟩
theorem Reps.b (hs : ∀ a ∈ μ, av a) : ∀ {d : List D} {v : List V}, Reps K H av μ d v → RepsB K H av μ d v
  | [], _, h => h
  | _ :: _, _, h => let ⟨v, r, e, h1, h2⟩ := h; ⟨v, r, e, Rep.b hs h1, Reps.b hs h2⟩

theorem Reps.len : ∀ {ds : List D} {vs : List V}, Reps K H bad μ ds vs → vs.length = ds.length
  | [], _, h => by rw [show _ = [] from h]; rfl
  | _ :: _, _, h => by obtain ⟨v, r, rfl, _, h2⟩ := h; simp [Reps.len h2]
theorem Reps.get : ∀ {ds : List D} {vs : List V} {i : Nat} {d : D}, Reps K H bad μ ds vs → ds[i]? = some d → ∃ v, vs[i]? = some v ∧ Rep K H bad μ d v
  | [], _, _, _, _, e => by simp at e
  | d :: ds, _, 0, _, h, e => by
    obtain ⟨v, r, rfl, h1, h2⟩ := h
    simp at e
    subst e
    exact ⟨v, rfl, h1⟩
  | d :: ds, _, i + 1, _, h, e => by
    obtain ⟨v, r, rfl, h1, h2⟩ := h
    obtain ⟨w, q, rw'⟩ := Reps.get (i := i) h2 (by simpa using e)
    exact ⟨w, by simpa using q, rw'⟩
theorem Reps.app : ∀ {ds es : List D} {vs ws : List V}, Reps K H bad μ ds vs → Reps K H bad μ es ws → Reps K H bad μ (ds ++ es) (vs ++ ws)
  | [], _, _, _, h, h' => by rw [show _ = [] from h]; exact h'
  | _ :: _, _, _, _, h, h' => by obtain ⟨v, r, rfl, h1, h2⟩ := h; exact ⟨v, _, rfl, h1, Reps.app h2 h'⟩
theorem Reps.take : ∀ {ds : List D} {vs : List V} (n : Nat), Reps K H bad μ ds vs → Reps K H bad μ (ds.take n) (vs.take n)
  | _, _, 0, _ => rfl
  | [], _, _ + 1, h => by rw [show _ = [] from h]; rfl
  | _ :: _, _, n + 1, h => by obtain ⟨v, r, rfl, h1, h2⟩ := h; exact ⟨v, _, rfl, h1, Reps.take n h2⟩
theorem Reps.drop : ∀ {ds : List D} {vs : List V} (n : Nat), Reps K H bad μ ds vs → Reps K H bad μ (ds.drop n) (vs.drop n)
  | _, _, 0, h => h
  | [], _, _ + 1, h => by rw [show _ = [] from h]; rfl
  | _ :: _, _, n + 1, h => by obtain ⟨v, r, rfl, h1, h2⟩ := h; exact Reps.drop n h2
theorem Reps.set : ∀ {ds : List D} {vs : List V} (i : Nat) {d : D} {v : V}, Reps K H bad μ ds vs → Rep K H bad μ d v → Reps K H bad μ (ds.set i d) (vs.set i v)
  | [], _, _, _, _, h, _ => by rw [show _ = [] from h]; rfl
  | _ :: _, _, 0, _, _, h, q => by obtain ⟨v, r, rfl, h1, h2⟩ := h; exact ⟨_, _, rfl, q, h2⟩
  | _ :: _, _, i + 1, _, _, h, q => by obtain ⟨v, r, rfl, h1, h2⟩ := h; exact ⟨_, _, rfl, h1, Reps.set i h2 q⟩
theorem Reps.erase : ∀ {ds : List D} {vs : List V} (i : Nat), Reps K H bad μ ds vs → Reps K H bad μ (ds.eraseIdx i) (vs.eraseIdx i)
  | [], _, _, h => by rw [show _ = [] from h]; rfl
  | _ :: _, _, 0, h => by obtain ⟨v, r, rfl, h1, h2⟩ := h; exact h2
  | _ :: _, _, i + 1, h => by obtain ⟨v, r, rfl, h1, h2⟩ := h; exact ⟨_, _, rfl, h1, Reps.erase i h2⟩
theorem Reps.one {d : D} {v : V} (h : Rep K H bad μ d v) : Reps K H bad μ [d] [v] := ⟨v, [], rfl, h, rfl⟩

theorem LsA.sq {a : Addr} {xs : List V} (h : LsA H bad a xs) : SqL K H a xs := .inl (.inl h.1)
theorem FlA.sq {a : Addr} {xs : List V} (h : FlA K H bad a xs) : SqL K H a xs := h.imp (·.1) id
theorem TpA.sq {a : Addr} {xs : List V} (h : TpA K H bad a xs) : SqT K H a xs := h.imp (·.1) id

theorem ObRep.tr' {a : Addr} {o : Ob} (g : Goes K H av μ H' av' μ') (k : ∀ u, H a = some u → H' a = some u) (h : ObRep K H av μ a o) : ObRep K H' av' μ' a o := by
  cases o with
  | lst xs =>
    obtain ⟨vs, e, r⟩ := h
    exact ⟨vs, k _ e, Reps.goes g _ _ r⟩
theorem ER.tr (e : ER K H av μ ρ σ) (t : Tr H av μ H' av' μ') (hs : ∀ a ∈ μ, av a) : ER K H' av' μ' ρ σ where
  len := e.len
  at' := fun i s h => by
    have q := e.at' i s h
    cases s with
    | no => trivial
    | val d =>
      obtain ⟨v, e1, r⟩ := q
      exact ⟨v, e1, r.tr t hs⟩
    | own xs =>
      obtain ⟨a, vs, e1, ha, r, va, nm⟩ := q
      exact ⟨a, vs, e1, t.keep _ _ ha nm, r.tr t hs, t.avm a va, fun z => (t.new a z).elim nm fun q => by rw [ha] at q; cases q⟩
  one := e.one

/-- a new object is laid -/
theorem Tr.lay {p : Addr} {o : HO} (h : H p = none) : Tr H av μ (upd H p o) av μ where
  keep := fun a u e _ => by rw [upd_ne (ne_of_none e h)]; exact e
  dom := fun a e z => e (by
    by_cases q : a = p
    · rw [q]; exact h
    · rw [upd_ne q] at z; exact z)
  avm := fun _ h => h
  avn := fun _ h => .inl h
  pre := ⟨[], by simp⟩
  new := fun _ h => .inl h
theorem HG.lay {p : Addr} {o : HO} (g : HG K H av μ S) (h : H p = none) : HG K (upd H p o) av μ S where
  len := g.len
  nd := g.nd
  sub := g.sub
  dom := fun a e => (Tr.lay (o := o) (av := av) (μ := μ) h).dom a (g.dom a e)
  obj := fun i a u e1 e2 => (g.obj i a u e1 e2).tr' ((Tr.lay h).goes g.sub) fun w q => by rw [upd_ne (ne_of_none q h)]; exact q
theorem HG.nav {p : Addr} (g : HG K H av μ S) (h : H p = none) : ¬ av p := fun z => g.dom p z h
end
end MP
/-! MP: expressions. -/
namespace MP
open PySem L2

abbrev WK := Value → Option Addr → Hp → Prop
/-- how an exception stands for its data (its class by number: cl) -/
def XRep (K : PySem.W.Frag) (H : Hp) (av : Addr → Prop) (μ : List Addr) (cl : Nat → Value) (x : Xn) (c : Value) (dx : Option Addr) : Prop := c = cl x.cls

/-- what a result leads to: from the state (H, av, μ) -/
def Post {α : Type} (K : PySem.W.Frag) (cl : Nat → Value) (H : Hp) (av : Addr → Prop) (μ : List Addr) (r : R (α × Store)) (G : α → Store → Hp → (Addr → Prop) → List Addr → Prop) (W : WK) : Prop := match r with
  | .stuck => False
  | .ok (a, S') => ∀ H' av' μ', Tr H av μ H' av' μ' → HG K H' av' μ' S' → G a S' H' av' μ'
  | .exc x S' => ∀ c dx H' av' μ', Tr H av μ H' av' μ' → HG K H' av' μ' S' → XRep K H' av' μ' cl x c dx → W c dx H'

section
variable {α β : Type} {K : PySem.W.Frag} {cl : Nat → Value} {H H1 H2 H' : Hp} {av av1 av2 av' bad bad' : Addr → Prop} {μ μ1 μ2 μ' : List Addr} {S S' : Store} {ρ : Env} {σ : L2.St} {W : WK}
theorem Post.mono {r : R (α × Store)} {G G' : α → Store → Hp → (Addr → Prop) → List Addr → Prop} (h : Post K cl H av μ r G W) (w : ∀ a S' H' av' μ', Tr H av μ H' av' μ' → HG K H' av' μ' S' → G a S' H' av' μ' → G' a S' H' av' μ') : Post K cl H av μ r G' W := by
  cases r with
  | stuck => exact h
  | ok a => exact fun H' av' μ' t g => w _ _ _ _ _ t g (h H' av' μ' t g)
  | exc x S' => exact h
theorem Post.from {r : R (α × Store)} {G : α → Store → Hp → (Addr → Prop) → List Addr → Prop} (t : Tr H av μ H1 av1 μ1) (h : Post K cl H av μ r G W) : Post K cl H1 av1 μ1 r G W := by
  cases r with
  | stuck => exact h
  | ok a => exact fun H' av' μ' t' g => h H' av' μ' (t.trans t') g
  | exc x S' => exact fun c dx H' av' μ' t' g => h c dx H' av' μ' (t.trans t') g
theorem Post.bind {r : R (α × Store)} {k : α × Store → R (β × Store)} {G : β → Store → Hp → (Addr → Prop) → List Addr → Prop} (h : Post K cl H av μ (r.bind k) G W) :
    Post K cl H av μ r (fun a S1 H1 av1 μ1 => Post K cl H1 av1 μ1 (k (a, S1)) G W) W := by
  cases r with
  | stuck => exact h
  | ok a => exact fun H' av' μ' t g => Post.from t h
  | exc x S' => exact h
theorem Post.ok {a : α} {G : α → Store → Hp → (Addr → Prop) → List Addr → Prop} (h : Post K cl H av μ (.ok (a, S)) G W) (g : HG K H av μ S) : G a S H av μ := h H av μ .refl g
end

/-- where one stands -/
structure MX where
  X : Cx
  cl : Nat → Value
  W : WX

abbrev FE := Env → Store → R (D × Store)
abbrev FT := Env → Store → R (Bool × Store)
abbrev FA := Env → Store → R (List D × Store)

/-- the expression e does what f says -/
def OkE (M : MX) (e : Expr) (f : FE) : Prop := ∃ t, PE M.X e t ∧ ∀ (ρ : Env) (S : Store) (σ : L2.St) (H : Hp) (av : Addr → Prop) (μ : List Addr) (Q : VK), HG M.X.K H av μ S → ER M.X.K H av μ ρ σ →
  Post M.X.K M.cl H av μ (f ρ S) (fun d _ H' av' μ' => ∀ v, Rep M.X.K H' av' μ' d v → Q v H') (M.W · · σ) → t σ H Q
def OkB (M : MX) (e : Expr) (f : FE) : Prop := ∃ t, PE M.X e t ∧ ∀ (ρ : Env) (S : Store) (σ : L2.St) (H : Hp) (av : Addr → Prop) (μ : List Addr) (Q : VK), HG M.X.K H av μ S → ER M.X.K H av μ ρ σ →
  Post M.X.K M.cl H av μ (f ρ S) (fun d _ H' av' μ' => ∀ v, RepB M.X.K H' av' μ' d v → Q v H') (M.W · · σ) → t σ H Q
def OkT (M : MX) (e : Expr) (f : FT) : Prop := ∃ t, PT M.X e t ∧ ∀ (ρ : Env) (S : Store) (σ : L2.St) (H : Hp) (av : Addr → Prop) (μ : List Addr) (Q : Bool → Hp → Prop), HG M.X.K H av μ S → ER M.X.K H av μ ρ σ →
  Post M.X.K M.cl H av μ (f ρ S) (fun b _ H' _ _ => Q b H') (M.W · · σ) → t σ H Q
def OkA (M : MX) (es : List Expr) (f : FA) : Prop := ∃ t, PA M.X es t ∧ ∀ (ρ : Env) (S : Store) (σ : L2.St) (H : Hp) (av : Addr → Prop) (μ : List Addr) (Q : List V → Hp → Prop), HG M.X.K H av μ S → ER M.X.K H av μ ρ σ →
  Post M.X.K M.cl H av μ (f ρ S) (fun ds _ H' av' μ' => ∀ vs, Reps M.X.K H' av' μ' ds vs → Q vs H') (M.W · · σ) → t σ H Q
def OkAB (M : MX) (es : List Expr) (f : FA) : Prop := ∃ t, PA M.X es t ∧ ∀ (ρ : Env) (S : Store) (σ : L2.St) (H : Hp) (av : Addr → Prop) (μ : List Addr) (Q : List V → Hp → Prop), HG M.X.K H av μ S → ER M.X.K H av μ ρ σ →
  Post M.X.K M.cl H av μ (f ρ S) (fun ds _ H' av' μ' => ∀ vs, RepsB M.X.K H' av' μ' ds vs → Q vs H') (M.W · · σ) → t σ H Q

/-! ### operations on data -/
abbrev F1 := D → Store → R (D × Store)
abbrev F2 := D → D → Store → R (D × Store)
abbrev FN := List D → Store → R (D × Store)
/-- an operation on two values reads as r -/
def Op2 (K : PySem.W.Frag) (f : F2) (r : R2) : Prop := ∀ (cl : Nat → Value) (H : Hp) (av : Addr → Prop) (μ : List Addr) (S : Store) (d e : D) (x y : V) (Q : VK) (W : WK), HG K H av μ S → RepB K H av μ d x → RepB K H av μ e y →
  Post K cl H av μ (f d e S) (fun d _ H' av' μ' => ∀ v, Rep K H' av' μ' d v → Q v H') W → r x y H Q
def Op1 (K : PySem.W.Frag) (f : F1) (r : V → Hp → VK → Prop) : Prop := ∀ (cl : Nat → Value) (H : Hp) (av : Addr → Prop) (μ : List Addr) (S : Store) (d : D) (x : V) (Q : VK) (W : WK), HG K H av μ S → RepB K H av μ d x →
  Post K cl H av μ (f d S) (fun d _ H' av' μ' => ∀ v, Rep K H' av' μ' d v → Q v H') W → r x H Q
def OpN (K : PySem.W.Frag) (f : FN) (r : List V → Hp → VK → Prop) : Prop := ∀ (cl : Nat → Value) (H : Hp) (av : Addr → Prop) (μ : List Addr) (S : Store) (ds : List D) (xs : List V) (Q : VK) (W : WK), HG K H av μ S → RepsB K H av μ ds xs →
  Post K cl H av μ (f ds S) (fun d _ H' av' μ' => ∀ v, Rep K H' av' μ' d v → Q v H') W → r xs H Q

/-! ### the combinators -/
def eC (d : D) : FE := fun _ S => .ok (d, S)
def eV (i : Nat) : FE := fun ρ S => match ρ[i]? with
  | some (.val d) => .ok (d, S)
  | _ => .stuck
/-- a name that is only read: also a list of this frame's own -/
def eVB (i : Nat) : FE := fun ρ S => match ρ[i]? with
  | some (.val d) => .ok (d, S)
  | some (.own xs) => .ok (.lst xs, S)
  | _ => .stuck
def e1 (f : F1) (a : FE) : FE := fun ρ S => (a ρ S).bind fun (x, S1) => f x S1
def e2 (f : F2) (a b : FE) : FE := fun ρ S => (a ρ S).bind fun (x, S1) => (b ρ S1).bind fun (y, S2) => f x y S2
def eN (f : FN) (a : FA) : FE := fun ρ S => (a ρ S).bind fun (xs, S1) => f xs S1
def aNil : FA := fun _ S => .ok ([], S)
def aCons (a : FE) (b : FA) : FA := fun ρ S => (a ρ S).bind fun (x, S1) => (b ρ S1).bind fun (xs, S2) => .ok (x :: xs, S2)
def eTup (a : FA) : FE := fun ρ S => (a ρ S).bind fun (xs, S1) => if xs.length ≤ sizeLine then .ok (.tup xs, S1) else .stuck
def eLst (a : FA) : FE := fun ρ S => (a ρ S).bind fun (xs, S1) => if xs.length ≤ sizeLine then .ok (.lst xs, S1) else .stuck
def tE (a : FE) : FT := fun ρ S => (a ρ S).bind fun (x, S1) => match x with
  | .bl b => .ok (b, S1)
  | _ => .stuck
def tAndF (a b : FT) : FT := fun ρ S => (a ρ S).bind fun (x, S1) => if x = true then b ρ S1 else .ok (false, S1)
def tOrF (a b : FT) : FT := fun ρ S => (a ρ S).bind fun (x, S1) => if x = true then .ok (true, S1) else b ρ S1
def tNotF (a : FT) : FT := fun ρ S => (a ρ S).bind fun (x, S1) => .ok (!x, S1)
def eIf (t : FT) (a b : FE) : FE := fun ρ S => (t ρ S).bind fun (x, S1) => if x = true then a ρ S1 else b ρ S1
def eAnd (a b : FE) : FE := fun ρ S => (a ρ S).bind fun (x, S1) => match x with
  | .bl true => b ρ S1
  | .bl false => .ok (.bl false, S1)
  | _ => .stuck
def eOr (a b : FE) : FE := fun ρ S => (a ρ S).bind fun (x, S1) => match x with
  | .bl true => .ok (.bl true, S1)
  | .bl false => b ρ S1
  | _ => .stuck
def eNot (a : FE) : FE := fun ρ S => (a ρ S).bind fun (x, S1) => match x with
  | .bl b => .ok (.bl (!b), S1)
  | _ => .stuck

section
variable {M : MX} {a b c : Expr} {pos : Pos} {fa fb : FE}

theorem HG.rb {K : PySem.W.Frag} {H : Hp} {av : Addr → Prop} {μ : List Addr} {S : Store} (g : HG K H av μ S) {d : D} {v : V} (h : Rep K H av μ d v) : RepB K H av μ d v := Rep.b g.sub h

theorem okE_b (h : OkE M a fa) : OkB M a fa := by
  obtain ⟨t, p, q⟩ := h
  exact ⟨t, p, fun ρ S σ H av μ Q g e post => q ρ S σ H av μ Q g e (post.mono fun d S' H' av' μ' _ g' k v r => k v (g'.rb r))⟩

/-- a constant -/
theorem okC {d : D} {v : V} (p : PE M.X a (tC v)) (h : ∀ K H av μ, Rep K H av μ d v) : OkE M a (eC d) :=
  ⟨_, p, fun ρ S σ H av μ Q g e post => post H av μ .refl g v (h _ _ _ _)⟩
theorem okInt {i : Int} {j : Nat} : OkE M (.Constant (.int i) j pos) (eC (.int i)) := okC pe_int fun _ _ _ _ => rfl
theorem okBl {x : Bool} {j : Nat} : OkE M (.Constant (.bool x) j pos) (eC (.bl x)) := okC pe_bl fun _ _ _ _ => rfl
theorem okNon {j : Nat} : OkE M (.Constant .none j pos) (eC .non) := okC pe_non fun _ _ _ _ => rfl
theorem okStr {x : Str} {j : Nat} : OkE M (.Constant (.str x) j pos) (eC (.str x)) := okC pe_str fun _ _ _ _ => rfl
theorem okV (i : Nat) (p : PE M.X a (tVar i)) : OkE M a (eV i) := by
  refine ⟨_, p, fun ρ S σ H av μ Q g e post => ?_⟩
  cases h : ρ[i]? with
  | none => exact (by simpa [eV, h, Post] using post : False).elim
  | some s =>
    cases s with
    | no => exact (by simpa [eV, h, Post] using post : False).elim
    | own xs => exact (by simpa [eV, h, Post] using post : False).elim
    | val d =>
      obtain ⟨v, e1, r⟩ := e.at' i _ h
      simp only [eV, h] at post
      exact ⟨v, e1, post.ok g v r⟩
theorem okVB (i : Nat) (p : PE M.X a (tVar i)) : OkB M a (eVB i) := by
  refine ⟨_, p, fun ρ S σ H av μ Q g e post => ?_⟩
  cases h : ρ[i]? with
  | none => exact (by simpa [eVB, h, Post] using post : False).elim
  | some s =>
    cases s with
    | no => exact (by simpa [eVB, h, Post] using post : False).elim
    | own xs =>
      obtain ⟨p, vs, e1, ha, r, va, nm⟩ := e.at' i _ h
      simp only [eVB, h] at post
      exact ⟨_, e1, post.ok g _ ⟨p, vs, rfl, ⟨ha, nm⟩, r⟩⟩
    | val d =>
      obtain ⟨v, e1, r⟩ := e.at' i _ h
      simp only [eVB, h] at post
      exact ⟨v, e1, post.ok g v (g.rb r)⟩

theorem ok1 {f : F1} {r : V → Hp → VK → Prop} {e : Expr} {fa : FE} (o : Op1 M.X.K f r) (ha : OkB M a fa) (p : ∀ ta, PE M.X a ta → PE M.X e (tUn r ta)) : OkE M e (MP.e1 f fa) := by
  obtain ⟨ta, pa, qa⟩ := ha
  refine ⟨_, p ta pa, fun ρ S σ H av μ Q g er post => ?_⟩
  refine qa ρ S σ H av μ _ g er (post.bind.mono fun d S1 H1 av1 μ1 t1 g1 k v rv => ?_)
  exact o M.cl H1 av1 μ1 S1 d v Q _ g1 rv k
theorem ok2 {f : F2} {r : R2} {e : Expr} (o : Op2 M.X.K f r) (ha : OkB M a fa) (hb : OkB M b fb) (p : ∀ ta tb, PE M.X a ta → PE M.X b tb → PE M.X e (tOp r ta tb)) : OkE M e (MP.e2 f fa fb) := by
  obtain ⟨ta, pa, qa⟩ := ha
  obtain ⟨tb, pb, qb⟩ := hb
  refine ⟨_, p ta tb pa pb, fun ρ S σ H av μ Q g er post => ?_⟩
  refine qa ρ S σ H av μ _ g er (post.bind.mono fun d S1 H1 av1 μ1 t1 g1 k v rv => ?_)
  refine qb ρ S1 σ H1 av1 μ1 _ g1 (er.tr t1 g.sub) (k.bind.mono fun d2 S2 H2 av2 μ2 t2 g2 k2 v2 rv2 => ?_)
  exact o M.cl H2 av2 μ2 S2 d d2 v v2 Q _ g2 (RepB.tr t2 g1.sub rv) rv2 k2
theorem okBin {op : Operator} {f : F2} {r : R2} (h : OpR M.X (binaryOp op) r) (o : Op2 M.X.K f r) (ha : OkB M a fa) (hb : OkB M b fb) : OkE M (.BinOp a op b pos) (MP.e2 f fa fb) :=
  ok2 o ha hb fun _ _ pa pb => pe_op h pa pb
theorem okUn {op : UnaryOp} {f : F1} {r : V → Hp → VK → Prop} (h : UnR M.X (unaryOp op) r) (o : Op1 M.X.K f r) (ha : OkB M a fa) : OkE M (.UnaryOp op a pos) (MP.e1 f fa) :=
  ok1 o ha fun _ pa => pe_un h pa
theorem okCmp {op : CmpOp} {f : F2} {r : R2} (h : OpR M.X (compareOp op) r) (o : Op2 M.X.K f r) (ha : OkB M a fa) (hb : OkB M b fb) (hm : behindInMarks op b = false) : OkE M (.Compare a [op] [b] pos) (MP.e2 f fa fb) :=
  ok2 o ha hb fun _ _ pa pb => pe_cmpR h pa pb hm
theorem okIx {f : F2} {r : R2} (h : IxR M.X r) (o : Op2 M.X.K f r) (ha : OkB M a fa) (hb : OkB M b fb) (hs : PlainIx b) : OkE M (.Subscript a b pos) (MP.e2 f fa fb) :=
  ok2 o ha hb fun _ _ pa pb => pe_ix h pa pb hs

/-! arguments -/
theorem okANil : OkA M [] aNil := ⟨_, pa_nil, fun ρ S σ H av μ Q g er post => post H av μ .refl g [] rfl⟩
theorem okABNil : OkAB M [] aNil := ⟨_, pa_nil, fun ρ S σ H av μ Q g er post => post H av μ .refl g [] rfl⟩
theorem okACons {es : List Expr} {fs : FA} (ha : OkE M a fa) (hr : OkA M es fs) (hs : starEach (a :: es) M.X.env = (false, eval a M.X.env) :: starEach es M.X.env := by rfl) : OkA M (a :: es) (aCons fa fs) := by
  obtain ⟨ta, pa, qa⟩ := ha
  obtain ⟨tr, pr, qr⟩ := hr
  refine ⟨_, pa_cons pa pr hs, fun ρ S σ H av μ Q g er post => ?_⟩
  refine qa ρ S σ H av μ _ g er (post.bind.mono fun d S1 H1 av1 μ1 t1 g1 k v rv => ?_)
  refine qr ρ S1 σ H1 av1 μ1 _ g1 (er.tr t1 g.sub) (k.bind.mono fun d2 S2 H2 av2 μ2 t2 g2 k2 v2 rv2 => ?_)
  exact k2.ok g2 _ ⟨_, _, rfl, Rep.tr rv t2 g1.sub, rv2⟩
theorem okABCons {es : List Expr} {fs : FA} (ha : OkB M a fa) (hr : OkAB M es fs) (hs : starEach (a :: es) M.X.env = (false, eval a M.X.env) :: starEach es M.X.env := by rfl) : OkAB M (a :: es) (aCons fa fs) := by
  obtain ⟨ta, pa, qa⟩ := ha
  obtain ⟨tr, pr, qr⟩ := hr
  refine ⟨_, pa_cons pa pr hs, fun ρ S σ H av μ Q g er post => ?_⟩
  refine qa ρ S σ H av μ _ g er (post.bind.mono fun d S1 H1 av1 μ1 t1 g1 k v rv => ?_)
  refine qr ρ S1 σ H1 av1 μ1 _ g1 (er.tr t1 g.sub) (k.bind.mono fun d2 S2 H2 av2 μ2 t2 g2 k2 v2 rv2 => ?_)
  exact k2.ok g2 _ ⟨_, _, rfl, RepB.tr t2 g1.sub rv, rv2⟩

theorem okTup {es : List Expr} {fs : FA} {x1 : Nat} (h : OkA M es fs) : OkE M (.Tuple es x1 pos) (eTup fs) := by
  obtain ⟨t, p, q⟩ := h
  refine ⟨_, pe_tup p, fun ρ S σ H av μ Q g er post => ?_⟩
  refine q ρ S σ H av μ _ g er (post.bind.mono fun ds S1 H1 av1 μ1 t1 g1 k vs rv => ?_)
  by_cases hl : ds.length ≤ sizeLine
  · simp only [hl, if_true] at k
    refine ⟨by rw [rv.len]; exact hl, fun p hp => ?_⟩
    exact k (upd H1 p (.tup vs)) av1 μ1 (.lay hp) (g1.lay hp) _ ⟨p, vs, rfl, .inl ⟨.inl upd_same, g1.nav hp⟩, rv.tr (.lay hp) g1.sub⟩
  · simp only [hl, if_false] at k
    exact k.elim
theorem okLst {es : List Expr} {fs : FA} (h : OkA M es fs) : OkE M (.List es pos) (eLst fs) := by
  obtain ⟨t, p, q⟩ := h
  refine ⟨_, pe_lst p, fun ρ S σ H av μ Q g er post => ?_⟩
  refine q ρ S σ H av μ _ g er (post.bind.mono fun ds S1 H1 av1 μ1 t1 g1 k vs rv => ?_)
  by_cases hl : ds.length ≤ sizeLine
  · simp only [hl, if_true] at k
    refine ⟨by rw [rv.len]; exact hl, fun p hp => ?_⟩
    exact k (upd H1 p (.lst vs)) av1 μ1 (.lay hp) (g1.lay hp) _ ⟨p, vs, rfl, ⟨upd_same, g1.nav hp⟩, rv.tr (.lay hp) g1.sub⟩
  · simp only [hl, if_false] at k
    exact k.elim

/-! calls of built-ins -/
theorem okN {f : FN} {r : List V → Hp → VK → Prop} {e : Expr} {es : List Expr} {fs : FA} (o : OpN M.X.K f r) (p : ∀ ta, PA M.X es ta → PE M.X e (tCB r ta)) (ha : OkAB M es fs) : OkE M e (eN f fs) := by
  obtain ⟨t, pa, q⟩ := ha
  refine ⟨_, p t pa, fun ρ S σ H av μ Q g er post => ?_⟩
  refine q ρ S σ H av μ _ g er (post.bind.mono fun ds S1 H1 av1 μ1 t1 g1 k vs rv => ?_)
  exact o M.cl H1 av1 μ1 S1 ds vs Q _ g1 rv k

/-! tests -/
theorem okTCmp {op : CmpOp} {f : F2} {r : R2} (h : OpR M.X (compareOp op) r) (o : Op2 M.X.K f r) (ha : OkB M a fa) (hb : OkB M b fb) (hm : behindInMarks op b = false) : OkT M (.Compare a [op] [b] pos) (tE (MP.e2 f fa fb)) := by
  obtain ⟨ta, pa, qa⟩ := ha
  obtain ⟨tb, pb, qb⟩ := hb
  refine ⟨_, pt_cmpR h pa pb hm, fun ρ S σ H av μ Q g er post => ?_⟩
  have post' := post.bind
  refine qa ρ S σ H av μ _ g er (post'.bind.mono fun d S1 H1 av1 μ1 t1 g1 k v rv => ?_)
  refine qb ρ S1 σ H1 av1 μ1 _ g1 (er.tr t1 g.sub) (k.bind.mono fun d2 S2 H2 av2 μ2 t2 g2 k2 v2 rv2 => ?_)
  refine o M.cl H2 av2 μ2 S2 d d2 v v2 _ _ g2 (RepB.tr t2 g1.sub rv) rv2 (k2.mono fun d3 S3 H3 av3 μ3 t3 g3 k3 v3 rv3 => ?_)
  cases d3 with
  | bl x =>
    exact ⟨x, rv3, Post.ok (a := x) (show Post _ _ _ _ _ (.ok (x, S3)) _ _ from k3) g3⟩
  | _ => exact (show False from k3).elim
theorem okTE (ha : OkE M a fa) (he : ∀ whole, isTrue a M.X.env whole = (do let v ← whole; standAt a.pos; holding [v] (truthy v)) := by intro _; rfl) : OkT M a (tE fa) := by
  obtain ⟨ta, pa, qa⟩ := ha
  refine ⟨_, pt_val pa he, fun ρ S σ H av μ Q g er post => ?_⟩
  refine qa ρ S σ H av μ _ g er (post.bind.mono fun d S1 H1 av1 μ1 t1 g1 k v rv => ?_)
  cases d with
  | bl x =>
    exact ⟨x, rv, Post.ok (a := x) (show Post _ _ _ _ _ (.ok (x, S1)) _ _ from k) g1⟩
  | _ => exact (show False from k).elim
theorem okTNot {f : FT} (ha : OkT M a f) : OkT M (.UnaryOp .Not a pos) (tNotF f) := by
  obtain ⟨ta, pa, qa⟩ := ha
  refine ⟨_, pt_not pa, fun ρ S σ H av μ Q g er post => ?_⟩
  exact qa ρ S σ H av μ _ g er (post.bind.mono fun d S1 H1 av1 μ1 t1 g1 k => k.ok g1)
/-- and, or: a chain (PW) -/
def OkW (M : MX) (e : Expr) (f : FT) : Prop := ∃ t, PW M.X e t ∧ ∀ (ρ : Env) (S : Store) (σ : L2.St) (H : Hp) (av : Addr → Prop) (μ : List Addr) (Q : Bool → Hp → Prop), HG M.X.K H av μ S → ER M.X.K H av μ ρ σ →
  Post M.X.K M.cl H av μ (f ρ S) (fun b _ H' _ _ => Q b H') (M.W · · σ) → t σ H Q
theorem okW {f : FT} (h : OkW M a f) : OkT M a f := let ⟨t, p, q⟩ := h; ⟨t, p.pt, q⟩
theorem okAnd1 {f : FT} (ha : OkT M a f) : OkW M (.BoolOp .And [a] pos) f := let ⟨t, p, q⟩ := ha; ⟨t, pw_and1 p, q⟩
theorem okOr1 {f : FT} (ha : OkT M a f) : OkW M (.BoolOp .Or [a] pos) f := let ⟨t, p, q⟩ := ha; ⟨t, pw_or1 p, q⟩
theorem okAnd {f f' : FT} {rest : List Expr} (ha : OkT M a f) (hb : OkW M (.BoolOp .And (b :: rest) pos) f') : OkW M (.BoolOp .And (a :: b :: rest) pos) (tAndF f f') := by
  obtain ⟨ta, pa, qa⟩ := ha
  obtain ⟨tb, pb, qb⟩ := hb
  refine ⟨_, pw_and pa pb, fun ρ S σ H av μ Q g er post => ?_⟩
  refine qa ρ S σ H av μ _ g er (post.bind.mono fun d S1 H1 av1 μ1 t1 g1 k => ?_)
  cases d with
  | true => exact iteT (qb ρ S1 σ H1 av1 μ1 Q g1 (er.tr t1 g.sub) (by simpa using k))
  | false => exact iteF (Post.ok (a := false) (S := S1) (by simpa using k) g1)
theorem okOr {f f' : FT} {rest : List Expr} (ha : OkT M a f) (hb : OkW M (.BoolOp .Or (b :: rest) pos) f') : OkW M (.BoolOp .Or (a :: b :: rest) pos) (tOrF f f') := by
  obtain ⟨ta, pa, qa⟩ := ha
  obtain ⟨tb, pb, qb⟩ := hb
  refine ⟨_, pw_or pa pb, fun ρ S σ H av μ Q g er post => ?_⟩
  refine qa ρ S σ H av μ _ g er (post.bind.mono fun d S1 H1 av1 μ1 t1 g1 k => ?_)
  cases d with
  | false => exact iteF (qb ρ S1 σ H1 av1 μ1 Q g1 (er.tr t1 g.sub) (by simpa using k))
  | true => exact iteT (Post.ok (a := true) (S := S1) (by simpa using k) g1)
theorem okIf {f : FT} (hc : OkT M c f) (ha : OkE M a fa) (hb : OkE M b fb) : OkE M (.IfExp c a b pos) (eIf f fa fb) := by
  obtain ⟨tc, pc, qc⟩ := hc
  obtain ⟨ta, pa, qa⟩ := ha
  obtain ⟨tb, pb, qb⟩ := hb
  refine ⟨_, pe_ifExp pc pa pb, fun ρ S σ H av μ Q g er post => ?_⟩
  refine qc ρ S σ H av μ _ g er (post.bind.mono fun d S1 H1 av1 μ1 t1 g1 k => ?_)
  cases d with
  | true => exact iteT (qa ρ S1 σ H1 av1 μ1 Q g1 (er.tr t1 g.sub) (by simpa using k))
  | false => exact iteF (qb ρ S1 σ H1 av1 μ1 Q g1 (er.tr t1 g.sub) (by simpa using k))
/-! and, or as values of bools -/
theorem okOne {op} (ha : OkE M a fa) : OkE M (.BoolOp op [a] pos) fa := let ⟨t, p, q⟩ := ha; ⟨t, pe_one p, q⟩
theorem okAndV {rest : List Expr} (ha : OkE M a fa) (hb : OkE M (.BoolOp .And (b :: rest) pos) fb) : OkE M (.BoolOp .And (a :: b :: rest) pos) (eAnd fa fb) := by
  obtain ⟨ta, pa, qa⟩ := ha
  obtain ⟨tb, pb, qb⟩ := hb
  refine ⟨_, pe_and pa pb, fun ρ S σ H av μ Q g er post => ?_⟩
  refine qa ρ S σ H av μ _ g er (post.bind.mono fun d S1 H1 av1 μ1 t1 g1 k v rv => ?_)
  cases d with
  | bl x =>
    refine ⟨x, rv, ?_⟩
    cases x with
    | true => exact iteT (qb ρ S1 σ H1 av1 μ1 Q g1 (er.tr t1 g.sub) k)
    | false => exact iteF (Post.ok (a := D.bl false) (S := S1) k g1 _ rfl)
  | _ => exact (show False from k).elim
theorem okOrV {rest : List Expr} (ha : OkE M a fa) (hb : OkE M (.BoolOp .Or (b :: rest) pos) fb) : OkE M (.BoolOp .Or (a :: b :: rest) pos) (eOr fa fb) := by
  obtain ⟨ta, pa, qa⟩ := ha
  obtain ⟨tb, pb, qb⟩ := hb
  refine ⟨_, pe_or pa pb, fun ρ S σ H av μ Q g er post => ?_⟩
  refine qa ρ S σ H av μ _ g er (post.bind.mono fun d S1 H1 av1 μ1 t1 g1 k v rv => ?_)
  cases d with
  | bl x =>
    refine ⟨x, rv, ?_⟩
    cases x with
    | false => exact iteF (qb ρ S1 σ H1 av1 μ1 Q g1 (er.tr t1 g.sub) k)
    | true => exact iteT (Post.ok (a := D.bl true) (S := S1) k g1 _ rfl)
  | _ => exact (show False from k).elim
theorem okNotV (ha : OkE M a fa) : OkE M (.UnaryOp .Not a pos) (eNot fa) := by
  obtain ⟨ta, pa, qa⟩ := ha
  refine ⟨_, pe_not pa, fun ρ S σ H av μ Q g er post => ?_⟩
  refine qa ρ S σ H av μ _ g er (post.bind.mono fun d S1 H1 av1 μ1 t1 g1 k v rv => ?_)
  cases d with
  | bl x => exact ⟨x, rv, Post.ok (a := D.bl (!x)) (S := S1) k g1 _ rfl⟩
  | _ => exact (show False from k).elim
end
end MP
/-! MP: statements, defs. -/
namespace MP
open PySem L2

inductive Out where
  | nx (ρ : Env) | rt (d : D) | bk (ρ : Env) | ct (ρ : Env) | ex (x : Xn) (ρ : Env)
abbrev SS := Env → Store → R (Out × Store)

/-- where a frame began: what it must leave as it is -/
structure Fr where
  H : Hp
  lo : Addr → Prop
  hi : Addr → Prop
  μ : List Addr
  foot : Addr → Prop

structure FB (K : PySem.W.Frag) (F : Fr) (S : Store) (H : Hp) (av : Addr → Prop) (μ : List Addr) : Prop where
  g : HG K H av μ S
  base : ∀ a o, F.H a = some o → ¬ F.foot a → H a = some o
  dom : ∀ a, F.H a ≠ none → H a ≠ none
  avm : ∀ a, F.lo a → av a
  avn : ∀ a, av a → F.hi a ∨ F.H a = none
  pre : ∃ ν, μ = F.μ ++ ν
  new : ∀ a ∈ μ, a ∈ F.μ ∨ F.H a = none
  sub : ∀ a ∈ F.μ, F.foot a
structure FR (K : PySem.W.Frag) (F : Fr) (ρ : Env) (S : Store) (σ : L2.St) (H : Hp) (av : Addr → Prop) (μ : List Addr) : Prop extends FB K F S H av μ where
  e : ER K H av μ ρ σ
  own : ∀ i a, Owns ρ σ i a → (F.foot a ∨ F.H a = none) ∧ ¬ F.lo a

section
variable {K : PySem.W.Frag} {cl : Nat → Value} {F : Fr} {H H1 H2 H' : Hp} {av av1 av2 av' bad bad' : Addr → Prop} {μ μ1 μ2 μ' : List Addr} {S S' : Store} {ρ ρ' : Env} {σ σ' : L2.St} {W : WX} {D' : Ends}

theorem FB.tr (f : FB K F S H av μ) (t : Tr H av μ H' av' μ') (g : HG K H' av' μ' S') : FB K F S' H' av' μ' where
  g := g
  base := fun a o h n => t.keep a o (f.base a o h n) fun hm => (f.new a hm).elim (fun z => n (f.sub a z)) fun z => by rw [h] at z; cases z
  dom := fun a h => t.dom a (f.dom a h)
  avm := fun a h => t.avm a (f.avm a h)
  avn := fun a h => (t.avn a h).elim (f.avn a) fun z => .inr (by
    cases e : F.H a with
    | none => rfl
    | some o => exact absurd z (f.dom a (by rw [e]; simp)))
  pre := let ⟨ν, h⟩ := f.pre; let ⟨ν', h'⟩ := t.pre; ⟨ν ++ ν', by rw [h', h, List.append_assoc]⟩
  new := fun a h => (t.new a h).elim (f.new a) fun z => .inr (by
    cases e : F.H a with
    | none => rfl
    | some o => exact absurd z (f.dom a (by rw [e]; simp)))
  sub := f.sub
theorem FR.tr (f : FR K F ρ S σ H av μ) (t : Tr H av μ H' av' μ') (g : HG K H' av' μ' S') : FR K F ρ S' σ H' av' μ' :=
  { f.toFB.tr t g with e := f.e.tr t f.g.sub, own := f.own }

def PostS (K : PySem.W.Frag) (cl : Nat → Value) (F : Fr) (r : R (Out × Store)) (D' : Ends) (W : WX) : Prop := match r with
  | .ok (.nx ρ', S') => ∀ σ' H' av' μ', FR K F ρ' S' σ' H' av' μ' → D'.nx σ' H'
  | .ok (.rt d, S') => ∀ v H' av' μ', FB K F S' H' av' μ' → Rep K H' av' μ' d v → D'.rt v H'
  | .ok (.bk ρ', S') => ∀ σ' H' av' μ', FR K F ρ' S' σ' H' av' μ' → D'.bk σ' H'
  | .ok (.ct ρ', S') => ∀ σ' H' av' μ', FR K F ρ' S' σ' H' av' μ' → D'.ct σ' H'
  | .ok (.ex x ρ', S') => ∀ c dx σ' H' av' μ', FR K F ρ' S' σ' H' av' μ' → XRep K H' av' μ' cl x c dx → W c dx σ' H'
  | _ => False

def sBind {α : Type} (r : R (α × Store)) (ρ : Env) (k : α × Store → R (Out × Store)) : R (Out × Store) := match r with
  | .stuck => .stuck
  | .ok p => k p
  | .exc x S => .ok (.ex x ρ, S)
theorem sBind_ok {α : Type} (p : α × Store) (ρ : Env) (k : α × Store → R (Out × Store)) : sBind (.ok p) ρ k = k p := rfl

theorem PostS.bind {α : Type} {r : R (α × Store)} {k : α × Store → R (Out × Store)} (h : PostS K cl F (sBind r ρ k) D' W) (f : FR K F ρ S σ H av μ) :
    Post K cl H av μ r (fun a S1 H1 av1 μ1 => FR K F ρ S1 σ H1 av1 μ1 ∧ PostS K cl F (k (a, S1)) D' W) (W · · σ) := by
  cases r with
  | stuck => exact h
  | ok p => exact fun H' av' μ' t g => ⟨f.tr t g, h⟩
  | exc x S' => exact fun c dx H' av' μ' t g xr => h c dx σ H' av' μ' (f.tr t g) xr
end

def OkS (M : MX) (st : Stmt) (f : SS) : Prop := ∃ t, PS M.X st t ∧ ∀ (F : Fr) (ρ : Env) (S : Store) (σ : L2.St) (H : Hp) (av : Addr → Prop) (μ : List Addr) (D' : Ends), FR M.X.K F ρ S σ H av μ →
  PostS M.X.K M.cl F (f ρ S) D' M.W → t D' σ H
def OkSs (M : MX) (st : List Stmt) (f : SS) : Prop := ∃ t, PSs M.X st t ∧ ∀ (F : Fr) (ρ : Env) (S : Store) (σ : L2.St) (H : Hp) (av : Addr → Prop) (μ : List Addr) (D' : Ends), FR M.X.K F ρ S σ H av μ →
  PostS M.X.K M.cl F (f ρ S) D' M.W → t D' σ H

/-! ### the combinators -/
def sNil : SS := fun ρ S => .ok (.nx ρ, S)
/-- what follows if the first goes on -/
def R.thn (r : R (Out × Store)) (k : Env → Store → R (Out × Store)) : R (Out × Store) := match r with
  | .ok (.nx ρ, S) => k ρ S
  | r => r
def sSeq (a b : SS) : SS := fun ρ S => (a ρ S).thn b
def sRet (e : FE) : SS := fun ρ S => sBind (e ρ S) ρ fun (d, S1) => .ok (.rt d, S1)
def sRetN : SS := fun _ S => .ok (.rt .non, S)
def sDrop (e : FE) : SS := fun ρ S => sBind (e ρ S) ρ fun (_, S1) => .ok (.nx ρ, S1)
def sSet (i : Nat) (e : FE) : SS := fun ρ S => sBind (e ρ S) ρ fun (d, S1) => .ok (.nx (ρ.set i (.val d)), S1)
def sIf (t : FT) (a b : SS) : SS := fun ρ S => sBind (t ρ S) ρ fun (x, S1) => if x = true then a ρ S1 else b ρ S1
def sBrk : SS := fun ρ S => .ok (.bk ρ, S)
def sCnt : SS := fun ρ S => .ok (.ct ρ, S)
def sBad : SS := fun _ _ => .stuck
def eBad : FE := fun _ _ => .stuck
/-- from here on slot i's list is no longer changed -/
def frz (i : Nat) (ρ : Env) : Env := match ρ[i]? with
  | some (.own xs) => ρ.set i (.val (.lst xs))
  | _ => ρ
def sFrz (i : Nat) (s : SS) : SS := fun ρ S => s (frz i ρ) S

section
variable {M : MX} {a b c e : Expr} {pos : Pos} {fa fb fe : FE} {st : Stmt} {sts : List Stmt} {f g : SS}

theorem okNil : OkSs M [] sNil := ⟨_, pss_nil, fun F ρ S σ H av μ D' fr post => post σ H av μ fr⟩
theorem okOneS (h : OkS M st f) : OkSs M [st] f := let ⟨t, p, q⟩ := h; ⟨t, pss_one p, q⟩
theorem PostS.thn {K : PySem.W.Frag} {cl : Nat → Value} {F : Fr} {r : R (Out × Store)} {k : SS} {D' : Ends} {W : WX} (h : PostS K cl F (r.thn k) D' W) :
    PostS K cl F r { D' with nx := fun σ' H' => ∃ ρ' S' av' μ', FR K F ρ' S' σ' H' av' μ' ∧ PostS K cl F (k ρ' S') D' W } W := by
  cases r with
  | stuck => exact h
  | exc x S => exact h
  | ok p =>
    obtain ⟨o, S⟩ := p
    cases o with
    | nx ρ => exact fun σ' H' av' μ' fr => ⟨ρ, S, av', μ', fr, h⟩
    | rt d => exact h
    | bk ρ => exact h
    | ct ρ => exact h
    | ex x ρ => exact h
theorem okSeq (h : OkS M st f) (h2 : OkSs M sts g) : OkSs M (st :: sts) (sSeq f g) := by
  obtain ⟨t, p, q⟩ := h
  obtain ⟨t2, p2, q2⟩ := h2
  refine ⟨_, pss_cons p p2, fun F ρ S σ H av μ D' fr post => ?_⟩
  refine q F ρ S σ H av μ _ fr ?_
  have z := PostS.thn post
  revert z
  generalize f ρ S = r
  intro z
  cases r with
  | stuck => exact z
  | exc x S => exact z
  | ok p =>
    obtain ⟨o, S1⟩ := p
    cases o with
    | nx ρ1 =>
      intro σ' H' av' μ' fr'
      obtain ⟨ρ2, S2, av2, μ2, fr2, post2⟩ := z σ' H' av' μ' fr'
      exact q2 F ρ2 S2 σ' H' av2 μ2 D' fr2 post2
    | rt d => exact z
    | bk ρ1 => exact z
    | ct ρ1 => exact z
    | ex x ρ1 => exact z
theorem okRet (h : OkE M e fe) : OkS M (.Return (some e) pos) (sRet fe) := by
  obtain ⟨t, p, q⟩ := h
  refine ⟨_, ps_ret p, fun F ρ S σ H av μ D' fr post => ?_⟩
  exact q ρ S σ H av μ _ fr.g fr.e ((PostS.bind post fr).mono fun d S1 H1 av1 μ1 t1 g1 k v rv => k.2 v H1 av1 μ1 k.1.toFB rv)
theorem okRetN : OkS M (.Return none pos) sRetN := ⟨_, ps_retN, fun F ρ S σ H av μ D' fr post => post .non H av μ fr.toFB rfl⟩
theorem okDrop (h : OkE M e fe) (hs : swapsWith e none pos.line M.X.env = pure false := by rfl) : OkS M (.Expr e pos) (sDrop fe) := by
  obtain ⟨t, p, q⟩ := h
  refine ⟨_, ps_expr p hs, fun F ρ S σ H av μ D' fr post => ?_⟩
  exact q ρ S σ H av μ _ fr.g fr.e ((PostS.bind post fr).mono fun d S1 H1 av1 μ1 t1 g1 k v rv => k.2 σ H1 av1 μ1 k.1)
theorem okDoc {x : Str} {j : Nat} {pos' : Pos} : OkS M (.Expr (.Constant (.str x) j pos) pos') sNil := ⟨_, ps_doc, fun F ρ S σ H av μ D' fr post => post σ H av μ fr⟩
theorem okPass : OkS M (.Pass pos) sNil := ⟨_, ps_pass, fun F ρ S σ H av μ D' fr post => post σ H av μ fr⟩
theorem okBrk : OkS M (.Break pos) sBrk := ⟨_, ps_break, fun F ρ S σ H av μ D' fr post => post σ H av μ fr⟩
theorem okCnt : OkS M (.Continue pos) sCnt := ⟨_, ps_continue, fun F ρ S σ H av μ D' fr post => post σ H av μ fr⟩
theorem okBadS : OkS M st sBad := ⟨_, ps_never, fun F ρ S σ H av μ D' fr post => (show False from post).elim⟩
theorem okBadSs : OkSs M sts sBad := ⟨_, pss_never, fun F ρ S σ H av μ D' fr post => (show False from post).elim⟩
theorem okBadE : OkE M e eBad := ⟨fun _ _ _ => False, ⟨fun _ _ _ _ _ _ h => h.elim⟩, fun ρ S σ H av μ Q g er post => (show False from post).elim⟩

/-! a slot is set -/
theorem owns_set {ρ : Env} {σ : L2.St} {i j : Nat} {d : D} {v : Option V} {a : Addr} (h : Owns (ρ.set i (.val d)) (σ.set i v) j a) : Owns ρ σ j a := by
  obtain ⟨xs, h1, h2⟩ := h
  by_cases e : j = i
  · subst e
    rw [List.getElem?_set] at h1
    simp at h1
  · rw [List.getElem?_set_ne (Ne.symm e)] at h1 h2
    exact ⟨xs, h1, h2⟩
theorem ER.set {K : PySem.W.Frag} {H : Hp} {av : Addr → Prop} {μ : List Addr} {ρ : Env} {σ : L2.St} {i : Nat} {d : D} {v : V} (e : ER K H av μ ρ σ) (r : Rep K H av μ d v) : ER K H av μ (ρ.set i (.val d)) (σ.set i (some v)) where
  len := by rw [List.length_set, List.length_set]; exact e.len
  at' := fun j s h => by
    by_cases q : j = i
    · subst q
      have hl : j < ρ.length := by
        have z := (List.getElem?_eq_some_iff.mp h).1
        rwa [List.length_set] at z
      rw [List.getElem?_set_self hl] at h
      cases h
      rw [List.getElem?_set_self (by rw [e.len]; exact hl)]
      exact ⟨v, rfl, r⟩
    · rw [List.getElem?_set_ne (Ne.symm q)] at h ⊢
      exact e.at' j s h
  one := fun j k a h1 h2 => e.one j k a (owns_set h1) (owns_set h2)
theorem FR.set {K : PySem.W.Frag} {F : Fr} {H : Hp} {av : Addr → Prop} {μ : List Addr} {S : Store} {ρ : Env} {σ : L2.St} {i : Nat} {d : D} {v : V} (f : FR K F ρ S σ H av μ) (r : Rep K H av μ d v) : FR K F (ρ.set i (.val d)) S (σ.set i (some v)) H av μ :=
  { f.toFB with e := f.e.set r, own := fun j a h => f.own j a (owns_set h) }
theorem okSet (i : Nat) {x : Str} {pos' : Pos} (h : OkE M e fe) (p : ∀ te, PE M.X e te → PS M.X (.Assign [.Name x pos'] e pos) (tAsg te (gName i))) : OkS M (.Assign [.Name x pos'] e pos) (sSet i fe) := by
  obtain ⟨t, pe, q⟩ := h
  refine ⟨_, p t pe, fun F ρ S σ H av μ D' fr post => ?_⟩
  exact q ρ S σ H av μ _ fr.g fr.e ((PostS.bind post fr).mono fun d S1 H1 av1 μ1 t1 g1 k v rv => k.2 _ H1 av1 μ1 (k.1.set rv))
theorem okIfS {t : FT} {ths els : List Stmt} (hc : OkT M c t) (h1 : OkSs M ths f) (h2 : OkSs M els g) : OkS M (.If c ths els pos) (sIf t f g) := by
  obtain ⟨tc, pc, qc⟩ := hc
  obtain ⟨ta, pa, qa⟩ := h1
  obtain ⟨tb, pb, qb⟩ := h2
  refine ⟨_, ps_if pc pa pb, fun F ρ S σ H av μ D' fr post => ?_⟩
  refine qc ρ S σ H av μ _ fr.g fr.e ((PostS.bind post fr).mono fun x S1 H1 av1 μ1 t1 g1 k => ?_)
  cases x with
  | true => exact iteT (qa F ρ S1 σ H1 av1 μ1 D' k.1 (by simpa using k.2))
  | false => exact iteF (qb F ρ S1 σ H1 av1 μ1 D' k.1 (by simpa using k.2))

/-! freezing -/
theorem FR.frz {K : PySem.W.Frag} {F : Fr} {H : Hp} {av : Addr → Prop} {μ : List Addr} {S : Store} {ρ : Env} {σ : L2.St} (i : Nat) (f : FR K F ρ S σ H av μ) : ∃ av', FR K F (MP.frz i ρ) S σ H av' μ := by
  unfold MP.frz
  cases h : ρ[i]? with
  | none => exact ⟨av, f⟩
  | some s =>
    cases s with
    | no => exact ⟨av, f⟩
    | val d => exact ⟨av, f⟩
    | own xs =>
      obtain ⟨a, vs, e1, ha, r, va, nm⟩ := f.e.at' i _ h
      have hO : Owns ρ σ i a := ⟨xs, h, e1⟩
      have hil : i < ρ.length := (List.getElem?_eq_some_iff.mp h).1
      have go : Goes K H av μ H (fun x => av x ∧ x ≠ a) μ := ⟨fun b o e n => ⟨e, fun z => n z.1⟩, ⟨[], by simp⟩⟩
      have own' : ∀ j b, Owns (ρ.set i (.val (.lst xs))) σ j b → Owns ρ σ j b ∧ j ≠ i := fun j b ⟨ys, z1, z2⟩ => by
        by_cases q : j = i
        · subst q
          rw [List.getElem?_set_self hil] at z1
          cases z1
        · rw [List.getElem?_set_ne (Ne.symm q)] at z1
          exact ⟨⟨ys, z1, z2⟩, q⟩
      refine ⟨fun x => av x ∧ x ≠ a, ⟨⟨⟨f.g.len, f.g.nd, fun b hb => ⟨f.g.sub b hb, fun z => nm (z ▸ hb)⟩, fun b hb => f.g.dom b hb.1, fun j b o z1 z2 => (f.g.obj j b o z1 z2).tr' go fun _ q => q⟩, f.base, f.dom, fun b hb => ⟨f.avm b hb, fun z => (f.own i a hO).2 (z ▸ hb)⟩, fun b hb => f.avn b hb.1, f.pre, f.new, f.sub⟩, ⟨by rw [List.length_set]; exact f.e.len, fun j s z => ?_, fun j k b z1 z2 => f.e.one j k b (own' j b z1).1 (own' k b z2).1⟩, fun j b z => f.own j b (own' j b z).1⟩⟩
      by_cases q : j = i
      · subst q
        rw [List.getElem?_set_self hil] at z
        cases z
        exact ⟨.ref a, e1, a, vs, rfl, ⟨ha, fun z => z.2 rfl⟩, Reps.goes go _ _ r⟩
      · rw [List.getElem?_set_ne (Ne.symm q)] at z
        have w := f.e.at' j s z
        cases s with
        | no => trivial
        | val d =>
          obtain ⟨v, w1, w2⟩ := w
          exact ⟨v, w1, Rep.goes go _ _ w2⟩
        | own ys =>
          obtain ⟨b, us, w1, w2, w3, w4, w5⟩ := w
          exact ⟨b, us, w1, w2, Reps.goes go _ _ w3, ⟨w4, fun z' => q (f.e.one j i a (z' ▸ ⟨ys, z, w1⟩) hO)⟩, w5⟩
theorem okFrz (i : Nat) (h : OkS M st f) : OkS M st (sFrz i f) := by
  obtain ⟨t, p, q⟩ := h
  refine ⟨t, p, fun F ρ S σ H av μ D' fr post => ?_⟩
  obtain ⟨av', fr'⟩ := fr.frz i
  exact q F _ S σ H av' μ D' fr' post
end
end MP
/-! MP: loops, comprehensions, lists of a frame's own, defs. -/
namespace MP
open PySem L2

def R.loop (r : R (Out × Store)) (k : Env → Store → R (Out × Store)) : R (Out × Store) := match r with
  | .ok (.nx ρ, S) => k ρ S
  | .ok (.ct ρ, S) => k ρ S
  | .ok (.bk ρ, S) => .ok (.nx ρ, S)
  | r => r
def whileF (t : FT) (body : SS) : Nat → SS
  | 0, _, _ => .stuck
  | n + 1, ρ, S => sBind (t ρ S) ρ fun (b, S1) => if b = true then (body ρ S1).loop (whileF t body n) else .ok (.nx ρ, S1)
abbrev TGT := D → Env → Option Env
def forF (tg : TGT) (body : SS) : List D → SS
  | [], ρ, S => .ok (.nx ρ, S)
  | x :: xs, ρ, S => match tg x ρ with
    | none => .stuck
    | some ρ1 => (body ρ1 S).loop (forF tg body xs)
abbrev FI := Env → Store → R (List D × Store)
def sFor (it : FI) (tg : TGT) (body : SS) : SS := fun ρ S => sBind (it ρ S) ρ fun (xs, S1) => forF tg body xs ρ S1

/-- what a loop's body leads to -/
def loopEnds (D' : Ends) (N : L2.St → Hp → Prop) : Ends := { D' with nx := N, ct := N, bk := D'.nx }
section
variable {M : MX} {K : PySem.W.Frag} {cl : Nat → Value} {F : Fr} {r : R (Out × Store)} {k : Env → Store → R (Out × Store)} {D' : Ends} {W : WX}
theorem PostS.loop (h : PostS K cl F (r.loop k) D' W) :
    PostS K cl F r (loopEnds D' fun σ' H' => ∃ ρ' S' av' μ', FR K F ρ' S' σ' H' av' μ' ∧ PostS K cl F (k ρ' S') D' W) W := by
  cases r with
  | stuck => exact h
  | exc x S => exact h
  | ok p =>
    obtain ⟨o, S⟩ := p
    cases o with
    | nx ρ => exact fun σ' H' av' μ' fr => ⟨ρ, S, av', μ', fr, h⟩
    | ct ρ => exact fun σ' H' av' μ' fr => ⟨ρ, S, av', μ', fr, h⟩
    | rt d => exact h
    | bk ρ => exact h
    | ex x ρ => exact h
theorem PostS.nx_mono {N N' : L2.St → Hp → Prop} (h : PostS K cl F r (loopEnds D' N) W) (w : ∀ σ H, N σ H → N' σ H) : PostS K cl F r (loopEnds D' N') W := by
  cases r with
  | stuck => exact h
  | exc x S => exact h
  | ok p =>
    obtain ⟨o, S⟩ := p
    cases o with
    | nx ρ => exact fun σ' H' av' μ' fr => w _ _ (h σ' H' av' μ' fr)
    | ct ρ => exact fun σ' H' av' μ' fr => w _ _ (h σ' H' av' μ' fr)
    | rt d => exact h
    | bk ρ => exact h
    | ex x ρ => exact h
/-- a loop within the frame: the frame begins anew at the loop, and goes on behind it -/
def Fr.at' (F : Fr) (ρ : Env) (σ : L2.St) (H : Hp) (av : Addr → Prop) (μ : List Addr) : Fr := ⟨H, F.lo, av, μ, fun a => a ∈ μ ∨ ∃ i, Owns ρ σ i a⟩
theorem FR.here {ρ : Env} {S : Store} {σ : L2.St} {H : Hp} {av : Addr → Prop} {μ : List Addr} (f : FR K F ρ S σ H av μ) : FR K (F.at' ρ σ H av μ) ρ S σ H av μ where
  g := f.g
  base := fun _ _ h _ => h
  dom := fun _ h => h
  avm := f.avm
  avn := fun _ h => .inl h
  pre := ⟨[], by simp [Fr.at']⟩
  new := fun _ h => .inl h
  sub := fun _ h => .inl h
  e := f.e
  own := fun i a h => ⟨.inl (.inr ⟨i, h⟩), (f.own i a h).2⟩
theorem none_of {H H' : Hp} {a : Addr} (h : ∀ a, H a ≠ none → H' a ≠ none) (z : H' a = none) : H a = none := by
  cases e : H a with
  | none => rfl
  | some o => exact absurd z (h a (by rw [e]; simp))
theorem FB.back {ρ : Env} {S S' : Store} {σ : L2.St} {H H' : Hp} {av av' : Addr → Prop} {μ μ' : List Addr} (f : FR K F ρ S σ H av μ) (h : FB K (F.at' ρ σ H av μ) S' H' av' μ') : FB K F S' H' av' μ' where
  g := h.g
  base := fun a o e n => h.base a o (f.base a o e n) fun z => by
    rcases z with z | ⟨i, z⟩
    · exact (f.new a z).elim (fun q => n (f.sub a q)) fun q => by rw [e] at q; cases q
    · exact ((f.own i a z).1).elim n fun q => by rw [e] at q; cases q
  dom := fun a e => h.dom a (f.dom a e)
  avm := h.avm
  avn := fun a e => (h.avn a e).elim (f.avn a) fun z => .inr (none_of f.dom z)
  pre := let ⟨ν, p⟩ := f.pre; let ⟨ν', p'⟩ := h.pre; ⟨ν ++ ν', by rw [p', show (F.at' ρ σ H av μ).μ = μ from rfl, p, List.append_assoc]⟩
  new := fun a e => (h.new a e).elim (f.new a) fun z => .inr (none_of f.dom z)
  sub := f.sub
theorem FR.back {ρ ρ' : Env} {S S' : Store} {σ σ' : L2.St} {H H' : Hp} {av av' : Addr → Prop} {μ μ' : List Addr} (f : FR K F ρ S σ H av μ) (h : FR K (F.at' ρ σ H av μ) ρ' S' σ' H' av' μ') : FR K F ρ' S' σ' H' av' μ' :=
  { h.toFB.back f with
    e := h.e
    own := fun i a z => by
      obtain ⟨z1, z2⟩ := h.own i a z
      refine ⟨?_, z2⟩
      rcases z1 with (z1 | ⟨j, z1⟩) | z1
      · obtain ⟨xs, e1, e2⟩ := z
        obtain ⟨b, vs, w1, w2, w3, w4, w5⟩ := h.e.at' i _ e1
        rw [e2] at w1
        cases w1
        obtain ⟨ν, p⟩ := h.pre
        exact absurd (by rw [p]; exact List.mem_append_left _ z1) w5
      · exact (f.own j a z1).1
      · exact .inr (none_of f.dom z1) }
theorem PostS.back {ρ : Env} {S : Store} {σ : L2.St} {H : Hp} {av : Addr → Prop} {μ : List Addr} (f : FR K F ρ S σ H av μ) (h : PostS K cl F r D' W) : PostS K cl (F.at' ρ σ H av μ) r D' W := by
  cases r with
  | stuck => exact h
  | exc x S => exact h
  | ok p =>
    obtain ⟨o, S⟩ := p
    cases o with
    | nx ρ => exact fun σ' H' av' μ' fr => h _ _ _ _ (f.back fr)
    | ct ρ => exact fun σ' H' av' μ' fr => h _ _ _ _ (f.back fr)
    | rt d => exact fun v H' av' μ' fr => h _ _ _ _ (FB.back f fr)
    | bk ρ => exact fun σ' H' av' μ' fr => h _ _ _ _ (f.back fr)
    | ex x ρ => exact fun c dx σ' H' av' μ' fr => h _ _ _ _ _ _ (f.back fr)
theorem Goes.of_FR {ρ : Env} {S S' : Store} {σ : L2.St} {H H' : Hp} {av av' : Addr → Prop} {μ μ' : List Addr} (f : FR K F ρ S σ H av μ) (h : FB K (F.at' ρ σ H av μ) S' H' av' μ') : Goes K H av μ H' av' μ' := by
  refine ⟨fun a o e n => ⟨h.base a o e fun z => n ?_, fun z => (h.avn a z).elim n fun q => by rw [show H a = none from q] at e; cases e⟩, h.pre⟩
  rcases z with z | ⟨i, xs, z1, z2⟩
  · exact f.g.sub a z
  · obtain ⟨b, vs, w1, _, _, w4, _⟩ := f.e.at' i _ z1
    rw [z2] at w1
    cases w1
    exact w4

theorem okWhile {c : Expr} {body : List Stmt} {pos : Pos} {t : FT} {f : SS} (n : Nat) (hp : PassesOwn (model M.X.prog M.X.w) M.X.A M.X.env M.X.xe) (hc : OkT M c t) (hb : OkSs M body f) : OkS M (.While c body [] pos) (whileF t f n) := by
  obtain ⟨tc, pc, qc⟩ := hc
  obtain ⟨tb, pb, qb⟩ := hb
  refine ⟨_, ps_while hp pc pb, fun F ρ S σ H av μ D' fr post => ?_⟩
  refine ⟨fun m σ H => ∃ ρ S av μ, FR M.X.K F ρ S σ H av μ ∧ PostS M.X.K M.cl F (whileF t f m ρ S) D' M.W, ⟨n, ρ, S, av, μ, fr, post⟩, ?_⟩
  rintro m σ H ⟨ρ, S, av, μ, fr, post⟩
  cases m with
  | zero => exact (show False from post).elim
  | succ m =>
    refine qc ρ S σ H av μ _ fr.g fr.e ((PostS.bind post fr).mono fun x S1 H1 av1 μ1 t1 g1 k => ?_)
    cases x with
    | false => exact iteF (k.2 σ H1 av1 μ1 k.1)
    | true =>
      refine iteT ⟨fun σ' H' => ∃ ρ' S' av' μ', FR M.X.K F ρ' S' σ' H' av' μ' ∧ PostS M.X.K M.cl F (whileF t f m ρ' S') D' M.W, fun σ' H' w => ⟨m, Nat.lt_succ_self m, w⟩, ?_⟩
      exact qb F ρ S1 σ H1 av1 μ1 _ k.1 (PostS.loop (by simpa using k.2))

/-! ### what is walked -/
def Lay (H H' : Hp) : Prop := H' = H ∨ ∃ p o, H p = none ∧ H' = upd H p o
/-- J walks the items, as long as what was there at (H1, av1, μ1) is there -/
def Over (K : PySem.W.Frag) (H1 : Hp) (av1 : Addr → Prop) (μ1 : List Addr) (items : List D) (J : It) : Prop := ∀ H av μ, Goes K H1 av1 μ1 H av μ →
  (∀ i, i < items.length → J.go i H) ∧ J.stop items.length H ∧ ∀ i x H', i < items.length → J.yld i H x H' → Lay H H' ∧ ∀ d S, HG K H av μ S → items[i]? = some d → Rep K H' av μ d x
theorem Goes.refl {H : Hp} {av : Addr → Prop} {μ : List Addr} : Goes K H av μ H av μ := ⟨fun _ _ h n => ⟨h, n⟩, ⟨[], by simp⟩⟩
theorem Goes.trans {H H1 H2 : Hp} {av av1 av2 : Addr → Prop} {μ μ1 μ2 : List Addr} (a : Goes K H av μ H1 av1 μ1) (b : Goes K H1 av1 μ1 H2 av2 μ2) : Goes K H av μ H2 av2 μ2 :=
  ⟨fun x o h n => let ⟨h1, n1⟩ := a.1 x o h n; b.1 x o h1 n1, let ⟨ν, h⟩ := a.2; let ⟨ν', h'⟩ := b.2; ⟨ν ++ ν', by rw [h', h, List.append_assoc]⟩⟩
theorem Lay.tr {H H' : Hp} {av : Addr → Prop} {μ : List Addr} (l : Lay H H') : Tr H av μ H' av μ := by
  rcases l with rfl | ⟨p, o, hp, rfl⟩
  · exact .refl
  · exact .lay hp
theorem Lay.hg {H H' : Hp} {av : Addr → Prop} {μ : List Addr} {S : Store} (l : Lay H H') (g : HG K H av μ S) : HG K H' av μ S := by
  rcases l with rfl | ⟨p, o, hp, rfl⟩
  · exact g
  · exact g.lay hp
def OkI (M : MX) (tg iter : Expr) (f : FI) : Prop := ∃ wi, PI M.X tg iter wi ∧ ∀ (ρ : Env) (S : Store) (σ : L2.St) (H : Hp) (av : Addr → Prop) (μ : List Addr) (R : It → Hp → Prop), HG M.X.K H av μ S → ER M.X.K H av μ ρ σ →
  Post M.X.K M.cl H av μ (f ρ S) (fun items _ H1 av1 μ1 => ∀ J, Over M.X.K H1 av1 μ1 items J → R J H1) (M.W · · σ) → wi σ H R

/-- a target that sets the slots vs -/
def OkG (M : MX) (tg : Expr) (vs : List Nat) (t : TGT) : Prop := ∃ g, PG M.X tg g ∧ ∀ (ρ ρ' : Env) (σ : L2.St) (H : Hp) (av : Addr → Prop) (μ : List Addr) (d : D) (v : V) (Q : L2.St → Hp → Prop), ER M.X.K H av μ ρ σ → Rep M.X.K H av μ d v →
  t d ρ = some ρ' → (∀ σ', ER M.X.K H av μ ρ' σ' → (∀ j a, Owns ρ' σ' j a → Owns ρ σ j a) → (∀ ws, (∀ i ∈ vs, i ∈ ws) → wipe σ' ws = wipe σ ws) → Q σ' H) → g v σ H Q
def tgName (i : Nat) : TGT := fun d ρ => some (ρ.set i (.val d))
def tgAll : List TGT → List D → Env → Option Env
  | [], [], ρ => some ρ
  | t :: ts, d :: ds, ρ => (t d ρ).bind fun ρ1 => tgAll ts ds ρ1
  | _, _, _ => none
def tgTup (ts : List TGT) : TGT := fun d ρ => match d with
  | .tup ds => tgAll ts ds ρ
  | _ => none
theorem wipe_set {σ : L2.St} {v : Option V} {i : Nat} : ∀ {ws : List Nat}, i ∈ ws → wipe (σ.set i v) ws = wipe σ ws
  | [], h => nomatch h
  | w :: ws, h => by
    show (wipe (σ.set i v) ws).set w none = (wipe σ ws).set w none
    by_cases e : i ∈ ws
    · rw [wipe_set e]
    · have e2 : i = w := (List.mem_cons.mp h).resolve_right e
      subst e2
      have q : ∀ {ws : List Nat} {σ : L2.St}, i ∉ ws → wipe (σ.set i v) ws = (wipe σ ws).set i v := by
        intro ws
        induction ws with
        | nil => intro σ _; rfl
        | cons u us ih =>
          intro σ hu
          show (wipe (σ.set i v) us).set u none = ((wipe σ us).set u none).set i v
          rw [ih (fun z => hu (List.mem_cons_of_mem _ z)), List.set_comm _ _ (fun z => hu (by rw [z]; exact List.mem_cons_self))]
      rw [q e, List.set_set]
theorem okGName (i : Nat) {e : Expr} (p : PG M.X e (gName i)) : OkG M e [i] (tgName i) :=
  ⟨_, p, fun ρ ρ' σ H av μ d v Q er r h k => by
    cases h
    exact k _ (er.set r) (fun j a z => owns_set z) fun ws hw => wipe_set (hw i (by simp))⟩
def OkGs (M : MX) (tgs : List Expr) (vs : List Nat) (ts : List TGT) : Prop := ∃ g, PGs M.X tgs g ∧ ∀ (ρ ρ' : Env) (σ : L2.St) (H : Hp) (av : Addr → Prop) (μ : List Addr) (ds : List D) (us : List V) (Q : L2.St → Hp → Prop), ER M.X.K H av μ ρ σ → Reps M.X.K H av μ ds us →
  tgAll ts ds ρ = some ρ' → (∀ σ', ER M.X.K H av μ ρ' σ' → (∀ j a, Owns ρ' σ' j a → Owns ρ σ j a) → (∀ ws, (∀ i ∈ vs, i ∈ ws) → wipe σ' ws = wipe σ ws) → Q σ' H) → g us σ H Q
theorem okGsNil : OkGs M [] [] [] := ⟨_, pgs_nil, fun ρ ρ' σ H av μ ds us Q er r h k => by
  cases ds with
  | nil =>
    cases (show us = [] from r)
    cases h
    exact ⟨rfl, k σ er (fun _ _ z => z) fun _ _ => rfl⟩
  | cons d ds => cases h⟩
theorem okGsCons {e : Expr} {es : List Expr} {vs ws : List Nat} {t : TGT} {ts : List TGT} (h1 : OkG M e vs t) (h2 : OkGs M es ws ts)
    (hs : (assignEach (e :: es) M.X.env).map (·.2) = assign e M.X.env :: (assignEach es M.X.env).map (·.2) := by rfl) : OkGs M (e :: es) (vs ++ ws) (t :: ts) := by
  obtain ⟨g1, p1, q1⟩ := h1
  obtain ⟨g2, p2, q2⟩ := h2
  refine ⟨_, pgs_cons p1 p2 hs, fun ρ ρ' σ H av μ ds us Q er r h k => ?_⟩
  cases ds with
  | nil => cases h
  | cons d ds =>
    obtain ⟨v, vr, rfl, r1, r2⟩ := r
    cases e1 : t d ρ with
    | none => rw [tgAll, e1] at h; cases h
    | some ρ1 =>
      rw [tgAll, e1] at h
      refine ⟨v, vr, rfl, q1 ρ ρ1 σ H av μ d v _ er r1 e1 fun σ1 er1 ow1 w1 => ?_⟩
      exact q2 ρ1 ρ' σ1 H av μ ds vr Q er1 r2 h fun σ2 er2 ow2 w2 => k σ2 er2 (fun j a z => ow1 j a (ow2 j a z)) fun us hu =>
        (w2 us fun i hi => hu i (List.mem_append_right _ hi)).trans (w1 us fun i hi => hu i (List.mem_append_left _ hi))
theorem okGTup {es : List Expr} {k : Nat} {pos : Pos} {vs : List Nat} {ts : List TGT} {n : Nat} (hc : M.X.calm = true) (h : OkGs M es vs ts) (hl : ts.length = n := by rfl)
    (hn : (assignEach es M.X.env).length = n := by rfl) (hst : (assignEach es M.X.env).findIdx? (·.1) = none := by rfl) : OkG M (.Tuple es k pos) vs (tgTup ts) := by
  obtain ⟨g, p, q⟩ := h
  refine ⟨_, pg_tup hc p hn hst, fun ρ ρ' σ H av μ d v Q er r h k => ?_⟩
  cases d with
  | tup ds =>
    obtain ⟨a, xs, rfl, ta, ra⟩ := r
    have hlen : ∀ (ts : List TGT) (ds : List D) (ρ : Env), tgAll ts ds ρ = some ρ' → ds.length = ts.length := by
      intro ts
      induction ts with
      | nil => intro ds ρ h; cases ds with
        | nil => rfl
        | cons _ _ => cases h
      | cons t ts ih => intro ds ρ h; cases ds with
        | nil => cases h
        | cons d ds =>
          cases e1 : t d ρ with
          | none => rw [tgAll, e1] at h; cases h
          | some ρ1 =>
            rw [tgAll, e1] at h
            simp [ih ds ρ1 h]
    exact ⟨a, xs, rfl, ta.sq, by rw [ra.len, hlen ts ds ρ h, hl], q ρ ρ' σ H av μ ds xs Q er ra h k⟩
  | _ => cases h

theorem okFor {tg iter : Expr} {body : List Stmt} {pos : Pos} {fi : FI} {vs : List Nat} {t : TGT} {f : SS} (hp : PassesOwn (model M.X.prog M.X.w) M.X.A M.X.env M.X.xe) (hc : M.X.calm = true) (hi : OkI M tg iter fi) (hg : OkG M tg vs t) (hb : OkSs M body f)
    (hs : ∀ x, foldedSetIterable iter M.X.env x = pure x := by intro _; rfl) : OkS M (.For tg iter body [] pos) (sFor fi t f) := by
  obtain ⟨wi, pi, qi⟩ := hi
  obtain ⟨g, pg, qg⟩ := hg
  obtain ⟨tb, pb, qb⟩ := hb
  refine ⟨_, ps_for hp hc pi pg pb hs, fun F0 ρ0 S0 σ0 H0 av0 μ0 D' fr0 post0 => ?_⟩
  refine qi ρ0 S0 σ0 H0 av0 μ0 _ fr0.g fr0.e ((PostS.bind post0 fr0).mono fun items S1 H1 av1 μ1 t1 g1 k J ov => ?_)
  obtain ⟨fr1, post1⟩ := k
  have post1 := PostS.back fr1 post1
  refine ⟨fun i m σ H => m = items.length - i ∧ i ≤ items.length ∧ ∃ ρ S av μ, FR M.X.K (F0.at' ρ0 σ0 H1 av1 μ1) ρ S σ H av μ ∧ PostS M.X.K M.cl (F0.at' ρ0 σ0 H1 av1 μ1) (forF t f (items.drop i) ρ S) D' M.W,
    ⟨items.length, by simp, Nat.zero_le _, ρ0, S1, av1, μ1, fr1.here, post1⟩, ?_⟩
  rintro i m σ H ⟨rfl, hle, ρ, S, av, μ, fr, post⟩
  have go := ov H av μ (Goes.of_FR fr1 fr.toFB)
  by_cases hlt : i < items.length
  · refine .inr ⟨go.1 i hlt, _, fun σ' H' w => ⟨items.length - (i + 1), by omega, rfl, hlt, w⟩, fun x H' y => ?_⟩
    obtain ⟨lay, rep⟩ := go.2.2 i x H' hlt y
    have g' := lay.hg fr.g
    have fr' : FR M.X.K (F0.at' ρ0 σ0 H1 av1 μ1) ρ S σ H' av μ := fr.tr lay.tr g'
    have hd : items.drop i = items[i] :: items.drop (i + 1) := List.drop_eq_getElem_cons hlt
    rw [hd] at post
    cases e : t items[i] ρ with
    | none => simp [forF, e, PostS] at post
    | some ρ1 =>
      simp only [forF, e] at post
      refine qg ρ ρ1 σ H' av μ items[i] x _ fr'.e (rep _ S fr.g (List.getElem?_eq_getElem hlt)) e fun σ1 er1 ow1 _ => ?_
      have fr1' : FR M.X.K (F0.at' ρ0 σ0 H1 av1 μ1) ρ1 S σ1 H' av μ := { fr'.toFB with e := er1, own := fun j a z => fr'.own j a (ow1 j a z) }
      exact qb _ ρ1 S σ1 H' av μ _ fr1' (PostS.loop post)
  · have e : i = items.length := by omega
    subst e
    refine .inl ⟨go.2.1, ?_⟩
    rw [List.drop_length] at post
    exact post σ H av μ fr
end
end MP
/-! MP: new lists, comprehensions. -/
namespace MP
open PySem L2

/-! ### the readings in one form -/
def rdE (K : PySem.W.Frag) (cl : Nat → Value) (W : WX) (f : FE) : TE := fun σ H Q => ∃ ρ S av μ, HG K H av μ S ∧ ER K H av μ ρ σ ∧ Post K cl H av μ (f ρ S) (fun d _ H' av' μ' => ∀ v, Rep K H' av' μ' d v → Q v H') (W · · σ)
def rdT (K : PySem.W.Frag) (cl : Nat → Value) (W : WX) (f : FT) : TT := fun σ H Q => ∃ ρ S av μ, HG K H av μ S ∧ ER K H av μ ρ σ ∧ Post K cl H av μ (f ρ S) (fun b _ H' _ _ => Q b H') (W · · σ)
def rdI (K : PySem.W.Frag) (cl : Nat → Value) (W : WX) (f : FI) : TI := fun σ H R => ∃ ρ S av μ, HG K H av μ S ∧ ER K H av μ ρ σ ∧ Post K cl H av μ (f ρ S) (fun items _ H1 av1 μ1 => ∀ J, Over K H1 av1 μ1 items J → R J H1) (W · · σ)
def rdG (K : PySem.W.Frag) (vs : List Nat) (t : TGT) : TG := fun v σ H Q => ∃ ρ ρ' av μ d, ER K H av μ ρ σ ∧ Rep K H av μ d v ∧ t d ρ = some ρ' ∧ ∀ σ', ER K H av μ ρ' σ' → (∀ j a, Owns ρ' σ' j a → Owns ρ σ j a) → (∀ ws, (∀ i ∈ vs, i ∈ ws) → wipe σ' ws = wipe σ ws) → Q σ' H
section
variable {M : MX} {a b c e : Expr} {f fa : FE}
theorem okE_rd (h : OkE M e f) : PE M.X e (rdE M.X.K M.cl M.W f) := by
  obtain ⟨t, p, q⟩ := h
  exact ⟨fun pins s σ H Q I ⟨ρ, S, av, μ, g, er, post⟩ => p.run pins s σ H Q I (q ρ S σ H av μ Q g er post)⟩
theorem okT_rd {f : FT} (h : OkT M e f) : PT M.X e (rdT M.X.K M.cl M.W f) := by
  obtain ⟨t, p, q⟩ := h
  exact ⟨fun pins s σ H Q I ⟨ρ, S, av, μ, g, er, post⟩ => p.run pins s σ H Q I (q ρ S σ H av μ Q g er post)⟩
theorem okI_rd {f : FI} (h : OkI M a e f) : PI M.X a e (rdI M.X.K M.cl M.W f) := by
  obtain ⟨t, p, q⟩ := h
  exact ⟨fun pins s σ H Q I ⟨ρ, S, av, μ, g, er, post⟩ => p.run pins s σ H Q I (q ρ S σ H av μ Q g er post)⟩
theorem okG_rd {vs : List Nat} {t : TGT} (h : OkG M e vs t) : PG M.X e (rdG M.X.K vs t) := by
  obtain ⟨g, p, q⟩ := h
  exact ⟨fun pins s σ H v u Q I r ⟨ρ, ρ', av, μ, d, er, rp, e1, k⟩ => p.run pins s σ H v u Q I r (q ρ ρ' σ H av μ d v Q er rp e1 k)⟩
end

/-! ### a list that nobody else has -/
section
variable {K : PySem.W.Frag} {cl : Nat → Value} {H H1 H2 H' : Hp} {av av1 av2 av' bad bad' : Addr → Prop} {μ μ1 μ2 μ' : List Addr} {S S' : Store} {ρ : Env} {σ : L2.St}
theorem goes_upd {p : Addr} {o : HO} (h : av p) : Goes K H av μ (upd H p o) av μ :=
  ⟨fun a u e n => ⟨by rw [upd_ne (fun z => n (by rw [z]; exact h))]; exact e, n⟩, ⟨[], by simp⟩⟩
theorem HG.upd {p : Addr} {o : HO} (g : HG K H av μ S) (h : av p) (hm : p ∉ μ) : HG K (upd H p o) av μ S where
  len := g.len
  nd := g.nd
  sub := g.sub
  dom := fun a e => by
    by_cases q : a = p
    · rw [q, upd_same]; simp
    · rw [upd_ne q]; exact g.dom a e
  obj := fun i a u e1 e2 => (g.obj i a u e1 e2).tr' (goes_upd h) fun w q => by
    have ne : a ≠ p := fun z => hm (by rw [← z]; exact List.mem_of_getElem? e1)
    rw [upd_ne ne]; exact q
theorem Tr.upd {p : Addr} {o : HO} (t : Tr H av μ H1 av1 μ1) (h : H p = none) : Tr H av μ (upd H1 p o) av1 μ1 where
  keep := fun a u e n => by rw [upd_ne (ne_of_none e h)]; exact t.keep a u e n
  dom := fun a e => by
    by_cases q : a = p
    · rw [q, upd_same]; simp
    · rw [upd_ne q]; exact t.dom a e
  avm := t.avm
  avn := t.avn
  pre := t.pre
  new := t.new
/-- a new list at p, hidden -/
theorem Tr.hide {p : Addr} {o : HO} (h : H p = none) : Tr H av μ (L2.upd H p o) (fun a => av a ∨ a = p) μ where
  keep := fun a u e _ => by rw [upd_ne (ne_of_none e h)]; exact e
  dom := fun a e z => e (by
    by_cases q : a = p
    · rw [q]; exact h
    · rw [upd_ne q] at z; exact z)
  avm := fun _ h => .inl h
  avn := fun a z => z.imp id fun q => by rw [q]; exact h
  pre := ⟨[], by simp⟩
  new := fun _ h => .inl h
theorem HG.hide {p : Addr} {o : HO} (g : HG K H av μ S) (h : H p = none) : HG K (L2.upd H p o) (fun a => av a ∨ a = p) μ S where
  len := g.len
  nd := g.nd
  sub := fun a h => .inl (g.sub a h)
  dom := fun a e => by
    by_cases q : a = p
    · rw [q, upd_same]; simp
    · rw [upd_ne q]; exact g.dom a (e.resolve_right q)
  obj := fun i a u e1 e2 => (g.obj i a u e1 e2).tr' ((Tr.hide h).goes g.sub) fun w q => by rw [upd_ne (ne_of_none q h)]; exact q
/-- from now on it is plain data -/
theorem HG.show' {p : Addr} (g : HG K H av μ S) (hm : p ∉ μ) : HG K H (fun a => av a ∧ a ≠ p) μ S where
  len := g.len
  nd := g.nd
  sub := fun a h => ⟨g.sub a h, fun z => hm (z ▸ h)⟩
  dom := fun a e => g.dom a e.1
  obj := fun i a u e1 e2 => (g.obj i a u e1 e2).tr' ⟨fun b o e n => ⟨e, fun z => n z.1⟩, ⟨[], by simp⟩⟩ fun _ q => q
end

abbrev FF := Env → Store → R (List D × Store)
/-- the reading of an expression whose value is a list that is new, and known to nobody else -/
def RdF (M : MX) (t : TE) (f : FF) : Prop := ∀ (ρ : Env) (S : Store) (σ : L2.St) (H : Hp) (av : Addr → Prop) (μ : List Addr) (Q : VK), HG M.X.K H av μ S → ER M.X.K H av μ ρ σ →
  Post M.X.K M.cl H av μ (f ρ S) (fun xs _ H' av' μ' => ∀ a vs, H a = none → av' a → a ∉ μ' → H' a = some (.lst vs) → Reps M.X.K H' av' μ' xs vs → Q (.ref a) H') (M.W · · σ) → t σ H Q
def RdE (M : MX) (t : TE) (f : FE) : Prop := ∀ (ρ : Env) (S : Store) (σ : L2.St) (H : Hp) (av : Addr → Prop) (μ : List Addr) (Q : VK), HG M.X.K H av μ S → ER M.X.K H av μ ρ σ →
  Post M.X.K M.cl H av μ (f ρ S) (fun d _ H' av' μ' => ∀ v, Rep M.X.K H' av' μ' d v → Q v H') (M.W · · σ) → t σ H Q
def OkF (M : MX) (e : Expr) (f : FF) : Prop := ∃ t, PE M.X e t ∧ RdF M t f
def eF (f : FF) : FE := fun ρ S => (f ρ S).bind fun (xs, S1) => .ok (.lst xs, S1)
def sSetO (i : Nat) (f : FF) : SS := fun ρ S => sBind (f ρ S) ρ fun (xs, S1) => .ok (.nx (ρ.set i (.own xs)), S1)

section
variable {M : MX} {a b c e : Expr} {pos : Pos} {f : FF} {fe : FE}
theorem RdF.toE {t : TE} (h : RdF M t f) : RdE M t (eF f) := by
  intro ρ S σ H av μ Q g er post
  refine h ρ S σ H av μ Q g er ?_
  unfold eF at post
  revert post
  cases f ρ S with
  | stuck => exact fun h => h
  | exc x S' => exact fun h => h
  | ok p =>
    obtain ⟨xs, S1⟩ := p
    intro post H' av' μ' t g' a vs hn ha hm hh hr
    have go : Goes M.X.K H' av' μ' H' (fun x => av' x ∧ x ≠ a) μ' := ⟨fun b o e n => ⟨e, fun z => n z.1⟩, ⟨[], by simp⟩⟩
    exact post H' (fun x => av' x ∧ x ≠ a) μ' ⟨t.keep, t.dom, fun x hx => ⟨t.avm x hx, fun z => g.dom x hx (z ▸ hn)⟩, fun x hx => t.avn x hx.1, t.pre, t.new⟩ (g'.show' hm) _ ⟨a, vs, rfl, ⟨hh, fun z => z.2 rfl⟩, Reps.goes go _ _ hr⟩
theorem okE_F (h : OkF M e f) : OkE M e (eF f) := let ⟨t, p, q⟩ := h; ⟨t, p, RdF.toE q⟩

theorem owns_setO {ρ : Env} {σ : L2.St} {i j : Nat} {xs : List D} {a p : Addr} (h : Owns (ρ.set i (.own xs)) (σ.set i (some (.ref p))) j a) : (j = i ∧ a = p) ∨ Owns ρ σ j a := by
  obtain ⟨ys, h1, h2⟩ := h
  by_cases e : j = i
  · subst e
    have l1 : j < ρ.length := by have z := (List.getElem?_eq_some_iff.mp h1).1; rwa [List.length_set] at z
    have l2 : j < σ.length := by have z := (List.getElem?_eq_some_iff.mp h2).1; rwa [List.length_set] at z
    rw [List.getElem?_set_self l2] at h2
    injection h2 with h2
    injection h2 with h2
    injection h2 with h2
    exact .inl ⟨rfl, h2.symm⟩
  · rw [List.getElem?_set_ne (Ne.symm e)] at h1 h2
    exact .inr ⟨ys, h1, h2⟩
/-- slot i takes a list that nobody else has -/
theorem FR.setO {K : PySem.W.Frag} {F : Fr} {H : Hp} {av : Addr → Prop} {μ : List Addr} {S : Store} {ρ : Env} {σ : L2.St} {i : Nat} {xs : List D} {p : Addr} {vs : List V} (f : FR K F ρ S σ H av μ) (h1 : (F.foot p ∨ F.H p = none) ∧ ¬ F.lo p)
    (h2 : ∀ j, j ≠ i → ¬ Owns ρ σ j p) (ha : av p) (hm : p ∉ μ) (hh : H p = some (.lst vs)) (hr : Reps K H av μ xs vs) : FR K F (ρ.set i (.own xs)) S (σ.set i (some (.ref p))) H av μ :=
  { f.toFB with
    e := ⟨by rw [List.length_set, List.length_set]; exact f.e.len, fun j s h => by
      by_cases q : j = i
      · subst q
        have hl : j < ρ.length := by have z := (List.getElem?_eq_some_iff.mp h).1; rwa [List.length_set] at z
        rw [List.getElem?_set_self hl] at h
        cases h
        rw [List.getElem?_set_self (by rw [f.e.len]; exact hl)]
        exact ⟨p, vs, rfl, hh, hr, ha, hm⟩
      · rw [List.getElem?_set_ne (Ne.symm q)] at h ⊢
        exact f.e.at' j s h, fun j k q z1 z2 => by
      rcases owns_setO z1 with ⟨e1, e2⟩ | z1 <;> rcases owns_setO z2 with ⟨e3, e4⟩ | z2
      · rw [e1, e3]
      · by_cases w : k = i
        · rw [e1, w]
        · exact absurd (e2 ▸ z2) (h2 k w)
      · by_cases w : j = i
        · rw [e3, w]
        · exact absurd (e4 ▸ z1) (h2 j w)
      · exact f.e.one j k q z1 z2⟩
    own := fun j q z => by
      rcases owns_setO z with ⟨_, e2⟩ | z
      · rw [e2]; exact h1
      · exact f.own j q z }
theorem Owns.some {K : PySem.W.Frag} {H : Hp} {av : Addr → Prop} {μ : List Addr} {ρ : Env} {σ : L2.St} {i : Nat} {a : Addr} (er : ER K H av μ ρ σ) (h : Owns ρ σ i a) : H a ≠ none := by
  obtain ⟨xs, h1, h2⟩ := h
  obtain ⟨b, vs, w1, w2, _⟩ := er.at' i _ h1
  rw [h2] at w1
  cases w1
  rw [w2]; simp
theorem okSetO (i : Nat) {st : Stmt} {t : TE} (q : RdF M t f) (p : PS M.X st (tAsg t (gName i))) : OkS M st (sSetO i f) := by
  refine ⟨_, p, fun F ρ S σ H av μ D' fr post => ?_⟩
  refine q ρ S σ H av μ _ fr.g fr.e ((PostS.bind post fr).mono fun xs S1 H1 av1 μ1 t1 g1 k a vs hn ha hm hh hr => ?_)
  exact k.2 _ H1 av1 μ1 (k.1.setO ⟨.inr (none_of fr.dom hn), fun z => fr.g.dom a (fr.avm a z) hn⟩ (fun j _ z => absurd hn (Owns.some fr.e z)) ha hm hh hr)
theorem okSetOF (i : Nat) {x : Str} {pos' : Pos} (h : OkF M e f) (p : ∀ te, PE M.X e te → PS M.X (.Assign [.Name x pos'] e pos) (tAsg te (gName i))) : OkS M (.Assign [.Name x pos'] e pos) (sSetO i f) :=
  let ⟨t, pe, q⟩ := h
  okSetO i q (p t pe)
theorem okSetT (i : Nat) {st : Stmt} {t : TE} (q : RdE M t fe) (p : PS M.X st (tAsg t (gName i))) : OkS M st (sSet i fe) := by
  refine ⟨_, p, fun F ρ S σ H av μ D' fr post => ?_⟩
  exact q ρ S σ H av μ _ fr.g fr.e ((PostS.bind post fr).mono fun d S1 H1 av1 μ1 t1 g1 k v rv => k.2 _ H1 av1 μ1 (k.1.set rv))

/-! a displayed list -/
def fLst (a : FA) : FF := fun ρ S => (a ρ S).bind fun (xs, S1) => if xs.length ≤ sizeLine then .ok (xs, S1) else .stuck
theorem okFLst {es : List Expr} {fs : FA} (h : OkA M es fs) : OkF M (.List es pos) (fLst fs) := by
  obtain ⟨t, p, q⟩ := h
  refine ⟨_, pe_lst p, fun ρ S σ H av μ Q g er post => ?_⟩
  refine q ρ S σ H av μ _ g er (post.bind.mono fun ds S1 H1 av1 μ1 t1 g1 k vs rv => ?_)
  by_cases hl : ds.length ≤ sizeLine
  · simp only [hl, if_true] at k
    refine ⟨by rw [rv.len]; exact hl, fun p hp => ?_⟩
    exact k _ _ μ1 (Tr.hide hp) (g1.hide hp) p vs (none_of t1.dom hp) (.inr rfl) (fun z => g1.nav hp (g1.sub p z)) upd_same (rv.tr (Tr.hide hp) g1.sub)
  · simp only [hl, if_false] at k
    exact k.elim
/-- an operation on values that makes a new list -/
abbrev G1 := List D → Store → R (List D × Store)
def OpNF (K : PySem.W.Frag) (f : G1) (r : List V → Hp → VK → Prop) : Prop := ∀ (H : Hp) (av : Addr → Prop) (μ : List Addr) (S S' : Store) (ds xs : List D) (us : List V) (Q : VK), HG K H av μ S → RepsB K H av μ ds us →
  f ds S = .ok (xs, S') → (∀ p vs, S' = S → H p = none → Reps K H av μ xs vs → Q (.ref p) (upd H p (.lst vs))) → r us H Q
def fN (f : G1) (a : FA) : FF := fun ρ S => (a ρ S).bind fun (xs, S1) => f xs S1
def R.isExc {α : Type} : R α → Bool
  | .exc _ _ => true
  | _ => false
theorem okFN {f : G1} {r : List V → Hp → VK → Prop} {e : Expr} {es : List Expr} {fs : FA} (o : OpNF M.X.K f r) (hx : ∀ ds S, (f ds S).isExc = false) {tf : TA → TE} (p : ∀ ta, PA M.X es ta → PE M.X e (tf ta)) (ht : ∀ ta σ H Q, ta σ H (fun vs H' => r vs H' Q) → tf ta σ H Q) (ha : OkAB M es fs) : OkF M e (fN f fs) := by
  obtain ⟨t, pa, q⟩ := ha
  refine ⟨_, p t pa, fun ρ S σ H av μ Q g er post => ht _ _ _ _ ?_⟩
  refine q ρ S σ H av μ _ g er (post.bind.mono fun ds S1 H1 av1 μ1 t1 g1 k vs rv => ?_)
  have hx := hx ds S1
  revert k
  show Post M.X.K M.cl H1 av1 μ1 (f ds S1) _ _ → _
  cases e : f ds S1 with
  | stuck => exact fun h => (show False from h).elim
  | exc x S' => rw [e] at hx; cases hx
  | ok y =>
    obtain ⟨xs, S2⟩ := y
    intro k
    refine o H1 av1 μ1 S1 S2 ds xs vs Q g1 rv e fun p ws es hp hr => ?_
    subst es
    exact k _ _ μ1 (Tr.hide hp) (g1.hide hp) p ws (none_of t1.dom hp) (.inr rfl) (fun z => g1.nav hp (g1.sub p z)) upd_same (hr.tr (Tr.hide hp) g1.sub)
end

/-! ### comprehensions -/
def R.nox {α : Type} : R α → R α
  | .exc _ _ => .stuck
  | r => r
def lcF (tg : TGT) (c : FT) (e : FE) (ρ : Env) : List D → Store → List D → R (List D × Store)
  | [], S, acc => .ok (acc, S)
  | x :: xs, S, acc => match tg x ρ with
    | none => .stuck
    | some ρ1 => (c ρ1 S).nox.bind fun (b, S1) => if b = true then (e ρ1 S1).nox.bind fun (y, S2) => if acc.length < sizeLine then lcF tg c e ρ xs S2 (acc ++ [y]) else .stuck
      else lcF tg c e ρ xs S1 acc
def wipeE (ρ : Env) : List Nat → Env
  | [] => ρ
  | v :: vs => (wipeE ρ vs).set v .no
def tYesF : FT := fun _ S => .ok (true, S)
def fLc (it : FI) (tg : TGT) (c : FT) (e : FE) (vs : List Nat) : FF := fun ρ S => (it ρ S).bind fun (xs, S1) => lcF tg c e (wipeE ρ vs) xs S1 []

section
variable {K : PySem.W.Frag} {cl : Nat → Value} {H H1 H2 H' : Hp} {av av1 av2 av' bad bad' : Addr → Prop} {μ μ1 μ2 μ' : List Addr} {S S' : Store} {ρ : Env} {σ : L2.St}
theorem ER.no (e : ER K H av μ ρ σ) (i : Nat) : ER K H av μ (ρ.set i .no) (σ.set i none) where
  len := by rw [List.length_set, List.length_set]; exact e.len
  at' := fun j s h => by
    by_cases q : j = i
    · subst q
      have hl : j < ρ.length := by have z := (List.getElem?_eq_some_iff.mp h).1; rwa [List.length_set] at z
      rw [List.getElem?_set_self hl] at h
      cases h
      trivial
    · rw [List.getElem?_set_ne (Ne.symm q)] at h ⊢
      exact e.at' j s h
  one := fun j k a h1 h2 => by
    have own : ∀ j, Owns (ρ.set i .no) (σ.set i none) j a → Owns ρ σ j a := fun j ⟨xs, z1, z2⟩ => by
      by_cases q : j = i
      · subst q
        have hl : j < ρ.length := by have z := (List.getElem?_eq_some_iff.mp z1).1; rwa [List.length_set] at z
        rw [List.getElem?_set_self hl] at z1
        cases z1
      · rw [List.getElem?_set_ne (Ne.symm q)] at z1 z2
        exact ⟨xs, z1, z2⟩
    exact e.one j k a (own j h1) (own k h2)
theorem ER.wipe (e : ER K H av μ ρ σ) : ∀ vs : List Nat, ER K H av μ (wipeE ρ vs) (L2.wipe σ vs)
  | [] => e
  | v :: vs => (ER.wipe e vs).no v
theorem wipe_no {σ : L2.St} {i : Nat} {ws : List Nat} (h : i ∈ ws) : wipe (σ.set i none) ws = wipe σ ws := wipe_set h
theorem wipe_wipe' {σ : L2.St} {ws : List Nat} : ∀ {vs : List Nat}, (∀ i ∈ vs, i ∈ ws) → wipe (wipe σ vs) ws = wipe σ ws
  | [], _ => rfl
  | v :: vs, h => by
    show wipe ((wipe σ vs).set v none) ws = _
    rw [wipe_set (h v List.mem_cons_self), wipe_wipe' fun i hi => h i (List.mem_cons_of_mem _ hi)]
theorem wipe_wipe {σ : L2.St} {vs : List Nat} : wipe (wipe σ vs) vs = wipe σ vs := wipe_wipe' fun _ h => h
theorem R.nox_ok {α : Type} {r : R α} {a : α} (h : r.nox = .ok a) : r = .ok a := by
  cases r with
  | ok x => exact h
  | stuck => cases h
  | exc x S => cases h
end
/-- within a comprehension -/
abbrev MX.blk (M : MX) (s : Shared) (H : Hp) (scope : Scope) (C : Addr) (cl : List (Str × Addr)) (fp : List Addr) : MX := ⟨M.X.blk s H scope (compEnvC scope cl C M.X.env) fp, M.cl, fun _ _ _ _ => False⟩
def OkIfs (M : MX) (ifs : List Expr) (f : FT) : Prop := PTs M.X ifs (rdT M.X.K M.cl M.W f)
theorem okIfsNil {M : MX} : OkIfs M [] tYesF := by
  refine ⟨fun pins s σ H Q I h => ?_⟩
  obtain ⟨ρ, S, av, μ, g, er, post⟩ := h
  exact pts_nil.run pins s σ H Q I (post H av μ .refl g)
theorem okIfsOne {M : MX} {c : Expr} {f : FT} (h : OkT M c f) : OkIfs M [c] f := pts_one (okT_rd h)

/-- the frame that a turn of a comprehension goes through -/
theorem lc_read {M : MX} {fi : FI} {vs tvs : List Nat} {t : TGT} {c : FT} {e : FE} (hv : ∀ i ∈ tvs, i ∈ vs) :
    RdF M (tLc (rdI M.X.K M.cl M.W fi) (rdG M.X.K tvs t) (rdT M.X.K M.cl (fun _ _ _ _ => False) c) (rdE M.X.K M.cl (fun _ _ _ _ => False) e) vs) (fLc fi t c e vs) := by
  intro ρ S σ H av μ Q g er post
  refine ⟨ρ, S, av, μ, g, er, post.bind.mono fun items S1 H1 av1 μ1 t1 g1 post1 J ov L hL => ?_⟩
  have er1 : ER M.X.K H1 av1 μ1 (wipeE ρ vs) (wipe σ vs) := (er.tr t1 g.sub).wipe vs
  have hLn : H L = none := none_of t1.dom hL
  refine ⟨fun i m H' => m = items.length - i ∧ i ≤ items.length ∧ ∃ acc accV S' av' μ', Tr H1 av1 μ1 H' av' μ' ∧ HG M.X.K H' av' μ' S' ∧ av' L ∧ L ∉ μ' ∧ H' L = some (.lst accV) ∧ Reps M.X.K H' av' μ' acc accV ∧
    Post M.X.K M.cl H1 av1 μ1 (lcF t c e (wipeE ρ vs) (items.drop i) S' acc) (fun xs _ H' av' μ' => ∀ a vs, H a = none → av' a → a ∉ μ' → H' a = some (.lst vs) → Reps M.X.K H' av' μ' xs vs → Q (.ref a) H') (M.W · · σ),
    ⟨items.length, by simp, Nat.zero_le _, [], [], S1, fun a => av1 a ∨ a = L, μ1, Tr.hide hL, g1.hide hL, .inr rfl, fun z => g1.nav hL (g1.sub L z), upd_same, rfl, post1⟩, ?_⟩
  rintro i m H' ⟨rfl, hle, acc, accV, S', av', μ', tr, g', aL, mL, hH, hacc, post⟩
  have go := ov H' av' μ' (tr.goes g1.sub)
  by_cases hlt : i < items.length
  · refine .inr ⟨go.1 i hlt, _, fun H'' w => ⟨items.length - (i + 1), by omega, rfl, hlt, w⟩, fun x H2 y => ?_⟩
    obtain ⟨lay, rep⟩ := go.2.2 i x H2 hlt y
    have g2 : HG M.X.K H2 av' μ' S' := lay.hg g'
    have tr2 : Tr H1 av1 μ1 H2 av' μ' := tr.trans lay.tr
    have hd : items.drop i = items[i] :: items.drop (i + 1) := List.drop_eq_getElem_cons hlt
    rw [hd] at post
    cases e1 : t items[i] (wipeE ρ vs) with
    | none => simp [lcF, e1, Post] at post
    | some ρ1 =>
      simp only [lcF, e1] at post
      refine ⟨wipeE ρ vs, ρ1, av', μ', items[i], er1.tr tr2 g1.sub, rep _ S' g' (List.getElem?_eq_getElem hlt), e1, fun σ2 er2 ow2 w2 => ⟨(w2 vs hv).trans wipe_wipe, ?_⟩⟩
      have hH2 : H2 L = some (.lst accV) := lay.tr.keep (av := av') (μ := μ') L _ hH mL
      have hacc2 := hacc.tr lay.tr g'.sub
      cases ec : (c ρ1 S').nox with
      | stuck => rw [ec] at post; exact (show False from post).elim
      | exc x Sx =>
        cases q : c ρ1 S' <;> rw [q] at ec <;> cases ec
      | ok bS =>
        obtain ⟨b, S3⟩ := bS
        have ec' := R.nox_ok ec
        rw [ec] at post
        refine ⟨ρ1, S', av', μ', g2, er2, ?_⟩
        rw [ec']
        intro H3 av3 μ3 t3 g3
        have tr3 := tr2.trans t3
        have hH3 : H3 L = some (.lst accV) := t3.keep L _ hH2 mL
        have mL3 : L ∉ μ3 := fun z => (t3.new L z).elim mL fun q => by rw [hH2] at q; cases q
        have hacc3 := hacc2.tr t3 g2.sub
        cases b with
        | false =>
          exact iteF ⟨acc, accV, S3, av3, μ3, tr3, g3, t3.avm L aL, mL3, hH3, hacc3, by simpa [R.bind] using post⟩
        | true =>
          refine iteT ?_
          have post : Post M.X.K M.cl H1 av1 μ1 ((e ρ1 S3).nox.bind fun (y, S2) => if acc.length < sizeLine then lcF t c e (wipeE ρ vs) (items.drop (i + 1)) S2 (acc ++ [y]) else .stuck) (fun xs _ H' av' μ' => ∀ a vs, H a = none → av' a → a ∉ μ' → H' a = some (.lst vs) → Reps M.X.K H' av' μ' xs vs → Q (.ref a) H') (M.W · · σ) := by simpa [R.bind] using post
          cases ee : (e ρ1 S3).nox with
          | stuck => rw [ee] at post; exact (show False from post).elim
          | exc x Sx =>
            cases q : e ρ1 S3 <;> rw [q] at ee <;> cases ee
          | ok yS =>
            obtain ⟨y', S4⟩ := yS
            have ee' := R.nox_ok ee
            rw [ee] at post
            refine ⟨ρ1, S3, av3, μ3, g3, er2.tr t3 g2.sub, ?_⟩
            rw [ee']
            intro H4 av4 μ4 t4 g4 v4 r4
            have hH4 : H4 L = some (.lst accV) := t4.keep L _ hH3 mL3
            have mL4 : L ∉ μ4 := fun z => (t4.new L z).elim mL3 fun q => by rw [hH3] at q; cases q
            have hacc4 := hacc3.tr t4 g3.sub
            have aL4 : av4 L := t4.avm L (t3.avm L aL)
            have hsz : acc.length < sizeLine := by
              by_cases z : acc.length < sizeLine
              · exact z
              · simp [R.bind, z, Post] at post
            refine ⟨accV, hH4, by rw [hacc4.len]; exact hsz, acc ++ [y'], accV ++ [v4], S4, av4, μ4, (tr3.trans t4).upd hL, g4.upd aL4 mL4, aL4, mL4, upd_same, ?_, ?_⟩
            · exact Reps.goes (goes_upd aL4) _ _ (hacc4.app (Reps.one r4))
            · simpa [R.bind, hsz] using post
  · have e1 : i = items.length := by omega
    subst e1
    refine .inl ⟨go.2.1, ?_⟩
    rw [List.drop_length] at post
    exact post H' av' μ' tr g' L accV hLn aL mL hH hacc

section
variable {M : MX} {elt tg iter : Expr} {ifs : List Expr} {scope : Scope} {own : List (Str × Nat)} {pos : Pos} {fi : FI} {tvs : List Nat} {t : TGT} {c : FT} {e : FE}
theorem okLc (hc : M.X.calm = true) (hN : M.X.N.Nodup) (hi : OkI M tg iter fi) (ok : BlkOk M.X.N M.X.env.scope scope own) (hv : ∀ i ∈ tvs, i ∈ own.map (·.2))
    (hg : ∀ s H C cl fp, OkG (M.blk s H scope C cl fp) tg tvs t) (ht : ∀ s H C cl fp, OkIfs (M.blk s H scope C cl fp) ifs c) (he : ∀ s H C cl fp, OkE (M.blk s H scope C cl fp) elt e)
    (hs : ∀ x, foldedSetIterable iter M.X.env x = pure x := by intro _; rfl) : OkF M (.ListComp elt [⟨tg, iter, ifs, 0⟩] scope pos) (fLc fi t c e (own.map (·.2))) :=
  ⟨_, pe_lc (g := rdG M.X.K tvs t) (tt := rdT M.X.K M.cl (fun _ _ _ _ => False) c) (te := rdE M.X.K M.cl (fun _ _ _ _ => False) e) hc hN (okI_rd hi) ok (fun s H C cl fp => okG_rd (hg s H C cl fp)) (fun s H C cl fp => ht s H C cl fp) (fun s H C cl fp => okE_rd (he s H C cl fp)) hs, lc_read hv⟩
/-- y = [..] -/
theorem okSetOLc {i : Nat} {y : Str} {py spos : Pos} (hc : M.X.calm = true) (hN : M.X.N.Nodup) (hy : M.X.N[i]? = some y) (hyl : M.X.env.scope.names.lookup y = some .local)
    (hsw : swapsWith (.ListComp elt [⟨tg, iter, ifs, 0⟩] scope pos) (some (.Name y py)) spos.line M.X.env = pure true) (hi : OkI M tg iter fi) (ok : BlkOk M.X.N M.X.env.scope scope own) (hv : ∀ i ∈ tvs, i ∈ own.map (·.2))
    (hg : ∀ s H C cl fp, OkG (M.blk s H scope C cl fp) tg tvs t) (ht : ∀ s H C cl fp, OkIfs (M.blk s H scope C cl fp) ifs c) (he : ∀ s H C cl fp, OkE (M.blk s H scope C cl fp) elt e)
    (hs : ∀ x, foldedSetIterable iter M.X.env x = pure x := by intro _; rfl) : OkS M (.Assign [.Name y py] (.ListComp elt [⟨tg, iter, ifs, 0⟩] scope pos) spos) (sSetO i (fLc fi t c e (own.map (·.2)))) :=
  okSetO i (lc_read hv) (ps_setLc (g := rdG M.X.K tvs t) (tt := rdT M.X.K M.cl (fun _ _ _ _ => False) c) (te := rdE M.X.K M.cl (fun _ _ _ _ => False) e) hc hN hy hyl hsw (okI_rd hi) ok (fun s H C cl fp => okG_rd (hg s H C cl fp)) (fun s H C cl fp => ht s H C cl fp) (fun s H C cl fp => okE_rd (he s H C cl fp)) hs)
theorem okSetLc {i : Nat} {y : Str} {py spos : Pos} (hc : M.X.calm = true) (hN : M.X.N.Nodup) (hy : M.X.N[i]? = some y) (hyl : M.X.env.scope.names.lookup y = some .local)
    (hsw : swapsWith (.ListComp elt [⟨tg, iter, ifs, 0⟩] scope pos) (some (.Name y py)) spos.line M.X.env = pure true) (hi : OkI M tg iter fi) (ok : BlkOk M.X.N M.X.env.scope scope own) (hv : ∀ i ∈ tvs, i ∈ own.map (·.2))
    (hg : ∀ s H C cl fp, OkG (M.blk s H scope C cl fp) tg tvs t) (ht : ∀ s H C cl fp, OkIfs (M.blk s H scope C cl fp) ifs c) (he : ∀ s H C cl fp, OkE (M.blk s H scope C cl fp) elt e)
    (hs : ∀ x, foldedSetIterable iter M.X.env x = pure x := by intro _; rfl) : OkS M (.Assign [.Name y py] (.ListComp elt [⟨tg, iter, ifs, 0⟩] scope pos) spos) (sSet i (eF (fLc fi t c e (own.map (·.2))))) :=
  okSetT i (RdF.toE (lc_read hv)) (ps_setLc (g := rdG M.X.K tvs t) (tt := rdT M.X.K M.cl (fun _ _ _ _ => False) c) (te := rdE M.X.K M.cl (fun _ _ _ _ => False) e) hc hN hy hyl hsw (okI_rd hi) ok (fun s H C cl fp => okG_rd (hg s H C cl fp)) (fun s H C cl fp => ht s H C cl fp) (fun s H C cl fp => okE_rd (he s H C cl fp)) hs)
end
end MP
/-! MP: comprehensions of two clauses. -/
namespace MP
open PySem L2
def lc2F (tg : TGT) (c : FT) (it1 : FI) (tg1 : TGT) (c1 : FT) (e : FE) (vs1 : List Nat) (ρ : Env) : List D → Store → List D → R (List D × Store)
  | [], S, acc => .ok (acc, S)
  | x :: xs, S, acc => match tg x ρ with
    | none => .stuck
    | some ρ1 => (c ρ1 S).nox.bind fun (b, S1) => if b = true then (it1 ρ1 S1).nox.bind fun (ys, S2) => (lcF tg1 c1 e (wipeE ρ1 vs1) ys S2 acc).bind fun (acc', S3) => lc2F tg c it1 tg1 c1 e vs1 ρ xs S3 acc'
      else lc2F tg c it1 tg1 c1 e vs1 ρ xs S1 acc
def fLc2 (it : FI) (tg : TGT) (c : FT) (it1 : FI) (tg1 : TGT) (c1 : FT) (e : FE) (vs vs1 : List Nat) : FF := fun ρ S => (it ρ S).bind fun (xs, S1) => lc2F tg c it1 tg1 c1 e vs1 (wipeE ρ vs) xs S1 []

theorem ER.upd {K : PySem.W.Frag} {H : Hp} {av : Addr → Prop} {μ : List Addr} {ρ : Env} {σ : L2.St} {L : Addr} {o : HO} (e : ER K H av μ ρ σ) (h : av L) (no : ∀ i, ¬ Owns ρ σ i L) : ER K (upd H L o) av μ ρ σ where
  len := e.len
  at' := fun i s q => by
    have w := e.at' i s q
    cases s with
    | no => trivial
    | val d =>
      obtain ⟨v, e1, r⟩ := w
      exact ⟨v, e1, Rep.goes (goes_upd h) _ _ r⟩
    | own xs =>
      obtain ⟨a, vs, e1, ha, r, va, nm⟩ := w
      have ne : a ≠ L := fun z => no i ⟨xs, q, by rw [← z]; exact e1⟩
      exact ⟨a, vs, e1, by rw [upd_ne ne]; exact ha, Reps.goes (goes_upd h) _ _ r, va, nm⟩
  one := e.one
theorem owns_no {ρ : Env} {σ : L2.St} {i j : Nat} {a : Addr} (h : Owns (ρ.set i .no) (σ.set i none) j a) : Owns ρ σ j a := by
  obtain ⟨xs, z1, z2⟩ := h
  by_cases q : j = i
  · subst q
    have hl : j < ρ.length := by have z := (List.getElem?_eq_some_iff.mp z1).1; rwa [List.length_set] at z
    rw [List.getElem?_set_self hl] at z1
    cases z1
  · rw [List.getElem?_set_ne (Ne.symm q)] at z1 z2
    exact ⟨xs, z1, z2⟩
theorem owns_wipe {ρ : Env} {σ : L2.St} {j : Nat} {a : Addr} : ∀ {vs : List Nat}, Owns (wipeE ρ vs) (wipe σ vs) j a → Owns ρ σ j a
  | [], h => h
  | _ :: _, h => owns_wipe (owns_no h)
theorem nox_cases {α : Type} (r : R α) : r.nox = .stuck ∨ ∃ a, r = .ok a ∧ r.nox = .ok a := by
  cases r with
  | stuck => exact .inl rfl
  | exc x S => exact .inl rfl
  | ok a => exact .inr ⟨a, rfl, rfl⟩

theorem lc2_read {M : MX} {fi fi1 : FI} {vs tvs vs1 tvs1 : List Nat} {t tg1 : TGT} {c c1 : FT} {e : FE} (hv : ∀ i ∈ tvs, i ∈ vs) (hv1 : ∀ i ∈ tvs1, i ∈ vs1) :
    RdF M (tLc2 (rdI M.X.K M.cl M.W fi) (rdG M.X.K tvs t) (rdT M.X.K M.cl (fun _ _ _ _ => False) c) (rdI M.X.K M.cl (fun _ _ _ _ => False) fi1) (rdG M.X.K tvs1 tg1) (rdT M.X.K M.cl (fun _ _ _ _ => False) c1) (rdE M.X.K M.cl (fun _ _ _ _ => False) e) vs vs1) (fLc2 fi t c fi1 tg1 c1 e vs vs1) := by
  intro ρ S σ H av μ Q g er post
  have post := post.bind
  obtain ⟨G, hG⟩ : ∃ G, G = (fun (xs : List D) (_ : Store) (H' : Hp) (av' : Addr → Prop) (μ' : List Addr) => ∀ a vs, H a = none → av' a → a ∉ μ' → H' a = some (.lst vs) → Reps M.X.K H' av' μ' xs vs → Q (.ref a) H') := ⟨_, rfl⟩
  rw [← hG] at post
  obtain ⟨W', hW'⟩ : ∃ W' : WK, W' = (M.W · · σ) := ⟨_, rfl⟩
  refine ⟨ρ, S, av, μ, g, er, post.mono fun items S1 H1 av1 μ1 t1 g1 post1 J ov L hL => ?_⟩
  rw [← hW'] at post1
  have er1 : ER M.X.K H1 av1 μ1 (wipeE ρ vs) (wipe σ vs) := (er.tr t1 g.sub).wipe vs
  have noL : ∀ i, ¬ Owns (wipeE ρ vs) (wipe σ vs) i L := fun i z => Owns.some er1 z hL
  have hLn : H L = none := none_of t1.dom hL
  refine ⟨fun i m H' => m = items.length - i ∧ i ≤ items.length ∧ ∃ acc accV S' av' μ', Tr H1 av1 μ1 H' av' μ' ∧ HG M.X.K H' av' μ' S' ∧ av' L ∧ L ∉ μ' ∧ H' L = some (.lst accV) ∧ Reps M.X.K H' av' μ' acc accV ∧
    Post M.X.K M.cl H1 av1 μ1 (lc2F t c fi1 tg1 c1 e vs1 (wipeE ρ vs) (items.drop i) S' acc) G W',
    ⟨items.length, by simp, Nat.zero_le _, [], [], S1, fun a => av1 a ∨ a = L, μ1, Tr.hide hL, g1.hide hL, .inr rfl, fun z => g1.nav hL (g1.sub L z), upd_same, rfl, post1⟩, ?_⟩
  rintro i m H' ⟨rfl, hle, acc, accV, S', av', μ', tr, g', aL, mL, hH, hacc, post⟩
  have go := ov H' av' μ' (tr.goes g1.sub)
  by_cases hlt : i < items.length
  · refine .inr ⟨go.1 i hlt, fun H' => ∃ acc accV S' av' μ', Tr H1 av1 μ1 H' av' μ' ∧ HG M.X.K H' av' μ' S' ∧ av' L ∧ L ∉ μ' ∧ H' L = some (.lst accV) ∧ Reps M.X.K H' av' μ' acc accV ∧
      Post M.X.K M.cl H1 av1 μ1 (lc2F t c fi1 tg1 c1 e vs1 (wipeE ρ vs) (items.drop (i + 1)) S' acc) G W', fun H'' w => ⟨items.length - (i + 1), by omega, rfl, hlt, w⟩, fun x H2 y => ?_⟩
    obtain ⟨lay, rep⟩ := go.2.2 i x H2 hlt y
    have g2 : HG M.X.K H2 av' μ' S' := lay.hg g'
    have tr2 : Tr H1 av1 μ1 H2 av' μ' := tr.trans lay.tr
    have hd : items.drop i = items[i] :: items.drop (i + 1) := List.drop_eq_getElem_cons hlt
    rw [hd] at post
    cases e1 : t items[i] (wipeE ρ vs) with
    | none => simp [lc2F, e1, Post] at post
    | some ρ1 =>
      simp only [lc2F, e1] at post
      refine ⟨wipeE ρ vs, ρ1, av', μ', items[i], er1.tr tr2 g1.sub, rep _ S' g' (List.getElem?_eq_getElem hlt), e1, fun σ2 er2 ow2 w2 => ⟨(w2 vs hv).trans wipe_wipe, ?_⟩⟩
      have hH2 : H2 L = some (.lst accV) := lay.tr.keep (av := av') (μ := μ') L _ hH mL
      have hacc2 := hacc.tr lay.tr g'.sub
      rcases nox_cases (c ρ1 S') with ec | ⟨bS, ec', ec⟩
      · rw [ec] at post; exact (show False from post).elim
      obtain ⟨b, S3⟩ := bS
      rw [ec] at post
      refine ⟨ρ1, S', av', μ', g2, er2, ?_⟩
      rw [ec']
      intro H3 av3 μ3 t3 g3
      have tr3 := tr2.trans t3
      have hH3 : H3 L = some (.lst accV) := t3.keep L _ hH2 mL
      have mL3 : L ∉ μ3 := fun z => (t3.new L z).elim mL fun q => by rw [hH2] at q; cases q
      have hacc3 := hacc2.tr t3 g2.sub
      cases b with
      | false =>
        exact iteF ⟨acc, accV, S3, av3, μ3, tr3, g3, t3.avm L aL, mL3, hH3, hacc3, by simpa [R.bind] using post⟩
      | true =>
        refine iteT ?_
        have post : Post M.X.K M.cl H1 av1 μ1 ((fi1 ρ1 S3).nox.bind fun (ys, S2) => (lcF tg1 c1 e (wipeE ρ1 vs1) ys S2 acc).bind fun (acc', S3) => lc2F t c fi1 tg1 c1 e vs1 (wipeE ρ vs) (items.drop (i + 1)) S3 acc') G W' := by simpa [R.bind] using post
        rcases nox_cases (fi1 ρ1 S3) with ei | ⟨yS, ei', ei⟩
        · rw [ei] at post; exact (show False from post).elim
        obtain ⟨ys, S4⟩ := yS
        rw [ei] at post
        have er3 := er2.tr t3 g2.sub
        refine ⟨ρ1, S3, av3, μ3, g3, er3, ?_⟩
        rw [ei']
        intro H4 av4 μ4 t4 g4 J1 ov1
        have post : Post M.X.K M.cl H1 av1 μ1 ((lcF tg1 c1 e (wipeE ρ1 vs1) ys S4 acc).bind fun (acc', S3) => lc2F t c fi1 tg1 c1 e vs1 (wipeE ρ vs) (items.drop (i + 1)) S3 acc') G W' := post
        have hH4 : H4 L = some (.lst accV) := t4.keep L _ hH3 mL3
        have mL4 : L ∉ μ4 := fun z => (t4.new L z).elim mL3 fun q => by rw [hH3] at q; cases q
        have hacc4 := hacc3.tr t4 g3.sub
        have aL4 : av4 L := t4.avm L (t3.avm L aL)
        have tr4 := tr3.trans t4
        have er4 : ER M.X.K H4 av4 μ4 (wipeE ρ1 vs1) (wipe σ2 vs1) := (er3.tr t4 g3.sub).wipe vs1
        have noL4 : ∀ i, ¬ Owns (wipeE ρ1 vs1) (wipe σ2 vs1) i L := fun i z => noL i (ow2 i L (owns_wipe z))
        refine ⟨fun j k H' => k = ys.length - j ∧ j ≤ ys.length ∧ ∃ acc accV S' av' μ', Tr H1 av1 μ1 H' av' μ' ∧ Goes M.X.K H4 av4 μ4 H' av' μ' ∧ ER M.X.K H' av' μ' (wipeE ρ1 vs1) (wipe σ2 vs1) ∧ HG M.X.K H' av' μ' S' ∧ av' L ∧ L ∉ μ' ∧ H' L = some (.lst accV) ∧ Reps M.X.K H' av' μ' acc accV ∧
          Post M.X.K M.cl H1 av1 μ1 ((lcF tg1 c1 e (wipeE ρ1 vs1) (ys.drop j) S' acc).bind fun (acc', S3) => lc2F t c fi1 tg1 c1 e vs1 (wipeE ρ vs) (items.drop (i + 1)) S3 acc') G W',
          ⟨ys.length, by simp, Nat.zero_le _, acc, accV, S4, av4, μ4, tr4, Goes.refl, er4, g4, aL4, mL4, hH4, hacc4, post⟩, ?_⟩
        clear post hacc hacc2 hacc3 hacc4 hH hH2 hH3 hH4
        rintro j k H5 ⟨rfl, hle5, acc5, accV5, S5, av5, μ5, tr5, go5, er5, g5, aL5, mL5, hH5, hacc5, post⟩
        have gi := ov1 H5 av5 μ5 go5
        by_cases hlt5 : j < ys.length
        · refine .inr ⟨gi.1 j hlt5, _, fun H'' w => ⟨ys.length - (j + 1), by omega, rfl, hlt5, w⟩, fun x6 H6 y6 => ?_⟩
          obtain ⟨lay6, rep6⟩ := gi.2.2 j x6 H6 hlt5 y6
          have g6 : HG M.X.K H6 av5 μ5 S5 := lay6.hg g5
          have tr6 : Tr H1 av1 μ1 H6 av5 μ5 := tr5.trans lay6.tr
          have go6 : Goes M.X.K H4 av4 μ4 H6 av5 μ5 := go5.trans (lay6.tr.goes g5.sub)
          have er6 := er5.tr lay6.tr g5.sub
          have hd5 : ys.drop j = ys[j] :: ys.drop (j + 1) := List.drop_eq_getElem_cons hlt5
          rw [hd5] at post
          cases e6 : tg1 ys[j] (wipeE ρ1 vs1) with
          | none => simp [lcF, e6, Post, R.bind] at post
          | some ρ6 =>
            simp only [lcF, e6] at post
            refine ⟨wipeE ρ1 vs1, ρ6, av5, μ5, ys[j], er6, rep6 _ S5 g5 (List.getElem?_eq_getElem hlt5), e6, fun σ7 er7 ow7 w7 => ⟨(w7 vs1 hv1).trans wipe_wipe, ?_⟩⟩
            have hH6 : H6 L = some (.lst accV5) := lay6.tr.keep (av := av5) (μ := μ5) L _ hH5 mL5
            have hacc6 := hacc5.tr lay6.tr g5.sub
            rcases nox_cases (c1 ρ6 S5) with ec | ⟨bS, ec', ec⟩
            · rw [ec] at post; exact (show False from post).elim
            obtain ⟨b, S7⟩ := bS
            rw [ec] at post
            refine ⟨ρ6, S5, av5, μ5, g6, er7, ?_⟩
            rw [ec']
            intro H7 av7 μ7 t7 g7
            have tr7 := tr6.trans t7
            have go7 := go6.trans (t7.goes g6.sub)
            have hH7 : H7 L = some (.lst accV5) := t7.keep L _ hH6 mL5
            have mL7 : L ∉ μ7 := fun z => (t7.new L z).elim mL5 fun q => by rw [hH6] at q; cases q
            have hacc7 := hacc6.tr t7 g6.sub
            cases b with
            | false =>
              exact iteF ⟨acc5, accV5, S7, av7, μ7, tr7, go7, er6.tr t7 g6.sub, g7, t7.avm L aL5, mL7, hH7, hacc7, by simpa [R.bind] using post⟩
            | true =>
              refine iteT ?_
              have post : Post M.X.K M.cl H1 av1 μ1 (((e ρ6 S7).nox.bind fun (y, S2) => if acc5.length < sizeLine then lcF tg1 c1 e (wipeE ρ1 vs1) (ys.drop (j + 1)) S2 (acc5 ++ [y]) else .stuck).bind fun (acc', S3) => lc2F t c fi1 tg1 c1 e vs1 (wipeE ρ vs) (items.drop (i + 1)) S3 acc') G W' := by simpa [R.bind] using post
              rcases nox_cases (e ρ6 S7) with ee | ⟨yS, ee', ee⟩
              · rw [ee] at post; exact (show False from post).elim
              obtain ⟨y', S8⟩ := yS
              rw [ee] at post
              refine ⟨ρ6, S7, av7, μ7, g7, er7.tr t7 g6.sub, ?_⟩
              rw [ee']
              intro H8 av8 μ8 t8 g8 v8 r8
              have hH8 : H8 L = some (.lst accV5) := t8.keep L _ hH7 mL7
              have mL8 : L ∉ μ8 := fun z => (t8.new L z).elim mL7 fun q => by rw [hH7] at q; cases q
              have hacc8 := hacc7.tr t8 g7.sub
              have aL8 : av8 L := t8.avm L (t7.avm L aL5)
              have hsz : acc5.length < sizeLine := by
                by_cases z : acc5.length < sizeLine
                · exact z
                · simp [R.bind, z, Post] at post
              refine ⟨accV5, hH8, by rw [hacc8.len]; exact hsz, acc5 ++ [y'], accV5 ++ [v8], S8, av8, μ8, (tr7.trans t8).upd hL, (go7.trans (t8.goes g7.sub)).trans (goes_upd aL8), ((er6.tr t7 g6.sub).tr t8 g7.sub).upd aL8 noL4, g8.upd aL8 mL8, aL8, mL8, upd_same, ?_, ?_⟩
              · exact Reps.goes (goes_upd aL8) _ _ (hacc8.app (Reps.one r8))
              · simpa [R.bind, hsz] using post
        · have e5 : j = ys.length := by omega
          subst e5
          rw [List.drop_length] at post
          exact .inl ⟨gi.2.1, acc5, accV5, S5, av5, μ5, tr5, g5, aL5, mL5, hH5, hacc5, post⟩
  · have e1 : i = items.length := by omega
    subst e1
    refine .inl ⟨go.2.1, ?_⟩
    rw [List.drop_length] at post
    subst hG
    exact post H' av' μ' tr g' L accV hLn aL mL hH hacc

section
variable {M : MX} {elt tg iter tg1 iter1 : Expr} {ifs ifs1 : List Expr} {scope : Scope} {own : List (Str × Nat)} {pos : Pos} {fi fi1 : FI} {tvs vs1 tvs1 : List Nat} {t t1 : TGT} {c c1 : FT} {e : FE}
theorem okLc2 (hc : M.X.calm = true) (hN : M.X.N.Nodup) (hi : OkI M tg iter fi) (ok : BlkOk M.X.N M.X.env.scope scope own) (hv1' : ∀ i ∈ vs1, i ∈ own.map (·.2)) (hv : ∀ i ∈ tvs, i ∈ own.map (·.2)) (hv1 : ∀ i ∈ tvs1, i ∈ vs1)
    (hg : ∀ s H C cl fp, OkG (M.blk s H scope C cl fp) tg tvs t) (ht : ∀ s H C cl fp, OkIfs (M.blk s H scope C cl fp) ifs c) (hi1 : ∀ s H C cl fp, OkI (M.blk s H scope C cl fp) tg1 iter1 fi1)
    (hg1 : ∀ s H C cl fp, OkG (M.blk s H scope C cl fp) tg1 tvs1 t1) (ht1 : ∀ s H C cl fp, OkIfs (M.blk s H scope C cl fp) ifs1 c1) (he : ∀ s H C cl fp, OkE (M.blk s H scope C cl fp) elt e)
    (hs : ∀ x, foldedSetIterable iter M.X.env x = pure x := by intro _; rfl) (hs1 : ∀ env x, foldedSetIterable iter1 env x = pure x := by intro _ _; rfl) :
    OkF M (.ListComp elt [⟨tg, iter, ifs, 0⟩, ⟨tg1, iter1, ifs1, 0⟩] scope pos) (fLc2 fi t c fi1 t1 c1 e (own.map (·.2)) vs1) :=
  ⟨_, pe_lc2 (g := rdG M.X.K tvs t) (tt := rdT M.X.K M.cl (fun _ _ _ _ => False) c) (wi1 := rdI M.X.K M.cl (fun _ _ _ _ => False) fi1) (g1 := rdG M.X.K tvs1 t1) (tt1 := rdT M.X.K M.cl (fun _ _ _ _ => False) c1) (te := rdE M.X.K M.cl (fun _ _ _ _ => False) e)
    hc hN (okI_rd hi) ok hv1' (fun s H C cl fp => okG_rd (hg s H C cl fp)) (fun s H C cl fp => ht s H C cl fp) (fun s H C cl fp => okI_rd (hi1 s H C cl fp)) (fun s H C cl fp => okG_rd (hg1 s H C cl fp)) (fun s H C cl fp => ht1 s H C cl fp) (fun s H C cl fp => okE_rd (he s H C cl fp)) hs hs1, lc2_read hv hv1⟩
end
end MP
/-! MP: operations on data. -/
namespace MP
open PySem L2 PyProof.Rows

theorem OpR.or {X : Cx} {f : Value → Value → Sem Value} {r r' : R2} (h : OpR X f r) (h' : OpR X f r') : OpR X f (fun x y H Q => r x y H Q ∨ r' x y H Q) :=
  fun pins s σ H x y v u Q I rx ry q => q.elim (h pins s σ H x y v u Q I rx ry) (h' pins s σ H x y v u Q I rx ry)

section
variable {K : PySem.W.Frag} {cl : Nat → Value} {H : Hp} {av : Addr → Prop} {μ : List Addr} {S : Store} {Q : VK} {W : WK}
/-- the end of an operation whose value is a scalar -/
theorem fin {d : D} {v : V} (h : Post K cl H av μ (.ok (d, S)) (fun d _ H' av' μ' => ∀ v, Rep K H' av' μ' d v → Q v H') W) (g : HG K H av μ S) (r : Rep K H av μ d v) : Q v H := h.ok g v r
theorem fin_tup {ds : List D} {vs : List V} (h : Post K cl H av μ (.ok (.tup ds, S)) (fun d _ H' av' μ' => ∀ v, Rep K H' av' μ' d v → Q v H') W) (g : HG K H av μ S) (r : Reps K H av μ ds vs) : ∀ p, H p = none → Q (.ref p) (upd H p (.tup vs)) :=
  fun p hp => h _ _ _ (Tr.lay hp) (g.lay hp) _ ⟨p, vs, rfl, .inl ⟨.inl upd_same, g.nav hp⟩, r.tr (.lay hp) g.sub⟩
theorem fin_lst {ds : List D} {vs : List V} (h : Post K cl H av μ (.ok (.lst ds, S)) (fun d _ H' av' μ' => ∀ v, Rep K H' av' μ' d v → Q v H') W) (g : HG K H av μ S) (r : Reps K H av μ ds vs) : ∀ p, H p = none → Q (.ref p) (upd H p (.lst vs)) :=
  fun p hp => h _ _ _ (Tr.lay hp) (g.lay hp) _ ⟨p, vs, rfl, ⟨upd_same, g.nav hp⟩, r.tr (.lay hp) g.sub⟩
end

/-! ### whole numbers -/
def int2 (ok : Int → Int → Bool) (g : Int → Int → D) : F2 := fun d e S => match d, e with
  | .int i, .int j => if ok i j = true then .ok (g i j, S) else .stuck
  | _, _ => .stuck
theorem int2_ok {K : PySem.W.Frag} {ok : Int → Int → Bool} {g : Int → Int → D} {C : Int → Int → Prop} {gv : Int → Int → V} (hC : ∀ i j, ok i j = true → C i j) (hg : ∀ i j H av μ, Rep K H av μ (g i j) (gv i j)) : Op2 K (int2 ok g) (rI C gv) := by
  intro cl H av μ S d e x y Q W hg' rd re post
  cases d <;> cases e <;> try exact (show False from post).elim
  rename_i i j
  simp only [int2] at post
  by_cases h : ok i j = true
  · rw [if_pos h] at post
    exact ⟨i, j, rd, re, hC i j h, fin post hg' (hg i j _ _ _)⟩
  · rw [if_neg h] at post
    exact (show False from post).elim
theorem rI0_of {g : Int → Int → V} {x y : V} {H : Hp} {Q : VK} (h : rI (fun _ _ => True) g x y H Q) : rI0 g x y H Q := let ⟨i, j, a, b, _, q⟩ := h; ⟨i, j, a, b, q⟩
theorem int20_ok {K : PySem.W.Frag} {g : Int → Int → D} {gv : Int → Int → V} (hg : ∀ i j H av μ, Rep K H av μ (g i j) (gv i j)) : Op2 K (int2 (fun _ _ => true) g) (rI0 gv) :=
  fun cl H av μ S d e x y Q W g' rd re post => rI0_of (int2_ok (C := fun _ _ => True) (fun _ _ _ => trivial) hg cl H av μ S d e x y Q W g' rd re post)
def subD : F2 := int2 (fun _ _ => true) fun i j => .int (i - j)
def mulOk (i j : Int) : Bool := !((decide (Builtin.Int.intBits i > shortFactorBits) && decide (Builtin.Int.intBits j > shortFactorBits) && Builtin.Int.intTooBig (Builtin.Int.intBits i + Builtin.Int.intBits j)))
theorem mulOk_of {i j : Int} (h : mulOk i j = true) : IntMulOk i j := by
  unfold mulOk at h
  unfold IntMulOk
  intro z
  rw [z] at h
  cases h
theorem mulOk_left {i j : Int} (h1 : -(2 ^ 64) < i) (h2 : i < 2 ^ 64) : mulOk i j = true := by
  have := IntMulOk.of_left (b := j) (intBits_le_64 h1 h2)
  unfold IntMulOk at this
  unfold mulOk
  rw [Bool.not_eq_true']
  exact Bool.eq_false_iff.mpr this
theorem mulOk_right {i j : Int} (h1 : -(2 ^ 64) < j) (h2 : j < 2 ^ 64) : mulOk i j = true := by
  have := IntMulOk.of_right (a := i) (intBits_le_64 h1 h2)
  unfold IntMulOk at this
  unfold mulOk
  rw [Bool.not_eq_true']
  exact Bool.eq_false_iff.mpr this
theorem mulOk_wide {i j : Int} (h : i.natAbs.log2 + j.natAbs.log2 < 1000000) : mulOk i j = true := by
  have := CMulW.ok (show CMulW i j from h)
  unfold IntMulOk at this
  unfold mulOk
  rw [Bool.not_eq_true']
  exact Bool.eq_false_iff.mpr this
def repOk (n : Nat) (k : Int) : Bool := decide (n ≠ 0) && decide (2 ≤ k) && decide (k ≤ 1000) && decide (n ≤ 1000)
def mulD : F2 := fun d e S => match d, e with
  | .int i, .int j => if mulOk i j = true then .ok (.int (i * j), S) else .stuck
  | .lst xs, .int k => if (decide (-(2 ^ 63) ≤ k) && decide (k < 2 ^ 63) && decide (xs.length * k.toNat ≤ sizeLine)) = true then .ok (.lst (List.replicate k.toNat xs).flatten, S) else .stuck
  | .tup xs, .int k => if repOk xs.length k = true then .ok (.tup (List.replicate k.toNat xs).flatten, S) else .stuck
  | _, _ => .stuck
def rMulA (K : PySem.W.Frag) : R2 := fun x y H Q => rI IntMulOk (fun i j => .int (i * j)) x y H Q ∨ (rRep x y H Q ∨ rRepT K x y H Q)
theorem op_mulA {X : Cx} : OpR X (binaryOp .Mult) (rMulA X.K) := OpR.or (opI fun _ _ _ _ _ _ _ hc q => mul_int q hc) (OpR.or op_rep op_repT)
theorem Reps.rep {K : PySem.W.Frag} {H : Hp} {av : Addr → Prop} {μ : List Addr} {ds : List D} {vs : List V} (r : Reps K H av μ ds vs) : ∀ n : Nat, Reps K H av μ (List.replicate n ds).flatten (List.replicate n vs).flatten
  | 0 => rfl
  | n + 1 => by
    rw [List.replicate_succ, List.replicate_succ, List.flatten_cons, List.flatten_cons]
    exact r.app (Reps.rep r n)
theorem mulD_ok {K : PySem.W.Frag} : Op2 K mulD (rMulA K) := by
  intro cl H av μ S d e x y Q W g rd re post
  cases d <;> cases e <;> try exact (show False from post).elim
  · rename_i i j
    simp only [mulD] at post
    by_cases h : mulOk i j = true
    · rw [if_pos h] at post
      exact .inl ⟨i, j, rd, re, mulOk_of h, fin post g rfl⟩
    · rw [if_neg h] at post
      exact (show False from post).elim
  · rename_i xs k
    simp only [mulD] at post
    by_cases h : repOk xs.length k = true
    · rw [if_pos h] at post
      obtain ⟨a, vs, rfl, t, r⟩ := rd
      unfold repOk at h
      simp only [Bool.and_eq_true, decide_eq_true_eq] at h
      obtain ⟨⟨⟨h1, h2⟩, h3⟩, h4⟩ := h
      have hl := r.len
      refine .inr (.inr ⟨a, k, vs, rfl, re, t.sq, fun z => h1 (by rw [← hl, z]; rfl), h2, h3, by omega, fin_tup post g (r.rep _)⟩)
    · rw [if_neg h] at post
      exact (show False from post).elim
  · rename_i xs k
    simp only [mulD] at post
    by_cases h : (decide (-(2 ^ 63) ≤ k) && decide (k < 2 ^ 63) && decide (xs.length * k.toNat ≤ sizeLine)) = true
    · rw [if_pos h] at post
      obtain ⟨a, vs, rfl, t, r⟩ := rd
      simp only [Bool.and_eq_true, decide_eq_true_eq] at h
      obtain ⟨⟨h1, h2⟩, h3⟩ := h
      refine .inr (.inl ⟨a, k, vs, rfl, re, t.1, h1, h2, by rw [r.len]; exact h3, fin_lst post g (r.rep _)⟩)
    · rw [if_neg h] at post
      exact (show False from post).elim
def divD : F2 := int2 (fun _ j => decide (0 < j) && decide (j.natAbs.log2 < 9000)) fun i j => .int (i / j)
theorem divD_ok {K : PySem.W.Frag} : Op2 K divD (rI CDivW fun i j => .int (i / j)) := int2_ok (fun i j h => by
  simp only [Bool.and_eq_true, decide_eq_true_eq] at h
  exact h) fun _ _ _ _ _ => rfl
def modD : F2 := int2 (fun _ j => decide (0 < j)) fun i j => .int (i % j)
theorem modD_ok {K : PySem.W.Frag} : Op2 K modD (rI (fun _ j => 0 < j) fun i j => .int (i % j)) := int2_ok (fun i j h => by simpa using h) fun _ _ _ _ _ => rfl
def powD : F2 := int2 (fun i j => decide (0 ≤ j) && decide (j ≤ 1000000) && decide (i.natAbs < 2 ^ 64)) fun i j => .int (i ^ j.toNat)
theorem powD_ok {K : PySem.W.Frag} : Op2 K powD (rI CPow fun i j => .int (i ^ j.toNat)) := int2_ok (fun i j h => by
  simp only [Bool.and_eq_true, decide_eq_true_eq] at h
  exact ⟨h.1.1, h.1.2, h.2⟩) fun _ _ _ _ _ => rfl
def shlD : F2 := int2 (fun i j => decide (0 ≤ j) && decide (j ≤ 1000000) && decide (i.natAbs < 2 ^ 64)) fun i j => .int (i * 2 ^ j.toNat)
theorem shlD_ok {K : PySem.W.Frag} : Op2 K shlD (rI CPow fun i j => .int (i * 2 ^ j.toNat)) := int2_ok (fun i j h => by
  simp only [Bool.and_eq_true, decide_eq_true_eq] at h
  exact ⟨h.1.1, h.1.2, h.2⟩) fun _ _ _ _ _ => rfl
theorem subD_ok {K : PySem.W.Frag} : Op2 K subD (rI0 fun i j => .int (i - j)) := int20_ok fun _ _ _ _ _ => rfl
def ltD : F2 := int2 (fun _ _ => true) fun i j => .bl (decide (i < j))
def leD : F2 := int2 (fun _ _ => true) fun i j => .bl (decide (i ≤ j))
def gtD : F2 := int2 (fun _ _ => true) fun i j => .bl (decide (j < i))
def geD : F2 := int2 (fun _ _ => true) fun i j => .bl (decide (j ≤ i))
theorem ltD_ok {K : PySem.W.Frag} : Op2 K ltD (rI0 fun i j => .bl (decide (i < j))) := int20_ok fun _ _ _ _ _ => rfl
theorem leD_ok {K : PySem.W.Frag} : Op2 K leD (rI0 fun i j => .bl (decide (i ≤ j))) := int20_ok fun _ _ _ _ _ => rfl
theorem gtD_ok {K : PySem.W.Frag} : Op2 K gtD (rI0 fun i j => .bl (decide (j < i))) := int20_ok fun _ _ _ _ _ => rfl
theorem geD_ok {K : PySem.W.Frag} : Op2 K geD (rI0 fun i j => .bl (decide (j ≤ i))) := int20_ok fun _ _ _ _ _ => rfl
def negD : F1 := fun d S => match d with
  | .int i => .ok (.int (-i), S)
  | _ => .stuck
theorem negD_ok {K : PySem.W.Frag} : Op1 K negD (rU fun i => .int (-i)) := by
  intro cl H av μ S d x Q W g rd post
  cases d <;> try exact (show False from post).elim
  rename_i i
  exact ⟨i, rd, fin post g rfl⟩

/-! ### + -/
def addD : F2 := fun d e S => match d, e with
  | .int i, .int j => .ok (.int (i + j), S)
  | .str x, .str y => if x.length + y.length ≤ sizeLine then .ok (.str (x ++ y), S) else .stuck
  | .tup xs, .tup ys => if xs.length + ys.length ≤ sizeLine then .ok (.tup (xs ++ ys), S) else .stuck
  | .lst xs, .lst ys => if xs.length + ys.length ≤ sizeLine then .ok (.lst (xs ++ ys), S) else .stuck
  | _, _ => .stuck
def rAddS' : R2 := fun x y H Q => ∃ i j, x = .str i ∧ y = .str j ∧ i.length + j.length ≤ sizeLine ∧ Q (.str (i ++ j)) H
def rAddA (K : PySem.W.Frag) : R2 := fun x y H Q => rI0 (fun i j => .int (i + j)) x y H Q ∨ (rAddS' x y H Q ∨ (rCatA K x y H Q ∨ rCat x y H Q))
theorem op_addA {X : Cx} : OpR X (binaryOp .Add) (rAddA X.K) := OpR.or op_add (OpR.or op_add_str (OpR.or op_catA op_cat))
theorem addD_ok {K : PySem.W.Frag} : Op2 K addD (rAddA K) := by
  intro cl H av μ S d e x y Q W g rd re post
  cases d <;> cases e <;> try exact (show False from post).elim
  · rename_i i j
    exact .inl ⟨i, j, rd, re, fin post g rfl⟩
  · rename_i i j
    simp only [addD] at post
    by_cases h : i.length + j.length ≤ sizeLine
    · rw [if_pos h] at post
      exact .inr (.inl ⟨i, j, rd, re, h, fin post g rfl⟩)
    · rw [if_neg h] at post
      exact (show False from post).elim
  · rename_i xs ys
    simp only [addD] at post
    by_cases h : xs.length + ys.length ≤ sizeLine
    · rw [if_pos h] at post
      obtain ⟨a, vs, rfl, t, r⟩ := rd
      obtain ⟨b, us, rfl, t', r'⟩ := re
      refine .inr (.inr (.inl ⟨a, b, vs, us, rfl, rfl, t.sq, t'.sq, by rw [r.len, r'.len]; exact h, fun z => ?_, fun _ z => ?_, fun _ _ => fin_tup post g (r.app r')⟩))
      · have e1 : xs = [] := List.eq_nil_of_length_eq_zero (by rw [← r.len, z]; rfl)
        subst e1
        exact fin post g ⟨b, us, rfl, t', r'⟩
      · have e1 : ys = [] := List.eq_nil_of_length_eq_zero (by rw [← r'.len, z]; rfl)
        subst e1
        rw [List.append_nil] at post
        exact fin post g ⟨a, vs, rfl, t, r⟩
    · rw [if_neg h] at post
      exact (show False from post).elim
  · rename_i xs ys
    simp only [addD] at post
    by_cases h : xs.length + ys.length ≤ sizeLine
    · rw [if_pos h] at post
      obtain ⟨a, vs, rfl, t, r⟩ := rd
      obtain ⟨b, us, rfl, t', r'⟩ := re
      exact .inr (.inr (.inr ⟨a, b, vs, us, rfl, rfl, t.1, t'.1, by rw [r.len, r'.len]; exact h, fin_lst post g (r.app r')⟩))
    · rw [if_neg h] at post
      exact (show False from post).elim

/-! ### == -/
mutual
def toP : D → Option PyData
  | .non => some .none
  | .bl b => some (.bool b)
  | .int i => some (.int i)
  | .str x => some (.str x)
  | .tup xs => (toPs xs).map .tuple
  | .lst xs => (toPs xs).map .list
  | .fls xs => (toPs xs).map .list
  | .ref _ => none
def toPs : List D → Option (List PyData)
  | [] => some []
  | x :: xs => (toP x).bind fun p => (toPs xs).map fun ps => p :: ps
end
section
variable {K : PySem.W.Frag} {H : Hp} {av : Addr → Prop} {μ : List Addr}
mutual
theorem dp_of : ∀ (d : D) (v : V) (p : PyData), Rep K H av μ d v → toP d = some p → Dp K H v p
  | .non, v, p, h, e => by cases e; cases (show v = .non from h); exact .non
  | .bl b, v, p, h, e => by cases e; cases (show v = .bl b from h); exact .bl b
  | .int b, v, p, h, e => by cases e; cases (show v = .int b from h); exact .int b
  | .str b, v, p, h, e => by cases e; cases (show v = .str b from h); exact .str b
  | .tup xs, v, p, h, e => by
    obtain ⟨a, vs, rfl, t, r⟩ := h
    cases e1 : toPs xs with
    | none => rw [toP, e1] at e; cases e
    | some ps =>
      rw [toP, e1] at e
      cases e
      exact .tup t.sq (dps_of xs vs ps r e1)
  | .lst xs, v, p, h, e => by
    obtain ⟨a, vs, rfl, t, r⟩ := h
    cases e1 : toPs xs with
    | none => rw [toP, e1] at e; cases e
    | some ps =>
      rw [toP, e1] at e
      cases e
      exact .lst t.sq (dps_of xs vs ps r e1)
  | .fls xs, v, p, h, e => by
    obtain ⟨a, vs, rfl, t, r⟩ := h
    cases e1 : toPs xs with
    | none => rw [toP, e1] at e; cases e
    | some ps =>
      rw [toP, e1] at e
      cases e
      exact .lst t.sq (dps_of xs vs ps r e1)
  | .ref i, v, p, h, e => by cases e
theorem dps_of : ∀ (d : List D) (v : List V) (p : List PyData), Reps K H av μ d v → toPs d = some p → DpAll K H v p
  | [], v, p, h, e => by cases e; cases (show v = [] from h); exact .nil
  | x :: xs, v, p, h, e => by
    obtain ⟨w, r, rfl, h1, h2⟩ := h
    rw [toPs] at e
    cases e1 : toP x with
    | none => rw [e1] at e; cases e
    | some q =>
      cases e2 : toPs xs with
      | none => rw [e1, e2] at e; cases e
      | some qs =>
        rw [e1, e2] at e
        cases e
        exact .cons (dp_of x w q h1 e1) (dps_of xs r qs h2 e2)
end
theorem dp_ofB {d : D} {v : V} {p : PyData} (h : RepB K H av μ d v) (e : toP d = some p) : Dp K H v p := by
  cases d with
  | lst xs =>
    obtain ⟨a, vs, rfl, t, r⟩ := h
    cases e1 : toPs xs with
    | none => rw [toP, e1] at e; cases e
    | some ps =>
      rw [toP, e1] at e
      cases e
      exact .lst t.sq (dps_of xs vs ps r e1)
  | _ => exact dp_of _ _ _ h e
end
def scalD : D → D → Option Bool
  | .non, .non => some true
  | .non, .int _ => some false
  | .int _, .non => some false
  | .non, .bl _ => some false
  | .bl _, .non => some false
  | .non, .str _ => some false
  | .str _, .non => some false
  | .int i, .int j => some (decide (i = j))
  | .bl i, .bl j => some (decide (i = j))
  | .str i, .str j => some (decide (i = j))
  | .int _, .str _ => some false
  | .str _, .int _ => some false
  | .bl _, .str _ => some false
  | .str _, .bl _ => some false
  | _, _ => none
def eqB (d e : D) : R Bool := match scalD d e with
  | some b => .ok b
  | none => match toP d, toP e with
    | some p, some q => if (SeqAt.shaped p && SeqAt.shaped q) = true then .ok (PyData.eqv p q) else .stuck
    | _, _ => .stuck
def eqD : F2 := fun d e S => (eqB d e).bind fun b => .ok (.bl b, S)
def neD : F2 := fun d e S => (eqB d e).bind fun b => .ok (.bl (!b), S)
def rEqA (K : PySem.W.Frag) : R2 := fun x y H Q => rEq x y H Q ∨ rEqD K x y H Q
def rNeA (K : PySem.W.Frag) : R2 := fun x y H Q => rNe x y H Q ∨ rNeD K x y H Q
theorem op_eqA {X : Cx} (hu : X.A.units + 64 < cLine) : OpR X (compareOp .Eq) (rEqA X.K) := OpR.or op_eq (op_eqD hu)
theorem op_neA {X : Cx} (hu : X.A.units + 64 < cLine) : OpR X (compareOp .NotEq) (rNeA X.K) := OpR.or op_ne (op_neD hu)
theorem scal_of {K : PySem.W.Frag} {H : Hp} {av : Addr → Prop} {μ : List Addr} {d e : D} {x y : V} {b : Bool} (h : scalD d e = some b) (rd : RepB K H av μ d x) (re : RepB K H av μ e y) : scal x y = true ∧ b = decide (x = y) := by
  cases d <;> cases e <;> simp only [scalD] at h <;> (try cases h) <;> (first
    | (cases (show x = _ from rd); cases (show y = _ from re); exact ⟨rfl, by simp⟩)
    )
theorem eqB_read {K : PySem.W.Frag} {H : Hp} {av : Addr → Prop} {μ : List Addr} {d e : D} {x y : V} (rd : RepB K H av μ d x) (re : RepB K H av μ e y) : eqB d e = .stuck ∨
    (scal x y = true ∧ eqB d e = .ok (decide (x = y))) ∨ ∃ p q, Dp K H x p ∧ Dp K H y q ∧ SeqAt.shaped p = true ∧ SeqAt.shaped q = true ∧ eqB d e = .ok (PyData.eqv p q) := by
  unfold eqB
  cases hs : scalD d e with
  | some b =>
    obtain ⟨h1, h2⟩ := scal_of hs rd re
    exact .inr (.inl ⟨h1, by rw [h2]⟩)
  | none =>
    cases e1 : toP d with
    | none => exact .inl rfl
    | some p =>
      cases e2 : toP e with
      | none => exact .inl rfl
      | some q =>
        show (if (SeqAt.shaped p && SeqAt.shaped q) = true then R.ok (PyData.eqv p q) else .stuck) = _ ∨ _
        by_cases h : (SeqAt.shaped p && SeqAt.shaped q) = true
        · obtain ⟨h1, h2⟩ := Bool.and_eq_true_iff.mp h
          exact .inr (.inr ⟨p, q, dp_ofB rd e1, dp_ofB re e2, h1, h2, by show (if (SeqAt.shaped p && SeqAt.shaped q) = true then R.ok (PyData.eqv p q) else .stuck) = _; rw [if_pos h]⟩)
        · exact .inl (if_neg h)
theorem eqD_ok {K : PySem.W.Frag} : Op2 K eqD (rEqA K) := by
  intro cl H av μ S d e x y Q W g rd re post
  unfold eqD at post
  rcases eqB_read rd re with h | ⟨hs, h⟩ | ⟨p, q, h1, h2, h3, h4, h⟩
  · rw [h] at post; exact (show False from post).elim
  · rw [h] at post; exact .inl ⟨hs, fin post g rfl⟩
  · rw [h] at post; exact .inr ⟨p, q, h1, h2, h3, h4, fin post g rfl⟩
theorem neD_ok {K : PySem.W.Frag} : Op2 K neD (rNeA K) := by
  intro cl H av μ S d e x y Q W g rd re post
  unfold neD at post
  rcases eqB_read rd re with h | ⟨hs, h⟩ | ⟨p, q, h1, h2, h3, h4, h⟩
  · rw [h] at post; exact (show False from post).elim
  · rw [h] at post; exact .inl ⟨hs, fin post g rfl⟩
  · rw [h] at post; exact .inr ⟨p, q, h1, h2, h3, h4, fin post g rfl⟩
/-! is None -/
def isNon : D → Bool
  | .non => true
  | _ => false
def isNonD : F2 := fun d e S => match e with
  | .non => .ok (.bl (isNon d), S)
  | _ => .stuck
def notNonD : F2 := fun d e S => match e with
  | .non => .ok (.bl (!isNon d), S)
  | _ => .stuck
theorem isNon_of {K : PySem.W.Frag} {H : Hp} {av : Addr → Prop} {μ : List Addr} {d : D} {x : V} (rd : RepB K H av μ d x) : decide (x = .non) = isNon d := by
  cases d with
  | non => cases (show x = _ from rd); rfl
  | bl _ => cases (show x = _ from rd); rfl
  | int _ => cases (show x = _ from rd); rfl
  | str _ => cases (show x = _ from rd); rfl
  | tup _ => obtain ⟨a, vs, rfl, _⟩ := rd; rfl
  | lst _ => obtain ⟨a, vs, rfl, _⟩ := rd; rfl
  | fls _ => obtain ⟨a, vs, rfl, _⟩ := rd; rfl
  | ref _ => obtain ⟨a, rfl, _⟩ := rd; rfl
theorem isNonD_ok {K : PySem.W.Frag} : Op2 K isNonD (fun x y H Q => y = .non ∧ Q (.bl (decide (x = .non))) H) := by
  intro cl H av μ S d e x y Q W g rd re post
  cases e <;> try exact (show False from post).elim
  refine ⟨re, ?_⟩
  rw [isNon_of rd]
  exact fin post g rfl
theorem notNonD_ok {K : PySem.W.Frag} : Op2 K notNonD (fun x y H Q => y = .non ∧ Q (.bl (!decide (x = .non))) H) := by
  intro cl H av μ S d e x y Q W g rd re post
  cases e <;> try exact (show False from post).elim
  refine ⟨re, ?_⟩
  rw [isNon_of rd]
  exact fin post g rfl

/-! ### subscripts -/
def ixD : F2 := fun d e S => match d, e with
  | .tup xs, .int i => match atI xs i with
    | some x => .ok (x, S)
    | none => .stuck
  | .lst xs, .int i => match atI xs i with
    | some x => .ok (x, S)
    | none => .stuck
  | .fls xs, .int i => match atI xs i with
    | some x => .ok (x, S)
    | none => .stuck
  | .str z, .int i => if z.length ≤ sizeLine then match atI z.cps.toList i with
    | some c => .ok (.str ⟨#[c]⟩, S)
    | none => .stuck else .stuck
  | .ref n, .int i => match S[n]? with
    | some (.lst xs) => match atI xs i with
      | some x => .ok (x, S)
      | none => .stuck
    | _ => .stuck
  | _, _ => .stuck
theorem Reps.atI {K : PySem.W.Frag} {H : Hp} {av : Addr → Prop} {μ : List Addr} {ds : List D} {vs : List V} {i : Int} {d : D} (r : Reps K H av μ ds vs) (h : L2.atI ds i = some d) : ∃ v, L2.atI vs i = some v ∧ Rep K H av μ d v := by
  unfold L2.atI at h ⊢
  rw [r.len]
  cases e : ixN ds.length i with
  | none => rw [e] at h; cases h
  | some j =>
    rw [e] at h
    exact r.get (i := j) h
theorem HG.lst {K : PySem.W.Frag} {H : Hp} {av : Addr → Prop} {μ : List Addr} {S : Store} {n : Nat} {xs : List D} {v : V} (g : HG K H av μ S) (r : Rep K H av μ (.ref n) v) (h : S[n]? = some (.lst xs)) :
    ∃ a vs, v = .ref a ∧ μ[n]? = some a ∧ H a = some (.lst vs) ∧ Reps K H av μ xs vs := by
  obtain ⟨a, rfl, m⟩ := r
  obtain ⟨vs, h1, h2⟩ := g.obj n a _ m h
  exact ⟨a, vs, rfl, m, h1, h2⟩
theorem ixD_ok {K : PySem.W.Frag} : Op2 K ixD (rIx K) := by
  intro cl H av μ S d e x y Q W g rd re post
  cases d <;> cases e <;> try exact (show False from post).elim
  · rename_i z i
    simp only [ixD] at post
    by_cases hz : z.length ≤ sizeLine
    · rw [if_pos hz] at post
      cases h : atI z.cps.toList i with
      | none => rw [h] at post; exact (show False from post).elim
      | some c => rw [h] at post; exact .inr (.inr ⟨z, i, c, rd, re, hz, h, fin post g rfl⟩)
    · rw [if_neg hz] at post; exact (show False from post).elim
  · rename_i xs i
    simp only [ixD] at post
    cases h : atI xs i with
    | none => rw [h] at post; exact (show False from post).elim
    | some d =>
      rw [h] at post
      obtain ⟨a, vs, rfl, t, r⟩ := rd
      obtain ⟨v, h1, h2⟩ := r.atI h
      exact .inr (.inl ⟨a, vs, i, v, rfl, re, t.sq, h1, fin post g h2⟩)
  · rename_i xs i
    simp only [ixD] at post
    cases h : atI xs i with
    | none => rw [h] at post; exact (show False from post).elim
    | some d =>
      rw [h] at post
      obtain ⟨a, vs, rfl, t, r⟩ := rd
      obtain ⟨v, h1, h2⟩ := r.atI h
      exact .inl ⟨a, vs, i, v, rfl, re, t.sq, h1, fin post g h2⟩
  · rename_i xs i
    simp only [ixD] at post
    cases h : atI xs i with
    | none => rw [h] at post; exact (show False from post).elim
    | some d =>
      rw [h] at post
      obtain ⟨a, vs, rfl, t, r⟩ := rd
      obtain ⟨v, h1, h2⟩ := r.atI h
      exact .inl ⟨a, vs, i, v, rfl, re, t.sq, h1, fin post g h2⟩
  · rename_i n i
    simp only [ixD] at post
    cases h0 : S[n]? with
    | none => rw [h0] at post; exact (show False from post).elim
    | some o =>
      cases o with
      | lst xs =>
        rw [h0] at post
        dsimp only at post
        cases h : atI xs i with
        | none => rw [h] at post; exact (show False from post).elim
        | some d =>
          rw [h] at post
          obtain ⟨a, vs, rfl, _, hH, r⟩ := g.lst rd h0
          obtain ⟨v, h1, h2⟩ := r.atI h
          exact .inl ⟨a, vs, i, v, rfl, re, .inl (.inl hH), h1, fin post g h2⟩
end MP
/-! MP: built-ins. -/
namespace MP
open PySem L2 PyProof.Rows

section
variable {K : PySem.W.Frag} {cl : Nat → Value} {H : Hp} {av : Addr → Prop} {μ : List Addr} {S : Store} {Q : VK} {W : WK}
theorem RepsB.one {d : D} {vs : List V} (h : RepsB K H av μ [d] vs) : ∃ v, vs = [v] ∧ RepB K H av μ d v := by
  obtain ⟨v, r, rfl, h1, h2⟩ := h
  cases (show r = [] from h2)
  exact ⟨v, rfl, h1⟩
theorem RepsB.two {d e : D} {vs : List V} (h : RepsB K H av μ [d, e] vs) : ∃ v w, vs = [v, w] ∧ RepB K H av μ d v ∧ RepB K H av μ e w := by
  obtain ⟨v, r, rfl, h1, h2⟩ := h
  obtain ⟨w, rfl, h3⟩ := RepsB.one h2
  exact ⟨v, w, rfl, h1, h3⟩
end

/-! ### len -/
def lenD : FN := fun ds S => match ds with
  | [.tup xs] => .ok (.int xs.length, S)
  | [.lst xs] => .ok (.int xs.length, S)
  | [.fls xs] => .ok (.int xs.length, S)
  | [.str z] => if z.length ≤ sizeLine then .ok (.int z.length, S) else .stuck
  | [.ref n] => match S[n]? with
    | some (.lst xs) => .ok (.int xs.length, S)
    | _ => .stuck
  | _ => .stuck
def rLenA (K : PySem.W.Frag) : List V → Hp → VK → Prop := fun xs H Q => (∃ p ys, xs = [.ref p] ∧ (SqL K H p ys ∨ SqT K H p ys) ∧ Q (.int ys.length) H) ∨ ∃ z, xs = [.str z] ∧ z.length ≤ sizeLine ∧ Q (.int z.length) H
theorem cr_lenA {X : Cx} : CallR X (.builtin "len") (rLenA X.K) := CallR.or call_len_seq call_len_str
theorem lenD_ok {K : PySem.W.Frag} : OpN K lenD (rLenA K) := by
  intro cl H av μ S ds xs Q W g rd post
  unfold lenD at post
  split at post
  · obtain ⟨v, rfl, a, vs, rfl, t, r⟩ := RepsB.one rd
    exact .inl ⟨a, vs, rfl, .inr t.sq, by rw [r.len]; exact fin post g rfl⟩
  · obtain ⟨v, rfl, a, vs, rfl, t, r⟩ := RepsB.one rd
    exact .inl ⟨a, vs, rfl, .inl t.sq, by rw [r.len]; exact fin post g rfl⟩
  · obtain ⟨v, rfl, a, vs, rfl, t, r⟩ := RepsB.one rd
    exact .inl ⟨a, vs, rfl, .inl t.sq, by rw [r.len]; exact fin post g rfl⟩
  · obtain ⟨v, rfl, r⟩ := RepsB.one rd
    cases (show v = _ from r)
    split at post
    · rename_i z h
      exact .inr ⟨z, rfl, h, fin post g rfl⟩
    · exact (show False from post).elim
  · obtain ⟨v, rfl, r⟩ := RepsB.one rd
    split at post
    · rename_i n ys h
      obtain ⟨a, vs, rfl, _, hH, rr⟩ := g.lst r h
      exact .inl ⟨a, vs, rfl, .inl (.inl (.inl hH)), by rw [rr.len]; exact fin post g rfl⟩
    · exact (show False from post).elim
  · exact (show False from post).elim

/-! ### tuple, list -/
def tupD : FN := fun ds S => match ds with
  | [.tup xs] => .ok (.tup xs, S)
  | [.lst xs] => .ok (.tup xs, S)
  | [.fls xs] => .ok (.tup xs, S)
  | [.ref n] => match S[n]? with
    | some (.lst xs) => .ok (.tup xs, S)
    | _ => .stuck
  | _ => .stuck
def rTupC (K : PySem.W.Frag) : List V → Hp → VK → Prop := fun xs H Q => ∃ p ys, xs = [.ref p] ∧ ((SqL K H p ys ∧ ∀ l, H l = none → Q (.ref l) (upd H l (.tup ys))) ∨ (SqT K H p ys ∧ Q (.ref p) H))
theorem tupD_ok {K : PySem.W.Frag} : OpN K tupD (rTupC K) := by
  intro cl H av μ S ds xs Q W g rd post
  unfold tupD at post
  split at post
  · obtain ⟨v, rfl, a, vs, rfl, t, r⟩ := RepsB.one rd
    exact ⟨a, vs, rfl, .inr ⟨t.sq, fin post g ⟨a, vs, rfl, t, r⟩⟩⟩
  · obtain ⟨v, rfl, a, vs, rfl, t, r⟩ := RepsB.one rd
    exact ⟨a, vs, rfl, .inl ⟨t.sq, fin_tup post g r⟩⟩
  · obtain ⟨v, rfl, a, vs, rfl, t, r⟩ := RepsB.one rd
    exact ⟨a, vs, rfl, .inl ⟨t.sq, fin_tup post g r⟩⟩
  · obtain ⟨v, rfl, r⟩ := RepsB.one rd
    split at post
    · rename_i n ys h
      obtain ⟨a, vs, rfl, _, hH, rr⟩ := g.lst r h
      exact ⟨a, vs, rfl, .inl ⟨.inl (.inl hH), fin_tup post g rr⟩⟩
    · exact (show False from post).elim
  · exact (show False from post).elim
def itemsD (S : Store) : D → Option (List D)
  | .tup xs => some xs
  | .lst xs => some xs
  | .fls xs => some xs
  | .ref n => match S[n]? with
    | some (.lst xs) => some xs
    | _ => none
  | _ => none
theorem itemsD_of {K : PySem.W.Frag} {H : Hp} {av : Addr → Prop} {μ : List Addr} {S : Store} {d : D} {v : V} {xs : List D} (g : HG K H av μ S) (r : RepB K H av μ d v) (h : itemsD S d = some xs) : ∃ a vs, v = .ref a ∧ (SqL K H a vs ∨ SqT K H a vs) ∧ Reps K H av μ xs vs := by
  unfold itemsD at h
  split at h
  · cases h
    obtain ⟨a, vs, rfl, t, r⟩ := r
    exact ⟨a, vs, rfl, .inr t.sq, r⟩
  · cases h
    obtain ⟨a, vs, rfl, t, r⟩ := r
    exact ⟨a, vs, rfl, .inl t.sq, r⟩
  · cases h
    obtain ⟨a, vs, rfl, t, r⟩ := r
    exact ⟨a, vs, rfl, .inl t.sq, r⟩
  · split at h
    · rename_i n ys hs
      cases h
      obtain ⟨a, vs, rfl, _, hH, rr⟩ := g.lst r hs
      exact ⟨a, vs, rfl, .inl (.inl (.inl hH)), rr⟩
    · cases h
  · cases h
def rLstC (K : PySem.W.Frag) : List V → Hp → VK → Prop := fun xs H Q => ∃ p ys, xs = [.ref p] ∧ (SqL K H p ys ∨ SqT K H p ys) ∧ ∀ l, H l = none → Q (.ref l) (upd H l (.lst ys))
def lstG : G1 := fun ds S => match ds with
  | [d] => match itemsD S d with
    | some xs => .ok (xs, S)
    | none => .stuck
  | _ => .stuck
theorem lstG_ok {K : PySem.W.Frag} : OpNF K lstG (rLstC K) := by
  intro H av μ S S' ds xs us Q g rd e k
  unfold lstG at e
  split at e
  · obtain ⟨v, rfl, r⟩ := RepsB.one rd
    split at e
    · rename_i ys h
      cases e
      obtain ⟨a, vs, rfl, t, rr⟩ := itemsD_of g r h
      exact ⟨a, vs, rfl, t, fun l hl => k l vs rfl hl rr⟩
    · cases e
  · cases e
theorem lstG_nx (ds : List D) (S : Store) : (lstG ds S).isExc = false := by
  unfold lstG
  split
  · split <;> rfl
  · rfl
/-! ### list + list, new -/
def catG : G1 := fun ds S => match ds with
  | [.lst xs, .lst ys] => if xs.length + ys.length ≤ sizeLine then .ok (xs ++ ys, S) else .stuck
  | _ => .stuck

/-! ### numbers -/
def toInts : List D → Option (List Int)
  | [] => some []
  | .int i :: xs => (toInts xs).map fun ns => i :: ns
  | _ => none
theorem ints_of {K : PySem.W.Frag} {H : Hp} {av : Addr → Prop} {μ : List Addr} : ∀ {ds : List D} {vs : List V} {ns : List Int}, Reps K H av μ ds vs → toInts ds = some ns → vs = ns.map V.int
  | [], vs, ns, r, h => by cases h; cases (show vs = [] from r); rfl
  | d :: ds, vs, ns, r, h => by
    obtain ⟨v, us, rfl, r1, r2⟩ := r
    cases d with
    | int i =>
      cases e : toInts ds with
      | none => rw [toInts, e] at h; cases h
      | some ms =>
        rw [toInts, e] at h
        cases h
        rw [ints_of r2 e, show v = V.int i from r1]
        rfl
    | _ => cases h
theorem toInts_map (ns : List Int) : toInts (ns.map D.int) = some ns := by
  induction ns with
  | nil => rfl
  | cons n ns ih => simp [toInts, ih]
def toBls : List D → Option (List Bool)
  | [] => some []
  | .bl i :: xs => (toBls xs).map fun ns => i :: ns
  | _ => none
theorem bls_of {K : PySem.W.Frag} {H : Hp} {av : Addr → Prop} {μ : List Addr} : ∀ {ds : List D} {vs : List V} {ns : List Bool}, Reps K H av μ ds vs → toBls ds = some ns → vs = ns.map V.bl
  | [], vs, ns, r, h => by cases h; cases (show vs = [] from r); rfl
  | d :: ds, vs, ns, r, h => by
    obtain ⟨v, us, rfl, r1, r2⟩ := r
    cases d with
    | bl i =>
      cases e : toBls ds with
      | none => rw [toBls, e] at h; cases h
      | some ms =>
        rw [toBls, e] at h
        cases h
        rw [bls_of r2 e, show v = V.bl i from r1]
        rfl
    | _ => cases h
theorem toBls_map (ns : List Bool) : toBls (ns.map D.bl) = some ns := by
  induction ns with
  | nil => rfl
  | cons n ns ih => simp [toBls, ih]
/-- an operation on a list of ints, of bools -/
def onInts (f : List Int → Option D) : FN := fun ds S => match ds with
  | [.lst xs] => match toInts xs with
    | some ns => match f ns with
      | some d => .ok (d, S)
      | none => .stuck
    | none => .stuck
  | _ => .stuck
def sumD : FN := onInts fun ns => some (.int ns.sum)
theorem sumD_ok {K : PySem.W.Frag} : OpN K sumD (rSum K) := by
  intro cl H av μ S ds xs Q W g rd post
  unfold sumD onInts at post
  split at post
  · obtain ⟨v, rfl, a, vs, rfl, t, r⟩ := RepsB.one rd
    split at post
    · rename_i ns h
      have e := ints_of r h
      subst e
      exact ⟨a, ns, rfl, t.sq, fin post g rfl⟩
    · exact (show False from post).elim
  · exact (show False from post).elim
def allD : FN := fun ds S => match ds with
  | [.lst xs] => match toBls xs with
    | some ns => .ok (.bl (ns.all id), S)
    | none => .stuck
  | _ => .stuck
def anyD : FN := fun ds S => match ds with
  | [.lst xs] => match toBls xs with
    | some ns => .ok (.bl (ns.any id), S)
    | none => .stuck
  | _ => .stuck
theorem allD_ok {K : PySem.W.Frag} : OpN K allD (rAll K) := by
  intro cl H av μ S ds xs Q W g rd post
  unfold allD at post
  split at post
  · obtain ⟨v, rfl, a, vs, rfl, t, r⟩ := RepsB.one rd
    split at post
    · rename_i ns h
      have e := bls_of r h
      subst e
      exact ⟨a, ns, rfl, t.sq, fin post g rfl⟩
    · exact (show False from post).elim
  · exact (show False from post).elim
theorem anyD_ok {K : PySem.W.Frag} : OpN K anyD (rAny K) := by
  intro cl H av μ S ds xs Q W g rd post
  unfold anyD at post
  split at post
  · obtain ⟨v, rfl, a, vs, rfl, t, r⟩ := RepsB.one rd
    split at post
    · rename_i ns h
      have e := bls_of r h
      subst e
      exact ⟨a, ns, rfl, t.sq, fin post g rfl⟩
    · exact (show False from post).elim
  · exact (show False from post).elim
def minD : FN := fun ds S => match ds with
  | [.int i, .int j] => .ok (.int (if j < i then j else i), S)
  | _ => .stuck
def maxD : FN := fun ds S => match ds with
  | [.int i, .int j] => .ok (.int (if j > i then j else i), S)
  | _ => .stuck
def rMin2 : List V → Hp → VK → Prop := fun xs H Q => ∃ i j, xs = [.int i, .int j] ∧ Q (.int (if j < i then j else i)) H
def rMax2' : List V → Hp → VK → Prop := fun xs H Q => ∃ i j, xs = [.int i, .int j] ∧ Q (.int (if j > i then j else i)) H
theorem minD_ok {K : PySem.W.Frag} : OpN K minD rMin2 := by
  intro cl H av μ S ds xs Q W g rd post
  unfold minD at post
  split at post
  · obtain ⟨v, w, rfl, r1, r2⟩ := RepsB.two rd
    cases (show v = _ from r1)
    cases (show w = _ from r2)
    exact ⟨_, _, rfl, fin post g rfl⟩
  · exact (show False from post).elim
theorem maxD_ok {K : PySem.W.Frag} : OpN K maxD rMax2' := by
  intro cl H av μ S ds xs Q W g rd post
  unfold maxD at post
  split at post
  · obtain ⟨v, w, rfl, r1, r2⟩ := RepsB.two rd
    cases (show v = _ from r1)
    cases (show w = _ from r2)
    exact ⟨_, _, rfl, fin post g rfl⟩
  · exact (show False from post).elim
def absD : FN := fun ds S => match ds with
  | [.int i] => .ok (.int (if i < 0 then -i else i), S)
  | _ => .stuck
theorem absD_ok {K : PySem.W.Frag} : OpN K absD (fun xs H Q => ∃ i, xs = [.int i] ∧ Q (.int (if i < 0 then -i else i)) H) := by
  intro cl H av μ S ds xs Q W g rd post
  unfold absD at post
  split at post
  · obtain ⟨v, rfl, r⟩ := RepsB.one rd
    cases (show v = _ from r)
    exact ⟨_, rfl, fin post g rfl⟩
  · exact (show False from post).elim
def intD : FN := fun ds S => match ds with
  | [.int i] => .ok (.int i, S)
  | [.bl k] => .ok (.int (if k then 1 else 0), S)
  | _ => .stuck
theorem intD_ok {K : PySem.W.Frag} : OpN K intD (fun xs H Q => (∃ i, xs = [.int i] ∧ Q (.int i) H) ∨ ∃ k, xs = [.bl k] ∧ Q (.int (if k then 1 else 0)) H) := by
  intro cl H av μ S ds xs Q W g rd post
  unfold intD at post
  split at post
  · obtain ⟨v, rfl, r⟩ := RepsB.one rd
    cases (show v = _ from r)
    exact .inl ⟨_, rfl, fin post g rfl⟩
  · obtain ⟨v, rfl, r⟩ := RepsB.one rd
    cases (show v = _ from r)
    exact .inr ⟨_, rfl, fin post g rfl⟩
  · exact (show False from post).elim
def strD : FN := fun ds S => match ds with
  | [.int i] => if i.natAbs.log2 < 1920 then .ok (.str (toString i), S) else .stuck
  | _ => .stuck
theorem strD_ok {K : PySem.W.Frag} : OpN K strD (fun xs H Q => ∃ i, xs = [.int i] ∧ i.natAbs.log2 < 1920 ∧ Q (.str (toString i)) H) := by
  intro cl H av μ S ds xs Q W g rd post
  unfold strD at post
  split at post
  · obtain ⟨v, rfl, r⟩ := RepsB.one rd
    cases (show v = _ from r)
    split at post
    · rename_i h
      exact ⟨_, rfl, h, fin post g rfl⟩
    · exact (show False from post).elim
  · exact (show False from post).elim
def gcdD : FN := fun ds S => match ds with
  | [.int i, .int j] => .ok (.int ((Nat.gcd i.natAbs j.natAbs : Nat) : Int), S)
  | _ => .stuck
theorem gcdD_ok {K : PySem.W.Frag} : OpN K gcdD rGcd := by
  intro cl H av μ S ds xs Q W g rd post
  unfold gcdD at post
  split at post
  · obtain ⟨v, w, rfl, r1, r2⟩ := RepsB.two rd
    cases (show v = _ from r1)
    cases (show w = _ from r2)
    exact ⟨_, _, rfl, fin post g rfl⟩
  · exact (show False from post).elim

/-! ### isinstance with a built-in type -/
inductive Ty where
  | int | str | bool | tuple | list | dict
def Ty.nm : Ty → String
  | .int => "int" | .str => "str" | .bool => "bool" | .tuple => "tuple" | .list => "list" | .dict => "dict"
def isi (T : Ty) (S : Store) : D → Option Bool
  | .non => some false
  | .bl _ => some (match T with | .bool => true | .int => true | _ => false)
  | .int _ => some (match T with | .int => true | _ => false)
  | .str _ => some (match T with | .str => true | _ => false)
  | .tup _ => some (match T with | .tuple => true | _ => false)
  | .lst _ => some (match T with | .list => true | _ => false)
  | .fls _ => some (match T with | .list => true | _ => false)
  | .ref n => match S[n]? with
    | some (.lst _) => some (match T with | .list => true | _ => false)
    | _ => none
def eIsi (T : Ty) (a : FE) : FE := fun ρ S => (a ρ S).bind fun (d, S1) => match isi T S1 d with
  | some b => .ok (.bl b, S1)
  | none => .stuck
theorem kit_none (T : Ty) : kitB "NoneType" T.nm = some false := by cases T <;> decide +kernel
theorem kit_bool (T : Ty) : kitB "bool" T.nm = some (match T with | .bool => true | .int => true | _ => false) := by cases T <;> decide +kernel
theorem kit_int (T : Ty) : kitB "int" T.nm = some (match T with | .int => true | _ => false) := by cases T <;> decide +kernel
theorem kit_str (T : Ty) : kitB "str" T.nm = some (match T with | .str => true | _ => false) := by cases T <;> decide +kernel
theorem kit_tuple (T : Ty) : kitB "tuple" T.nm = some (match T with | .tuple => true | _ => false) := by cases T <;> decide +kernel
theorem kit_list (T : Ty) : kitB "list" T.nm = some (match T with | .list => true | _ => false) := by cases T <;> decide +kernel
theorem isi_of {K : PySem.W.Frag} {H : Hp} {av : Addr → Prop} {μ : List Addr} {S : Store} {d : D} {v : V} {T : Ty} {b : Bool} (g : HG K H av μ S) (r : RepB K H av μ d v) (h : isi T S d = some b) : ∃ n, TyX K H v (.type n) ∧ kitB n T.nm = some b := by
  cases d with
  | non => cases (show v = _ from r); cases h; exact ⟨_, .base .non, kit_none T⟩
  | bl x => cases (show v = _ from r); cases h; exact ⟨_, .base (.bl x), kit_bool T⟩
  | int x => cases (show v = _ from r); cases h; exact ⟨_, .base (.int x), kit_int T⟩
  | str x => cases (show v = _ from r); cases h; exact ⟨_, .base (.str x), kit_str T⟩
  | tup xs =>
    cases h
    obtain ⟨a, vs, rfl, t, r⟩ := r
    rcases t with ⟨t | ⟨o, t⟩, _⟩ | ⟨o, its, n, h1, h2, _⟩
    · exact ⟨_, .base (.tup t), kit_tuple T⟩
    · exact ⟨_, .fTuple t, kit_tuple T⟩
    · exact ⟨_, .kTuple h1 h2, kit_tuple T⟩
  | lst xs =>
    cases h
    obtain ⟨a, vs, rfl, t, r⟩ := r
    exact ⟨_, .base (.lst t.1), kit_list T⟩
  | fls xs =>
    cases h
    obtain ⟨a, vs, rfl, t, r⟩ := r
    rcases t with ⟨t | ⟨o, t⟩, _⟩ | ⟨o, its, n, h1, h2, _⟩
    · exact ⟨_, .base (.lst t), kit_list T⟩
    · exact ⟨_, .base (.frz t), kit_list T⟩
    · exact ⟨_, .kList h1 h2, kit_list T⟩
  | ref n =>
    unfold isi at h
    dsimp only at h
    cases e : S[n]? with
    | none => rw [e] at h; cases h
    | some o =>
      cases o with
      | lst xs =>
        rw [e] at h
        cases h
        obtain ⟨a, vs, rfl, _, hH, rr⟩ := g.lst r e
        exact ⟨_, .base (.lst hH), kit_list T⟩
theorem okIsi {M : MX} {a e c : Expr} {fa : FE} (T : Ty) (p : ∀ ta, PA M.X [a, c] ta → PE M.X e (tCB (rIsi M.X.K) ta)) (ha : OkB M a fa) (hc : PE M.X c (tC (.ty T.nm)))
    (hs : starEach (a :: [c]) M.X.env = (false, eval a M.X.env) :: starEach [c] M.X.env := by rfl) (hs2 : starEach [c] M.X.env = [(false, eval c M.X.env)] := by rfl) : OkE M e (eIsi T fa) := by
  obtain ⟨ta, pa, qa⟩ := ha
  refine ⟨_, p _ (pa_cons pa (pa_cons hc pa_nil hs2) hs), fun ρ S σ H av μ Q g er post => ?_⟩
  refine qa ρ S σ H av μ _ g er (post.bind.mono fun d S1 H1 av1 μ1 t1 g1 k v rv => ?_)
  dsimp only at k
  cases h : isi T S1 d with
  | none => rw [h] at k; exact (show False from k).elim
  | some b =>
    rw [h] at k
    obtain ⟨n, h1, h2⟩ := isi_of g1 rv h
    exact ⟨v, _, _, _, b, rfl, .ty _, h1, kit_ty h2, fin k g1 rfl⟩
end MP
/-! MP: defs and their calls, lists that change, what is walked. -/
namespace MP
open PySem L2 PyProof.Rows

/-! ### defs -/
abbrev FD := List D → Store → R (D × Store)
def runF (N : Nat) (body : SS) : FD := fun ds S => match body (ds.map .val ++ List.replicate (N - ds.length) .no) S with
  | .ok (.nx _, S') => .ok (.non, S')
  | .ok (.rt d, S') => .ok (d, S')
  | .ok (.ex x _, S') => .exc x S'
  | _ => .stuck
def spF (K : PySem.W.Frag) (cl : Nat → Value) (n : Nat) (f : FD) : Sp := fun vs H Q E => ∃ (ds : List D) (S : Store) (av : Addr → Prop) (μ : List Addr), ds.length = n ∧ HG K H av μ S ∧ Reps K H av μ ds vs ∧
  Post K cl H av μ (f ds S) (fun d _ H' av' μ' => ∀ v, Rep K H' av' μ' d v → Q v H') E
theorem er_start {K : PySem.W.Frag} {H : Hp} {av : Addr → Prop} {μ : List Addr} {ds : List D} {vs : List V} {N : List Str} (r : Reps K H av μ ds vs) (hn : ds.length ≤ N.length) :
    ER K H av μ (ds.map Slot.val ++ List.replicate (N.length - ds.length) Slot.no) (L2.start N vs) where
  len := by
    unfold L2.start
    rw [List.length_append, List.length_append, List.length_map, List.length_map, List.length_replicate, List.length_replicate, r.len]
  at' := fun i s h => by
    by_cases hi : i < ds.length
    · rw [List.getElem?_append_left (by simpa using hi), List.getElem?_map, List.getElem?_eq_getElem hi] at h
      cases h
      obtain ⟨v, e, rv⟩ := r.get (List.getElem?_eq_getElem hi)
      refine ⟨v, ?_, rv⟩
      unfold L2.start
      rw [List.getElem?_append_left (by rw [List.length_map, r.len]; exact hi), List.getElem?_map, e]
      rfl
    · rw [List.getElem?_append_right (by simpa using hi), List.getElem?_replicate] at h
      split at h
      · cases h; trivial
      · cases h
  one := fun i j a ⟨xs, h, _⟩ _ => by
    by_cases hi : i < ds.length
    · rw [List.getElem?_append_left (by simpa using hi), List.getElem?_map, List.getElem?_eq_getElem hi] at h
      cases h
    · rw [List.getElem?_append_right (by simpa using hi), List.getElem?_replicate] at h
      split at h <;> cases h
theorem no_owns {ds : List D} {k : Nat} {σ : L2.St} {i : Nat} {a : Addr} : ¬ Owns (ds.map .val ++ List.replicate k .no) σ i a := fun ⟨xs, h, _⟩ => by
  by_cases hi : i < ds.length
  · rw [List.getElem?_append_left (by simpa using hi), List.getElem?_map, List.getElem?_eq_getElem hi] at h
    cases h
  · rw [List.getElem?_append_right (by simpa using hi), List.getElem?_replicate] at h
    split at h <;> cases h
abbrev mxOf (cl : Nat → Value) (P : Program) (w : World) (K : PySem.W.Frag) (mg : Str → Option Value) (base : Heap) (N : List Str) (qual : Str) (sc : Scope) (f : Addr) (cdv : Value) (A : Around) (outer : List PySem.Env) (s : Shared) (H : Hp) (E : XK) : MX :=
  ⟨cxOf (L2.CX P w) P w K mg base N qual sc f cdv A outer s H E, cl, fun c d _ H' => E c d H'⟩
section
variable {cl : Nat → Value} {P : Program} {w : World} {K : PySem.W.Frag} {mg : Str → Option Value} {base : Heap}
theorem fn_ok {x qual : Str} {st : Stmt} {f : Addr} {fd : FuncData} {N ps : List Str} {k : Nat} {body : SS} (F : Fun K x qual st f fd) (sc : FnScope N ps (defScope st))
    (hb : ∀ (cdv : Value) (A : Around) (outer : List PySem.Env) (s : Shared) (H : Hp) (E : XK), Room k (A.deeper (envOfC qual (defScope st) s.heap.objs.size f cdv)) → OkSs (mxOf cl P w K mg base N qual (defScope st) f cdv A outer s H E) (defBody st) body) :
    FnOk P w K mg base (L2.CX P w) (k + 1) f fd ps (spF K cl ps.length (runF N.length body)) := by
  have hpl : ps.length ≤ N.length := by have := congrArg List.length sc.pre; rw [List.length_take] at this; omega
  refine F.okX sc (fun vs H Q E h => ?_) (fun cdv A outer s H vs Q E hr h => ?_)
  · obtain ⟨ds, S, av, μ, hl, _, r, _⟩ := h
    rw [r.len, hl]
  · obtain ⟨ds, S, av, μ, hl, g, r, post⟩ := h
    obtain ⟨t, p, q⟩ := hb cdv A outer s H E hr
    have er : ER K H av μ (ds.map Slot.val ++ List.replicate (N.length - ds.length) Slot.no) (L2.start N vs) := er_start (N := N) r (by omega)
    have fr : FR K ⟨H, av, av, μ, (· ∈ μ)⟩ (ds.map Slot.val ++ List.replicate (N.length - ds.length) Slot.no) S (L2.start N vs) H av μ := ⟨⟨g, fun _ _ h _ => h, fun _ h => h, fun _ h => h, fun _ h => .inl h, ⟨[], by simp⟩, fun _ h => .inl h, fun _ h => h⟩, er, fun i a z => (no_owns z).elim⟩
    refine ⟨t, p, q ⟨H, av, av, μ, (· ∈ μ)⟩ (ds.map Slot.val ++ List.replicate (N.length - ds.length) Slot.no) S (L2.start N vs) H av μ _ fr ?_⟩
    have tr : ∀ {H' : Hp} {av' : Addr → Prop} {μ' : List Addr} {S' : Store}, FB K ⟨H, av, av, μ, (· ∈ μ)⟩ S' H' av' μ' → Tr H av μ H' av' μ' := fun f => ⟨f.base, f.dom, f.avm, f.avn, f.pre, f.new⟩
    unfold runF at post
    revert post
    cases body (ds.map Slot.val ++ List.replicate (N.length - ds.length) Slot.no) S with
    | stuck => exact fun h => h
    | exc x S' => exact fun h => h
    | ok y =>
      obtain ⟨o, S'⟩ := y
      cases o with
      | nx ρ' => exact fun h σ' H' av' μ' fr => h H' av' μ' (tr fr.toFB) fr.g _ rfl
      | rt d => exact fun h v H' av' μ' fb rv => h H' av' μ' (tr fb) fb.g v rv
      | bk ρ' => exact fun h => (show False from h).elim
      | ct ρ' => exact fun h => (show False from h).elim
      | ex x ρ' => exact fun h c dx σ' H' av' μ' fr xr => h c dx H' av' μ' (tr fr.toFB) fr.g xr
/-- a def of which nothing is asked -/
theorem fn_stuck {f : Addr} {fd : FuncData} {ps : List Str} {k : Nat} {g : FD} (hg : ∀ ds S, g ds S = .stuck) : FnOk P w K mg base (L2.CX P w) k f fd ps (spF K cl ps.length g) :=
  ⟨fun vs H Q E ⟨ds, S, av, μ, hl, _, r, _⟩ => by rw [r.len, hl], fun A outer s H args us vs Q E hr he hb hv ⟨ds, S, av, μ, hl, g', r, post⟩ => by
    rw [hg] at post
    exact (show False from post).elim⟩
end
section
variable {M : MX} {a b c e : Expr} {pos : Pos} {x : Str} {f : Addr} {fd : FuncData} {ps : List Str} {k : Nat} {g : FD} {es : List Expr} {p : Pos} {fs : FA}
theorem okCall (F : FnOk M.X.prog M.X.w M.X.K M.X.mg M.X.base (L2.CX M.X.prog M.X.w) k f fd ps (spF M.X.K M.cl ps.length g)) (hr : Room k M.X.A) (hg : Gl M.X x) (hm : M.X.mg x = some (.ref f)) (hk : PySem.W.keepIn M.X.K (.ref f) = true) (hb : Binds M.X.K fd ps [])
    (tk : Takes M.X M.W) (ha : OkA M (e :: es) fs) (hn : ∀ ρ S ds S', fs ρ S = .ok (ds, S') → ds.length = ps.length) (hdb : (x == ("__debug__" : Str)) = false := by decide) (he : starEach (e :: es) M.X.env = (false, eval e M.X.env) :: starEach es M.X.env := by rfl) (hpl : (backTo pos (starEach es M.X.env)).any (·.1) = false := by rfl) :
    OkE M (.Call (.Name x p) (e :: es) [] pos) (eN g fs) := by
  obtain ⟨t, pa, q⟩ := ha
  refine ⟨_, pe_callS F hr hg hm hk hb (passAt tk) pa hdb he hpl, fun ρ S σ H av μ Q g0 er post => ?_⟩
  have post := post.bind
  cases e1 : fs ρ S with
  | stuck => rw [e1] at post; exact (show False from post).elim
  | exc xx Sx => exact q ρ S σ H av μ _ g0 er (by rw [e1] at post ⊢; exact post)
  | ok y =>
    obtain ⟨ds, S1⟩ := y
    have hl := hn ρ S ds S1 e1
    refine q ρ S σ H av μ _ g0 er ?_
    rw [e1] at post ⊢
    intro H1 av1 μ1 t1 g1 vs rv
    exact ⟨ds, S1, av1, μ1, hl, g1, rv, post H1 av1 μ1 t1 g1⟩
theorem aNil_len : ∀ (ρ : Env) (S : Store) (ds : List D) (S' : Store), aNil ρ S = .ok (ds, S') → ds.length = 0 := fun ρ S ds S' h => by
  unfold aNil at h
  cases h
  rfl
theorem aCons_len {fa : FE} {fs : FA} {n : Nat} (h : ∀ (ρ : Env) (S : Store) (ds : List D) (S' : Store), fs ρ S = .ok (ds, S') → ds.length = n) : ∀ (ρ : Env) (S : Store) (ds : List D) (S' : Store), aCons fa fs ρ S = .ok (ds, S') → ds.length = n + 1 := fun ρ S ds S' e => by
  unfold aCons at e
  cases h1 : fa ρ S with
  | stuck => rw [h1] at e; cases e
  | exc x Sx => rw [h1] at e; cases e
  | ok y =>
    rw [h1] at e
    obtain ⟨d, S1⟩ := y
    dsimp only [R.bind] at e
    cases h2 : fs ρ S1 with
    | stuck => rw [h2] at e; cases e
    | exc x Sx => rw [h2] at e; cases e
    | ok z =>
      rw [h2] at e
      obtain ⟨es, S2⟩ := z
      cases e
      simp [h _ _ _ _ h2]
end

/-! ### the store -/
section
variable {K : PySem.W.Frag} {cl : Nat → Value} {H H1 H' : Hp} {av av' : Addr → Prop} {μ μ' : List Addr} {S S' : Store} {ρ : Env} {σ : L2.St}
theorem PyProof_nodup {l : List Addr} (hN : l.Nodup) {i j : Nat} {x : Addr} (a : l[i]? = some x) (b : l[j]? = some x) : i = j := by
  obtain ⟨h1, e1⟩ := List.getElem?_eq_some_iff.mp a
  obtain ⟨h2, e2⟩ := List.getElem?_eq_some_iff.mp b
  exact (List.getElem_inj hN).mp (e1.trans e2.symm)
theorem HG.put {n : Nat} {a : Addr} {xs ys : List D} {us : List V} (g : HG K H av μ S) (hm : μ[n]? = some a) (hS : S[n]? = some (.lst xs)) (hr : Reps K H av μ ys us) : HG K (L2.upd H a (.lst us)) av μ (S.set n (.lst ys)) where
  len := by rw [List.length_set]; exact g.len
  nd := g.nd
  sub := g.sub
  dom := fun b e => by
    by_cases q : b = a
    · rw [q, upd_same]; simp
    · rw [upd_ne q]; exact g.dom b e
  obj := fun i b o e1 e2 => by
    have ha : av a := g.sub a (List.mem_of_getElem? hm)
    by_cases q : i = n
    · subst q
      rw [e1] at hm
      cases hm
      rw [List.getElem?_set_self (List.getElem?_eq_some_iff.mp hS).1] at e2
      cases e2
      exact ⟨us, upd_same, Reps.goes (goes_upd ha) _ _ hr⟩
    · rw [List.getElem?_set_ne (Ne.symm q)] at e2
      have ne : b ≠ a := fun z => by
        subst z
        exact q (PyProof_nodup g.nd e1 hm)
      exact (g.obj i b o e1 e2).tr' (goes_upd ha) fun w z => by rw [upd_ne ne]; exact z
theorem Tr.put {a : Addr} {o : HO} (hm : a ∈ μ) : Tr H av μ (L2.upd H a o) av μ where
  keep := fun b u e n => by rw [upd_ne (show b ≠ a from fun z => n (z ▸ hm))]; exact e
  dom := fun b e => by
    by_cases q : b = a
    · rw [q, upd_same]; simp
    · rw [upd_ne q]; exact e
  avm := fun _ h => h
  avn := fun _ h => .inl h
  pre := ⟨[], by simp⟩
  new := fun _ h => .inl h
/-- a list that nobody has goes into the store -/
theorem HG.keep {a : Addr} {xs : List D} {vs : List V} (g : HG K H av μ S) (ha : av a) (hm : a ∉ μ) (hH : H a = some (.lst vs)) (hr : Reps K H av μ xs vs) : HG K H av (μ ++ [a]) (S ++ [.lst xs]) where
  len := by rw [List.length_append, List.length_append, g.len]; rfl
  nd := by
    rw [List.nodup_append]
    refine ⟨g.nd, by simp, fun b hb c hc z => ?_⟩
    rw [List.mem_singleton] at hc
    subst hc
    exact hm (z ▸ hb)
  sub := fun b hb => (List.mem_append.mp hb).elim (g.sub b) fun z => by rw [List.mem_singleton.mp z]; exact ha
  dom := g.dom
  obj := fun i b o e1 e2 => by
    have go : Goes K H av μ H av (μ ++ [a]) := ⟨fun b o e n => ⟨e, n⟩, ⟨[a], rfl⟩⟩
    by_cases q : i < μ.length
    · rw [List.getElem?_append_left q] at e1
      rw [List.getElem?_append_left (by rw [← g.len]; exact q)] at e2
      exact (g.obj i b o e1 e2).tr' go fun _ z => z
    · rw [List.getElem?_append_right (by omega)] at e1
      rw [List.getElem?_append_right (by rw [← g.len]; omega)] at e2
      have q0 : i - μ.length = 0 := by
        have := (List.getElem?_eq_some_iff.mp e1).1
        simp at this
        omega
      rw [q0] at e1
      rw [← g.len, q0] at e2
      cases e1
      cases e2
      exact ⟨vs, hH, Reps.goes go _ _ hr⟩
end
def eRef (f : FF) : FE := fun ρ S => (f ρ S).bind fun (xs, S1) => .ok (.ref S1.length, S1 ++ [.lst xs])
section
variable {M : MX} {a b c e o : Expr} {pos : Pos} {f : FF} {fe fo fi : FE} {es : List Expr} {fs : FA}
theorem RdF.toRef {t : TE} (h : RdF M t f) : RdE M t (eRef f) := by
  intro ρ S σ H av μ Q g er post
  refine h ρ S σ H av μ Q g er ?_
  unfold eRef at post
  revert post
  cases f ρ S with
  | stuck => exact fun h => h
  | exc x S' => exact fun h => h
  | ok p =>
    obtain ⟨xs, S1⟩ := p
    intro post H' av' μ' t g' a vs hn ha hm hh hr
    have t' : Tr H av μ H' av' (μ' ++ [a]) := ⟨t.keep, t.dom, t.avm, t.avn, let ⟨ν, z⟩ := t.pre; ⟨ν ++ [a], by rw [z, List.append_assoc]⟩, fun b hb => (List.mem_append.mp hb).elim (t.new b) fun z => by
      rw [List.mem_singleton.mp z]; exact .inr hn⟩
    refine post H' av' (μ' ++ [a]) t' (g'.keep ha hm hh hr) _ ⟨a, rfl, ?_⟩
    rw [List.getElem?_append_right (by rw [g'.len]; exact Nat.le_refl _), g'.len]
    simp
theorem okRef (h : OkF M e f) : OkE M e (eRef f) := let ⟨t, p, q⟩ := h; ⟨t, p, RdF.toRef q⟩
/-- o[i] = v, o a list of the store -/
def sPutIx (v o i : FE) : SS := fun ρ S => sBind (v ρ S) ρ fun (d, S1) => sBind (o ρ S1) ρ fun (x, S2) => sBind (i ρ S2) ρ fun (y, S3) => match x, y with
  | .ref n, .int k => match S3[n]? with
    | some (.lst xs) => match ixN xs.length k with
      | some j => .ok (.nx ρ, S3.set n (.lst (xs.set j d)))
      | none => .stuck
    | _ => .stuck
  | _, _ => .stuck
theorem okPutIx {st : Stmt} (p : ∀ tv to ti, PE M.X a tv → PE M.X o to → PE M.X b ti → PS M.X st (tAsg tv (gSub to ti rSetL))) (hv : OkE M a fe) (ho : OkE M o fo) (hi : OkE M b fi) : OkS M st (sPutIx fe fo fi) := by
  obtain ⟨tv, pv, qv⟩ := hv
  obtain ⟨to, po, qo⟩ := ho
  obtain ⟨ti, pi, qi⟩ := hi
  refine ⟨_, p tv to ti pv po pi, fun F ρ S σ H av μ D' fr post => ?_⟩
  refine qv ρ S σ H av μ _ fr.g fr.e ((PostS.bind post fr).mono fun d S1 H1 av1 μ1 t1 g1 k v rv => ?_)
  refine qo ρ S1 σ H1 av1 μ1 _ g1 k.1.e ((PostS.bind k.2 k.1).mono fun x S2 H2 av2 μ2 t2 g2 k2 ov rx => ?_)
  refine qi ρ S2 σ H2 av2 μ2 _ g2 k2.1.e ((PostS.bind k2.2 k2.1).mono fun y S3 H3 av3 μ3 t3 g3 k3 iv ry => ?_)
  obtain ⟨fr3, post3⟩ := k3
  dsimp only at post3
  split at post3
  · rename_i n kk
    split at post3
    · rename_i xs hS
      split at post3
      · rename_i j hj
        have rx3 : Rep M.X.K H3 av3 μ3 (.ref n) ov := Rep.tr (d := .ref n) rx t3 g2.sub
        obtain ⟨p, vs, rfl, hm, hH, hr⟩ := g3.lst rx3 hS
        have rv3 := (rv.tr t2 g1.sub).tr t3 g2.sub
        refine ⟨p, vs, kk, j, rfl, ry, hH, by rw [hr.len]; exact hj, ?_⟩
        have hpm : p ∈ μ3 := List.mem_of_getElem? hm
        exact post3 σ _ av3 μ3 (fr3.tr (Tr.put hpm) (g3.put hm hS (hr.set j rv3)))
      · exact (show False from post3).elim
    · exact (show False from post3).elim
  · exact (show False from post3).elim

/-! a method of a list -/
def isL (S : Store) : D → Bool
  | .lst _ => true
  | .fls _ => true
  | .ref n => match S[n]? with
    | some (.lst _) => true
    | _ => false
  | _ => false
abbrev FM := D → List D → Store → R (D × Store)
def eM (f : FM) (o : FE) (a : FA) : FE := fun ρ S => (o ρ S).bind fun (d, S1) => if isL S1 d = true then (a ρ S1).bind fun (ds, S2) => f d ds S2 else .stuck
def OpM (K : PySem.W.Frag) (f : FM) (r : V → List V → Hp → VK → Prop) : Prop := ∀ (cl : Nat → Value) (H : Hp) (av : Addr → Prop) (μ : List Addr) (S : Store) (d : D) (ds : List D) (x : V) (xs : List V) (Q : VK) (W : WK), HG K H av μ S → RepB K H av μ d x → Reps K H av μ ds xs →
  Post K cl H av μ (f d ds S) (fun d _ H' av' μ' => ∀ v, Rep K H' av' μ' d v → Q v H') W → r x xs H Q
theorem isL_ty {K : PySem.W.Frag} {H : Hp} {av : Addr → Prop} {μ : List Addr} {S : Store} {d : D} {v : V} (g : HG K H av μ S) (r : RepB K H av μ d v) (h : isL S d = true) : tyV K "list" v H := by
  cases d with
  | lst xs => obtain ⟨a, vs, rfl, t, _⟩ := r; exact .inl ⟨rfl, vs, t.sq⟩
  | fls xs => obtain ⟨a, vs, rfl, t, _⟩ := r; exact .inl ⟨rfl, vs, t.sq⟩
  | ref n =>
    unfold isL at h
    dsimp only at h
    split at h
    · rename_i xs hS
      obtain ⟨a, vs, rfl, _, hH, _⟩ := g.lst r hS
      exact .inl ⟨rfl, vs, .inl (.inl hH)⟩
    · cases h
  | _ => cases h
theorem okM {f : FM} {r : V → List V → Hp → VK → Prop} (op : OpM M.X.K f r) (p : ∀ to ta, PE M.X o to → PA M.X es ta → PE M.X e (tBM M.X.K "list" r to ta)) (ho : OkB M o fo) (ha : OkA M es fs) : OkE M e (eM f fo fs) := by
  obtain ⟨to, po, qo⟩ := ho
  obtain ⟨ta, pa, qa⟩ := ha
  refine ⟨_, p to ta po pa, fun ρ S σ H av μ Q g er post => ?_⟩
  refine qo ρ S σ H av μ _ g er (post.bind.mono fun d S1 H1 av1 μ1 t1 g1 k v rv => ?_)
  dsimp only at k
  by_cases h : isL S1 d = true
  · rw [if_pos h] at k
    refine ⟨isL_ty g1 rv h, ?_⟩
    refine qa ρ S1 σ H1 av1 μ1 _ g1 (er.tr t1 g.sub) (k.bind.mono fun ds S2 H2 av2 μ2 t2 g2 k2 vs rs => ?_)
    exact op M.cl H2 av2 μ2 S2 d ds v vs Q _ g2 (RepB.tr t2 g1.sub rv) rs k2
  · rw [if_neg h] at k
    exact (show False from k).elim
/-- xs.pop(i) of a list of the store -/
def popAtR : FM := fun d ds S => match d, ds with
  | .ref n, [.int i] => match S[n]? with
    | some (.lst xs) => if (decide (-(2 ^ 63) ≤ i) && decide (i < 2 ^ 63)) = true then match seqIndex? i xs.length with
      | some k => match xs[k]? with
        | some y => .ok (y, S.set n (.lst (xs.eraseIdx k)))
        | none => .stuck
      | none => .stuck else .stuck
    | _ => .stuck
  | _, _ => .stuck
theorem fin_put {K : PySem.W.Frag} {cl : Nat → Value} {H : Hp} {av : Addr → Prop} {μ : List Addr} {S : Store} {Q : VK} {W : WK} {n : Nat} {p : Addr} {xs ys : List D} {us : List V} {d : D} {v : V}
    (post : Post K cl H av μ (.ok (d, S.set n (.lst ys))) (fun d _ H' av' μ' => ∀ v, Rep K H' av' μ' d v → Q v H') W) (g : HG K H av μ S) (hm : μ[n]? = some p) (hS : S[n]? = some (.lst xs)) (hr : Reps K H av μ ys us) (rv : Rep K H av μ d v) : Q v (upd H p (.lst us)) := by
  have hpm : p ∈ μ := List.mem_of_getElem? hm
  exact post _ av μ (Tr.put hpm) (g.put hm hS hr) v (rv.tr (Tr.put hpm) g.sub)
theorem popAtR_ok {K : PySem.W.Frag} : OpM K popAtR rPopAt := by
  intro cl H av μ S d ds x xs Q W g rd rs post
  unfold popAtR at post
  split at post
  · rename_i n i
    split at post
    · rename_i ys hS
      split at post
      · rename_i hb
        simp only [Bool.and_eq_true, decide_eq_true_eq] at hb
        split at post
        · rename_i k hk
          split at post
          · rename_i y hy
            obtain ⟨p, vs, rfl, hm, hH, hr⟩ := g.lst rd hS
            obtain ⟨v, r, rfl, hv, hr'⟩ := rs
            cases (show v = .int i from hv)
            cases (show r = [] from hr')
            obtain ⟨w, hw, rw'⟩ := hr.get hy
            refine ⟨p, vs, i, k, w, rfl, rfl, hH, hb.1, hb.2, by rw [hr.len]; exact hk, hw, ?_⟩
            exact fin_put post g hm hS (hr.erase k) rw'
          · exact (show False from post).elim
        · exact (show False from post).elim
      · exact (show False from post).elim
    · exact (show False from post).elim
  · exact (show False from post).elim
/-- xs.append(y) of a list of the store -/
def appR : FM := fun d ds S => match d, ds with
  | .ref n, [y] => match S[n]? with
    | some (.lst xs) => if xs.length < sizeLine then .ok (.non, S.set n (.lst (xs ++ [y]))) else .stuck
    | _ => .stuck
  | _, _ => .stuck
theorem appR_ok {K : PySem.W.Frag} : OpM K appR rAppend := by
  intro cl H av μ S d ds x xs Q W g rd rs post
  unfold appR at post
  split at post
  · rename_i n y
    split at post
    · rename_i ys hS
      split at post
      · rename_i hb
        obtain ⟨p, vs, rfl, hm, hH, hr⟩ := g.lst rd hS
        obtain ⟨v, r, rfl, hv, hr'⟩ := rs
        cases (show r = [] from hr')
        exact ⟨p, vs, v, rfl, rfl, hH, by rw [hr.len]; exact hb, fin_put post g hm hS (hr.app (Reps.one hv)) rfl⟩
      · exact (show False from post).elim
    · exact (show False from post).elim
  · exact (show False from post).elim
end

/-! ### a frame's own list changes -/
def sOwn (i : Nat) (a : FA) (g : List D → List D → Option (List D)) : SS := fun ρ S => match ρ[i]? with
  | some (.own xs) => sBind (a ρ S) ρ fun (ds, S1) => match g xs ds with
    | some ys => .ok (.nx (ρ.set i (.own ys)), S1)
    | none => .stuck
  | _ => .stuck
def OwnM (K : PySem.W.Frag) (g : List D → List D → Option (List D)) (r : V → List V → Hp → VK → Prop) : Prop := ∀ (H : Hp) (av : Addr → Prop) (μ : List Addr) (l : Addr) (xs ds ys : List D) (vs us : List V) (Q : VK), H l = some (.lst vs) → Reps K H av μ xs vs → Reps K H av μ ds us → g xs ds = some ys →
  (∀ ws, Reps K H av μ ys ws → Q .non (upd H l (.lst ws))) → r (.ref l) us H Q
theorem FR.own_upd {K : PySem.W.Frag} {F : Fr} {H : Hp} {av : Addr → Prop} {μ : List Addr} {S : Store} {ρ : Env} {σ : L2.St} {i : Nat} {xs ys : List D} {p : Addr} {ws : List V} (f : FR K F ρ S σ H av μ) (h : ρ[i]? = some (.own xs)) (hσ : σ[i]? = some (some (.ref p))) (hr : Reps K H av μ ys ws) :
    FR K F (ρ.set i (.own ys)) S σ (upd H p (.lst ws)) av μ := by
  obtain ⟨a, vs, e1, ha, r, va, nm⟩ := f.e.at' i _ h
  rw [hσ] at e1
  injection e1 with e1
  injection e1 with e1
  injection e1 with e1
  subst e1
  have hO : Owns ρ σ i p := ⟨xs, h, hσ⟩
  have hil : i < ρ.length := (List.getElem?_eq_some_iff.mp h).1
  have own' : ∀ j b, Owns (ρ.set i (.own ys)) σ j b → Owns ρ σ j b := fun j b ⟨zs, z1, z2⟩ => by
    by_cases q : j = i
    · subst q
      exact ⟨xs, h, z2⟩
    · rw [List.getElem?_set_ne (Ne.symm q)] at z1
      exact ⟨zs, z1, z2⟩
  have go : Goes K H av μ (upd H p (.lst ws)) av μ := goes_upd va
  refine ⟨⟨f.g.upd va nm, fun a o e n => ?_, fun a e => ?_, f.avm, f.avn, f.pre, f.new, f.sub⟩, ⟨by rw [List.length_set]; exact f.e.len, fun j s z => ?_, fun j k b z1 z2 => f.e.one j k b (own' j b z1) (own' k b z2)⟩, fun j b z => f.own j b (own' j b z)⟩
  · have ne : a ≠ p := fun z => by
      rcases (f.own i p hO).1 with w | w
      · exact n (z ▸ w)
      · rw [z, w] at e; cases e
    rw [upd_ne ne]
    exact f.base a o e n
  · by_cases q : a = p
    · rw [q, upd_same]; simp
    · rw [upd_ne q]; exact f.dom a e
  · by_cases q : j = i
    · subst q
      rw [List.getElem?_set_self hil] at z
      cases z
      exact ⟨p, ws, hσ, upd_same, Reps.goes go _ _ hr, va, nm⟩
    · rw [List.getElem?_set_ne (Ne.symm q)] at z
      have w := f.e.at' j s z
      cases s with
      | no => trivial
      | val d =>
        obtain ⟨v, w1, w2⟩ := w
        exact ⟨v, w1, Rep.goes go _ _ w2⟩
      | own zs =>
        obtain ⟨b, us, w1, w2, w3, w4, w5⟩ := w
        have ne : b ≠ p := fun z' => q (f.e.one j i p (z' ▸ ⟨zs, z, w1⟩) hO)
        exact ⟨b, us, w1, by rw [upd_ne ne]; exact w2, Reps.goes go _ _ w3, w4, w5⟩
section
variable {M : MX} {a b c e o : Expr} {pos : Pos} {es : List Expr} {fs : FA}
theorem okOwn (i : Nat) {st : Stmt} {g : List D → List D → Option (List D)} {r : V → List V → Hp → VK → Prop} (op : OwnM M.X.K g r) (p : ∀ ta, PA M.X es ta → PS M.X st (tDrop (tBM M.X.K "list" r (tVar i) ta))) (ha : OkA M es fs) : OkS M st (sOwn i fs g) := by
  obtain ⟨ta, pa, qa⟩ := ha
  refine ⟨_, p ta pa, fun F ρ S σ H av μ D' fr post => ?_⟩
  unfold sOwn at post
  split at post
  · rename_i xs h
    obtain ⟨l, vs, e1, hl, r0, va, nm⟩ := fr.e.at' i _ h
    refine ⟨.ref l, e1, .inl ⟨rfl, vs, .inl (.inl hl)⟩, ?_⟩
    refine qa ρ S σ H av μ _ fr.g fr.e ((PostS.bind post fr).mono fun ds S1 H1 av1 μ1 t1 g1 k us rs => ?_)
    obtain ⟨fr1, post1⟩ := k
    dsimp only at post1
    have hl1 := t1.keep l _ hl nm
    split at post1
    · rename_i ys hy
      exact op H1 av1 μ1 l xs ds ys vs us _ hl1 (r0.tr t1 fr.g.sub) rs hy fun ws hw => post1 σ _ av1 μ1 (fr1.own_upd h e1 hw)
    · exact (show False from post1).elim
  · exact (show False from post).elim
def appO : List D → List D → Option (List D) := fun xs ds => match ds with
  | [d] => if xs.length < sizeLine then some (xs ++ [d]) else none
  | _ => none
theorem appO_ok {K : PySem.W.Frag} : OwnM K appO rAppend := by
  intro H av μ l xs ds ys vs us Q hl r rs e k
  unfold appO at e
  split at e
  · rename_i d
    split at e
    · rename_i hb
      cases e
      obtain ⟨v, w, rfl, hv, hr'⟩ := rs
      cases (show w = [] from hr')
      exact ⟨l, vs, v, rfl, rfl, hl, by rw [r.len]; exact hb, k _ (r.app (Reps.one hv))⟩
    · cases e
  · cases e
def extO : List D → List D → Option (List D) := fun xs ds => match ds with
  | [.lst ys] => if xs.length + ys.length ≤ sizeLine then some (xs ++ ys) else none
  | _ => none
theorem extO_ok {K : PySem.W.Frag} : OwnM K extO rExtend := by
  intro H av μ l xs ds ys vs us Q hl r rs e k
  unfold extO at e
  split at e
  · rename_i zs
    split at e
    · rename_i hb
      cases e
      obtain ⟨v, w, rfl, ⟨b, ws, rfl, t, hv⟩, hr'⟩ := rs
      cases (show w = [] from hr')
      exact ⟨l, b, vs, ws, rfl, rfl, hl, t.1, by rw [r.len, hv.len]; exact hb, k _ (r.app hv)⟩
    · cases e
  · cases e
/-- xs.pop() as a statement -/
def sOwn0 (i : Nat) (g : List D → Option (List D)) : SS := fun ρ S => match ρ[i]? with
  | some (.own xs) => match g xs with
    | some ys => .ok (.nx (ρ.set i (.own ys)), S)
    | none => .stuck
  | _ => .stuck
def popO : List D → Option (List D) := fun xs => if xs = [] then none else some xs.dropLast
theorem Reps.dropLast {K : PySem.W.Frag} {H : Hp} {av : Addr → Prop} {μ : List Addr} {ds : List D} {vs : List V} (r : Reps K H av μ ds vs) : Reps K H av μ ds.dropLast vs.dropLast := by
  rw [List.dropLast_eq_take, List.dropLast_eq_take, r.len]
  exact r.take _
end
end MP
/-! MP: what is walked; the end of a law. -/
namespace MP
open PySem L2 PyProof.Rows

section
variable {X : Cx} {tg l : Expr} {tl : TE}
/-- a list or a tuple is walked -/
theorem pi_seq (hl : PE X l tl) : PI X tg l (fun σ H R => tl σ H fun x H1 => ∃ a, x = .ref a ∧ ((∃ xs, SqL X.K H1 a xs) ∧ R (Itl X.K a) H1 ∨ (∃ xs, SqT X.K H1 a xs) ∧ R (Itt X.K a) H1)) := by
  constructor
  intro pins s σ H R J0 h
  apply thn (hl.run pins s σ H _ J0 h)
  rintro v s1 ⟨x, H1, J, rx, a, rfl, hq⟩
  cases rx
  have fr : ∀ b ∈ [s1.heap.objs.size], FpOk X pins H1 b := fun b hb => by
    cases List.mem_singleton.mp hb
    exact J.fpOk (Nat.le_refl _) (J.hok.fresh (Nat.le_refl _))
  rcases hq with ⟨⟨xs, hx⟩, q⟩ | ⟨⟨xs, hx⟩, q⟩
  · obtain ⟨its, _, pl, _⟩ := J.list hx
    apply wpAny_pyIter_list pl.isList
    exact ⟨_, _, _, _, H1, rfl, J.kept (t' := s1.toks) (fun b o w => Heap.get?_push_of_some _ w), turn_list a _, ⟨_, Heap.get?_push_size _ rfl, rfl, rfl⟩, fr, q⟩
  · obtain ⟨its, _, pl, _⟩ := J.tuple hx
    apply wpAny_pyIter_tuple (show s1.heap.IsTuple a its.toArray from pl)
    exact ⟨_, _, _, _, H1, rfl, J.kept (t' := s1.toks) (fun b o w => Heap.get?_push_of_some _ w), turn_tuple a _, ⟨_, Heap.get?_push_size _ rfl, rfl, rfl⟩, fr, q⟩
end
/-- what can be walked as it stands -/
def plainItems : D → Option (List D)
  | .tup xs => some xs
  | .lst xs => some xs
  | .fls xs => some xs
  | _ => none
def iSeq (a : FE) : FI := fun ρ S => (a ρ S).bind fun (d, S1) => match plainItems d with
  | some xs => .ok (xs, S1)
  | none => .stuck
section
variable {M : MX} {tg a b c : Expr} {fa fb : FE} {pos p : Pos}
theorem over_list {K : PySem.W.Frag} {H : Hp} {av : Addr → Prop} {μ : List Addr} {xs : List D} {vs : List V} {l : Addr} (h : ∀ H' av' μ', Goes K H av μ H' av' μ' → SqL K H' l vs) (r : Reps K H av μ xs vs) : Over K H av μ xs (Itl K l) := fun H' av' μ' go => by
  have s := h H' av' μ' go
  refine ⟨fun i hi => ⟨vs, vs[i]'(by rw [r.len]; exact hi), s, by simp [r.len, hi]⟩, ⟨vs, s, by rw [r.len]; exact Nat.le_refl _⟩, fun i x H'' hi y => ?_⟩
  obtain ⟨rfl, y⟩ := y
  refine ⟨.inl rfl, fun d S g e => ?_⟩
  obtain ⟨v, h1, h2⟩ := r.get e
  have e2 := (y vs s).symm.trans h1
  cases e2
  exact Rep.goes go _ _ h2
theorem over_tup {K : PySem.W.Frag} {H : Hp} {av : Addr → Prop} {μ : List Addr} {xs : List D} {vs : List V} {l : Addr} (h : ∀ H' av' μ', Goes K H av μ H' av' μ' → SqT K H' l vs) (r : Reps K H av μ xs vs) : Over K H av μ xs (Itt K l) := fun H' av' μ' go => by
  have s := h H' av' μ' go
  refine ⟨fun i hi => ⟨vs, vs[i]'(by rw [r.len]; exact hi), s, by simp [r.len, hi]⟩, ⟨vs, s, by rw [r.len]; exact Nat.le_refl _⟩, fun i x H'' hi y => ?_⟩
  obtain ⟨rfl, y⟩ := y
  refine ⟨.inl rfl, fun d S g e => ?_⟩
  obtain ⟨v, h1, h2⟩ := r.get e
  have e2 := (y vs s).symm.trans h1
  cases e2
  exact Rep.goes go _ _ h2
theorem okISeq (ha : OkE M a fa) : OkI M tg a (iSeq fa) := by
  obtain ⟨t, pa, q⟩ := ha
  refine ⟨_, pi_seq pa, fun ρ S σ H av μ R g er post => ?_⟩
  refine q ρ S σ H av μ _ g er (post.bind.mono fun d S1 H1 av1 μ1 t1 g1 k v rv => ?_)
  dsimp only at k
  cases d with
  | tup xs =>
    obtain ⟨l, vs, rfl, t, r⟩ := rv
    exact ⟨l, rfl, .inr ⟨⟨vs, t.sq⟩, k H1 av1 μ1 .refl g1 _ (over_tup (fun H' av' μ' go => (t.goes go.1).sq) r)⟩⟩
  | lst xs =>
    obtain ⟨l, vs, rfl, t, r⟩ := rv
    exact ⟨l, rfl, .inl ⟨⟨vs, t.sq⟩, k H1 av1 μ1 .refl g1 _ (over_list (fun H' av' μ' go => (t.goes go.1).sq) r)⟩⟩
  | fls xs =>
    obtain ⟨l, vs, rfl, t, r⟩ := rv
    exact ⟨l, rfl, .inl ⟨⟨vs, t.sq⟩, k H1 av1 μ1 .refl g1 _ (over_list (fun H' av' μ' go => (t.goes go.1).sq) r)⟩⟩
  | _ => exact (show False from k).elim

/-! ranges -/
def rngI (lo : Int) (c : Int) (n : Nat) : List D := (List.range n).map fun (i : Nat) => D.int (lo + (i : Int) * c)
def inB (i : Int) : Bool := decide (-(2 ^ 62) ≤ i) && decide (i < 2 ^ 62)
def rng1Of : List D → Store → R (List D × Store)
  | [.int j], S => if inB j = true then .ok (rngI 0 1 j.toNat, S) else .stuck
  | _, _ => .stuck
def rng2Of : List D → Store → R (List D × Store)
  | [.int i, .int j], S => if (inB i && inB j) = true then .ok (rngI i 1 (j - i).toNat, S) else .stuck
  | _, _ => .stuck
def rng3Of : List D → Store → R (List D × Store)
  | [.int i, .int j, .int c], S => if (decide (c ≠ 0) && decide (c.natAbs < 1073741824) && Builtin.Range.small i j c) = true then .ok (rngI i c (Builtin.Range.rangeSize i j c).toNat, S) else .stuck
  | _, _ => .stuck
def iRngN (f : List D → Store → R (List D × Store)) (a : FA) : FI := fun ρ S => (a ρ S).bind fun (ds, S1) => f ds S1
theorem over_rngC {K : PySem.W.Frag} {H : Hp} {av : Addr → Prop} {μ : List Addr} {lo c : Int} {n : Nat} : Over K H av μ (rngI lo c n) (Itc lo c n) := fun H' av' μ' go => by
  have hl : (rngI lo c n).length = n := by simp [rngI]
  refine ⟨fun i hi => by rw [hl] at hi; exact hi, by rw [hl]; exact Nat.le_refl _, fun i x H'' hi y => ?_⟩
  obtain ⟨rfl, rfl⟩ := y
  refine ⟨.inl rfl, fun d S g e => ?_⟩
  rw [hl] at hi
  rw [rngI, List.getElem?_map, List.getElem?_range hi] at e
  cases e
  rfl
theorem over_rng {K : PySem.W.Frag} {H : Hp} {av : Addr → Prop} {μ : List Addr} {lo : Int} {n : Nat} : Over K H av μ (rngI lo 1 n) (Itr lo n) := fun H' av' μ' go => by
  have hl : (rngI lo 1 n).length = n := by simp [rngI]
  refine ⟨fun i hi => by rw [hl] at hi; exact hi, by rw [hl]; exact Nat.le_refl _, fun i x H'' hi y => ?_⟩
  obtain ⟨rfl, rfl⟩ := y
  refine ⟨.inl rfl, fun d S g e => ?_⟩
  rw [hl] at hi
  rw [rngI, List.getElem?_map, List.getElem?_range hi] at e
  cases e
  show V.int _ = V.int _
  rw [Int.mul_one]
theorem inB_of {i : Int} (h : inB i = true) : -(2 ^ 62) ≤ i ∧ i < 2 ^ 62 := by
  unfold inB at h
  simpa only [Bool.and_eq_true, decide_eq_true_eq] using h
theorem okRng1 {fs : FA} (hg : Gl M.X "range") (hm : M.X.mg "range" = none) (ha : OkAB M [a] fs) (hs : starEach [a] M.X.env = [(false, eval a M.X.env)] := by rfl) : OkI M tg (.Call (.Name "range" p) [a] [] pos) (iRngN rng1Of fs) := by
  obtain ⟨t, pa, q⟩ := ha
  refine ⟨_, pi_range1 hg hm pa hs, fun ρ S σ H av μ R g er post => ?_⟩
  refine q ρ S σ H av μ _ g er (post.bind.mono fun ds S1 H1 av1 μ1 t1 g1 k vs rv => ?_)
  dsimp only at k
  unfold rng1Of at k
  split at k
  · rename_i j
    split at k
    · rename_i hb
      obtain ⟨v, rfl, r⟩ := RepsB.one rv
      cases (show v = .int j from r)
      exact ⟨j, rfl, (inB_of hb).1, (inB_of hb).2, k H1 av1 μ1 .refl g1 _ over_rng⟩
    · exact (show False from k).elim
  · exact (show False from k).elim
theorem okRng2 {fs : FA} (hg : Gl M.X "range") (hm : M.X.mg "range" = none) (ha : OkAB M [a, b] fs) (hs : starEach [a, b] M.X.env = [(false, eval a M.X.env), (false, eval b M.X.env)] := by rfl) (hs2 : starEach [b] M.X.env = [(false, eval b M.X.env)] := by rfl) : OkI M tg (.Call (.Name "range" p) [a, b] [] pos) (iRngN rng2Of fs) := by
  obtain ⟨t, pa, q⟩ := ha
  refine ⟨_, pi_range2 hg hm pa hs hs2, fun ρ S σ H av μ R g er post => ?_⟩
  refine q ρ S σ H av μ _ g er (post.bind.mono fun ds S1 H1 av1 μ1 t1 g1 k vs rv => ?_)
  dsimp only at k
  unfold rng2Of at k
  split at k
  · rename_i i j
    split at k
    · rename_i hb
      obtain ⟨h1, h2⟩ := Bool.and_eq_true_iff.mp hb
      obtain ⟨v, w, rfl, r, r'⟩ := RepsB.two rv
      cases (show v = .int i from r)
      cases (show w = .int j from r')
      exact ⟨i, j, rfl, ⟨(inB_of h1).1, (inB_of h1).2, (inB_of h2).1, (inB_of h2).2⟩, k H1 av1 μ1 .refl g1 _ over_rng⟩
    · exact (show False from k).elim
  · exact (show False from k).elim
theorem okRng3 {fs : FA} (hg : Gl M.X "range") (hm : M.X.mg "range" = none) (ha : OkAB M [a, b, c] fs) (hs : starEach [a, b, c] M.X.env = (false, eval a M.X.env) :: starEach [b, c] M.X.env := by rfl) (hpl : (backTo pos (starEach [b, c] M.X.env)).any (·.1) = false := by rfl) : OkI M tg (.Call (.Name "range" p) [a, b, c] [] pos) (iRngN rng3Of fs) := by
  obtain ⟨t, pa, q⟩ := ha
  refine ⟨_, pi_range3 hg hm pa hs hpl, fun ρ S σ H av μ R g er post => ?_⟩
  refine q ρ S σ H av μ _ g er (post.bind.mono fun ds S1 H1 av1 μ1 t1 g1 k vs rv => ?_)
  dsimp only at k
  unfold rng3Of at k
  split at k
  · rename_i i j c
    split at k
    · rename_i hb
      simp only [Bool.and_eq_true, decide_eq_true_eq] at hb
      obtain ⟨v, r, rfl, r1, r2⟩ := rv
      obtain ⟨w, u, rfl, r3, r4⟩ := RepsB.two r2
      cases (show v = .int i from r1)
      cases (show w = .int j from r3)
      cases (show u = .int c from r4)
      exact ⟨i, j, c, _, rfl, ⟨hb.1.1, hb.1.2, hb.2, PyProof.Rows.rangeSize_toNat i j c⟩, k H1 av1 μ1 .refl g1 _ over_rngC⟩
    · exact (show False from k).elim
  · exact (show False from k).elim
end

/-! ### the end of a law -/
theorem walkMP {l : PySem.W.OpenLaw} {k : Nat} {q : Program} {loose : List Str} {XP : (Str → Option Value) → Heap → Prop} {YP : World → Heap → Prop} {d : DefRec} {K : Params → PySem.W.Frag} {x : Str} (cl : World → Nat → Value) (f : FD)
    (hn : l.most = some 63) (hdf : d.params.defaults = []) (hr : Room k callerA)
    (hY : ∀ (w : World) (h : Heap), YP w h → (K w.params).In h)
    (F : ∀ (w : World) (mg : Str → Option Value) (fa : Addr) (h : Heap), (K w.params).In h → h.Ns mainGlobals mg → mg d.name = some (.ref fa) →
      ∃ fd : FuncData, (∀ (s : Shared) (u : Value), BindsTo s fd ⟨[u], []⟩ [(x, u)]) ∧
        ∀ base : Heap, (K w.params).In base → base.Ns mainGlobals mg → FnOk l.prog w (K w.params) mg base (L2.CX l.prog w) k fa fd [x] (spF (K w.params) (cl w) 1 f))
    (main : ∀ ns : List Int, ns.length ≤ 63 → (∀ z ∈ ns, Builtin.Int.intBits z ≤ 1048576) → ∃ S, f [.fls (ns.map D.int)] [] = .ok (.bl true, S)) :
    PySem.W.WalkO q loose XP YP l.row.toRowW d [] (fun f vs => PySem.call f vs) :=
  walk_ofB (n := 63) (k := k) (x := x) (CX := fun w => L2.CX l.prog w) (sp := fun w => spF (K w.params) (cl w) 1 f) hn (by decide) hdf hr hY F
    (fun w H a ns hl hb hO hS => by
      obtain ⟨S, e⟩ := main ns hl hb
      have g0 : HG (K w.params) H (fun _ => False) [] [] := { len := rfl, nd := List.nodup_nil, sub := fun a h => (nomatch h), dom := fun a h => False.elim h, obj := fun i a o h => (by simp at h) }
      refine ⟨[.fls (ns.map D.int)], [], fun _ => False, [], rfl, g0, ⟨.ref a, [], rfl, ⟨a, ns.map V.int, rfl, hS.imp (fun z => ⟨z, fun z => z⟩) id, ?_⟩, rfl⟩, ?_⟩
      · clear hl hb hS e main
        induction ns with
        | nil => rfl
        | cons n ns ih => exact ⟨.int n, _, rfl, rfl, ih⟩
      · rw [e]
        exact fun H' av' μ' t g v r => r)
    fun w H s e s' h => by
      obtain ⟨_, _, _, _, _, _, _, _, _, _, _, _, z⟩ := h
      exact z.elim
end MP
/-! MP: further rules. -/
namespace MP
open PySem L2 PyProof.Rows

/-! ### truth -/
def truD (S : Store) : D → Option Bool
  | .non => some false
  | .bl b => some b
  | .int i => some (i != 0)
  | .str x => if x.length ≤ sizeLine then some ((x.length : Int) != 0) else none
  | .tup xs => some (!xs.isEmpty)
  | .lst xs => some (!xs.isEmpty)
  | .fls xs => some (!xs.isEmpty)
  | .ref n => match S[n]? with
    | some (.lst xs) => some (!xs.isEmpty)
    | _ => none
def tTru (a : FE) : FT := fun ρ S => (a ρ S).bind fun (x, S1) => match truD S1 x with
  | some b => .ok (b, S1)
  | none => .stuck
theorem Reps.emp {K : PySem.W.Frag} {H : Hp} {av : Addr → Prop} {μ : List Addr} {ds : List D} {vs : List V} (r : Reps K H av μ ds vs) : (!ds.isEmpty) = !vs.isEmpty := by
  have := r.len
  cases ds <;> cases vs <;> simp_all
theorem truD_of {K : PySem.W.Frag} {H : Hp} {av : Addr → Prop} {μ : List Addr} {S : Store} {d : D} {v : V} {b : Bool} (g : HG K H av μ S) (r : RepB K H av μ d v) (h : truD S d = some b) : TruV K v H b := by
  cases d with
  | non => cases (show v = _ from r); cases h; rfl
  | bl x => cases (show v = _ from r); cases h; rfl
  | int x => cases (show v = _ from r); cases h; rfl
  | str x =>
    cases (show v = _ from r)
    unfold truD at h
    dsimp only at h
    split at h
    · rename_i hl
      cases h
      exact ⟨hl, rfl⟩
    · cases h
  | tup xs => cases h; obtain ⟨a, vs, rfl, t, r⟩ := r; exact .inr (.inl ⟨vs, t.sq, r.emp⟩)
  | lst xs => cases h; obtain ⟨a, vs, rfl, t, r⟩ := r; exact .inl ⟨vs, t.sq, r.emp⟩
  | fls xs => cases h; obtain ⟨a, vs, rfl, t, r⟩ := r; exact .inl ⟨vs, t.sq, r.emp⟩
  | ref n =>
    unfold truD at h
    dsimp only at h
    split at h
    · rename_i xs hS
      cases h
      obtain ⟨a, vs, rfl, _, hH, rr⟩ := g.lst r hS
      exact .inl ⟨vs, .inl (.inl hH), rr.emp⟩
    · cases h
section
variable {M : MX} {a b c e : Expr} {pos : Pos} {fa fb fc : FE}
theorem okTru (ha : OkB M a fa) (he : ∀ whole, isTrue a M.X.env whole = (do let v ← whole; standAt a.pos; holding [v] (truthy v)) := by intro _; rfl) : OkT M a (tTru fa) := by
  obtain ⟨ta, pa, qa⟩ := ha
  refine ⟨_, pt_truth pa he, fun ρ S σ H av μ Q g er post => ?_⟩
  refine qa ρ S σ H av μ _ g er (post.bind.mono fun d S1 H1 av1 μ1 t1 g1 k v rv => ?_)
  dsimp only at k
  split at k
  · rename_i x hx
    exact ⟨x, truD_of g1 rv hx, Post.ok (a := x) (S := S1) k g1⟩
  · exact (show False from k).elim

/-! ### a < b < c -/
def eChain (f f' : F2) (a b c : FE) : FE := fun ρ S => (a ρ S).bind fun (x, S1) => (b ρ S1).bind fun (y, S2) => (f x y S2).bind fun (z, S3) => match z with
  | .bl true => (c ρ S3).bind fun (w, S4) => f' y w S4
  | .bl false => .ok (.bl false, S3)
  | _ => .stuck
theorem okChain {op op' : CmpOp} {f f' : F2} {r r' : R2} (h : OpR M.X (compareOp op) r) (h' : OpR M.X (compareOp op') r') (o : Op2 M.X.K f r) (o' : Op2 M.X.K f' r') (ha : OkB M a fa) (hb : OkB M b fb) (hc : OkB M c fc)
    (hm : lastMarks [op, op'] [b, c] = false := by with_unfolding_all rfl) : OkE M (.Compare a [op, op'] [b, c] pos) (eChain f f' fa fb fc) := by
  obtain ⟨ta, pa, qa⟩ := ha
  obtain ⟨tb, pb, qb⟩ := hb
  obtain ⟨tc, pc, qc⟩ := hc
  refine ⟨_, pe_chain h h' pa pb pc hm, fun ρ S σ H av μ Q g er post => ?_⟩
  refine qa ρ S σ H av μ _ g er (post.bind.mono fun d S1 H1 av1 μ1 t1 g1 k v rv => ?_)
  refine qb ρ S1 σ H1 av1 μ1 _ g1 (er.tr t1 g.sub) (k.bind.mono fun d2 S2 H2 av2 μ2 t2 g2 k2 v2 rv2 => ?_)
  refine o M.cl H2 av2 μ2 S2 d d2 v v2 _ _ g2 (RepB.tr t2 g1.sub rv) rv2 (k2.bind.mono fun z S3 H3 av3 μ3 t3 g3 k3 v3 rv3 => ?_)
  cases z with
  | bl x =>
    refine ⟨x, rv3, ?_⟩
    cases x with
    | false => exact iteF (Post.ok (a := D.bl false) (S := S3) k3 g3 _ rfl)
    | true =>
      refine iteT ?_
      have er3 := ((er.tr t1 g.sub).tr t2 g1.sub).tr t3 g2.sub
      refine qc ρ S3 σ H3 av3 μ3 _ g3 er3 (Post.mono (Post.bind (show Post M.X.K M.cl H3 av3 μ3 ((fc ρ S3).bind fun (w, S4) => f' d2 w S4) _ _ from k3)) fun w S4 H4 av4 μ4 t4 g4 k4 v4 rv4 => ?_)
      exact o' M.cl H4 av4 μ4 S4 d2 w v2 v4 Q _ g4 (RepB.tr t4 g3.sub (RepB.tr t3 g2.sub rv2)) rv4 k4
  | _ => exact (show False from k3).elim
end

/-! ### in -/
def flatD : D → Bool
  | .non => true
  | .bl _ => true
  | .int _ => true
  | .str _ => true
  | _ => false
def eqFl : D → D → Bool
  | .non, .non => true
  | .bl a, .bl b => a == b
  | .bl a, .int b => (if a then 1 else 0) == b
  | .int a, .bl b => a == (if b then 1 else 0)
  | .int a, .int b => a == b
  | .str a, .str b => a == b
  | _, _ => false
def inItems (S : Store) (x y : D) : R Bool := match itemsD S y with
  | some items => if (flatD x && items.all flatD) = true then .ok (items.any fun z => eqFl z x) else match toP x, toP y with
    | some p, some (.list qs) => if (SeqAt.shaped p && SeqAt.shaped (.list qs)) = true then .ok (qs.any fun z => PyData.eqv z p) else .stuck
    | _, _ => .stuck
  | none => .stuck
def inD : F2 := fun x y S => (inItems S x y).bind fun b => .ok (.bl b, S)
def notInD : F2 := fun x y S => (inItems S x y).bind fun b => .ok (.bl (!b), S)
theorem flat_of {K : PySem.W.Frag} {H : Hp} {av : Addr → Prop} {μ : List Addr} {d : D} {v : V} (r : Rep K H av μ d v) (h : flatD d = true) : flatV v = true := by
  cases d <;> (try cases h) <;> (cases (show v = _ from r); rfl)
theorem flat_ofB {K : PySem.W.Frag} {H : Hp} {av : Addr → Prop} {μ : List Addr} {d : D} {v : V} (r : RepB K H av μ d v) (h : flatD d = true) : flatV v = true := by
  cases d <;> (try cases h) <;> (cases (show v = _ from r); rfl)
theorem eqFl_of {K : PySem.W.Frag} {H : Hp} {av : Addr → Prop} {μ : List Addr} {d e : D} {v w : V} (r : Rep K H av μ d v) (r' : RepB K H av μ e w) (h : flatD d = true) (h' : flatD e = true) : eqV v w = eqFl d e := by
  cases d <;> (try cases h) <;> cases e <;> (try cases h') <;> (cases (show v = _ from r); cases (show w = _ from r'); rfl)
theorem flats_of {K : PySem.W.Frag} {H : Hp} {av : Addr → Prop} {μ : List Addr} {x : D} {w : V} (rx : RepB K H av μ x w) (hx : flatD x = true) : ∀ {ds : List D} {vs : List V}, Reps K H av μ ds vs → ds.all flatD = true → vs.all flatV = true ∧ inV w vs = ds.any fun z => eqFl z x
  | [], vs, r, _ => by cases (show vs = [] from r); exact ⟨rfl, rfl⟩
  | d :: ds, vs, r, h => by
    obtain ⟨v, us, rfl, r1, r2⟩ := r
    rw [List.all_cons, Bool.and_eq_true] at h
    obtain ⟨h1, h2⟩ := flats_of rx hx r2 h.2
    refine ⟨by rw [List.all_cons, flat_of r1 h.1, h1]; rfl, ?_⟩
    show (eqV v w || inV w us) = _
    rw [eqFl_of r1 rx h.1 hx, h2]
    rfl
def rInA (K : PySem.W.Frag) : R2 := fun x y H Q => rIn K false x y H Q ∨ rInD K x y H Q
def rNotInA (K : PySem.W.Frag) : R2 := fun x y H Q => rIn K true x y H Q ∨ rNotInD K x y H Q
theorem op_inA {X : Cx} (hu : X.A.units + 65 < cLine) : OpR X (compareOp .In) (rInA X.K) := OpR.or op_in_seq (op_inD hu)
theorem op_notInA {X : Cx} (hu : X.A.units + 65 < cLine) : OpR X (compareOp .NotIn) (rNotInA X.K) := OpR.or op_notIn_seq (op_notInD hu)
theorem inItems_read {K : PySem.W.Frag} {H : Hp} {av : Addr → Prop} {μ : List Addr} {S : Store} {d e : D} {x y : V} (g : HG K H av μ S) (rd : RepB K H av μ d x) (re : RepB K H av μ e y) : inItems S d e = .stuck ∨
    (∃ p xs, y = .ref p ∧ (SqL K H p xs ∨ SqT K H p xs) ∧ flatV x = true ∧ xs.all flatV = true ∧ inItems S d e = .ok (inV x xs)) ∨
    ∃ p ps, Dp K H x p ∧ Dp K H y (.list ps) ∧ SeqAt.shaped p = true ∧ SeqAt.shaped (.list ps) = true ∧ inItems S d e = .ok (ps.any fun z => PyData.eqv z p) := by
  unfold inItems
  cases hi : itemsD S e with
  | none => exact .inl rfl
  | some items =>
    obtain ⟨p, vs, rfl, t, r⟩ := itemsD_of g re hi
    by_cases hf : (flatD d && items.all flatD) = true
    · have hf' := hf
      rw [Bool.and_eq_true] at hf'
      obtain ⟨h1, h2⟩ := flats_of rd hf'.1 r hf'.2
      refine .inr (.inl ⟨p, vs, rfl, t, flat_ofB rd hf'.1, h1, ?_⟩)
      dsimp only
      rw [if_pos hf, h2]
    · dsimp only
      rw [if_neg hf]
      cases e1 : toP d with
      | none => exact .inl rfl
      | some q =>
        cases e2 : toP e with
        | none => exact .inl rfl
        | some qs =>
          cases qs with
          | list qs =>
            dsimp only
            by_cases h : (SeqAt.shaped q && SeqAt.shaped (.list qs)) = true
            · have h' := h
              rw [Bool.and_eq_true] at h'
              exact .inr (.inr ⟨q, qs, dp_ofB rd e1, dp_ofB re e2, h'.1, h'.2, by rw [if_pos h]⟩)
            · exact .inl (if_neg h)
          | _ => exact .inl rfl
theorem inD_ok {K : PySem.W.Frag} : Op2 K inD (rInA K) := by
  intro cl H av μ S d e x y Q W g rd re post
  unfold inD at post
  rcases inItems_read g rd re with h | ⟨p, xs, rfl, t, h1, h2, h⟩ | ⟨p, q, h1, h2, h3, h4, h⟩
  · rw [h] at post; exact (show False from post).elim
  · rw [h] at post; exact .inl ⟨p, xs, rfl, t, h1, h2, fin post g rfl⟩
  · rw [h] at post; exact .inr ⟨p, q, h1, h2, h3, h4, fin post g rfl⟩
theorem notInD_ok {K : PySem.W.Frag} : Op2 K notInD (rNotInA K) := by
  intro cl H av μ S d e x y Q W g rd re post
  unfold notInD at post
  rcases inItems_read g rd re with h | ⟨p, xs, rfl, t, h1, h2, h⟩ | ⟨p, q, h1, h2, h3, h4, h⟩
  · rw [h] at post; exact (show False from post).elim
  · rw [h] at post; exact .inl ⟨p, xs, rfl, t, h1, h2, fin post g rfl⟩
  · rw [h] at post; exact .inr ⟨p, q, h1, h2, h3, h4, fin post g rfl⟩

/-! ### slices -/
abbrev FO := Env → Store → R (Option Int × Store)
def OkO (M : MX) (e : Option Expr) (f : FO) : Prop := ∃ t, PO M.X e t ∧ ∀ (ρ : Env) (S : Store) (σ : L2.St) (H : Hp) (av : Addr → Prop) (μ : List Addr) (Q : Option Int → Hp → Prop), HG M.X.K H av μ S → ER M.X.K H av μ ρ σ →
  Post M.X.K M.cl H av μ (f ρ S) (fun o _ H' _ _ => Q o H') (M.W · · σ) → t σ H Q
def oNone : FO := fun _ S => .ok (none, S)
def oSome (a : FE) : FO := fun ρ S => (a ρ S).bind fun (x, S1) => match x with
  | .int i => .ok (some i, S1)
  | _ => .stuck
def cutL {α : Type} (xs : List α) (lo hi : Option Int) : List α := (xs.drop (HT.sIx xs.length 0 lo)).take (HT.sIx xs.length xs.length hi - HT.sIx xs.length 0 lo)
def slD (S : Store) (d : D) (lo hi : Option Int) : R (D × Store) := match d with
  | .tup xs => .ok (.tup (cutL xs lo hi), S)
  | .lst xs => .ok (.lst (cutL xs lo hi), S)
  | .fls xs => .ok (.lst (cutL xs lo hi), S)
  | .str z => if z.length ≤ sizeLine then .ok (.str (cutS z lo hi), S) else .stuck
  | .ref n => match S[n]? with
    | some (.lst xs) => .ok (.lst (cutL xs lo hi), S)
    | _ => .stuck
  | _ => .stuck
def eSl (a : FE) (lo hi : FO) : FE := fun ρ S => (a ρ S).bind fun (d, S1) => (lo ρ S1).bind fun (l, S2) => (hi ρ S2).bind fun (h, S3) => slD S3 d l h
def rSlD (K : PySem.W.Frag) : V → Option Int → Option Int → Hp → VK → Prop := fun x lo hi H Q => rSlL K x lo hi H Q ∨ (rSlA K x lo hi H Q ∨ rSlS x lo hi H Q)
theorem sl_all {X : Cx} : SlR X (rSlD X.K) := SlR.or sl_list (SlR.or sl_tupA sl_str)
theorem Reps.cut {K : PySem.W.Frag} {H : Hp} {av : Addr → Prop} {μ : List Addr} {ds : List D} {vs : List V} (r : Reps K H av μ ds vs) (lo hi : Option Int) : Reps K H av μ (cutL ds lo hi) (cutV vs lo hi) := by
  unfold cutL cutV
  rw [r.len]
  exact (r.drop _).take _
section
variable {M : MX} {a b c e : Expr} {pos p2 : Pos} {fa fb fc : FE}
theorem okONone : OkO M none oNone := ⟨_, po_none, fun ρ S σ H av μ Q g er post => post.ok g⟩
theorem okOSome (ha : OkE M a fa) : OkO M (some a) (oSome fa) := by
  obtain ⟨t, p, q⟩ := ha
  refine ⟨_, po_some p, fun ρ S σ H av μ Q g er post => ?_⟩
  refine q ρ S σ H av μ _ g er (post.bind.mono fun d S1 H1 av1 μ1 t1 g1 k v rv => ?_)
  cases d with
  | int i => exact ⟨i, rv, Post.ok (a := some i) (S := S1) k g1⟩
  | _ => exact (show False from k).elim
theorem okSl {lo hi : Option Expr} {fl fh : FO} (ha : OkB M a fa) (hl : OkO M lo fl) (hh : OkO M hi fh) : OkE M (.Subscript a (.Slice lo hi none p2) pos) (eSl fa fl fh) := by
  obtain ⟨ta, pa, qa⟩ := ha
  obtain ⟨tl, pl, ql⟩ := hl
  obtain ⟨th, ph, qh⟩ := hh
  refine ⟨_, pe_slice sl_all pa pl ph, fun ρ S σ H av μ Q g er post => ?_⟩
  refine qa ρ S σ H av μ _ g er (post.bind.mono fun d S1 H1 av1 μ1 t1 g1 k v rv => ?_)
  refine ql ρ S1 σ H1 av1 μ1 _ g1 (er.tr t1 g.sub) (k.bind.mono fun l S2 H2 av2 μ2 t2 g2 k2 => ?_)
  refine qh ρ S2 σ H2 av2 μ2 _ g2 ((er.tr t1 g.sub).tr t2 g1.sub) (k2.bind.mono fun h S3 H3 av3 μ3 t3 g3 k3 => ?_)
  have rv3 := RepB.tr t3 g2.sub (RepB.tr t2 g1.sub rv)
  dsimp only at k3
  unfold slD at k3
  cases d with
  | tup xs =>
    obtain ⟨q, vs, rfl, t, r⟩ := rv3
    refine .inr (.inl ⟨q, vs, rfl, t.sq, fun w => ?_, fun _ => fin_tup k3 g3 (r.cut l h)⟩)
    have ec : cutL xs l h = xs := by
      unfold cutL
      rw [r.len] at w
      rw [w.1, w.2]
      simp
    dsimp only at k3
    rw [ec] at k3
    exact fin k3 g3 ⟨q, vs, rfl, t, r⟩
  | lst xs =>
    obtain ⟨q, vs, rfl, t, r⟩ := rv3
    exact .inl ⟨q, vs, rfl, t.sq, fin_lst k3 g3 (r.cut l h)⟩
  | fls xs =>
    obtain ⟨q, vs, rfl, t, r⟩ := rv3
    exact .inl ⟨q, vs, rfl, t.sq, fin_lst k3 g3 (r.cut l h)⟩
  | str z =>
    cases (show v = _ from rv3)
    dsimp only at k3
    split at k3
    · rename_i hz
      exact .inr (.inr ⟨z, rfl, hz, fin k3 g3 rfl⟩)
    · exact (show False from k3).elim
  | ref n =>
    dsimp only at k3
    split at k3
    · rename_i xs hS
      obtain ⟨q, vs, rfl, _, hH, r⟩ := g3.lst rv3 hS
      exact .inl ⟨q, vs, rfl, .inl (.inl hH), fin_lst k3 g3 (r.cut l h)⟩
    · exact (show False from k3).elim
  | _ => exact (show False from k3).elim

/-! ### further assignments -/
def sAsgG (tg : TGT) (e : FE) : SS := fun ρ S => sBind (e ρ S) ρ fun (d, S1) => match tg d ρ with
  | some ρ1 => .ok (.nx ρ1, S1)
  | none => .stuck
theorem okAsgG {tg : Expr} {vs : List Nat} {t : TGT} {st : Stmt} (p : ∀ te g, PE M.X a te → PG M.X tg g → PS M.X st (tAsg te g)) (ha : OkE M a fa) (hg : OkG M tg vs t) : OkS M st (sAsgG t fa) := by
  obtain ⟨te, pe, qe⟩ := ha
  obtain ⟨g, pg, qg⟩ := hg
  refine ⟨_, p te g pe pg, fun F ρ S σ H av μ D' fr post => ?_⟩
  refine qe ρ S σ H av μ _ fr.g fr.e ((PostS.bind post fr).mono fun d S1 H1 av1 μ1 t1 g1 k v rv => ?_)
  obtain ⟨fr1, post1⟩ := k
  dsimp only at post1
  split at post1
  · rename_i ρ1 h1
    exact qg ρ ρ1 σ H1 av1 μ1 d v _ fr1.e rv h1 fun σ1 er1 ow1 _ => post1 σ1 H1 av1 μ1 { fr1.toFB with e := er1, own := fun j a z => fr1.own j a (ow1 j a z) }
  · exact (show False from post1).elim
/-- x, y = a, b -/
def sPar (i j : Nat) (a : FA) : SS := fun ρ S => sBind (a ρ S) ρ fun (ds, S1) => match ds with
  | [d, e] => .ok (.nx ((ρ.set i (.val d)).set j (.val e)), S1)
  | _ => .stuck
theorem okPar {st : Stmt} {es : List Expr} {fs : FA} (i j : Nat) (p : ∀ ta, PA M.X es ta → PS M.X st (tPar i j ta)) (ha : OkA M es fs) : OkS M st (sPar i j fs) := by
  obtain ⟨ta, pa, qa⟩ := ha
  refine ⟨_, p ta pa, fun F ρ S σ H av μ D' fr post => ?_⟩
  refine qa ρ S σ H av μ _ fr.g fr.e ((PostS.bind post fr).mono fun ds S1 H1 av1 μ1 t1 g1 k vs rv => ?_)
  obtain ⟨fr1, post1⟩ := k
  dsimp only at post1
  split at post1
  · obtain ⟨v, r, rfl, r1, w, r', rfl, r2, r3⟩ := rv
    cases (show r' = [] from r3)
    exact ⟨v, w, rfl, post1 _ H1 av1 μ1 ((fr1.set r1).set r2)⟩
  · exact (show False from post1).elim
/-- x op= e -/
def sAug (i : Nat) (e : FE) (f : F2) : SS := fun ρ S => match ρ[i]? with
  | some (.val d) => sBind (e ρ S) ρ fun (x, S1) => sBind (f d x S1) ρ fun (y, S2) => .ok (.nx (ρ.set i (.val y)), S2)
  | _ => .stuck
theorem okAugB {st : Stmt} {op : Operator} {f : F2} {r : R2} (i : Nat) (h : OpR M.X (inplaceOp op) r) (o : Op2 M.X.K f r) (p : ∀ te, PE M.X a te → PIp M.X op r → PS M.X st (tAug i te r)) (ha : OkB M a fa) : OkS M st (sAug i fa f) := by
  obtain ⟨te, pe, qe⟩ := ha
  refine ⟨_, p te pe h, fun F ρ S σ H av μ D' fr post => ?_⟩
  unfold sAug at post
  split at post
  · rename_i d hd
    obtain ⟨v, e1, rv⟩ := fr.e.at' i _ hd
    refine ⟨v, e1, ?_⟩
    refine qe ρ S σ H av μ _ fr.g fr.e ((PostS.bind post fr).mono fun x S1 H1 av1 μ1 t1 g1 k w rw' => ?_)
    refine o M.cl H1 av1 μ1 S1 d x v w _ _ g1 (g1.rb (rv.tr t1 fr.g.sub)) rw' ((PostS.bind k.2 k.1).mono fun y S2 H2 av2 μ2 t2 g2 k2 u ru => ?_)
    exact k2.2 _ H2 av2 μ2 (k2.1.set ru)
  · exact (show False from post).elim
theorem iop_addA {X : Cx} : OpR X (inplaceOp .Add) (fun x y H Q => rI0 (fun i j => .int (i + j)) x y H Q ∨ rAddS' x y H Q) := OpR.or iop_add iop_add_str
def addI : F2 := fun d e S => match d, e with
  | .int i, .int j => .ok (.int (i + j), S)
  | .str x, .str y => if x.length + y.length ≤ sizeLine then .ok (.str (x ++ y), S) else .stuck
  | _, _ => .stuck
theorem addI_ok {K : PySem.W.Frag} : Op2 K addI (fun x y H Q => rI0 (fun i j => .int (i + j)) x y H Q ∨ rAddS' x y H Q) := by
  intro cl H av μ S d e x y Q W g rd re post
  cases d <;> cases e <;> try exact (show False from post).elim
  · rename_i i j
    exact .inl ⟨i, j, rd, re, fin post g rfl⟩
  · rename_i i j
    simp only [addI] at post
    by_cases h : i.length + j.length ≤ sizeLine
    · rw [if_pos h] at post
      exact .inr ⟨i, j, rd, re, h, fin post g rfl⟩
    · rw [if_neg h] at post
      exact (show False from post).elim
/-! own lists -/
theorem okOwn0 (i : Nat) {st : Stmt} {g : List D → Option (List D)} {r : V → List V → Hp → VK → Prop}
    (op : ∀ (H : Hp) (av : Addr → Prop) (μ : List Addr) (l : Addr) (xs ys : List D) (vs : List V) (Q : VK), H l = some (.lst vs) → Reps M.X.K H av μ xs vs → g xs = some ys → (∀ v ws, Reps M.X.K H av μ ys ws → Q v (upd H l (.lst ws))) → r (.ref l) [] H Q)
    (p : PS M.X st (tDrop (tBM0 M.X.K "list" r (tVar i)))) : OkS M st (sOwn0 i g) := by
  refine ⟨_, p, fun F ρ S σ H av μ D' fr post => ?_⟩
  unfold sOwn0 at post
  split at post
  · rename_i xs h
    obtain ⟨l, vs, e1, hl, r0, va, nm⟩ := fr.e.at' i _ h
    split at post
    · rename_i ys hy
      exact ⟨.ref l, e1, .inl ⟨rfl, vs, .inl (.inl hl)⟩, op H av μ l xs ys vs _ hl r0 hy fun v ws hw => post σ _ av μ (fr.own_upd h e1 hw)⟩
    · exact (show False from post).elim
  · exact (show False from post).elim
theorem popO_ok {K : PySem.W.Frag} (H : Hp) (av : Addr → Prop) (μ : List Addr) (l : Addr) (xs ys : List D) (vs : List V) (Q : VK) (hl : H l = some (.lst vs)) (r : Reps K H av μ xs vs) (h : popO xs = some ys) (k : ∀ v ws, Reps K H av μ ys ws → Q v (upd H l (.lst ws))) : rPop (.ref l) [] H Q := by
  unfold popO at h
  split at h
  · cases h
  · rename_i hne
    cases h
    have hlen : 0 < xs.length := by
      cases xs with
      | nil => exact absurd rfl hne
      | cons _ _ => simp
    obtain ⟨v, hv, _⟩ := r.get (i := xs.length - 1) (List.getElem?_eq_getElem (by omega))
    exact ⟨l, vs, v, rfl, rfl, hl, by rw [r.len]; exact hv, k v _ r.dropLast⟩
/-- y = xs.pop(i), xs a frame's own -/
def sPopTo (j i : Nat) (a : FA) : SS := fun ρ S => match ρ[i]? with
  | some (.own xs) => sBind (a ρ S) ρ fun (ds, S1) => match ds with
    | [.int z] => if (decide (-(2 ^ 63) ≤ z) && decide (z < 2 ^ 63)) = true then match seqIndex? z xs.length with
      | some k => match xs[k]? with
        | some y => .ok (.nx ((ρ.set i (.own (xs.eraseIdx k))).set j (.val y)), S1)
        | none => .stuck
      | none => .stuck else .stuck
    | _ => .stuck
  | _ => .stuck
theorem okPopTo (j i : Nat) {st : Stmt} {es : List Expr} {fs : FA} (p : ∀ ta, PA M.X es ta → PS M.X st (tAsg (tBM M.X.K "list" rPopAt (tVar i) ta) (gName j))) (ha : OkA M es fs) : OkS M st (sPopTo j i fs) := by
  obtain ⟨ta, pa, qa⟩ := ha
  refine ⟨_, p ta pa, fun F ρ S σ H av μ D' fr post => ?_⟩
  unfold sPopTo at post
  split at post
  · rename_i xs h
    obtain ⟨l, vs, e1, hl, r0, va, nm⟩ := fr.e.at' i _ h
    refine ⟨.ref l, e1, .inl ⟨rfl, vs, .inl (.inl hl)⟩, ?_⟩
    refine qa ρ S σ H av μ _ fr.g fr.e ((PostS.bind post fr).mono fun ds S1 H1 av1 μ1 t1 g1 k us rs => ?_)
    obtain ⟨fr1, post1⟩ := k
    dsimp only at post1
    have hl1 := t1.keep l _ hl nm
    have r1 := r0.tr t1 fr.g.sub
    split at post1
    · rename_i z
      obtain ⟨w, us', rfl, hw, hu⟩ := rs
      cases (show w = .int z from hw)
      cases (show us' = [] from hu)
      split at post1
      · rename_i hb
        simp only [Bool.and_eq_true, decide_eq_true_eq] at hb
        split at post1
        · rename_i k hk
          split at post1
          · rename_i y hy
            obtain ⟨v, hv, rv⟩ := r1.get hy
            refine ⟨l, vs, z, k, v, rfl, rfl, hl1, hb.1, hb.2, by rw [r1.len]; exact hk, hv, ?_⟩
            have hav : av1 l := t1.avm l va
            exact post1 _ _ av1 μ1 ((fr1.own_upd h e1 (r1.erase k)).set (Rep.goes (goes_upd hav) _ _ rv))
          · exact (show False from post1).elim
        · exact (show False from post1).elim
      · exact (show False from post1).elim
    · exact (show False from post1).elim
  · exact (show False from post).elim
end
/-! is True -/
def isBlD : F2 := fun d e S => match d, e with
  | .bl a, .bl b => .ok (.bl (decide (a = b)), S)
  | _, _ => .stuck
def notBlD : F2 := fun d e S => match d, e with
  | .bl a, .bl b => .ok (.bl (!decide (a = b)), S)
  | _, _ => .stuck
theorem isBlD_ok {K : PySem.W.Frag} : Op2 K isBlD rIsB := by
  intro cl H av μ S d e x y Q W g rd re post
  cases d <;> cases e <;> try exact (show False from post).elim
  exact ⟨_, _, rd, re, fin post g rfl⟩
theorem notBlD_ok {K : PySem.W.Frag} : Op2 K notBlD rNotB := by
  intro cl H av μ S d e x y Q W g rd re post
  cases d <;> cases e <;> try exact (show False from post).elim
  exact ⟨_, _, rd, re, fin post g rfl⟩
/-! list + list, nobody else's -/
def fCat (a b : FE) : FF := fun ρ S => (a ρ S).bind fun (x, S1) => (b ρ S1).bind fun (y, S2) => match x, y with
  | .lst xs, .lst ys => if xs.length + ys.length ≤ sizeLine then .ok (xs ++ ys, S2) else .stuck
  | _, _ => .stuck
theorem okFCat {M : MX} {a b : Expr} {fa fb : FE} {pos : Pos} (ha : OkB M a fa) (hb : OkB M b fb) : OkF M (.BinOp a .Add b pos) (fCat fa fb) := by
  obtain ⟨ta, pa, qa⟩ := ha
  obtain ⟨tb, pb, qb⟩ := hb
  refine ⟨_, pe_op op_cat pa pb, fun ρ S σ H av μ Q g er post => ?_⟩
  refine qa ρ S σ H av μ _ g er (post.bind.mono fun d S1 H1 av1 μ1 t1 g1 k v rv => ?_)
  refine qb ρ S1 σ H1 av1 μ1 _ g1 (er.tr t1 g.sub) (k.bind.mono fun d2 S2 H2 av2 μ2 t2 g2 k2 v2 rv2 => ?_)
  have rv' := RepB.tr t2 g1.sub rv
  dsimp only at k2
  split at k2
  · rename_i xs ys
    split at k2
    · rename_i hl
      obtain ⟨p, vs, rfl, t, r⟩ := rv'
      obtain ⟨q, us, rfl, t', r'⟩ := rv2
      refine ⟨p, q, vs, us, rfl, rfl, t.1, t'.1, by rw [r.len, r'.len]; exact hl, fun l hl => ?_⟩
      exact k2 _ _ μ2 (Tr.hide hl) (g2.hide hl) l _ (none_of t1.dom (none_of t2.dom hl)) (.inr rfl) (fun z => g2.nav hl (g2.sub l z)) upd_same ((r.app r').tr (Tr.hide hl) g2.sub)
    · exact (show False from k2).elim
  · exact (show False from k2).elim
theorem u65 {k : Nat} {A : Around} (r : Room k A) : A.units + 65 < cLine := by have := r.un; omega
/-! names of built-ins -/
theorem bt_len : bootBuiltins "len" = some (.builtin "len") := by decide +kernel
theorem bt_sum : bootBuiltins "sum" = some (.builtin "sum") := by decide +kernel
theorem bt_all : bootBuiltins "all" = some (.builtin "all") := by decide +kernel
theorem bt_any : bootBuiltins "any" = some (.builtin "any") := by decide +kernel
theorem bt_min : bootBuiltins "min" = some (.builtin "min") := by decide +kernel
theorem bt_max : bootBuiltins "max" = some (.builtin "max") := by decide +kernel
theorem bt_abs : bootBuiltins "abs" = some (.builtin "abs") := by decide +kernel
theorem bt_isi : bootBuiltins "isinstance" = some (.builtin "isinstance") := by decide +kernel
theorem bt_tuple : bootBuiltins "tuple" = some (.type "tuple") := by decide +kernel
theorem bt_list : bootBuiltins "list" = some (.type "list") := by decide +kernel
theorem bt_dict : bootBuiltins "dict" = some (.type "dict") := by decide +kernel
theorem bt_int : bootBuiltins "int" = some (.type "int") := by decide +kernel
theorem bt_str : bootBuiltins "str" = some (.type "str") := by decide +kernel
theorem bt_bool : bootBuiltins "bool" = some (.type "bool") := by decide +kernel
end MP
/-! MP: what the combinators reckon, for simp; the law's draws. -/
namespace MP
open PySem L2
section
variable {α β : Type} {ρ : Env} {S : Store} {a b c : FE} {t u : FT} {as : FA} {i j : Nat}
@[simp] theorem rbind_ok (x : α) (k : α → R β) : (R.ok x).bind k = k x := rfl
@[simp] theorem rnox_ok (x : α) : (R.ok x).nox = R.ok x := rfl
@[simp] theorem sbind_ok (p : α × Store) (k : α × Store → R (Out × Store)) : sBind (R.ok p) ρ k = k p := rfl
@[simp] theorem thn_nx (ρ' : Env) (k : Env → Store → R (Out × Store)) : (R.ok (Out.nx ρ', S)).thn k = k ρ' S := rfl
@[simp] theorem thn_rt (d : D) (k : Env → Store → R (Out × Store)) : (R.ok (Out.rt d, S)).thn k = .ok (.rt d, S) := rfl
@[simp] theorem thn_bk (ρ' : Env) (k : Env → Store → R (Out × Store)) : (R.ok (Out.bk ρ', S)).thn k = .ok (.bk ρ', S) := rfl
@[simp] theorem thn_ct (ρ' : Env) (k : Env → Store → R (Out × Store)) : (R.ok (Out.ct ρ', S)).thn k = .ok (.ct ρ', S) := rfl
@[simp] theorem loop_nx (ρ' : Env) (k : Env → Store → R (Out × Store)) : (R.ok (Out.nx ρ', S)).loop k = k ρ' S := rfl
@[simp] theorem loop_ct (ρ' : Env) (k : Env → Store → R (Out × Store)) : (R.ok (Out.ct ρ', S)).loop k = k ρ' S := rfl
@[simp] theorem loop_bk (ρ' : Env) (k : Env → Store → R (Out × Store)) : (R.ok (Out.bk ρ', S)).loop k = .ok (.nx ρ', S) := rfl
@[simp] theorem loop_rt (d : D) (k : Env → Store → R (Out × Store)) : (R.ok (Out.rt d, S)).loop k = .ok (.rt d, S) := rfl
@[simp] theorem eC_ap (d : D) : eC d ρ S = .ok (d, S) := rfl
@[simp] theorem eV_ap : eV i ρ S = match ρ[i]? with | some (.val d) => .ok (d, S) | _ => .stuck := rfl
@[simp] theorem eVB_ap : eVB i ρ S = match ρ[i]? with | some (.val d) => .ok (d, S) | some (.own xs) => .ok (.lst xs, S) | _ => .stuck := rfl
@[simp] theorem e1_ap (f : F1) : MP.e1 f a ρ S = (a ρ S).bind fun p => f p.1 p.2 := rfl
@[simp] theorem e2_ap (f : F2) : MP.e2 f a b ρ S = (a ρ S).bind fun p => (b ρ p.2).bind fun q => f p.1 q.1 q.2 := rfl
@[simp] theorem eN_ap (f : FN) : eN f as ρ S = (as ρ S).bind fun p => f p.1 p.2 := rfl
@[simp] theorem aNil_ap : aNil ρ S = .ok ([], S) := rfl
@[simp] theorem aCons_ap : aCons a as ρ S = (a ρ S).bind fun p => (as ρ p.2).bind fun q => .ok (p.1 :: q.1, q.2) := rfl
@[simp] theorem eTup_ap : eTup as ρ S = (as ρ S).bind fun p => if p.1.length ≤ sizeLine then .ok (.tup p.1, p.2) else .stuck := rfl
@[simp] theorem eLst_ap : eLst as ρ S = (as ρ S).bind fun p => if p.1.length ≤ sizeLine then .ok (.lst p.1, p.2) else .stuck := rfl
@[simp] theorem fLst_ap : fLst as ρ S = (as ρ S).bind fun p => if p.1.length ≤ sizeLine then .ok (p.1, p.2) else .stuck := rfl
@[simp] theorem tE_ap : tE a ρ S = (a ρ S).bind fun p => match p.1 with | .bl b => .ok (b, p.2) | _ => .stuck := rfl
@[simp] theorem tTru_ap : tTru a ρ S = (a ρ S).bind fun p => match truD p.2 p.1 with | some b => .ok (b, p.2) | none => .stuck := rfl
@[simp] theorem tAnd_ap : tAndF t u ρ S = (t ρ S).bind fun p => if p.1 = true then u ρ p.2 else .ok (false, p.2) := rfl
@[simp] theorem tOr_ap : tOrF t u ρ S = (t ρ S).bind fun p => if p.1 = true then .ok (true, p.2) else u ρ p.2 := rfl
@[simp] theorem tNot_ap : tNotF t ρ S = (t ρ S).bind fun p => .ok (!p.1, p.2) := rfl
@[simp] theorem tYes_ap : tYesF ρ S = .ok (true, S) := rfl
@[simp] theorem eIf_ap : eIf t a b ρ S = (t ρ S).bind fun p => if p.1 = true then a ρ p.2 else b ρ p.2 := rfl
@[simp] theorem eAnd_ap : eAnd a b ρ S = (a ρ S).bind fun p => match p.1 with | .bl true => b ρ p.2 | .bl false => .ok (.bl false, p.2) | _ => .stuck := rfl
@[simp] theorem eOr_ap : eOr a b ρ S = (a ρ S).bind fun p => match p.1 with | .bl true => .ok (.bl true, p.2) | .bl false => b ρ p.2 | _ => .stuck := rfl
@[simp] theorem eNot_ap : eNot a ρ S = (a ρ S).bind fun p => match p.1 with | .bl b => .ok (.bl (!b), p.2) | _ => .stuck := rfl
@[simp] theorem eIsi_ap (T : Ty) : eIsi T a ρ S = (a ρ S).bind fun p => match isi T p.2 p.1 with | some b => .ok (.bl b, p.2) | none => .stuck := rfl
@[simp] theorem eF_ap (f : FF) : eF f ρ S = (f ρ S).bind fun p => .ok (.lst p.1, p.2) := rfl
@[simp] theorem eRef_ap (f : FF) : eRef f ρ S = (f ρ S).bind fun p => .ok (.ref p.2.length, p.2 ++ [.lst p.1]) := rfl
@[simp] theorem fN_ap (f : G1) : fN f as ρ S = (as ρ S).bind fun p => f p.1 p.2 := rfl
@[simp] theorem eM_ap (f : FM) : eM f a as ρ S = (a ρ S).bind fun p => if isL p.2 p.1 = true then (as ρ p.2).bind fun q => f p.1 q.1 q.2 else .stuck := rfl
@[simp] theorem eChain_ap (f g : F2) : eChain f g a b c ρ S = (a ρ S).bind fun p => (b ρ p.2).bind fun q => (f p.1 q.1 q.2).bind fun r => match r.1 with
  | .bl true => (c ρ r.2).bind fun s => g q.1 s.1 s.2
  | .bl false => .ok (.bl false, r.2)
  | _ => .stuck := rfl
@[simp] theorem eSl_ap (l h : FO) : eSl a l h ρ S = (a ρ S).bind fun p => (l ρ p.2).bind fun q => (h ρ q.2).bind fun r => slD r.2 p.1 q.1 r.1 := rfl
@[simp] theorem oNone_ap : oNone ρ S = .ok (none, S) := rfl
@[simp] theorem oSome_ap : oSome a ρ S = (a ρ S).bind fun p => match p.1 with | .int i => .ok (some i, p.2) | _ => .stuck := rfl
@[simp] theorem fCat_ap : fCat a b ρ S = (a ρ S).bind fun p => (b ρ p.2).bind fun q => match p.1, q.1 with | .lst xs, .lst ys => if xs.length + ys.length ≤ sizeLine then .ok (xs ++ ys, q.2) else .stuck | _, _ => .stuck := rfl
@[simp] theorem iSeq_ap : iSeq a ρ S = (a ρ S).bind fun p => match plainItems p.1 with | some xs => .ok (xs, p.2) | none => .stuck := rfl
@[simp] theorem iRngN_ap (f : List D → Store → R (List D × Store)) : iRngN f as ρ S = (as ρ S).bind fun p => f p.1 p.2 := rfl
@[simp] theorem fLc_ap (it : FI) (tg : TGT) (vs : List Nat) : fLc it tg t a vs ρ S = (it ρ S).bind fun p => lcF tg t a (wipeE ρ vs) p.1 p.2 [] := rfl
@[simp] theorem fLc2_ap (it it1 : FI) (tg tg1 : TGT) (vs vs1 : List Nat) : fLc2 it tg t it1 tg1 u a vs vs1 ρ S = (it ρ S).bind fun p => lc2F tg t it1 tg1 u a vs1 (wipeE ρ vs) p.1 p.2 [] := rfl
variable {f g : SS}
@[simp] theorem sNil_ap : sNil ρ S = .ok (.nx ρ, S) := rfl
@[simp] theorem sSeq_ap : sSeq f g ρ S = (f ρ S).thn g := rfl
@[simp] theorem sRet_ap : sRet a ρ S = sBind (a ρ S) ρ fun p => .ok (.rt p.1, p.2) := rfl
@[simp] theorem sRetN_ap : sRetN ρ S = .ok (.rt .non, S) := rfl
@[simp] theorem sDrop_ap : sDrop a ρ S = sBind (a ρ S) ρ fun p => .ok (.nx ρ, p.2) := rfl
@[simp] theorem sSet_ap : sSet i a ρ S = sBind (a ρ S) ρ fun p => .ok (.nx (ρ.set i (.val p.1)), p.2) := rfl
@[simp] theorem sSetO_ap (f : FF) : sSetO i f ρ S = sBind (f ρ S) ρ fun p => .ok (.nx (ρ.set i (.own p.1)), p.2) := rfl
@[simp] theorem sIf_ap : sIf t f g ρ S = sBind (t ρ S) ρ fun p => if p.1 = true then f ρ p.2 else g ρ p.2 := rfl
@[simp] theorem sBrk_ap : sBrk ρ S = .ok (.bk ρ, S) := rfl
@[simp] theorem sCnt_ap : sCnt ρ S = .ok (.ct ρ, S) := rfl
@[simp] theorem sFrz_ap : sFrz i f ρ S = f (frz i ρ) S := rfl
@[simp] theorem frz_ap : frz i ρ = match ρ[i]? with | some (.own xs) => ρ.set i (.val (.lst xs)) | _ => ρ := rfl
@[simp] theorem sFor_ap (it : FI) (tg : TGT) : sFor it tg f ρ S = sBind (it ρ S) ρ fun p => forF tg f p.1 ρ p.2 := rfl
@[simp] theorem sOwn_ap (g : List D → List D → Option (List D)) : sOwn i as g ρ S = match ρ[i]? with
  | some (.own xs) => sBind (as ρ S) ρ fun p => match g xs p.1 with | some ys => .ok (.nx (ρ.set i (.own ys)), p.2) | none => .stuck
  | _ => .stuck := rfl
@[simp] theorem sOwn0_ap (g : List D → Option (List D)) : sOwn0 i g ρ S = match ρ[i]? with
  | some (.own xs) => match g xs with | some ys => .ok (.nx (ρ.set i (.own ys)), S) | none => .stuck
  | _ => .stuck := rfl
@[simp] theorem sAsgG_ap (tg : TGT) : sAsgG tg a ρ S = sBind (a ρ S) ρ fun p => match tg p.1 ρ with | some ρ1 => .ok (.nx ρ1, p.2) | none => .stuck := rfl
@[simp] theorem sPar_ap : sPar i j as ρ S = sBind (as ρ S) ρ fun p => match p.1 with | [d, e] => .ok (.nx ((ρ.set i (.val d)).set j (.val e)), p.2) | _ => .stuck := rfl
@[simp] theorem sAug_ap (h : F2) : sAug i a h ρ S = match ρ[i]? with
  | some (.val d) => sBind (a ρ S) ρ fun p => sBind (h d p.1 p.2) ρ fun q => .ok (.nx (ρ.set i (.val q.1)), q.2)
  | _ => .stuck := rfl
@[simp] theorem sPutIx_ap : sPutIx a b c ρ S = sBind (a ρ S) ρ fun p => sBind (b ρ p.2) ρ fun q => sBind (c ρ q.2) ρ fun r => match q.1, r.1 with
  | .ref n, .int k => match r.2[n]? with
    | some (.lst xs) => match ixN xs.length k with
      | some j => .ok (.nx ρ, r.2.set n (.lst (xs.set j p.1)))
      | none => .stuck
    | _ => .stuck
  | _, _ => .stuck := rfl
@[simp] theorem sPopTo_ap : sPopTo j i as ρ S = match ρ[i]? with
  | some (.own xs) => sBind (as ρ S) ρ fun p => match p.1 with
    | [.int z] => if (decide (-(2 ^ 63) ≤ z) && decide (z < 2 ^ 63)) = true then match seqIndex? z xs.length with
      | some k => match xs[k]? with
        | some y => .ok (.nx ((ρ.set i (.own (xs.eraseIdx k))).set j (.val y)), p.2)
        | none => .stuck
      | none => .stuck else .stuck
    | _ => .stuck
  | _ => .stuck := rfl
@[simp] theorem tgName_ap (d : D) : tgName i d ρ = some (ρ.set i (.val d)) := rfl
@[simp] theorem tgTup_ap (ts : List TGT) (ds : List D) : tgTup ts (.tup ds) ρ = tgAll ts ds ρ := rfl
@[simp] theorem tgAll_nil : tgAll [] [] ρ = some ρ := rfl
@[simp] theorem tgAll_cons (t : TGT) (ts : List TGT) (d : D) (ds : List D) : tgAll (t :: ts) (d :: ds) ρ = (t d ρ).bind fun ρ1 => tgAll ts ds ρ1 := rfl
@[simp] theorem wipeE_nil : wipeE ρ [] = ρ := rfl
@[simp] theorem wipeE_cons (v : Nat) (vs : List Nat) : wipeE ρ (v :: vs) = (wipeE ρ vs).set v .no := rfl
/-! operations -/
@[simp] theorem add_int (x y : Int) : addD (.int x) (.int y) S = .ok (.int (x + y), S) := rfl
@[simp] theorem addI_int (x y : Int) : addI (.int x) (.int y) S = .ok (.int (x + y), S) := rfl
@[simp] theorem sub_int (x y : Int) : subD (.int x) (.int y) S = .ok (.int (x - y), S) := rfl
@[simp] theorem neg_int (x : Int) : negD (.int x) S = .ok (.int (-x), S) := rfl
@[simp] theorem lt_int (x y : Int) : ltD (.int x) (.int y) S = .ok (.bl (decide (x < y)), S) := rfl
@[simp] theorem le_int (x y : Int) : leD (.int x) (.int y) S = .ok (.bl (decide (x ≤ y)), S) := rfl
@[simp] theorem gt_int (x y : Int) : gtD (.int x) (.int y) S = .ok (.bl (decide (y < x)), S) := rfl
@[simp] theorem ge_int (x y : Int) : geD (.int x) (.int y) S = .ok (.bl (decide (y ≤ x)), S) := rfl
@[simp] theorem eq_int (x y : Int) : eqD (.int x) (.int y) S = .ok (.bl (decide (x = y)), S) := rfl
@[simp] theorem ne_int (x y : Int) : neD (.int x) (.int y) S = .ok (.bl (!decide (x = y)), S) := rfl
@[simp] theorem eq_str (x y : Str) : eqD (.str x) (.str y) S = .ok (.bl (decide (x = y)), S) := rfl
@[simp] theorem ne_str (x y : Str) : neD (.str x) (.str y) S = .ok (.bl (!decide (x = y)), S) := rfl
@[simp] theorem eq_bl (x y : Bool) : eqD (.bl x) (.bl y) S = .ok (.bl (decide (x = y)), S) := rfl
@[simp] theorem isNon_ap (d : D) : isNonD d .non S = .ok (.bl (isNon d), S) := rfl
@[simp] theorem notNon_ap (d : D) : notNonD d .non S = .ok (.bl (!isNon d), S) := rfl
@[simp] theorem isNon_non : isNon .non = true := rfl
@[simp] theorem isNon_int (x : Int) : isNon (.int x) = false := rfl
@[simp] theorem isNon_tup (x : List D) : isNon (.tup x) = false := rfl
@[simp] theorem isNon_str (x : Str) : isNon (.str x) = false := rfl
@[simp] theorem isNon_bl (x : Bool) : isNon (.bl x) = false := rfl
@[simp] theorem isNon_lst (x : List D) : isNon (.lst x) = false := rfl
@[simp] theorem isBl_ap (x y : Bool) : isBlD (.bl x) (.bl y) S = .ok (.bl (decide (x = y)), S) := rfl
@[simp] theorem notBl_ap (x y : Bool) : notBlD (.bl x) (.bl y) S = .ok (.bl (!decide (x = y)), S) := rfl
@[simp] theorem len_tup (xs : List D) : lenD [.tup xs] S = .ok (.int xs.length, S) := rfl
@[simp] theorem len_lst (xs : List D) : lenD [.lst xs] S = .ok (.int xs.length, S) := rfl
@[simp] theorem len_fls (xs : List D) : lenD [.fls xs] S = .ok (.int xs.length, S) := rfl
@[simp] theorem tup_tup (xs : List D) : tupD [.tup xs] S = .ok (.tup xs, S) := rfl
@[simp] theorem tup_lst (xs : List D) : tupD [.lst xs] S = .ok (.tup xs, S) := rfl
@[simp] theorem lst_tup (xs : List D) : lstG [.tup xs] S = .ok (xs, S) := rfl
@[simp] theorem lst_lst (xs : List D) : lstG [.lst xs] S = .ok (xs, S) := rfl
@[simp] theorem lst_fls (xs : List D) : lstG [.fls xs] S = .ok (xs, S) := rfl
@[simp] theorem int_int (x : Int) : intD [.int x] S = .ok (.int x, S) := rfl
@[simp] theorem int_bl (x : Bool) : intD [.bl x] S = .ok (.int (if x then 1 else 0), S) := rfl
@[simp] theorem min_int (x y : Int) : minD [.int x, .int y] S = .ok (.int (if y < x then y else x), S) := rfl
@[simp] theorem max_int (x y : Int) : maxD [.int x, .int y] S = .ok (.int (if y > x then y else x), S) := rfl
@[simp] theorem abs_int (x : Int) : absD [.int x] S = .ok (.int (if x < 0 then -x else x), S) := rfl
@[simp] theorem plain_tup (xs : List D) : plainItems (.tup xs) = some xs := rfl
@[simp] theorem plain_lst (xs : List D) : plainItems (.lst xs) = some xs := rfl
@[simp] theorem plain_fls (xs : List D) : plainItems (.fls xs) = some xs := rfl
@[simp] theorem tru_bl (x : Bool) : truD S (.bl x) = some x := rfl
@[simp] theorem tru_lst (x : List D) : truD S (.lst x) = some (!x.isEmpty) := rfl
@[simp] theorem tru_tup (x : List D) : truD S (.tup x) = some (!x.isEmpty) := rfl
@[simp] theorem tru_int (x : Int) : truD S (.int x) = some (x != 0) := rfl
@[simp] theorem ix_tup' (xs : List D) (k : Int) : ixD (.tup xs) (.int k) S = match atI xs k with | some x => .ok (x, S) | none => .stuck := rfl
@[simp] theorem ix_lst' (xs : List D) (k : Int) : ixD (.lst xs) (.int k) S = match atI xs k with | some x => .ok (x, S) | none => .stuck := rfl
@[simp] theorem ix_ref' (n : Nat) (k : Int) : ixD (.ref n) (.int k) S = match S[n]? with | some (.lst xs) => (match atI xs k with | some x => .ok (x, S) | none => .stuck) | _ => .stuck := rfl
@[simp] theorem sl_tup' (xs : List D) (l h : Option Int) : slD S (.tup xs) l h = .ok (.tup (cutL xs l h), S) := rfl
@[simp] theorem sl_lst' (xs : List D) (l h : Option Int) : slD S (.lst xs) l h = .ok (.lst (cutL xs l h), S) := rfl
@[simp] theorem forF_nil (tg : TGT) : forF tg f [] ρ S = .ok (.nx ρ, S) := rfl
@[simp] theorem lcF_nil (tg : TGT) (acc : List D) : lcF tg t a ρ [] S acc = .ok (acc, S) := rfl
@[simp] theorem all_bl (bs : List Bool) : allD [.lst (bs.map D.bl)] S = .ok (.bl (bs.all id), S) := by
  unfold allD
  dsimp only
  rw [toBls_map]
@[simp] theorem any_bl (bs : List Bool) : anyD [.lst (bs.map D.bl)] S = .ok (.bl (bs.any id), S) := by
  unfold anyD
  dsimp only
  rw [toBls_map]
@[simp] theorem sum_int (bs : List Int) : sumD [.lst (bs.map D.int)] S = .ok (.int bs.sum, S) := by
  unfold sumD onInts
  dsimp only
  rw [toInts_map]
end
theorem mul_int' {x y : Int} {S : Store} (h : mulOk x y = true) : mulD (.int x) (.int y) S = .ok (.int (x * y), S) := by
  show (if mulOk x y = true then R.ok (D.int (x * y), S) else .stuck) = _
  rw [if_pos h]
theorem mod_int' {x y : Int} {S : Store} (h : 0 < y) : modD (.int x) (.int y) S = .ok (.int (x % y), S) := by
  show (if decide (0 < y) = true then R.ok (D.int (x % y), S) else .stuck) = _
  rw [if_pos (decide_eq_true h)]
theorem div_int' {x y : Int} {S : Store} (h : 0 < y) (h2 : y.natAbs.log2 < 9000) : divD (.int x) (.int y) S = .ok (.int (x / y), S) := by
  show (if (decide (0 < y) && decide (y.natAbs.log2 < 9000)) = true then R.ok (D.int (x / y), S) else .stuck) = _
  rw [if_pos (by rw [decide_eq_true h, decide_eq_true h2]; rfl)]
theorem log_small {y : Int} (h : 0 < y) (h2 : y ≤ 10 ^ 31) : y.natAbs.log2 < 9000 := by
  have h4 : y.natAbs < 2 ^ 104 := by
    have : (10:Int) ^ 31 = 10000000000000000000000000000000 := by decide +kernel
    have : (2:Nat) ^ 104 = 20282409603651670423947251286016 := by decide +kernel
    omega
  have : y.natAbs.log2 < 104 := (Nat.log2_lt (by omega)).mpr h4
  omega
theorem atI_of {α : Type} {xs : List α} {k : Int} {n : Nat} (h : k = (n : Int)) (hn : n < xs.length) : atI xs k = some xs[n] := by
  subst h
  exact atI_nat (List.getElem?_eq_getElem hn)
theorem atI_map {α β : Type} (f : α → β) (xs : List α) (k : Int) : atI (xs.map f) k = (atI xs k).map f := by
  unfold atI
  rw [List.length_map]
  cases ixN xs.length k with
  | none => rfl
  | some j => simp

/-! ### the law's draws -/
structure Bx where
  cells : List Int
  b1 : Int
  b2 : Int
def bst (b : Bx) (nd : D) (rest : Store) : Store := .lst (b.cells.map D.int) :: .lst [.ref 0, .int b.b1, .int b.b2, nd] :: rest
def bLoad : SS := (sSeq (sSet 1 (MP.e2 ixD (eV 0) (eC (.int 0))))
  (sSeq (sIf (tE (MP.e2 gtD (eN lenD (aCons (eV 1) aNil)) (eC (.int 0)))) (sSeq (sSet 4 (eN intD (aCons (eM popAtR (eV 1) (aCons (eC (.int 0)) aNil)) aNil)))
  (sSeq (sSet 5 (eIf (tE (MP.e2 geD (eV 4) (eC (.int 0)))) (MP.e2 mulD (eC (.int 2)) (eV 4)) (MP.e2 subD (MP.e2 mulD (MP.e1 negD (eC (.int 2))) (eV 4)) (eC (.int 1)))))
  (sSeq (sIf (tE (MP.e2 geD (eV 5) (eC (.int 1000000000000000000)))) (sRet (eV 5)) sNil)
  (sPutIx (MP.e2 modD (eN intD (aCons (MP.e2 addD (MP.e2 addD (MP.e2 mulD (MP.e2 ixD (eV 0) (eC (.int 2))) (eC (.int 69621))) (MP.e2 mulD (eV 5) (eC (.int 48271)))) (eC (.int 11))) aNil)) (eC (.int 2147483647))) (eV 0) (eC (.int 2)))))) sNil)
  (sSeq (sSet 2 (MP.e2 modD (eN intD (aCons (MP.e2 addD (MP.e2 mulD (MP.e2 ixD (eV 0) (eC (.int 2))) (eC (.int 48271))) (eC (.int 17))) aNil)) (eC (.int 2147483629))))
  (sSeq (sSet 3 (MP.e2 modD (eN intD (aCons (MP.e2 addD (MP.e2 mulD (eV 2) (eC (.int 69621))) (eC (.int 5))) aNil)) (eC (.int 2147483587))))
  (sSeq (sPutIx (MP.e2 modD (eN intD (aCons (MP.e2 addD (MP.e2 mulD (eV 3) (eC (.int 40692))) (eC (.int 3))) aNil)) (eC (.int 2147483563))) (eV 0) (eC (.int 2)))
  (sRet (MP.e2 addD (MP.e2 addD (MP.e2 mulD (eV 2) (eC (.int 4611686014132420609))) (MP.e2 mulD (eV 3) (eC (.int 2147483647)))) (MP.e2 ixD (eV 0) (eC (.int 2))))))))))
def bDraw (load : FD) : SS := (sSeq (sIf (tE (MP.e2 ltD (MP.e2 ixD (eV 0) (eC (.int 1))) (eV 1))) (sPutIx (eN load (aCons (eV 0) aNil)) (eV 0) (eC (.int 1))) sNil)
  (sSeq (sSet 2 (MP.e2 modD (eN intD (aCons (MP.e2 ixD (eV 0) (eC (.int 1))) aNil)) (eV 1)))
  (sSeq (sPutIx (MP.e2 divD (MP.e2 ixD (eV 0) (eC (.int 1))) (eV 1)) (eV 0) (eC (.int 1)))
  (sRet (eV 2)))))
@[simp] theorem mulL (x : Int) (c : Int) (h : -(2 ^ 64) < c := by decide) (h2 : c < 2 ^ 64 := by decide) {S : Store} : mulD (.int x) (.int c) S = .ok (.int (x * c), S) := mul_int' (mulOk_right h h2)

/-- the last part of a load: three numbers on -/
def tailOf (cells : List Int) (c2 : Int) : Int × List Int × Int :=
  let f := (c2 * 48271 + 17) % 2147483629
  let g := (f * 69621 + 5) % 2147483587
  let h := (g * 40692 + 3) % 2147483563
  (f * 4611686014132420609 + g * 2147483647 + h, cells, h)
def loadOf : List Int → Int → Int × List Int × Int
  | [], c2 => tailOf [] c2
  | c :: cs, c2 =>
    let z := if 0 ≤ c then 2 * c else -2 * c - 1
    if 1000000000000000000 ≤ z then (z, cs, c2) else tailOf cs ((c2 * 69621 + z * 48271 + 11) % 2147483647)
theorem bst_def (b : Bx) (nd : D) (rest : Store) : bst b nd rest = .lst (b.cells.map D.int) :: .lst [.ref 0, .int b.b1, .int b.b2, nd] :: rest := rfl
theorem mulK {x c : Int} {S : Store} (h : (decide (-(2 ^ 64) < c) && decide (c < 2 ^ 64)) = true) : mulD (.int x) (.int c) S = .ok (.int (x * c), S) := by
  simp only [Bool.and_eq_true, decide_eq_true_eq] at h
  exact mul_int' (mulOk_right h.1 h.2)
theorem mulKl {x c : Int} {S : Store} (h : (decide (-(2 ^ 64) < c) && decide (c < 2 ^ 64)) = true) : mulD (.int c) (.int x) S = .ok (.int (c * x), S) := by
  simp only [Bool.and_eq_true, decide_eq_true_eq] at h
  exact mul_int' (mulOk_left h.1 h.2)
theorem seqIx0 (n : Nat) : seqIndex? 0 (n + 1) = some 0 := by
  unfold seqIndex?
  simp
theorem load_eq (b : Bx) (nd : D) (rest : Store) : runF 6 bLoad [.ref 1] (bst b nd rest) = .ok (.int (loadOf b.cells b.b2).1, bst ⟨(loadOf b.cells b.b2).2.1, b.b1, (loadOf b.cells b.b2).2.2⟩ nd rest) := by
  obtain ⟨cells, b1, b2⟩ := b
  cases cells with
  | nil =>
    simp [runF, bLoad, bst, atI, ixN, mulK, mod_int', lenD, loadOf, tailOf]
  | cons c cs =>
    by_cases h0 : 0 ≤ c
    · by_cases h1 : 1000000000000000000 ≤ 2 * c
      · simp [runF, bLoad, bst, atI, ixN, mulK, mulKl, mod_int', lenD, loadOf, tailOf, popAtR, isL, h0, h1, seqIx0]
      · simp [runF, bLoad, bst, atI, ixN, mulK, mulKl, mod_int', lenD, loadOf, tailOf, popAtR, isL, h0, h1, seqIx0]
    · by_cases h1 : 1000000000000000000 ≤ -2 * c - 1
      · have h1' : 1000000000000000000 ≤ -(2 * c) - 1 := by omega
        simp [runF, bLoad, bst, atI, ixN, mulK, mulKl, mod_int', lenD, loadOf, tailOf, popAtR, isL, h0, h1, h1', seqIx0]
      · have h1' : ¬ 1000000000000000000 ≤ -(2 * c) - 1 := by omega
        simp [runF, bLoad, bst, atI, ixN, mulK, mulKl, mod_int', lenD, loadOf, tailOf, popAtR, isL, h0, h1, h1', seqIx0]
def ldB (b : Bx) (m : Int) : Bx := if b.b1 < m then ⟨(loadOf b.cells b.b2).2.1, (loadOf b.cells b.b2).1, (loadOf b.cells b.b2).2.2⟩ else b
def dr (b : Bx) (m : Int) : Int := (ldB b m).b1 % m
def nx (b : Bx) (m : Int) : Bx := { ldB b m with b1 := (ldB b m).b1 / m }
theorem draw_eq (b : Bx) (m : Int) (nd : D) (rest : Store) (load : FD) (hl : load = runF 6 bLoad) (h : 0 < m) (h2 : m ≤ 10 ^ 31) : runF 3 (bDraw load) [.ref 1, .int m] (bst b nd rest) = .ok (.int (dr b m), bst (nx b m) nd rest) := by
  have hd := log_small h h2
  subst hl
  by_cases hb : b.b1 < m
  · have e := load_eq b nd rest
    simp only [bst_def] at e
    simp [runF, bDraw, bst_def, atI, ixN, mod_int' h, div_int' h hd, hb, dr, nx, ldB]
    simp [runF] at e
    simp [e, atI, ixN, mod_int' h, div_int' h hd]
  · simp [runF, bDraw, bst_def, atI, ixN, mod_int' h, div_int' h hd, hb, dr, nx, ldB]
theorem dr_lo (b : Bx) {m : Int} (h : 0 < m) : 0 ≤ dr b m := Int.emod_nonneg _ (by omega)
theorem dr_hi (b : Bx) {m : Int} (h : 0 < m) : dr b m < m := Int.emod_lt_of_pos _ h
end MP
/-! MP: loops and comprehensions by invariants; the law's own equality. -/
namespace MP
open PySem L2
theorem lc_map {α : Type} (h : α → D) (g : α → D) {tg : TGT} {e : FE} {ρ : Env} {S : Store} : ∀ (xs : List α) (acc : List D), acc.length + xs.length ≤ sizeLine → (∀ x ∈ xs, ∃ ρ1, tg (h x) ρ = some ρ1 ∧ e ρ1 S = .ok (g x, S)) →
    lcF tg tYesF e ρ (xs.map h) S acc = .ok (acc ++ xs.map g, S)
  | [], acc, _, _ => by simp
  | x :: xs, acc, hl, hx => by
    obtain ⟨ρ1, h1, h2⟩ := hx x (by simp)
    simp only [List.length_cons] at hl
    have := lc_map h g xs (acc ++ [g x]) (by simp; omega) fun y hy => hx y (List.mem_cons_of_mem _ hy)
    simp only [List.map_cons, lcF, h1, tYes_ap, rnox_ok, rbind_ok, if_true, h2]
    rw [if_pos (by omega), this]
    simp
theorem for_inv {α : Type} (h : α → D) {tg : TGT} {body : SS} (I : Nat → Env → Store → Prop) : ∀ (xs : List α) (n : Nat) (ρ : Env) (S : Store), I n ρ S →
    (∀ k x ρ S, xs[k]? = some x → I (n + k) ρ S → ∃ ρ1, tg (h x) ρ = some ρ1 ∧ ∃ ρ' S', body ρ1 S = .ok (.nx ρ', S') ∧ I (n + k + 1) ρ' S') →
    ∃ ρ' S', forF tg body (xs.map h) ρ S = .ok (.nx ρ', S') ∧ I (n + xs.length) ρ' S'
  | [], n, ρ, S, hi, _ => ⟨ρ, S, rfl, hi⟩
  | x :: xs, n, ρ, S, hi, hs => by
    obtain ⟨ρ1, h1, ρ2, S2, h2, h3⟩ := hs 0 x ρ S rfl hi
    obtain ⟨ρ', S', h4, h5⟩ := for_inv h I xs (n + 1) ρ2 S2 h3 fun k y ρ S hy hk => by
      have := hs (k + 1) y ρ S (by simpa using hy) (by rw [show n + (k + 1) = n + 1 + k by omega]; exact hk)
      rw [show n + (k + 1) = n + 1 + k by omega] at this
      exact this
    refine ⟨ρ', S', ?_, by rw [List.length_cons, show n + (xs.length + 1) = n + 1 + xs.length by omega]; exact h5⟩
    simp only [List.map_cons, forF, h1, h2, loop_nx, h4]
theorem for_inv0 {α : Type} (h : α → D) {tg : TGT} {body : SS} (I : Nat → Env → Store → Prop) (xs : List α) {ρ : Env} {S : Store} (h0 : I 0 ρ S)
    (hs : ∀ k x ρ S, xs[k]? = some x → I k ρ S → ∃ ρ1, tg (h x) ρ = some ρ1 ∧ ∃ ρ' S', body ρ1 S = .ok (.nx ρ', S') ∧ I (k + 1) ρ' S') :
    ∃ ρ' S', forF tg body (xs.map h) ρ S = .ok (.nx ρ', S') ∧ I xs.length ρ' S' := by
  have := for_inv h I xs 0 ρ S h0 (fun k x ρ S hx hk => by
    rw [Nat.zero_add] at *
    exact hs k x ρ S hx hk)
  rw [Nat.zero_add] at this
  exact this
theorem rngI_eq (n : Nat) : rngI 0 1 n = (List.range n).map fun (i : Nat) => D.int (i : Int) := by
  unfold rngI
  congr 1
  funext i
  simp
theorem rng1_ap {j : Int} {S : Store} (h : 0 ≤ j) (h2 : j ≤ 2 ^ 61) : rng1Of [.int j] S = .ok ((List.range j.toNat).map fun (i : Nat) => D.int (i : Int), S) := by
  show (if inB j = true then R.ok (rngI 0 1 j.toNat, S) else .stuck) = _
  rw [if_pos (by unfold inB; simp; constructor <;> omega), rngI_eq]
theorem sizeLine_val : sizeLine = 16777216 := rfl
/-- plain data, so deep -/
inductive Pl : Nat → D → Prop where
  | non {n} : Pl n .non
  | bl {n} (b : Bool) : Pl n (.bl b)
  | int {n} (i : Int) : Pl n (.int i)
  | str {n} (x : Str) : Pl n (.str x)
  | tup {n} {xs : List D} : xs.length ≤ sizeLine → (∀ d ∈ xs, Pl n d) → Pl (n + 1) (.tup xs)
  | lst {n} {xs : List D} : xs.length ≤ sizeLine → (∀ d ∈ xs, Pl n d) → Pl (n + 1) (.lst xs)
def bSame (self : FD) : SS :=
  (sSeq (sIf (tOrF (tAndF (tTru (eIsi .tuple (eV 0))) (tTru (eIsi .tuple (eV 1)))) (tAndF (tTru (eIsi .list (eV 0))) (tTru (eIsi .list (eV 1))))) (sRet (eAnd (MP.e2 eqD (eN lenD (aCons (eV 0) aNil)) (eN lenD (aCons (eV 1) aNil))) (eN allD (aCons (eF (fLc (iRngN rng1Of (aCons (eN lenD (aCons (eV 0) aNil)) aNil)) (tgName 2) tYesF (eN self (aCons (MP.e2 ixD (eV 0) (eV 2)) (aCons (MP.e2 ixD (eV 1) (eV 2)) aNil))) [2])) aNil)))) sNil)
  (sSeq (sIf (tAndF (tTru (eIsi .dict (eV 0))) (tTru (eIsi .dict (eV 1)))) (sRet (eAnd (MP.e2 eqD (eN lenD (aCons (eV 0) aNil)) (eN lenD (aCons (eV 1) aNil))) (eN allD (aCons (eF (fLc (iSeq (eV 0)) (tgName 3) tYesF (eAnd (MP.e2 inD (eV 3) (eV 1)) (eN self (aCons (MP.e2 ixD (eV 0) (eV 3)) (aCons (MP.e2 ixD (eV 1) (eV 3)) aNil)))) [3])) aNil)))) sNil)
  (sSeq (sIf (tOrF (tTru (eIsi .bool (eV 0))) (tTru (eIsi .bool (eV 1)))) (sRet (eAnd (eIsi .bool (eV 0)) (eAnd (eIsi .bool (eV 1)) (MP.e2 eqD (eV 0) (eV 1))))) sNil)
  (sSeq (sIf (tOrF (tAndF (tTru (eIsi .int (eV 0))) (tTru (eIsi .int (eV 1)))) (tAndF (tTru (eIsi .str (eV 0))) (tTru (eIsi .str (eV 1))))) (sRet (MP.e2 eqD (eV 0) (eV 1))) sNil)
  (sRet (eAnd (MP.e2 isNonD (eV 0) (eC .non)) (MP.e2 isNonD (eV 1) (eC .non))))))))
theorem all_true {α : Type} (xs : List α) {S : Store} : allD [.lst (xs.map fun _ => D.bl true)] S = .ok (.bl true, S) := by
  have := all_bl (S := S) (xs.map fun _ => true)
  rw [List.map_map] at this
  rw [show (fun (_ : α) => D.bl true) = D.bl ∘ fun _ => true from rfl, this]
  simp
theorem same_seq (f : FD) (xs : List D) (S : Store) (hl : xs.length ≤ sizeLine) (hx : ∀ d ∈ xs, f [d, d] S = .ok (.bl true, S)) (ρ : Env) (d : D) (h0 : ρ[0]? = some (.val d)) (h1 : ρ[1]? = some (.val d)) (h2 : ρ.length = 4) (hi : ∀ i (h : i < xs.length), ixD d (.int (i : Int)) S = .ok (xs[i], S)) :
    lcF (tgName 2) tYesF (eN f (aCons (MP.e2 ixD (eV 0) (eV 2)) (aCons (MP.e2 ixD (eV 1) (eV 2)) aNil))) ρ ((List.range xs.length).map fun (i : Nat) => D.int (i : Int)) S [] = .ok ((List.range xs.length).map (fun _ => D.bl true), S) := by
  have hm := lc_map (α := Nat) (fun i => D.int (i : Int)) (fun _ => D.bl true) (tg := tgName 2) (e := eN f (aCons (MP.e2 ixD (eV 0) (eV 2)) (aCons (MP.e2 ixD (eV 1) (eV 2)) aNil))) (ρ := ρ) (S := S) (List.range xs.length) [] (by rw [List.length_range, List.length_nil, Nat.zero_add]; exact hl) (by
        intro i hr
        rw [List.mem_range] at hr
        refine ⟨_, rfl, ?_⟩
        have e0 : (ρ.set 2 (.val (.int (i : Int))))[0]? = some (.val d) := by rw [List.getElem?_set_ne (by omega)]; exact h0
        have e1 : (ρ.set 2 (.val (.int (i : Int))))[1]? = some (.val d) := by rw [List.getElem?_set_ne (by omega)]; exact h1
        have e2 : (ρ.set 2 (.val (.int (i : Int))))[2]? = some (.val (.int (i : Int))) := by rw [List.getElem?_set_self (by omega)]
        simp only [eN_ap, aCons_ap, e2_ap, eV_ap, aNil_ap, e0, e1, e2, rbind_ok, hi i hr]
        exact hx _ (List.getElem_mem hr))
  rw [hm, List.nil_append]
theorem same_refl (f : Nat → FD) (hf : ∀ k, f (k + 1) = runF 4 (bSame (f k))) : ∀ (n : Nat) (d : D) (k : Nat) (S : Store), Pl n d → f (n + 1 + k) [d, d] S = .ok (.bl true, S) := by
  intro n
  induction n with
  | zero =>
    intro d k S h
    rw [show 0 + 1 + k = k + 1 by omega, hf]
    cases h <;> simp -implicitDefEqProofs [runF, bSame, isi]
  | succ n ih =>
    intro d k S h
    rw [show n + 1 + 1 + k = n + 1 + k + 1 by omega, hf]
    cases h with
    | tup hl hx =>
      rename_i xs
      have hm := same_seq (f (n + 1 + k)) xs S hl (fun d hd => ih d k S (hx d hd)) [Slot.val (.tup xs), Slot.val (.tup xs), Slot.no, Slot.no] (.tup xs) rfl rfl rfl (fun i h => by rw [ix_tup', atI_of rfl h])
      have hr : rng1Of [.int (xs.length : Int)] S = _ := rng1_ap (Int.natCast_nonneg _) (by rw [sizeLine_val] at hl; omega)
      rw [Int.toNat_natCast] at hr
      simp -implicitDefEqProofs [runF, bSame, isi, hr, -List.map_const_fun]
      rw [hm]
      simp -implicitDefEqProofs [all_true, -List.map_const_fun]
    | lst hl hx =>
      rename_i xs
      have hm := same_seq (f (n + 1 + k)) xs S hl (fun d hd => ih d k S (hx d hd)) [Slot.val (.lst xs), Slot.val (.lst xs), Slot.no, Slot.no] (.lst xs) rfl rfl rfl (fun i h => by rw [ix_lst', atI_of rfl h])
      have hr : rng1Of [.int (xs.length : Int)] S = _ := rng1_ap (Int.natCast_nonneg _) (by rw [sizeLine_val] at hl; omega)
      rw [Int.toNat_natCast] at hr
      simp -implicitDefEqProofs [runF, bSame, isi, hr, -List.map_const_fun]
      rw [hm]
      simp -implicitDefEqProofs [all_true, -List.map_const_fun]
    | _ => simp -implicitDefEqProofs [runF, bSame, isi]
end MP
/-! The defs of the text, each over MP's combinators, and the derivations (printed by gen.py). -/
namespace TX
open PySem PySem.Spec PyProof.Rows L2 MP
def top (i : Nat) : Stmt := PySem.Challenge.pw_onewatcher_k62_great_payments.main.body.getD i (.Pass ⟨0, 0, 0, 0⟩)
def FUEL : Nat := 1000000
inductive Fn where
  | input_of | payments | law_same_ | law_box_ | law_load_ | law_draw_ | law_entries_ | law_words_ | law_due_ | law
abbrev s_input_of : Stmt := top 1
abbrev n_input_of : List Str := ["entries", "entry", "word"]
abbrev p_input_of : List Str := ["entries"]
theorem sc_input_of : FnScope n_input_of p_input_of (defScope s_input_of) := ⟨rfl, rfl, rfl, by decide +kernel, rfl, by decide +kernel, by decide +kernel⟩
def b_input_of (call : Fn → FD) : SS :=
  (sRet (eN tupD (aCons (eF (fLc2 (iSeq (eV 0)) (tgName 1) tYesF (iSeq (eV 1)) (tgName 2) tYesF (eV 2) [1, 2] [2])) aNil)))
abbrev s_payments : Stmt := top 2
abbrev n_payments : List Str := ["members", "rest", "entries", "status", "words", "left", "paid", "k", "amount", "entry"]
abbrev p_payments : List Str := ["members", "rest", "entries", "status", "words"]
theorem sc_payments : FnScope n_payments p_payments (defScope s_payments) := ⟨rfl, rfl, rfl, by decide +kernel, rfl, by decide +kernel, by decide +kernel⟩
def b_payments (call : Fn → FD) : SS :=
  (sSeq (sIf (tOrF (tE (MP.e2 neD (eV 3) (eC (.int 1)))) (tE (MP.e2 eqD (MP.e2 modD (eN lenD (aCons (eV 4) aNil)) (eC (.int 2))) (eC (.int 1))))) (sRet (eTup (aCons (eN tupD (aCons (eF (fLc (iSeq (eV 2)) (tgName 9) tYesF (eTup (aCons (MP.e2 ixD (eV 0) (MP.e2 ixD (eV 9) (eC (.int 0)))) (aCons (MP.e2 ixD (eV 9) (eC (.int 1))) aNil))) [9])) aNil)) (aCons (eV 1) aNil)))) sNil)
  (sSeq (sSet 5 (MP.e2 addD (eV 1) (eN sumD (aCons (eF (fLc (iSeq (eV 2)) (tgName 9) tYesF (MP.e2 ixD (eV 9) (eC (.int 1))) [9])) aNil))))
  (sSeq (sSetO 6 (fLst aNil))
  (sSeq (sFor (iRngN rng3Of (aCons (eC (.int 0)) (aCons (eN lenD (aCons (eV 4) aNil)) (aCons (eC (.int 2)) aNil)))) (tgName 7) (sIf (tE (MP.e2 ltD (MP.e2 ixD (eV 4) (eV 7)) (eN lenD (aCons (eV 0) aNil)))) (sSeq (sSet 8 (eN minD (aCons (MP.e2 ixD (eV 4) (MP.e2 addD (eV 7) (eC (.int 1)))) (aCons (eV 5) aNil))))
  (sSeq (sOwn 6 (aCons (eTup (aCons (MP.e2 ixD (eV 0) (MP.e2 ixD (eV 4) (eV 7))) (aCons (eV 8) aNil))) aNil) appO)
  (sSet 5 (MP.e2 subD (eV 5) (eV 8))))) sNil))
  (sRet (eTup (aCons (eN tupD (aCons (eVB 6) aNil)) (aCons (eV 5) aNil))))))))
abbrev s_law_same_ : Stmt := top 4
abbrev n_law_same_ : List Str := ["a", "b", "k", "key"]
abbrev p_law_same_ : List Str := ["a", "b"]
theorem sc_law_same_ : FnScope n_law_same_ p_law_same_ (defScope s_law_same_) := ⟨rfl, rfl, rfl, by decide +kernel, rfl, by decide +kernel, by decide +kernel⟩
def b_law_same_ (call : Fn → FD) : SS :=
  (sSeq (sIf (tOrF (tAndF (tTru (eIsi .tuple (eV 0))) (tTru (eIsi .tuple (eV 1)))) (tAndF (tTru (eIsi .list (eV 0))) (tTru (eIsi .list (eV 1))))) (sRet (eAnd (MP.e2 eqD (eN lenD (aCons (eV 0) aNil)) (eN lenD (aCons (eV 1) aNil))) (eN allD (aCons (eF (fLc (iRngN rng1Of (aCons (eN lenD (aCons (eV 0) aNil)) aNil)) (tgName 2) tYesF (eN (call .law_same_) (aCons (MP.e2 ixD (eV 0) (eV 2)) (aCons (MP.e2 ixD (eV 1) (eV 2)) aNil))) [2])) aNil)))) sNil)
  (sSeq (sIf (tAndF (tTru (eIsi .dict (eV 0))) (tTru (eIsi .dict (eV 1)))) (sRet (eAnd (MP.e2 eqD (eN lenD (aCons (eV 0) aNil)) (eN lenD (aCons (eV 1) aNil))) (eN allD (aCons (eF (fLc (iSeq (eV 0)) (tgName 3) tYesF (eAnd (MP.e2 inD (eV 3) (eV 1)) (eN (call .law_same_) (aCons (MP.e2 ixD (eV 0) (eV 3)) (aCons (MP.e2 ixD (eV 1) (eV 3)) aNil)))) [3])) aNil)))) sNil)
  (sSeq (sIf (tOrF (tTru (eIsi .bool (eV 0))) (tTru (eIsi .bool (eV 1)))) (sRet (eAnd (eIsi .bool (eV 0)) (eAnd (eIsi .bool (eV 1)) (MP.e2 eqD (eV 0) (eV 1))))) sNil)
  (sSeq (sIf (tOrF (tAndF (tTru (eIsi .int (eV 0))) (tTru (eIsi .int (eV 1)))) (tAndF (tTru (eIsi .str (eV 0))) (tTru (eIsi .str (eV 1))))) (sRet (MP.e2 eqD (eV 0) (eV 1))) sNil)
  (sRet (eAnd (MP.e2 isNonD (eV 0) (eC .non)) (MP.e2 isNonD (eV 1) (eC .non))))))))
abbrev s_law_box_ : Stmt := top 5
abbrev n_law_box_ : List Str := ["script", "nodes"]
abbrev p_law_box_ : List Str := ["script", "nodes"]
theorem sc_law_box_ : FnScope n_law_box_ p_law_box_ (defScope s_law_box_) := ⟨rfl, rfl, rfl, by decide +kernel, rfl, by decide +kernel, by decide +kernel⟩
def b_law_box_ (call : Fn → FD) : SS :=
  (sRet (eRef (fLst (aCons (eRef (fN lstG (aCons (eV 0) aNil))) (aCons (eC (.int 0)) (aCons (MP.e2 addD (eC (.int 4711)) (eN lenD (aCons (eV 0) aNil))) (aCons (eV 1) aNil)))))))
abbrev s_law_load_ : Stmt := top 6
abbrev n_law_load_ : List Str := ["box", "cells", "first", "second", "cell", "size"]
abbrev p_law_load_ : List Str := ["box"]
theorem sc_law_load_ : FnScope n_law_load_ p_law_load_ (defScope s_law_load_) := ⟨rfl, rfl, rfl, by decide +kernel, rfl, by decide +kernel, by decide +kernel⟩
def b_law_load_ (call : Fn → FD) : SS :=
  (sSeq (sSet 1 (MP.e2 ixD (eV 0) (eC (.int 0))))
  (sSeq (sIf (tE (MP.e2 gtD (eN lenD (aCons (eV 1) aNil)) (eC (.int 0)))) (sSeq (sSet 4 (eN intD (aCons (eM popAtR (eV 1) (aCons (eC (.int 0)) aNil)) aNil)))
  (sSeq (sSet 5 (eIf (tE (MP.e2 geD (eV 4) (eC (.int 0)))) (MP.e2 mulD (eC (.int 2)) (eV 4)) (MP.e2 subD (MP.e2 mulD (MP.e1 negD (eC (.int 2))) (eV 4)) (eC (.int 1)))))
  (sSeq (sIf (tE (MP.e2 geD (eV 5) (eC (.int 1000000000000000000)))) (sRet (eV 5)) sNil)
  (sPutIx (MP.e2 modD (eN intD (aCons (MP.e2 addD (MP.e2 addD (MP.e2 mulD (MP.e2 ixD (eV 0) (eC (.int 2))) (eC (.int 69621))) (MP.e2 mulD (eV 5) (eC (.int 48271)))) (eC (.int 11))) aNil)) (eC (.int 2147483647))) (eV 0) (eC (.int 2)))))) sNil)
  (sSeq (sSet 2 (MP.e2 modD (eN intD (aCons (MP.e2 addD (MP.e2 mulD (MP.e2 ixD (eV 0) (eC (.int 2))) (eC (.int 48271))) (eC (.int 17))) aNil)) (eC (.int 2147483629))))
  (sSeq (sSet 3 (MP.e2 modD (eN intD (aCons (MP.e2 addD (MP.e2 mulD (eV 2) (eC (.int 69621))) (eC (.int 5))) aNil)) (eC (.int 2147483587))))
  (sSeq (sPutIx (MP.e2 modD (eN intD (aCons (MP.e2 addD (MP.e2 mulD (eV 3) (eC (.int 40692))) (eC (.int 3))) aNil)) (eC (.int 2147483563))) (eV 0) (eC (.int 2)))
  (sRet (MP.e2 addD (MP.e2 addD (MP.e2 mulD (eV 2) (eC (.int 4611686014132420609))) (MP.e2 mulD (eV 3) (eC (.int 2147483647)))) (MP.e2 ixD (eV 0) (eC (.int 2))))))))))
abbrev s_law_draw_ : Stmt := top 7
abbrev n_law_draw_ : List Str := ["box", "many", "digit"]
abbrev p_law_draw_ : List Str := ["box", "many"]
theorem sc_law_draw_ : FnScope n_law_draw_ p_law_draw_ (defScope s_law_draw_) := ⟨rfl, rfl, rfl, by decide +kernel, rfl, by decide +kernel, by decide +kernel⟩
def b_law_draw_ (call : Fn → FD) : SS :=
  (sSeq (sIf (tE (MP.e2 ltD (MP.e2 ixD (eV 0) (eC (.int 1))) (eV 1))) (sPutIx (eN (call .law_load_) (aCons (eV 0) aNil)) (eV 0) (eC (.int 1))) sNil)
  (sSeq (sSet 2 (MP.e2 modD (eN intD (aCons (MP.e2 ixD (eV 0) (eC (.int 1))) aNil)) (eV 1)))
  (sSeq (sPutIx (MP.e2 divD (MP.e2 ixD (eV 0) (eC (.int 1))) (eV 1)) (eV 0) (eC (.int 1)))
  (sRet (eV 2)))))
abbrev s_law_entries_ : Stmt := top 8
abbrev n_law_entries_ : List Str := ["box", "many", "found", "k", "amount"]
abbrev p_law_entries_ : List Str := ["box", "many"]
theorem sc_law_entries_ : FnScope n_law_entries_ p_law_entries_ (defScope s_law_entries_) := ⟨rfl, rfl, rfl, by decide +kernel, rfl, by decide +kernel, by decide +kernel⟩
def b_law_entries_ (call : Fn → FD) : SS :=
  (sSeq (sSetO 2 (fLst aNil))
  (sSeq (sFor (iRngN rng1Of (aCons (MP.e2 ixD (eF (fLst (aCons (eC (.int 21)) (aCons (eN (call .law_draw_) (aCons (eV 0) (aCons (eC (.int 22)) aNil))) aNil)))) (eN (call .law_draw_) (aCons (eV 0) (aCons (eC (.int 2)) aNil)))) aNil)) (tgName 3) (sSeq (sSet 4 (MP.e2 ixD (eF (fLst (aCons (eC (.int 1)) (aCons (eC (.int 4294967295)) (aCons (MP.e2 addD (eC (.int 1)) (eN (call .law_draw_) (aCons (eV 0) (aCons (eC (.int 4294967295)) aNil)))) aNil))))) (eN (call .law_draw_) (aCons (eV 0) (aCons (eC (.int 3)) aNil)))))
  (sOwn 2 (aCons (eTup (aCons (eN (call .law_draw_) (aCons (eV 0) (aCons (eV 1) aNil))) (aCons (eV 4) (aCons (MP.e2 ixD (eF (fLst (aCons (eC (.int 0)) (aCons (eC (.int 4294967295)) (aCons (eN (call .law_draw_) (aCons (eV 0) (aCons (eC (.int 4294967296)) aNil))) aNil))))) (eN (call .law_draw_) (aCons (eV 0) (aCons (eC (.int 3)) aNil)))) aNil)))) aNil) appO)))
  (sRet (eN tupD (aCons (eVB 2) aNil)))))
abbrev s_law_words_ : Stmt := top 9
abbrev n_law_words_ : List Str := ["box", "many", "pot", "words", "small", "k"]
abbrev p_law_words_ : List Str := ["box", "many", "pot"]
theorem sc_law_words_ : FnScope n_law_words_ p_law_words_ (defScope s_law_words_) := ⟨rfl, rfl, rfl, by decide +kernel, rfl, by decide +kernel, by decide +kernel⟩
def b_law_words_ (call : Fn → FD) : SS :=
  (sSeq (sSetO 3 (fLst aNil))
  (sSeq (sSet 4 (MP.e2 ixD (eF (fLst (aCons (eC (.int 3)) (aCons (eC (.int 50)) (aCons (eC (.int 4294967296)) aNil))))) (eN (call .law_draw_) (aCons (eV 0) (aCons (eC (.int 3)) aNil)))))
  (sSeq (sFor (iRngN rng1Of (aCons (MP.e2 ixD (eF (fLst (aCons (eC (.int 512)) (aCons (eN (call .law_draw_) (aCons (eV 0) (aCons (eC (.int 513)) aNil))) aNil)))) (eN (call .law_draw_) (aCons (eV 0) (aCons (eC (.int 2)) aNil)))) aNil)) (tgName 5) (sSeq (sOwn 3 (aCons (MP.e2 ixD (eF (fLst (aCons (eN (call .law_draw_) (aCons (eV 0) (aCons (eV 1) aNil))) (aCons (eV 1) (aCons (eN (call .law_draw_) (aCons (eV 0) (aCons (eC (.int 4294967296)) aNil))) aNil))))) (MP.e2 ixD (eF (fLst (aCons (eC (.int 0)) (aCons (eC (.int 0)) (aCons (eC (.int 0)) (aCons (eC (.int 0)) (aCons (eC (.int 1)) (aCons (eC (.int 2)) aNil)))))))) (eN (call .law_draw_) (aCons (eV 0) (aCons (eC (.int 6)) aNil))))) aNil) appO)
  (sOwn 3 (aCons (MP.e2 ixD (eF (fLst (aCons (eN (call .law_draw_) (aCons (eV 0) (aCons (eV 4) aNil))) (aCons (eN minD (aCons (eV 2) (aCons (eC (.int 4294967295)) aNil))) aNil)))) (eN intD (aCons (MP.e2 eqD (eN (call .law_draw_) (aCons (eV 0) (aCons (eC (.int 40)) aNil))) (eC (.int 0))) aNil))) aNil) appO)))
  (sSeq (sIf (tAndF (tE (MP.e2 eqD (eN (call .law_draw_) (aCons (eV 0) (aCons (eC (.int 6)) aNil))) (eC (.int 0)))) (tE (MP.e2 neD (eVB 3) (eF (fLst aNil))))) (sOwn0 3 popO) sNil)
  (sRet (eN tupD (aCons (eVB 3) aNil)))))))
abbrev s_law_due_ : Stmt := top 10
abbrev n_law_due_ : List Str := ["members", "rest", "entries", "status", "words", "left", "due", "k", "amount", "entry"]
abbrev p_law_due_ : List Str := ["members", "rest", "entries", "status", "words"]
theorem sc_law_due_ : FnScope n_law_due_ p_law_due_ (defScope s_law_due_) := ⟨rfl, rfl, rfl, by decide +kernel, rfl, by decide +kernel, by decide +kernel⟩
def b_law_due_ (call : Fn → FD) : SS :=
  (sSeq (sIf (tOrF (tE (MP.e2 neD (eV 3) (eC (.int 1)))) (tE (MP.e2 eqD (MP.e2 modD (eN intD (aCons (eN lenD (aCons (eV 4) aNil)) aNil)) (eC (.int 2))) (eC (.int 1))))) (sRet (eTup (aCons (eF (fLc (iSeq (eV 2)) (tgName 9) tYesF (eTup (aCons (MP.e2 ixD (eV 0) (MP.e2 ixD (eV 9) (eC (.int 0)))) (aCons (MP.e2 ixD (eV 9) (eC (.int 1))) aNil))) [9])) (aCons (eV 1) aNil)))) sNil)
  (sSeq (sSet 5 (MP.e2 addD (eV 1) (eN sumD (aCons (eF (fLc (iSeq (eV 2)) (tgName 9) tYesF (MP.e2 ixD (eV 9) (eC (.int 1))) [9])) aNil))))
  (sSeq (sSetO 6 (fLst aNil))
  (sSeq (sFor (iRngN rng1Of (aCons (MP.e2 divD (eN lenD (aCons (eV 4) aNil)) (eC (.int 2))) aNil)) (tgName 7) (sIf (tE (MP.e2 ltD (MP.e2 ixD (eV 4) (MP.e2 mulD (eC (.int 2)) (eV 7))) (eN lenD (aCons (eV 0) aNil)))) (sSeq (sSet 8 (eN minD (aCons (MP.e2 ixD (eV 4) (MP.e2 addD (MP.e2 mulD (eC (.int 2)) (eV 7)) (eC (.int 1)))) (aCons (eV 5) aNil))))
  (sSeq (sOwn 6 (aCons (eTup (aCons (MP.e2 ixD (eV 0) (MP.e2 ixD (eV 4) (MP.e2 mulD (eC (.int 2)) (eV 7)))) (aCons (eV 8) aNil))) aNil) appO)
  (sSet 5 (MP.e2 subD (eV 5) (eV 8))))) sNil))
  (sFrz 6 (sRet (eTup (aCons (eV 6) (aCons (eV 5) aNil)))))))))
abbrev s_law : Stmt := top 11
abbrev n_law : List Str := ["script", "box", "many", "members", "rest", "entries", "pot", "words", "status", "flat", "entry", "told", "due", "left", "k", "name", "amount"]
abbrev p_law : List Str := ["script"]
theorem sc_law : FnScope n_law p_law (defScope s_law) := ⟨rfl, rfl, rfl, by decide +kernel, rfl, by decide +kernel, by decide +kernel⟩
def b_law (call : Fn → FD) : SS :=
  (sSeq (sSet 1 (eN (call .law_box_) (aCons (eV 0) (aCons (eC (.int 0)) aNil))))
  (sSeq (sSet 2 (MP.e2 ixD (eF (fLst (aCons (eC (.int 16)) (aCons (MP.e2 addD (eC (.int 1)) (eN (call .law_draw_) (aCons (eV 1) (aCons (eC (.int 16)) aNil)))) aNil)))) (eN (call .law_draw_) (aCons (eV 1) (aCons (eC (.int 2)) aNil)))))
  (sSeq (sSet 3 (eN tupD (aCons (eF (fLc (iRngN rng1Of (aCons (eV 2) aNil)) (tgName 14) tYesF (MP.e2 addD (eC (.str "member")) (eN strD (aCons (eV 14) aNil))) [14])) aNil)))
  (sSeq (sSet 4 (MP.e2 ixD (eF (fLst (aCons (eC (.int 0)) (aCons (eN (call .law_draw_) (aCons (eV 1) (aCons (eC (.int 1000)) aNil))) (aCons (eN (call .law_draw_) (aCons (eV 1) (aCons (MP.e2 powD (eC (.int 10)) (eC (.int 30))) aNil))) aNil))))) (eN (call .law_draw_) (aCons (eV 1) (aCons (eC (.int 3)) aNil)))))
  (sSeq (sSet 5 (eN (call .law_entries_) (aCons (eV 1) (aCons (eV 2) aNil))))
  (sSeq (sSet 6 (MP.e2 addD (eV 4) (eN sumD (aCons (eF (fLc (iSeq (eV 5)) (tgName 10) tYesF (MP.e2 ixD (eV 10) (eC (.int 1))) [10])) aNil))))
  (sSeq (sSet 7 (eN (call .law_words_) (aCons (eV 1) (aCons (eV 2) (aCons (eV 6) aNil)))))
  (sSeq (sSet 8 (MP.e2 ixD (eF (fLst (aCons (eC (.int 1)) (aCons (eC (.int 1)) (aCons (eC (.int 1)) (aCons (eC (.int 1)) (aCons (eC (.int 0)) (aCons (eC (.int 2)) aNil)))))))) (eN (call .law_draw_) (aCons (eV 1) (aCons (eC (.int 6)) aNil)))))
  (sSeq (sSetO 9 (fLst aNil))
  (sSeq (sFor (iSeq (eV 5)) (tgName 10) (sOwn 9 (aCons (eF (fN lstG (aCons (eV 10) aNil))) aNil) extO))
  (sSeq (sIf (tNotF (tTru (eN (call .law_same_) (aCons (eN (call .input_of) (aCons (eV 5) aNil)) (aCons (eN tupD (aCons (eVB 9) aNil)) aNil))))) (sRet (eC (.bl false))) sNil)
  (sSeq (sAsgG (tgTup [(tgName 12), (tgName 13)]) (eN (call .law_due_) (aCons (eV 3) (aCons (eV 4) (aCons (eV 5) (aCons (eV 8) (aCons (eV 7) aNil)))))))
  (sSeq (sSet 11 (eN (call .payments) (aCons (eV 3) (aCons (eV 4) (aCons (eV 5) (aCons (eV 8) (aCons (eV 7) aNil)))))))
  (sSeq (sIf (tNotF (tTru (eN (call .law_same_) (aCons (eV 11) (aCons (eTup (aCons (eN tupD (aCons (eV 12) aNil)) (aCons (eV 13) aNil))) aNil))))) (sRet (eC (.bl false))) sNil)
  (sRet (eN (call .law_same_) (aCons (MP.e2 addD (eN sumD (aCons (eF (fLc (iSeq (MP.e2 ixD (eV 11) (eC (.int 0)))) (tgTup [(tgName 15), (tgName 16)]) tYesF (eV 16) [15, 16])) aNil)) (MP.e2 ixD (eV 11) (eC (.int 1)))) (aCons (eV 6) aNil))))))))))))))))))
def nm : Fn → Str
  | .input_of => "input_of"
  | .payments => "payments"
  | .law_same_ => "_law_same"
  | .law_box_ => "_law_box"
  | .law_load_ => "_law_load"
  | .law_draw_ => "_law_draw"
  | .law_entries_ => "_law_entries"
  | .law_words_ => "_law_words"
  | .law_due_ => "_law_due"
  | .law => "law"
def st : Fn → Stmt
  | .input_of => s_input_of
  | .payments => s_payments
  | .law_same_ => s_law_same_
  | .law_box_ => s_law_box_
  | .law_load_ => s_law_load_
  | .law_draw_ => s_law_draw_
  | .law_entries_ => s_law_entries_
  | .law_words_ => s_law_words_
  | .law_due_ => s_law_due_
  | .law => s_law
def ps : Fn → List Str
  | .input_of => p_input_of
  | .payments => p_payments
  | .law_same_ => p_law_same_
  | .law_box_ => p_law_box_
  | .law_load_ => p_law_load_
  | .law_draw_ => p_law_draw_
  | .law_entries_ => p_law_entries_
  | .law_words_ => p_law_words_
  | .law_due_ => p_law_due_
  | .law => p_law
def sem : Nat → Fn → FD
  | 0, _ => fun _ _ => .stuck
  | n + 1, g => match g with
    | .input_of => runF 3 (b_input_of (sem n))
    | .payments => runF 10 (b_payments (sem n))
    | .law_same_ => runF 4 (b_law_same_ (sem n))
    | .law_box_ => runF 2 (b_law_box_ (sem n))
    | .law_load_ => runF 6 (b_law_load_ (sem n))
    | .law_draw_ => runF 3 (b_law_draw_ (sem n))
    | .law_entries_ => runF 5 (b_law_entries_ (sem n))
    | .law_words_ => runF 6 (b_law_words_ (sem n))
    | .law_due_ => runF 10 (b_law_due_ (sem n))
    | .law => runF 17 (b_law (sem n))
structure Txt (K : PySem.W.Frag) (mg : Str → Option Value) (ad : Fn → Addr) (fv : Fn → FuncData) : Prop where
  fn : ∀ g, Fun K (nm g) (nm g) (st g) (ad g) (fv g)
  mgf : ∀ g, mg (nm g) = some (.ref (ad g))
  bd : ∀ g, Binds K (fv g) (ps g) []
  b_all : mg "all" = none
  b_bool : mg "bool" = none
  b_dict : mg "dict" = none
  b_int : mg "int" = none
  b_isinstance : mg "isinstance" = none
  b_len : mg "len" = none
  b_list : mg "list" = none
  b_min : mg "min" = none
  b_range : mg "range" = none
  b_str : mg "str" = none
  b_sum : mg "sum" = none
  b_tuple : mg "tuple" = none
section
variable {cl : Nat → Value} {P : Program} {w : World} {K : PySem.W.Frag} {mg : Str → Option Value} {base : Heap} {ad : Fn → Addr} {fv : Fn → FuncData} {n : Nat}
theorem ok_input_of (T : Txt K mg ad fv) (ih : ∀ g, FnOk P w K mg base (L2.CX P w) n (ad g) (fv g) (ps g) (spF K cl (ps g).length (sem n g))) (cdv : Value) (A : Around) (outer : List PySem.Env) (s : Shared) (H : Hp) (E : XK)
    (hr : Room n (A.deeper (envOfC "input_of" (defScope s_input_of) s.heap.objs.size (ad .input_of) cdv))) : OkSs (mxOf cl P w K mg base n_input_of "input_of" (defScope s_input_of) (ad .input_of) cdv A outer s H E) (defBody s_input_of) (b_input_of (sem n)) := by
  have tk : Takes (mxOf cl P w K mg base n_input_of "input_of" (defScope s_input_of) (ad .input_of) cdv A outer s H E).X (fun c d _ H' => E c d H') := takes_of rfl rfl rfl rfl
  exact (okOneS (okRet (okN tupD_ok (fun _ pa => pe_callTy call_tuple_of (by rfl) T.b_tuple bt_tuple pa) (okABCons (okE_b (okE_F (okLc2 (own:=[("entry",1),("word",2)]) (vs1 := [2]) rfl sc_input_of.nd (okISeq (okV 0 (pv 0))) (blkOk_by (N := n_input_of) (sc := defScope s_input_of) (by decide +kernel)) (by decide) (by decide) (by decide) (fun _ _ _ _ _ => (okGName 1 (pg_name sc_input_of.nd rfl (by first | exact Or.inl rfl | exact Or.inr rfl)))) (fun _ _ _ _ _ => okIfsNil) (fun _ _ _ _ _ => (okISeq (okV 1 (pv 1)))) (fun _ _ _ _ _ => (okGName 2 (pg_name sc_input_of.nd rfl (by first | exact Or.inl rfl | exact Or.inr rfl)))) (fun _ _ _ _ _ => okIfsNil) (fun _ _ _ _ _ => (okV 2 (pv 2)))))) okABNil))))
theorem ok_payments (T : Txt K mg ad fv) (ih : ∀ g, FnOk P w K mg base (L2.CX P w) n (ad g) (fv g) (ps g) (spF K cl (ps g).length (sem n g))) (cdv : Value) (A : Around) (outer : List PySem.Env) (s : Shared) (H : Hp) (E : XK)
    (hr : Room n (A.deeper (envOfC "payments" (defScope s_payments) s.heap.objs.size (ad .payments) cdv))) : OkSs (mxOf cl P w K mg base n_payments "payments" (defScope s_payments) (ad .payments) cdv A outer s H E) (defBody s_payments) (b_payments (sem n)) := by
  have tk : Takes (mxOf cl P w K mg base n_payments "payments" (defScope s_payments) (ad .payments) cdv A outer s H E).X (fun c d _ H' => E c d H') := takes_of rfl rfl rfl rfl
  exact (okSeq (okIfS (okW (okOr (okTCmp (op_neA hr.units) neD_ok (okE_b (okV 3 (pv 3))) (okE_b okInt) (nomark _)) (okOr1 (okTCmp (op_eqA hr.units) eqD_ok (okE_b (okBin op_mod modD_ok (okE_b (okN lenD_ok (fun _ pa => pe_callB cr_lenA (by rfl) T.b_len bt_len pa) (okABCons (okE_b (okV 4 (pv 4))) okABNil))) (okE_b okInt))) (okE_b okInt) (nomark _))))) (okOneS (okRet (okTup (okACons (okN tupD_ok (fun _ pa => pe_callTy call_tuple_of (by rfl) T.b_tuple bt_tuple pa) (okABCons (okE_b (okE_F (okLc (own:=[("entry",9)]) rfl sc_payments.nd (okISeq (okV 2 (pv 2))) (blkOk_by (N := n_payments) (sc := defScope s_payments) (by decide +kernel)) (by decide) (fun _ _ _ _ _ => (okGName 9 (pg_name sc_payments.nd rfl (by first | exact Or.inl rfl | exact Or.inr rfl)))) (fun _ _ _ _ _ => okIfsNil) (fun _ _ _ _ _ => (okTup (okACons (okIx ix_seq ixD_ok (okE_b (okV 0 (pv 0))) (okE_b (okIx ix_seq ixD_ok (okE_b (okV 9 (pv 9))) (okE_b okInt) (fun _ _ => rfl))) (fun _ _ => rfl)) (okACons (okIx ix_seq ixD_ok (okE_b (okV 9 (pv 9))) (okE_b okInt) (fun _ _ => rfl)) okANil))))))) okABNil)) (okACons (okV 1 (pv 1)) okANil))))) okNil)
    (okSeq (okSet 5 (okBin op_addA addD_ok (okE_b (okV 1 (pv 1))) (okE_b (okN sumD_ok (fun _ pa => pe_callB (cr_sum rfl) (by rfl) T.b_sum bt_sum pa) (okABCons (okE_b (okE_F (okLc (own:=[("entry",9)]) rfl sc_payments.nd (okISeq (okV 2 (pv 2))) (blkOk_by (N := n_payments) (sc := defScope s_payments) (by decide +kernel)) (by decide) (fun _ _ _ _ _ => (okGName 9 (pg_name sc_payments.nd rfl (by first | exact Or.inl rfl | exact Or.inr rfl)))) (fun _ _ _ _ _ => okIfsNil) (fun _ _ _ _ _ => (okIx ix_seq ixD_ok (okE_b (okV 9 (pv 9))) (okE_b okInt) (fun _ _ => rfl)))))) okABNil)))) fun _ pe => ps_set sc_payments.nd rfl (by first | exact Or.inl rfl | exact Or.inr rfl) pe)
    (okSeq (okSetOF 6 (okFLst okANil) fun _ pe => ps_set sc_payments.nd rfl (by first | exact Or.inl rfl | exact Or.inr rfl) pe)
    (okSeq (okFor (passes_of rfl) rfl (okRng3 (by rfl) T.b_range (okABCons (okE_b okInt) (okABCons (okE_b (okN lenD_ok (fun _ pa => pe_callB cr_lenA (by rfl) T.b_len bt_len pa) (okABCons (okE_b (okV 4 (pv 4))) okABNil))) (okABCons (okE_b okInt) okABNil)))) (okGName 7 (pg_name sc_payments.nd rfl (by first | exact Or.inl rfl | exact Or.inr rfl))) (okOneS (okIfS (okTCmp op_lt ltD_ok (okE_b (okIx ix_seq ixD_ok (okE_b (okV 4 (pv 4))) (okE_b (okV 7 (pv 7))) (fun _ _ => rfl))) (okE_b (okN lenD_ok (fun _ pa => pe_callB cr_lenA (by rfl) T.b_len bt_len pa) (okABCons (okE_b (okV 0 (pv 0))) okABNil))) (nomark _)) (okSeq (okSet 8 (okN minD_ok (fun _ pa => pe_callB (call_min2 rfl) (by rfl) T.b_min bt_min pa) (okABCons (okE_b (okIx ix_seq ixD_ok (okE_b (okV 4 (pv 4))) (okE_b (okBin op_addA addD_ok (okE_b (okV 7 (pv 7))) (okE_b okInt))) (fun _ _ => rfl))) (okABCons (okE_b (okV 5 (pv 5))) okABNil))) fun _ pe => ps_set sc_payments.nd rfl (by first | exact Or.inl rfl | exact Or.inr rfl) pe)
    (okSeq (okOwn 6 appO_ok (fun _ pa => ps_expr (pe_bm PySem.F.plainAttrs_list PySem.F.slot_list_append PySem.F.type_list_append mt_append (pv 6) pa)) (okACons (okTup (okACons (okIx ix_seq ixD_ok (okE_b (okV 0 (pv 0))) (okE_b (okIx ix_seq ixD_ok (okE_b (okV 4 (pv 4))) (okE_b (okV 7 (pv 7))) (fun _ _ => rfl))) (fun _ _ => rfl)) (okACons (okV 8 (pv 8)) okANil))) okANil))
    (okOneS (okSet 5 (okBin op_sub subD_ok (okE_b (okV 5 (pv 5))) (okE_b (okV 8 (pv 8)))) fun _ pe => ps_set sc_payments.nd rfl (by first | exact Or.inl rfl | exact Or.inr rfl) pe)))) okNil)))
    (okOneS (okRet (okTup (okACons (okN tupD_ok (fun _ pa => pe_callTy call_tuple_of (by rfl) T.b_tuple bt_tuple pa) (okABCons (okVB 6 (pv 6)) okABNil)) (okACons (okV 5 (pv 5)) okANil)))))))))
theorem ok_law_same_ (T : Txt K mg ad fv) (ih : ∀ g, FnOk P w K mg base (L2.CX P w) n (ad g) (fv g) (ps g) (spF K cl (ps g).length (sem n g))) (cdv : Value) (A : Around) (outer : List PySem.Env) (s : Shared) (H : Hp) (E : XK)
    (hr : Room n (A.deeper (envOfC "_law_same" (defScope s_law_same_) s.heap.objs.size (ad .law_same_) cdv))) : OkSs (mxOf cl P w K mg base n_law_same_ "_law_same" (defScope s_law_same_) (ad .law_same_) cdv A outer s H E) (defBody s_law_same_) (b_law_same_ (sem n)) := by
  have tk : Takes (mxOf cl P w K mg base n_law_same_ "_law_same" (defScope s_law_same_) (ad .law_same_) cdv A outer s H E).X (fun c d _ H' => E c d H') := takes_of rfl rfl rfl rfl
  exact (okSeq (okIfS (okW (okOr (okW (okAnd (okTru (okE_b (okIsi .tuple (fun _ pa => pe_callB call_isi (by rfl) T.b_isinstance bt_isi pa) (okE_b (okV 0 (pv 0))) (pe_bltn (by rfl) T.b_tuple bt_tuple rfl)))) (okAnd1 (okTru (okE_b (okIsi .tuple (fun _ pa => pe_callB call_isi (by rfl) T.b_isinstance bt_isi pa) (okE_b (okV 1 (pv 1))) (pe_bltn (by rfl) T.b_tuple bt_tuple rfl))))))) (okOr1 (okW (okAnd (okTru (okE_b (okIsi .list (fun _ pa => pe_callB call_isi (by rfl) T.b_isinstance bt_isi pa) (okE_b (okV 0 (pv 0))) (pe_bltn (by rfl) T.b_list bt_list rfl)))) (okAnd1 (okTru (okE_b (okIsi .list (fun _ pa => pe_callB call_isi (by rfl) T.b_isinstance bt_isi pa) (okE_b (okV 1 (pv 1))) (pe_bltn (by rfl) T.b_list bt_list rfl)))))))))) (okOneS (okRet (okAndV (okCmp (op_eqA hr.units) eqD_ok (okE_b (okN lenD_ok (fun _ pa => pe_callB cr_lenA (by rfl) T.b_len bt_len pa) (okABCons (okE_b (okV 0 (pv 0))) okABNil))) (okE_b (okN lenD_ok (fun _ pa => pe_callB cr_lenA (by rfl) T.b_len bt_len pa) (okABCons (okE_b (okV 1 (pv 1))) okABNil))) (nomark _)) (okOne (okN allD_ok (fun _ pa => pe_callB (cr_all rfl) (by rfl) T.b_all bt_all pa) (okABCons (okE_b (okE_F (okLc (own:=[("k",2)]) rfl sc_law_same_.nd (okRng1 (by rfl) T.b_range (okABCons (okE_b (okN lenD_ok (fun _ pa => pe_callB cr_lenA (by rfl) T.b_len bt_len pa) (okABCons (okE_b (okV 0 (pv 0))) okABNil))) okABNil)) (blkOk_by (N := n_law_same_) (sc := defScope s_law_same_) (by decide +kernel)) (by decide) (fun _ _ _ _ _ => (okGName 2 (pg_name sc_law_same_.nd rfl (by first | exact Or.inl rfl | exact Or.inr rfl)))) (fun _ _ _ _ _ => okIfsNil) (fun _ _ _ _ _ => (okCall (ih .law_same_) hr (by rfl) (T.mgf .law_same_) (T.fn .law_same_).kp (T.bd .law_same_) takes0 (okACons (okIx ix_seq ixD_ok (okE_b (okV 0 (pv 0))) (okE_b (okV 2 (pv 2))) (fun _ _ => rfl)) (okACons (okIx ix_seq ixD_ok (okE_b (okV 1 (pv 1))) (okE_b (okV 2 (pv 2))) (fun _ _ => rfl)) okANil)) (aCons_len (aCons_len aNil_len))))))) okABNil)))))) okNil)
    (okSeq (okIfS (okW (okAnd (okTru (okE_b (okIsi .dict (fun _ pa => pe_callB call_isi (by rfl) T.b_isinstance bt_isi pa) (okE_b (okV 0 (pv 0))) (pe_bltn (by rfl) T.b_dict bt_dict rfl)))) (okAnd1 (okTru (okE_b (okIsi .dict (fun _ pa => pe_callB call_isi (by rfl) T.b_isinstance bt_isi pa) (okE_b (okV 1 (pv 1))) (pe_bltn (by rfl) T.b_dict bt_dict rfl))))))) (okOneS (okRet (okAndV (okCmp (op_eqA hr.units) eqD_ok (okE_b (okN lenD_ok (fun _ pa => pe_callB cr_lenA (by rfl) T.b_len bt_len pa) (okABCons (okE_b (okV 0 (pv 0))) okABNil))) (okE_b (okN lenD_ok (fun _ pa => pe_callB cr_lenA (by rfl) T.b_len bt_len pa) (okABCons (okE_b (okV 1 (pv 1))) okABNil))) (nomark _)) (okOne (okN allD_ok (fun _ pa => pe_callB (cr_all rfl) (by rfl) T.b_all bt_all pa) (okABCons (okE_b (okE_F (okLc (own:=[("key",3)]) rfl sc_law_same_.nd (okISeq (okV 0 (pv 0))) (blkOk_by (N := n_law_same_) (sc := defScope s_law_same_) (by decide +kernel)) (by decide) (fun _ _ _ _ _ => (okGName 3 (pg_name sc_law_same_.nd rfl (by first | exact Or.inl rfl | exact Or.inr rfl)))) (fun _ _ _ _ _ => okIfsNil) (fun _ _ _ _ _ => (okAndV (okCmp (op_inA (u65 hr)) inD_ok (okE_b (okV 3 (pv 3))) (okE_b (okV 1 (pv 1))) (by rfl)) (okOne (okCall (ih .law_same_) hr (by rfl) (T.mgf .law_same_) (T.fn .law_same_).kp (T.bd .law_same_) takes0 (okACons (okIx ix_seq ixD_ok (okE_b (okV 0 (pv 0))) (okE_b (okV 3 (pv 3))) (fun _ _ => rfl)) (okACons (okIx ix_seq ixD_ok (okE_b (okV 1 (pv 1))) (okE_b (okV 3 (pv 3))) (fun _ _ => rfl)) okANil)) (aCons_len (aCons_len aNil_len))))))))) okABNil)))))) okNil)
    (okSeq (okIfS (okW (okOr (okTru (okE_b (okIsi .bool (fun _ pa => pe_callB call_isi (by rfl) T.b_isinstance bt_isi pa) (okE_b (okV 0 (pv 0))) (pe_bltn (by rfl) T.b_bool bt_bool rfl)))) (okOr1 (okTru (okE_b (okIsi .bool (fun _ pa => pe_callB call_isi (by rfl) T.b_isinstance bt_isi pa) (okE_b (okV 1 (pv 1))) (pe_bltn (by rfl) T.b_bool bt_bool rfl))))))) (okOneS (okRet (okAndV (okIsi .bool (fun _ pa => pe_callB call_isi (by rfl) T.b_isinstance bt_isi pa) (okE_b (okV 0 (pv 0))) (pe_bltn (by rfl) T.b_bool bt_bool rfl)) (okAndV (okIsi .bool (fun _ pa => pe_callB call_isi (by rfl) T.b_isinstance bt_isi pa) (okE_b (okV 1 (pv 1))) (pe_bltn (by rfl) T.b_bool bt_bool rfl)) (okOne (okCmp (op_eqA hr.units) eqD_ok (okE_b (okV 0 (pv 0))) (okE_b (okV 1 (pv 1))) (nomark _))))))) okNil)
    (okSeq (okIfS (okW (okOr (okW (okAnd (okTru (okE_b (okIsi .int (fun _ pa => pe_callB call_isi (by rfl) T.b_isinstance bt_isi pa) (okE_b (okV 0 (pv 0))) (pe_bltn (by rfl) T.b_int bt_int rfl)))) (okAnd1 (okTru (okE_b (okIsi .int (fun _ pa => pe_callB call_isi (by rfl) T.b_isinstance bt_isi pa) (okE_b (okV 1 (pv 1))) (pe_bltn (by rfl) T.b_int bt_int rfl))))))) (okOr1 (okW (okAnd (okTru (okE_b (okIsi .str (fun _ pa => pe_callB call_isi (by rfl) T.b_isinstance bt_isi pa) (okE_b (okV 0 (pv 0))) (pe_bltn (by rfl) T.b_str bt_str rfl)))) (okAnd1 (okTru (okE_b (okIsi .str (fun _ pa => pe_callB call_isi (by rfl) T.b_isinstance bt_isi pa) (okE_b (okV 1 (pv 1))) (pe_bltn (by rfl) T.b_str bt_str rfl)))))))))) (okOneS (okRet (okCmp (op_eqA hr.units) eqD_ok (okE_b (okV 0 (pv 0))) (okE_b (okV 1 (pv 1))) (nomark _)))) okNil)
    (okOneS (okRet (okAndV (okCmp op_isN isNonD_ok (okE_b (okV 0 (pv 0))) (okE_b okNon) (nomark _)) (okOne (okCmp op_isN isNonD_ok (okE_b (okV 1 (pv 1))) (okE_b okNon) (nomark _))))))))))
theorem ok_law_box_ (T : Txt K mg ad fv) (ih : ∀ g, FnOk P w K mg base (L2.CX P w) n (ad g) (fv g) (ps g) (spF K cl (ps g).length (sem n g))) (cdv : Value) (A : Around) (outer : List PySem.Env) (s : Shared) (H : Hp) (E : XK)
    (hr : Room n (A.deeper (envOfC "_law_box" (defScope s_law_box_) s.heap.objs.size (ad .law_box_) cdv))) : OkSs (mxOf cl P w K mg base n_law_box_ "_law_box" (defScope s_law_box_) (ad .law_box_) cdv A outer s H E) (defBody s_law_box_) (b_law_box_ (sem n)) := by
  have tk : Takes (mxOf cl P w K mg base n_law_box_ "_law_box" (defScope s_law_box_) (ad .law_box_) cdv A outer s H E).X (fun c d _ H' => E c d H') := takes_of rfl rfl rfl rfl
  exact (okOneS (okRet (okRef (okFLst (okACons (okRef (okFN lstG_ok lstG_nx (tf := tCB _) (fun _ pa => pe_callTy call_list_of (by rfl) T.b_list bt_list pa) (fun _ _ _ _ h => h) (okABCons (okE_b (okV 0 (pv 0))) okABNil))) (okACons okInt (okACons (okBin op_addA addD_ok (okE_b okInt) (okE_b (okN lenD_ok (fun _ pa => pe_callB cr_lenA (by rfl) T.b_len bt_len pa) (okABCons (okE_b (okV 0 (pv 0))) okABNil)))) (okACons (okV 1 (pv 1)) okANil))))))))
theorem ok_law_load_ (T : Txt K mg ad fv) (ih : ∀ g, FnOk P w K mg base (L2.CX P w) n (ad g) (fv g) (ps g) (spF K cl (ps g).length (sem n g))) (cdv : Value) (A : Around) (outer : List PySem.Env) (s : Shared) (H : Hp) (E : XK)
    (hr : Room n (A.deeper (envOfC "_law_load" (defScope s_law_load_) s.heap.objs.size (ad .law_load_) cdv))) : OkSs (mxOf cl P w K mg base n_law_load_ "_law_load" (defScope s_law_load_) (ad .law_load_) cdv A outer s H E) (defBody s_law_load_) (b_law_load_ (sem n)) := by
  have tk : Takes (mxOf cl P w K mg base n_law_load_ "_law_load" (defScope s_law_load_) (ad .law_load_) cdv A outer s H E).X (fun c d _ H' => E c d H') := takes_of rfl rfl rfl rfl
  exact (okSeq (okSet 1 (okIx ix_seq ixD_ok (okE_b (okV 0 (pv 0))) (okE_b okInt) (fun _ _ => rfl)) fun _ pe => ps_set sc_law_load_.nd rfl (by first | exact Or.inl rfl | exact Or.inr rfl) pe)
    (okSeq (okIfS (okTCmp op_gt gtD_ok (okE_b (okN lenD_ok (fun _ pa => pe_callB cr_lenA (by rfl) T.b_len bt_len pa) (okABCons (okE_b (okV 1 (pv 1))) okABNil))) (okE_b okInt) (nomark _)) (okSeq (okSet 4 (okN intD_ok (fun _ pa => pe_callTy call_int1 (by rfl) T.b_int bt_int pa) (okABCons (okE_b (okM popAtR_ok (fun _ _ po pa => pe_bm PySem.F.plainAttrs_list PySem.F.slot_list_pop PySem.F.type_list_pop mt_popAt po pa) (okE_b (okV 1 (pv 1))) (okACons okInt okANil))) okABNil)) fun _ pe => ps_set sc_law_load_.nd rfl (by first | exact Or.inl rfl | exact Or.inr rfl) pe)
    (okSeq (okSet 5 (okIf (okTCmp op_ge geD_ok (okE_b (okV 4 (pv 4))) (okE_b okInt) (nomark _)) (okBin op_mulA mulD_ok (okE_b okInt) (okE_b (okV 4 (pv 4)))) (okBin op_sub subD_ok (okE_b (okBin op_mulA mulD_ok (okE_b (okUn un_neg negD_ok (okE_b okInt))) (okE_b (okV 4 (pv 4))))) (okE_b okInt))) fun _ pe => ps_set sc_law_load_.nd rfl (by first | exact Or.inl rfl | exact Or.inr rfl) pe)
    (okSeq (okIfS (okTCmp op_ge geD_ok (okE_b (okV 5 (pv 5))) (okE_b okInt) (nomark _)) (okOneS (okRet (okV 5 (pv 5)))) okNil)
    (okOneS (okPutIx (fun _ _ _ hv ho hi => ps_asg hv (pg_sub ho hi set_list)) (okBin op_mod modD_ok (okE_b (okN intD_ok (fun _ pa => pe_callTy call_int1 (by rfl) T.b_int bt_int pa) (okABCons (okE_b (okBin op_addA addD_ok (okE_b (okBin op_addA addD_ok (okE_b (okBin op_mulA mulD_ok (okE_b (okIx ix_seq ixD_ok (okE_b (okV 0 (pv 0))) (okE_b okInt) (fun _ _ => rfl))) (okE_b okInt))) (okE_b (okBin op_mulA mulD_ok (okE_b (okV 5 (pv 5))) (okE_b okInt))))) (okE_b okInt))) okABNil))) (okE_b okInt)) (okV 0 (pv 0)) okInt))))) okNil)
    (okSeq (okSet 2 (okBin op_mod modD_ok (okE_b (okN intD_ok (fun _ pa => pe_callTy call_int1 (by rfl) T.b_int bt_int pa) (okABCons (okE_b (okBin op_addA addD_ok (okE_b (okBin op_mulA mulD_ok (okE_b (okIx ix_seq ixD_ok (okE_b (okV 0 (pv 0))) (okE_b okInt) (fun _ _ => rfl))) (okE_b okInt))) (okE_b okInt))) okABNil))) (okE_b okInt)) fun _ pe => ps_set sc_law_load_.nd rfl (by first | exact Or.inl rfl | exact Or.inr rfl) pe)
    (okSeq (okSet 3 (okBin op_mod modD_ok (okE_b (okN intD_ok (fun _ pa => pe_callTy call_int1 (by rfl) T.b_int bt_int pa) (okABCons (okE_b (okBin op_addA addD_ok (okE_b (okBin op_mulA mulD_ok (okE_b (okV 2 (pv 2))) (okE_b okInt))) (okE_b okInt))) okABNil))) (okE_b okInt)) fun _ pe => ps_set sc_law_load_.nd rfl (by first | exact Or.inl rfl | exact Or.inr rfl) pe)
    (okSeq (okPutIx (fun _ _ _ hv ho hi => ps_asg hv (pg_sub ho hi set_list)) (okBin op_mod modD_ok (okE_b (okN intD_ok (fun _ pa => pe_callTy call_int1 (by rfl) T.b_int bt_int pa) (okABCons (okE_b (okBin op_addA addD_ok (okE_b (okBin op_mulA mulD_ok (okE_b (okV 3 (pv 3))) (okE_b okInt))) (okE_b okInt))) okABNil))) (okE_b okInt)) (okV 0 (pv 0)) okInt)
    (okOneS (okRet (okBin op_addA addD_ok (okE_b (okBin op_addA addD_ok (okE_b (okBin op_mulA mulD_ok (okE_b (okV 2 (pv 2))) (okE_b okInt))) (okE_b (okBin op_mulA mulD_ok (okE_b (okV 3 (pv 3))) (okE_b okInt))))) (okE_b (okIx ix_seq ixD_ok (okE_b (okV 0 (pv 0))) (okE_b okInt) (fun _ _ => rfl)))))))))))
theorem ok_law_draw_ (T : Txt K mg ad fv) (ih : ∀ g, FnOk P w K mg base (L2.CX P w) n (ad g) (fv g) (ps g) (spF K cl (ps g).length (sem n g))) (cdv : Value) (A : Around) (outer : List PySem.Env) (s : Shared) (H : Hp) (E : XK)
    (hr : Room n (A.deeper (envOfC "_law_draw" (defScope s_law_draw_) s.heap.objs.size (ad .law_draw_) cdv))) : OkSs (mxOf cl P w K mg base n_law_draw_ "_law_draw" (defScope s_law_draw_) (ad .law_draw_) cdv A outer s H E) (defBody s_law_draw_) (b_law_draw_ (sem n)) := by
  have tk : Takes (mxOf cl P w K mg base n_law_draw_ "_law_draw" (defScope s_law_draw_) (ad .law_draw_) cdv A outer s H E).X (fun c d _ H' => E c d H') := takes_of rfl rfl rfl rfl
  exact (okSeq (okIfS (okTCmp op_lt ltD_ok (okE_b (okIx ix_seq ixD_ok (okE_b (okV 0 (pv 0))) (okE_b okInt) (fun _ _ => rfl))) (okE_b (okV 1 (pv 1))) (nomark _)) (okOneS (okPutIx (fun _ _ _ hv ho hi => ps_asg hv (pg_sub ho hi set_list)) (okCall (ih .law_load_) hr (by rfl) (T.mgf .law_load_) (T.fn .law_load_).kp (T.bd .law_load_) tk (okACons (okV 0 (pv 0)) okANil) (aCons_len aNil_len)) (okV 0 (pv 0)) okInt)) okNil)
    (okSeq (okSet 2 (okBin op_mod modD_ok (okE_b (okN intD_ok (fun _ pa => pe_callTy call_int1 (by rfl) T.b_int bt_int pa) (okABCons (okE_b (okIx ix_seq ixD_ok (okE_b (okV 0 (pv 0))) (okE_b okInt) (fun _ _ => rfl))) okABNil))) (okE_b (okV 1 (pv 1)))) fun _ pe => ps_set sc_law_draw_.nd rfl (by first | exact Or.inl rfl | exact Or.inr rfl) pe)
    (okSeq (okPutIx (fun _ _ _ hv ho hi => ps_asg hv (pg_sub ho hi set_list)) (okBin op_fdivW divD_ok (okE_b (okIx ix_seq ixD_ok (okE_b (okV 0 (pv 0))) (okE_b okInt) (fun _ _ => rfl))) (okE_b (okV 1 (pv 1)))) (okV 0 (pv 0)) okInt)
    (okOneS (okRet (okV 2 (pv 2)))))))
theorem ok_law_entries_ (T : Txt K mg ad fv) (ih : ∀ g, FnOk P w K mg base (L2.CX P w) n (ad g) (fv g) (ps g) (spF K cl (ps g).length (sem n g))) (cdv : Value) (A : Around) (outer : List PySem.Env) (s : Shared) (H : Hp) (E : XK)
    (hr : Room n (A.deeper (envOfC "_law_entries" (defScope s_law_entries_) s.heap.objs.size (ad .law_entries_) cdv))) : OkSs (mxOf cl P w K mg base n_law_entries_ "_law_entries" (defScope s_law_entries_) (ad .law_entries_) cdv A outer s H E) (defBody s_law_entries_) (b_law_entries_ (sem n)) := by
  have tk : Takes (mxOf cl P w K mg base n_law_entries_ "_law_entries" (defScope s_law_entries_) (ad .law_entries_) cdv A outer s H E).X (fun c d _ H' => E c d H') := takes_of rfl rfl rfl rfl
  exact (okSeq (okSetOF 2 (okFLst okANil) fun _ pe => ps_set sc_law_entries_.nd rfl (by first | exact Or.inl rfl | exact Or.inr rfl) pe)
    (okSeq (okFor (passes_of rfl) rfl (okRng1 (by rfl) T.b_range (okABCons (okE_b (okIx ix_seq ixD_ok (okE_b (okE_F (okFLst (okACons okInt (okACons (okCall (ih .law_draw_) hr (by rfl) (T.mgf .law_draw_) (T.fn .law_draw_).kp (T.bd .law_draw_) tk (okACons (okV 0 (pv 0)) (okACons okInt okANil)) (aCons_len (aCons_len aNil_len))) okANil))))) (okE_b (okCall (ih .law_draw_) hr (by rfl) (T.mgf .law_draw_) (T.fn .law_draw_).kp (T.bd .law_draw_) tk (okACons (okV 0 (pv 0)) (okACons okInt okANil)) (aCons_len (aCons_len aNil_len)))) (fun _ _ => rfl))) okABNil)) (okGName 3 (pg_name sc_law_entries_.nd rfl (by first | exact Or.inl rfl | exact Or.inr rfl))) (okSeq (okSet 4 (okIx ix_seq ixD_ok (okE_b (okE_F (okFLst (okACons okInt (okACons okInt (okACons (okBin op_addA addD_ok (okE_b okInt) (okE_b (okCall (ih .law_draw_) hr (by rfl) (T.mgf .law_draw_) (T.fn .law_draw_).kp (T.bd .law_draw_) tk (okACons (okV 0 (pv 0)) (okACons okInt okANil)) (aCons_len (aCons_len aNil_len))))) okANil)))))) (okE_b (okCall (ih .law_draw_) hr (by rfl) (T.mgf .law_draw_) (T.fn .law_draw_).kp (T.bd .law_draw_) tk (okACons (okV 0 (pv 0)) (okACons okInt okANil)) (aCons_len (aCons_len aNil_len)))) (fun _ _ => rfl)) fun _ pe => ps_set sc_law_entries_.nd rfl (by first | exact Or.inl rfl | exact Or.inr rfl) pe)
    (okOneS (okOwn 2 appO_ok (fun _ pa => ps_expr (pe_bm PySem.F.plainAttrs_list PySem.F.slot_list_append PySem.F.type_list_append mt_append (pv 2) pa)) (okACons (okTup (okACons (okCall (ih .law_draw_) hr (by rfl) (T.mgf .law_draw_) (T.fn .law_draw_).kp (T.bd .law_draw_) tk (okACons (okV 0 (pv 0)) (okACons (okV 1 (pv 1)) okANil)) (aCons_len (aCons_len aNil_len))) (okACons (okV 4 (pv 4)) (okACons (okIx ix_seq ixD_ok (okE_b (okE_F (okFLst (okACons okInt (okACons okInt (okACons (okCall (ih .law_draw_) hr (by rfl) (T.mgf .law_draw_) (T.fn .law_draw_).kp (T.bd .law_draw_) tk (okACons (okV 0 (pv 0)) (okACons okInt okANil)) (aCons_len (aCons_len aNil_len))) okANil)))))) (okE_b (okCall (ih .law_draw_) hr (by rfl) (T.mgf .law_draw_) (T.fn .law_draw_).kp (T.bd .law_draw_) tk (okACons (okV 0 (pv 0)) (okACons okInt okANil)) (aCons_len (aCons_len aNil_len)))) (fun _ _ => rfl)) okANil)))) okANil)))))
    (okOneS (okRet (okN tupD_ok (fun _ pa => pe_callTy call_tuple_of (by rfl) T.b_tuple bt_tuple pa) (okABCons (okVB 2 (pv 2)) okABNil))))))
theorem ok_law_words_ (T : Txt K mg ad fv) (ih : ∀ g, FnOk P w K mg base (L2.CX P w) n (ad g) (fv g) (ps g) (spF K cl (ps g).length (sem n g))) (cdv : Value) (A : Around) (outer : List PySem.Env) (s : Shared) (H : Hp) (E : XK)
    (hr : Room n (A.deeper (envOfC "_law_words" (defScope s_law_words_) s.heap.objs.size (ad .law_words_) cdv))) : OkSs (mxOf cl P w K mg base n_law_words_ "_law_words" (defScope s_law_words_) (ad .law_words_) cdv A outer s H E) (defBody s_law_words_) (b_law_words_ (sem n)) := by
  have tk : Takes (mxOf cl P w K mg base n_law_words_ "_law_words" (defScope s_law_words_) (ad .law_words_) cdv A outer s H E).X (fun c d _ H' => E c d H') := takes_of rfl rfl rfl rfl
  exact (okSeq (okSetOF 3 (okFLst okANil) fun _ pe => ps_set sc_law_words_.nd rfl (by first | exact Or.inl rfl | exact Or.inr rfl) pe)
    (okSeq (okSet 4 (okIx ix_seq ixD_ok (okE_b (okE_F (okFLst (okACons okInt (okACons okInt (okACons okInt okANil)))))) (okE_b (okCall (ih .law_draw_) hr (by rfl) (T.mgf .law_draw_) (T.fn .law_draw_).kp (T.bd .law_draw_) tk (okACons (okV 0 (pv 0)) (okACons okInt okANil)) (aCons_len (aCons_len aNil_len)))) (fun _ _ => rfl)) fun _ pe => ps_set sc_law_words_.nd rfl (by first | exact Or.inl rfl | exact Or.inr rfl) pe)
    (okSeq (okFor (passes_of rfl) rfl (okRng1 (by rfl) T.b_range (okABCons (okE_b (okIx ix_seq ixD_ok (okE_b (okE_F (okFLst (okACons okInt (okACons (okCall (ih .law_draw_) hr (by rfl) (T.mgf .law_draw_) (T.fn .law_draw_).kp (T.bd .law_draw_) tk (okACons (okV 0 (pv 0)) (okACons okInt okANil)) (aCons_len (aCons_len aNil_len))) okANil))))) (okE_b (okCall (ih .law_draw_) hr (by rfl) (T.mgf .law_draw_) (T.fn .law_draw_).kp (T.bd .law_draw_) tk (okACons (okV 0 (pv 0)) (okACons okInt okANil)) (aCons_len (aCons_len aNil_len)))) (fun _ _ => rfl))) okABNil)) (okGName 5 (pg_name sc_law_words_.nd rfl (by first | exact Or.inl rfl | exact Or.inr rfl))) (okSeq (okOwn 3 appO_ok (fun _ pa => ps_expr (pe_bm PySem.F.plainAttrs_list PySem.F.slot_list_append PySem.F.type_list_append mt_append (pv 3) pa)) (okACons (okIx ix_seq ixD_ok (okE_b (okE_F (okFLst (okACons (okCall (ih .law_draw_) hr (by rfl) (T.mgf .law_draw_) (T.fn .law_draw_).kp (T.bd .law_draw_) tk (okACons (okV 0 (pv 0)) (okACons (okV 1 (pv 1)) okANil)) (aCons_len (aCons_len aNil_len))) (okACons (okV 1 (pv 1)) (okACons (okCall (ih .law_draw_) hr (by rfl) (T.mgf .law_draw_) (T.fn .law_draw_).kp (T.bd .law_draw_) tk (okACons (okV 0 (pv 0)) (okACons okInt okANil)) (aCons_len (aCons_len aNil_len))) okANil)))))) (okE_b (okIx ix_seq ixD_ok (okE_b (okE_F (okFLst (okACons okInt (okACons okInt (okACons okInt (okACons okInt (okACons okInt (okACons okInt okANil))))))))) (okE_b (okCall (ih .law_draw_) hr (by rfl) (T.mgf .law_draw_) (T.fn .law_draw_).kp (T.bd .law_draw_) tk (okACons (okV 0 (pv 0)) (okACons okInt okANil)) (aCons_len (aCons_len aNil_len)))) (fun _ _ => rfl))) (fun _ _ => rfl)) okANil))
    (okOneS (okOwn 3 appO_ok (fun _ pa => ps_expr (pe_bm PySem.F.plainAttrs_list PySem.F.slot_list_append PySem.F.type_list_append mt_append (pv 3) pa)) (okACons (okIx ix_seq ixD_ok (okE_b (okE_F (okFLst (okACons (okCall (ih .law_draw_) hr (by rfl) (T.mgf .law_draw_) (T.fn .law_draw_).kp (T.bd .law_draw_) tk (okACons (okV 0 (pv 0)) (okACons (okV 4 (pv 4)) okANil)) (aCons_len (aCons_len aNil_len))) (okACons (okN minD_ok (fun _ pa => pe_callB (call_min2 rfl) (by rfl) T.b_min bt_min pa) (okABCons (okE_b (okV 2 (pv 2))) (okABCons (okE_b okInt) okABNil))) okANil))))) (okE_b (okN intD_ok (fun _ pa => pe_callTy call_int1 (by rfl) T.b_int bt_int pa) (okABCons (okE_b (okCmp (op_eqA hr.units) eqD_ok (okE_b (okCall (ih .law_draw_) hr (by rfl) (T.mgf .law_draw_) (T.fn .law_draw_).kp (T.bd .law_draw_) tk (okACons (okV 0 (pv 0)) (okACons okInt okANil)) (aCons_len (aCons_len aNil_len)))) (okE_b okInt) (nomark _))) okABNil))) (fun _ _ => rfl)) okANil)))))
    (okSeq (okIfS (okW (okAnd (okTCmp (op_eqA hr.units) eqD_ok (okE_b (okCall (ih .law_draw_) hr (by rfl) (T.mgf .law_draw_) (T.fn .law_draw_).kp (T.bd .law_draw_) tk (okACons (okV 0 (pv 0)) (okACons okInt okANil)) (aCons_len (aCons_len aNil_len)))) (okE_b okInt) (nomark _)) (okAnd1 (okTCmp (op_neA hr.units) neD_ok (okVB 3 (pv 3)) (okE_b (okE_F (okFLst okANil))) (nomark _))))) (okOneS (okOwn0 3 popO_ok (ps_expr (pe_bm0 PySem.F.plainAttrs_list PySem.F.slot_list_pop PySem.F.type_list_pop mt_pop (pv 3))))) okNil)
    (okOneS (okRet (okN tupD_ok (fun _ pa => pe_callTy call_tuple_of (by rfl) T.b_tuple bt_tuple pa) (okABCons (okVB 3 (pv 3)) okABNil))))))))
theorem ok_law_due_ (T : Txt K mg ad fv) (ih : ∀ g, FnOk P w K mg base (L2.CX P w) n (ad g) (fv g) (ps g) (spF K cl (ps g).length (sem n g))) (cdv : Value) (A : Around) (outer : List PySem.Env) (s : Shared) (H : Hp) (E : XK)
    (hr : Room n (A.deeper (envOfC "_law_due" (defScope s_law_due_) s.heap.objs.size (ad .law_due_) cdv))) : OkSs (mxOf cl P w K mg base n_law_due_ "_law_due" (defScope s_law_due_) (ad .law_due_) cdv A outer s H E) (defBody s_law_due_) (b_law_due_ (sem n)) := by
  have tk : Takes (mxOf cl P w K mg base n_law_due_ "_law_due" (defScope s_law_due_) (ad .law_due_) cdv A outer s H E).X (fun c d _ H' => E c d H') := takes_of rfl rfl rfl rfl
  exact (okSeq (okIfS (okW (okOr (okTCmp (op_neA hr.units) neD_ok (okE_b (okV 3 (pv 3))) (okE_b okInt) (nomark _)) (okOr1 (okTCmp (op_eqA hr.units) eqD_ok (okE_b (okBin op_mod modD_ok (okE_b (okN intD_ok (fun _ pa => pe_callTy call_int1 (by rfl) T.b_int bt_int pa) (okABCons (okE_b (okN lenD_ok (fun _ pa => pe_callB cr_lenA (by rfl) T.b_len bt_len pa) (okABCons (okE_b (okV 4 (pv 4))) okABNil))) okABNil))) (okE_b okInt))) (okE_b okInt) (nomark _))))) (okOneS (okRet (okTup (okACons (okE_F (okLc (own:=[("entry",9)]) rfl sc_law_due_.nd (okISeq (okV 2 (pv 2))) (blkOk_by (N := n_law_due_) (sc := defScope s_law_due_) (by decide +kernel)) (by decide) (fun _ _ _ _ _ => (okGName 9 (pg_name sc_law_due_.nd rfl (by first | exact Or.inl rfl | exact Or.inr rfl)))) (fun _ _ _ _ _ => okIfsNil) (fun _ _ _ _ _ => (okTup (okACons (okIx ix_seq ixD_ok (okE_b (okV 0 (pv 0))) (okE_b (okIx ix_seq ixD_ok (okE_b (okV 9 (pv 9))) (okE_b okInt) (fun _ _ => rfl))) (fun _ _ => rfl)) (okACons (okIx ix_seq ixD_ok (okE_b (okV 9 (pv 9))) (okE_b okInt) (fun _ _ => rfl)) okANil)))))) (okACons (okV 1 (pv 1)) okANil))))) okNil)
    (okSeq (okSet 5 (okBin op_addA addD_ok (okE_b (okV 1 (pv 1))) (okE_b (okN sumD_ok (fun _ pa => pe_callB (cr_sum rfl) (by rfl) T.b_sum bt_sum pa) (okABCons (okE_b (okE_F (okLc (own:=[("entry",9)]) rfl sc_law_due_.nd (okISeq (okV 2 (pv 2))) (blkOk_by (N := n_law_due_) (sc := defScope s_law_due_) (by decide +kernel)) (by decide) (fun _ _ _ _ _ => (okGName 9 (pg_name sc_law_due_.nd rfl (by first | exact Or.inl rfl | exact Or.inr rfl)))) (fun _ _ _ _ _ => okIfsNil) (fun _ _ _ _ _ => (okIx ix_seq ixD_ok (okE_b (okV 9 (pv 9))) (okE_b okInt) (fun _ _ => rfl)))))) okABNil)))) fun _ pe => ps_set sc_law_due_.nd rfl (by first | exact Or.inl rfl | exact Or.inr rfl) pe)
    (okSeq (okSetOF 6 (okFLst okANil) fun _ pe => ps_set sc_law_due_.nd rfl (by first | exact Or.inl rfl | exact Or.inr rfl) pe)
    (okSeq (okFor (passes_of rfl) rfl (okRng1 (by rfl) T.b_range (okABCons (okE_b (okBin op_fdivW divD_ok (okE_b (okN lenD_ok (fun _ pa => pe_callB cr_lenA (by rfl) T.b_len bt_len pa) (okABCons (okE_b (okV 4 (pv 4))) okABNil))) (okE_b okInt))) okABNil)) (okGName 7 (pg_name sc_law_due_.nd rfl (by first | exact Or.inl rfl | exact Or.inr rfl))) (okOneS (okIfS (okTCmp op_lt ltD_ok (okE_b (okIx ix_seq ixD_ok (okE_b (okV 4 (pv 4))) (okE_b (okBin op_mulA mulD_ok (okE_b okInt) (okE_b (okV 7 (pv 7))))) (fun _ _ => rfl))) (okE_b (okN lenD_ok (fun _ pa => pe_callB cr_lenA (by rfl) T.b_len bt_len pa) (okABCons (okE_b (okV 0 (pv 0))) okABNil))) (nomark _)) (okSeq (okSet 8 (okN minD_ok (fun _ pa => pe_callB (call_min2 rfl) (by rfl) T.b_min bt_min pa) (okABCons (okE_b (okIx ix_seq ixD_ok (okE_b (okV 4 (pv 4))) (okE_b (okBin op_addA addD_ok (okE_b (okBin op_mulA mulD_ok (okE_b okInt) (okE_b (okV 7 (pv 7))))) (okE_b okInt))) (fun _ _ => rfl))) (okABCons (okE_b (okV 5 (pv 5))) okABNil))) fun _ pe => ps_set sc_law_due_.nd rfl (by first | exact Or.inl rfl | exact Or.inr rfl) pe)
    (okSeq (okOwn 6 appO_ok (fun _ pa => ps_expr (pe_bm PySem.F.plainAttrs_list PySem.F.slot_list_append PySem.F.type_list_append mt_append (pv 6) pa)) (okACons (okTup (okACons (okIx ix_seq ixD_ok (okE_b (okV 0 (pv 0))) (okE_b (okIx ix_seq ixD_ok (okE_b (okV 4 (pv 4))) (okE_b (okBin op_mulA mulD_ok (okE_b okInt) (okE_b (okV 7 (pv 7))))) (fun _ _ => rfl))) (fun _ _ => rfl)) (okACons (okV 8 (pv 8)) okANil))) okANil))
    (okOneS (okSet 5 (okBin op_sub subD_ok (okE_b (okV 5 (pv 5))) (okE_b (okV 8 (pv 8)))) fun _ pe => ps_set sc_law_due_.nd rfl (by first | exact Or.inl rfl | exact Or.inr rfl) pe)))) okNil)))
    (okOneS (okFrz 6 (okRet (okTup (okACons (okV 6 (pv 6)) (okACons (okV 5 (pv 5)) okANil))))))))))
theorem ok_law (T : Txt K mg ad fv) (ih : ∀ g, FnOk P w K mg base (L2.CX P w) n (ad g) (fv g) (ps g) (spF K cl (ps g).length (sem n g))) (cdv : Value) (A : Around) (outer : List PySem.Env) (s : Shared) (H : Hp) (E : XK)
    (hr : Room n (A.deeper (envOfC "law" (defScope s_law) s.heap.objs.size (ad .law) cdv))) : OkSs (mxOf cl P w K mg base n_law "law" (defScope s_law) (ad .law) cdv A outer s H E) (defBody s_law) (b_law (sem n)) := by
  have tk : Takes (mxOf cl P w K mg base n_law "law" (defScope s_law) (ad .law) cdv A outer s H E).X (fun c d _ H' => E c d H') := takes_of rfl rfl rfl rfl
  exact (okSeq (okSet 1 (okCall (ih .law_box_) hr (by rfl) (T.mgf .law_box_) (T.fn .law_box_).kp (T.bd .law_box_) tk (okACons (okV 0 (pv 0)) (okACons okInt okANil)) (aCons_len (aCons_len aNil_len))) fun _ pe => ps_set sc_law.nd rfl (by first | exact Or.inl rfl | exact Or.inr rfl) pe)
    (okSeq (okSet 2 (okIx ix_seq ixD_ok (okE_b (okE_F (okFLst (okACons okInt (okACons (okBin op_addA addD_ok (okE_b okInt) (okE_b (okCall (ih .law_draw_) hr (by rfl) (T.mgf .law_draw_) (T.fn .law_draw_).kp (T.bd .law_draw_) tk (okACons (okV 1 (pv 1)) (okACons okInt okANil)) (aCons_len (aCons_len aNil_len))))) okANil))))) (okE_b (okCall (ih .law_draw_) hr (by rfl) (T.mgf .law_draw_) (T.fn .law_draw_).kp (T.bd .law_draw_) tk (okACons (okV 1 (pv 1)) (okACons okInt okANil)) (aCons_len (aCons_len aNil_len)))) (fun _ _ => rfl)) fun _ pe => ps_set sc_law.nd rfl (by first | exact Or.inl rfl | exact Or.inr rfl) pe)
    (okSeq (okSet 3 (okN tupD_ok (fun _ pa => pe_callTy call_tuple_of (by rfl) T.b_tuple bt_tuple pa) (okABCons (okE_b (okE_F (okLc (own:=[("k",14)]) rfl sc_law.nd (okRng1 (by rfl) T.b_range (okABCons (okE_b (okV 2 (pv 2))) okABNil)) (blkOk_by (N := n_law) (sc := defScope s_law) (by decide +kernel)) (by decide) (fun _ _ _ _ _ => (okGName 14 (pg_name sc_law.nd rfl (by first | exact Or.inl rfl | exact Or.inr rfl)))) (fun _ _ _ _ _ => okIfsNil) (fun _ _ _ _ _ => (okBin op_addA addD_ok (okE_b okStr) (okE_b (okN strD_ok (fun _ pa => pe_callTy call_str_int (by rfl) T.b_str bt_str pa) (okABCons (okE_b (okV 14 (pv 14))) okABNil)))))))) okABNil)) fun _ pe => ps_set sc_law.nd rfl (by first | exact Or.inl rfl | exact Or.inr rfl) pe)
    (okSeq (okSet 4 (okIx ix_seq ixD_ok (okE_b (okE_F (okFLst (okACons okInt (okACons (okCall (ih .law_draw_) hr (by rfl) (T.mgf .law_draw_) (T.fn .law_draw_).kp (T.bd .law_draw_) tk (okACons (okV 1 (pv 1)) (okACons okInt okANil)) (aCons_len (aCons_len aNil_len))) (okACons (okCall (ih .law_draw_) hr (by rfl) (T.mgf .law_draw_) (T.fn .law_draw_).kp (T.bd .law_draw_) tk (okACons (okV 1 (pv 1)) (okACons (okBin op_pow powD_ok (okE_b okInt) (okE_b okInt)) okANil)) (aCons_len (aCons_len aNil_len))) okANil)))))) (okE_b (okCall (ih .law_draw_) hr (by rfl) (T.mgf .law_draw_) (T.fn .law_draw_).kp (T.bd .law_draw_) tk (okACons (okV 1 (pv 1)) (okACons okInt okANil)) (aCons_len (aCons_len aNil_len)))) (fun _ _ => rfl)) fun _ pe => ps_set sc_law.nd rfl (by first | exact Or.inl rfl | exact Or.inr rfl) pe)
    (okSeq (okSet 5 (okCall (ih .law_entries_) hr (by rfl) (T.mgf .law_entries_) (T.fn .law_entries_).kp (T.bd .law_entries_) tk (okACons (okV 1 (pv 1)) (okACons (okV 2 (pv 2)) okANil)) (aCons_len (aCons_len aNil_len))) fun _ pe => ps_set sc_law.nd rfl (by first | exact Or.inl rfl | exact Or.inr rfl) pe)
    (okSeq (okSet 6 (okBin op_addA addD_ok (okE_b (okV 4 (pv 4))) (okE_b (okN sumD_ok (fun _ pa => pe_callB (cr_sum rfl) (by rfl) T.b_sum bt_sum pa) (okABCons (okE_b (okE_F (okLc (own:=[("entry",10)]) rfl sc_law.nd (okISeq (okV 5 (pv 5))) (blkOk_by (N := n_law) (sc := defScope s_law) (by decide +kernel)) (by decide) (fun _ _ _ _ _ => (okGName 10 (pg_name sc_law.nd rfl (by first | exact Or.inl rfl | exact Or.inr rfl)))) (fun _ _ _ _ _ => okIfsNil) (fun _ _ _ _ _ => (okIx ix_seq ixD_ok (okE_b (okV 10 (pv 10))) (okE_b okInt) (fun _ _ => rfl)))))) okABNil)))) fun _ pe => ps_set sc_law.nd rfl (by first | exact Or.inl rfl | exact Or.inr rfl) pe)
    (okSeq (okSet 7 (okCall (ih .law_words_) hr (by rfl) (T.mgf .law_words_) (T.fn .law_words_).kp (T.bd .law_words_) tk (okACons (okV 1 (pv 1)) (okACons (okV 2 (pv 2)) (okACons (okV 6 (pv 6)) okANil))) (aCons_len (aCons_len (aCons_len aNil_len)))) fun _ pe => ps_set sc_law.nd rfl (by first | exact Or.inl rfl | exact Or.inr rfl) pe)
    (okSeq (okSet 8 (okIx ix_seq ixD_ok (okE_b (okE_F (okFLst (okACons okInt (okACons okInt (okACons okInt (okACons okInt (okACons okInt (okACons okInt okANil))))))))) (okE_b (okCall (ih .law_draw_) hr (by rfl) (T.mgf .law_draw_) (T.fn .law_draw_).kp (T.bd .law_draw_) tk (okACons (okV 1 (pv 1)) (okACons okInt okANil)) (aCons_len (aCons_len aNil_len)))) (fun _ _ => rfl)) fun _ pe => ps_set sc_law.nd rfl (by first | exact Or.inl rfl | exact Or.inr rfl) pe)
    (okSeq (okSetOF 9 (okFLst okANil) fun _ pe => ps_set sc_law.nd rfl (by first | exact Or.inl rfl | exact Or.inr rfl) pe)
    (okSeq (okFor (passes_of rfl) rfl (okISeq (okV 5 (pv 5))) (okGName 10 (pg_name sc_law.nd rfl (by first | exact Or.inl rfl | exact Or.inr rfl))) (okOneS (okOwn 9 extO_ok (fun _ pa => ps_expr (pe_bm PySem.F.plainAttrs_list PySem.F.slot_list_extend PySem.F.type_list_extend mt_extend (pv 9) pa)) (okACons (okE_F (okFN lstG_ok lstG_nx (tf := tCB _) (fun _ pa => pe_callTy call_list_of (by rfl) T.b_list bt_list pa) (fun _ _ _ _ h => h) (okABCons (okE_b (okV 10 (pv 10))) okABNil))) okANil))))
    (okSeq (okIfS (okTNot (okTru (okE_b (okCall (ih .law_same_) hr (by rfl) (T.mgf .law_same_) (T.fn .law_same_).kp (T.bd .law_same_) tk (okACons (okCall (ih .input_of) hr (by rfl) (T.mgf .input_of) (T.fn .input_of).kp (T.bd .input_of) tk (okACons (okV 5 (pv 5)) okANil) (aCons_len aNil_len)) (okACons (okN tupD_ok (fun _ pa => pe_callTy call_tuple_of (by rfl) T.b_tuple bt_tuple pa) (okABCons (okVB 9 (pv 9)) okABNil)) okANil)) (aCons_len (aCons_len aNil_len)))))) (okOneS (okRet okBl)) okNil)
    (okSeq (okAsgG (fun _ _ pe pg => ps_asg pe pg) (okCall (ih .law_due_) hr (by rfl) (T.mgf .law_due_) (T.fn .law_due_).kp (T.bd .law_due_) tk (okACons (okV 3 (pv 3)) (okACons (okV 4 (pv 4)) (okACons (okV 5 (pv 5)) (okACons (okV 8 (pv 8)) (okACons (okV 7 (pv 7)) okANil))))) (aCons_len (aCons_len (aCons_len (aCons_len (aCons_len aNil_len)))))) (okGTup rfl (okGsCons (okGName 12 (pg_name sc_law.nd rfl (by first | exact Or.inl rfl | exact Or.inr rfl))) (okGsCons (okGName 13 (pg_name sc_law.nd rfl (by first | exact Or.inl rfl | exact Or.inr rfl))) okGsNil))))
    (okSeq (okSet 11 (okCall (ih .payments) hr (by rfl) (T.mgf .payments) (T.fn .payments).kp (T.bd .payments) tk (okACons (okV 3 (pv 3)) (okACons (okV 4 (pv 4)) (okACons (okV 5 (pv 5)) (okACons (okV 8 (pv 8)) (okACons (okV 7 (pv 7)) okANil))))) (aCons_len (aCons_len (aCons_len (aCons_len (aCons_len aNil_len)))))) fun _ pe => ps_set sc_law.nd rfl (by first | exact Or.inl rfl | exact Or.inr rfl) pe)
    (okSeq (okIfS (okTNot (okTru (okE_b (okCall (ih .law_same_) hr (by rfl) (T.mgf .law_same_) (T.fn .law_same_).kp (T.bd .law_same_) tk (okACons (okV 11 (pv 11)) (okACons (okTup (okACons (okN tupD_ok (fun _ pa => pe_callTy call_tuple_of (by rfl) T.b_tuple bt_tuple pa) (okABCons (okE_b (okV 12 (pv 12))) okABNil)) (okACons (okV 13 (pv 13)) okANil))) okANil)) (aCons_len (aCons_len aNil_len)))))) (okOneS (okRet okBl)) okNil)
    (okOneS (okRet (okCall (ih .law_same_) hr (by rfl) (T.mgf .law_same_) (T.fn .law_same_).kp (T.bd .law_same_) tk (okACons (okBin op_addA addD_ok (okE_b (okN sumD_ok (fun _ pa => pe_callB (cr_sum rfl) (by rfl) T.b_sum bt_sum pa) (okABCons (okE_b (okE_F (okLc (own:=[("name",15),("amount",16)]) rfl sc_law.nd (okISeq (okIx ix_seq ixD_ok (okE_b (okV 11 (pv 11))) (okE_b okInt) (fun _ _ => rfl))) (blkOk_by (N := n_law) (sc := defScope s_law) (by decide +kernel)) (by decide) (fun _ _ _ _ _ => (okGTup rfl (okGsCons (okGName 15 (pg_name sc_law.nd rfl (by first | exact Or.inl rfl | exact Or.inr rfl))) (okGsCons (okGName 16 (pg_name sc_law.nd rfl (by first | exact Or.inl rfl | exact Or.inr rfl))) okGsNil)))) (fun _ _ _ _ _ => okIfsNil) (fun _ _ _ _ _ => (okV 16 (pv 16)))))) okABNil))) (okE_b (okIx ix_seq ixD_ok (okE_b (okV 11 (pv 11))) (okE_b okInt) (fun _ _ => rfl)))) (okACons (okV 6 (pv 6)) okANil)) (aCons_len (aCons_len aNil_len)))))))))))))))))))
theorem all_ok (T : Txt K mg ad fv) : ∀ (n : Nat) (g : Fn), FnOk P w K mg base (L2.CX P w) n (ad g) (fv g) (ps g) (spF K cl (ps g).length (sem n g))
  | 0, g => fn_stuck fun _ _ => rfl
  | n + 1, g => by
    have ih := all_ok T n
    cases g with
    | input_of => exact fn_ok (T.fn .input_of) sc_input_of fun cdv A outer s H E hr => ok_input_of T ih cdv A outer s H E hr
    | payments => exact fn_ok (T.fn .payments) sc_payments fun cdv A outer s H E hr => ok_payments T ih cdv A outer s H E hr
    | law_same_ => exact fn_ok (T.fn .law_same_) sc_law_same_ fun cdv A outer s H E hr => ok_law_same_ T ih cdv A outer s H E hr
    | law_box_ => exact fn_ok (T.fn .law_box_) sc_law_box_ fun cdv A outer s H E hr => ok_law_box_ T ih cdv A outer s H E hr
    | law_load_ => exact fn_ok (T.fn .law_load_) sc_law_load_ fun cdv A outer s H E hr => ok_law_load_ T ih cdv A outer s H E hr
    | law_draw_ => exact fn_ok (T.fn .law_draw_) sc_law_draw_ fun cdv A outer s H E hr => ok_law_draw_ T ih cdv A outer s H E hr
    | law_entries_ => exact fn_ok (T.fn .law_entries_) sc_law_entries_ fun cdv A outer s H E hr => ok_law_entries_ T ih cdv A outer s H E hr
    | law_words_ => exact fn_ok (T.fn .law_words_) sc_law_words_ fun cdv A outer s H E hr => ok_law_words_ T ih cdv A outer s H E hr
    | law_due_ => exact fn_ok (T.fn .law_due_) sc_law_due_ fun cdv A outer s H E hr => ok_law_due_ T ih cdv A outer s H E hr
    | law => exact fn_ok (T.fn .law) sc_law fun cdv A outer s H E hr => ok_law T ih cdv A outer s H E hr
theorem mk_input_of {K : PySem.W.Frag} {h : Heap} {mg : Str → Option Value} (X : K.In h) (G : h.Ns mainGlobals mg) {f : Addr} {od an : Option Addr} {sl : Array (Option Value)} {oc kV dc pm cd ct : Value} (a : PySem.W.nsIn K mainGlobals "input_of" = some (some (.ref f)))
    (l : K.lookup f = some ⟨oc, od, .func (PySem.W.fnOf "input_of" "input_of" (defArgs s_input_of) (defBody s_input_of) (defScope s_input_of) .none kV dc pm an cd ct), sl⟩) (c : PySem.W.codeIn K cd "input_of" = true) (k : PySem.W.keepIn K (.ref f) = true) :
    ∃ (f : Addr) (fd : FuncData), Fun K "input_of" "input_of" s_input_of f fd ∧ Binds K fd p_input_of [] ∧ mg "input_of" = some (.ref f) :=
  let F1 := fun_mk (st := s_input_of) l c k
  ⟨f, _, F1, F1.binds (ps := p_input_of) fun _ _ _ _ _ _ us hl => match us, hl with | [_], _ => rfl, PySem.W.mg_of X G a⟩
theorem mk_payments {K : PySem.W.Frag} {h : Heap} {mg : Str → Option Value} (X : K.In h) (G : h.Ns mainGlobals mg) {f : Addr} {od an : Option Addr} {sl : Array (Option Value)} {oc kV dc pm cd ct : Value} (a : PySem.W.nsIn K mainGlobals "payments" = some (some (.ref f)))
    (l : K.lookup f = some ⟨oc, od, .func (PySem.W.fnOf "payments" "payments" (defArgs s_payments) (defBody s_payments) (defScope s_payments) .none kV dc pm an cd ct), sl⟩) (c : PySem.W.codeIn K cd "payments" = true) (k : PySem.W.keepIn K (.ref f) = true) :
    ∃ (f : Addr) (fd : FuncData), Fun K "payments" "payments" s_payments f fd ∧ Binds K fd p_payments [] ∧ mg "payments" = some (.ref f) :=
  let F1 := fun_mk (st := s_payments) l c k
  ⟨f, _, F1, F1.binds (ps := p_payments) fun _ _ _ _ _ _ us hl => match us, hl with | [_, _, _, _, _], _ => rfl, PySem.W.mg_of X G a⟩
theorem mk_law_same_ {K : PySem.W.Frag} {h : Heap} {mg : Str → Option Value} (X : K.In h) (G : h.Ns mainGlobals mg) {f : Addr} {od an : Option Addr} {sl : Array (Option Value)} {oc kV dc pm cd ct : Value} (a : PySem.W.nsIn K mainGlobals "_law_same" = some (some (.ref f)))
    (l : K.lookup f = some ⟨oc, od, .func (PySem.W.fnOf "_law_same" "_law_same" (defArgs s_law_same_) (defBody s_law_same_) (defScope s_law_same_) .none kV dc pm an cd ct), sl⟩) (c : PySem.W.codeIn K cd "_law_same" = true) (k : PySem.W.keepIn K (.ref f) = true) :
    ∃ (f : Addr) (fd : FuncData), Fun K "_law_same" "_law_same" s_law_same_ f fd ∧ Binds K fd p_law_same_ [] ∧ mg "_law_same" = some (.ref f) :=
  let F1 := fun_mk (st := s_law_same_) l c k
  ⟨f, _, F1, F1.binds (ps := p_law_same_) fun _ _ _ _ _ _ us hl => match us, hl with | [_, _], _ => rfl, PySem.W.mg_of X G a⟩
theorem mk_law_box_ {K : PySem.W.Frag} {h : Heap} {mg : Str → Option Value} (X : K.In h) (G : h.Ns mainGlobals mg) {f : Addr} {od an : Option Addr} {sl : Array (Option Value)} {oc kV dc pm cd ct : Value} (a : PySem.W.nsIn K mainGlobals "_law_box" = some (some (.ref f)))
    (l : K.lookup f = some ⟨oc, od, .func (PySem.W.fnOf "_law_box" "_law_box" (defArgs s_law_box_) (defBody s_law_box_) (defScope s_law_box_) .none kV dc pm an cd ct), sl⟩) (c : PySem.W.codeIn K cd "_law_box" = true) (k : PySem.W.keepIn K (.ref f) = true) :
    ∃ (f : Addr) (fd : FuncData), Fun K "_law_box" "_law_box" s_law_box_ f fd ∧ Binds K fd p_law_box_ [] ∧ mg "_law_box" = some (.ref f) :=
  let F1 := fun_mk (st := s_law_box_) l c k
  ⟨f, _, F1, F1.binds (ps := p_law_box_) fun _ _ _ _ _ _ us hl => match us, hl with | [_, _], _ => rfl, PySem.W.mg_of X G a⟩
theorem mk_law_load_ {K : PySem.W.Frag} {h : Heap} {mg : Str → Option Value} (X : K.In h) (G : h.Ns mainGlobals mg) {f : Addr} {od an : Option Addr} {sl : Array (Option Value)} {oc kV dc pm cd ct : Value} (a : PySem.W.nsIn K mainGlobals "_law_load" = some (some (.ref f)))
    (l : K.lookup f = some ⟨oc, od, .func (PySem.W.fnOf "_law_load" "_law_load" (defArgs s_law_load_) (defBody s_law_load_) (defScope s_law_load_) .none kV dc pm an cd ct), sl⟩) (c : PySem.W.codeIn K cd "_law_load" = true) (k : PySem.W.keepIn K (.ref f) = true) :
    ∃ (f : Addr) (fd : FuncData), Fun K "_law_load" "_law_load" s_law_load_ f fd ∧ Binds K fd p_law_load_ [] ∧ mg "_law_load" = some (.ref f) :=
  let F1 := fun_mk (st := s_law_load_) l c k
  ⟨f, _, F1, F1.binds (ps := p_law_load_) fun _ _ _ _ _ _ us hl => match us, hl with | [_], _ => rfl, PySem.W.mg_of X G a⟩
theorem mk_law_draw_ {K : PySem.W.Frag} {h : Heap} {mg : Str → Option Value} (X : K.In h) (G : h.Ns mainGlobals mg) {f : Addr} {od an : Option Addr} {sl : Array (Option Value)} {oc kV dc pm cd ct : Value} (a : PySem.W.nsIn K mainGlobals "_law_draw" = some (some (.ref f)))
    (l : K.lookup f = some ⟨oc, od, .func (PySem.W.fnOf "_law_draw" "_law_draw" (defArgs s_law_draw_) (defBody s_law_draw_) (defScope s_law_draw_) .none kV dc pm an cd ct), sl⟩) (c : PySem.W.codeIn K cd "_law_draw" = true) (k : PySem.W.keepIn K (.ref f) = true) :
    ∃ (f : Addr) (fd : FuncData), Fun K "_law_draw" "_law_draw" s_law_draw_ f fd ∧ Binds K fd p_law_draw_ [] ∧ mg "_law_draw" = some (.ref f) :=
  let F1 := fun_mk (st := s_law_draw_) l c k
  ⟨f, _, F1, F1.binds (ps := p_law_draw_) fun _ _ _ _ _ _ us hl => match us, hl with | [_, _], _ => rfl, PySem.W.mg_of X G a⟩
theorem mk_law_entries_ {K : PySem.W.Frag} {h : Heap} {mg : Str → Option Value} (X : K.In h) (G : h.Ns mainGlobals mg) {f : Addr} {od an : Option Addr} {sl : Array (Option Value)} {oc kV dc pm cd ct : Value} (a : PySem.W.nsIn K mainGlobals "_law_entries" = some (some (.ref f)))
    (l : K.lookup f = some ⟨oc, od, .func (PySem.W.fnOf "_law_entries" "_law_entries" (defArgs s_law_entries_) (defBody s_law_entries_) (defScope s_law_entries_) .none kV dc pm an cd ct), sl⟩) (c : PySem.W.codeIn K cd "_law_entries" = true) (k : PySem.W.keepIn K (.ref f) = true) :
    ∃ (f : Addr) (fd : FuncData), Fun K "_law_entries" "_law_entries" s_law_entries_ f fd ∧ Binds K fd p_law_entries_ [] ∧ mg "_law_entries" = some (.ref f) :=
  let F1 := fun_mk (st := s_law_entries_) l c k
  ⟨f, _, F1, F1.binds (ps := p_law_entries_) fun _ _ _ _ _ _ us hl => match us, hl with | [_, _], _ => rfl, PySem.W.mg_of X G a⟩
theorem mk_law_words_ {K : PySem.W.Frag} {h : Heap} {mg : Str → Option Value} (X : K.In h) (G : h.Ns mainGlobals mg) {f : Addr} {od an : Option Addr} {sl : Array (Option Value)} {oc kV dc pm cd ct : Value} (a : PySem.W.nsIn K mainGlobals "_law_words" = some (some (.ref f)))
    (l : K.lookup f = some ⟨oc, od, .func (PySem.W.fnOf "_law_words" "_law_words" (defArgs s_law_words_) (defBody s_law_words_) (defScope s_law_words_) .none kV dc pm an cd ct), sl⟩) (c : PySem.W.codeIn K cd "_law_words" = true) (k : PySem.W.keepIn K (.ref f) = true) :
    ∃ (f : Addr) (fd : FuncData), Fun K "_law_words" "_law_words" s_law_words_ f fd ∧ Binds K fd p_law_words_ [] ∧ mg "_law_words" = some (.ref f) :=
  let F1 := fun_mk (st := s_law_words_) l c k
  ⟨f, _, F1, F1.binds (ps := p_law_words_) fun _ _ _ _ _ _ us hl => match us, hl with | [_, _, _], _ => rfl, PySem.W.mg_of X G a⟩
theorem mk_law_due_ {K : PySem.W.Frag} {h : Heap} {mg : Str → Option Value} (X : K.In h) (G : h.Ns mainGlobals mg) {f : Addr} {od an : Option Addr} {sl : Array (Option Value)} {oc kV dc pm cd ct : Value} (a : PySem.W.nsIn K mainGlobals "_law_due" = some (some (.ref f)))
    (l : K.lookup f = some ⟨oc, od, .func (PySem.W.fnOf "_law_due" "_law_due" (defArgs s_law_due_) (defBody s_law_due_) (defScope s_law_due_) .none kV dc pm an cd ct), sl⟩) (c : PySem.W.codeIn K cd "_law_due" = true) (k : PySem.W.keepIn K (.ref f) = true) :
    ∃ (f : Addr) (fd : FuncData), Fun K "_law_due" "_law_due" s_law_due_ f fd ∧ Binds K fd p_law_due_ [] ∧ mg "_law_due" = some (.ref f) :=
  let F1 := fun_mk (st := s_law_due_) l c k
  ⟨f, _, F1, F1.binds (ps := p_law_due_) fun _ _ _ _ _ _ us hl => match us, hl with | [_, _, _, _, _], _ => rfl, PySem.W.mg_of X G a⟩
theorem mk_law {K : PySem.W.Frag} {h : Heap} {mg : Str → Option Value} (X : K.In h) (G : h.Ns mainGlobals mg) {f : Addr} {od an : Option Addr} {sl : Array (Option Value)} {oc kV dc pm cd ct : Value} (a : PySem.W.nsIn K mainGlobals "law" = some (some (.ref f)))
    (l : K.lookup f = some ⟨oc, od, .func (PySem.W.fnOf "law" "law" (defArgs s_law) (defBody s_law) (defScope s_law) .none kV dc pm an cd ct), sl⟩) (c : PySem.W.codeIn K cd "law" = true) (k : PySem.W.keepIn K (.ref f) = true) :
    ∃ (f : Addr) (fd : FuncData), Fun K "law" "law" s_law f fd ∧ Binds K fd p_law [] ∧ mg "law" = some (.ref f) :=
  let F1 := fun_mk (st := s_law) l c k
  ⟨f, _, F1, F1.binds (ps := p_law) fun _ _ _ _ _ _ us hl => match us, hl with | [_], _ => rfl, PySem.W.mg_of X G a⟩
theorem txt_mk {mg : Str → Option Value} (h_input_of : ∃ (f : Addr) (fd : FuncData), Fun K "input_of" "input_of" s_input_of f fd ∧ Binds K fd p_input_of [] ∧ mg "input_of" = some (.ref f)) (h_payments : ∃ (f : Addr) (fd : FuncData), Fun K "payments" "payments" s_payments f fd ∧ Binds K fd p_payments [] ∧ mg "payments" = some (.ref f)) (h_law_same_ : ∃ (f : Addr) (fd : FuncData), Fun K "_law_same" "_law_same" s_law_same_ f fd ∧ Binds K fd p_law_same_ [] ∧ mg "_law_same" = some (.ref f)) (h_law_box_ : ∃ (f : Addr) (fd : FuncData), Fun K "_law_box" "_law_box" s_law_box_ f fd ∧ Binds K fd p_law_box_ [] ∧ mg "_law_box" = some (.ref f)) (h_law_load_ : ∃ (f : Addr) (fd : FuncData), Fun K "_law_load" "_law_load" s_law_load_ f fd ∧ Binds K fd p_law_load_ [] ∧ mg "_law_load" = some (.ref f)) (h_law_draw_ : ∃ (f : Addr) (fd : FuncData), Fun K "_law_draw" "_law_draw" s_law_draw_ f fd ∧ Binds K fd p_law_draw_ [] ∧ mg "_law_draw" = some (.ref f)) (h_law_entries_ : ∃ (f : Addr) (fd : FuncData), Fun K "_law_entries" "_law_entries" s_law_entries_ f fd ∧ Binds K fd p_law_entries_ [] ∧ mg "_law_entries" = some (.ref f)) (h_law_words_ : ∃ (f : Addr) (fd : FuncData), Fun K "_law_words" "_law_words" s_law_words_ f fd ∧ Binds K fd p_law_words_ [] ∧ mg "_law_words" = some (.ref f)) (h_law_due_ : ∃ (f : Addr) (fd : FuncData), Fun K "_law_due" "_law_due" s_law_due_ f fd ∧ Binds K fd p_law_due_ [] ∧ mg "_law_due" = some (.ref f)) (h_law : ∃ (f : Addr) (fd : FuncData), Fun K "law" "law" s_law f fd ∧ Binds K fd p_law [] ∧ mg "law" = some (.ref f)) (z_all : mg "all" = none) (z_bool : mg "bool" = none) (z_dict : mg "dict" = none) (z_int : mg "int" = none) (z_isinstance : mg "isinstance" = none) (z_len : mg "len" = none) (z_list : mg "list" = none) (z_min : mg "min" = none) (z_range : mg "range" = none) (z_str : mg "str" = none) (z_sum : mg "sum" = none) (z_tuple : mg "tuple" = none) : ∃ (ad : Fn → Addr) (fv : Fn → FuncData), Txt K mg ad fv := by
  obtain ⟨a_input_of, d_input_of, F_input_of, B_input_of, m_input_of⟩ := h_input_of
  obtain ⟨a_payments, d_payments, F_payments, B_payments, m_payments⟩ := h_payments
  obtain ⟨a_law_same_, d_law_same_, F_law_same_, B_law_same_, m_law_same_⟩ := h_law_same_
  obtain ⟨a_law_box_, d_law_box_, F_law_box_, B_law_box_, m_law_box_⟩ := h_law_box_
  obtain ⟨a_law_load_, d_law_load_, F_law_load_, B_law_load_, m_law_load_⟩ := h_law_load_
  obtain ⟨a_law_draw_, d_law_draw_, F_law_draw_, B_law_draw_, m_law_draw_⟩ := h_law_draw_
  obtain ⟨a_law_entries_, d_law_entries_, F_law_entries_, B_law_entries_, m_law_entries_⟩ := h_law_entries_
  obtain ⟨a_law_words_, d_law_words_, F_law_words_, B_law_words_, m_law_words_⟩ := h_law_words_
  obtain ⟨a_law_due_, d_law_due_, F_law_due_, B_law_due_, m_law_due_⟩ := h_law_due_
  obtain ⟨a_law, d_law, F_law, B_law, m_law⟩ := h_law
  refine ⟨fun g => match g with | .input_of => a_input_of | .payments => a_payments | .law_same_ => a_law_same_ | .law_box_ => a_law_box_ | .law_load_ => a_law_load_ | .law_draw_ => a_law_draw_ | .law_entries_ => a_law_entries_ | .law_words_ => a_law_words_ | .law_due_ => a_law_due_ | .law => a_law, fun g => match g with | .input_of => d_input_of | .payments => d_payments | .law_same_ => d_law_same_ | .law_box_ => d_law_box_ | .law_load_ => d_law_load_ | .law_draw_ => d_law_draw_ | .law_entries_ => d_law_entries_ | .law_words_ => d_law_words_ | .law_due_ => d_law_due_ | .law => d_law, { fn := fun g => ?_, mgf := fun g => ?_, bd := fun g => ?_, b_all := z_all, b_bool := z_bool, b_dict := z_dict, b_int := z_int, b_isinstance := z_isinstance, b_len := z_len, b_list := z_list, b_min := z_min, b_range := z_range, b_str := z_str, b_sum := z_sum, b_tuple := z_tuple }⟩
  · cases g with
    | input_of => exact F_input_of
    | payments => exact F_payments
    | law_same_ => exact F_law_same_
    | law_box_ => exact F_law_box_
    | law_load_ => exact F_law_load_
    | law_draw_ => exact F_law_draw_
    | law_entries_ => exact F_law_entries_
    | law_words_ => exact F_law_words_
    | law_due_ => exact F_law_due_
    | law => exact F_law
  · cases g with
    | input_of => exact m_input_of
    | payments => exact m_payments
    | law_same_ => exact m_law_same_
    | law_box_ => exact m_law_box_
    | law_load_ => exact m_law_load_
    | law_draw_ => exact m_law_draw_
    | law_entries_ => exact m_law_entries_
    | law_words_ => exact m_law_words_
    | law_due_ => exact m_law_due_
    | law => exact m_law
  · cases g with
    | input_of => exact B_input_of
    | payments => exact B_payments
    | law_same_ => exact B_law_same_
    | law_box_ => exact B_law_box_
    | law_load_ => exact B_law_load_
    | law_draw_ => exact B_law_draw_
    | law_entries_ => exact B_law_entries_
    | law_words_ => exact B_law_words_
    | law_due_ => exact B_law_due_
    | law => exact B_law
theorem law_ok {l : PySem.W.OpenLaw} {w : World} {K : PySem.W.Frag} {mg : Str → Option Value} {fa : Addr} (cl : Nat → Value) (n : Nat) (hfa : mg "law" = some (.ref fa)) (h : ∃ (ad : Fn → Addr) (fv : Fn → FuncData), Txt K mg ad fv) :
    ∃ fd : FuncData, (∀ (s : Shared) (v : Value), BindsTo s fd ⟨[v], []⟩ [("script", v)]) ∧ ∀ base : Heap, K.In base → base.Ns mainGlobals mg → FnOk l.prog w K mg base (L2.CX l.prog w) n fa fd ["script"] (spF K cl 1 (sem n .law)) := by
  obtain ⟨ad, fv, T⟩ := h
  have e := hfa.symm.trans (T.mgf .law)
  have e2 : fa = ad .law := by injection e with e; injection e
  subst e2
  obtain ⟨oc, od, kV, doc, pm, an, cdv, ct, osl, ef, lk, hcd⟩ := (T.fn .law).ex
  refine ⟨fv .law, fun s v => by rw [ef]; exact .of_eq rfl, fun base _ _ => all_ok T n .law⟩
end
end TX
namespace TX
open PySem MP L2
theorem draw_s (n : Nat) (b : Bx) (m : Int) (nd : D) (rest : Store) (h : 0 < m) (h2 : m ≤ 10000000000000000000000000000000) : sem (n + 2) .law_draw_ [.ref 1, .int m] (bst b nd rest) = .ok (.int (dr b m), bst (nx b m) nd rest) :=
  draw_eq b m nd rest (sem (n + 1) .law_load_) rfl h (Int.le_trans h2 (by decide +kernel))
theorem box_s (n : Nat) (ns : List Int) (d : D) (hl : ns.length ≤ 63) : sem (n + 1) .law_box_ [.fls (ns.map D.int), d] [] = .ok (.ref 1, bst ⟨ns, 0, 4711 + ns.length⟩ d []) := by
  have : ns.length ≤ sizeLine := by rw [sizeLine_val]; omega
  simp -implicitDefEqProofs [sem, runF, b_law_box_, bst, sizeLine_val]
theorem same_s (n k : Nat) (d : D) (S : Store) (h : Pl n d) : sem (n + 1 + k) .law_same_ [d, d] S = .ok (.bl true, S) :=
  same_refl (fun k => sem k .law_same_) (fun _ => rfl) n d k S h
def entD (e : Int × Int × Int) : D := .tup [.int e.1, .int e.2.1, .int e.2.2]
structure EntOk (many : Int) (e : Int × Int × Int) : Prop where
  a : 0 ≤ e.1
  b : e.1 < many
  c : 0 ≤ e.2.1
theorem pick2 {x y : D} {i : Int} {S : Store} (h0 : 0 ≤ i) (h : i < 2) : ixD (.lst [x, y]) (.int i) S = .ok (if i = 0 then x else y, S) := by
  have : i = 0 ∨ i = 1 := by omega
  rcases this with rfl | rfl <;> simp -implicitDefEqProofs [atI, ixN]
theorem pick3 {x y z : D} {i : Int} {S : Store} (h0 : 0 ≤ i) (h : i < 3) : ixD (.lst [x, y, z]) (.int i) S = .ok (if i = 0 then x else if i = 1 then y else z, S) := by
  have : i = 0 ∨ i = 1 ∨ i = 2 := by omega
  rcases this with rfl | rfl | rfl <;> simp -implicitDefEqProofs [atI, ixN]
theorem pick6 {x y z u v w : D} {i : Int} {S : Store} (h0 : 0 ≤ i) (h : i < 6) : ixD (.lst [x, y, z, u, v, w]) (.int i) S = .ok (if i = 0 then x else if i = 1 then y else if i = 2 then z else if i = 3 then u else if i = 4 then v else w, S) := by
  have : i = 0 ∨ i = 1 ∨ i = 2 ∨ i = 3 ∨ i = 4 ∨ i = 5 := by omega
  rcases this with rfl | rfl | rfl | rfl | rfl | rfl <;> simp -implicitDefEqProofs [atI, ixN]
theorem ite_int (p : Prop) [Decidable p] (x y : Int) : (if p then D.int x else D.int y) = D.int (if p then x else y) := by split <;> rfl
theorem entries_s (n : Nat) (many : Int) (b : Bx) (nd : D) (rest : Store) (h1 : 0 < many) (h2 : many ≤ 10000000000000000000000000000000) : ∃ (es : List (Int × Int × Int)) (b' : Bx),
    sem (n + 3) .law_entries_ [.ref 1, .int many] (bst b nd rest) = .ok (.tup (es.map entD), bst b' nd rest) ∧ es.length ≤ 21 ∧ ∀ e ∈ es, EntOk many e := by
  have i1 := pick2 (x := .int 21) (y := .int (dr b 22)) (S := bst (nx (nx b 22) 2) nd rest) (dr_lo (nx b 22) (m := 2) (by omega)) (dr_hi (nx b 22) (m := 2) (by omega))
  rw [ite_int] at i1
  generalize hk : (if dr (nx b 22) 2 = 0 then (21 : Int) else dr b 22) = k at i1
  have hk0 : 0 ≤ k := by have := dr_lo b (m := 22) (by omega); subst hk; split <;> omega
  have hk1 : k ≤ 21 := by have := dr_hi b (m := 22) (by omega); subst hk; split <;> omega
  have hr : rng1Of [.int k] (bst (nx (nx b 22) 2) nd rest) = _ := rng1_ap hk0 (by omega)
  obtain ⟨ρ', S', hf, es, b', s3, s4, rfl, rfl, hlen, hes⟩ := for_inv0 (fun (i : Nat) => D.int (i : Int)) (tg := tgName 3)
    (body := (sSeq (sSet 4 (MP.e2 ixD (eF (fLst (aCons (eC (.int 1)) (aCons (eC (.int 4294967295)) (aCons (MP.e2 addD (eC (.int 1)) (eN (sem (n + 2) .law_draw_) (aCons (eV 0) (aCons (eC (.int 4294967295)) aNil)))) aNil))))) (eN (sem (n + 2) .law_draw_) (aCons (eV 0) (aCons (eC (.int 3)) aNil)))))
  (sOwn 2 (aCons (eTup (aCons (eN (sem (n + 2) .law_draw_) (aCons (eV 0) (aCons (eV 1) aNil))) (aCons (eV 4) (aCons (MP.e2 ixD (eF (fLst (aCons (eC (.int 0)) (aCons (eC (.int 4294967295)) (aCons (eN (sem (n + 2) .law_draw_) (aCons (eV 0) (aCons (eC (.int 4294967296)) aNil))) aNil))))) (eN (sem (n + 2) .law_draw_) (aCons (eV 0) (aCons (eC (.int 3)) aNil)))) aNil)))) aNil) appO)))
    (fun j ρ S => ∃ es b' s3 s4, ρ = [Slot.val (.ref 1), Slot.val (.int many), Slot.own (es.map entD), s3, s4] ∧ S = bst b' nd rest ∧ es.length = j ∧ ∀ e ∈ es, EntOk many e) (List.range k.toNat)
    (ρ := [Slot.val (.ref 1), Slot.val (.int many), Slot.own [], Slot.no, Slot.no]) (S := bst (nx (nx b 22) 2) nd rest)
    ⟨[], _, _, _, rfl, rfl, rfl, by simp⟩ (by
      rintro j x _ _ hx ⟨es, b', s3, s4, rfl, rfl, hl, he⟩
      have hj : j < k.toNat := by
        have := (List.getElem?_eq_some_iff.mp hx).1
        simpa using this
      refine ⟨_, rfl, ?_⟩
      have j1 := pick3 (x := .int 1) (y := .int 4294967295) (z := .int (1 + dr b' 4294967295)) (S := bst (nx (nx b' 4294967295) 3) nd rest) (dr_lo (nx b' 4294967295) (m := 3) (by omega)) (dr_hi (nx b' 4294967295) (m := 3) (by omega))
      simp only [ite_int] at j1
      generalize ha : nx (nx b' 4294967295) 3 = b2 at j1
      have j2 := pick3 (x := .int 0) (y := .int 4294967295) (z := .int (dr (nx b2 many) 4294967296)) (S := bst (nx (nx (nx b2 many) 4294967296) 3) nd rest) (dr_lo (nx (nx b2 many) 4294967296) (m := 3) (by omega)) (dr_hi (nx (nx b2 many) 4294967296) (m := 3) (by omega))
      simp only [ite_int] at j2
      generalize ham : (if dr (nx b' 4294967295) 3 = 0 then (1 : Int) else if dr (nx b' 4294967295) 3 = 1 then 4294967295 else 1 + dr b' 4294967295) = am at j1
      have ham0 : 0 ≤ am := by
        have := dr_lo b' (m := 4294967295) (by omega)
        subst ham
        split
        · omega
        · split <;> omega
      generalize (if dr (nx (nx b2 many) 4294967296) 3 = 0 then (0 : Int) else if dr (nx (nx b2 many) 4294967296) 3 = 1 then 4294967295 else dr (nx b2 many) 4294967296) = am2 at j2
      refine ⟨[Slot.val (.ref 1), Slot.val (.int many), Slot.own ((es ++ [(dr b2 many, am, am2)]).map entD), .val (.int x), .val (.int am)], bst (nx (nx (nx b2 many) 4294967296) 3) nd rest, ?_, _, _, _, _, rfl, rfl, by simp -implicitDefEqProofs [hl], ?_⟩
      · simp -implicitDefEqProofs [draw_s, h1, h2, sizeLine_val, j1, ha, j2, appO, entD, -ix_lst']
        rw [if_pos (by omega)]
      · intro e he'
        rcases List.mem_append.mp he' with h | h
        · exact he e h
        · rw [List.mem_singleton] at h
          subst h
          exact ⟨dr_lo b2 h1, dr_hi b2 h1, ham0⟩)
  refine ⟨es, b', ?_, by rw [hlen]; simp; omega, hes⟩
  show runF 5 (b_law_entries_ (sem (n + 2))) _ _ = _
  simp -implicitDefEqProofs [runF, b_law_entries_, draw_s, sizeLine_val, i1, hr, hf, -ix_lst']

theorem toPs_ints : ∀ ws : List Int, toPs (ws.map D.int) = some (ws.map PyData.int)
  | [] => rfl
  | w :: ws => by rw [List.map_cons, toPs, toPs_ints ws]; rfl
theorem lay_ints : ∀ ws : List Int, PyData.canLayAll0 (ws.map PyData.int) = true
  | [] => rfl
  | w :: ws => by rw [List.map_cons, PyData.canLayAll0, lay_ints ws]; rfl
theorem dep_ints : ∀ ws : List Int, PyData.depthAll (ws.map PyData.int) ≤ 1
  | [] => by simp [PyData.depthAll]
  | w :: ws => by have := dep_ints ws; simp [PyData.depthAll, PyData.depth]; omega
theorem ne_nil (ws : List Int) (S : Store) : neD (.lst (ws.map D.int)) (.lst []) S = .ok (.bl (!ws.isEmpty), S) := by
  have e : eqB (.lst (ws.map D.int)) (.lst []) = .ok ws.isEmpty := by
    unfold eqB
    simp only [scalD, toP, toPs, toPs_ints, Option.map_some]
    have h : (SeqAt.shaped (.list (ws.map PyData.int)) && SeqAt.shaped (.list [])) = true := by
      have := dep_ints ws
      simp [SeqAt.shaped, PyData.canLay0, lay_ints, PyData.depth, PyData.canLayAll0, PyData.depthAll]
      omega
    rw [if_pos h]
    cases ws <;> rfl
  unfold neD
  rw [e]
  rfl
theorem words_s (n : Nat) (many pot : Int) (b : Bx) (nd : D) (rest : Store) (h1 : 0 < many) (h2 : many ≤ 10000000000000000000000000000000) (hp : 0 ≤ pot) : ∃ (ws : List Int) (b' : Bx),
    sem (n + 3) .law_words_ [.ref 1, .int many, .int pot] (bst b nd rest) = .ok (.tup (ws.map D.int), bst b' nd rest) ∧ ws.length ≤ 1024 ∧ ∀ w ∈ ws, 0 ≤ w := by
  have i0 := pick3 (x := .int 3) (y := .int 50) (z := .int 4294967296) (S := bst (nx b 3) nd rest) (dr_lo b (m := 3) (by omega)) (dr_hi b (m := 3) (by omega))
  simp only [ite_int] at i0
  generalize hs : (if dr b 3 = 0 then (3 : Int) else if dr b 3 = 1 then 50 else 4294967296) = small at i0
  have hs0 : 0 < small := by subst hs; split <;> (try split) <;> omega
  have hs1 : small ≤ 10000000000000000000000000000000 := by subst hs; split <;> (try split) <;> omega
  generalize hb : nx b 3 = b1 at i0
  have i1 := pick2 (x := .int 512) (y := .int (dr b1 513)) (S := bst (nx (nx b1 513) 2) nd rest) (dr_lo (nx b1 513) (m := 2) (by omega)) (dr_hi (nx b1 513) (m := 2) (by omega))
  rw [ite_int] at i1
  generalize hk : (if dr (nx b1 513) 2 = 0 then (512 : Int) else dr b1 513) = k at i1
  have hk0 : 0 ≤ k := by have := dr_lo b1 (m := 513) (by omega); subst hk; split <;> omega
  have hk1 : k ≤ 512 := by have := dr_hi b1 (m := 513) (by omega); subst hk; split <;> omega
  have hr : rng1Of [.int k] (bst (nx (nx b1 513) 2) nd rest) = _ := rng1_ap hk0 (by omega)
  obtain ⟨ρ', S', hf, ws, b', s3, rfl, rfl, hlen, hws⟩ := for_inv0 (fun (i : Nat) => D.int (i : Int)) (tg := tgName 5)
    (body := (sSeq (sOwn 3 (aCons (MP.e2 ixD (eF (fLst (aCons (eN (sem (n + 2) .law_draw_) (aCons (eV 0) (aCons (eV 1) aNil))) (aCons (eV 1) (aCons (eN (sem (n + 2) .law_draw_) (aCons (eV 0) (aCons (eC (.int 4294967296)) aNil))) aNil))))) (MP.e2 ixD (eF (fLst (aCons (eC (.int 0)) (aCons (eC (.int 0)) (aCons (eC (.int 0)) (aCons (eC (.int 0)) (aCons (eC (.int 1)) (aCons (eC (.int 2)) aNil)))))))) (eN (sem (n + 2) .law_draw_) (aCons (eV 0) (aCons (eC (.int 6)) aNil))))) aNil) appO)
  (sOwn 3 (aCons (MP.e2 ixD (eF (fLst (aCons (eN (sem (n + 2) .law_draw_) (aCons (eV 0) (aCons (eV 4) aNil))) (aCons (eN minD (aCons (eV 2) (aCons (eC (.int 4294967295)) aNil))) aNil)))) (eN intD (aCons (MP.e2 eqD (eN (sem (n + 2) .law_draw_) (aCons (eV 0) (aCons (eC (.int 40)) aNil))) (eC (.int 0))) aNil))) aNil) appO)))
    (fun j ρ S => ∃ ws b' s3, ρ = [Slot.val (.ref 1), Slot.val (.int many), Slot.val (.int pot), Slot.own (ws.map D.int), Slot.val (.int small), s3] ∧ S = bst b' nd rest ∧ ws.length = 2 * j ∧ ∀ w ∈ ws, 0 ≤ w) (List.range k.toNat)
    (ρ := [Slot.val (.ref 1), Slot.val (.int many), Slot.val (.int pot), Slot.own [], Slot.val (.int small), Slot.no]) (S := bst (nx (nx b1 513) 2) nd rest)
    ⟨[], _, _, rfl, rfl, rfl, by simp⟩ (by
      rintro j x _ _ hx ⟨ws, b', s3, rfl, rfl, hl, he⟩
      have hj : j < k.toNat := by
        have := (List.getElem?_eq_some_iff.mp hx).1
        simpa using this
      refine ⟨_, rfl, ?_⟩
      generalize hb2 : nx (nx (nx b' many) 4294967296) 6 = b2
      have j1 := pick6 (x := .int 0) (y := .int 0) (z := .int 0) (u := .int 0) (v := .int 1) (w := .int 2) (S := bst b2 nd rest) (dr_lo (nx (nx b' many) 4294967296) (m := 6) (by omega)) (dr_hi (nx (nx b' many) 4294967296) (m := 6) (by omega))
      simp only [ite_int] at j1
      generalize hpk : (if dr (nx (nx b' many) 4294967296) 6 = 0 then (0 : Int) else if dr (nx (nx b' many) 4294967296) 6 = 1 then 0 else if dr (nx (nx b' many) 4294967296) 6 = 2 then 0 else if dr (nx (nx b' many) 4294967296) 6 = 3 then 0 else if dr (nx (nx b' many) 4294967296) 6 = 4 then 1 else 2) = pk at j1
      have hpk0 : 0 ≤ pk ∧ pk < 3 := by subst hpk; repeat' split <;> omega
      have j2 := pick3 (x := .int (dr b' many)) (y := .int many) (z := .int (dr (nx b' many) 4294967296)) (S := bst b2 nd rest) hpk0.1 hpk0.2
      simp only [ite_int] at j2
      generalize hw : (if pk = 0 then dr b' many else if pk = 1 then many else dr (nx b' many) 4294967296) = w1 at j2
      have hw0 : 0 ≤ w1 := by
        have := dr_lo b' h1
        have := dr_lo (nx b' many) (m := 4294967296) (by omega)
        subst hw; repeat' split <;> omega
      generalize hb3 : nx (nx b2 small) 40 = b3
      have j3 := pick2 (x := .int (dr b2 small)) (y := .int (if 4294967295 < pot then 4294967295 else pot)) (i := if dr (nx b2 small) 40 = 0 then 1 else 0) (S := bst b3 nd rest) (by split <;> omega) (by split <;> omega)
      simp only [ite_int] at j3
      generalize hw2 : (if (if dr (nx b2 small) 40 = 0 then (1 : Int) else 0) = 0 then dr b2 small else if 4294967295 < pot then 4294967295 else pot) = w2 at j3
      have hw20 : 0 ≤ w2 := by
        have := dr_lo b2 hs0
        subst hw2
        repeat' split <;> omega
      refine ⟨[Slot.val (.ref 1), Slot.val (.int many), Slot.val (.int pot), Slot.own ((ws ++ [w1, w2]).map D.int), Slot.val (.int small), .val (.int x)], bst b3 nd rest, ?_, _, _, _, rfl, rfl, by simp -implicitDefEqProofs [hl]; omega, ?_⟩
      · simp -implicitDefEqProofs [draw_s, h1, h2, hs0, hs1, sizeLine_val, hb2, j1, j2, hb3, j3, appO, -ix_lst']
        rw [if_pos (by omega)]
        simp -implicitDefEqProofs [draw_s, h1, h2, hs0, hs1, sizeLine_val, hb2, j1, j2, hb3, j3, appO, -ix_lst']
        rw [if_pos (by omega)]
      · intro e he'
        rcases List.mem_append.mp he' with h | h
        · exact he e h
        · simp only [List.mem_cons, List.not_mem_nil, or_false] at h
          rcases h with rfl | rfl
          · exact hw0
          · exact hw20)
  rw [List.length_range] at hlen
  by_cases hd : dr b' 6 = 0 ∧ ws ≠ []
  · refine ⟨ws.dropLast, nx b' 6, ?_, by rw [List.length_dropLast]; omega, fun w hw => hws w (List.dropLast_subset _ hw)⟩
    have he : ws.isEmpty = false := by
      cases ws with
      | nil => exact absurd rfl hd.2
      | cons => rfl
    show runF 6 (b_law_words_ (sem (n + 2))) _ _ = _
    simp -implicitDefEqProofs [runF, b_law_words_, draw_s, sizeLine_val, i0, hb, i1, hr, hf, hd.1, hd.2, ne_nil, he, popO, -ix_lst', List.map_dropLast]
  · refine ⟨ws, nx b' 6, ?_, by omega, hws⟩
    show runF 6 (b_law_words_ (sem (n + 2))) _ _ = _
    by_cases h0 : dr b' 6 = 0
    · have he : ws = [] := Classical.byContradiction fun z => hd ⟨h0, z⟩
      subst he
      simp -implicitDefEqProofs only [List.map_nil] at hf
      have en := ne_nil []
      simp -implicitDefEqProofs only [List.map_nil] at en
      simp -implicitDefEqProofs [runF, b_law_words_, draw_s, sizeLine_val, i0, hb, i1, hr, hf, h0, en, -ix_lst']
    · simp -implicitDefEqProofs [runF, b_law_words_, draw_s, sizeLine_val, i0, hb, i1, hr, hf, h0, -ix_lst']
end TX
namespace TX
open PySem MP L2
def memD (k : Nat) : D := .str ("member" ++ toString (k : Int))
def pairD (p : Nat × Int) : D := .tup [memD p.1, .int p.2]
theorem sum_map {α : Type} (f : α → Int) (xs : List α) {S : Store} : sumD [.lst (xs.map fun x => D.int (f x))] S = .ok (.int (xs.map f).sum, S) := by
  have := sum_int (S := S) (xs.map f)
  rw [List.map_map] at this
  exact this
/-- one pair of words -/
def pstep (M : Nat) (ws : List Int) (acc : Int × List (Nat × Int)) (k : Nat) : Int × List (Nat × Int) :=
  let w := ws.getD (2 * k) 0
  let v := ws.getD (2 * k + 1) 0
  if w < M then
    let a := if acc.1 < v then acc.1 else v
    (acc.1 - a, acc.2 ++ [(w.toNat, a)])
  else acc
def pays (M : Nat) (ws : List Int) (left : Int) : Nat → Int × List (Nat × Int)
  | 0 => (left, [])
  | k + 1 => pstep M ws (pays M ws left k) k
def outF (M : Nat) (rest : Int) (es : List (Int × Int × Int)) (st : Int) (ws : List Int) : Int × List (Nat × Int) :=
  if st ≠ 1 ∨ ws.length % 2 = 1 then (rest, es.map fun e => (e.1.toNat, e.2.1)) else pays M ws (rest + (es.map (·.2.1)).sum) (ws.length / 2)
theorem pays_sum (M : Nat) (ws : List Int) (left : Int) : ∀ k, ((pays M ws left k).2.map (·.2)).sum + (pays M ws left k).1 = left
  | 0 => by simp [pays]
  | k + 1 => by
    have := pays_sum M ws left k
    unfold pays pstep
    dsimp only
    split
    · simp
      omega
    · exact this
theorem out_sum (M : Nat) (rest : Int) (es : List (Int × Int × Int)) (st : Int) (ws : List Int) : ((outF M rest es st ws).2.map (·.2)).sum + (outF M rest es st ws).1 = rest + (es.map (·.2.1)).sum := by
  unfold outF
  split
  · simp [List.map_map, Function.comp_def]
    omega
  · exact pays_sum _ _ _ _
theorem pays_len (M : Nat) (ws : List Int) (left : Int) : ∀ k, (pays M ws left k).2.length ≤ k
  | 0 => by simp [pays]
  | k + 1 => by
    have := pays_len M ws left k
    unfold pays pstep
    dsimp only
    split
    · simp
      omega
    · omega
theorem mem_at {M : Nat} {z : Int} (h0 : 0 ≤ z) (h1 : z < M) : atI ((List.range M).map memD) z = some (memD z.toNat) := by
  have := atI_of (xs := (List.range M).map memD) (k := z) (n := z.toNat) (by omega) (by simp; omega)
  rw [this]
  simp
theorem ints_at {ws : List Int} {i : Nat} (h : i < ws.length) : atI (ws.map D.int) (i : Int) = some (D.int (ws.getD i 0)) := by
  have := atI_of (xs := ws.map D.int) (k := (i : Int)) (n := i) rfl (by simpa using h)
  rw [this]
  simp [List.getD_eq_getElem?_getD, List.getElem?_eq_getElem h]
theorem sum_lc (es : List (Int × Int × Int)) (he : es.length ≤ 21) {ρ : MP.Env} {S : Store} (h9 : 9 < ρ.length) : lcF (tgName 9) tYesF (MP.e2 ixD (eV 9) (eC (.int 1))) ρ (es.map entD) S [] = .ok (es.map fun e => D.int e.2.1, S) := by
  have := lc_map (tg := tgName 9) (e := MP.e2 ixD (eV 9) (eC (.int 1))) (ρ := ρ) (S := S) entD (fun e => D.int e.2.1) es [] (by simp [sizeLine_val]; omega) (fun e _ => ⟨_, rfl, by simp [h9, entD, atI, ixN]⟩)
  rw [this, List.nil_append]
theorem pair_lc (M : Nat) (es : List (Int × Int × Int)) (he : es.length ≤ 21) (hes : ∀ e ∈ es, EntOk M e) {ρ : MP.Env} {S : Store} (h9 : 9 < ρ.length) (h0 : ρ[0]? = some (.val (.tup ((List.range M).map memD)))) :
    lcF (tgName 9) tYesF (eTup (aCons (MP.e2 ixD (eV 0) (MP.e2 ixD (eV 9) (eC (.int 0)))) (aCons (MP.e2 ixD (eV 9) (eC (.int 1))) aNil))) ρ (es.map entD) S [] = .ok (es.map fun e => pairD (e.1.toNat, e.2.1), S) := by
  have := lc_map (tg := tgName 9) (e := eTup (aCons (MP.e2 ixD (eV 0) (MP.e2 ixD (eV 9) (eC (.int 0)))) (aCons (MP.e2 ixD (eV 9) (eC (.int 1))) aNil))) (ρ := ρ) (S := S) entD (fun e => pairD (e.1.toNat, e.2.1)) es [] (by simp [sizeLine_val]; omega) (fun e h => ⟨_, rfl, by
    have hm := mem_at (hes e h).a (hes e h).b
    have a0 : atI [D.int e.fst, D.int e.snd.fst, D.int e.snd.snd] 0 = some (D.int e.fst) := rfl
    have a1 : atI [D.int e.fst, D.int e.snd.fst, D.int e.snd.snd] 1 = some (D.int e.snd.fst) := rfl
    simp -implicitDefEqProofs [h9, h0, entD, a0, a1, hm, sizeLine_val, pairD]⟩)
  rw [this, List.nil_append]
theorem due_s (n M : Nat) (rest st : Int) (es : List (Int × Int × Int)) (ws : List Int) (S : Store) (he : es.length ≤ 21) (hes : ∀ e ∈ es, EntOk M e) (hw : ws.length ≤ 1024) (hws : ∀ w ∈ ws, 0 ≤ w) :
    sem (n + 1) .law_due_ [.tup ((List.range M).map memD), .int rest, .tup (es.map entD), .int st, .tup (ws.map D.int)] S = .ok (.tup [.lst ((outF M rest es st ws).2.map pairD), .int (outF M rest es st ws).1], S) := by
  show runF 10 (b_law_due_ (sem n)) _ _ = _
  by_cases hc : st ≠ 1 ∨ ws.length % 2 = 1
  · have ho : outF M rest es st ws = (rest, es.map fun e => (e.1.toNat, e.2.1)) := if_pos hc
    have hp := pair_lc M es he hes (ρ := [Slot.val (.tup ((List.range M).map memD)), Slot.val (.int rest), Slot.val (.tup (es.map entD)), Slot.val (.int st), Slot.val (.tup (ws.map D.int)), Slot.no, Slot.no, Slot.no, Slot.no, Slot.no]) (S := S) (by simp) (by simp)
    rw [ho]
    by_cases h1 : st = 1
    · subst h1
      have h2 : ((ws.length : Int) % 2 = 1) := by have := hc.resolve_left (by simp); omega
      simp -implicitDefEqProofs [runF, b_law_due_, mod_int', h2, hp, sizeLine_val, Function.comp_def]
    · simp -implicitDefEqProofs [runF, b_law_due_, h1, hp, sizeLine_val, Function.comp_def]
  · have hst : st = 1 := Classical.byContradiction fun z => hc (.inl z)
    have hev : ws.length % 2 = 0 := by have : ¬ ws.length % 2 = 1 := fun z => hc (.inr z); omega
    subst hst
    have ho : outF M rest es 1 ws = pays M ws (rest + (es.map (·.2.1)).sum) (ws.length / 2) := if_neg hc
    rw [ho]
    generalize hleft : rest + (es.map (·.2.1)).sum = left
    have hsum := sum_lc es he (ρ := [Slot.val (.tup ((List.range M).map memD)), Slot.val (.int rest), Slot.val (.tup (es.map entD)), Slot.val (.int 1), Slot.val (.tup (ws.map D.int)), Slot.no, Slot.no, Slot.no, Slot.no, Slot.no]) (S := S) (by simp)
    obtain ⟨ρ', S', hf, s7, s8, s9, rfl, rfl⟩ := for_inv0 (fun (i : Nat) => D.int (i : Int)) (tg := tgName 7)
      (body := (sIf (tE (MP.e2 ltD (MP.e2 ixD (eV 4) (MP.e2 mulD (eC (.int 2)) (eV 7))) (eN lenD (aCons (eV 0) aNil)))) (sSeq (sSet 8 (eN minD (aCons (MP.e2 ixD (eV 4) (MP.e2 addD (MP.e2 mulD (eC (.int 2)) (eV 7)) (eC (.int 1)))) (aCons (eV 5) aNil))))
  (sSeq (sOwn 6 (aCons (eTup (aCons (MP.e2 ixD (eV 0) (MP.e2 ixD (eV 4) (MP.e2 mulD (eC (.int 2)) (eV 7)))) (aCons (eV 8) aNil))) aNil) appO)
  (sSet 5 (MP.e2 subD (eV 5) (eV 8))))) sNil))
      (fun j ρ S' => ∃ s7 s8 s9, ρ = [Slot.val (.tup ((List.range M).map memD)), Slot.val (.int rest), Slot.val (.tup (es.map entD)), Slot.val (.int 1), Slot.val (.tup (ws.map D.int)), Slot.val (.int (pays M ws left j).1), Slot.own ((pays M ws left j).2.map pairD), s7, s8, s9] ∧ S = S') (List.range (ws.length / 2))
      (ρ := [Slot.val (.tup ((List.range M).map memD)), Slot.val (.int rest), Slot.val (.tup (es.map entD)), Slot.val (.int 1), Slot.val (.tup (ws.map D.int)), Slot.val (.int left), Slot.own [], Slot.no, Slot.no, Slot.no]) (S := S)
      ⟨_, _, _, rfl, rfl⟩ (by
        rintro j x _ _ hx ⟨s7, s8, s9, rfl, rfl⟩
        obtain ⟨hj, hxj⟩ := List.getElem?_eq_some_iff.mp hx
        rw [List.length_range] at hj
        rw [List.getElem_range] at hxj
        subst hxj
        refine ⟨_, rfl, ?_⟩
        have a0 := ints_at (ws := ws) (i := 2 * j) (by omega)
        have a1 := ints_at (ws := ws) (i := 2 * j + 1) (by omega)
        have hl := pays_len M ws left j
        generalize hw0 : ws.getD (2 * j) 0 = w at a0
        generalize hw1 : ws.getD (2 * j + 1) 0 = v at a1
        have hw : 0 ≤ w := by
          rw [← hw0, List.getD_eq_getElem?_getD, List.getElem?_eq_getElem (by omega)]
          exact hws _ (List.getElem_mem _)
        rw [Int.natCast_mul] at a0
        rw [Int.natCast_add, Int.natCast_mul] at a1
        simp -implicitDefEqProofs at a0 a1
        by_cases hlt : w < M
        · have e : pays M ws left (j + 1) = _ := if_pos (by rw [hw0]; exact hlt)
          rw [e]
          dsimp only
          rw [hw0, hw1]
          have hm := mem_at hw hlt
          refine ⟨_, _, ?_, .val (.int (j : Int)), .val (.int (if (pays M ws left j).1 < v then (pays M ws left j).1 else v)), s9, rfl, rfl⟩
          simp -implicitDefEqProofs [mulKl, a0, a1, hlt, hm, sizeLine_val, appO, pairD, (show (pays M ws left j).2.length < 16777216 by omega)]
        · have e : pays M ws left (j + 1) = _ := if_neg (by rw [hw0]; exact hlt)
          rw [e]
          refine ⟨_, _, ?_, .val (.int (j : Int)), s8, s9, rfl, rfl⟩
          simp -implicitDefEqProofs [mulKl, a0, a1, hlt, sizeLine_val])
    rw [List.length_range] at hf
    have hr : rng1Of [.int ((ws.length : Int) / 2)] S = _ := rng1_ap (by omega) (by omega)
    rw [show ((ws.length : Int) / 2).toNat = ws.length / 2 by omega] at hr
    have hd := div_int' (x := (ws.length : Int)) (y := 2) (S := S) (by omega) (by decide)
    have hmod : (ws.length : Int) % 2 = 0 := by omega
    simp -implicitDefEqProofs [runF, b_law_due_, mod_int', hmod, hsum, sum_map, hleft, sizeLine_val, hd, hr, hf]
theorem rs2 (L : Nat) (h : L ≤ 1024) : (Builtin.Range.rangeSize 0 (L : Int) 2).toNat = (L + 1) / 2 ∧ Builtin.Range.small 0 (L : Int) 2 = true := by
  have e : Builtin.Range.rangeSize 0 (L : Int) 2 = ((L + 1) / 2 : Nat) := by
    unfold Builtin.Range.rangeSize
    simp only [show (2 : Int) > 0 from by decide, if_true]
    split <;> omega
  refine ⟨by rw [e]; rfl, ?_⟩
  unfold Builtin.Range.small
  rw [e]
  simp [Builtin.Range.rangeFitsLong]
  omega
theorem rng3_two (L : Nat) (h : L ≤ 1024) (S : Store) : rng3Of [.int 0, .int (L : Int), .int 2] S = .ok (rngI 0 2 ((L + 1) / 2), S) := by
  obtain ⟨hrs, hsm⟩ := rs2 L h
  unfold rng3Of
  dsimp only
  rw [hsm, hrs]
  rfl
theorem pay_s (n M : Nat) (rest st : Int) (es : List (Int × Int × Int)) (ws : List Int) (S : Store) (he : es.length ≤ 21) (hes : ∀ e ∈ es, EntOk M e) (hw : ws.length ≤ 1024) (hws : ∀ w ∈ ws, 0 ≤ w) :
    sem (n + 1) .payments [.tup ((List.range M).map memD), .int rest, .tup (es.map entD), .int st, .tup (ws.map D.int)] S = .ok (.tup [.tup ((outF M rest es st ws).2.map pairD), .int (outF M rest es st ws).1], S) := by
  show runF 10 (b_payments (sem n)) _ _ = _
  by_cases hc : st ≠ 1 ∨ ws.length % 2 = 1
  · have ho : outF M rest es st ws = (rest, es.map fun e => (e.1.toNat, e.2.1)) := if_pos hc
    have hp := pair_lc M es he hes (ρ := [Slot.val (.tup ((List.range M).map memD)), Slot.val (.int rest), Slot.val (.tup (es.map entD)), Slot.val (.int st), Slot.val (.tup (ws.map D.int)), Slot.no, Slot.no, Slot.no, Slot.no, Slot.no]) (S := S) (by simp) (by simp)
    rw [ho]
    by_cases h1 : st = 1
    · subst h1
      have h2 : ((ws.length : Int) % 2 = 1) := by have := hc.resolve_left (by simp); omega
      simp -implicitDefEqProofs [runF, b_payments, mod_int', h2, hp, sizeLine_val, Function.comp_def]
    · simp -implicitDefEqProofs [runF, b_payments, h1, hp, sizeLine_val, Function.comp_def]
  · have hst : st = 1 := Classical.byContradiction fun z => hc (.inl z)
    have hev : ws.length % 2 = 0 := by have : ¬ ws.length % 2 = 1 := fun z => hc (.inr z); omega
    subst hst
    have ho : outF M rest es 1 ws = pays M ws (rest + (es.map (·.2.1)).sum) (ws.length / 2) := if_neg hc
    rw [ho]
    generalize hleft : rest + (es.map (·.2.1)).sum = left
    have hsum := sum_lc es he (ρ := [Slot.val (.tup ((List.range M).map memD)), Slot.val (.int rest), Slot.val (.tup (es.map entD)), Slot.val (.int 1), Slot.val (.tup (ws.map D.int)), Slot.no, Slot.no, Slot.no, Slot.no, Slot.no]) (S := S) (by simp)
    obtain ⟨ρ', S', hf, s7, s8, s9, rfl, rfl⟩ := for_inv0 (fun (i : Nat) => D.int (0 + (i : Int) * 2)) (tg := tgName 7)
      (body := (sIf (tE (MP.e2 ltD (MP.e2 ixD (eV 4) (eV 7)) (eN lenD (aCons (eV 0) aNil)))) (sSeq (sSet 8 (eN minD (aCons (MP.e2 ixD (eV 4) (MP.e2 addD (eV 7) (eC (.int 1)))) (aCons (eV 5) aNil))))
  (sSeq (sOwn 6 (aCons (eTup (aCons (MP.e2 ixD (eV 0) (MP.e2 ixD (eV 4) (eV 7))) (aCons (eV 8) aNil))) aNil) appO)
  (sSet 5 (MP.e2 subD (eV 5) (eV 8))))) sNil))
      (fun j ρ S' => ∃ s7 s8 s9, ρ = [Slot.val (.tup ((List.range M).map memD)), Slot.val (.int rest), Slot.val (.tup (es.map entD)), Slot.val (.int 1), Slot.val (.tup (ws.map D.int)), Slot.val (.int (pays M ws left j).1), Slot.own ((pays M ws left j).2.map pairD), s7, s8, s9] ∧ S = S') (List.range (ws.length / 2))
      (ρ := [Slot.val (.tup ((List.range M).map memD)), Slot.val (.int rest), Slot.val (.tup (es.map entD)), Slot.val (.int 1), Slot.val (.tup (ws.map D.int)), Slot.val (.int left), Slot.own [], Slot.no, Slot.no, Slot.no]) (S := S)
      ⟨_, _, _, rfl, rfl⟩ (by
        rintro j x _ _ hx ⟨s7, s8, s9, rfl, rfl⟩
        obtain ⟨hj, hxj⟩ := List.getElem?_eq_some_iff.mp hx
        rw [List.length_range] at hj
        rw [List.getElem_range] at hxj
        subst hxj
        refine ⟨_, rfl, ?_⟩
        have a0 := ints_at (ws := ws) (i := 2 * j) (by omega)
        have a1 := ints_at (ws := ws) (i := 2 * j + 1) (by omega)
        have hl := pays_len M ws left j
        generalize hw0 : ws.getD (2 * j) 0 = w at a0
        generalize hw1 : ws.getD (2 * j + 1) 0 = v at a1
        have hw : 0 ≤ w := by
          rw [← hw0, List.getD_eq_getElem?_getD, List.getElem?_eq_getElem (by omega)]
          exact hws _ (List.getElem_mem _)
        rw [show ((2 * j : Nat) : Int) = 0 + (j : Int) * 2 by omega] at a0
        rw [show ((2 * j + 1 : Nat) : Int) = 0 + (j : Int) * 2 + 1 by omega] at a1
        generalize (0 + (j : Int) * 2) = z at a0 a1
        by_cases hlt : w < M
        · have e : pays M ws left (j + 1) = _ := if_pos (by rw [hw0]; exact hlt)
          rw [e]
          dsimp only
          rw [hw0, hw1]
          have hm := mem_at hw hlt
          refine ⟨_, _, ?_, .val (.int z), .val (.int (if (pays M ws left j).1 < v then (pays M ws left j).1 else v)), s9, rfl, rfl⟩
          simp -implicitDefEqProofs [a0, a1, hlt, hm, sizeLine_val, appO, pairD, (show (pays M ws left j).2.length < 16777216 by omega)]
        · have e : pays M ws left (j + 1) = _ := if_neg (by rw [hw0]; exact hlt)
          rw [e]
          refine ⟨_, _, ?_, .val (.int z), s8, s9, rfl, rfl⟩
          simp -implicitDefEqProofs [a0, a1, hlt, sizeLine_val])
    rw [List.length_range] at hf
    have hr := rng3_two ws.length hw S
    rw [show (ws.length + 1) / 2 = ws.length / 2 by omega] at hr
    unfold rngI at hr
    have hmod : (ws.length : Int) % 2 = 0 := by omega
    simp only [Int.zero_add] at hr hf
    simp -implicitDefEqProofs [runF, b_payments, mod_int', hmod, hsum, sum_map, hleft, sizeLine_val, hr, hf]
end TX
namespace TX
open PySem MP L2
theorem lc2_map {α : Type} (h : α → D) (g : α → List D) {tg tg1 : TGT} {vs1 : List Nat} {it1 : FI} {e : FE} {ρ : MP.Env} {S : Store} : ∀ (xs : List α) (acc : List D), acc.length + (xs.flatMap g).length ≤ sizeLine → (∀ x ∈ xs, ∃ ρ1, tg (h x) ρ = some ρ1 ∧ ∃ ys : List D, it1 ρ1 S = .ok (ys, S) ∧ ys = g x ∧ ∀ y ∈ ys, ∃ ρ2, tg1 y (wipeE ρ1 vs1) = some ρ2 ∧ e ρ2 S = .ok (y, S)) →
    lc2F tg tYesF it1 tg1 tYesF e vs1 ρ (xs.map h) S acc = .ok (acc ++ xs.flatMap g, S)
  | [], acc, _, _ => by simp [lc2F]
  | x :: xs, acc, hl, hx => by
    obtain ⟨ρ1, h1, ys, h2, h3, h4⟩ := hx x (by simp)
    simp only [List.flatMap_cons, List.length_append] at hl
    have i1 := lc_map (α := D) id id (tg := tg1) (e := e) (ρ := wipeE ρ1 vs1) (S := S) ys acc (by rw [h3]; omega) h4
    simp only [List.map_id] at i1
    have := lc2_map h g xs (acc ++ ys) (by rw [List.length_append, h3]; omega) fun y hy => hx y (List.mem_cons_of_mem _ hy)
    simp only [List.map_cons, lc2F, h1, tYes_ap, rnox_ok, rbind_ok, if_true, h2, i1, this]
    rw [h3]
    simp
def flatE (es : List (Int × Int × Int)) : List D := es.flatMap fun e => [D.int e.1, .int e.2.1, .int e.2.2]
theorem flatE_len (es : List (Int × Int × Int)) : (flatE es).length = 3 * es.length := by
  unfold flatE
  induction es with
  | nil => rfl
  | cons e es ih => simp only [List.flatMap_cons, List.length_append, ih]; simp; omega
theorem input_s (n : Nat) (es : List (Int × Int × Int)) (he : es.length ≤ 21) (S : Store) : sem (n + 1) .input_of [.tup (es.map entD)] S = .ok (.tup (flatE es), S) := by
  have hl := flatE_len es
  have := lc2_map (tg := tgName 1) (tg1 := tgName 2) (vs1 := [2]) (it1 := iSeq (eV 1)) (e := eV 2) (ρ := [Slot.val (.tup (es.map entD)), Slot.no, Slot.no]) (S := S) entD (fun e => [D.int e.1, .int e.2.1, .int e.2.2]) es [] (by show 0 + (flatE es).length ≤ _; rw [sizeLine_val]; omega) (fun e _ => ⟨_, rfl, _, rfl, rfl, fun y _ => ⟨_, rfl, rfl⟩⟩)
  rw [List.nil_append] at this
  show runF 3 (b_input_of (sem n)) _ _ = _
  simp -implicitDefEqProofs [runF, b_input_of, this]
  rfl
theorem pl_ints {n : Nat} : ∀ d ∈ flatE es, Pl n d := by
  intro d hd
  unfold flatE at hd
  simp only [List.mem_flatMap, List.mem_cons, List.not_mem_nil, or_false] at hd
  obtain ⟨e, _, rfl | rfl | rfl⟩ := hd <;> exact .int _
theorem same_s4 (n : Nat) (d : D) (S : Store) (h : Pl 3 d) : sem (n + 4) .law_same_ [d, d] S = .ok (.bl true, S) := by
  have := same_s 3 n d S h
  rw [show 3 + 1 + n = n + 4 by omega] at this
  exact this
theorem pl_pair {n : Nat} (p : Nat × Int) : Pl (n + 1) (pairD p) := .tup (by simp [sizeLine_val]) fun d hd => by
  simp only [List.mem_cons, List.not_mem_nil, or_false] at hd
  rcases hd with rfl | rfl
  · exact .str _
  · exact .int _
theorem out_len (M : Nat) (rest : Int) (es : List (Int × Int × Int)) (st : Int) (ws : List Int) (he : es.length ≤ 21) (hw : ws.length ≤ 1024) : (outF M rest es st ws).2.length ≤ 600 := by
  unfold outF
  split
  · simp; omega
  · have := pays_len M ws (rest + (es.map (·.2.1)).sum) (ws.length / 2); omega
theorem mem_len : ∀ k : Fin 16, (Str.ofString "member").length + (Str.ofString (toString ((k.val : Nat) : Int))).length ≤ 16 := by decide +kernel
theorem str_k {k : Nat} (h : k < 16) (S : Store) : strD [.int (k : Int)] S = .ok (.str (toString (k : Int)), S) := by
  have : ((k : Int).natAbs.log2) < 1920 := by
    have := Nat.log2_le_self k
    rw [Int.natAbs_natCast]
    omega
  show (if _ then R.ok (D.str (toString (k : Int)), S) else .stuck) = _
  rw [if_pos this]
theorem sums_nonneg : ∀ (es : List (Int × Int × Int)) (M : Int), (∀ e ∈ es, EntOk M e) → 0 ≤ (es.map (·.2.1)).sum
  | [], _, _ => by simp
  | e :: es, M, h => by
    have := sums_nonneg es M fun x hx => h x (List.mem_cons_of_mem _ hx)
    have := (h e (by simp)).c
    simp
    omega
theorem main' (n : Nat) (ns : List Int) (hl : ns.length ≤ 63) : ∃ S, sem (n + 5) .law [.fls (ns.map D.int)] [] = .ok (.bl true, S) := by
  have hbox := box_s (n + 3) ns (.int 0) hl
  generalize hb0 : (⟨ns, 0, 4711 + ns.length⟩ : Bx) = b at hbox
  generalize hb1 : nx (nx b 16) 2 = b1
  have i1 := pick2 (x := .int 16) (y := .int (1 + dr b 16)) (S := bst b1 (.int 0) []) (dr_lo (nx b 16) (m := 2) (by omega)) (dr_hi (nx b 16) (m := 2) (by omega))
  rw [ite_int] at i1
  generalize hm : (if dr (nx b 16) 2 = 0 then (16 : Int) else 1 + dr b 16) = many at i1
  have hm0 : 0 < many := by have := dr_lo b (m := 16) (by omega); subst hm; split <;> omega
  have hm1 : many ≤ 16 := by have := dr_hi b (m := 16) (by omega); subst hm; split <;> omega
  obtain ⟨M, rfl⟩ : ∃ M : Nat, many = (M : Int) := ⟨many.toNat, by omega⟩
  have hM : M ≤ 16 := by omega
  have hrm : rng1Of [.int (M : Int)] (bst b1 (.int 0) []) = _ := rng1_ap (by omega) (by omega)
  rw [Int.toNat_natCast] at hrm
  have hmem := lc_map (tg := tgName 14) (e := MP.e2 addD (eC (.str "member")) (eN strD (aCons (eV 14) aNil))) (ρ := [Slot.val (.fls (ns.map D.int)), Slot.val (.ref 1), Slot.val (.int (M : Int)), Slot.no, Slot.no, Slot.no, Slot.no, Slot.no, Slot.no, Slot.no, Slot.no, Slot.no, Slot.no, Slot.no, Slot.no, Slot.no, Slot.no]) (S := bst b1 (.int 0) []) (fun (i : Nat) => D.int (i : Int)) memD (List.range M) [] (by simp [sizeLine_val]; omega) (fun k hk => ⟨_, rfl, by
    rw [List.mem_range] at hk
    have h1 := str_k (k := k) (by omega) (bst b1 (.int 0) [])
    have h2 := mem_len ⟨k, by omega⟩
    simp only at h2
    have h3 : (Str.ofString "member").length + (Str.ofString (toString (k : Int))).length ≤ sizeLine := Nat.le_trans h2 (by decide)
    simp -implicitDefEqProofs [h1, addD, memD]
    exact h3⟩)
  rw [List.nil_append] at hmem
  have hpow : powD (.int 10) (.int 30) (bst (nx b1 1000) (.int 0) []) = .ok (.int 1000000000000000000000000000000, bst (nx b1 1000) (.int 0) []) := rfl
  generalize hb2 : nx (nx (nx b1 1000) 1000000000000000000000000000000) 3 = b2
  have i2 := pick3 (x := .int 0) (y := .int (dr b1 1000)) (z := .int (dr (nx b1 1000) 1000000000000000000000000000000)) (S := bst b2 (.int 0) []) (dr_lo (nx (nx b1 1000) 1000000000000000000000000000000) (m := 3) (by omega)) (dr_hi (nx (nx b1 1000) 1000000000000000000000000000000) (m := 3) (by omega))
  simp only [ite_int] at i2
  generalize hrest : (if dr (nx (nx b1 1000) 1000000000000000000000000000000) 3 = 0 then (0 : Int) else if dr (nx (nx b1 1000) 1000000000000000000000000000000) 3 = 1 then dr b1 1000 else dr (nx b1 1000) 1000000000000000000000000000000) = rest at i2
  have hrest0 : 0 ≤ rest := by
    have := dr_lo b1 (m := 1000) (by omega)
    have := dr_lo (nx b1 1000) (m := 1000000000000000000000000000000) (by omega)
    subst hrest
    repeat' split <;> omega
  obtain ⟨es, b3, hes, hel, heo⟩ := entries_s (n + 1) M b2 (.int 0) [] hm0 (by omega)
  rw [show n + 1 + 3 = n + 4 from rfl] at hes
  have hsn := sums_nonneg es M heo
  have hsum : ∀ {ρ : MP.Env} {S : Store}, 10 < ρ.length → lcF (tgName 10) tYesF (MP.e2 ixD (eV 10) (eC (.int 1))) ρ (es.map entD) S [] = .ok (es.map fun e => D.int e.2.1, S) := by
    intro ρ S h9
    have := lc_map (tg := tgName 10) (e := MP.e2 ixD (eV 10) (eC (.int 1))) (ρ := ρ) (S := S) entD (fun e => D.int e.2.1) es [] (by simp [sizeLine_val]; omega) (fun e _ => ⟨_, rfl, by simp [h9, entD, atI, ixN]⟩)
    rw [this, List.nil_append]
  generalize hpot : rest + (es.map (·.2.1)).sum = pot
  obtain ⟨ws, b4, hws, hwl, hwo⟩ := words_s (n + 1) M pot b3 (.int 0) [] hm0 (by omega) (by omega)
  rw [show n + 1 + 3 = n + 4 from rfl] at hws
  have i3 := pick6 (x := .int 1) (y := .int 1) (z := .int 1) (u := .int 1) (v := .int 0) (w := .int 2) (S := bst (nx b4 6) (.int 0) []) (dr_lo b4 (m := 6) (by omega)) (dr_hi b4 (m := 6) (by omega))
  simp only [ite_int] at i3
  generalize (if dr b4 6 = 0 then (1 : Int) else if dr b4 6 = 1 then 1 else if dr b4 6 = 2 then 1 else if dr b4 6 = 3 then 1 else if dr b4 6 = 4 then 0 else 2) = st at i3
  generalize hb5 : nx b4 6 = b5 at i3
  have hfl : ∀ ρ0 ρ8 : Slot, True := fun _ _ => trivial
  obtain ⟨ρ', S', hf, s10, rfl, rfl⟩ := for_inv0 (entD) (tg := tgName 10) (body := (sOwn 9 (aCons (eF (fN lstG (aCons (eV 10) aNil))) aNil) extO))
    (fun j ρ S => ∃ s10, ρ = [Slot.val (.fls (ns.map D.int)), Slot.val (.ref 1), Slot.val (.int (M : Int)), Slot.val (.tup ((List.range M).map memD)), Slot.val (.int rest), Slot.val (.tup (es.map entD)), Slot.val (.int pot), Slot.val (.tup (ws.map D.int)), Slot.val (.int st), Slot.own (flatE (es.take j)), s10, Slot.no, Slot.no, Slot.no, Slot.no, Slot.no, Slot.no] ∧ bst b5 (.int 0) [] = S) es
    (ρ := [Slot.val (.fls (ns.map D.int)), Slot.val (.ref 1), Slot.val (.int (M : Int)), Slot.val (.tup ((List.range M).map memD)), Slot.val (.int rest), Slot.val (.tup (es.map entD)), Slot.val (.int pot), Slot.val (.tup (ws.map D.int)), Slot.val (.int st), Slot.own [], Slot.no, Slot.no, Slot.no, Slot.no, Slot.no, Slot.no, Slot.no]) (S := bst b5 (.int 0) [])
    ⟨_, rfl, rfl⟩ (by
      rintro j x _ _ hx ⟨s10, rfl, rfl⟩
      have hfe : flatE (es.take (j + 1)) = flatE (es.take j) ++ [D.int x.1, .int x.2.1, .int x.2.2] := by
        rw [List.take_add_one, hx]
        unfold flatE
        simp
      have hlen := flatE_len (es.take j)
      have : (es.take j).length ≤ es.length := by simp; omega
      refine ⟨_, rfl, _, _, ?_, .val (entD x), rfl, rfl⟩
      rw [hfe]
      simp -implicitDefEqProofs [entD, extO, sizeLine_val, (show (flatE (es.take j)).length + 3 ≤ 16777216 by omega)])
  rw [List.take_length] at hf
  have hin := input_s (n + 3) es hel (bst b5 (.int 0) [])
  have hol := out_len M rest es st ws hel hwl
  have hs1 := same_s4 n (.tup (flatE es)) (bst b5 (.int 0) []) (.tup (by rw [flatE_len, sizeLine_val]; omega) pl_ints)
  have hdue := due_s (n + 3) M rest st es ws (bst b5 (.int 0) []) hel heo hwl hwo
  have hpay := pay_s (n + 3) M rest st es ws (bst b5 (.int 0) []) hel heo hwl hwo
  have hos := out_sum M rest es st ws
  generalize outF M rest es st ws = o at hdue hpay hol hos
  obtain ⟨left, ps⟩ := o
  have hpl : Pl 3 (.tup [.tup (ps.map pairD), .int left]) := .tup (by simp [sizeLine_val]) fun d hd => by
    simp only [List.mem_cons, List.not_mem_nil, or_false] at hd
    rcases hd with rfl | rfl
    · refine .tup (by rw [List.length_map, sizeLine_val]; dsimp only at hol; omega) fun d hd => ?_
      obtain ⟨p, _, rfl⟩ := List.mem_map.mp hd
      exact pl_pair p
    · exact .int _
  have hs2 := same_s4 n _ (bst b5 (.int 0) []) hpl
  have hs3 := same_s4 n (.int pot) (bst b5 (.int 0) []) (.int _)
  have hlast : ∀ {ρ : MP.Env}, 16 < ρ.length → lcF (tgTup [(tgName 15), (tgName 16)]) tYesF (eV 16) ρ (ps.map pairD) (bst b5 (.int 0) []) [] = .ok (ps.map fun e => D.int e.2, bst b5 (.int 0) []) := by
    intro ρ h9
    have := lc_map (tg := tgTup [(tgName 15), (tgName 16)]) (e := eV 16) (ρ := ρ) (S := bst b5 (.int 0) []) pairD (fun e => D.int e.2) ps [] (by simp [sizeLine_val]; dsimp only at hol; omega) (fun e _ => ⟨_, rfl, by simp [h9, pairD]⟩)
    rw [this, List.nil_append]
  dsimp only at hos
  rw [hpot] at hos
  refine ⟨bst b5 (.int 0) [], ?_⟩
  show runF 17 (b_law (sem (n + 4))) _ _ = _
  have a0 : atI [D.tup (ps.map pairD), .int left] 0 = some (D.tup (ps.map pairD)) := rfl
  have a1 : atI [D.tup (ps.map pairD), .int left] 1 = some (D.int left) := rfl
  simp -implicitDefEqProofs [runF, b_law, draw_s, sizeLine_val, hbox, hb1, i1, hrm, hmem, hpow, hb2, i2, hes, hsum, sum_map, hpot, hws, hb5, i3, hf, hin, hs1, hdue, hpay, hs2, a0, a1, hlast, hos, hs3, -ix_lst']
end TX
namespace TX
open PySem MP L2
theorem main (ns : List Int) (hl : ns.length ≤ 63) (hb : ∀ z ∈ ns, Builtin.Int.intBits z ≤ 1048576) : ∃ S, sem 60 .law [.fls (ns.map D.int)] [] = .ok (.bl true, S) := main' 55 ns hl
end TX
open PySem PySem.W PyProof.Rows
set_option maxHeartbeats 0 in
theorem PySem.Challenge.cw_onewatcher_k62_great_payments_holds : PySem.Challenge.rw_onewatcher_k62_great_payments.Holds := by
  w_on; o_law; k_head; (case hw => w_witness2)
  k_fill
  refine MP.walkMP (l := PySem.Challenge.rw_onewatcher_k62_great_payments) (k := 60) (x := "script") (fun _ _ => Value.none) (TX.sem 60 .law) rfl rfl ⟨rfl, by decide, by decide⟩ (fun w h Y => PySem.W.kIn_of Y) ?F TX.main
  case F =>
    intro w mg fa h KX G hmg
    refine' TX.law_ok _ _ hmg (TX.txt_mk (TX.mk_input_of KX G ?a_input_of ?l_input_of ?c_input_of ?k_input_of) (TX.mk_payments KX G ?a_payments ?l_payments ?c_payments ?k_payments) (TX.mk_law_same_ KX G ?a_law_same_ ?l_law_same_ ?c_law_same_ ?k_law_same_) (TX.mk_law_box_ KX G ?a_law_box_ ?l_law_box_ ?c_law_box_ ?k_law_box_) (TX.mk_law_load_ KX G ?a_law_load_ ?l_law_load_ ?c_law_load_ ?k_law_load_) (TX.mk_law_draw_ KX G ?a_law_draw_ ?l_law_draw_ ?c_law_draw_ ?k_law_draw_) (TX.mk_law_entries_ KX G ?a_law_entries_ ?l_law_entries_ ?c_law_entries_ ?k_law_entries_) (TX.mk_law_words_ KX G ?a_law_words_ ?l_law_words_ ?c_law_words_ ?k_law_words_) (TX.mk_law_due_ KX G ?a_law_due_ ?l_law_due_ ?c_law_due_ ?k_law_due_) (TX.mk_law KX G ?a_law ?l_law ?c_law ?k_law) (PySem.W.mg_none_of KX G ?z_all) (PySem.W.mg_none_of KX G ?z_bool) (PySem.W.mg_none_of KX G ?z_dict) (PySem.W.mg_none_of KX G ?z_int) (PySem.W.mg_none_of KX G ?z_isinstance) (PySem.W.mg_none_of KX G ?z_len) (PySem.W.mg_none_of KX G ?z_list) (PySem.W.mg_none_of KX G ?z_min) (PySem.W.mg_none_of KX G ?z_range) (PySem.W.mg_none_of KX G ?z_str) (PySem.W.mg_none_of KX G ?z_sum) (PySem.W.mg_none_of KX G ?z_tuple))
    (case a_input_of => k_is); (case l_input_of => k_is); (case c_input_of => k_is); (case k_input_of => k_is)
    (case a_payments => k_is); (case l_payments => k_is); (case c_payments => k_is); (case k_payments => k_is)
    (case a_law_same_ => k_is); (case l_law_same_ => k_is); (case c_law_same_ => k_is); (case k_law_same_ => k_is)
    (case a_law_box_ => k_is); (case l_law_box_ => k_is); (case c_law_box_ => k_is); (case k_law_box_ => k_is)
    (case a_law_load_ => k_is); (case l_law_load_ => k_is); (case c_law_load_ => k_is); (case k_law_load_ => k_is)
    (case a_law_draw_ => k_is); (case l_law_draw_ => k_is); (case c_law_draw_ => k_is); (case k_law_draw_ => k_is)
    (case a_law_entries_ => k_is); (case l_law_entries_ => k_is); (case c_law_entries_ => k_is); (case k_law_entries_ => k_is)
    (case a_law_words_ => k_is); (case l_law_words_ => k_is); (case c_law_words_ => k_is); (case k_law_words_ => k_is)
    (case a_law_due_ => k_is); (case l_law_due_ => k_is); (case c_law_due_ => k_is); (case k_law_due_ => k_is)
    (case a_law => k_is); (case l_law => k_is); (case c_law => k_is); (case k_law => k_is)
    (case z_all => k_is)
    (case z_bool => k_is)
    (case z_dict => k_is)
    (case z_int => k_is)
    (case z_isinstance => k_is)
    (case z_len => k_is)
    (case z_list => k_is)
    (case z_min => k_is)
    (case z_range => k_is)
    (case z_str => k_is)
    (case z_sum => k_is)
    (case z_tuple => k_is)
