import PyProof.Rows.All
import Wide.All
import OpenK.AllK
import Wide.FinOn
import HandS.ForMost
import HandS.Walk
import HandS.Zip
import HandS.Style
import HandS.TupMul
import HandS.TupAny
import HandS.IsInst
import KE.DataMinMax
import KE.GoesNew
import HandS.WordsExc
import PySem.Challenge.RW_fourstrokes_k05_whole_scripts_led_and_ba
import HandS.ExcInit
import HandS.ExcField
import KE.KExcIs
import HandS.ExcIs
import PyProof.ReprRoads
import PyProof.ReprLen
import HandS.Ends
set_option Elab.async false
set_option linter.all false
set_option maxHeartbeats 4000000
set_option maxRecDepth 100000
namespace K5
open PySem PySem.Spec PyProof.Rows L2

/-! ### typed data over the abstract heap -/
abbrev AS := Addr → Prop
/-- all that stands outside of S is kept -/
def Fx (S : AS) (H H' : Hp) : Prop := ∀ a o, ¬ S a → H a = some o → H' a = some o
/-- all is kept -/
def Ex (H H' : Hp) : Prop := ∀ a o, H a = some o → H' a = some o
/-- what stands in S is a list -/
def Lo (S : AS) (H : Hp) : Prop := ∀ a o, S a → H a = some o → ∃ xs, o = .lst xs

theorem Ex.refl (H : Hp) : Ex H H := fun _ _ h => h
theorem Ex.trans {H H1 H2 : Hp} (a : Ex H H1) (b : Ex H1 H2) : Ex H H2 := fun x o h => b x o (a x o h)
theorem Ex.fx {S : AS} {H H' : Hp} (e : Ex H H') : Fx S H H' := fun a o _ h => e a o h
theorem Fx.refl (S : AS) (H : Hp) : Fx S H H := fun _ _ _ h => h
theorem Fx.trans {S : AS} {H H1 H2 : Hp} (a : Fx S H H1) (b : Fx S H1 H2) : Fx S H H2 := fun x o n h => b x o n (a x o n h)
theorem Fx.mono {S S' : AS} {H H' : Hp} (f : Fx S H H') (h : ∀ a, S a → S' a) : Fx S' H H' := fun a o n e => f a o (fun z => n (h a z)) e
theorem Ex.new {H : Hp} {p : Addr} {o : HO} (h : H p = none) : Ex H (upd H p o) := fun a u e => by
  rw [upd_ne (ne_of_none e h)]
  exact e

inductive A2 {α : Type} (R : V → α → Prop) : List V → List α → Prop
  | nil : A2 R [] []
  | cons {v : V} {vs : List V} {x : α} {xs : List α} : R v x → A2 R vs xs → A2 R (v :: vs) (x :: xs)
namespace A2
variable {α β : Type} {R R' : V → α → Prop}
theorem length : ∀ {vs : List V} {xs : List α}, A2 R vs xs → vs.length = xs.length
  | _, _, .nil => rfl
  | _, _, .cons _ t => congrArg (· + 1) t.length
theorem map (f : ∀ v x, R v x → R' v x) : ∀ {vs : List V} {xs : List α}, A2 R vs xs → A2 R' vs xs
  | _, _, .nil => .nil
  | _, _, .cons h t => .cons (f _ _ h) (t.map f)
theorem get : ∀ {vs : List V} {xs : List α} {i : Nat} {x : α}, A2 R vs xs → xs[i]? = some x → ∃ v, vs[i]? = some v ∧ R v x
  | _, _, _, _, .nil, e => by simp at e
  | _, _, 0, _, .cons h _, e => by simp at e; subst e; exact ⟨_, rfl, h⟩
  | _, _, i + 1, x, .cons _ t, e => by
    obtain ⟨v, h1, h2⟩ := t.get (i := i) (x := x) (by simpa using e)
    exact ⟨v, by simpa using h1, h2⟩
theorem get' : ∀ {vs : List V} {xs : List α} {i : Nat} {v : V}, A2 R vs xs → vs[i]? = some v → ∃ x, xs[i]? = some x ∧ R v x
  | _, _, _, _, .nil, e => by simp at e
  | _, _, 0, _, .cons h _, e => by simp at e; subst e; exact ⟨_, rfl, h⟩
  | _, _, i + 1, v, .cons _ t, e => by
    obtain ⟨x, h1, h2⟩ := t.get' (i := i) (v := v) (by simpa using e)
    exact ⟨x, by simpa using h1, h2⟩
theorem append : ∀ {vs ws : List V} {xs ys : List α}, A2 R vs xs → A2 R ws ys → A2 R (vs ++ ws) (xs ++ ys)
  | _, _, _, _, .nil, b => b
  | _, _, _, _, .cons h t, b => .cons h (t.append b)
theorem one {v : V} {x : α} (h : R v x) : A2 R [v] [x] := .cons h .nil
theorem take (n : Nat) : ∀ {vs : List V} {xs : List α}, A2 R vs xs → A2 R (vs.take n) (xs.take n) := by
  induction n with
  | zero => intro vs xs _; simpa using A2.nil
  | succ n ih =>
    intro vs xs h
    cases h with
    | nil => simpa using A2.nil
    | cons h t => simpa using A2.cons h (ih t)
theorem drop (n : Nat) : ∀ {vs : List V} {xs : List α}, A2 R vs xs → A2 R (vs.drop n) (xs.drop n) := by
  induction n with
  | zero => intro vs xs h; simpa using h
  | succ n ih =>
    intro vs xs h
    cases h with
    | nil => simpa using A2.nil
    | cons h t => simpa using ih t
theorem reverse : ∀ {vs : List V} {xs : List α}, A2 R vs xs → A2 R vs.reverse xs.reverse
  | _, _, .nil => .nil
  | _, _, .cons h t => by
    rw [List.reverse_cons, List.reverse_cons]
    exact t.reverse.append (.one h)
theorem set {v : V} {x : α} (h : R v x) : ∀ {vs : List V} {xs : List α} (i : Nat), A2 R vs xs → A2 R (vs.set i v) (xs.set i x)
  | _, _, _, .nil => .nil
  | _, _, 0, .cons _ t => .cons h t
  | _, _, i + 1, .cons q t => .cons q (A2.set h i t)
theorem repl (n : Nat) {vs : List V} {xs : List α} (h : A2 R vs xs) : A2 R (List.replicate n vs).flatten (List.replicate n xs).flatten := by
  induction n with
  | zero => exact .nil
  | succ n ih =>
    rw [List.replicate_succ, List.replicate_succ, List.flatten_cons, List.flatten_cons]
    exact h.append ih
theorem mapR {f : β → α} : ∀ {vs : List V} {xs : List β}, A2 (fun v x => R v (f x)) vs xs → A2 R vs (xs.map f)
  | _, _, .nil => .nil
  | _, _, .cons h t => .cons h t.mapR
theorem unmapR {f : β → α} : ∀ {vs : List V} {xs : List β}, A2 R vs (xs.map f) → A2 (fun v x => R v (f x)) vs xs
  | _, [], h => by cases h; exact .nil
  | _, x :: xs, h => by
    cases h with
    | cons h t => exact .cons h t.unmapR
end A2

/-- how data of a kind lie in the heap; S: the lists that the code at hand may change -/
class Py (α : Type) where
  rel : AS → Hp → V → α → Prop
  keep : ∀ {S : AS} {H H' : Hp} {v : V} {x : α}, Lo S H → Fx S H H' → rel S H v x → rel S H' v x
  sub : ∀ {S S' : AS} {H : Hp} {v : V} {x : α}, (∀ a, S' a → S a ∨ H a = none) → rel S H v x → rel S' H v x
open Py (rel)
/-- data without lists: the lists that may change do not matter -/
class PyF (α : Type) extends Py α where
  frz : ∀ {S S' : AS} {H : Hp} {v : V} {x : α}, rel S H v x → rel S' H v x

instance : PyF Int := { rel := fun _ _ v x => v = .int x, keep := fun _ _ h => h, sub := fun _ h => h, frz := fun h => h }
instance : PyF Bool := { rel := fun _ _ v x => v = .bl x, keep := fun _ _ h => h, sub := fun _ h => h, frz := fun h => h }
instance : PyF Str := { rel := fun _ _ v x => v = .str x, keep := fun _ _ h => h, sub := fun _ h => h, frz := fun h => h }
/-- an address -/
structure Ad where
  a : Addr
instance : PyF Ad := { rel := fun _ _ v x => v = .ref x.a, keep := fun _ _ h => h, sub := fun _ h => h, frz := fun h => h }
def optRel {α : Type} [Py α] (S : AS) (H : Hp) (v : V) : Option α → Prop
  | none => v = .non
  | some x => rel S H v x
instance {α : Type} [Py α] : Py (Option α) where
  rel := optRel
  keep := fun {S H H' v x} l f h => by
    cases x with
    | none => exact h
    | some x => exact Py.keep (α := α) l f h
  sub := fun {S S' H v x} f h => by
    cases x with
    | none => exact h
    | some x => exact Py.sub (α := α) f h
instance {α : Type} [PyF α] : PyF (Option α) where
  frz := fun {S S' H v x} h => by
    cases x with
    | none => exact h
    | some x => exact PyF.frz (α := α) h
theorem tup_keep {S : AS} {H H' : Hp} {a : Addr} {vs : List V} (l : Lo S H) (f : Fx S H H') (h : H a = some (.tup vs)) : H' a = some (.tup vs) :=
  f a _ (fun z => by
    obtain ⟨xs, e⟩ := l a _ z h
    cases e) h
def pairRel {α β : Type} [Py α] [Py β] (S : AS) (H : Hp) (v : V) (x : α × β) : Prop := ∃ a u w, v = .ref a ∧ H a = some (.tup [u, w]) ∧ rel S H u x.1 ∧ rel S H w x.2
instance {α β : Type} [Py α] [Py β] : Py (α × β) where
  rel := pairRel
  keep := fun l f ⟨a, u, w, e, h, r1, r2⟩ => ⟨a, u, w, e, tup_keep l f h, Py.keep l f r1, Py.keep l f r2⟩
  sub := fun f ⟨a, u, w, e, h, r1, r2⟩ => ⟨a, u, w, e, h, Py.sub f r1, Py.sub f r2⟩
instance {α β : Type} [PyF α] [PyF β] : PyF (α × β) where
  frz := fun ⟨a, u, w, e, h, r1, r2⟩ => ⟨a, u, w, e, h, PyF.frz r1, PyF.frz r2⟩
/-- a tuple of many of one kind -/
def tupRel {α : Type} [Py α] (S : AS) (H : Hp) (v : V) (x : List α) : Prop := ∃ a vs, v = .ref a ∧ H a = some (.tup vs) ∧ A2 (rel S H) vs x
instance {α : Type} [Py α] : Py (List α) where
  rel := tupRel
  keep := fun l f ⟨a, vs, e, h, r⟩ => ⟨a, vs, e, tup_keep l f h, r.map fun _ _ q => Py.keep l f q⟩
  sub := fun f ⟨a, vs, e, h, r⟩ => ⟨a, vs, e, h, r.map fun _ _ q => Py.sub f q⟩
instance {α : Type} [PyF α] : PyF (List α) where
  frz := fun ⟨a, vs, e, h, r⟩ => ⟨a, vs, e, h, r.map fun _ _ q => PyF.frz q⟩
/-- a list that stays as it is -/
structure PL (α : Type) where
  l : List α
def lstRel {α : Type} [Py α] (S : AS) (H : Hp) (v : V) (x : PL α) : Prop := ∃ a vs, v = .ref a ∧ ¬ S a ∧ H a = some (.lst vs) ∧ A2 (rel S H) vs x.l
instance {α : Type} [Py α] : Py (PL α) where
  rel := lstRel
  keep := fun l f ⟨a, vs, e, n, h, r⟩ => ⟨a, vs, e, n, f a _ n h, r.map fun _ _ q => Py.keep l f q⟩
  sub := fun f ⟨a, vs, e, n, h, r⟩ => ⟨a, vs, e, fun z => (f a z).elim n fun q => (by rw [h] at q; cases q), h, r.map fun _ _ q => Py.sub f q⟩
/-- an instance of Boxes, the class at C -/
structure Bx (C : Addr) where
  ss : List (Int × Int)
def bxF (t : V) (n : Nat) : List (Str × V) := [("sizes", t), ("many", .int n)]
def bxRel {C : Addr} (S : AS) (H : Hp) (v : V) (x : Bx C) : Prop := ∃ a dx t, v = .ref a ∧ H a = some (.ins C dx (bxF t x.ss.length)) ∧ rel S H t x.ss
instance {C : Addr} : PyF (Bx C) where
  rel := bxRel
  keep := fun {S H H' v x} l f ⟨a, dx, t, e, h, r⟩ => ⟨a, dx, t, e, f a _ (fun z => by
    obtain ⟨xs, e⟩ := l a _ z h
    cases e) h, Py.keep l f r⟩
  sub := fun {S S' H v x} f ⟨a, dx, t, e, h, r⟩ => ⟨a, dx, t, e, h, Py.sub f r⟩
  frz := fun {S S' H v x} ⟨a, dx, t, e, h, r⟩ => ⟨a, dx, t, e, h, PyF.frz r⟩

/-- a datum with its kind -/
structure Dyn where
  α : Type
  inst : Py α
  x : α
def dy {α : Type} [i : Py α] (x : α) : Dyn := ⟨α, i, x⟩
def Dyn.rel (d : Dyn) (S : AS) (H : Hp) (v : V) : Prop := d.inst.rel S H v d.x
theorem Dyn.keep {d : Dyn} {S : AS} {H H' : Hp} {v : V} (l : Lo S H) (f : Fx S H H') (h : d.rel S H v) : d.rel S H' v := d.inst.keep l f h
theorem Dyn.sub {d : Dyn} {S S' : AS} {H : Hp} {v : V} (f : ∀ a, S' a → S a ∨ H a = none) (h : d.rel S H v) : d.rel S' H v := d.inst.sub f h
abbrev DL := List Dyn
inductive D2 (R : V → Dyn → Prop) : List V → DL → Prop
  | nil : D2 R [] []
  | cons {v : V} {vs : List V} {x : Dyn} {xs : DL} : R v x → D2 R vs xs → D2 R (v :: vs) (x :: xs)
namespace D2
variable {R R' : V → Dyn → Prop}
theorem length : ∀ {vs : List V} {xs : DL}, D2 R vs xs → vs.length = xs.length
  | _, _, .nil => rfl
  | _, _, .cons _ t => congrArg (· + 1) t.length
theorem map (f : ∀ v x, R v x → R' v x) : ∀ {vs : List V} {xs : DL}, D2 R vs xs → D2 R' vs xs
  | _, _, .nil => .nil
  | _, _, .cons h t => .cons (f _ _ h) (t.map f)
theorem get : ∀ {vs : List V} {xs : DL} {i : Nat} {x : Dyn}, D2 R vs xs → xs[i]? = some x → ∃ v, vs[i]? = some v ∧ R v x
  | _, _, _, _, .nil, e => by simp at e
  | _, _, 0, _, .cons h _, e => by simp at e; subst e; exact ⟨_, rfl, h⟩
  | _, _, i + 1, x, .cons _ t, e => by
    obtain ⟨v, h1, h2⟩ := t.get (i := i) (x := x) (by simpa using e)
    exact ⟨v, by simpa using h1, h2⟩
theorem append : ∀ {vs ws : List V} {xs ys : DL}, D2 R vs xs → D2 R ws ys → D2 R (vs ++ ws) (xs ++ ys)
  | _, _, _, _, .nil, b => b
  | _, _, _, _, .cons h t, b => .cons h (t.append b)
theorem set {v : V} {x : Dyn} (h : R v x) : ∀ {vs : List V} {xs : DL} (i : Nat), D2 R vs xs → D2 R (vs.set i v) (xs.set i x)
  | _, _, _, .nil => .nil
  | _, _, 0, .cons _ t => .cons h t
  | _, _, i + 1, .cons q t => .cons q (D2.set h i t)
/-- data of one kind -/
theorem of_a2 {α : Type} [Py α] {S : AS} {H : Hp} : ∀ {vs : List V} {xs : List α}, A2 (rel S H) vs xs → D2 (fun v d => d.rel S H v) vs (xs.map dy)
  | _, _, .nil => .nil
  | _, _, .cons h t => .cons h (of_a2 t)
theorem to_a2 {α : Type} [Py α] {S : AS} {H : Hp} : ∀ {vs : List V} {xs : List α}, D2 (fun v d => d.rel S H v) vs (xs.map dy) → A2 (rel S H) vs xs
  | _, [], h => by cases h; exact .nil
  | _, x :: xs, h => by
    cases h with
    | cons h t => exact .cons h (to_a2 t)
end D2
end K5

namespace K5
open PySem PySem.Spec PyProof.Rows L2
open Py (rel)

/-! ### the store: typed slots, lists of one's own, the pool -/
abbrev Gm := List (Option Dyn)
abbrev Ls := List (Addr × DL)
structure Pst where
  seed : Int
  n : Int
  cells : List Int
/-- what is fixed through a def: the callers' lists S (kept as they are, not to be met in data), the pool's two lists, the heap at the entry -/
structure Fr where
  S : AS
  pool : Option (Addr × Addr)
  H0 : Hp
def Fr.P (F : Fr) : AS := fun a => ∃ p c, F.pool = some (p, c) ∧ (a = p ∨ a = c)
def keys (F : Fr) (L : Ls) : AS := fun a => (F.S a ∨ F.P a) ∨ ∃ ds, (a, ds) ∈ L
def PoolAt (p c : Addr) (st : Pst) (H : Hp) : Prop := p ≠ c ∧ H p = some (.lst [.int st.seed, .int st.n, .ref c]) ∧ H c = some (.lst (st.cells.map V.int))
def PoolOk (F : Fr) (st : Pst) (H : Hp) : Prop := ∀ p c, F.pool = some (p, c) → PoolAt p c st H
structure EnvOk (S : AS) (G : Gm) (σ : L2.St) (H : Hp) : Prop where
  len : G.length = σ.length
  at_ : ∀ (i : Nat) (d : Dyn), G[i]? = some (some d) → ∃ v, σ[i]? = some (some v) ∧ d.rel S H v
structure Ok (F : Fr) (G : Gm) (L : Ls) (st : Pst) (σ : L2.St) (H : Hp) : Prop where
  env : EnvOk (keys F L) G σ H
  loc : ∀ p ∈ L, ∃ vs, H p.1 = some (.lst vs) ∧ D2 (fun v d => d.rel (keys F L) H v) vs p.2
  nd : (L.map (·.1)).Nodup
  fr : ∀ p ∈ L, F.H0 p.1 = none
  np : ∀ p ∈ L, ¬ F.P p.1
  pool : PoolOk F st H
  base : ∀ a o, ¬ F.P a → F.H0 a = some o → H a = some o
  sl : ∀ a, F.S a → ∃ xs, F.H0 a = some (.lst xs)

section
variable {F : Fr} {G G' : Gm} {L : Ls} {st st' : Pst} {σ : L2.St} {H H' : Hp}
theorem PoolOk.lst {a : Addr} (h : PoolOk F st H) (ha : F.P a) : ∃ xs, H a = some (.lst xs) := by
  obtain ⟨p, c, e, q⟩ := ha
  obtain ⟨_, h1, h2⟩ := h p c e
  rcases q with rfl | rfl
  · exact ⟨_, h1⟩
  · exact ⟨_, h2⟩
theorem Ok.lst {a : Addr} (ok : Ok F G L st σ H) (ha : keys F L a) : ∃ xs, H a = some (.lst xs) := by
  rcases ha with (h | h) | ⟨ds, h⟩
  · by_cases hp : F.P a
    · exact ok.pool.lst hp
    · obtain ⟨xs, e⟩ := ok.sl a h
      exact ⟨xs, ok.base a _ hp e⟩
  · exact ok.pool.lst h
  · obtain ⟨vs, e, _⟩ := ok.loc _ h
    exact ⟨_, e⟩
theorem Ok.lo (ok : Ok F G L st σ H) : Lo (keys F L) H := fun a o ha e => by
  obtain ⟨xs, e'⟩ := ok.lst ha
  rw [e] at e'
  exact ⟨xs, Option.some.inj e'⟩
theorem EnvOk.keep {S : AS} (e : EnvOk S G σ H) (l : Lo S H) (f : Fx S H H') : EnvOk S G σ H' := ⟨e.len, fun i d h => by
  obtain ⟨v, h1, h2⟩ := e.at_ i d h
  exact ⟨v, h1, Dyn.keep l f h2⟩⟩
theorem EnvOk.sub {S S' : AS} (e : EnvOk S G σ H) (f : ∀ a, S' a → S a ∨ H a = none) : EnvOk S' G σ H := ⟨e.len, fun i d h => by
  obtain ⟨v, h1, h2⟩ := e.at_ i d h
  exact ⟨v, h1, Dyn.sub f h2⟩⟩
theorem Ok.out {a : Addr} {ds : DL} (ok : Ok F G L st σ H) (h : (a, ds) ∈ L) : ¬ (F.S a ∨ F.P a) := by
  rintro (q | q)
  · obtain ⟨xs, e⟩ := ok.sl a q
    have := ok.fr _ h
    rw [e] at this
    cases this
  · exact ok.np _ h q
/-- all but the pool is kept -/
theorem Ok.fx (ok : Ok F G L st σ H) (f : Fx F.P H H') (hp : PoolOk F st' H') : Ok F G L st' σ H' := by
  have fk : Fx (keys F L) H H' := f.mono fun a h => .inl (.inr h)
  refine ⟨ok.env.keep ok.lo fk, fun p hp => ?_, ok.nd, ok.fr, ok.np, hp, fun a o n e => f a o n (ok.base a o n e), ok.sl⟩
  obtain ⟨vs, h1, h2⟩ := ok.loc p hp
  exact ⟨vs, f _ _ (ok.np p hp) h1, h2.map fun v d r => Dyn.keep ok.lo fk r⟩
theorem Ok.ex (ok : Ok F G L st σ H) (e : Ex H H') : Ok F G L st σ H' := ok.fx e.fx fun p c h => by
  obtain ⟨n, h1, h2⟩ := ok.pool p c h
  exact ⟨n, e _ _ h1, e _ _ h2⟩
theorem Ok.slot {i : Nat} {d : Dyn} {v : V} (ok : Ok F G L st σ H) (r : d.rel (keys F L) H v) : Ok F (G.set i (some d)) L st (σ.set i (some v)) H := by
  refine ⟨⟨by rw [List.length_set, List.length_set, ok.env.len], fun j d' h => ?_⟩, ok.loc, ok.nd, ok.fr, ok.np, ok.pool, ok.base, ok.sl⟩
  by_cases hj : i = j
  · subst hj
    by_cases hl : i < G.length
    · rw [List.getElem?_set_self hl] at h
      have e : d = d' := Option.some.inj (Option.some.inj h)
      subst e
      exact ⟨v, List.getElem?_set_self (by rw [← ok.env.len]; exact hl), r⟩
    · rw [List.getElem?_eq_none (by rw [List.length_set]; omega)] at h
      cases h
  · rw [List.getElem?_set_ne hj] at h
    rw [List.getElem?_set_ne hj]
    exact ok.env.at_ j d' h
/-- less is known of the slots -/
def Less (G' G : Gm) : Prop := G'.length = G.length ∧ ∀ (i : Nat) (d : Dyn), G'[i]? = some (some d) → G[i]? = some (some d)
theorem Less.refl (G : Gm) : Less G G := ⟨rfl, fun _ _ h => h⟩
theorem Less.nil : Less [] [] := .refl _
theorem Less.same {x : Option Dyn} (h : Less G' G) : Less (x :: G') (x :: G) := ⟨congrArg (· + 1) h.1, fun i d e => by
  cases i with
  | zero => exact e
  | succ i => exact h.2 i d (by simpa using e)⟩
theorem Less.drop {x : Option Dyn} (h : Less G' G) : Less (none :: G') (x :: G) := ⟨congrArg (· + 1) h.1, fun i d e => by
  cases i with
  | zero => cases e
  | succ i => exact h.2 i d (by simpa using e)⟩
theorem Ok.less (ok : Ok F G L st σ H) (h : Less G' G) : Ok F G' L st σ H :=
  ⟨⟨h.1.trans ok.env.len, fun i d e => ok.env.at_ i d (h.2 i d e)⟩, ok.loc, ok.nd, ok.fr, ok.np, ok.pool, ok.base, ok.sl⟩
/-- a new list of one's own -/
theorem Ok.own {a : Addr} {vs : List V} {ds : DL} (ok : Ok F G L st σ H) (hn : H a = none) (r : D2 (fun v d => d.rel (keys F L) H v) vs ds) : Ok F G ((a, ds) :: L) st σ (upd H a (.lst vs)) := by
  have e : Ex H (upd H a (.lst vs)) := Ex.new hn
  have na : ¬ keys F L a := fun h => by
    obtain ⟨xs, q⟩ := ok.lst h
    rw [hn] at q
    cases q
  have sb : ∀ b, keys F ((a, ds) :: L) b → keys F L b ∨ H b = none := by
    rintro b (h | ⟨ds', h⟩)
    · exact .inl (.inl h)
    · rcases List.mem_cons.mp h with q | q
      · cases q; exact .inr hn
      · exact .inl (.inr ⟨_, q⟩)
  have lo : Lo (keys F ((a, ds) :: L)) H := fun b o h q => by
    rcases sb b h with h | h
    · exact ok.lo b o h q
    · rw [h] at q; cases q
  have up : ∀ {v : V} {d : Dyn}, d.rel (keys F L) H v → d.rel (keys F ((a, ds) :: L)) (upd H a (.lst vs)) v := fun h => Dyn.keep lo e.fx (Dyn.sub sb h)
  have ok' := ok.ex e
  refine ⟨(ok.env.sub sb).keep lo e.fx, fun p hp => ?_, ?_, fun p hp => ?_, fun p hp => ?_, ok'.pool, ok'.base, ok.sl⟩
  · rcases List.mem_cons.mp hp with q | q
    · subst q
      exact ⟨vs, upd_same, r.map fun v d => up⟩
    · obtain ⟨ws, h1, h2⟩ := ok.loc p q
      exact ⟨ws, e _ _ h1, h2.map fun v d => up⟩
  · rw [List.map_cons, List.nodup_cons]
    refine ⟨fun h => ?_, ok.nd⟩
    obtain ⟨p, h1, h2⟩ := List.mem_map.mp h
    have e2 : p.1 = a := h2
    exact na (.inr ⟨p.2, by rw [← e2]; exact h1⟩)
  · rcases List.mem_cons.mp hp with q | q
    · subst q
      cases h0 : F.H0 a with
      | none => rfl
      | some o =>
        have := ok.base a o (fun z => na (.inl (.inr z))) h0
        rw [hn] at this
        cases this
    · exact ok.fr p q
  · rcases List.mem_cons.mp hp with q | q
    · subst q
      exact fun z => na (.inl (.inr z))
    · exact ok.np p q
/-- the list is let go: it may not be changed from here on -/
theorem Ok.letgo {a : Addr} {ds : DL} (ok : Ok F G ((a, ds) :: L) st σ H) : Ok F G L st σ H := by
  have sb : ∀ b, keys F L b → keys F ((a, ds) :: L) b ∨ H b = none := by
    rintro b (h | ⟨ds', h⟩)
    · exact .inl (.inl h)
    · exact .inl (.inr ⟨_, List.mem_cons_of_mem _ h⟩)
  refine ⟨ok.env.sub sb, fun p hp => ?_, (List.nodup_cons.mp ok.nd).2, fun p hp => ok.fr p (List.mem_cons_of_mem _ hp), fun p hp => ok.np p (List.mem_cons_of_mem _ hp), ok.pool, ok.base, ok.sl⟩
  obtain ⟨ws, h1, h2⟩ := ok.loc p (List.mem_cons_of_mem _ hp)
  exact ⟨ws, h1, h2.map fun v d => Dyn.sub sb⟩
theorem Ok.head_out {a : Addr} {ds : DL} (ok : Ok F G ((a, ds) :: L) st σ H) : ¬ keys F L a := by
  rintro (h | ⟨ds', h⟩)
  · exact ok.out List.mem_cons_self h
  · exact (List.nodup_cons.mp ok.nd).1 (List.mem_map.mpr ⟨(a, ds'), h, rfl⟩)
/-- its value, once let go -/
theorem Ok.pl {α : Type} [Py α] {a : Addr} {xs : List α} (ok : Ok F G ((a, xs.map dy) :: L) st σ H) : (dy (PL.mk xs)).rel (keys F L) H (.ref a) := by
  have sb : ∀ b, keys F L b → keys F ((a, xs.map dy) :: L) b ∨ H b = none := by
    rintro b (h | ⟨ds', h⟩)
    · exact .inl (.inl h)
    · exact .inl (.inr ⟨_, List.mem_cons_of_mem _ h⟩)
  obtain ⟨vs, h1, h2⟩ := ok.loc _ List.mem_cons_self
  exact ⟨a, vs, rfl, ok.head_out, h1, (h2.to_a2).map fun v x => Py.sub sb⟩
/-- what the list holds is changed -/
theorem Ok.put {a : Addr} {ds ds' : DL} {vs : List V} (ok : Ok F G ((a, ds) :: L) st σ H) (r : D2 (fun v d => d.rel (keys F ((a, ds) :: L)) H v) vs ds') : Ok F G ((a, ds') :: L) st σ (upd H a (.lst vs)) := by
  have ek : keys F ((a, ds') :: L) = keys F ((a, ds) :: L) := by
    funext b
    refine propext ⟨?_, ?_⟩
    · rintro (h | ⟨x, h⟩)
      · exact .inl h
      · rcases List.mem_cons.mp h with q | q
        · cases q; exact .inr ⟨ds, List.mem_cons_self⟩
        · exact .inr ⟨_, List.mem_cons_of_mem _ q⟩
    · rintro (h | ⟨x, h⟩)
      · exact .inl h
      · rcases List.mem_cons.mp h with q | q
        · cases q; exact .inr ⟨ds', List.mem_cons_self⟩
        · exact .inr ⟨_, List.mem_cons_of_mem _ q⟩
  have ka : keys F ((a, ds) :: L) a := .inr ⟨ds, List.mem_cons_self⟩
  have f : Fx (keys F ((a, ds) :: L)) H (upd H a (.lst vs)) := fun b o n e => by
    rw [upd_ne (fun z => n (by rw [z]; exact ka))]
    exact e
  refine ⟨by rw [ek]; exact ok.env.keep ok.lo f, fun p hp => ?_, ok.nd, fun p hp => ?_, fun p hp => ?_, fun p c h => ?_, fun b o n e => ?_, ok.sl⟩
  · rw [ek]
    rcases List.mem_cons.mp hp with q | q
    · subst q
      exact ⟨vs, upd_same, r.map fun v d => Dyn.keep ok.lo f⟩
    · obtain ⟨ws, h1, h2⟩ := ok.loc p (List.mem_cons_of_mem _ q)
      have ne : p.1 ≠ a := fun z => (List.nodup_cons.mp ok.nd).1 (List.mem_map.mpr ⟨p, q, z⟩)
      exact ⟨ws, by rw [upd_ne ne]; exact h1, h2.map fun v d => Dyn.keep ok.lo f⟩
  · rcases List.mem_cons.mp hp with q | q
    · subst q
      exact ok.fr (a, ds) List.mem_cons_self
    · exact ok.fr p (List.mem_cons_of_mem _ q)
  · rcases List.mem_cons.mp hp with q | q
    · subst q
      exact ok.np (a, ds) List.mem_cons_self
    · exact ok.np p (List.mem_cons_of_mem _ q)
  · have nP : ¬ F.P a := ok.np (a, ds) List.mem_cons_self
    obtain ⟨n, h1, h2⟩ := ok.pool p c h
    refine ⟨n, ?_, ?_⟩
    · rw [upd_ne (fun z => nP ⟨p, c, h, .inl z.symm⟩)]; exact h1
    · rw [upd_ne (fun z => nP ⟨p, c, h, .inr z.symm⟩)]; exact h2
  · have ne : b ≠ a := fun z => by
      have := ok.fr (a, ds) List.mem_cons_self
      rw [z] at e
      rw [e] at this
      cases this
    rw [upd_ne ne]
    exact ok.base b o n e
/-- a later entry: what stands now outside of the lists is the base -/
noncomputable def Fr.at_ (F : Fr) (L : Ls) (H : Hp) : Fr := ⟨F.S, F.pool, fun a => @ite _ (∃ ds, (a, ds) ∈ L) (Classical.propDecidable _) none (H a)⟩
def Fr.le (F F' : Fr) : Prop := (F'.pool = F.pool ∧ F'.S = F.S) ∧ ∀ G L st σ H, Ok F' G L st σ H → Ok F G L st σ H
theorem Fr.le.refl (F : Fr) : F.le F := ⟨⟨rfl, rfl⟩, fun _ _ _ _ _ h => h⟩
theorem Fr.le.trans {F F1 F2 : Fr} (a : F.le F1) (b : F1.le F2) : F.le F2 := ⟨⟨b.1.1.trans a.1.1, b.1.2.trans a.1.2⟩, fun G L st σ H h => a.2 _ _ _ _ _ (b.2 _ _ _ _ _ h)⟩
theorem keys_pool {F F' : Fr} (e : F'.pool = F.pool ∧ F'.S = F.S) (L : Ls) : keys F' L = keys F L := by
  have : F'.P = F.P := by
    funext a
    unfold Fr.P
    rw [e.1]
  unfold keys
  rw [this, e.2]
theorem Fr.le.keys {F F' : Fr} (l : F.le F') (L : Ls) : keys F' L = keys F L := keys_pool l.1 L
theorem at_none {a : Addr} (h : ∃ ds, (a, ds) ∈ L) : (F.at_ L H).H0 a = none := if_pos h
theorem at_some {a : Addr} (h : ¬ ∃ ds, (a, ds) ∈ L) : (F.at_ L H).H0 a = H a := if_neg h
theorem Ok.at_ (ok : Ok F G L st σ H) : Ok (F.at_ L H) G L st σ H := by
  have ek : keys (F.at_ L H) L = keys F L := keys_pool (F := F) (F' := F.at_ L H) ⟨rfl, rfl⟩ L
  refine ⟨by rw [ek]; exact ok.env, by rw [ek]; exact ok.loc, ok.nd, fun p hp => at_none ⟨p.2, hp⟩, ok.np, ok.pool, fun a o n e => ?_, fun a h => ?_⟩
  by_cases h : ∃ ds, (a, ds) ∈ L
  · rw [at_none h] at e
    cases e
  · rw [at_some h] at e
    exact e
  · rw [at_some fun ⟨ds, z⟩ => ok.out z (.inl h)]
    exact ok.lst (.inl (.inl h))
theorem Ok.at_le (ok : Ok F G L st σ H) : F.le (F.at_ L H) := by
  refine ⟨⟨rfl, rfl⟩, fun G' L' st' σ' H' ok' => ?_⟩
  have ek : keys (F.at_ L H) L' = K5.keys F L' := keys_pool (F := F) (F' := F.at_ L H) ⟨rfl, rfl⟩ L'
  have eP : (F.at_ L H).P = F.P := by
    funext a
    rfl
  have h0 : ∀ a o, ¬ F.P a → F.H0 a = some o → (F.at_ L H).H0 a = some o := fun a o n e => by
    rw [at_some fun ⟨ds, z⟩ => by
      have q := ok.fr _ z
      rw [show F.H0 a = some o from e] at q
      cases q]
    exact ok.base a o n e
  refine ⟨by rw [← ek]; exact ok'.env, by rw [← ek]; exact ok'.loc, ok'.nd, fun p hp => ?_, ok'.np, ok'.pool, fun a o n e => ok'.base a o n (h0 a o n e), ok.sl⟩
  cases e : F.H0 p.1 with
  | none => rfl
  | some o =>
    have q := h0 p.1 o (ok'.np p hp) e
    rw [ok'.fr p hp] at q
    cases q
/-- a state over the later entry has kept all -/
theorem Ok.at_fx {G' : Gm} {L' : Ls} {st' : Pst} {σ' : L2.St} (ok : Ok F G L st σ H) (ok' : Ok (F.at_ L H) G' L' st' σ' H') : Fx (keys F L) H H' := fun a o n e => by
  refine ok'.base a o (fun z => n (.inl (.inr z))) ?_
  rw [at_some fun z => n (.inr z)]
  exact e
end

/-! ### judgements: the weakest thing that the code at hand does -/
def wpE (X : Cx) (e : Expr) : TE := fun σ H Q => ∀ pins s, Inv X pins σ H s → wpAny (model X.prog X.w) X.A (eval e X.env) (EP X pins σ Q) X.xe s
def wpT (X : Cx) (e : Expr) : TT := fun σ H Q => ∀ pins s, Inv X pins σ H s → wpAny (model X.prog X.w) X.A (isTrue e X.env (eval e X.env)) (TP X pins σ Q) X.xe s
def wpW (X : Cx) (e : Expr) : TT := fun σ H Q => ∀ (whole : Sem Value) pins s, Inv X pins σ H s → wpAny (model X.prog X.w) X.A (isTrue e X.env whole) (TP X pins σ Q) X.xe s
def wpA (X : Cx) (es : List Expr) : TA := fun σ H Q => ∀ (pos : Pos) pins s, Inv X pins σ H s → wpAny (model X.prog X.w) X.A (spliced (backTo pos (starEach es X.env))) (AP X pins σ Q) X.xe s
def wpS (X : Cx) (st : Stmt) : TS := fun D σ H => ∀ pins s, Inv X pins σ H s → wpAny (model X.prog X.w) X.A (exec st X.env) (SP X pins D) X.xe s
def wpB (X : Cx) (b : List Stmt) : TS := fun D σ H => ∀ pins s, Inv X pins σ H s → wpAny (model X.prog X.w) X.A (execs b X.env) (SP X pins D) X.xe s
def wpG (X : Cx) (tg : Expr) : TG := fun v σ H Q => ∀ pins s u, Inv X pins σ H s → RelV v u → wpAny (model X.prog X.w) X.A (assign tg X.env u) (fun _ s' => ∃ σ' H', Inv X pins σ' H' s' ∧ Q σ' H') X.xe s
def wpGs (X : Cx) (ts : List Expr) : TGs := fun vs σ H Q => ∀ pins s us, Inv X pins σ H s → Vals vs us → wpAny (model X.prog X.w) X.A (assignInOrder ((assignEach ts X.env).map (·.2)) us) (fun _ s' => ∃ σ' H', Inv X pins σ' H' s' ∧ Q σ' H') X.xe s
def wpI (X : Cx) (tg iter : Expr) : TI := fun σ H R => ∀ pins s, Inv X pins σ H s → wpAny (model X.prog X.w) X.A (eval iter X.env) (fun v s1 => wpAny (model X.prog X.w) X.A (pyIter v) (PIE X pins σ tg R) X.xe s1) X.xe s
section
variable {X : Cx} {e tg : Expr} {es ts : List Expr} {b : List Stmt} {s : Stmt}
theorem pe_wp : PE X e (wpE X e) := ⟨fun pins s _ _ _ I h => h pins s I⟩
theorem pt_wp : PT X e (wpT X e) := ⟨fun pins s _ _ _ I h => h pins s I⟩
theorem pw_wp : PW X e (wpW X e) := ⟨fun wh pins s _ _ _ I h => h wh pins s I⟩
theorem pa_wp : PA X es (wpA X es) := ⟨fun pos pins s _ _ _ I h => h pos pins s I⟩
theorem ps_wp : PS X s (wpS X s) := ⟨fun pins s _ _ _ I h => h pins s I⟩
theorem pss_wp : PSs X b (wpB X b) := ⟨fun pins s _ _ _ I h => h pins s I⟩
theorem pg_wp : PG X tg (wpG X tg) := ⟨fun pins s _ _ _ u _ I r h => h pins s u I r⟩
theorem pgs_wp : PGs X ts (wpGs X ts) := ⟨fun pins s _ _ _ us _ I r h => h pins s us I r⟩
theorem pi_wp : PI X tg e (wpI X tg e) := ⟨fun pins s _ _ _ I h => h pins s I⟩
end
theorem _root_.L2.PE.wp {X : Cx} {e : Expr} {t : TE} (h : PE X e t) {σ : L2.St} {H : Hp} {Q : VK} (q : t σ H Q) : wpE X e σ H Q := fun pins s I => h.run pins s σ H Q I q
theorem _root_.L2.PT.wp {X : Cx} {e : Expr} {t : TT} (h : PT X e t) {σ : L2.St} {H : Hp} {Q : Bool → Hp → Prop} (q : t σ H Q) : wpT X e σ H Q := fun pins s I => h.run pins s σ H Q I q
theorem _root_.L2.PW.wp {X : Cx} {e : Expr} {t : TT} (h : PW X e t) {σ : L2.St} {H : Hp} {Q : Bool → Hp → Prop} (q : t σ H Q) : wpW X e σ H Q := fun wh pins s I => h.run wh pins s σ H Q I q
theorem _root_.L2.PA.wp {X : Cx} {es : List Expr} {t : TA} (h : PA X es t) {σ : L2.St} {H : Hp} {Q : List V → Hp → Prop} (q : t σ H Q) : wpA X es σ H Q := fun pos pins s I => h.run pos pins s σ H Q I q
theorem _root_.L2.PS.wp {X : Cx} {st : Stmt} {t : TS} (h : PS X st t) {D : Ends} {σ : L2.St} {H : Hp} (q : t D σ H) : wpS X st D σ H := fun pins s I => h.run pins s σ H D I q
theorem _root_.L2.PSs.wp {X : Cx} {b : List Stmt} {t : TS} (h : PSs X b t) {D : Ends} {σ : L2.St} {H : Hp} (q : t D σ H) : wpB X b D σ H := fun pins s I => h.run pins s σ H D I q
theorem _root_.L2.PG.wp {X : Cx} {tg : Expr} {t : TG} (h : PG X tg t) {v : V} {σ : L2.St} {H : Hp} {Q : L2.St → Hp → Prop} (q : t v σ H Q) : wpG X tg v σ H Q := fun pins s u I r => h.run pins s σ H v u Q I r q
theorem _root_.L2.PGs.wp {X : Cx} {ts : List Expr} {t : TGs} (h : PGs X ts t) {vs : List V} {σ : L2.St} {H : Hp} {Q : L2.St → Hp → Prop} (q : t vs σ H Q) : wpGs X ts vs σ H Q := fun pins s us I r => h.run pins s σ H vs us Q I r q
theorem _root_.L2.PI.wp {X : Cx} {tg e : Expr} {t : TI} (h : PI X tg e t) {σ : L2.St} {H : Hp} {R : It → Hp → Prop} (q : t σ H R) : wpI X tg e σ H R := fun pins s I => h.run pins s σ H R I q

section
variable (F : Fr) (X : Cx) (G : Gm) (L : Ls) (st : Pst)
/-- e is the datum d; st' is the pool behind it -/
def Ev (e : Expr) (d : Dyn) (st' : Pst) : Prop := ∀ σ H, Ok F G L st σ H → ∀ Q : VK, (∀ v H', Fx (keys F L) H H' → Ok F G L st' σ H' → d.rel (keys F L) H' v → Q v H') → wpE X e σ H Q
def EvT (e : Expr) (b : Bool) (st' : Pst) : Prop := ∀ σ H, Ok F G L st σ H → ∀ Q : Bool → Hp → Prop, (∀ H', Fx (keys F L) H H' → Ok F G L st' σ H' → Q b H') → wpT X e σ H Q
def EvW (e : Expr) (b : Bool) (st' : Pst) : Prop := ∀ σ H, Ok F G L st σ H → ∀ Q : Bool → Hp → Prop, (∀ H', Fx (keys F L) H H' → Ok F G L st' σ H' → Q b H') → wpW X e σ H Q
def EvA (es : List Expr) (ds : DL) (st' : Pst) : Prop := ∀ σ H, Ok F G L st σ H → ∀ Q : List V → Hp → Prop, (∀ vs H', Fx (keys F L) H H' → Ok F G L st' σ H' → D2 (fun v d => d.rel (keys F L) H' v) vs ds → Q vs H') → wpA X es σ H Q
/-- a target takes d -/
def EvG (tg : Expr) (d : Dyn) (G' : Gm) (is : List Nat) : Prop := ∀ v σ H, Ok F G L st σ H → d.rel (keys F L) H v → ∀ Q : L2.St → Hp → Prop, (∀ σ', Ok F G' L st σ' H → σ'.length = σ.length → (∀ j, j ∉ is → σ'[j]? = σ[j]?) → Q σ' H) → wpG X tg v σ H Q
def EvGs (ts : List Expr) (ds : DL) (G' : Gm) (is : List Nat) : Prop := ∀ vs σ H, Ok F G L st σ H → D2 (fun v d => d.rel (keys F L) H v) vs ds → ∀ Q : L2.St → Hp → Prop, (∀ σ', Ok F G' L st σ' H → σ'.length = σ.length → (∀ j, j ∉ is → σ'[j]? = σ[j]?) → Q σ' H) → wpGs X ts vs σ H Q
/-- an iterator from H on gives the data xs -/
def IterOk (S : AS) (J : It) (H1 : Hp) (xs : DL) : Prop := ∃ Y, Walk J xs.length (fun H => Lo S H ∧ Fx S H1 H) Y ∧
  ∀ i H v H' (S' : AS), (∀ a, S' a → S a ∨ H1 a = none) → Lo S' H → Fx S H1 H → Y i H v H' → Ex H H' ∧ ∃ d, xs[i]? = some d ∧ d.rel S' H' v
def EvI (tg iter : Expr) (xs : DL) (st' : Pst) : Prop := ∀ σ H, Ok F G L st σ H → ∀ R : It → Hp → Prop, (∀ J H1, Fx (keys F L) H H1 → Ok F G L st' σ H1 → IterOk (keys F L) J H1 xs → R J H1) → wpI X tg iter σ H R
def WB (b : List Stmt) (D : Ends) : Prop := ∀ σ H, Ok F G L st σ H → wpB X b D σ H
end
/-- what a context must have -/
structure Gd (X : Cx) : Prop where
  nd : X.N.Nodup
  calm : X.calm = true
  hu : X.A.units + 64 < cLine
  po : PassesOwn (model X.prog X.w) X.A X.env X.xe
end K5

namespace K5
open PySem PySem.Spec PyProof.Rows L2
open Py (rel)

/-! ### more kinds -/
/-- a tuple of n things -/
structure Tn (n : Nat) where
instance {n : Nat} : PyF (Tn n) where
  rel := fun _ H v _ => ∃ a vs, v = .ref a ∧ H a = some (.tup vs) ∧ vs.length = n
  keep := fun l f ⟨a, vs, e, h, r⟩ => ⟨a, vs, e, tup_keep l f h, r⟩
  sub := fun _ h => h
  frz := fun h => h
/-- the word of a way -/
inductive Way where
  | lev | upr
  deriving DecidableEq
def Way.s : Way → Str
  | .lev => "level"
  | .upr => "upright"
instance : PyF Way := { rel := fun _ _ v x => v = .str x.s, keep := fun _ _ h => h, sub := fun _ h => h, frz := fun h => h }
theorem Way.s_inj {a b : Way} (h : a.s = b.s) : a = b := by
  cases a <;> cases b <;> first | rfl | (exact absurd h (by decide +kernel))
/-- the i-th of a pair -/
def pick {α : Type} (p : α × α) (i : Int) : α := if i = 0 then p.1 else p.2

section
variable {F : Fr} {X : Cx} {G : Gm} {L : Ls} {st st1 st2 st3 : Pst} {e a b c : Expr} {es : List Expr} {pos p1 p2 p3 p4 : Pos} {d x y z : Dyn} {ds : DL}

theorem Ev.imp (h : Ev F X G L st e d st1) (f : ∀ S H v, d.rel S H v → y.rel S H v) : Ev F X G L st e y st1 := fun σ H ok Q k => h σ H ok Q fun v H' a b c => k v H' a b (f _ _ _ c)
theorem Ev.toT {α : Type} [Py α] {xs : List α} (h : Ev F X G L st e (dy xs) st1) : Ev F X G L st e (dy (Tn.mk (n := xs.length))) st1 := h.imp fun _ _ _ ⟨a, vs, e, h1, r⟩ => ⟨a, vs, e, h1, r.length⟩
theorem Ev.toT2 {α β : Type} [Py α] [Py β] {xs : α × β} (h : Ev F X G L st e (dy xs) st1) : Ev F X G L st e (dy (Tn.mk (n := 2))) st1 := h.imp fun _ _ _ ⟨a, u, w, e, h1, _⟩ => ⟨a, _, e, h1, rfl⟩
theorem Ev.toL {α : Type} [Py α] {u w : α} (h : Ev F X G L st e (dy (u, w)) st1) : Ev F X G L st e (dy [u, w]) st1 := h.imp fun _ _ _ ⟨a, u, w, e, h1, r1, r2⟩ => ⟨a, _, e, h1, .cons r1 (.cons r2 .nil)⟩
theorem Ev.some {α : Type} [Py α] {u : α} (h : Ev F X G L st e (dy u) st1) : Ev F X G L st e (dy (Option.some u)) st1 := h.imp fun _ _ _ h => h
theorem Ev.word {w : Way} (h : Ev F X G L st e (dy w.s) st1) : Ev F X G L st e (dy w) st1 := h.imp fun _ _ _ h => h

/-! ### names, constants -/
theorem ev_var (i : Nat) {n : Str} (hG : G[i]? = some (some d) := by rfl) (hN : X.N[i]? = some n := by rfl) (hv : Vis X.env.scope n := by first | exact Or.inl rfl | exact Or.inr (Or.inl rfl) | exact Or.inr (Or.inr rfl))
    (hd : (n == ("__debug__" : Str)) = false := by decide) (hcd : (n == ("__classdict__" : Str)) = false := by decide) : Ev F X G L st (.Name n pos) d st := fun σ H ok Q k => by
  obtain ⟨v, h1, h2⟩ := ok.env.at_ i d hG
  exact (pe_var hN hv hd hcd).wp ⟨v, h1, k v H (.refl _ _) ok h2⟩
theorem ev_int {n : Int} {j} : Ev F X G L st (.Constant (.int n) j pos) (dy n) st := fun σ H ok Q k => pe_int.wp (k _ H (.refl _ _) ok rfl)
theorem ev_str {n : Str} {j} : Ev F X G L st (.Constant (.str n) j pos) (dy n) st := fun σ H ok Q k => pe_str.wp (k _ H (.refl _ _) ok rfl)
theorem ev_bool {n : Bool} {j} : Ev F X G L st (.Constant (.bool n) j pos) (dy n) st := fun σ H ok Q k => pe_bl.wp (k _ H (.refl _ _) ok rfl)
theorem ev_none {α : Type} [Py α] {j} : Ev F X G L st (.Constant .none j pos) (dy (none : Option α)) st := fun σ H ok Q k => pe_non.wp (k _ H (.refl _ _) ok rfl)
theorem ev_globI {n : Str} {i : Int} {t : Tok} (hm : X.mg n = some (.int i t)) (hg : Gl X n := by rfl) (hd : (n == ("__debug__" : Str)) = false := by decide) : Ev F X G L st (.Name n pos) (dy i) st := fun σ H ok Q k => (pe_glob (v := .int i) hg hm ⟨t, rfl⟩ hd).wp (k _ H (.refl _ _) ok rfl)
theorem ev_globW {n : Str} {i : Way} {t : Tok} (hm : X.mg n = some (.str i.s t)) (hg : Gl X n := by rfl) (hd : (n == ("__debug__" : Str)) = false := by decide) : Ev F X G L st (.Name n pos) (dy i) st := fun σ H ok Q k => (pe_glob (v := .str i.s) hg hm ⟨t, rfl⟩ hd).wp (k _ H (.refl _ _) ok rfl)

/-! ### operators -/
/-- what an operation makes of two data -/
def R2t (F : Fr) (G : Gm) (L : Ls) (st : Pst) (r : R2) (x y d : Dyn) : Prop := ∀ u w σ H, Ok F G L st σ H → x.rel (keys F L) H u → y.rel (keys F L) H w → ∀ Q : VK, (∀ v H', Ex H H' → d.rel (keys F L) H' v → Q v H') → r u w H Q
theorem bin2 {r : R2} (ha : Ev F X G L st a x st1) (hb : Ev F X G L st1 b y st2) (hr : R2t F G L st2 r x y d) {σ : L2.St} {H : Hp} (ok : Ok F G L st σ H) {Q : VK} (k : ∀ v H', Fx (keys F L) H H' → Ok F G L st2 σ H' → d.rel (keys F L) H' v → Q v H') :
    tOp r (wpE X a) (wpE X b) σ H Q := ha σ H ok _ fun u H1 f1 ok1 r1 => hb σ H1 ok1 _ fun w H2 f2 ok2 r2 => hr u w σ H2 ok2 (Dyn.keep ok1.lo f2 r1) r2 Q fun v H3 e3 r3 => k v H3 (f1.trans (f2.trans e3.fx)) (ok2.ex e3) r3
theorem ev_op {op : Operator} {r : R2} (ho : OpR X (binaryOp op) r) (hr : R2t F G L st2 r x y d) (ha : Ev F X G L st a x st1) (hb : Ev F X G L st1 b y st2) : Ev F X G L st (.BinOp a op b pos) d st2 := fun σ H ok Q k =>
  (pe_op ho pe_wp pe_wp).wp (bin2 ha hb hr ok k)
theorem ev_cmp {op : CmpOp} {r : R2} (ho : OpR X (compareOp op) r) (hr : R2t F G L st2 r x y d) (ha : Ev F X G L st a x st1) (hb : Ev F X G L st1 b y st2) (hm : behindInMarks op b = false := by first | exact nomark _ | rfl) : Ev F X G L st (.Compare a [op] [b] pos) d st2 := fun σ H ok Q k =>
  (pe_cmpR ho pe_wp pe_wp hm).wp (bin2 ha hb hr ok k)
theorem evt_cmp {op : CmpOp} {r : R2} {k0 : Bool} (ho : OpR X (compareOp op) r) (hr : R2t F G L st2 r x y (dy k0)) (ha : Ev F X G L st a x st1) (hb : Ev F X G L st1 b y st2) (hm : behindInMarks op b = false := by first | exact nomark _ | rfl) : EvT F X G L st (.Compare a [op] [b] pos) k0 st2 := fun σ H ok Q k =>
  (pt_cmpR ho pe_wp pe_wp hm).wp (bin2 ha hb hr ok fun v H' f ok' r => ⟨k0, r, k H' f ok'⟩)
theorem r2_I {C : Int → Int → Prop} {g : Int → Int → V} {i j : Int} (hc : C i j) (h : ∀ S H, d.rel S H (g i j)) : R2t F G L st (rI C g) (dy i) (dy j) d := fun u w σ H ok ru rw' Q k => ⟨i, j, ru, rw', hc, k _ H (.refl _) (h _ _)⟩
theorem r2_I0 {g : Int → Int → V} {i j : Int} (h : ∀ S H, d.rel S H (g i j)) : R2t F G L st (rI0 g) (dy i) (dy j) d := fun u w σ H ok ru rw' Q k => ⟨i, j, ru, rw', k _ H (.refl _) (h _ _)⟩
section
variable {i j : Int}
theorem ev_add (ha : Ev F X G L st a (dy i) st1) (hb : Ev F X G L st1 b (dy j) st2) : Ev F X G L st (.BinOp a .Add b pos) (dy (i + j)) st2 := ev_op op_add (r2_I0 fun _ _ => rfl) ha hb
theorem ev_sub (ha : Ev F X G L st a (dy i) st1) (hb : Ev F X G L st1 b (dy j) st2) : Ev F X G L st (.BinOp a .Sub b pos) (dy (i - j)) st2 := ev_op op_sub (r2_I0 fun _ _ => rfl) ha hb
theorem ev_mul (ha : Ev F X G L st a (dy i) st1) (hb : Ev F X G L st1 b (dy j) st2) (h : CMul i j) : Ev F X G L st (.BinOp a .Mult b pos) (dy (i * j)) st2 := ev_op op_mul (r2_I h fun _ _ => rfl) ha hb
theorem ev_div (ha : Ev F X G L st a (dy i) st1) (hb : Ev F X G L st1 b (dy j) st2) (h : CDiv i j) : Ev F X G L st (.BinOp a .FloorDiv b pos) (dy (i / j)) st2 := ev_op op_fdiv (r2_I h fun _ _ => rfl) ha hb
theorem ev_mod (ha : Ev F X G L st a (dy i) st1) (hb : Ev F X G L st1 b (dy j) st2) (h : 0 < j) : Ev F X G L st (.BinOp a .Mod b pos) (dy (i % j)) st2 := ev_op op_mod (r2_I h fun _ _ => rfl) ha hb
theorem ev_pow (ha : Ev F X G L st a (dy i) st1) (hb : Ev F X G L st1 b (dy j) st2) (h : CPow i j) : Ev F X G L st (.BinOp a .Pow b pos) (dy (i ^ j.toNat)) st2 := ev_op op_pow (r2_I h fun _ _ => rfl) ha hb
theorem ev_lt (ha : Ev F X G L st a (dy i) st1) (hb : Ev F X G L st1 b (dy j) st2) : Ev F X G L st (.Compare a [.Lt] [b] pos) (dy (decide (i < j))) st2 := ev_cmp op_lt (r2_I0 fun _ _ => rfl) ha hb
theorem ev_le (ha : Ev F X G L st a (dy i) st1) (hb : Ev F X G L st1 b (dy j) st2) : Ev F X G L st (.Compare a [.LtE] [b] pos) (dy (decide (i ≤ j))) st2 := ev_cmp op_le (r2_I0 fun _ _ => rfl) ha hb
theorem ev_gt (ha : Ev F X G L st a (dy i) st1) (hb : Ev F X G L st1 b (dy j) st2) : Ev F X G L st (.Compare a [.Gt] [b] pos) (dy (decide (j < i))) st2 := ev_cmp op_gt (r2_I0 fun _ _ => rfl) ha hb
theorem ev_ge (ha : Ev F X G L st a (dy i) st1) (hb : Ev F X G L st1 b (dy j) st2) : Ev F X G L st (.Compare a [.GtE] [b] pos) (dy (decide (j ≤ i))) st2 := ev_cmp op_ge (r2_I0 fun _ _ => rfl) ha hb
theorem evt_lt (ha : Ev F X G L st a (dy i) st1) (hb : Ev F X G L st1 b (dy j) st2) : EvT F X G L st (.Compare a [.Lt] [b] pos) (decide (i < j)) st2 := evt_cmp op_lt (r2_I0 fun _ _ => rfl) ha hb
theorem evt_le (ha : Ev F X G L st a (dy i) st1) (hb : Ev F X G L st1 b (dy j) st2) : EvT F X G L st (.Compare a [.LtE] [b] pos) (decide (i ≤ j)) st2 := evt_cmp op_le (r2_I0 fun _ _ => rfl) ha hb
theorem evt_gt (ha : Ev F X G L st a (dy i) st1) (hb : Ev F X G L st1 b (dy j) st2) : EvT F X G L st (.Compare a [.Gt] [b] pos) (decide (j < i)) st2 := evt_cmp op_gt (r2_I0 fun _ _ => rfl) ha hb
theorem evt_ge (ha : Ev F X G L st a (dy i) st1) (hb : Ev F X G L st1 b (dy j) st2) : EvT F X G L st (.Compare a [.GtE] [b] pos) (decide (j ≤ i)) st2 := evt_cmp op_ge (r2_I0 fun _ _ => rfl) ha hb
theorem decV_int : decide (V.int i = V.int j) = decide (i = j) := decide_eq_decide.mpr ⟨V.int.inj, congrArg _⟩
theorem decV_bl {i j : Bool} : decide (V.bl i = V.bl j) = decide (i = j) := decide_eq_decide.mpr ⟨V.bl.inj, congrArg _⟩
theorem decV_way {i j : Way} : decide (V.str i.s = V.str j.s) = decide (i = j) := decide_eq_decide.mpr ⟨fun h => Way.s_inj (V.str.inj h), fun h => by rw [h]⟩
theorem r2_eqI : R2t F G L st rEq (dy i) (dy j) (dy (decide (i = j))) := fun u w σ H ok ru rw' Q k => by
  cases (show u = .int i from ru)
  cases (show w = .int j from rw')
  refine ⟨rfl, k _ H (.refl _) ?_⟩
  show V.bl (decide (V.int i = V.int j)) = V.bl (decide (i = j))
  rw [decV_int]
theorem r2_neI : R2t F G L st rNe (dy i) (dy j) (dy (!decide (i = j))) := fun u w σ H ok ru rw' Q k => by
  cases (show u = .int i from ru)
  cases (show w = .int j from rw')
  refine ⟨rfl, k _ H (.refl _) ?_⟩
  show V.bl (!decide (V.int i = V.int j)) = V.bl (!decide (i = j))
  rw [decV_int]
theorem ev_eqI (ha : Ev F X G L st a (dy i) st1) (hb : Ev F X G L st1 b (dy j) st2) : Ev F X G L st (.Compare a [.Eq] [b] pos) (dy (decide (i = j))) st2 := ev_cmp op_eq r2_eqI ha hb
theorem evt_eqI (ha : Ev F X G L st a (dy i) st1) (hb : Ev F X G L st1 b (dy j) st2) : EvT F X G L st (.Compare a [.Eq] [b] pos) (decide (i = j)) st2 := evt_cmp op_eq r2_eqI ha hb
theorem evt_neI (ha : Ev F X G L st a (dy i) st1) (hb : Ev F X G L st1 b (dy j) st2) : EvT F X G L st (.Compare a [.NotEq] [b] pos) (!decide (i = j)) st2 := evt_cmp op_ne r2_neI ha hb
end
theorem r2_eqB {i j : Bool} : R2t F G L st rEq (dy i) (dy j) (dy (decide (i = j))) := fun u w σ H ok ru rw' Q k => by
  cases (show u = .bl i from ru)
  cases (show w = .bl j from rw')
  refine ⟨rfl, k _ H (.refl _) ?_⟩
  show V.bl (decide (V.bl i = V.bl j)) = V.bl (decide (i = j))
  rw [decV_bl]
theorem ev_eqB {i j : Bool} (ha : Ev F X G L st a (dy i) st1) (hb : Ev F X G L st1 b (dy j) st2) : Ev F X G L st (.Compare a [.Eq] [b] pos) (dy (decide (i = j))) st2 := ev_cmp op_eq r2_eqB ha hb
theorem r2_eqW {i j : Way} : R2t F G L st rEq (dy i) (dy j) (dy (decide (i = j))) := fun u w σ H ok ru rw' Q k => by
  cases (show u = .str i.s from ru)
  cases (show w = .str j.s from rw')
  refine ⟨rfl, k _ H (.refl _) ?_⟩
  show V.bl (decide (V.str i.s = V.str j.s)) = V.bl (decide (i = j))
  rw [decV_way]
theorem ev_eqW {i j : Way} (ha : Ev F X G L st a (dy i) st1) (hb : Ev F X G L st1 b (dy j) st2) : Ev F X G L st (.Compare a [.Eq] [b] pos) (dy (decide (i = j))) st2 := ev_cmp op_eq r2_eqW ha hb
theorem evt_eqW {i j : Way} (ha : Ev F X G L st a (dy i) st1) (hb : Ev F X G L st1 b (dy j) st2) : EvT F X G L st (.Compare a [.Eq] [b] pos) (decide (i = j)) st2 := evt_cmp op_eq r2_eqW ha hb
/-- is None -/
theorem r2_isN {α β : Type} [Py α] [Py β] {o : Option α} {o' : Option β} (hn : o' = none) (ho : ∀ S H v u, o = Option.some u → rel S H v u → v ≠ .non) : R2t F G L st (fun x y H Q => y = .non ∧ Q (.bl (decide (x = .non))) H) (dy o) (dy o') (dy (o.isNone)) := fun u w σ H ok ru rw' Q k => by
  subst hn
  refine ⟨rw', k _ H (.refl _) ?_⟩
  cases o with
  | none =>
    cases (show u = .non from ru)
    rfl
  | some x =>
    have e : u ≠ .non := ho _ H u x rfl ru
    show V.bl (decide (u = .non)) = V.bl false
    rw [decide_eq_false e]
theorem r2_notN {α β : Type} [Py α] [Py β] {o : Option α} {o' : Option β} (hn : o' = none) (ho : ∀ S H v u, o = Option.some u → rel S H v u → v ≠ .non) : R2t F G L st (fun x y H Q => y = .non ∧ Q (.bl (!decide (x = .non))) H) (dy o) (dy o') (dy (o.isSome)) := fun u w σ H ok ru rw' Q k => by
  subst hn
  refine ⟨rw', k _ H (.refl _) ?_⟩
  cases o with
  | none =>
    cases (show u = .non from ru)
    rfl
  | some x =>
    have e : u ≠ .non := ho _ H u x rfl ru
    show V.bl (!decide (u = .non)) = V.bl true
    rw [decide_eq_false e]
    rfl
theorem nn_int {S : AS} {H : Hp} {v : V} {u : Int} (h : rel S H v u) : v ≠ .non := fun z => by
  cases (show v = .int u from h)
  cases z
theorem nn_pair {α β : Type} [Py α] [Py β] {S : AS} {H : Hp} {v : V} {u : α × β} (h : rel S H v u) : v ≠ .non := fun z => by
  obtain ⟨a, _, _, e, _⟩ := h
  subst e
  cases z
theorem ev_isNI {o : Option Int} {j} (ha : Ev F X G L st a (dy o) st1) : Ev F X G L st (.Compare a [.Is] [.Constant .none j p1] pos) (dy (o.isNone)) st1 := ev_cmp op_isN (r2_isN (o' := (none : Option Int)) rfl fun _ _ _ _ _ h => nn_int h) ha ev_none
theorem evt_isNI {o : Option Int} {j} (ha : Ev F X G L st a (dy o) st1) : EvT F X G L st (.Compare a [.Is] [.Constant .none j p1] pos) (o.isNone) st1 := evt_cmp op_isN (r2_isN (o' := (none : Option Int)) rfl fun _ _ _ _ _ h => nn_int h) ha ev_none
theorem evt_notNI {o : Option Int} {j} (ha : Ev F X G L st a (dy o) st1) : EvT F X G L st (.Compare a [.IsNot] [.Constant .none j p1] pos) (o.isSome) st1 := evt_cmp op_notN (r2_notN (o' := (none : Option Int)) rfl fun _ _ _ _ _ h => nn_int h) ha ev_none
theorem evt_isNP {o : Option (Int × Int)} {j} (ha : Ev F X G L st a (dy o) st1) : EvT F X G L st (.Compare a [.Is] [.Constant .none j p1] pos) (o.isNone) st1 := evt_cmp op_isN (r2_isN (o' := (none : Option Int)) rfl fun _ _ _ _ _ h => nn_pair h) ha ev_none

/-! ### chains of two comparisons -/
theorem ev_chain {op op' : CmpOp} {r r' : R2} {k1 k2 : Bool} (ho : OpR X (compareOp op) r) (ho' : OpR X (compareOp op') r') (hr : R2t F G L st r x y (dy k1)) (hr' : R2t F G L st r' y z (dy k2)) (ha : Ev F X G L st a x st) (hb : Ev F X G L st b y st) (hc : Ev F X G L st c z st)
    (hm : lastMarks [op, op'] [b, c] = false := by with_unfolding_all rfl) : Ev F X G L st (.Compare a [op, op'] [b, c] pos) (dy (k1 && k2)) st := fun σ H ok Q k =>
  (pe_chain ho ho' pe_wp pe_wp pe_wp hm).wp (ha σ H ok _ fun u H1 f1 ok1 r1 => hb σ H1 ok1 _ fun w H2 f2 ok2 r2 => hr u w σ H2 ok2 (Dyn.keep ok1.lo f2 r1) r2 _ fun v H3 e3 r3 => by
    have ok3 := ok2.ex e3
    refine ⟨k1, r3, ?_⟩
    cases k1 with
    | false => exact iteF (k _ H3 (f1.trans (f2.trans e3.fx)) ok3 rfl)
    | true => exact iteT (hc σ H3 ok3 _ fun t H4 f4 ok4 r4 => hr' w t σ H4 ok4 (Dyn.keep ok2.lo (e3.fx.trans f4) r2) r4 Q fun q H5 e5 r5 => k q H5 (f1.trans (f2.trans (e3.fx.trans (f4.trans e5.fx)))) (ok4.ex e5) r5))
theorem evt_chain {op op' : CmpOp} {r r' : R2} {k1 k2 : Bool} (ho : OpR X (compareOp op) r) (ho' : OpR X (compareOp op') r') (hr : R2t F G L st r x y (dy k1)) (hr' : R2t F G L st r' y z (dy k2)) (ha : Ev F X G L st a x st) (hb : Ev F X G L st b y st) (hc : Ev F X G L st c z st)
    (hm : lastMarks [op, op'] [b, c] = false := by with_unfolding_all rfl) : EvT F X G L st (.Compare a [op, op'] [b, c] pos) (k1 && k2) st := fun σ H ok Q k =>
  (pt_chain ho ho' pe_wp pe_wp pe_wp hm).wp (ha σ H ok _ fun u H1 f1 ok1 r1 => hb σ H1 ok1 _ fun w H2 f2 ok2 r2 => hr u w σ H2 ok2 (Dyn.keep ok1.lo f2 r1) r2 _ fun v H3 e3 r3 => by
    have ok3 := ok2.ex e3
    refine ⟨k1, r3, ?_⟩
    cases k1 with
    | false => exact iteF ⟨false, rfl, k H3 (f1.trans (f2.trans e3.fx)) ok3⟩
    | true => exact iteT (hc σ H3 ok3 _ fun t H4 f4 ok4 r4 => hr' w t σ H4 ok4 (Dyn.keep ok2.lo (e3.fx.trans f4) r2) r4 _ fun q H5 e5 r5 => ⟨k2, r5, k H5 (f1.trans (f2.trans (e3.fx.trans (f4.trans e5.fx)))) (ok4.ex e5)⟩))
theorem ev_lele {i j k : Int} (ha : Ev F X G L st a (dy i) st) (hb : Ev F X G L st b (dy j) st) (hc : Ev F X G L st c (dy k) st) (hm : lastMarks [.LtE, .LtE] [b, c] = false := by with_unfolding_all rfl) :
    Ev F X G L st (.Compare a [.LtE, .LtE] [b, c] pos) (dy (decide (i ≤ j) && decide (j ≤ k))) st := ev_chain op_le op_le (r2_I0 fun _ _ => rfl) (r2_I0 fun _ _ => rfl) ha hb hc hm

/-! ### and, or, not, if -/
theorem ev_and {p q : Bool} (ha : Ev F X G L st a (dy p) st) (hb : p = true → Ev F X G L st b (dy q) st) : Ev F X G L st (.BoolOp .And [a, b] pos) (dy (p && q)) st := fun σ H ok Q k =>
  (pe_and pe_wp (pe_one pe_wp)).wp (ha σ H ok _ fun u H1 f1 ok1 r1 => by
    refine ⟨p, r1, ?_⟩
    cases p with
    | false => exact iteF (k _ H1 f1 ok1 rfl)
    | true => exact iteT (hb rfl σ H1 ok1 _ fun w H2 f2 ok2 r2 => k w H2 (f1.trans f2) ok2 r2))
theorem ev_or {p q : Bool} (ha : Ev F X G L st a (dy p) st) (hb : p = false → Ev F X G L st b (dy q) st) : Ev F X G L st (.BoolOp .Or [a, b] pos) (dy (p || q)) st := fun σ H ok Q k =>
  (pe_or pe_wp (pe_one pe_wp)).wp (ha σ H ok _ fun u H1 f1 ok1 r1 => by
    refine ⟨p, r1, ?_⟩
    cases p with
    | true => exact iteT (k _ H1 f1 ok1 rfl)
    | false => exact iteF (hb rfl σ H1 ok1 _ fun w H2 f2 ok2 r2 => k w H2 (f1.trans f2) ok2 r2))
theorem ev_and3 {p q r : Bool} (ha : Ev F X G L st a (dy p) st) (hb : p = true → Ev F X G L st b (dy q) st) (hc : p = true → q = true → Ev F X G L st c (dy r) st) : Ev F X G L st (.BoolOp .And [a, b, c] pos) (dy (p && (q && r))) st := fun σ H ok Q k =>
  (pe_and pe_wp (pe_and pe_wp (pe_one pe_wp))).wp (ha σ H ok _ fun u H1 f1 ok1 r1 => by
    refine ⟨p, r1, ?_⟩
    cases p with
    | false => exact iteF (k _ H1 f1 ok1 rfl)
    | true =>
      refine iteT (hb rfl σ H1 ok1 _ fun w H2 f2 ok2 r2 => ?_)
      refine ⟨q, r2, ?_⟩
      cases q with
      | false => exact iteF (k _ H2 (f1.trans f2) ok2 rfl)
      | true => exact iteT (hc rfl rfl σ H2 ok2 _ fun w H3 f3 ok3 r3 => k w H3 (f1.trans (f2.trans f3)) ok3 r3))
theorem ev_not {p : Bool} (ha : Ev F X G L st a (dy p) st1) : Ev F X G L st (.UnaryOp .Not a pos) (dy (!p)) st1 := fun σ H ok Q k =>
  (pe_not pe_wp).wp (ha σ H ok _ fun u H1 f1 ok1 r1 => ⟨p, r1, k _ H1 f1 ok1 rfl⟩)
theorem ev_neg {i : Int} (ha : Ev F X G L st a (dy i) st1) : Ev F X G L st (.UnaryOp .USub a pos) (dy (-i)) st1 := fun σ H ok Q k =>
  (pe_un un_neg pe_wp).wp (ha σ H ok _ fun u H1 f1 ok1 r1 => ⟨i, r1, k _ H1 f1 ok1 rfl⟩)
theorem ev_if {k0 : Bool} (hc : EvT F X G L st c k0 st1) (h1 : k0 = true → Ev F X G L st1 a d st2) (h2 : k0 = false → Ev F X G L st1 b d st2) : Ev F X G L st (.IfExp c a b pos) d st2 := fun σ H ok Q k =>
  (pe_ifExp pt_wp pe_wp pe_wp).wp (hc σ H ok _ fun H1 f1 ok1 => by
    cases k0 with
    | true => exact iteT (h1 rfl σ H1 ok1 _ fun v H2 f2 ok2 r2 => k v H2 (f1.trans f2) ok2 r2)
    | false => exact iteF (h2 rfl σ H1 ok1 _ fun v H2 f2 ok2 r2 => k v H2 (f1.trans f2) ok2 r2))
/-! ### tests -/
theorem evt_val {k0 : Bool} (ha : Ev F X G L st a (dy k0) st1) (he : ∀ whole, isTrue a X.env whole = (do let v ← whole; standAt a.pos; holding [v] (truthy v)) := by intro _; rfl) : EvT F X G L st a k0 st1 := fun σ H ok Q k =>
  (pt_val pe_wp he).wp (ha σ H ok _ fun u H1 f1 ok1 r1 => ⟨k0, r1, k H1 f1 ok1⟩)
theorem evt_not {k0 : Bool} (ha : EvT F X G L st a k0 st1) : EvT F X G L st (.UnaryOp .Not a pos) (!k0) st1 := fun σ H ok Q k => (pt_not pt_wp).wp (ha σ H ok _ fun H1 f1 ok1 => k H1 f1 ok1)
theorem evw_and1 {k0 : Bool} (ha : EvT F X G L st a k0 st1) : EvW F X G L st (.BoolOp .And [a] pos) k0 st1 := fun σ H ok Q k => (pw_and1 pt_wp).wp (ha σ H ok _ k)
theorem evw_or1 {k0 : Bool} (ha : EvT F X G L st a k0 st1) : EvW F X G L st (.BoolOp .Or [a] pos) k0 st1 := fun σ H ok Q k => (pw_or1 pt_wp).wp (ha σ H ok _ k)
theorem evw_andF (ha : EvT F X G L st a false st1) : EvW F X G L st (.BoolOp .And (a :: b :: es) pos) false st1 := fun σ H ok Q k => (pw_and pt_wp pw_wp).wp (ha σ H ok _ fun H1 f1 ok1 => iteF (k H1 f1 ok1))
theorem evw_andT {k0 : Bool} (ha : EvT F X G L st a true st1) (hb : EvW F X G L st1 (.BoolOp .And (b :: es) pos) k0 st2) : EvW F X G L st (.BoolOp .And (a :: b :: es) pos) k0 st2 := fun σ H ok Q k => (pw_and pt_wp pw_wp).wp (ha σ H ok _ fun H1 f1 ok1 => iteT (hb σ H1 ok1 _ fun H2 f2 ok2 => k H2 (f1.trans f2) ok2))
theorem evw_and {k0 k1 : Bool} (ha : EvT F X G L st a k0 st) (hb : k0 = true → EvW F X G L st (.BoolOp .And (b :: es) pos) k1 st) : EvW F X G L st (.BoolOp .And (a :: b :: es) pos) (k0 && k1) st := by
  cases k0 with
  | false => exact evw_andF ha
  | true => exact evw_andT ha (hb rfl)
theorem evw_orT (ha : EvT F X G L st a true st1) : EvW F X G L st (.BoolOp .Or (a :: b :: es) pos) true st1 := fun σ H ok Q k => (pw_or pt_wp pw_wp).wp (ha σ H ok _ fun H1 f1 ok1 => iteT (k H1 f1 ok1))
theorem evw_orF {k0 : Bool} (ha : EvT F X G L st a false st1) (hb : EvW F X G L st1 (.BoolOp .Or (b :: es) pos) k0 st2) : EvW F X G L st (.BoolOp .Or (a :: b :: es) pos) k0 st2 := fun σ H ok Q k => (pw_or pt_wp pw_wp).wp (ha σ H ok _ fun H1 f1 ok1 => iteF (hb σ H1 ok1 _ fun H2 f2 ok2 => k H2 (f1.trans f2) ok2))
theorem evw_or {k0 k1 : Bool} (ha : EvT F X G L st a k0 st) (hb : k0 = false → EvW F X G L st (.BoolOp .Or (b :: es) pos) k1 st) : EvW F X G L st (.BoolOp .Or (a :: b :: es) pos) (k0 || k1) st := by
  cases k0 with
  | true => exact evw_orT ha
  | false => exact evw_orF ha (hb rfl)
theorem EvW.t {k0 : Bool} (h : EvW F X G L st e k0 st1) : EvT F X G L st e k0 st1 := fun σ H ok Q k => (PW.pt pw_wp).wp (h σ H ok _ k)

/-! ### argument lists, displays -/
theorem eva_nil : EvA F X G L st [] [] st := fun σ H ok Q k => pa_nil.wp (k _ H (.refl _ _) ok .nil)
theorem eva_cons (ha : Ev F X G L st e d st1) (hb : EvA F X G L st1 es ds st2) (hs : starEach (e :: es) X.env = (false, eval e X.env) :: starEach es X.env := by rfl) : EvA F X G L st (e :: es) (d :: ds) st2 := fun σ H ok Q k =>
  (pa_cons pe_wp pa_wp hs).wp (ha σ H ok _ fun u H1 f1 ok1 r1 => hb σ H1 ok1 _ fun us H2 f2 ok2 r2 => k _ H2 (f1.trans f2) ok2 (.cons (Dyn.keep ok1.lo f2 r1) r2))
theorem ev_disp {t} (h : EvA F X G L st es ds st1) (hl : ds.length ≤ sizeLine) (f : ∀ S H a vs, H a = some (.tup vs) → D2 (fun v d => d.rel S H v) vs ds → d.rel S H (.ref a)) : Ev F X G L st (.Tuple es t pos) d st1 := fun σ H ok Q k =>
  (pe_tup pa_wp).wp (h σ H ok _ fun vs H1 f1 ok1 r1 => ⟨by rw [r1.length]; exact hl, fun p hp => by
    have e : Ex H1 (upd H1 p (.tup vs)) := Ex.new hp
    exact k _ _ (f1.trans e.fx) (ok1.ex e) (f _ _ _ _ upd_same (r1.map fun v d r => Dyn.keep ok1.lo e.fx r))⟩)
theorem ev_pair {α β : Type} [Py α] [Py β] {u : α} {w : β} {t} (ha : Ev F X G L st a (dy u) st1) (hb : Ev F X G L st1 b (dy w) st2) (hs : starEach [a, b] X.env = (false, eval a X.env) :: starEach [b] X.env := by rfl) (hs2 : starEach [b] X.env = (false, eval b X.env) :: starEach [] X.env := by rfl) :
    Ev F X G L st (.Tuple [a, b] t pos) (dy (u, w)) st2 := ev_disp (eva_cons ha (eva_cons hb eva_nil hs2) hs) (by show 2 ≤ sizeLine; decide) fun S H p vs h r => by
  cases r with
  | cons r1 r =>
    cases r with
    | cons r2 r =>
      cases r
      exact ⟨p, _, _, rfl, h, r1, r2⟩
theorem ev_tupL {α : Type} [Py α] {xs : List α} {t} (h : EvA F X G L st es (xs.map dy) st1) (hl : xs.length ≤ sizeLine) : Ev F X G L st (.Tuple es t pos) (dy xs) st1 := ev_disp h (by rw [List.length_map]; exact hl) fun S H p vs h r => ⟨p, vs, rfl, h, r.to_a2⟩
theorem ev_lst {α : Type} [Py α] {xs : List α} (h : EvA F X G L st es (xs.map dy) st1) (hl : xs.length ≤ sizeLine) : Ev F X G L st (.List es pos) (dy (PL.mk xs)) st1 := fun σ H ok Q k =>
  (pe_lst pa_wp).wp (h σ H ok _ fun vs H1 f1 ok1 r1 => ⟨by rw [r1.length, List.length_map]; exact hl, fun p hp => by
    have e : Ex H1 (upd H1 p (.lst vs)) := Ex.new hp
    have o2 : Ok F G ((p, xs.map dy) :: L) st1 σ (upd H1 p (.lst vs)) := ok1.own hp r1
    exact k _ _ (f1.trans e.fx) (ok1.ex e) o2.pl⟩)

/-! ### subscripts -/
theorem ev_ix {r : R2} (hr : IxR X r) (h : R2t F G L st2 r x y d) (ha : Ev F X G L st a x st1) (hb : Ev F X G L st1 b y st2) (hs : PlainIx b := by exact fun _ _ => rfl) : Ev F X G L st (.Subscript a b pos) d st2 := fun σ H ok Q k =>
  (pe_ix hr pe_wp pe_wp hs).wp (bin2 ha hb h ok k)
theorem A2.atI {α : Type} {R : V → α → Prop} {vs : List V} {xs : List α} {i : Int} {x : α} (h : A2 R vs xs) (e : L2.atI xs i = some x) : ∃ v, L2.atI vs i = some v ∧ R v x := by
  unfold L2.atI at e ⊢
  rw [h.length]
  cases hi : ixN xs.length i with
  | none => rw [hi] at e; cases e
  | some j =>
    rw [hi] at e
    exact h.get (i := j) (x := x) e
def atD (xs : DL) (i : Int) : Option Dyn := match ixN xs.length i with
  | some j => xs[j]?
  | none => none
theorem D2.atI {R : V → Dyn → Prop} {vs : List V} {xs : DL} {i : Int} {x : Dyn} (h : D2 R vs xs) (e : atD xs i = some x) : ∃ v, L2.atI vs i = some v ∧ R v x := by
  unfold L2.atI
  unfold atD at e
  rw [h.length]
  cases hi : ixN xs.length i with
  | none => rw [hi] at e; cases e
  | some j =>
    rw [hi] at e
    exact h.get (i := j) (x := x) e
theorem atD_dy {α : Type} [Py α] {xs : List α} {i : Int} {x : α} (e : atI xs i = some x) : atD (xs.map dy) i = some (dy x) := by
  unfold atI at e
  unfold atD
  rw [List.length_map]
  cases hi : ixN xs.length i with
  | none => rw [hi] at e; cases e
  | some j =>
    rw [hi] at e
    show (xs.map dy)[j]? = some (dy x)
    rw [List.getElem?_map, show xs[j]? = some x from e]
    rfl
theorem r2_ixT {α : Type} [Py α] {xs : List α} {i : Int} {u : α} (e : atI xs i = some u) : R2t F G L st (rIxT X.K) (dy xs) (dy i) (dy u) := fun v w σ H ok ru rw' Q k => by
  obtain ⟨p, vs, e1, h1, r⟩ := ru
  obtain ⟨q, h2, rq⟩ := r.atI e
  exact ⟨p, vs, i, q, e1, rw', .of h1, h2, k q H (.refl _) rq⟩
theorem r2_ixL {α : Type} [Py α] {xs : List α} {i : Int} {u : α} (e : atI xs i = some u) : R2t F G L st (rIxL X.K) (dy (PL.mk xs)) (dy i) (dy u) := fun v w σ H ok ru rw' Q k => by
  obtain ⟨p, vs, e1, _, h1, r⟩ := ru
  obtain ⟨q, h2, rq⟩ := r.atI e
  exact ⟨p, vs, i, q, e1, rw', .of h1, h2, k q H (.refl _) rq⟩
theorem r2_ixO {p : Addr} {xs : DL} {i : Int} {u : Dyn} (hL : (p, xs) ∈ L) (e : atD xs i = some u) : R2t F G L st (rIxL X.K) (dy (Ad.mk p)) (dy i) u := fun v w σ H ok ru rw' Q k => by
  obtain ⟨vs, h1, r⟩ := ok.loc _ hL
  obtain ⟨q, h2, rq⟩ := r.atI e
  exact ⟨p, vs, i, q, ru, rw', .of h1, h2, k q H (.refl _) rq⟩
theorem r2_ixP {α : Type} [Py α] {u : α × α} {i : Int} (hi : i = 0 ∨ i = 1) : R2t F G L st (rIxT X.K) (dy u) (dy i) (dy (pick u i)) := fun v w σ H ok ru rw' Q k => by
  obtain ⟨p, s, t, e1, h1, r1, r2⟩ := ru
  rcases hi with rfl | rfl
  · exact ⟨p, [s, t], 0, s, e1, rw', .of h1, atI_nat (j := 0) rfl, k s H (.refl _) r1⟩
  · exact ⟨p, [s, t], 1, t, e1, rw', .of h1, atI_nat (j := 1) rfl, k t H (.refl _) r2⟩
theorem r2_fst {α β : Type} [Py α] [Py β] {u : α × β} : R2t F G L st (rIxT X.K) (dy u) (dy (0 : Int)) (dy u.1) := fun v w σ H ok ru rw' Q k => by
  obtain ⟨p, s, t, e1, h1, r1, r2⟩ := ru
  exact ⟨p, [s, t], 0, s, e1, rw', .of h1, atI_nat (j := 0) rfl, k s H (.refl _) r1⟩
theorem r2_snd {α β : Type} [Py α] [Py β] {u : α × β} : R2t F G L st (rIxT X.K) (dy u) (dy (1 : Int)) (dy u.2) := fun v w σ H ok ru rw' Q k => by
  obtain ⟨p, s, t, e1, h1, r1, r2⟩ := ru
  exact ⟨p, [s, t], 1, t, e1, rw', .of h1, atI_nat (j := 1) rfl, k t H (.refl _) r2⟩
section
variable {α β : Type} [Py α] [Py β] {xs : List α} {i : Int} {u : α}
theorem ev_ixT (ha : Ev F X G L st a (dy xs) st1) (hb : Ev F X G L st1 b (dy i) st2) (e : atI xs i = some u) (hs : PlainIx b := by exact fun _ _ => rfl) : Ev F X G L st (.Subscript a b pos) (dy u) st2 := ev_ix ix_tup (r2_ixT e) ha hb hs
theorem ev_ixL (ha : Ev F X G L st a (dy (PL.mk xs)) st1) (hb : Ev F X G L st1 b (dy i) st2) (e : atI xs i = some u) (hs : PlainIx b := by exact fun _ _ => rfl) : Ev F X G L st (.Subscript a b pos) (dy u) st2 := ev_ix ix_list (r2_ixL e) ha hb hs
theorem ev_ixO {p : Addr} {xs : DL} {u : Dyn} (ha : Ev F X G L st a (dy (Ad.mk p)) st1) (hb : Ev F X G L st1 b (dy i) st2) (hL : (p, xs) ∈ L) (e : atD xs i = some u) (hs : PlainIx b := by exact fun _ _ => rfl) : Ev F X G L st (.Subscript a b pos) u st2 := ev_ix ix_list (r2_ixO hL e) ha hb hs
theorem ev_ixP {u : α × α} (ha : Ev F X G L st a (dy u) st1) (hb : Ev F X G L st1 b (dy i) st2) (hi : i = 0 ∨ i = 1) (hs : PlainIx b := by exact fun _ _ => rfl) : Ev F X G L st (.Subscript a b pos) (dy (pick u i)) st2 := ev_ix ix_tup (r2_ixP hi) ha hb hs
theorem ev_fst {u : α × β} (ha : Ev F X G L st a (dy u) st1) (hb : Ev F X G L st1 b (dy (0 : Int)) st2) (hs : PlainIx b := by exact fun _ _ => rfl) : Ev F X G L st (.Subscript a b pos) (dy u.1) st2 := ev_ix ix_tup r2_fst ha hb hs
theorem ev_snd {u : α × β} (ha : Ev F X G L st a (dy u) st1) (hb : Ev F X G L st1 b (dy (1 : Int)) st2) (hs : PlainIx b := by exact fun _ _ => rfl) : Ev F X G L st (.Subscript a b pos) (dy u.2) st2 := ev_ix ix_tup r2_snd ha hb hs
end
end
end K5

namespace K5
open PySem PySem.Spec PyProof.Rows L2
open Py (rel)

/-! ### data as the library's data (for ==, repr, max) -/
class PyE (α : Type) extends Py α where
  dat : α → PyData
  deep : Nat
  dp : ∀ {K : PySem.W.Frag} {S : AS} {H : Hp} {v : V} {x : α}, rel S H v x → Dp K H v (dat x)
  lay : ∀ x : α, (dat x).canLay0 = true ∧ (dat x).depth ≤ deep ∧ (dat x).hasDict = false
instance : PyE Int := { dat := .int, deep := 0, dp := fun h => by cases h; exact .int _, lay := fun x => ⟨by simp [PyData.canLay0], by simp [PyData.depth], by simp [PyData.hasDict]⟩ }
instance : PyE Bool := { dat := .bool, deep := 0, dp := fun h => by cases h; exact .bl _, lay := fun x => ⟨by simp [PyData.canLay0], by simp [PyData.depth], by simp [PyData.hasDict]⟩ }
theorem way_ok (w : Way) : PyData.strOk w.s = true := by cases w <;> decide +kernel
instance : PyE Way := { dat := fun w => .str w.s, deep := 0, dp := fun h => by cases h; exact .str _, lay := fun x => ⟨by simpa [PyData.canLay0] using way_ok x, by simp [PyData.depth], by simp [PyData.hasDict]⟩ }
theorem canAll {xs : List PyData} (h : ∀ x ∈ xs, x.canLay0 = true) : PyData.canLayAll0 xs = true := by
  induction xs with
  | nil => simp [PyData.canLayAll0]
  | cons x xs ih => simp only [PyData.canLayAll0, h x List.mem_cons_self, ih fun y hy => h y (List.mem_cons_of_mem _ hy), Bool.and_self]
theorem deepAll {xs : List PyData} {n : Nat} (h : ∀ x ∈ xs, x.depth ≤ n) : PyData.depthAll xs ≤ n := by
  induction xs with
  | nil => simp [PyData.depthAll]
  | cons x xs ih =>
    have h1 := h x List.mem_cons_self
    have h2 := ih fun y hy => h y (List.mem_cons_of_mem _ hy)
    simp only [PyData.depthAll]
    omega
theorem dictAll {xs : List PyData} (h : ∀ x ∈ xs, x.hasDict = false) : PyData.hasDictAll xs = false := by
  induction xs with
  | nil => simp [PyData.hasDictAll]
  | cons x xs ih => simp only [PyData.hasDictAll, h x List.mem_cons_self, ih fun y hy => h y (List.mem_cons_of_mem _ hy), Bool.or_self]
theorem A2.dpAll {α : Type} {f : α → PyData} {R : V → α → Prop} {K : PySem.W.Frag} {H : Hp} (h : ∀ v x, R v x → Dp K H v (f x)) : ∀ {vs : List V} {xs : List α}, A2 R vs xs → DpAll K H vs (xs.map f)
  | _, _, .nil => .nil
  | _, _, .cons r t => .cons (h _ _ r) (A2.dpAll h t)
instance {α β : Type} [PyE α] [PyE β] : PyE (α × β) where
  dat := fun x => .tuple [PyE.dat x.1, PyE.dat x.2]
  deep := max (PyE.deep α) (PyE.deep β) + 1
  dp := fun ⟨a, u, w, e, h, r1, r2⟩ => by
    subst e
    exact .tup (.of h) (.cons (PyE.dp r1) (.cons (PyE.dp r2) .nil))
  lay := fun x => by
    obtain ⟨a1, a2, a3⟩ := PyE.lay x.1
    obtain ⟨b1, b2, b3⟩ := PyE.lay x.2
    refine ⟨by simp [PyData.canLay0, PyData.canLayAll0, a1, b1], ?_, by simp [PyData.hasDict, PyData.hasDictAll, a3, b3]⟩
    simp only [PyData.depth, PyData.depthAll]
    omega
instance {α : Type} [PyE α] : PyE (List α) where
  dat := fun x => .tuple (x.map PyE.dat)
  deep := PyE.deep α + 1
  dp := fun ⟨a, vs, e, h, r⟩ => by
    subst e
    exact .tup (.of h) (r.dpAll fun _ _ q => PyE.dp q)
  lay := fun x => by
    have q : ∀ y ∈ x.map PyE.dat, ∃ z : α, y = PyE.dat z := fun y hy => by
      obtain ⟨z, _, e⟩ := List.mem_map.mp hy
      exact ⟨z, e.symm⟩
    refine ⟨?_, ?_, ?_⟩
    · simp only [PyData.canLay0]
      exact canAll fun y hy => by obtain ⟨z, rfl⟩ := q y hy; exact (PyE.lay z).1
    · have := deepAll (xs := x.map PyE.dat) (n := PyE.deep α) fun y hy => by obtain ⟨z, rfl⟩ := q y hy; exact (PyE.lay z).2.1
      simp only [PyData.depth]
      omega
    · simp only [PyData.hasDict]
      exact dictAll fun y hy => by obtain ⟨z, rfl⟩ := q y hy; exact (PyE.lay z).2.2
instance {α : Type} [PyE α] : PyE (PL α) where
  dat := fun x => .list (x.l.map PyE.dat)
  deep := PyE.deep α + 1
  dp := fun ⟨a, vs, e, _, h, r⟩ => by
    subst e
    exact .lst (.of h) (r.dpAll fun _ _ q => PyE.dp q)
  lay := fun x => by
    have q : ∀ y ∈ x.l.map PyE.dat, ∃ z : α, y = PyE.dat z := fun y hy => by
      obtain ⟨z, _, e⟩ := List.mem_map.mp hy
      exact ⟨z, e.symm⟩
    refine ⟨?_, ?_, ?_⟩
    · simp only [PyData.canLay0]
      exact canAll fun y hy => by obtain ⟨z, rfl⟩ := q y hy; exact (PyE.lay z).1
    · have := deepAll (xs := x.l.map PyE.dat) (n := PyE.deep α) fun y hy => by obtain ⟨z, rfl⟩ := q y hy; exact (PyE.lay z).2.1
      simp only [PyData.depth]
      omega
    · simp only [PyData.hasDict]
      exact dictAll fun y hy => by obtain ⟨z, rfl⟩ := q y hy; exact (PyE.lay z).2.2
theorem shaped_of {α : Type} [PyE α] (x : α) (h : PyE.deep α ≤ 64) : SeqAt.shaped (PyE.dat x) = true := by
  obtain ⟨a, b, _⟩ := PyE.lay x
  unfold SeqAt.shaped
  rw [a, decide_eq_true (show (PyE.dat x).depth ≤ 64 by omega)]
  rfl
/-- Python's == of two data -/
def eqd {α β : Type} [PyE α] [PyE β] (x : α) (y : β) : Bool := PyData.eqv (PyE.dat x) (PyE.dat y)
theorem eqd_refl {α : Type} [PyE α] (x : α) : eqd x x = true := PySem.SeqAt.eqv_refl _ (PyE.lay x).1

section
variable {F : Fr} {X : Cx} {G : Gm} {L : Ls} {st st1 st2 st3 : Pst} {e a b c : Expr} {es : List Expr} {pos p1 p2 p3 p4 p : Pos} {d x y z : Dyn} {ds : DL}
section
variable {α β : Type} [iα : PyE α] [iβ : PyE β] {u : α} {w : β}
theorem r2_eqD (h1 : PyE.deep α ≤ 64) (h2 : PyE.deep β ≤ 64) : R2t F G L st (rEqD X.K) (dy u) (dy w) (dy (eqd u w)) := fun v v' σ H ok ru rw' Q k => ⟨_, _, PyE.dp (show rel _ H v u from ru), PyE.dp (show rel _ H v' w from rw'), shaped_of u h1, shaped_of w h2, k _ H (.refl _) rfl⟩
theorem r2_neD (h1 : PyE.deep α ≤ 64) (h2 : PyE.deep β ≤ 64) : R2t F G L st (rNeD X.K) (dy u) (dy w) (dy (!eqd u w)) := fun v v' σ H ok ru rw' Q k => ⟨_, _, PyE.dp (show rel _ H v u from ru), PyE.dp (show rel _ H v' w from rw'), shaped_of u h1, shaped_of w h2, k _ H (.refl _) rfl⟩
theorem ev_eqD (g : Gd X) (ha : Ev F X G L st a (dy u) st1) (hb : Ev F X G L st1 b (dy w) st2) (h1 : PyE.deep α ≤ 64 := by decide) (h2 : PyE.deep β ≤ 64 := by decide) : Ev F X G L st (.Compare a [.Eq] [b] pos) (dy (eqd u w)) st2 := ev_cmp (op_eqD g.hu) (r2_eqD h1 h2) ha hb
theorem evt_eqD (g : Gd X) (ha : Ev F X G L st a (dy u) st1) (hb : Ev F X G L st1 b (dy w) st2) (h1 : PyE.deep α ≤ 64 := by decide) (h2 : PyE.deep β ≤ 64 := by decide) : EvT F X G L st (.Compare a [.Eq] [b] pos) (eqd u w) st2 := evt_cmp (op_eqD g.hu) (r2_eqD h1 h2) ha hb
theorem evt_neD (g : Gd X) (ha : Ev F X G L st a (dy u) st1) (hb : Ev F X G L st1 b (dy w) st2) (h1 : PyE.deep α ≤ 64 := by decide) (h2 : PyE.deep β ≤ 64 := by decide) : EvT F X G L st (.Compare a [.NotEq] [b] pos) (!eqd u w) st2 := evt_cmp (op_neD g.hu) (r2_neD h1 h2) ha hb
end
/-- a word in a tuple | a list of words -/
theorem way_flat {S : AS} {H : Hp} : ∀ {vs : List V} {ws : List Way}, A2 (rel S H) vs ws → vs = ws.map fun w => V.str w.s
  | _, _, .nil => rfl
  | _, _, .cons h t => by rw [way_flat t, show _ = V.str _ from h]; rfl
theorem inV_way (w : Way) (ws : List Way) : inV (.str w.s) (ws.map fun w => V.str w.s) = ws.contains w := by
  unfold inV
  induction ws with
  | nil => rfl
  | cons u us ih =>
    rw [List.map_cons, List.any_cons, ih, List.contains_cons]
    congr 1
    cases u <;> cases w <;> decide +kernel
theorem r2_inT {w : Way} {ws : List Way} : R2t F G L st (rIn X.K false) (dy w) (dy ws) (dy (ws.contains w)) := fun u v σ H ok ru rv Q k => by
  obtain ⟨a, vs, e, h, r⟩ := (show tupRel (keys F L) H v ws from rv)
  have er := way_flat r
  subst er
  cases (show u = .str w.s from ru)
  refine ⟨a, _, e, .inr (.of h), rfl, ?_, k _ H (.refl _) ?_⟩
  · rw [List.all_eq_true]
    intro z hz
    obtain ⟨y, _, rfl⟩ := List.mem_map.mp hz
    rfl
  · show V.bl (inV (.str w.s) (ws.map fun w => V.str w.s)) = V.bl (ws.contains w)
    rw [inV_way]
theorem r2_inL {w : Way} {ws : List Way} : R2t F G L st (rIn X.K false) (dy w) (dy (PL.mk ws)) (dy (ws.contains w)) := fun u v σ H ok ru rv Q k => by
  obtain ⟨a, vs, e, _, h, r⟩ := (show lstRel (keys F L) H v (PL.mk ws) from rv)
  have er : vs = ws.map fun w => V.str w.s := way_flat r
  subst er
  cases (show u = .str w.s from ru)
  refine ⟨a, _, e, .inl (.of h), rfl, ?_, k _ H (.refl _) ?_⟩
  · rw [List.all_eq_true]
    intro z hz
    obtain ⟨y, _, rfl⟩ := List.mem_map.mp hz
    rfl
  · show V.bl (inV (.str w.s) (ws.map fun w => V.str w.s)) = V.bl (ws.contains w)
    rw [inV_way]
theorem ev_inT {w : Way} {ws : List Way} (ha : Ev F X G L st a (dy w) st1) (hb : Ev F X G L st1 b (dy ws) st2) (hm : behindInMarks .In b = false := by rfl) : Ev F X G L st (.Compare a [.In] [b] pos) (dy (ws.contains w)) st2 := ev_cmp op_in_seq r2_inT ha hb hm
theorem ev_inL {w : Way} {ws : List Way} (ha : Ev F X G L st a (dy w) st1) (hb : Ev F X G L st1 b (dy (PL.mk ws)) st2) (hm : behindInMarks .In b = false := by rfl) : Ev F X G L st (.Compare a [.In] [b] pos) (dy (ws.contains w)) st2 := ev_cmp op_in_seq r2_inL ha hb hm

/-! ### built-in functions -/
def RCt (F : Fr) (G : Gm) (L : Ls) (st : Pst) (r : List V → Hp → VK → Prop) (ds : DL) (d : Dyn) : Prop := ∀ vs σ H, Ok F G L st σ H → D2 (fun v d => d.rel (keys F L) H v) vs ds → ∀ Q : VK, (∀ v H', Ex H H' → d.rel (keys F L) H' v → Q v H') → r vs H Q
theorem ev_callB {n : Str} {id : String} {r : List V → Hp → VK → Prop} (hc : CallR X (.builtin id) r) (hr : RCt F G L st1 r ds d) (hv : bootBuiltins n = some (.builtin id)) (hm : X.mg n = none) (ha : EvA F X G L st (e :: es) ds st1) (hg : Gl X n) (hn : n ≠ "__name__") (hdb : (n == ("__debug__" : Str)) = false)
    (he : starEach (e :: es) X.env = (false, eval e X.env) :: starEach es X.env) (hpl : (backTo pos (starEach es X.env)).any (·.1) = false) : Ev F X G L st (.Call (.Name n p) (e :: es) [] pos) d st1 := fun σ H ok Q k =>
  (pe_callB hc hg hm hv pa_wp hn hdb he hpl).wp (ha σ H ok _ fun vs H1 f1 ok1 r1 => hr vs σ H1 ok1 r1 Q fun v H2 e2 r2 => k v H2 (f1.trans e2.fx) (ok1.ex e2) r2)
theorem ev_callTy {n : Str} {T : String} {r : List V → Hp → VK → Prop} (hc : CallR X (.type T) r) (hr : RCt F G L st1 r ds d) (hv : bootBuiltins n = some (.type T)) (hm : X.mg n = none) (ha : EvA F X G L st (e :: es) ds st1) (hg : Gl X n) (hn : n ≠ "__name__") (hdb : (n == ("__debug__" : Str)) = false)
    (he : starEach (e :: es) X.env = (false, eval e X.env) :: starEach es X.env) (hpl : (backTo pos (starEach es X.env)).any (·.1) = false) : Ev F X G L st (.Call (.Name n p) (e :: es) [] pos) d st1 := fun σ H ok Q k =>
  (pe_callTy hc hg hm hv pa_wp hn hdb he hpl).wp (ha σ H ok _ fun vs H1 f1 ok1 r1 => hr vs σ H1 ok1 r1 Q fun v H2 e2 r2 => k v H2 (f1.trans e2.fx) (ok1.ex e2) r2)
/-- one argument -/
theorem rc_one {r : List V → Hp → VK → Prop} (h : ∀ v σ H, Ok F G L st σ H → x.rel (keys F L) H v → ∀ Q : VK, (∀ v H', Ex H H' → d.rel (keys F L) H' v → Q v H') → r [v] H Q) : RCt F G L st r [x] d := fun vs σ H ok rs Q k => by
  cases rs with
  | cons r1 rs =>
    cases rs
    exact h _ σ H ok r1 Q k
theorem rc_two {r : List V → Hp → VK → Prop} (h : ∀ v w σ H, Ok F G L st σ H → x.rel (keys F L) H v → y.rel (keys F L) H w → ∀ Q : VK, (∀ v H', Ex H H' → d.rel (keys F L) H' v → Q v H') → r [v, w] H Q) : RCt F G L st r [x, y] d := fun vs σ H ok rs Q k => by
  cases rs with
  | cons r1 rs =>
    cases rs with
    | cons r2 rs =>
      cases rs
      exact h _ _ σ H ok r1 r2 Q k
section
variable {α : Type} [Py α] {xs : List α} {i : Int}
theorem ev_lenT {n : Nat} (hm : X.mg "len" = none) (ha : Ev F X G L st a (dy (Tn.mk (n := n))) st1) (hg : Gl X "len" := by rfl) (hs : starEach [a] X.env = (false, eval a X.env) :: starEach [] X.env := by rfl) : Ev F X G L st (.Call (.Name "len" p) [a] [] pos) (dy (n : Int)) st1 :=
  ev_callB call_len_seq (rc_one (x := dy (Tn.mk (n := n))) (d := dy (n : Int)) fun v σ H ok ⟨q, vs, e, h, hl⟩ Q k => ⟨q, vs, by rw [e], .inr (.of h), k _ H (.refl _) (show V.int (vs.length : Int) = V.int (n : Int) by rw [hl])⟩) PySem.boot_len hm (eva_cons ha eva_nil hs) hg (by decide) (by decide) hs rfl
theorem ev_len (hm : X.mg "len" = none) (ha : Ev F X G L st a (dy xs) st1) (hg : Gl X "len" := by rfl) (hs : starEach [a] X.env = (false, eval a X.env) :: starEach [] X.env := by rfl) : Ev F X G L st (.Call (.Name "len" p) [a] [] pos) (dy (xs.length : Int)) st1 := ev_lenT hm ha.toT hg hs
theorem ev_lenL (hm : X.mg "len" = none) (ha : Ev F X G L st a (dy (PL.mk xs)) st1) (hg : Gl X "len" := by rfl) (hs : starEach [a] X.env = (false, eval a X.env) :: starEach [] X.env := by rfl) : Ev F X G L st (.Call (.Name "len" p) [a] [] pos) (dy (xs.length : Int)) st1 :=
  ev_callB call_len_seq (rc_one (x := dy (PL.mk xs)) (d := dy (xs.length : Int)) fun v σ H ok ⟨q, vs, e, _, h, hl⟩ Q k => ⟨q, vs, by rw [e], .inl (.of h), k _ H (.refl _) (show V.int (vs.length : Int) = V.int (xs.length : Int) by rw [show vs.length = xs.length from hl.length])⟩) PySem.boot_len hm (eva_cons ha eva_nil hs) hg (by decide) (by decide) hs rfl
theorem ev_lenO {q : Addr} {zs : DL} (hm : X.mg "len" = none) (hL : (q, zs) ∈ L) (ha : Ev F X G L st a (dy (Ad.mk q)) st1) (hg : Gl X "len" := by rfl) (hs : starEach [a] X.env = (false, eval a X.env) :: starEach [] X.env := by rfl) : Ev F X G L st (.Call (.Name "len" p) [a] [] pos) (dy (zs.length : Int)) st1 :=
  ev_callB call_len_seq (rc_one (x := dy (Ad.mk q)) (d := dy (zs.length : Int)) fun v σ H ok e Q k => by
    obtain ⟨vs, h, hl⟩ := ok.loc _ hL
    have e2 : vs.length = zs.length := hl.length
    exact ⟨q, vs, by rw [show v = V.ref q from e], .inl (.of h), k _ H (.refl _) (show V.int (vs.length : Int) = V.int (zs.length : Int) by rw [e2])⟩) PySem.boot_len hm (eva_cons ha eva_nil hs) hg (by decide) (by decide) hs rfl
theorem ev_sum {ns : List Int} (g : Gd X) (hm : X.mg "sum" = none) (ha : Ev F X G L st a (dy (PL.mk ns)) st1) (hg : Gl X "sum" := by rfl) (hs : starEach [a] X.env = (false, eval a X.env) :: starEach [] X.env := by rfl) : Ev F X G L st (.Call (.Name "sum" p) [a] [] pos) (dy ns.sum) st1 :=
  ev_callB (cr_sum g.calm) (rc_one (x := dy (PL.mk ns)) (d := dy ns.sum) fun v σ H ok ⟨q, vs, e, _, h, hl⟩ Q k => ⟨q, ns, by rw [e], .of (by rw [h]; congr 2; exact int_flat hl), k _ H (.refl _) rfl⟩) (by decide +kernel) hm (eva_cons ha eva_nil hs) hg (by decide) (by decide) hs rfl
where
  int_flat {S : AS} {H : Hp} : ∀ {vs : List V} {ns : List Int}, A2 (rel S H) vs ns → vs = ns.map V.int
    | _, _, .nil => rfl
    | _, _, .cons h t => by rw [int_flat t, show _ = V.int _ from h]; rfl
theorem bl_flat {S : AS} {H : Hp} : ∀ {vs : List V} {ns : List Bool}, A2 (rel S H) vs ns → vs = ns.map V.bl
  | _, _, .nil => rfl
  | _, _, .cons h t => by rw [bl_flat t, show _ = V.bl _ from h]; rfl
theorem ev_all {ns : List Bool} (g : Gd X) (hm : X.mg "all" = none) (ha : Ev F X G L st a (dy (PL.mk ns)) st1) (hg : Gl X "all" := by rfl) (hs : starEach [a] X.env = (false, eval a X.env) :: starEach [] X.env := by rfl) : Ev F X G L st (.Call (.Name "all" p) [a] [] pos) (dy (ns.all id)) st1 :=
  ev_callB (cr_all g.calm) (rc_one (x := dy (PL.mk ns)) (d := dy (ns.all id)) fun v σ H ok ⟨q, vs, e, _, h, hl⟩ Q k => ⟨q, ns, by rw [e], .of (by rw [h]; congr 2; exact bl_flat hl), k _ H (.refl _) rfl⟩) (by decide +kernel) hm (eva_cons ha eva_nil hs) hg (by decide) (by decide) hs rfl
def absI (i : Int) : Int := if i < 0 then -i else i
theorem ev_abs (hm : X.mg "abs" = none) (ha : Ev F X G L st a (dy i) st1) (hg : Gl X "abs" := by rfl) (hs : starEach [a] X.env = (false, eval a X.env) :: starEach [] X.env := by rfl) : Ev F X G L st (.Call (.Name "abs" p) [a] [] pos) (dy (absI i)) st1 :=
  ev_callB call_abs (rc_one (x := dy i) (d := dy (absI i)) fun v σ H ok e Q k => ⟨i, by rw [show v = V.int i from e], k _ H (.refl _) rfl⟩) (by decide +kernel) hm (eva_cons ha eva_nil hs) hg (by decide) (by decide) hs rfl
theorem ev_intI (hm : X.mg "int" = none) (ha : Ev F X G L st a (dy i) st1) (hg : Gl X "int" := by rfl) (hs : starEach [a] X.env = (false, eval a X.env) :: starEach [] X.env := by rfl) : Ev F X G L st (.Call (.Name "int" p) [a] [] pos) (dy i) st1 :=
  ev_callTy call_int1 (rc_one (x := dy i) (d := dy i) fun v σ H ok e Q k => .inl ⟨i, by rw [show v = V.int i from e], k _ H (.refl _) rfl⟩) (by decide +kernel) hm (eva_cons ha eva_nil hs) hg (by decide) (by decide) hs rfl
def b2I (k : Bool) : Int := if k then 1 else 0
theorem ev_intB {k0 : Bool} (hm : X.mg "int" = none) (ha : Ev F X G L st a (dy k0) st1) (hg : Gl X "int" := by rfl) (hs : starEach [a] X.env = (false, eval a X.env) :: starEach [] X.env := by rfl) : Ev F X G L st (.Call (.Name "int" p) [a] [] pos) (dy (b2I k0)) st1 :=
  ev_callTy call_int1 (rc_one (x := dy k0) (d := dy (b2I k0)) fun v σ H ok e Q k => .inr ⟨k0, by rw [show v = V.bl k0 from e], k _ H (.refl _) rfl⟩) (by decide +kernel) hm (eva_cons ha eva_nil hs) hg (by decide) (by decide) hs rfl
/-- tuple(list) -/
theorem ev_tuple (hm : X.mg "tuple" = none) (ha : Ev F X G L st a (dy (PL.mk xs)) st1) (hg : Gl X "tuple" := by rfl) (hs : starEach [a] X.env = (false, eval a X.env) :: starEach [] X.env := by rfl) : Ev F X G L st (.Call (.Name "tuple" p) [a] [] pos) (dy xs) st1 :=
  ev_callTy call_tuple_of (rc_one (x := dy (PL.mk xs)) (d := dy xs) fun v σ H ok ⟨q, vs, e, _, h, hl⟩ Q k => ⟨q, vs, by rw [e], .inl ⟨.of h, fun l hn => k _ _ (Ex.new hn) ⟨l, vs, rfl, upd_same, hl.map fun _ _ r => Py.keep ok.lo (Ex.new hn).fx r⟩⟩⟩) (by decide +kernel) hm (eva_cons ha eva_nil hs) hg (by decide) (by decide) hs rfl
theorem ev_tupleO {q : Addr} (hm : X.mg "tuple" = none) (hL : (q, xs.map dy) ∈ L) (ha : Ev F X G L st a (dy (Ad.mk q)) st1) (hg : Gl X "tuple" := by rfl) (hs : starEach [a] X.env = (false, eval a X.env) :: starEach [] X.env := by rfl) : Ev F X G L st (.Call (.Name "tuple" p) [a] [] pos) (dy xs) st1 :=
  ev_callTy call_tuple_of (rc_one (x := dy (Ad.mk q)) (d := dy xs) fun v σ H ok e Q k => by
    obtain ⟨vs, h, hl⟩ := ok.loc _ hL
    exact ⟨q, vs, by rw [show v = V.ref q from e], .inl ⟨.of h, fun l hn => k _ _ (Ex.new hn) ⟨l, vs, rfl, upd_same, hl.to_a2.map fun _ _ r => Py.keep ok.lo (Ex.new hn).fx r⟩⟩⟩) (by decide +kernel) hm (eva_cons ha eva_nil hs) hg (by decide) (by decide) hs rfl
end
/-! ### isinstance -/
structure Tyv where
  n : String
instance : PyF Tyv := { rel := fun _ _ v x => v = .ty x.n, keep := fun _ _ h => h, sub := fun _ h => h, frz := fun h => h }
theorem ev_ty {n : Str} {T : String} (hv : bootBuiltins n = some (.type T)) (hm : X.mg n = none) (hg : Gl X n) (hn : n ≠ "__name__") (hdb : (n == ("__debug__" : Str)) = false) : Ev F X G L st (.Name n pos) (dy (Tyv.mk T)) st := fun σ H ok Q k => (pe_bltn (v := .ty T) hg hm hv rfl hn hdb).wp (k _ H (.refl _ _) ok rfl)
/-- data whose type is told -/
class PyTy (α : Type) extends Py α where
  ty : String
  is : ∀ {K : PySem.W.Frag} {S : AS} {H : Hp} {v : V} {x : α}, rel S H v x → TyX K H v (.type ty)
instance : PyTy Int := { ty := "int", is := fun h => by cases h; exact .base (.int _) }
instance : PyTy Bool := { ty := "bool", is := fun h => by cases h; exact .base (.bl _) }
instance : PyTy Way := { ty := "str", is := fun h => by cases h; exact .base (.str _) }
instance {n : Nat} : PyTy (Tn n) := { ty := "tuple", is := fun ⟨a, vs, e, h, _⟩ => by subst e; exact .base (.tup h) }
theorem ev_isi {α : Type} [PyTy α] {u : α} {n : Str} {T : String} {k0 : Bool} (hk : kitB (PyTy.ty α) T = some k0) (hm : X.mg "isinstance" = none) (hv : bootBuiltins n = some (.type T)) (hmn : X.mg n = none) (hgn : Gl X n) (hn : n ≠ "__name__") (hdb : (n == ("__debug__" : Str)) = false) (ha : Ev F X G L st a (dy u) st1)
    (hg : Gl X "isinstance") (hs : starEach [a, .Name n p1] X.env = (false, eval a X.env) :: starEach [.Name n p1] X.env) (hs2 : starEach [.Name n p1] X.env = (false, eval (.Name n p1) X.env) :: starEach [] X.env) : Ev F X G L st (.Call (.Name "isinstance" p) [a, .Name n p1] [] pos) (dy k0) st1 :=
  ev_callB call_isi (rc_two (x := dy u) (y := dy (Tyv.mk T)) (d := dy k0) fun v w σ H ok ru rw' Q k => ⟨v, w, _, .type T, k0, rfl, by rw [show w = V.ty T from rw']; exact .ty T, PyTy.is (show rel _ H v u from ru), kit_ty hk, k _ H (.refl _) rfl⟩) (by decide +kernel) hm (eva_cons ha (eva_cons (ev_ty hv hmn hgn hn hdb) eva_nil hs2) hs) hg (by decide) (by decide) hs (by rw [hs2]; rfl)
theorem kit_tt : kitB "tuple" "tuple" = some true := by decide +kernel
theorem ev_isTup {n : Nat} (hm : X.mg "isinstance" = none) (hm2 : X.mg "tuple" = none) (ha : Ev F X G L st a (dy (Tn.mk (n := n))) st1) (hg : Gl X "isinstance" := by rfl) (hg2 : Gl X "tuple" := by rfl) (hs : starEach [a, .Name "tuple" p1] X.env = (false, eval a X.env) :: starEach [.Name "tuple" p1] X.env := by rfl) :
    Ev F X G L st (.Call (.Name "isinstance" p) [a, .Name "tuple" p1] [] pos) (dy true) st1 := ev_isi (T := "tuple") kit_tt hm (by decide +kernel) hm2 hg2 (by decide) (by decide) ha hg hs rfl
theorem ev_isInt {i : Int} (hm : X.mg "isinstance" = none) (hm2 : X.mg "int" = none) (ha : Ev F X G L st a (dy i) st1) (hg : Gl X "isinstance" := by rfl) (hg2 : Gl X "int" := by rfl) (hs : starEach [a, .Name "int" p1] X.env = (false, eval a X.env) :: starEach [.Name "int" p1] X.env := by rfl) :
    Ev F X G L st (.Call (.Name "isinstance" p) [a, .Name "int" p1] [] pos) (dy true) st1 := ev_isi (T := "int") (by decide +kernel) hm (by decide +kernel) hm2 hg2 (by decide) (by decide) ha hg hs rfl
theorem ev_isBoolI {i : Int} (hm : X.mg "isinstance" = none) (hm2 : X.mg "bool" = none) (ha : Ev F X G L st a (dy i) st1) (hg : Gl X "isinstance" := by rfl) (hg2 : Gl X "bool" := by rfl) (hs : starEach [a, .Name "bool" p1] X.env = (false, eval a X.env) :: starEach [.Name "bool" p1] X.env := by rfl) :
    Ev F X G L st (.Call (.Name "isinstance" p) [a, .Name "bool" p1] [] pos) (dy false) st1 := ev_isi (T := "bool") (by decide +kernel) hm (by decide +kernel) hm2 hg2 (by decide) (by decide) ha hg hs rfl
theorem ev_isBoolB {i : Bool} (hm : X.mg "isinstance" = none) (hm2 : X.mg "bool" = none) (ha : Ev F X G L st a (dy i) st1) (hg : Gl X "isinstance" := by rfl) (hg2 : Gl X "bool" := by rfl) (hs : starEach [a, .Name "bool" p1] X.env = (false, eval a X.env) :: starEach [.Name "bool" p1] X.env := by rfl) :
    Ev F X G L st (.Call (.Name "isinstance" p) [a, .Name "bool" p1] [] pos) (dy true) st1 := ev_isi (T := "bool") (by decide +kernel) hm (by decide +kernel) hm2 hg2 (by decide) (by decide) ha hg hs rfl
theorem ev_isStr {i : Way} (hm : X.mg "isinstance" = none) (hm2 : X.mg "str" = none) (ha : Ev F X G L st a (dy i) st1) (hg : Gl X "isinstance" := by rfl) (hg2 : Gl X "str" := by rfl) (hs : starEach [a, .Name "str" p1] X.env = (false, eval a X.env) :: starEach [.Name "str" p1] X.env := by rfl) :
    Ev F X G L st (.Call (.Name "isinstance" p) [a, .Name "str" p1] [] pos) (dy true) st1 := ev_isi (T := "str") (by decide +kernel) hm (by decide +kernel) hm2 hg2 (by decide) (by decide) ha hg hs rfl
/-! ### max -/
open PySem.W (AlikeAll maxD maxD_ints max_list_data max_tuple_data)
theorem alike_ints (ns : List Int) : AlikeAll (ns.map PyData.int) := by
  refine ⟨fun x hx y hy => ?_, fun x hx => ?_⟩
  · obtain ⟨i, _, rfl⟩ := List.mem_map.mp hx
    obtain ⟨j, _, rfl⟩ := List.mem_map.mp hy
    simp [PySem.W.alike]
  · obtain ⟨i, _, rfl⟩ := List.mem_map.mp hx
    intro h
    cases h
/-- the greatest -/
def maxL : List Int → Int
  | [] => 0
  | n :: ns => ns.foldl max n
theorem deep_ints (ns : List Int) : PyData.depthAll (ns.map PyData.int) = 0 := by
  induction ns with
  | nil => rfl
  | cons n ns ih => rw [List.map_cons, PyData.depthAll, ih]; rfl
def rMaxD (K : PySem.W.Frag) : List V → Hp → VK → Prop := fun vs H Q => ∃ (p : Addr) (zs : List V) (ns : List Int), vs = [.ref p] ∧ (SqL K H p zs ∨ SqT K H p zs) ∧ zs = ns.map V.int ∧ ns ≠ [] ∧ Q (.int (maxL ns)) H
theorem dpAll_ints {K : PySem.W.Frag} {H : Hp} : ∀ ns : List Int, DpAll K H (ns.map V.int) (ns.map PyData.int)
  | [] => .nil
  | n :: ns => .cons (.int n) (dpAll_ints ns)
theorem cr_maxI (g : Gd X) : CallR X (.builtin "max") (rMaxD X.K) := by
  intro pins s σ H vs us Q I r h
  obtain ⟨q, zs, ns, rfl, hs, rfl, hne, k⟩ := h
  rw [Vals.ref1 r]
  obtain ⟨n, ns, rfl⟩ : ∃ n r, ns = n :: r := by
    cases ns with
    | nil => exact absurd rfl hne
    | cons n r => exact ⟨n, r, rfl⟩
  have hu : X.A.units + 1 + PyData.depthAll (PyData.int n :: ns.map PyData.int) < cLine := by
    have e := deep_ints (n :: ns)
    rw [List.map_cons] at e
    rw [e]
    have := g.hu
    omega
  have fin : ∀ (i : Nat) (v : Value) (h' : Heap) (tk : Nat) (bs : List Addr), Reads h' v (maxD (PyData.int n) (ns.map PyData.int)) bs → (∀ b o, s.heap.get? b = some o → h'.get? b = some o) → EP X pins σ Q v { s with heap := h', toks := tk } := fun i v h' tk bs rd kk => by
    rw [maxD_ints] at rd
    cases rd with
    | int i t => exact ⟨.int (maxL (n :: ns)), H, I.kept kk, ⟨t, rfl⟩, k⟩
  rcases hs with hs | hs
  · obtain ⟨its, rv, pl, _⟩ := I.list hs
    obtain ⟨as, rd⟩ := Dp.readsAll I _ _ its (dpAll_ints (n :: ns)) rv
    refine max_list_data (I.ok.hd g.calm) pl.isList (x := .int n) (xs := ns.map PyData.int) (by simpa using rd) (alike_ints (n :: ns)) hu fun i v h' tk bs _ rd kk => fin i v h' tk bs rd kk
  · obtain ⟨its, rv, pl, _⟩ := I.tuple hs
    obtain ⟨as, rd⟩ := Dp.readsAll I _ _ its (dpAll_ints (n :: ns)) rv
    refine max_tuple_data (I.ok.hd g.calm) (show s.heap.IsTuple q its.toArray from pl) (x := .int n) (xs := ns.map PyData.int) (by simpa using rd) (alike_ints (n :: ns)) hu fun i v h' tk bs _ rd kk => fin i v h' tk bs rd kk
theorem ev_max {ns : List Int} (g : Gd X) (hm : X.mg "max" = none) (hne : ns ≠ []) (ha : Ev F X G L st a (dy (PL.mk ns)) st1) (hg : Gl X "max" := by rfl) (hs : starEach [a] X.env = (false, eval a X.env) :: starEach [] X.env := by rfl) : Ev F X G L st (.Call (.Name "max" p) [a] [] pos) (dy (maxL ns)) st1 :=
  ev_callB (cr_maxI g) (rc_one (x := dy (PL.mk ns)) (d := dy (maxL ns)) fun v σ H ok ⟨q, vs, e, _, h, hl⟩ Q k => ⟨q, vs, ns, by rw [e], .inl (.of h), ev_sum.int_flat hl, hne, k _ H (.refl _) rfl⟩) (by decide +kernel) hm (eva_cons ha eva_nil hs) hg (by decide) (by decide) hs rfl
theorem ev_maxT {ns : List Int} (g : Gd X) (hm : X.mg "max" = none) (hne : ns ≠ []) (ha : Ev F X G L st a (dy ns) st1) (hg : Gl X "max" := by rfl) (hs : starEach [a] X.env = (false, eval a X.env) :: starEach [] X.env := by rfl) : Ev F X G L st (.Call (.Name "max" p) [a] [] pos) (dy (maxL ns)) st1 :=
  ev_callB (cr_maxI g) (rc_one (x := dy ns) (d := dy (maxL ns)) fun v σ H ok ⟨q, vs, e, h, hl⟩ Q k => ⟨q, vs, ns, by rw [e], .inr (.of h), ev_sum.int_flat hl, hne, k _ H (.refl _) rfl⟩) (by decide +kernel) hm (eva_cons ha eva_nil hs) hg (by decide) (by decide) hs rfl
/-! ### Boxes' fields -/
theorem bxF_many (t : V) (n : Nat) : (bxF t n).lookup ("many" : Str) = some (.int n) := by
  have e1 : (("many" : Str) == ("sizes" : Str)) = false := by decide +kernel
  have e2 : (("many" : Str) == ("many" : Str)) = true := by decide +kernel
  unfold bxF
  simp only [List.lookup, e1, e2]
theorem bxF_sizes (t : V) (n : Nat) : (bxF t n).lookup ("sizes" : Str) = some t := by
  have e2 : (("sizes" : Str) == ("sizes" : Str)) = true := by decide +kernel
  unfold bxF
  simp only [List.lookup, e2]
theorem ev_many {C : Addr} {bx : Bx C} (cl : Cls X.K C) (na : NoAttr X.K C "many") (ha : Ev F X G L st a (dy bx) st1) (hb : attributeBase a "many" X.env (eval a X.env) = eval a X.env := by rfl) : Ev F X G L st (.Attribute a "many" pos) (dy (bx.ss.length : Int)) st1 := fun σ H ok Q k =>
  (pe_fld pe_wp hb).wp (ha σ H ok _ fun v H1 f1 ok1 ⟨q, dx, t, e, h, r⟩ => ⟨q, C, dx, _, .int bx.ss.length, e, h, cl, na, bxF_many _ _, k _ H1 f1 ok1 rfl⟩)
theorem ev_sizes {C : Addr} {bx : Bx C} (cl : Cls X.K C) (na : NoAttr X.K C "sizes") (ha : Ev F X G L st a (dy bx) st1) (hb : attributeBase a "sizes" X.env (eval a X.env) = eval a X.env := by rfl) : Ev F X G L st (.Attribute a "sizes" pos) (dy bx.ss) st1 := fun σ H ok Q k =>
  (pe_fld pe_wp hb).wp (ha σ H ok _ fun v H1 f1 ok1 ⟨q, dx, t, e, h, r⟩ => ⟨q, C, dx, _, t, e, h, cl, na, bxF_sizes _ _, k _ H1 f1 ok1 r⟩)
end
end K5

namespace K5
open PySem PySem.Spec PyProof.Rows L2
open Py (rel)

/-! ### defs and their promises -/
/-- a promise of a def that changes nothing: R, of the arguments the value -/
def spP (R : DL → Dyn → Prop) : Sp := fun vs H Q _ => ∃ (S : AS) (ds : DL) (d : Dyn), (∀ a, S a → ∃ xs, H a = some (.lst xs)) ∧ D2 (fun v d => d.rel S H v) vs ds ∧ R ds d ∧ ∀ v H', Ex H H' → d.rel S H' v → Q v H'
/-- of a def whose first argument is the pool -/
def spQ (R : DL → Pst → Dyn → Pst → Prop) : Sp := fun vs H Q _ => ∃ (p c : Addr) (st : Pst) (ds : DL) (d : Dyn) (st' : Pst), PoolAt p c st H ∧ D2 (fun v d => d.rel (fun a => a = p ∨ a = c) H v) vs (dy (Ad.mk p) :: ds) ∧ R ds st d st' ∧
  ∀ v H', Fx (fun a => a = p ∨ a = c) H H' → PoolAt p c st' H' → (∀ S, d.rel S H' v) → Q v H'
structure Fn (P : Program) (w : World) (K : PySem.W.Frag) (mg : Str → Option Value) (base : Heap) (CX : CXT) (k : Nat) (x : Str) (sp : Sp) : Prop where
  ex : ∃ f fd ps, FnOk P w K mg base CX k f fd ps sp ∧ mg x = some (.ref f) ∧ PySem.W.keepIn K (.ref f) = true ∧ Binds K fd ps []
section
variable {F : Fr} {X : Cx} {G : Gm} {L : Ls} {st st1 st2 st3 : Pst} {e a b c : Expr} {es : List Expr} {pos p1 p2 p3 p4 p : Pos} {d x y z : Dyn} {ds : DL}
/-- any def, by what its promise gives here -/
theorem ev_call {CX : CXT} {k kk : Nat} {n : Str} {sp : Sp} (f : Fn X.prog X.w X.K X.mg X.base CX k n sp) (hr : Room kk X.A) (hk : k ≤ kk) (hx : Passes CX X E0) (ha : EvA F X G L st (e :: es) ds st1)
    (hs : ∀ vs σ H, Ok F G L st1 σ H → D2 (fun v d => d.rel (keys F L) H v) vs ds → ∀ Q : VK, (∀ v H', Fx (keys F L) H H' → Ok F G L st2 σ H' → d.rel (keys F L) H' v → Q v H') → sp vs H Q E0)
    (hg : Gl X n) (hdb : (n == ("__debug__" : Str)) = false) (he : starEach (e :: es) X.env = (false, eval e X.env) :: starEach es X.env) (hpl : (backTo pos (starEach es X.env)).any (·.1) = false) : Ev F X G L st (.Call (.Name n p) (e :: es) [] pos) d st2 := fun σ H ok Q q => by
  obtain ⟨fa, fd, ps, h1, h2, h3, h4⟩ := f.ex
  refine (pe_call h1 (hr.mono hk) hg h2 h3 h4 .nil hx pa_wp hdb he hpl).wp (ha σ H ok _ fun vs H1 f1 ok1 r1 => ?_)
  show sp (vs ++ []) H1 Q E0
  rw [List.append_nil]
  exact hs vs σ H1 ok1 r1 Q fun v H2 f2 ok2 r2 => q v H2 (f1.trans f2) ok2 r2
/-- a def that changes nothing -/
theorem ev_callP {CX : CXT} {k kk : Nat} {n : Str} {R : DL → Dyn → Prop} (f : Fn X.prog X.w X.K X.mg X.base CX k n (spP R)) (hr : Room kk X.A) (hk : k ≤ kk) (hx : Passes CX X E0) (ha : EvA F X G L st (e :: es) ds st1) (hR : R ds d) (hg : Gl X n := by rfl) (hdb : (n == ("__debug__" : Str)) = false := by decide)
    (he : starEach (e :: es) X.env = (false, eval e X.env) :: starEach es X.env := by rfl) (hpl : (backTo pos (starEach es X.env)).any (·.1) = false := by rfl) : Ev F X G L st (.Call (.Name n p) (e :: es) [] pos) d st1 :=
  ev_call f hr hk hx ha (fun vs σ H ok r Q q => ⟨keys F L, ds, d, fun a h => ok.lst h, r, hR, fun v H' e r => q v H' e.fx (ok.ex e) r⟩) hg hdb he hpl
theorem Fr.P_of {F : Fr} {q c : Addr} (h : F.pool = some (q, c)) : F.P = fun a => a = q ∨ a = c := by
  funext a
  refine propext ⟨?_, fun z => ⟨q, c, h, z⟩⟩
  rintro ⟨p', c', e, z⟩
  rw [h] at e
  cases e
  exact z
/-- a def that turns the pool -/
theorem ev_callQ {CX : CXT} {k kk : Nat} {n : Str} {R : DL → Pst → Dyn → Pst → Prop} {q c : Addr} (f : Fn X.prog X.w X.K X.mg X.base CX k n (spQ R)) (hr : Room kk X.A) (hk : k ≤ kk) (hx : Passes CX X E0) (hp : F.pool = some (q, c)) (ha : EvA F X G L st (e :: es) (dy (Ad.mk q) :: ds) st1) (hR : R ds st1 d st2) (hg : Gl X n := by rfl)
    (hdb : (n == ("__debug__" : Str)) = false := by decide) (he : starEach (e :: es) X.env = (false, eval e X.env) :: starEach es X.env := by rfl) (hpl : (backTo pos (starEach es X.env)).any (·.1) = false := by rfl) : Ev F X G L st (.Call (.Name n p) (e :: es) [] pos) d st2 :=
  ev_call f hr hk hx ha (fun vs σ H ok r Q k => by
    have eP := Fr.P_of hp
    refine ⟨q, c, st1, ds, d, st2, ok.pool q c hp, r.map fun v d => Dyn.sub fun a z => .inl (.inl (.inr (by rw [eP]; exact z))), hR, fun v H' f pl r => ?_⟩
    have f' : Fx F.P H H' := by rw [eP]; exact f
    exact k v H' (f'.mono fun a z => .inl (.inr z)) (ok.fx f' fun p' c' e => by
      rw [hp] at e
      cases e
      exact pl) (r _)) hg hdb he hpl

/-! ### iterators -/
theorem _root_.L2.Walk.mono' {J : It} {n n' : Nat} {G G' : Hp → Prop} {Y : Nat → Hp → V → Hp → Prop} (w : Walk J n G Y) (e : n = n') (h : ∀ H, G' H → G H) : Walk J n' G' Y := by
  subst e
  exact w.mono h fun _ _ _ _ _ _ y => y
theorem iter_rel {α : Type} [Py α] {S S' : AS} {H1 H2 : Hp} {v : V} {u : α} (l : Lo S H1) (sb : ∀ a, S' a → S a ∨ H1 a = none) (f : Fx S H1 H2) (h : rel S H1 v u) : rel S' H2 v u := by
  have sb2 : ∀ a, (S a ∨ S' a) → S a ∨ H1 a = none := fun a z => z.elim .inl (sb a)
  have h2 : rel (fun a => S a ∨ S' a) H1 v u := Py.sub sb2 h
  have l2 : Lo (fun a => S a ∨ S' a) H1 := fun a o z e => by
    rcases sb2 a z with z | z
    · exact l a o z e
    · rw [z] at e; cases e
  exact Py.sub (fun a z => .inl (.inr z)) (Py.keep l2 (f.mono fun a z => .inl z) h2)
theorem evi_tup {α : Type} [Py α] {tg : Expr} {xs : List α} (h : Ev F X G L st e (dy xs) st1) : EvI F X G L st tg e (xs.map dy) st1 := fun σ H ok R k =>
  (pi_tup pe_wp).wp (h σ H ok _ fun v H1 f1 ok1 ⟨q, vs, e, h1, r⟩ => by
    have r : A2 (rel (keys F L) H1) vs xs := r
    refine ⟨q, e, ⟨vs, .of h1⟩, k _ H1 f1 ok1 ?_⟩
    refine ⟨_, (walk_tup (xs := vs)).mono' (by rw [r.length, List.length_map]) (fun H2 hf => .of (tup_keep ok1.lo hf.2 h1)), fun i H2 v H3 S' sb l f2 y => ?_⟩
    obtain ⟨e3, hx⟩ := y
    subst e3
    obtain ⟨u, hu, ru⟩ := r.get' hx
    exact ⟨.refl _, dy u, by rw [List.getElem?_map, hu]; rfl, (iter_rel ok1.lo sb f2 ru : rel S' _ v u)⟩)
theorem evi_pl {α : Type} [Py α] {tg : Expr} {xs : List α} (h : Ev F X G L st e (dy (PL.mk xs)) st1) : EvI F X G L st tg e (xs.map dy) st1 := fun σ H ok R k =>
  (pi_list pe_wp).wp (h σ H ok _ fun v H1 f1 ok1 ⟨q, vs, e, n1, h1, r⟩ => by
    have r : A2 (rel (keys F L) H1) vs xs := r
    refine ⟨q, e, ⟨vs, .of h1⟩, k _ H1 f1 ok1 ?_⟩
    refine ⟨_, (walk_list (xs := vs)).mono' (by rw [show vs.length = xs.length from r.length, List.length_map]) (fun H2 hf => .of (hf.2 q _ n1 h1)), fun i H2 v H3 S' sb l f2 y => ?_⟩
    obtain ⟨e3, hx⟩ := y
    subst e3
    obtain ⟨u, hu, ru⟩ := r.get' hx
    exact ⟨.refl _, dy u, by rw [List.getElem?_map, hu]; rfl, (iter_rel ok1.lo sb f2 ru : rel S' _ v u)⟩)
/-- the numbers lo, lo + 1, .. -/
def seqI (lo : Int) (n : Nat) : List Int := (List.range n).map fun (i : Nat) => lo + (i : Int)
theorem seqI_len (lo : Int) (n : Nat) : (seqI lo n).length = n := by unfold seqI; rw [List.length_map, List.length_range]
theorem seqI_get {lo : Int} {n i : Nat} (h : i < n) : (seqI lo n)[i]? = some (lo + (i : Int)) := by
  unfold seqI
  rw [List.getElem?_map, List.getElem?_range h]
  rfl
theorem iterOk_range {S : AS} {lo : Int} {n : Nat} {H1 : Hp} : IterOk S (Itr lo n) H1 ((seqI lo n).map dy) := by
  have wk : Walk (Itr lo n) n (fun H => Lo S H ∧ Fx S H1 H) (fun i H x H' => H' = H ∧ x = .int (lo + i) ∧ i < n) := (walk_range (lo := lo) (n := n)).mono (fun _ _ => True.intro) fun i H x H' hi _ y => ⟨y.1, y.2, hi⟩
  refine ⟨_, wk.mono' (by rw [List.length_map, seqI_len]) fun _ h => h, fun i H2 v H3 S' sb l f2 y => ?_⟩
  obtain ⟨rfl, rfl, hi⟩ := y
  exact ⟨.refl _, dy (lo + (i : Int)), by rw [List.getElem?_map, seqI_get hi]; rfl, rfl⟩
theorem evi_range {tg : Expr} {n : Int} (hm : X.mg "range" = none) (hn : -(2 ^ 62) ≤ n ∧ n < 2 ^ 62) (h : Ev F X G L st a (dy n) st1) (hg : Gl X "range" := by rfl) (hs : starEach [a] X.env = [(false, eval a X.env)] := by rfl) : EvI F X G L st tg (.Call (.Name "range" p) [a] [] pos) ((seqI 0 n.toNat).map dy) st1 := fun σ H ok R k =>
  (pi_range1 hg hm pa_wp hs).wp ((eva_cons h eva_nil hs) σ H ok _ fun vs H1 f1 ok1 r => by
    cases r with
    | cons r rr =>
      cases rr
      exact ⟨n, by rw [show _ = V.int n from r], hn.1, hn.2, k _ H1 f1 ok1 iterOk_range⟩)
theorem evi_range2 {tg : Expr} {m n : Int} (hm : X.mg "range" = none) (hn : -(2 ^ 62) ≤ m ∧ m < 2 ^ 62 ∧ -(2 ^ 62) ≤ n ∧ n < 2 ^ 62) (h : Ev F X G L st a (dy m) st1) (h2 : Ev F X G L st1 b (dy n) st2) (hg : Gl X "range" := by rfl) (hs : starEach [a, b] X.env = [(false, eval a X.env), (false, eval b X.env)] := by rfl) (hs2 : starEach [b] X.env = [(false, eval b X.env)] := by rfl) :
    EvI F X G L st tg (.Call (.Name "range" p) [a, b] [] pos) ((seqI m (n - m).toNat).map dy) st2 := fun σ H ok R k =>
  (pi_range2 hg hm pa_wp hs hs2).wp ((eva_cons h (eva_cons h2 eva_nil hs2) (by rw [hs, hs2])) σ H ok _ fun vs H1 f1 ok1 r => by
    cases r with
    | cons r rr =>
      cases rr with
      | cons r2 rr =>
        cases rr
        exact ⟨m, n, by rw [show _ = V.int m from r, show _ = V.int n from r2], hn, k _ H1 f1 ok1 iterOk_range⟩)

/-! ### targets -/
theorem eg_name (g : Gd X) (i : Nat) {n : Str} (hi : X.N[i]? = some n := by rfl) (hx : Loc X.env.scope n := by first | exact Or.inl rfl | exact Or.inr rfl) (hf : X.fn n = true ∨ X.env.scope.names.lookup n = some .local := by first | exact .inl rfl | exact .inr rfl) : EvG F X G L st (.Name n pos) d (G.set i (some d)) [i] := fun v σ H ok r Q k =>
  (pg_name g.nd hi hx hf).wp (k _ (ok.slot r) (by rw [List.length_set]) fun j hj => List.getElem?_set_ne (fun z => hj (by rw [z]; exact List.mem_cons_self)))
theorem egs_nil : EvGs F X G L st [] [] G [] := fun vs σ H ok r Q k => by
  cases r
  exact pgs_nil.wp ⟨rfl, k _ ok rfl fun _ _ => rfl⟩
theorem egs_cons {G1 G2 : Gm} {i1 i2 : List Nat} (h1 : EvG F X G L st e d G1 i1) (h2 : EvGs F X G1 L st es ds G2 i2) (hs : (assignEach (e :: es) X.env).map (·.2) = assign e X.env :: (assignEach es X.env).map (·.2) := by rfl) : EvGs F X G L st (e :: es) (d :: ds) G2 (i1 ++ i2) := fun vs σ H ok r Q k => by
  cases r with
  | cons r rr =>
    refine (pgs_cons pg_wp pgs_wp hs).wp ⟨_, _, rfl, h1 _ σ H ok r _ fun σ1 ok1 l1 e1 => h2 _ σ1 H ok1 rr _ fun σ2 ok2 l2 e2 => k σ2 ok2 (l2.trans l1) fun j hj => ?_⟩
    rw [e2 j fun z => hj (List.mem_append_right _ z), e1 j fun z => hj (List.mem_append_left _ z)]
theorem eg_pair {α β : Type} [Py α] [Py β] {u : α × β} {G2 : Gm} {is : List Nat} {t} (g : Gd X) (h : EvGs F X G L st [a, b] [dy u.1, dy u.2] G2 is) (hn : (assignEach [a, b] X.env).length = 2 := by rfl) (hst : (assignEach [a, b] X.env).findIdx? (·.1) = none := by rfl) : EvG F X G L st (.Tuple [a, b] t pos) (dy u) G2 is := fun v σ H ok r Q k => by
  obtain ⟨q, s, w, e, h1, r1, r2⟩ := r
  exact (pg_tup g.calm pgs_wp hn hst).wp ⟨q, [s, w], e, .of h1, rfl, h _ σ H ok (.cons r1 (.cons r2 .nil)) Q k⟩

/-! ### blocks -/
theorem wb_nil {D : Ends} (h : ∀ σ H, Ok F G L st σ H → D.nx σ H) : WB F X G L st [] D := fun σ H ok => pss_nil.wp (h σ H ok)
variable {s : Stmt} {rest : List Stmt} {D : Ends}
/-- one statement, then the rest -/
theorem wb_cons {t : TS} (hs : PS X s t) (h : ∀ σ H, Ok F G L st σ H → t { D with nx := wpB X rest D } σ H) : WB F X G L st (s :: rest) D := fun σ H ok => (pss_cons hs pss_wp).wp (h σ H ok)
theorem wb_set (g : Gd X) (i : Nat) {n : Str} (he : Ev F X G L st e d st1) (hr : WB F X (G.set i (some d)) L st1 rest D) (hi : X.N[i]? = some n := by rfl) (hx : Loc X.env.scope n := by first | exact Or.inl rfl | exact Or.inr rfl) (hs : swapsWith e (some (.Name n p1)) pos.line X.env = pure false := by rfl)
    (hf : X.fn n = true ∨ X.env.scope.names.lookup n = some .local := by first | exact .inl rfl | exact .inr rfl) : WB F X G L st (.Assign [.Name n p1] e pos :: rest) D :=
  wb_cons (ps_set g.nd hi hx pe_wp hs hf) fun σ H ok => he σ H ok _ fun v H1 f1 ok1 r1 => hr _ _ (ok1.slot r1)
/-- a target of any form -/
theorem wb_asg {tg : Expr} {G1 : Gm} {is : List Nat} (he : Ev F X G L st e d st1) (hg : EvG F X G L st1 tg d G1 is) (hr : WB F X G1 L st1 rest D) (hs : swapsWithSole [tg] e pos.line X.env = pure false := by rfl) (hw : swappedStores [tg] e X.env = pure none := by rfl) (h1 : (assignEach [tg] X.env).map (·.2) = [assign tg X.env] := by rfl) : WB F X G L st (.Assign [tg] e pos :: rest) D :=
  wb_cons (ps_asg pe_wp pg_wp hs hw h1) fun σ H ok => he σ H ok _ fun v H1 f1 ok1 r1 => hg v σ H1 ok1 r1 _ fun σ1 ok2 _ _ => hr _ _ ok2
/-- x, y = a, b, both local names, not captured -/
theorem wb_par (g : Gd X) (i j : Nat) {n m : Str} {t t2 p5 p6} (ha : Ev F X G L st a x st1) (hb : Ev F X G L st1 b y st2) (hr : WB F X ((G.set i (some x)).set j (some y)) L st2 rest D) (hi : X.N[i]? = some n := by rfl) (hj : X.N[j]? = some m := by rfl) (hij : i ≠ j := by decide)
    (hx : X.env.scope.names.lookup n = some .local := by rfl) (hy : X.env.scope.names.lookup m = some .local := by rfl) (hw : swappedStores [.Tuple [.Name n p1, .Name m p2] t p5] (.Tuple [a, b] t2 p6) X.env = pure (some [n, m]) := by rfl)
    (hs : swapsWithSole [.Tuple [.Name n p1, .Name m p2] t p5] (.Tuple [a, b] t2 p6) pos.line X.env = pure false := by rfl) (h1 : starEach [a, b] X.env = (false, eval a X.env) :: starEach [b] X.env := by rfl) (h2 : starEach [b] X.env = (false, eval b X.env) :: starEach [] X.env := by rfl) :
    WB F X G L st (.Assign [.Tuple [.Name n p1, .Name m p2] t p5] (.Tuple [a, b] t2 p6) pos :: rest) D :=
  wb_cons (ps_par g.calm g.nd hi hj hij hx hy pa_wp hw hs) fun σ H ok => (eva_cons ha (eva_cons hb eva_nil h2) h1) σ H ok _ fun vs H1 f1 ok1 r => by
    cases r with
    | cons r1 r =>
      cases r with
      | cons r2 r =>
        cases r
        exact ⟨_, _, rfl, hr _ _ ((ok1.slot r1).slot r2)⟩
theorem wb_ret (he : Ev F X G L st e d st1) (h : ∀ v σ H, Ok F G L st1 σ H → d.rel (keys F L) H v → D.rt v H) : WB F X G L st (.Return (some e) pos :: rest) D :=
  wb_cons (ps_ret pe_wp) fun σ H ok => he σ H ok _ fun v H1 f1 ok1 r1 => h v σ H1 ok1 r1
theorem wb_if {k0 : Bool} {A B : List Stmt} (hc : EvT F X G L st c k0 st1) (h1 : k0 = true → WB F X G L st1 A { D with nx := wpB X rest D }) (h2 : k0 = false → WB F X G L st1 B { D with nx := wpB X rest D }) : WB F X G L st (.If c A B pos :: rest) D :=
  wb_cons (ps_if pt_wp pss_wp pss_wp) fun σ H ok => hc σ H ok _ fun H1 f1 ok1 => by
    cases k0 with
    | true => exact iteT (h1 rfl σ H1 ok1)
    | false => exact iteF (h2 rfl σ H1 ok1)
/-- an if without else -/
theorem wb_when {k0 : Bool} {A : List Stmt} (hc : EvT F X G L st c k0 st1) (h1 : k0 = true → WB F X G L st1 A { D with nx := wpB X rest D }) (h2 : k0 = false → WB F X G L st1 rest D) : WB F X G L st (.If c A [] pos :: rest) D :=
  wb_if hc h1 fun h => wb_nil (h2 h)
/-- an expression as a statement -/
theorem wb_expr (he : Ev F X G L st e d st1) (hr : WB F X G L st1 rest D) (hs : swapsWith e none pos.line X.env = pure false := by rfl) : WB F X G L st (.Expr e pos :: rest) D := wb_cons (ps_expr pe_wp hs) fun σ H ok => he σ H ok _ fun v H1 f1 ok1 r1 => hr _ _ ok1
/-! ### for -/
/-- Gk, Lk, Sk: what is known ahead of the turn k -/
theorem wb_for {tg iter : Expr} {body : List Stmt} {xs : DL} (g : Gd X) (hI : EvI F X G L st tg iter xs st1) (Gk : Nat → Gm) (Lk : Nat → Ls) (Sk : Nat → Pst) (hL : L = Lk 0) (hS : st1 = Sk 0) (hG : Less (Gk 0) G) (hK : ∀ k, keys F (Lk k) = keys F L)
    (hb : ∀ F' k x, F.le F' → xs[k]? = some x → (∃ G1 is, EvG F' X (Gk k) (Lk k) (Sk k) tg x G1 is ∧
      WB F' X G1 (Lk k) (Sk k) body { D with nx := fun σ H => Ok F' (Gk (k + 1)) (Lk (k + 1)) (Sk (k + 1)) σ H, ct := fun σ H => Ok F' (Gk (k + 1)) (Lk (k + 1)) (Sk (k + 1)) σ H, bk := wpB X rest D }))
    (hr : WB F X (Gk xs.length) (Lk xs.length) (Sk xs.length) rest D) (hs : ∀ x, foldedSetIterable iter X.env x = pure x := by intro _; rfl) : WB F X G L st (.For tg iter body [] pos :: rest) D :=
  wb_cons (ps_for g.po g.calm pi_wp pg_wp pss_wp hs) fun σ H ok => hI σ H ok _ fun J H1 f1 ok1 it => by
    subst hL hS
    obtain ⟨Y, wk, hY⟩ := it
    have ok2 : Ok (F.at_ (Lk 0) H1) (Gk 0) (Lk 0) (Sk 0) σ H1 := (ok1.at_).less hG
    have le : F.le (F.at_ (Lk 0) H1) := ok1.at_le
    have eK : ∀ k, keys (F.at_ (Lk 0) H1) (Lk k) = keys F (Lk 0) := fun k => (le.keys _).trans (hK k)
    refine for_it wk (fun k σ H => Ok (F.at_ (Lk 0) H1) (Gk k) (Lk k) (Sk k) σ H) ok2 (fun k σ' H' _ o => ?_) (fun k x σ' H2 H3 hk o y => ?_) (fun σ' H' o => hr σ' H' (le.2 _ _ _ _ _ o))
    · have lo := o.lo
      rw [eK k] at lo
      exact ⟨lo, ok1.at_fx o⟩
    · have lo := o.lo
      rw [eK k] at lo
      obtain ⟨e3, d, hd, rd⟩ := hY k H2 x H3 _ (fun _ z => .inl z) lo (ok1.at_fx o) y
      obtain ⟨G1, is, h1, h2⟩ := hb _ k d le hd
      refine h1 x σ' H3 (o.ex e3) (by rw [eK k]; exact rd) _ fun σ2 o2 _ _ => ?_
      exact h2 σ2 H3 o2
end
end K5

namespace K5
open PySem PySem.Spec PyProof.Rows L2
open Py (rel)

/-! ### comprehensions -/
/-- the block of a comprehension of X -/
abbrev bX (X : Cx) (scope : Scope) (s : Shared) (H : Hp) (C : Addr) (cl : List (Str × Addr)) (fp : List Addr) : Cx := X.blk s H scope (compEnvC scope cl C X.env) fp
def wpGb (X : Cx) (scope : Scope) (tg : Expr) : TG := fun v σ H Q => ∀ s H0 C cl fp, wpG (bX X scope s H0 C cl fp) tg v σ H Q
def wpEb (X : Cx) (scope : Scope) (e : Expr) : TE := fun σ H Q => ∀ s H0 C cl fp, wpE (bX X scope s H0 C cl fp) e σ H Q
def wpTb (X : Cx) (scope : Scope) (e : Expr) : TT := fun σ H Q => ∀ s H0 C cl fp, wpT (bX X scope s H0 C cl fp) e σ H Q
def wipeG (G : Gm) : List Nat → Gm
  | [] => G
  | v :: vs => (wipeG G vs).set v none
theorem wipeG_len (G : Gm) : ∀ vs : List Nat, (wipeG G vs).length = G.length
  | [] => rfl
  | v :: vs => by unfold wipeG; rw [List.length_set, wipeG_len G vs]
theorem wipeG_some {G : Gm} {i : Nat} {d : Dyn} : ∀ {vs : List Nat}, (wipeG G vs)[i]? = some (some d) → G[i]? = some (some d) ∧ i ∉ vs
  | [], h => ⟨h, by simp⟩
  | v :: vs, h => by
    unfold wipeG at h
    by_cases hi : v = i
    · subst hi
      by_cases hv : v < (wipeG G vs).length
      · rw [List.getElem?_set_self hv] at h
        cases h
      · rw [List.getElem?_eq_none (by rw [List.length_set]; omega)] at h
        cases h
    · rw [List.getElem?_set_ne hi] at h
      obtain ⟨h1, h2⟩ := wipeG_some h
      exact ⟨h1, fun z => (List.mem_cons.mp z).elim (fun e => hi e.symm) h2⟩
theorem wipe_in {σ : L2.St} {j : Nat} (hj : j < σ.length) : ∀ {vs : List Nat}, j ∈ vs → (wipe σ vs)[j]? = some none
  | v :: vs, h => by
    unfold wipe
    by_cases e : v = j
    · subst e
      rw [List.getElem?_set_self (by rw [wipe_length]; exact hj)]
    · rw [List.getElem?_set_ne e]
      exact wipe_in hj ((List.mem_cons.mp h).resolve_left fun z => e z.symm)
theorem wipe_same {σ σ2 : L2.St} {vs is : List Nat} (hl : σ2.length = (wipe σ vs).length) (h : ∀ j, j ∉ is → σ2[j]? = (wipe σ vs)[j]?) (hi : ∀ j ∈ is, j ∈ vs) : wipe σ2 vs = wipe σ vs := by
  rw [wipe_length] at hl
  refine List.ext_getElem? fun j => ?_
  by_cases hj : j ∈ vs
  · by_cases hlt : j < σ.length
    · rw [wipe_in hlt hj, wipe_in (by rw [hl]; exact hlt) hj]
    · rw [List.getElem?_eq_none (by rw [wipe_length, hl]; omega), List.getElem?_eq_none (by rw [wipe_length]; omega)]
  · rw [wipe_out hj, h j fun z => hj (hi j z)]
section
variable {F : Fr} {X : Cx} {G : Gm} {L : Ls} {st st1 st2 st3 : Pst} {e a b c : Expr} {es : List Expr} {pos p1 p2 p3 p4 p : Pos} {d x y z : Dyn} {ds : DL}
theorem Ok.wipe {σ : L2.St} {H : Hp} (vs : List Nat) (ok : Ok F G L st σ H) : Ok F (wipeG G vs) L st (L2.wipe σ vs) H := by
  refine ⟨⟨by rw [wipeG_len, wipe_length, ok.env.len], fun i d h => ?_⟩, ok.loc, ok.nd, ok.fr, ok.np, ok.pool, ok.base, ok.sl⟩
  obtain ⟨h1, h2⟩ := wipeG_some h
  obtain ⟨v, h3, h4⟩ := ok.env.at_ i d h1
  exact ⟨v, (wipe_out h2).trans h3, h4⟩
theorem keys_cons {L : Ls} {q : Addr} {ds : DL} {a : Addr} (h : keys F L a) : keys F ((q, ds) :: L) a := by
  rcases h with h | ⟨x, h⟩
  · exact .inl h
  · exact .inr ⟨x, List.mem_cons_of_mem _ h⟩
/-- [elt for tg in iter], each element a datum of one kind -/
theorem ev_lc {α : Type} [Py α] {elt tg iter : Expr} {scope : Scope} {xs : DL} {ys : List α} (own : List (Str × Nat)) (g : Gd X) (hI : EvI F X G L st tg iter xs st1) (Sk : Nat → Pst) (hS : st1 = Sk 0) (hn : ys.length = xs.length) (hl : ys.length ≤ 100000)
    (hb : ∀ F' k x y (D : Addr), F.le F' → xs[k]? = some x → ys[k]? = some y → ∃ G1 is, (∀ j ∈ is, j ∈ own.map (·.2)) ∧ ∀ s H C cl fp, EvG F' (bX X scope s H C cl fp) (wipeG G (own.map (·.2))) ((D, (ys.take k).map dy) :: L) (Sk k) tg x G1 is ∧
      Ev F' (bX X scope s H C cl fp) G1 ((D, (ys.take k).map dy) :: L) (Sk k) elt (dy y) (Sk (k + 1)))
    (ok : BlkOk X.N X.env.scope scope own) (hs : ∀ x, foldedSetIterable iter X.env x = pure x := by intro _; rfl) : Ev F X G L st (.ListComp elt [⟨tg, iter, [], 0⟩] scope pos) (dy (PL.mk ys)) (Sk xs.length) := fun σ H okk Q k => by
  have pe := pe_lc (elt := elt) (tg := tg) (iter := iter) (ifs := []) (scope := scope) (pos := pos) (g := wpGb X scope tg) (tt := tYes) (te := wpEb X scope elt) g.calm g.nd (pi_wp (X := X)) ok
    (fun s H C cl fp => ⟨fun pins s' σ H v u Q I r h => h _ _ _ _ _ pins s' u I r⟩) (fun s H C cl fp => pts_nil) (fun s H C cl fp => ⟨fun pins s' σ H Q I h => h _ _ _ _ _ pins s' I⟩) hs
  refine pe.wp (hI σ H okk _ fun J H1 f1 ok1 it => ?_)
  subst hS
  intro D hD
  obtain ⟨Y, wk, hY⟩ := it
  have le : F.le (F.at_ L H1) := ok1.at_le
  have eK : keys (F.at_ L H1) L = keys F L := le.keys _
  have ok2 : Ok (F.at_ L H1) G ((D, ([] : List α).map dy) :: L) (Sk 0) σ (upd H1 D (.lst [])) := (ok1.at_).own hD .nil
  refine lc_it wk (fun k H => Ok (F.at_ L H1) G ((D, (ys.take k).map dy) :: L) (Sk k) σ H) (by simpa using ok2) (fun k H' _ o => ?_) (fun k x H2 H3 hk o y => ?_) (fun H' o => ?_)
  · refine ⟨fun a u ha e => o.lo a u ?_ e, ok1.at_fx o⟩
    rw [← eK] at ha
    exact keys_cons ha
  · have sb : ∀ a, keys (F.at_ L H1) ((D, (ys.take k).map dy) :: L) a → keys F L a ∨ H1 a = none := by
      rintro a (h | ⟨x, h⟩)
      · exact .inl (by rw [← eK]; exact .inl h)
      · rcases List.mem_cons.mp h with q | q
        · cases q; exact .inr hD
        · exact .inl (by rw [← eK]; exact .inr ⟨x, q⟩)
    obtain ⟨e3, d, hd, rd⟩ := hY k H2 x H3 _ sb o.lo (ok1.at_fx o) y
    have hky : k < ys.length := by rw [hn]; exact hk
    obtain ⟨G1, is, hi, hb1⟩ := hb _ k d ys[k] D le hd (List.getElem?_eq_getElem hky)
    intro s H0 C cl fp
    refine (hb1 s H0 C cl fp).1 x _ H3 ((o.ex e3).wipe _) rd _ fun σ2 o2 l2 e2 => ⟨wipe_same l2 e2 hi, ?_⟩
    simp only [tYes, if_true]
    intro s' H0' C' cl' fp'
    refine (hb1 s' H0' C' cl' fp').2 σ2 H3 o2 _ fun v H4 f4 o4 r4 => ?_
    obtain ⟨vs, h1, h2⟩ := o4.loc _ List.mem_cons_self
    refine ⟨vs, h1, ?_, ?_⟩
    · have := h2.length
      rw [List.length_map, List.length_take] at this
      rw [this]
      exact Nat.lt_of_le_of_lt (Nat.min_le_right _ _) (Nat.lt_of_le_of_lt hl (by decide))
    · have e5 : (ys.take (k + 1)).map dy = (ys.take k).map dy ++ [dy ys[k]] := by
        rw [List.take_add_one, List.getElem?_eq_getElem hky, List.map_append]
        rfl
      rw [e5]
      have o5 := o4.put (vs := vs ++ [v]) (h2.append (.cons r4 .nil))
      refine ⟨⟨?_, fun i d h => ?_⟩, o5.loc, o5.nd, o5.fr, o5.np, o5.pool, o5.base, o5.sl⟩
      · exact okk.env.len
      · obtain ⟨u, h1, h2⟩ := o.env.at_ i d h
        have f5 : Fx (keys (F.at_ L H1) ((D, (ys.take k).map dy) :: L)) H2 (upd H4 D (.lst (vs ++ [v]))) := (e3.fx.trans f4).trans fun a u n e => by
          rw [upd_ne (fun z => n (.inr ⟨_, by rw [z]; exact List.mem_cons_self⟩))]
          exact e
        refine ⟨u, h1, ?_⟩
        have r5 := Dyn.keep o.lo f5 h2
        refine Dyn.sub (fun a z => .inl ?_) r5
        rcases z with z | ⟨x, z⟩
        · exact .inl z
        · rcases List.mem_cons.mp z with q | q
          · cases q; exact .inr ⟨_, List.mem_cons_self⟩
          · exact .inr ⟨_, List.mem_cons_of_mem _ q⟩
  · have e6 : ys.take xs.length = ys := by rw [← hn]; exact List.take_length
    have o6 : Ok (F.at_ L H1) G ((D, ys.map dy) :: L) (Sk xs.length) σ H' := by
      have o' := o
      simp only [e6] at o'
      exact o'
    have r6 := o6.pl
    rw [eK] at r6
    exact k _ H' (f1.trans (ok1.at_fx o6)) (le.2 _ _ _ _ _ o6.letgo) r6
/-- [elt for tg in iter if test]: acs k, what is kept of the first k -/
theorem ev_lcIf {α : Type} [Py α] {elt tg iter tst : Expr} {scope : Scope} {xs : DL} (own : List (Str × Nat)) (g : Gd X) (hI : EvI F X G L st tg iter xs st1) (acs : Nat → List α) (bs : Nat → Bool) (ys : Nat → α) (h0 : acs 0 = []) (hstep : ∀ k, acs (k + 1) = if bs k = true then acs k ++ [ys k] else acs k) (hl : xs.length ≤ 50000)
    (hb : ∀ F' k x (D : Addr), F.le F' → xs[k]? = some x → ∃ G1 is, (∀ j ∈ is, j ∈ own.map (·.2)) ∧ ∀ s H C cl fp, EvG F' (bX X scope s H C cl fp) (wipeG G (own.map (·.2))) ((D, (acs k).map dy) :: L) st1 tg x G1 is ∧
      EvT F' (bX X scope s H C cl fp) G1 ((D, (acs k).map dy) :: L) st1 tst (bs k) st1 ∧ (bs k = true → Ev F' (bX X scope s H C cl fp) G1 ((D, (acs k).map dy) :: L) st1 elt (dy (ys k)) st1))
    (ok : BlkOk X.N X.env.scope scope own) (hs : ∀ x, foldedSetIterable iter X.env x = pure x := by intro _; rfl) : Ev F X G L st (.ListComp elt [⟨tg, iter, [tst], 0⟩] scope pos) (dy (PL.mk (acs xs.length))) st1 := fun σ H okk Q k => by
  have len : ∀ k, (acs k).length ≤ k := fun k => by
    induction k with
    | zero => rw [h0]; exact Nat.le_refl _
    | succ k ih =>
      rw [hstep]
      split
      · rw [List.length_append]; simpa using ih
      · exact Nat.le_succ_of_le ih
  have pe := pe_lc (elt := elt) (tg := tg) (iter := iter) (ifs := [tst]) (scope := scope) (pos := pos) (g := wpGb X scope tg) (tt := wpTb X scope tst) (te := wpEb X scope elt) g.calm g.nd (pi_wp (X := X)) ok
    (fun s H C cl fp => ⟨fun pins s' σ H v u Q I r h => h _ _ _ _ _ pins s' u I r⟩) (fun s H C cl fp => pts_one ⟨fun pins s' σ H Q I h => h _ _ _ _ _ pins s' I⟩) (fun s H C cl fp => ⟨fun pins s' σ H Q I h => h _ _ _ _ _ pins s' I⟩) hs
  refine pe.wp (hI σ H okk _ fun J H1 f1 ok1 it => ?_)
  intro D hD
  obtain ⟨Y, wk, hY⟩ := it
  have le : F.le (F.at_ L H1) := ok1.at_le
  have eK : keys (F.at_ L H1) L = keys F L := le.keys _
  have ok2 : Ok (F.at_ L H1) G ((D, ([] : List α).map dy) :: L) st1 σ (upd H1 D (.lst [])) := (ok1.at_).own hD .nil
  refine lc_it wk (fun k H => Ok (F.at_ L H1) G ((D, (acs k).map dy) :: L) st1 σ H) (by simp only [h0]; exact ok2) (fun k H' _ o => ?_) (fun k x H2 H3 hk o y => ?_) (fun H' o => ?_)
  · refine ⟨fun a u ha e => o.lo a u ?_ e, ok1.at_fx o⟩
    rw [← eK] at ha
    exact keys_cons ha
  · have sb : ∀ a, keys (F.at_ L H1) ((D, (acs k).map dy) :: L) a → keys F L a ∨ H1 a = none := by
      rintro a (h | ⟨x, h⟩)
      · exact .inl (by rw [← eK]; exact .inl h)
      · rcases List.mem_cons.mp h with q | q
        · cases q; exact .inr hD
        · exact .inl (by rw [← eK]; exact .inr ⟨x, q⟩)
    obtain ⟨e3, d, hd, rd⟩ := hY k H2 x H3 _ sb o.lo (ok1.at_fx o) y
    obtain ⟨G1, is, hi, hb1⟩ := hb _ k d D le hd
    -- the outer names behind a turn
    have back : ∀ {H4 : Hp} {ds' : DL} {vs' : List V}, Fx (keys (F.at_ L H1) ((D, (acs k).map dy) :: L)) H2 H4 → ∀ {G4 : Gm} {σ4 : L2.St}, Ok (F.at_ L H1) G4 ((D, ds') :: L) st1 σ4 H4 → Ok (F.at_ L H1) G ((D, ds') :: L) st1 σ H4 := fun {H4 ds' vs'} f5 {G4 σ4} o5 => by
      refine ⟨⟨okk.env.len, fun i d h => ?_⟩, o5.loc, o5.nd, o5.fr, o5.np, o5.pool, o5.base, o5.sl⟩
      obtain ⟨u, h1, h2⟩ := o.env.at_ i d h
      refine ⟨u, h1, Dyn.sub (fun a z => .inl ?_) (Dyn.keep o.lo f5 h2)⟩
      rcases z with z | ⟨x, z⟩
      · exact .inl z
      · rcases List.mem_cons.mp z with q | q
        · cases q; exact .inr ⟨_, List.mem_cons_self⟩
        · exact .inr ⟨_, List.mem_cons_of_mem _ q⟩
    intro s H0 C cl fp
    refine (hb1 s H0 C cl fp).1 x _ H3 ((o.ex e3).wipe _) rd _ fun σ2 o2 l2 e2 => ⟨wipe_same l2 e2 hi, ?_⟩
    intro s' H0' C' cl' fp'
    refine (hb1 s' H0' C' cl' fp').2.1 σ2 H3 o2 _ fun H4 f4 o4 => ?_
    have st := hstep k
    cases hbk : bs k with
    | false =>
      rw [hbk, if_neg Bool.false_ne_true] at st
      refine iteF ?_
      rw [st]
      exact back (vs' := []) (e3.fx.trans f4) o4
    | true =>
      rw [hbk, if_pos rfl] at st
      refine iteT fun s2 H02 C2 cl2 fp2 => ?_
      refine (hb1 s2 H02 C2 cl2 fp2).2.2 hbk σ2 H4 o4 _ fun v H5 f5 o5 r5 => ?_
      obtain ⟨vs, h1, h2⟩ := o5.loc _ List.mem_cons_self
      refine ⟨vs, h1, ?_, ?_⟩
      · have e7 : vs.length = (acs k).length := by
          have := h2.length
          rw [List.length_map] at this
          exact this
        have := len k
        rw [e7]
        exact Nat.lt_of_le_of_lt (show (acs k).length ≤ 100000 by omega) (by decide)
      · have e5 : (acs (k + 1)).map dy = (acs k).map dy ++ [dy (ys k)] := by rw [st, List.map_append]; rfl
        rw [e5]
        refine back (vs' := []) ((e3.fx.trans f4).trans (f5.trans fun a u n e => ?_)) (o5.put (vs := vs ++ [v]) (h2.append (.cons r5 .nil)))
        rw [upd_ne (fun z => n (.inr ⟨_, by rw [z]; exact List.mem_cons_self⟩))]
        exact e
  · have r6 := o.pl
    rw [eK] at r6
    exact k _ H' (f1.trans (ok1.at_fx o)) (le.2 _ _ _ _ _ o.letgo) r6

/-! ### slices -/
theorem evp_none {σ : L2.St} {H : Hp} {Q : Option Int → Hp → Prop} (h : Q none H) : tNoPart σ H Q := h
theorem cut_to (xs : List V) (n : Nat) : cutV xs none (some (n : Int)) = xs.take n := by
  unfold cutV
  rw [HT.sIx_none, HT.sIx_nat, Nat.sub_zero, List.drop_zero]
  exact List.take_eq_take_min.symm
theorem cut_from (xs : List V) (n : Nat) : cutV xs (some (n : Int)) none = xs.drop n := by
  unfold cutV
  rw [HT.sIx_none, HT.sIx_nat]
  by_cases h : n ≤ xs.length
  · rw [Nat.min_eq_left h, List.take_of_length_le (by rw [List.length_drop]; omega)]
  · rw [Nat.min_eq_right (by omega), List.drop_of_length_le (Nat.le_refl _), List.drop_of_length_le (by omega)]
    simp
theorem ev_to {α : Type} [Py α] {xs : List α} {n : Nat} (ha : Ev F X G L st a (dy xs) st1) (hb : Ev F X G L st1 b (dy (n : Int)) st2) : Ev F X G L st (.Subscript a (.Slice none (some b) none p2) pos) (dy (xs.take n)) st2 := fun σ H ok Q k =>
  (pe_slice sl_tupA pe_wp po_none (po_some pe_wp)).wp (ha σ H ok _ fun v H1 f1 ok1 ⟨q, vs, e, h, r⟩ => hb σ H1 ok1 _ fun w H2 f2 ok2 rw' => by
    have h2 : H2 q = some (.tup vs) := tup_keep ok1.lo f2 h
    have r2 : A2 (rel (keys F L) H2) vs xs := r.map fun _ _ z => Py.keep ok1.lo f2 z
    refine ⟨n, rw', q, vs, e, .of h2, fun hw => ?_, fun _ l hn => ?_⟩
    · refine k _ H2 (f1.trans f2) ok2 ?_
      have e3 : xs.take n = xs := by
        have := hw.2
        rw [HT.sIx_nat] at this
        rw [List.take_of_length_le]
        have := r2.length
        omega
      rw [e3]
      exact ⟨q, vs, rfl, h2, r2⟩
    · rw [cut_to]
      have e4 := Ex.new (o := .tup (vs.take n)) hn
      exact k _ _ ((f1.trans f2).trans e4.fx) (ok2.ex e4) ⟨l, _, rfl, upd_same, (r2.take n).map fun _ _ z => Py.keep ok2.lo e4.fx z⟩)
theorem ev_from {α : Type} [Py α] {xs : List α} {n : Nat} (ha : Ev F X G L st a (dy xs) st1) (hb : Ev F X G L st1 b (dy (n : Int)) st2) : Ev F X G L st (.Subscript a (.Slice (some b) none none p2) pos) (dy (xs.drop n)) st2 := fun σ H ok Q k =>
  (pe_slice sl_tupA pe_wp (po_some pe_wp) po_none).wp (ha σ H ok _ fun v H1 f1 ok1 ⟨q, vs, e, h, r⟩ => hb σ H1 ok1 _ fun w H2 f2 ok2 rw' => by
    have h2 : H2 q = some (.tup vs) := tup_keep ok1.lo f2 h
    have r2 : A2 (rel (keys F L) H2) vs xs := r.map fun _ _ z => Py.keep ok1.lo f2 z
    refine ⟨n, rw', q, vs, e, .of h2, fun hw => ?_, fun _ l hn => ?_⟩
    · refine k _ H2 (f1.trans f2) ok2 ?_
      have e3 : xs.drop n = xs := by
        have h3 := hw.1
        rw [HT.sIx_nat] at h3
        have h4 := r2.length
        by_cases hz : n = 0
        · rw [hz]; rfl
        · have : xs = [] := List.length_eq_zero_iff.mp (by omega)
          rw [this]
          simp
      rw [e3]
      exact ⟨q, vs, rfl, h2, r2⟩
    · rw [cut_from]
      have e4 := Ex.new (o := .tup (vs.drop n)) hn
      exact k _ _ ((f1.trans f2).trans e4.fx) (ok2.ex e4) ⟨l, _, rfl, upd_same, (r2.drop n).map fun _ _ z => Py.keep ok2.lo e4.fx z⟩)
/-- found[::-1], found a list of one's own -/
theorem ev_revO {α : Type} [Py α] {xs : List α} {q : Addr} {j} (hL : (q, xs.map dy) ∈ L) (ha : Ev F X G L st a (dy (Ad.mk q)) st1) : Ev F X G L st (.Subscript a (.Slice none none (some (.UnaryOp .USub (.Constant (.int 1) j p1) p2)) p3) pos) (dy (PL.mk xs.reverse)) st1 := fun σ H ok Q k =>
  (pe_revL pe_wp).wp (ha σ H ok _ fun v H1 f1 ok1 e => by
    obtain ⟨vs, h, r⟩ := ok1.loc _ hL
    refine ⟨q, vs, e, .of h, fun l hn => ?_⟩
    have e4 := Ex.new (o := .lst vs.reverse) hn
    refine k _ _ (f1.trans e4.fx) (ok1.ex e4) ⟨l, _, rfl, fun z => ?_, upd_same, r.to_a2.reverse.map fun _ _ z => Py.keep ok1.lo e4.fx z⟩
    obtain ⟨_, z⟩ := ok1.lst z
    rw [hn] at z
    cases z)
/-- (x, y) * n -/
theorem ev_repT {α : Type} [Py α] {u w : α} {n : Nat} (h2 : 2 ≤ n) (h3 : n ≤ 1000) (ha : Ev F X G L st a (dy (u, w)) st1) (hb : Ev F X G L st1 b (dy (n : Int)) st2) : Ev F X G L st (.BinOp a .Mult b pos) (dy (List.replicate n [u, w]).flatten) st2 := ev_op (x := dy (u, w)) (y := dy (n : Int)) (d := dy (List.replicate n [u, w]).flatten) op_repT (fun v v' σ H ok ⟨q, s, t, e, h, r1, r2⟩ rb Q k => by
  refine ⟨q, n, [s, t], e, rb, .of h, by simp, by omega, by omega, by show 2 ≤ 1000; decide, fun l hn => ?_⟩
  have e4 := Ex.new (o := .tup (List.replicate (n : Int).toNat [s, t]).flatten) hn
  refine k _ _ e4 ⟨l, _, rfl, upd_same, ?_⟩
  rw [Int.toNat_natCast]
  exact A2.repl n (.cons (Py.keep ok.lo e4.fx r1) (.cons (Py.keep ok.lo e4.fx r2) .nil))) ha hb
/-- [x] * n -/
theorem ev_repL {α : Type} [Py α] {xs : List α} {n : Nat} (h3 : xs.length * n ≤ 100000) (h4 : n ≤ 1000) (ha : Ev F X G L st a (dy (PL.mk xs)) st1) (hb : Ev F X G L st1 b (dy (n : Int)) st2) : Ev F X G L st (.BinOp a .Mult b pos) (dy (PL.mk (List.replicate n xs).flatten)) st2 := ev_op (x := dy (PL.mk xs)) (y := dy (n : Int)) (d := dy (PL.mk (List.replicate n xs).flatten)) op_rep (fun v v' σ H ok ⟨q, vs, e, nk, h, r⟩ rb Q k => by
  have el : vs.length = xs.length := r.length
  refine ⟨q, n, vs, e, rb, h, by omega, by omega, by rw [Int.toNat_natCast, el]; exact Nat.le_trans h3 (by decide), fun l hn => ?_⟩
  have e4 := Ex.new (o := .lst (List.replicate (n : Int).toNat vs).flatten) hn
  refine k _ _ e4 ⟨l, _, rfl, fun z => ?_, upd_same, ?_⟩
  · obtain ⟨_, z⟩ := ok.lst z
    rw [hn] at z
    cases z
  · rw [Int.toNat_natCast]
    exact A2.repl n (r.map fun _ _ z => Py.keep ok.lo e4.fx z)) ha hb
/-- found + [x], found a list of one's own -/
theorem ev_catO {α : Type} [Py α] {xs ys : List α} {q : Addr} (hL : (q, xs.map dy) ∈ L) (hl : xs.length + ys.length ≤ 100000) (ha : Ev F X G L st a (dy (Ad.mk q)) st1) (hb : Ev F X G L st1 b (dy (PL.mk ys)) st2) : Ev F X G L st (.BinOp a .Add b pos) (dy (PL.mk (xs ++ ys))) st2 := ev_op (x := dy (Ad.mk q)) (y := dy (PL.mk ys)) (d := dy (PL.mk (xs ++ ys))) op_cat (fun v v' σ H ok e ⟨q', ws, e', nk, h', r'⟩ Q k => by
  obtain ⟨vs, h, r⟩ := ok.loc _ hL
  have el : vs.length = xs.length := by
    have := r.length
    rw [List.length_map] at this
    exact this
  have el' : ws.length = ys.length := r'.length
  refine ⟨q, q', vs, ws, e, e', h, h', by rw [el, el']; exact Nat.le_trans hl (by decide), fun l hn => ?_⟩
  have e4 := Ex.new (o := .lst (vs ++ ws)) hn
  refine k _ _ e4 ⟨l, _, rfl, fun z => ?_, upd_same, (r.to_a2.append r').map fun _ _ z => Py.keep ok.lo e4.fx z⟩
  obtain ⟨_, z⟩ := ok.lst z
  rw [hn] at z
  cases z) ha hb

/-! ### lists of one's own -/
variable {s : Stmt} {rest : List Stmt} {D : Ends}
/-- x = [..] -/
theorem wb_new (g : Gd X) (i : Nat) {n : Str} (he : EvA F X G L st es ds st1) (hl : ds.length ≤ 100000) (hr : ∀ q, WB F X (G.set i (some (dy (Ad.mk q)))) ((q, ds) :: L) st1 rest D) (hi : X.N[i]? = some n := by rfl) (hx : Loc X.env.scope n := by first | exact Or.inl rfl | exact Or.inr rfl)
    (hs : swapsWith (.List es p2) (some (.Name n p1)) pos.line X.env = pure false := by rfl) (hf : X.fn n = true ∨ X.env.scope.names.lookup n = some .local := by first | exact .inl rfl | exact .inr rfl) : WB F X G L st (.Assign [.Name n p1] (.List es p2) pos :: rest) D :=
  wb_cons (ps_set g.nd hi hx (pe_lst pa_wp) hs hf) fun σ H ok => he σ H ok _ fun vs H1 f1 ok1 r => ⟨by rw [r.length]; exact Nat.le_trans hl (by decide), fun q hn => hr q _ _ ((ok1.own hn r).slot rfl)⟩
/-- x = list(t) -/
theorem wb_list {α : Type} [Py α] {xs : List α} (g : Gd X) (i : Nat) {n : Str} (hm : X.mg "list" = none) (he : Ev F X G L st a (dy xs) st1) (hr : ∀ q, WB F X (G.set i (some (dy (Ad.mk q)))) ((q, xs.map dy) :: L) st1 rest D) (hi : X.N[i]? = some n := by rfl) (hx : Loc X.env.scope n := by first | exact Or.inl rfl | exact Or.inr rfl)
    (hs : swapsWith (.Call (.Name "list" p) [a] [] p2) (some (.Name n p1)) pos.line X.env = pure false := by rfl) (hf : X.fn n = true ∨ X.env.scope.names.lookup n = some .local := by first | exact .inl rfl | exact .inr rfl) (hg : Gl X "list" := by rfl) (hst : starEach [a] X.env = (false, eval a X.env) :: starEach [] X.env := by rfl) :
    WB F X G L st (.Assign [.Name n p1] (.Call (.Name "list" p) [a] [] p2) pos :: rest) D :=
  wb_cons (ps_set g.nd hi hx (pe_callTy call_list_of hg hm (by decide +kernel) pa_wp (by decide) (by decide) hst rfl) hs hf) fun σ H ok => (eva_cons he eva_nil hst) σ H ok _ fun vs H1 f1 ok1 r => by
    cases r with
    | cons r rr =>
      cases rr
      obtain ⟨q, ws, e, h, r⟩ := r
      exact ⟨q, ws, by rw [e], .inr (.of h), fun l hn => hr l _ _ ((ok1.own hn (D2.of_a2 r)).slot rfl)⟩
/-- x.append(e) -/
theorem wb_append {q : Addr} (ha : Ev F X G ((q, ds) :: L) st a (dy (Ad.mk q)) st) (he : Ev F X G ((q, ds) :: L) st e d st1) (hl : ds.length < 100000) (hr : WB F X G ((q, ds ++ [d]) :: L) st1 rest D) {apos cpos : Pos}
    (hbase : attributeBase a "append" X.env (eval a X.env) = eval a X.env := by rfl)
    (hfew : ((backTo cpos (starEach [e] X.env)).all (fun x => !x.1) && (backToKw cpos (keywordEach [] X.env)).all (fun x => x.1.isSome) && decide (([e] : List Expr).length + ([] : List Keyword).length + (if ([] : List Keyword).isEmpty then 0 else 1) < 30)) = true := by rfl)
    (hline : (apos.endLine == cpos.line) = true := by rfl) (hs : starEach [e] X.env = (false, eval e X.env) :: starEach [] X.env := by rfl) (hsw : swapsWith (.Call (.Attribute a "append" apos) [e] [] cpos) none pos.line X.env = pure false := by rfl) :
    WB F X G ((q, ds) :: L) st (.Expr (.Call (.Attribute a "append" apos) [e] [] cpos) pos :: rest) D :=
  wb_cons (ps_expr (pe_bm PySem.F.plainAttrs_list PySem.F.slot_list_append PySem.F.type_list_append mt_append pe_wp pa_wp hbase hfew hline hs rfl) hsw) fun σ H ok => ha σ H ok _ fun v H1 f1 ok1 r1 => by
    obtain ⟨vs0, h0, _⟩ := ok1.loc _ List.mem_cons_self
    refine ⟨by rw [show v = V.ref q from r1]; exact .inl ⟨rfl, _, .of h0⟩, ?_⟩
    refine (eva_cons he eva_nil hs) σ H1 ok1 _ fun us H2 f2 ok2 r2 => ?_
    cases r2 with
    | cons r2 rr =>
      cases rr
      obtain ⟨vs, h, r⟩ := ok2.loc _ List.mem_cons_self
      have el : vs.length = ds.length := r.length
      exact ⟨q, vs, _, r1, rfl, h, Nat.lt_of_le_of_lt (Nat.le_of_lt (by rw [el]; exact hl)) (by decide), hr σ _ (ok2.put (r.append (.cons r2 .nil)))⟩
/-- x.extend(e), e a new list -/
theorem wb_extend {α : Type} [Py α] {ys : List α} {q : Addr} (ha : Ev F X G ((q, ds) :: L) st a (dy (Ad.mk q)) st) (he : Ev F X G ((q, ds) :: L) st e (dy (PL.mk ys)) st1) (hl : ds.length + ys.length < 100000) (hr : WB F X G ((q, ds ++ ys.map dy) :: L) st1 rest D) {apos cpos : Pos}
    (hbase : attributeBase a "extend" X.env (eval a X.env) = eval a X.env := by rfl)
    (hfew : ((backTo cpos (starEach [e] X.env)).all (fun x => !x.1) && (backToKw cpos (keywordEach [] X.env)).all (fun x => x.1.isSome) && decide (([e] : List Expr).length + ([] : List Keyword).length + (if ([] : List Keyword).isEmpty then 0 else 1) < 30)) = true := by rfl)
    (hline : (apos.endLine == cpos.line) = true := by rfl) (hs : starEach [e] X.env = (false, eval e X.env) :: starEach [] X.env := by rfl) (hsw : swapsWith (.Call (.Attribute a "extend" apos) [e] [] cpos) none pos.line X.env = pure false := by rfl) :
    WB F X G ((q, ds) :: L) st (.Expr (.Call (.Attribute a "extend" apos) [e] [] cpos) pos :: rest) D :=
  wb_cons (ps_expr (pe_bm PySem.F.plainAttrs_list PySem.F.slot_list_extend PySem.F.type_list_extend mt_extend pe_wp pa_wp hbase hfew hline hs rfl) hsw) fun σ H ok => ha σ H ok _ fun v H1 f1 ok1 r1 => by
    obtain ⟨vs0, h0, _⟩ := ok1.loc _ List.mem_cons_self
    refine ⟨by rw [show v = V.ref q from r1]; exact .inl ⟨rfl, _, .of h0⟩, ?_⟩
    refine (eva_cons he eva_nil hs) σ H1 ok1 _ fun us H2 f2 ok2 r2 => ?_
    cases r2 with
    | cons r2 rr =>
      cases rr
      obtain ⟨vs, h, r⟩ := ok2.loc _ List.mem_cons_self
      obtain ⟨q', ws, e', _, h', r'⟩ := r2
      have el : vs.length = ds.length := r.length
      have el' : ws.length = ys.length := r'.length
      exact ⟨q, q', vs, ws, r1, by rw [e'], h, h', Nat.le_trans (Nat.le_of_lt (by rw [el, el']; exact hl)) (by decide), hr σ _ (ok2.put (r.append (D2.of_a2 r')))⟩
/-- x, found = e, [], both names local -/
theorem wb_parN (g : Gd X) (i j : Nat) {n m : Str} {t t2 p5 p6} (ha : Ev F X G L st a x st1) (hr : ∀ q, WB F X ((G.set i (some x)).set j (some (dy (Ad.mk q)))) ((q, []) :: L) st1 rest D) (hi : X.N[i]? = some n := by rfl) (hj : X.N[j]? = some m := by rfl) (hij : i ≠ j := by decide)
    (hx : X.env.scope.names.lookup n = some .local := by rfl) (hy : X.env.scope.names.lookup m = some .local := by rfl) (hw : swappedStores [.Tuple [.Name n p1, .Name m p2] t p5] (.Tuple [a, .List [] p3] t2 p6) X.env = pure (some [n, m]) := by rfl)
    (hs : swapsWithSole [.Tuple [.Name n p1, .Name m p2] t p5] (.Tuple [a, .List [] p3] t2 p6) pos.line X.env = pure false := by rfl) (h1 : starEach [a, .List [] p3] X.env = (false, eval a X.env) :: starEach [.List [] p3] X.env := by rfl) (h2 : starEach [.List [] p3] X.env = (false, eval (.List [] p3) X.env) :: starEach [] X.env := by rfl) :
    WB F X G L st (.Assign [.Tuple [.Name n p1, .Name m p2] t p5] (.Tuple [a, .List [] p3] t2 p6) pos :: rest) D :=
  wb_cons (ps_par g.calm g.nd hi hj hij hx hy (pa_cons pe_wp (pa_cons (pe_lst pa_nil) pa_nil h2) h1) hw hs) fun σ H ok => ha σ H ok _ fun v H1 f1 ok1 r1 => by
    refine ⟨Nat.zero_le _, fun q hn => ⟨v, .ref q, rfl, ?_⟩⟩
    have e4 := Ex.new (o := .lst []) hn
    have ok2 : Ok F (G.set i (some x)) L st1 (σ.set i (some v)) H1 := ok1.slot r1
    exact hr q _ _ ((ok2.own hn .nil).slot rfl)
/-- found, x = [], e -/
theorem wb_parN' (g : Gd X) (i j : Nat) {n m : Str} {t t2 p5 p6} (hb : ∀ q, Ev F X G ((q, []) :: L) st b y st1) (hr : ∀ q, WB F X ((G.set i (some (dy (Ad.mk q)))).set j (some y)) ((q, []) :: L) st1 rest D) (hi : X.N[i]? = some n := by rfl) (hj : X.N[j]? = some m := by rfl) (hij : i ≠ j := by decide)
    (hx : X.env.scope.names.lookup n = some .local := by rfl) (hy : X.env.scope.names.lookup m = some .local := by rfl) (hw : swappedStores [.Tuple [.Name n p1, .Name m p2] t p5] (.Tuple [.List [] p3, b] t2 p6) X.env = pure (some [n, m]) := by rfl)
    (hs : swapsWithSole [.Tuple [.Name n p1, .Name m p2] t p5] (.Tuple [.List [] p3, b] t2 p6) pos.line X.env = pure false := by rfl) (h1 : starEach [.List [] p3, b] X.env = (false, eval (.List [] p3) X.env) :: starEach [b] X.env := by rfl) (h2 : starEach [b] X.env = (false, eval b X.env) :: starEach [] X.env := by rfl) :
    WB F X G L st (.Assign [.Tuple [.Name n p1, .Name m p2] t p5] (.Tuple [.List [] p3, b] t2 p6) pos :: rest) D :=
  wb_cons (ps_par g.calm g.nd hi hj hij hx hy (pa_cons (pe_lst pa_nil) (pa_cons pe_wp pa_nil h2) h1) hw hs) fun σ H ok => by
    refine ⟨Nat.zero_le _, fun q hn => ?_⟩
    refine hb q σ _ (ok.own hn .nil) _ fun v H1 f1 ok1 r1 => ⟨.ref q, v, rfl, ?_⟩
    exact hr q _ _ ((ok1.slot (i := i) (d := dy (Ad.mk q)) (v := .ref q) rfl).slot r1)
end
end K5

namespace K5
open PySem PySem.Spec PyProof.Rows L2
open Py (rel)

/-! ### enumerate of a tuple -/
/-- the tuple at a, each item with its number in a new pair -/
def ItE (K : PySem.W.Frag) (a : Addr) : It where
  go := fun i H => ∃ (xs : List V) (x : V), SqT K H a xs ∧ xs[i]? = some x
  yld := fun i H v H' => ∃ T x, v = .ref T ∧ H T = none ∧ H' = upd H T (.tup [.int (i : Nat), x]) ∧ ∀ xs, SqT K H a xs → xs[i]? = some x
  stop := fun i H => ∃ xs : List V, SqT K H a xs ∧ xs.length = i
def TnE (e it a : Addr) (i : Nat) (h : Heap) : Prop := (∃ old, IsEnum h e it ((i : Nat) : Int) old) ∧ h.IsTupleIter it a i ∧ e ≠ it ∧ a ≠ it ∧ e ≠ a
theorem mem2 {b e it : Addr} (h : b ∈ [e, it]) : b = e ∨ b = it := by simpa using h
theorem turnE {P : Program} {w : World} {K : PySem.W.Frag} {elts : List Expr} {kk : Nat} {tpos : Pos} (a e it : Addr) : Turn P w K (.Tuple elts kk tpos) (ItE K a) [e, it] e (TnE e it a) where
  mem := List.mem_cons_self
  obj := fun i h st b hb => by
    obtain ⟨⟨old, he⟩, ⟨o, ho, hc, hd⟩, _⟩ := st
    rcases mem2 hb with rfl | rfl
    · exact ⟨_, he, fun v q => nomatch q⟩
    · exact ⟨o, ho, fun v q => (by rw [hd] at q; cases q)⟩
  keep := fun i h h' ⟨⟨old, he⟩, hi, r⟩ k => ⟨⟨old, k e List.mem_cons_self _ he⟩, hi.at fun o q => k it (List.mem_cons_of_mem _ List.mem_cons_self) o q, r⟩
  item := by
    rintro X rfl rfl rfl hc i pins s σ H E I hf ⟨⟨old, he⟩, hit, n1, n2, n3⟩ ⟨xs, x, hq, hx⟩
    obtain ⟨its, rv, p, hz⟩ := I.tuple hq
    obtain ⟨u, hu, ru⟩ := rv.get hx
    have hel : e < s.heap.objs.size := Heap.lt_size he
    have hil : it < s.heap.objs.size := by obtain ⟨_, q, _⟩ := hit; exact Heap.lt_size q
    have hlt : i < its.toArray.size := by
      rw [List.size_toArray]
      exact (List.getElem?_eq_some_iff.mp hu).1
    have hef : e ∉ [it, a] := by
      intro h
      rcases mem2 h with h | h
      · exact n1 h
      · exact n3 h
    refine wpAny_pyNext_enum_itemC (Draws.tuple (A := X.A.in1) (I.ok.hd hc) it a n2 its.toArray) he ⟨hit, p⟩ hlt n1 hef fun y h' tk hy ho hit' hT hsz hk => ?_
    have ey : y = u := by
      have e1 : its.toArray[i]? = some y := hy
      rw [List.getElem?_toArray, hu] at e1
      exact (Option.some.inj e1).symm
    subst ey
    refine ⟨_, rfl, wpAny_letOwnedTupleGo_enum (s := { s with heap := h', toks := tk + 1 }) ho fun h'' he' sb => ?_⟩
    have hT2 := (sb.2 _ (Nat.ne_of_gt hel)).trans hT
    have new : ObjOk X.prog X.w (upd H s.heap.objs.size (.tup [.int (i : Nat), x])) h'' s.heap.objs.size (.tup [.int (i : Nat), x]) :=
      ⟨Nat.le_trans (by decide : 2 ≤ 1000) (by decide), [.int i tk, y], .cons ⟨_, rfl⟩ (.cons ru .nil), ⟨_, hT2, rfl, _, rfl⟩⟩
    have kb : ∀ b ob, b ∉ [e, it] → s.heap.get? b = some ob → h''.get? b = some ob := fun b ob hb q => by
      have m1 : b ≠ e := fun z => hb (by rw [z]; exact List.mem_cons_self)
      have m2 : b ≠ it := fun z => hb (by rw [z]; exact List.mem_cons_of_mem _ List.mem_cons_self)
      exact (sb.2 b m1).trans (hk b ob m1 m2 q)
    refine ⟨.ref s.heap.objs.size, _, I.turnedNew (t' := tk + 1) kb hf (Nat.le_refl _) new, rfl, ⟨_, x, rfl, I.hok.fresh (Nat.le_refl _), rfl, fun ys hy => by rw [I.tuple_inj hy hq]; exact hx⟩, ⟨⟨y, ?_⟩, hit'.1.at fun o q => (sb.2 it (Ne.symm n1)).trans q, n1, n2, n3⟩, fun b hb => ?_⟩
    · rw [show ((i + 1 : Nat) : Int) = (i : Int) + 1 from rfl]; exact he'
    · have hb' : b < s.heap.objs.size := (mem2 hb).elim (fun z => by rw [z]; exact hel) fun z => by rw [z]; exact hil
      exact (upd_ne (Nat.ne_of_lt hb')).trans (hf b hb).1
  done := by
    rintro X rfl rfl rfl hc i pins s σ H E I hf ⟨⟨old, he⟩, hit, n1, n2, n3⟩ ⟨xs, hq, hx⟩
    obtain ⟨its, rv, p, hz⟩ := I.tuple hq
    obtain ⟨f0, f1, f2, f3, f4, f5⟩ := hf it (List.mem_cons_of_mem _ List.mem_cons_self)
    have hl : its.toArray.size = i := by
      rw [List.size_toArray, ← rv.length]
      exact hx
    subst hl
    exact wpAny_pyNext_enum_endD (Draws.tuple (A := X.A.in1) (I.ok.hd hc) it a n2 its.toArray) he ⟨hit, p⟩ fun h' eb => ⟨rfl, I.turned (t' := s.toks) (fun b o hb q => eb b o hb q) f0 f1 f3 f4 f5⟩
  self := fun A i s Q E ⟨⟨_, he⟩, _⟩ h => wpAny_pyIter_enum he h
theorem newE {v : Value} {o : Obj} {C : Heap → Prop} (B : Begins v o C) : Meets (Builtin.«enumerate.__new__» ⟨[.type "enumerate", v], []⟩) (fun _ R s => C s.heap ∧
    R (.ok (.ret (.ref (s.heap.push o).objs.size))) { s with heap := (s.heap.push o).push { cls := .type "enumerate", data := .fields #[.none, .bool false, .ref s.heap.objs.size, rawInt 0, .none, .none] } }) :=
  .of_wp fun prog w A R s ⟨c, q⟩ => by
    obtain ⟨hp, g, d, tk, os⟩ := s
    have hs := sub_enumerate
    have it : ∀ {A' : Around} {E Q : Value → Shared → Prop}, Q (.ref hp.objs.size) ⟨hp.push o, g, d, tk, os⟩ → wpAny (model prog w) A' (pyIter v) Q E ⟨hp, g, d, tk, os⟩ := fun q => B.iter prog w _ _ ⟨hp, g, d, tk, os⟩ _ c q
    wp_walk using it
    refine wpAny_stack_any fun _ => wpAny_pure ?_
    split
    · rename_i t _ _ _ _ _
      cases (t == Value.type "enumerate") <;> (wp_walk using it; exact ⟨_, rfl, q⟩)
    · wp_walk using it
      exact ⟨_, rfl, q⟩
theorem callE {prog : Program} {w : World} {A : Around} {E Q : Value → Shared → Prop} {s : Shared} {v : Value} {o : Obj} {C : Heap → Prop} (B : Begins v o C) (c : C s.heap)
    (h : ∀ h', IsEnum h' (s.heap.objs.size + 1) s.heap.objs.size 0 .none → h'.get? s.heap.objs.size = some o → (∀ b u, s.heap.get? b = some u → h'.get? b = some u) → Q (.ref (s.heap.objs.size + 1)) { s with heap := h' }) : wpAny (model prog w) A (call (.type "enumerate") [v]) Q E s := by
  refine callType_new F.called_enumerate (by decide) (F.typeCall_enumerate_1 _) (F.newCall_enumerate_1 _) (fun ob => F.args_object_init_2 ob _) F.entry_enumerate_new (newE B) ⟨c, ?_⟩
  have hz : (s.heap.push o).objs.size = s.heap.objs.size + 1 := by rw [Heap.size_push]
  have he := Heap.get?_push_size (s.heap.push o) (o := { cls := .type "enumerate", data := .fields #[.none, .bool false, .ref s.heap.objs.size, rawInt 0, .none, .none] }) rfl
  show _ ∧ _
  rw [hz] at he ⊢
  exact ⟨⟨_, he, rfl⟩, h _ he (Heap.get?_push_of_some _ (Heap.get?_push_size _ B.free)) fun b u x => Heap.get?_push_of_some _ (Heap.get?_push_of_some _ x)⟩
def iE (K : PySem.W.Frag) (ta : TA) : TI := fun σ H R => ta σ H fun vs H1 => ∃ a xs, vs = [.ref a] ∧ SqT K H1 a xs ∧ R (ItE K a) H1
theorem pi_E {X : Cx} {e : Expr} {ta : TA} {p pos tpos : Pos} {elts : List Expr} {kk : Nat} (hg : Gl X "enumerate") (hm : X.mg "enumerate" = none) (ha : PA X [e] ta) (hs : starEach [e] X.env = [(false, eval e X.env)] := by rfl) :
    PI X (.Tuple elts kk tpos) (.Call (.Name "enumerate" p) [e] [] pos) (iE X.K ta) := ⟨fun pins s σ H R I h => by
  refine Call_ (ld_blt I hg hm boot_enumerate (PyProof.Rows.callWith_type1 (thn (ha.run pos pins s σ H _ I h) fun us s1 ⟨vs, H1, I1, r1, a, xs, ex, hq, q⟩ => ?_) hs rfl))
  subst ex
  cases r1 with
  | cons r rr =>
    cases rr
    cases r
    obtain ⟨its, rv, p', hz⟩ := I1.tuple hq
    obtain ⟨oa, hoa, _⟩ := id p'
    have la : a < s1.heap.objs.size := Heap.lt_size hoa
    refine callE (begins_tuple a its.toArray) p' fun h' he hit hk => wpAny_pyIter_enum he ?_
    refine ⟨s1.heap.objs.size + 1, [s1.heap.objs.size + 1, s1.heap.objs.size], _, _, H1, rfl, I1.kept (t' := s1.toks) hk, turnE a (s1.heap.objs.size + 1) s1.heap.objs.size, ⟨⟨.none, he⟩, ⟨_, hit, rfl, rfl⟩, Nat.succ_ne_self _, Nat.ne_of_lt la, Nat.ne_of_gt (Nat.lt_succ_of_lt la)⟩, fun b hb => ?_, q⟩
    have hle : s1.heap.objs.size ≤ b := (mem2 hb).elim (fun z => by rw [z]; exact Nat.le_succ _) fun z => by rw [z]; exact Nat.le_refl _
    exact I1.fpOk hle (I1.hok.fresh hle)⟩
theorem walk_E {K : PySem.W.Frag} {a : Addr} {xs : List V} : Walk (ItE K a) xs.length (fun H => SqT K H a xs) (YPair (fun i => some (.int (i : Nat))) (fun i => xs[i]?)) where
  goes := fun i _ hi q => ⟨xs, xs[i], q, List.getElem?_eq_getElem hi⟩
  stops := fun _ q => ⟨xs, q, rfl⟩
  yields := fun i H v H' _ q ⟨T, x, h1, h2, h3, h4⟩ => ⟨T, .int (i : Nat), x, h1, h2, h3, rfl, h4 xs q⟩

/-! ### zip of a tuple and a list -/
def ItZ (K : PySem.W.Frag) (a b : Addr) : It where
  go := fun i H => ∃ (xs ys : List V) (x y : V), SqT K H a xs ∧ SqL K H b ys ∧ xs[i]? = some x ∧ ys[i]? = some y
  yld := fun i H v H' => ∃ T x y, v = .ref T ∧ H T = none ∧ H' = upd H T (.tup [x, y]) ∧ (∀ xs, SqT K H a xs → xs[i]? = some x) ∧ ∀ ys, SqL K H b ys → ys[i]? = some y
  stop := fun i H => ∃ xs ys : List V, SqT K H a xs ∧ SqL K H b ys ∧ i = xs.length ∧ i ≤ ys.length
def TnZ (a b z TI TO i1 i2 : Addr) (i : Nat) (h : Heap) : Prop := IsZip h z TI TO .none ∧ IsTupOf2 h TI (.ref i1) (.ref i2) ∧ (∃ x y, IsTupOf2 h TO x y) ∧ h.IsTupleIter i1 a i ∧ h.IsListIter i2 b i
theorem mem5 {c z TI TO i1 i2 : Addr} (h : c ∈ [z, TI, TO, i1, i2]) : c = z ∨ c = TI ∨ c = TO ∨ c = i1 ∨ c = i2 := by simpa using h
theorem turnZ {P : Program} {w : World} {K : PySem.W.Frag} {elts : List Expr} {kk : Nat} {tpos : Pos} {a b z TI TO i1 i2 : Addr} (D : ZipSep2 z TI TO i1 i2 [i1, a] [i2, b]) :
    Turn P w K (.Tuple elts kk tpos) (ItZ K a b) [z, TI, TO, i1, i2] z (TnZ a b z TI TO i1 i2) where
  mem := List.mem_cons_self
  obj := fun i h ⟨hz, hTI, ⟨x, y, hTO⟩, ⟨o1, e1, _, d1⟩, ⟨o2, e2, _, d2⟩⟩ c hc => by
    rcases mem5 hc with rfl | rfl | rfl | rfl | rfl
    · exact ⟨_, hz, fun v q => nomatch q⟩
    · exact ⟨_, hTI, fun v q => nomatch q⟩
    · exact ⟨_, hTO, fun v q => nomatch q⟩
    · exact ⟨o1, e1, fun v q => (by rw [d1] at q; cases q)⟩
    · exact ⟨o2, e2, fun v q => (by rw [d2] at q; cases q)⟩
  keep := fun i h h' ⟨hz, hTI, ⟨x, y, hTO⟩, h1, h2⟩ k => ⟨k z (by simp) _ hz, k TI (by simp) _ hTI, ⟨x, y, k TO (by simp) _ hTO⟩, h1.at fun o q => k i1 (by simp) o q, h2.at fun o q => k i2 (by simp) o q⟩
  item := by
    rintro X rfl rfl rfl hc i pins s σ H E I hf ⟨hz, hTI, ⟨x0, y0, hTO⟩, h1, h2⟩ ⟨xs, ys, x, y, hqx, hqy, hx, hy⟩
    obtain ⟨its, rv, p, _⟩ := I.tuple hqx
    obtain ⟨its2, rv2, p2, _⟩ := I.list hqy
    obtain ⟨u, hu, ru⟩ := rv.get hx
    obtain ⟨u2, hu2, ru2⟩ := rv2.get hy
    have n1 : a ≠ i1 := fun z => by
      subst z
      obtain ⟨o, q1, q2, _⟩ := p
      obtain ⟨o', q3, q4, _⟩ := h1
      rw [q1] at q3
      cases q3
      rw [q2] at q4
      exact absurd (Value.type.inj q4) (by decide)
    have n2 : b ≠ i2 := fun z => by
      subst z
      obtain ⟨o, q1, q2, _⟩ := p2.isList
      obtain ⟨o', q3, q4, _⟩ := h2
      rw [q1] at q3
      cases q3
      rw [q2] at q4
      exact absurd (Value.type.inj q4) (by decide)
    have l1 : i < its.toArray.size := by rw [List.size_toArray]; exact (List.getElem?_eq_some_iff.mp hu).1
    have l2 : i < its2.toArray.size := by rw [List.size_toArray]; exact (List.getElem?_eq_some_iff.mp hu2).1
    have hzl : z < s.heap.objs.size := Heap.lt_size hz
    refine wpAny_pyNext_zipD2_item D (Draws.tuple (A := X.A.in1) (I.ok.hd hc) i1 a n1 its.toArray) (Draws.list (A := X.A.in1) (I.ok.hd hc) i2 b n2 its2.toArray) hz hTI hTO ⟨h1, p⟩ ⟨h2, p2.isList⟩ l1 l2 fun y1 y2 h' tk e1 e2 z' TO' h1' h2' hT hsz hk => ?_
    have ey1 : y1 = u := by
      have e1 : its.toArray[i]? = some y1 := e1
      rw [List.getElem?_toArray, hu] at e1
      exact (Option.some.inj e1).symm
    have ey2 : y2 = u2 := by
      have e1 : its2.toArray[i]? = some y2 := e2
      rw [List.getElem?_toArray, hu2] at e1
      exact (Option.some.inj e1).symm
    subst ey1 ey2
    refine ⟨_, rfl, wpAny_letOwnedTupleGo_zip (s := { s with heap := h', toks := tk }) z' fun h'' z'' sb => ?_⟩
    have hT2 := (sb.2 _ (Nat.ne_of_gt hzl)).trans hT
    have new : ObjOk X.prog X.w (upd H s.heap.objs.size (.tup [x, y])) h'' s.heap.objs.size (.tup [x, y]) := ⟨Nat.le_trans (by decide : 2 ≤ 1000) (by decide), [y1, y2], .cons ru (.cons ru2 .nil), ⟨_, hT2, rfl, _, rfl⟩⟩
    have kb : ∀ c o, c ∉ [z, TI, TO, i1, i2] → s.heap.get? c = some o → h''.get? c = some o := fun c o hb q =>
      (sb.2 c (fun m => hb (by simp [m]))).trans (hk c o (fun m => hb (by simp [m])) (fun m => hb (by simp [m])) (fun m => hb (by simp [m])) (fun m => hb (by simp [m])) q)
    refine ⟨.ref s.heap.objs.size, _, I.turnedNew (t' := tk) kb hf (Nat.le_refl _) new, rfl, ⟨_, x, y, rfl, I.hok.fresh (Nat.le_refl _), rfl, fun l hl => by rw [I.tuple_inj hl hqx]; exact hx, fun l hl => by rw [I.list_inj hl hqy]; exact hy⟩, ⟨z'', ?_, ⟨y1, y2, ?_⟩, ?_, ?_⟩, fun c hcm => ?_⟩
    · exact (sb.2 _ D.TIz).trans (hk _ _ D.TIz D.TITO D.TIi1 D.TIi2 hTI)
    · exact (sb.2 _ D.TOz).trans TO'
    · exact h1'.1.at fun o q => (sb.2 _ (Ne.symm D.zi1)).trans q
    · exact h2'.1.at fun o q => (sb.2 _ (Ne.symm D.zi2)).trans q
    · have hlt : c < s.heap.objs.size := by
        rcases mem5 hcm with q | q | q | q | q
        · rw [q]; exact hzl
        · rw [q]; exact Heap.lt_size hTI
        · rw [q]; exact Heap.lt_size hTO
        · obtain ⟨_, e1, _⟩ := h1; rw [q]; exact Heap.lt_size e1
        · obtain ⟨_, e2, _⟩ := h2; rw [q]; exact Heap.lt_size e2
      exact (upd_ne (Nat.ne_of_lt hlt)).trans (hf c hcm).1
  done := by
    rintro X rfl rfl rfl hc i pins s σ H E I hf ⟨hz, hTI, ⟨x0, y0, hTO⟩, h1, h2⟩ ⟨xs, ys, hqx, hqy, he, hl⟩
    obtain ⟨its, rv, p, _⟩ := I.tuple hqx
    obtain ⟨its2, rv2, p2, _⟩ := I.list hqy
    have n1 : a ≠ i1 := fun z => by
      subst z
      obtain ⟨o, q1, q2, _⟩ := p
      obtain ⟨o', q3, q4, _⟩ := h1
      rw [q1] at q3
      cases q3
      rw [q2] at q4
      exact absurd (Value.type.inj q4) (by decide)
    have n2 : b ≠ i2 := fun z => by
      subst z
      obtain ⟨o, q1, q2, _⟩ := p2.isList
      obtain ⟨o', q3, q4, _⟩ := h2
      rw [q1] at q3
      cases q3
      rw [q2] at q4
      exact absurd (Value.type.inj q4) (by decide)
    have l1 : i = its.toArray.size := by rw [List.size_toArray, ← rv.length]; exact he
    have l2 : i ≤ its2.toArray.size := by rw [List.size_toArray, ← rv2.length]; exact hl
    exact wpAny_pyNext_zipD2_end D (Draws.tuple (A := X.A.in1) (I.ok.hd hc) i1 a n1 its.toArray) (Draws.list (A := X.A.in1) (I.ok.hd hc) i2 b n2 its2.toArray) hz hTI hTO ⟨h1, p⟩ ⟨h2, p2.isList⟩ (Nat.le_of_eq l1) l2 (.inl l1) fun h' tk hk => ⟨rfl, I.turnedL (t' := tk) (ch := [z, TI, TO, i1, i2]) (fun c o hb q =>
      hk c o (fun m => hb (by simp [m])) (fun m => hb (by simp [m])) (fun m => hb (by simp [m])) (fun m => hb (by simp [m])) q) hf⟩
  self := fun A i s Q E st h => wpAny_pyIter_zip st.1 h
def iZ (K : PySem.W.Frag) (ta : TA) : TI := fun σ H R => ta σ H fun vs H1 => ∃ a b xs ys, vs = [.ref a, .ref b] ∧ SqT K H1 a xs ∧ SqL K H1 b ys ∧ R (ItZ K a b) H1
theorem pi_Z {X : Cx} {e e2 : Expr} {ta : TA} {p pos tpos : Pos} {elts : List Expr} {kk : Nat} (hg : Gl X "zip") (hm : X.mg "zip" = none) (ha : PA X [e, e2] ta) (hs : starEach [e, e2] X.env = (false, eval e X.env) :: starEach [e2] X.env := by rfl) (hpl : (backTo pos (starEach [e2] X.env)).any (·.1) = false := by rfl) :
    PI X (.Tuple elts kk tpos) (.Call (.Name "zip" p) [e, e2] [] pos) (iZ X.K ta) := ⟨fun pins s σ H R I h => by
  refine Call_ (ld_blt I hg hm PyProof.Rows.boot_zip (PyProof.Rows.callWith_type1 (thn (ha.run pos pins s σ H _ I h) fun us s1 ⟨vs, H1, I1, r1, a, b, xs, ys, ex, hqx, hqy, q⟩ => ?_) hs hpl))
  subst ex
  cases r1 with
  | cons r rr =>
    cases rr with
    | cons r' rr =>
      cases rr
      cases r
      cases r'
      obtain ⟨its, rv, p1, _⟩ := I1.tuple hqx
      obtain ⟨its2, rv2, p2, _⟩ := I1.list hqy
      obtain ⟨oa, hoa, _⟩ := id p1
      have la : ∀ c ∈ [a], c < s1.heap.objs.size := fun c hc => by rw [List.mem_singleton.mp hc]; exact Heap.lt_size hoa
      have lb : ∀ c ∈ [b], c < s1.heap.objs.size := fun c hc => by rw [List.mem_singleton.mp hc]; exact p2.lt
      refine zip_begins2 (begins_tuple a its.toArray) (begins_list b its2.toArray) p1 p2.isList fun h' hz hTI hTO h1 h2 hsz hk => wpAny_pyIter_zip hz ?_
      refine ⟨s1.heap.objs.size + 4, [s1.heap.objs.size + 4, s1.heap.objs.size + 2, s1.heap.objs.size + 3, s1.heap.objs.size, s1.heap.objs.size + 1], _, _, H1, rfl, I1.kept (t' := s1.toks) hk, turnZ (zip_sep2 la lb), ⟨hz, hTI, ⟨_, _, hTO⟩, ⟨_, h1, rfl, rfl⟩, ⟨_, h2, rfl, rfl⟩⟩, fun c hc => ?_, q⟩
      have hle : s1.heap.objs.size ≤ c := by
        rcases mem5 hc with z | z | z | z | z
        · rw [z]; exact Nat.le_add_right _ _
        · rw [z]; exact Nat.le_add_right _ _
        · rw [z]; exact Nat.le_add_right _ _
        · rw [z]; exact Nat.le_refl _
        · rw [z]; exact Nat.le_add_right _ _
      exact I1.fpOk hle (I1.hok.fresh hle)⟩
theorem walk_Z {K : PySem.W.Frag} {a b : Addr} {xs ys : List V} (hl : xs.length ≤ ys.length) : Walk (ItZ K a b) xs.length (fun H => SqT K H a xs ∧ SqL K H b ys) (YPair (fun i => xs[i]?) (fun i => ys[i]?)) where
  goes := fun i _ hi q => ⟨xs, ys, xs[i], ys[i]'(Nat.lt_of_lt_of_le hi hl), q.1, q.2, List.getElem?_eq_getElem hi, List.getElem?_eq_getElem _⟩
  stops := fun _ q => ⟨xs, ys, q.1, q.2, rfl, hl⟩
  yields := fun i H v H' _ q ⟨T, x, y, h1, h2, h3, h4, h5⟩ => ⟨T, x, y, h1, h2, h3, h4 xs q.1, h5 ys q.2⟩
theorem walk_ZT {K : PySem.W.Frag} {a b : Addr} {xs ys : List V} (hl : xs.length = ys.length) : Walk (RZ.ItzT K a b) xs.length (fun H => SqT K H a xs ∧ SqT K H b ys) (YPair (fun i => xs[i]?) (fun i => ys[i]?)) where
  goes := fun i _ hi q => ⟨xs, ys, xs[i], ys[i]'(hl ▸ hi), q.1, q.2, List.getElem?_eq_getElem hi, List.getElem?_eq_getElem _⟩
  stops := fun _ q => ⟨xs, ys, q.1, q.2, .inl (Nat.le_refl _)⟩
  yields := fun i H v H' _ q ⟨T, x, y, h1, h2, h3, h4, h5⟩ => ⟨T, x, y, h1, h2, h3, h4 xs q.1, h5 ys q.2⟩

/-! ### in the typed layer -/
section
variable {F : Fr} {X : Cx} {G : Gm} {L : Ls} {st st1 st2 st3 : Pst} {e a b c : Expr} {es : List Expr} {pos p1 p2 p3 p4 p tpos : Pos} {kk : Nat} {tgs : List Expr}
theorem iter_pair {α β : Type} [Py α] [Py β] {S S' : AS} {H1 H2 H3 : Hp} {v u w : V} {T : Addr} {x : α} {y : β} (l : Lo S H1) (sb : ∀ a, S' a → S a ∨ H1 a = none) (f : Fx S H1 H2) (l' : Lo S' H2) (hT : H2 T = none) (e3 : H3 = upd H2 T (.tup [u, w])) (ev : v = .ref T) (h1 : rel S H1 u x) (h2 : rel S H1 w y) : Ex H2 H3 ∧ (dy (x, y)).rel S' H3 v := by
  subst e3 ev
  have e := Ex.new (o := .tup [u, w]) hT
  exact ⟨e, T, u, w, rfl, upd_same, Py.keep l' e.fx (iter_rel l sb f h1), Py.keep l' e.fx (iter_rel l sb f h2)⟩
/-- for i, x in enumerate(tuple) -/
theorem evi_enum {α : Type} [Py α] {xs : List α} (hm : X.mg "enumerate" = none) (h : Ev F X G L st e (dy xs) st1) (hg : Gl X "enumerate" := by rfl) (hs : starEach [e] X.env = [(false, eval e X.env)] := by rfl) :
    EvI F X G L st (.Tuple tgs kk tpos) (.Call (.Name "enumerate" p) [e] [] pos) (xs.zipIdx.map fun z => dy ((z.2 : Int), z.1)) st1 := fun σ H ok R k =>
  (pi_E hg hm pa_wp hs).wp ((eva_cons h eva_nil hs) σ H ok _ fun vs H1 f1 ok1 r => by
    cases r with
    | cons r rr =>
      cases rr
      obtain ⟨q, ws, e, h1, r⟩ := r
      have r : A2 (rel (keys F L) H1) ws xs := r
      refine ⟨q, ws, by rw [e], .of h1, k _ H1 f1 ok1 ⟨_, (walk_E (xs := ws)).mono' (by rw [List.length_map, List.length_zipIdx]; exact r.length) (fun H2 hf => .of (tup_keep ok1.lo hf.2 h1)), fun i H2 v H3 S' sb l f2 y => ?_⟩⟩
      obtain ⟨T, x, y, rfl, hT, e3, e4, hy⟩ := y
      cases e4
      obtain ⟨u, hu, ru⟩ := r.get' hy
      obtain ⟨g1, g2⟩ := iter_pair (x := (i : Int)) ok1.lo sb f2 l hT e3 rfl rfl ru
      exact ⟨g1, dy ((i : Int), u), by rw [List.getElem?_map, List.getElem?_zipIdx, hu, Nat.zero_add]; rfl, g2⟩)
/-- for x, y in zip(tuple, list), the list no shorter -/
theorem evi_zipTL {α β : Type} [Py α] [Py β] {xs : List α} {ys : List β} (hl : xs.length ≤ ys.length) (hm : X.mg "zip" = none) (h : Ev F X G L st a (dy xs) st1) (h2 : Ev F X G L st1 b (dy (PL.mk ys)) st2) (hg : Gl X "zip" := by rfl) (hs : starEach [a, b] X.env = (false, eval a X.env) :: starEach [b] X.env := by rfl) (hs2 : starEach [b] X.env = (false, eval b X.env) :: starEach [] X.env := by rfl) :
    EvI F X G L st (.Tuple tgs kk tpos) (.Call (.Name "zip" p) [a, b] [] pos) ((xs.zip ys).map fun z => dy z) st2 := fun σ H ok R k =>
  (pi_Z hg hm pa_wp hs (by rw [hs2]; rfl)).wp ((eva_cons h (eva_cons h2 eva_nil hs2) hs) σ H ok _ fun vs H1 f1 ok1 r => by
    cases r with
    | cons r rr =>
      cases rr with
      | cons r2 rr =>
        cases rr
        obtain ⟨q, ws, e, h1, r⟩ := r
        obtain ⟨q2, ws2, e2, n2, h2, r2⟩ := r2
        have r : A2 (rel (keys F L) H1) ws xs := r
        have r2 : A2 (rel (keys F L) H1) ws2 ys := r2
        have hl2 : ws.length ≤ ws2.length := by rw [r.length, r2.length]; exact hl
        refine ⟨q, q2, ws, ws2, by rw [e, e2], .of h1, .of h2, k _ H1 f1 ok1 ⟨_, (walk_Z hl2).mono' (by rw [List.length_map, List.length_zip, r.length, Nat.min_eq_left hl]) (fun H2 hf => ⟨.of (tup_keep ok1.lo hf.2 h1), .of (hf.2 q2 _ n2 h2)⟩), fun i H2 v H3 S' sb l f2 y => ?_⟩⟩
        obtain ⟨T, x, y, rfl, hT, e3, hx, hy⟩ := y
        obtain ⟨u, hu, ru⟩ := r.get' hx
        obtain ⟨u2, hu2, ru2⟩ := r2.get' hy
        obtain ⟨g1, g2⟩ := iter_pair ok1.lo sb f2 l hT e3 rfl ru ru2
        exact ⟨g1, dy (u, u2), by rw [List.getElem?_map, show (xs.zip ys)[i]? = some (u, u2) from List.getElem?_zip_eq_some.mpr ⟨hu, hu2⟩]; rfl, g2⟩)
/-- for x, y in zip(tuple, tuple), of one length -/
theorem evi_zip {α β : Type} [Py α] [Py β] {xs : List α} {ys : List β} (hl : xs.length = ys.length) (hm : X.mg "zip" = none) (h : Ev F X G L st a (dy xs) st1) (h2 : Ev F X G L st1 b (dy ys) st2) (hg : Gl X "zip" := by rfl) (hs : starEach [a, b] X.env = (false, eval a X.env) :: starEach [b] X.env := by rfl) (hs2 : starEach [b] X.env = (false, eval b X.env) :: starEach [] X.env := by rfl) :
    EvI F X G L st (.Tuple tgs kk tpos) (.Call (.Name "zip" p) [a, b] [] pos) ((xs.zip ys).map fun z => dy z) st2 := fun σ H ok R k =>
  (RZ.pi_zipA hg hm pa_wp hs (by rw [hs2]; rfl)).wp ((eva_cons h (eva_cons h2 eva_nil hs2) hs) σ H ok _ fun vs H1 f1 ok1 r => by
    cases r with
    | cons r rr =>
      cases rr with
      | cons r2 rr =>
        cases rr
        obtain ⟨q, ws, e, h1, r⟩ := r
        obtain ⟨q2, ws2, e2, h2, r2⟩ := r2
        have r : A2 (rel (keys F L) H1) ws xs := r
        have r2 : A2 (rel (keys F L) H1) ws2 ys := r2
        have hl2 : ws.length = ws2.length := by rw [r.length, r2.length]; exact hl
        refine ⟨q, q2, ws, ws2, by rw [e, e2], .inr ⟨.of h1, .of h2, k _ H1 f1 ok1 ⟨_, (walk_ZT hl2).mono' (by rw [List.length_map, List.length_zip, r.length, Nat.min_eq_left (Nat.le_of_eq hl)]) (fun H2 hf => ⟨.of (tup_keep ok1.lo hf.2 h1), .of (tup_keep ok1.lo hf.2 h2)⟩), fun i H2 v H3 S' sb l f2 y => ?_⟩⟩⟩
        obtain ⟨T, x, y, rfl, hT, e3, hx, hy⟩ := y
        obtain ⟨u, hu, ru⟩ := r.get' hx
        obtain ⟨u2, hu2, ru2⟩ := r2.get' hy
        obtain ⟨g1, g2⟩ := iter_pair ok1.lo sb f2 l hT e3 rfl ru ru2
        exact ⟨g1, dy (u, u2), by rw [List.getElem?_map, show (xs.zip ys)[i]? = some (u, u2) from List.getElem?_zip_eq_some.mpr ⟨hu, hu2⟩]; rfl, g2⟩)
end
end K5

namespace K5
open PySem PySem.Spec PyProof.Rows L2
open Py (rel)

/-! ### contracts -/
/-- a promise in short: pre of a parameter, the arguments, the value -/
def RP {ι : Type 1} (pre : ι → Prop) (args : ι → DL) (res : ι → Dyn) : DL → Dyn → Prop := fun ds d => ∃ i, pre i ∧ ds = args i ∧ d = res i
def RQ {ι : Type 1} (pre : ι → Pst → Prop) (args : ι → DL) (res : ι → Pst → Dyn) (nxt : ι → Pst → Pst) : DL → Pst → Dyn → Pst → Prop := fun ds st d st' => ∃ i, pre i st ∧ ds = args i ∧ d = res i st ∧ st' = nxt i st
/-- a def of the text under its name -/
def Df (K : PySem.W.Frag) (mg : Str → Option Value) (x : Str) (st : Stmt) (ps : List Str) : Prop := ∃ f fd, Fun K x x st f fd ∧ mg x = some (.ref f) ∧ Binds K fd ps []
def G0 (N : List Str) (ds : DL) : Gm := ds.map some ++ List.replicate (N.length - ds.length) none
/-- the ends of a body -/
def DP (F : Fr) (d : Dyn) : Ends where
  nx := fun _ H => (∀ a o, F.H0 a = some o → H a = some o) ∧ d.rel F.S H .non
  rt := fun v H => (∀ a o, F.H0 a = some o → H a = some o) ∧ d.rel F.S H v
def DQ (F : Fr) (p c : Addr) (st' : Pst) (d : Dyn) : Ends where
  nx := fun _ H => Fx (fun a => a = p ∨ a = c) F.H0 H ∧ PoolAt p c st' H ∧ ∀ S, d.rel S H .non
  rt := fun v H => Fx (fun a => a = p ∨ a = c) F.H0 H ∧ PoolAt p c st' H ∧ ∀ S, d.rel S H v
abbrev st0 : Pst := ⟨0, 0, []⟩
theorem env_start {S : AS} {N : List Str} {ds : DL} {vs : List V} {H : Hp} (r : D2 (fun v d => d.rel S H v) vs ds) : EnvOk S (G0 N ds) (L2.start N vs) H := by
  refine ⟨by unfold G0 L2.start; simp only [List.length_append, List.length_map, List.length_replicate, r.length], fun i d h => ?_⟩
  unfold G0 at h
  by_cases hi : i < ds.length
  · rw [List.getElem?_append_left (by rw [List.length_map]; exact hi), List.getElem?_map] at h
    cases e : ds[i]? with
    | none => rw [e] at h; cases h
    | some x =>
      rw [e] at h
      cases h
      obtain ⟨v, h1, h2⟩ := r.get e
      refine ⟨v, ?_, h2⟩
      unfold L2.start
      rw [List.getElem?_append_left (by rw [List.length_map, r.length]; exact hi), List.getElem?_map, h1]
      rfl
  · rw [List.getElem?_append_right (by rw [List.length_map]; omega), List.getElem?_replicate] at h
    split at h <;> cases h
theorem keys_P {S : AS} {H : Hp} {a : Addr} (h : keys ⟨S, none, H⟩ [] a) : S a := by
  rcases h with (h | ⟨p, c, e, _⟩) | ⟨ds, h⟩
  · exact h
  · cases e
  · cases h
theorem ok_startP {S : AS} {N : List Str} {ds : DL} {vs : List V} {H : Hp} {st : Pst} (hS : ∀ a, S a → ∃ xs, H a = some (.lst xs)) (r : D2 (fun v d => d.rel S H v) vs ds) : Ok ⟨S, none, H⟩ (G0 N ds) [] st (L2.start N vs) H :=
  ⟨(env_start r).sub fun a h => .inl (keys_P h), fun _ h => (by cases h), List.nodup_nil, fun _ h => (by cases h), fun _ h => (by cases h), fun _ _ e => (by cases e), fun _ _ _ e => e, hS⟩
theorem keys_Q {p c : Addr} {H : Hp} {a : Addr} (h : keys ⟨fun _ => False, some (p, c), H⟩ [] a) : a = p ∨ a = c := by
  rcases h with (h | ⟨p', c', e, z⟩) | ⟨ds, h⟩
  · cases h
  · cases e; exact z
  · cases h
theorem ok_startQ {p c : Addr} {N : List Str} {ds : DL} {vs : List V} {H : Hp} {st : Pst} (hp : PoolAt p c st H) (r : D2 (fun v d => d.rel (fun a => a = p ∨ a = c) H v) vs ds) : Ok ⟨fun _ => False, some (p, c), H⟩ (G0 N ds) [] st (L2.start N vs) H :=
  ⟨(env_start r).sub fun a h => .inl (keys_Q h), fun _ h => (by cases h), List.nodup_nil, fun _ h => (by cases h), fun _ h => (by cases h), fun _ _ e => (by cases e; exact hp), fun _ _ _ e => e, fun _ h => (by cases h)⟩
section
variable {P : Program} {w : World} {K : PySem.W.Frag} {mg : Str → Option Value} {base : Heap}
abbrev XO (P : Program) (w : World) (K : PySem.W.Frag) (mg : Str → Option Value) (base : Heap) (N : List Str) (x : Str) (st : Stmt) (f : Addr) (cdv : Value) (A : Around) (outer : List Env) (s : Shared) (H : Hp) (E : XK) : Cx := (cxOf CX0 P w K mg base N x (defScope st) f cdv A outer s H E).nox
theorem gd_XO {N ps : List Str} {x : Str} {st : Stmt} {f : Addr} {cdv : Value} {A : Around} {outer : List Env} {s : Shared} {H : Hp} {E : XK} {k : Nat} (S : FnScope N ps (defScope st)) (hr : Room k (A.deeper (envOfC x (defScope st) s.heap.objs.size f cdv))) : Gd (XO P w K mg base N x st f cdv A outer s H E) :=
  ⟨S.nd, rfl, hr.units, PassesOwn.never⟩
/-- a def that changes nothing -/
theorem fnP {x : Str} {st : Stmt} {N ps : List Str} {k : Nat} {R : DL → Dyn → Prop} (D : Df K mg x st ps) (S : FnScope N ps (defScope st)) (len : ∀ ds d, R ds d → ds.length = ps.length)
    (hb : ∀ (f : Addr) (cdv : Value) (A : Around) (outer : List Env) (s : Shared) (H : Hp) (E : XK) (ds : DL) (d : Dyn), Room k (XO P w K mg base N x st f cdv A outer s H E).A → Gd (XO P w K mg base N x st f cdv A outer s H E) → R ds d → ∀ S0 : AS,
      WB ⟨S0, none, H⟩ (XO P w K mg base N x st f cdv A outer s H E) (G0 N ds) [] st0 (defBody st) (DP ⟨S0, none, H⟩ d)) : Fn P w K mg base CX0 (k + 1) x (spP R) := by
  obtain ⟨f, fd, F, g, b⟩ := D
  refine ⟨f, fd, ps, F.ok S (fun vs H Q E h => ?_) (fun cdv A outer s H vs Q E hr h => ?_), g, F.kp, b⟩
  · obtain ⟨S0, ds, d, _, r, hR, _⟩ := h
    rw [r.length, len ds d hR]
  · obtain ⟨S0, ds, d, hS, r, hR, q⟩ := h
    refine ⟨wpB (XO P w K mg base N x st f cdv A outer s H E) (defBody st), pss_wp, ?_⟩
    refine pss_conseq ?_ (hb f cdv A outer s H E ds d hr (gd_XO S hr) hR S0 _ _ (ok_startP hS r))
    exact ⟨fun _ H' z => q _ _ z.1 z.2, fun v H' z => q _ _ z.1 z.2, fun _ _ z => z, fun _ _ z => z⟩
where
  pss_conseq {X : Cx} {b : List Stmt} {D D' : Ends} {σ : L2.St} {H : Hp} (h : (∀ σ H, D.nx σ H → D'.nx σ H) ∧ (∀ v H, D.rt v H → D'.rt v H) ∧ (∀ σ H, D.bk σ H → D'.bk σ H) ∧ (∀ σ H, D.ct σ H → D'.ct σ H)) (q : wpB X b D σ H) : wpB X b D' σ H := fun pins s I => by
    refine wpAny_mono (q pins s I) (fun fl s' hs => ?_) fun _ _ z => z
    cases fl with
    | ret u => obtain ⟨v, σ', H', J, rv, q⟩ := hs; exact ⟨v, σ', H', J, rv, h.2.1 _ _ q⟩
    | next => obtain ⟨σ', H', J, q⟩ := hs; exact ⟨σ', H', J, h.1 _ _ q⟩
    | brk => obtain ⟨σ', H', J, q⟩ := hs; exact ⟨σ', H', J, h.2.2.1 _ _ q⟩
    | cont => obtain ⟨σ', H', J, q⟩ := hs; exact ⟨σ', H', J, h.2.2.2 _ _ q⟩
/-- a def whose first argument is the pool -/
theorem fnQ {x : Str} {st : Stmt} {N ps : List Str} {k : Nat} {R : DL → Pst → Dyn → Pst → Prop} (D : Df K mg x st ps) (S : FnScope N ps (defScope st)) (len : ∀ ds t d t', R ds t d t' → ds.length + 1 = ps.length)
    (hb : ∀ (f : Addr) (cdv : Value) (A : Around) (outer : List Env) (s : Shared) (H : Hp) (E : XK) (ds : DL) (t : Pst) (d : Dyn) (t' : Pst), Room k (XO P w K mg base N x st f cdv A outer s H E).A → Gd (XO P w K mg base N x st f cdv A outer s H E) → R ds t d t' → ∀ p c : Addr,
      WB ⟨fun _ => False, some (p, c), H⟩ (XO P w K mg base N x st f cdv A outer s H E) (G0 N (dy (Ad.mk p) :: ds)) [] t (defBody st) (DQ ⟨fun _ => False, some (p, c), H⟩ p c t' d)) : Fn P w K mg base CX0 (k + 1) x (spQ R) := by
  obtain ⟨f, fd, F, g, b⟩ := D
  refine ⟨f, fd, ps, F.ok S (fun vs H Q E h => ?_) (fun cdv A outer s H vs Q E hr h => ?_), g, F.kp, b⟩
  · obtain ⟨p, c, t, ds, d, t', _, r, hR, _⟩ := h
    have e := r.length
    rw [List.length_cons, len ds t d t' hR] at e
    exact e
  · obtain ⟨p, c, t, ds, d, t', hp, r, hR, q⟩ := h
    refine ⟨wpB (XO P w K mg base N x st f cdv A outer s H E) (defBody st), pss_wp, ?_⟩
    refine fnP.pss_conseq ?_ (hb f cdv A outer s H E ds t d t' hr (gd_XO S hr) hR p c _ _ (ok_startQ hp r))
    exact ⟨fun _ H' z => q _ _ z.1 z.2.1 z.2.2, fun v H' z => q _ _ z.1 z.2.1 z.2.2, fun _ _ z => z, fun _ _ z => z⟩
end
/-- the end is reached -/
theorem ends_rtP {F : Fr} {G : Gm} {L : Ls} {st : Pst} {σ : L2.St} {H : Hp} {d : Dyn} {v : V} (hp : F.pool = none) (ok : Ok F G L st σ H) (r : d.rel (keys F L) H v) : (∀ a o, F.H0 a = some o → H a = some o) ∧ d.rel F.S H v :=
  ⟨fun a o e => ok.base a o (fun ⟨p, c, z, _⟩ => by rw [hp] at z; cases z) e, Dyn.sub (fun a z => .inl (.inl (.inl z))) r⟩
theorem ends_rtQ {α : Type} [PyF α] {F : Fr} {G : Gm} {L : Ls} {st : Pst} {σ : L2.St} {H : Hp} {x : α} {v : V} {p c : Addr} (hp : F.pool = some (p, c)) (ok : Ok F G L st σ H) (r : (dy x).rel (keys F L) H v) : Fx (fun a => a = p ∨ a = c) F.H0 H ∧ PoolAt p c st H ∧ ∀ S, (dy x).rel S H v :=
  ⟨fun a o n e => ok.base a o (by rw [Fr.P_of hp]; exact n) e, ok.pool p c hp, fun S => (PyF.frz (α := α) (show rel _ H v x from r) : rel S H v x)⟩

section
variable {F : Fr} {X : Cx} {G : Gm} {L : Ls} {st st1 st2 st3 : Pst} {e a b c : Expr} {es : List Expr} {pos p1 p2 p3 p4 p : Pos} {d x y z : Dyn} {ds : DL} {s : Stmt} {rest : List Stmt} {D : Ends}
/-- return e, the ends those of the def -/
theorem wb_retP {F0 : Fr} {D : Ends} (hp : F0.pool = none) (le : F0.le F) (hD : D.rt = (DP F0 d).rt) (he : Ev F X G L st e d st1) : WB F X G L st (.Return (some e) pos :: rest) D := wb_ret he fun v σ H ok r => by
  rw [hD]
  exact ends_rtP hp (le.2 _ _ _ _ _ ok) (by rw [← le.keys]; exact r)
theorem wb_retQ {α : Type} [PyF α] {u : α} {F0 : Fr} {D : Ends} {q c : Addr} (hp : F0.pool = some (q, c)) (le : F0.le F) (hD : D.rt = (DQ F0 q c st1 (dy u)).rt) (he : Ev F X G L st e (dy u) st1) : WB F X G L st (.Return (some e) pos :: rest) D := wb_ret he fun v σ H ok r => by
  rw [hD]
  exact ends_rtQ hp (le.2 _ _ _ _ _ ok) (by rw [← le.keys]; exact r)
/-- return of a list of one's own -/
theorem wb_retO {α : Type} [Py α] {xs : List α} {q : Addr} {F0 : Fr} {D : Ends} (hp : F0.pool = none) (le : F0.le F) (hD : D.rt = (DP F0 (dy (PL.mk xs))).rt) (he : Ev F X G ((q, xs.map dy) :: L) st e (dy (Ad.mk q)) st1) : WB F X G ((q, xs.map dy) :: L) st (.Return (some e) pos :: rest) D := wb_ret he fun v σ H ok r => by
  rw [hD]
  have ok2 := le.2 _ _ _ _ _ ok
  cases (show v = .ref q from r)
  exact ends_rtP hp ok2.letgo (by rw [← le.keys]; exact ok.pl)
/-- the list is let go -/
theorem wb_letgo {α : Type} [Py α] {xs : List α} {q : Addr} {b : List Stmt} (i : Nat) (hG : G[i]? = some (some (dy (Ad.mk q)))) (hr : WB F X (G.set i (some (dy (PL.mk xs)))) L st b D) : WB F X G ((q, xs.map dy) :: L) st b D := fun σ H ok => by
  obtain ⟨v, h1, h2⟩ := ok.env.at_ i _ hG
  cases (show v = .ref q from h2)
  have o2 := (ok.letgo).slot (i := i) (d := dy (PL.mk xs)) (v := .ref q) ok.pl
  have e : σ.set i (some (.ref q)) = σ := by
    refine List.ext_getElem? fun j => ?_
    by_cases hj : i = j
    · subst hj
      obtain ⟨hlt, _⟩ := List.getElem?_eq_some_iff.mp h1
      rw [List.getElem?_set_self hlt, h1]
    · rw [List.getElem?_set_ne hj]
  rw [e] at o2
  exact hr σ H o2
/-- a weaker kind of what a slot holds -/
theorem wb_less {G' : Gm} {b : List Stmt} (h : Less G' G) (hr : WB F X G' L st b D) : WB F X G L st b D := fun σ H ok => hr σ H (ok.less h)
theorem wb_pass (hr : WB F X G L st rest D) : WB F X G L st (.Pass pos :: rest) D := wb_cons ps_pass fun σ H ok => hr σ H ok

/-! ### a list or a tuple -/
structure Sq (α : Type) where
  l : List α
def sqRel {α : Type} [Py α] (S : AS) (H : Hp) (v : V) (x : Sq α) : Prop := rel S H v x.l ∨ rel S H v (PL.mk x.l)
instance {α : Type} [Py α] : Py (Sq α) where
  rel := sqRel
  keep := fun l f h => h.imp (Py.keep l f) (Py.keep l f)
  sub := fun f h => h.imp (Py.sub f) (Py.sub f)
theorem Ev.sqT {α : Type} [Py α] {xs : List α} (h : Ev F X G L st e (dy xs) st1) : Ev F X G L st e (dy (Sq.mk xs)) st1 := h.imp fun _ _ _ z => .inl z
theorem Ev.sqL {α : Type} [Py α] {xs : List α} (h : Ev F X G L st e (dy (PL.mk xs)) st1) : Ev F X G L st e (dy (Sq.mk xs)) st1 := h.imp fun _ _ _ z => .inr z
def rIxU (K : PySem.W.Frag) : R2 := fun x y H Q => rIxT K x y H Q ∨ rIxL K x y H Q
theorem ix_u : IxR X (rIxU X.K) := fun value slice pins s σ H x y v u Q I rx ry h hs => h.elim (fun h => ix_tup value slice pins s σ H x y v u Q I rx ry h hs) fun h => ix_list value slice pins s σ H x y v u Q I rx ry h hs
theorem ev_ixS {α : Type} [Py α] {xs : List α} {i : Int} {u : α} (ha : Ev F X G L st a (dy (Sq.mk xs)) st1) (hb : Ev F X G L st1 b (dy i) st2) (e : atI xs i = some u) (hs : PlainIx b := by exact fun _ _ => rfl) : Ev F X G L st (.Subscript a b pos) (dy u) st2 :=
  ev_ix (x := dy (Sq.mk xs)) (y := dy i) (d := dy u) ix_u (fun v w σ H ok ru rw' Q k => by
    rcases ru with ru | ru
    · exact .inl (r2_ixT e v w σ H ok ru rw' Q k)
    · exact .inr (r2_ixL e v w σ H ok ru rw' Q k)) ha hb hs

/-! ### slices of a list -/
theorem ev_toL {α : Type} [Py α] {xs : List α} {n : Nat} (ha : Ev F X G L st a (dy (PL.mk xs)) st1) (hb : Ev F X G L st1 b (dy (n : Int)) st2) : Ev F X G L st (.Subscript a (.Slice none (some b) none p2) pos) (dy (PL.mk (xs.take n))) st2 := fun σ H ok Q k =>
  (pe_slice sl_list pe_wp po_none (po_some pe_wp)).wp (ha σ H ok _ fun v H1 f1 ok1 ⟨q, vs, e, nk, h, r⟩ => hb σ H1 ok1 _ fun w H2 f2 ok2 rw' => by
    have h2 : H2 q = some (.lst vs) := f2 q _ nk h
    have r2 : A2 (rel (keys F L) H2) vs xs := r.map fun _ _ z => Py.keep ok1.lo f2 z
    refine ⟨n, rw', q, vs, e, .of h2, fun l hn => ?_⟩
    rw [cut_to]
    have e4 := Ex.new (o := .lst (vs.take n)) hn
    refine k _ _ ((f1.trans f2).trans e4.fx) (ok2.ex e4) ⟨l, _, rfl, fun z => ?_, upd_same, (r2.take n).map fun _ _ z => Py.keep ok2.lo e4.fx z⟩
    obtain ⟨_, z⟩ := ok2.lst z
    rw [hn] at z
    cases z)
/-! ### targets: o[i] of a list of one's own -/
theorem eg_subO {q : Addr} {zs : DL} {i : Int} {j : Nat} (ha : Ev F X G ((q, zs) :: L) st a (dy (Ad.mk q)) st) (hb : Ev F X G ((q, zs) :: L) st b (dy i) st) (hj : ixN zs.length i = some j)
    (hs : ∀ v, assign (.Subscript a b pos) X.env v = (do
      let ov ← holding [v] (eval a X.env)
      let iv ← holding [v, ov] (eval b X.env)
      standAt pos
      holding [v, ov, iv] (setItem ov iv v)
      release [v, ov, iv] []) := by intro _; rfl) {v : V} {σ : L2.St} {H : Hp} {Q : L2.St → Hp → Prop} (ok : Ok F G ((q, zs) :: L) st σ H) (rv : d.rel (keys F ((q, zs) :: L)) H v) (k : ∀ H', Ok F G ((q, zs.set j d) :: L) st σ H' → Fx (keys F ((q, zs) :: L)) H H' → Q σ H') : wpG X (.Subscript a b pos) v σ H Q :=
  (pg_sub pe_wp pe_wp set_list hs).wp (ha σ H ok _ fun u H1 f1 ok1 r1 => hb σ H1 ok1 _ fun w H2 f2 ok2 r2 => by
    obtain ⟨vs, h, r⟩ := ok2.loc _ List.mem_cons_self
    have el : vs.length = zs.length := r.length
    have rv2 := Dyn.keep ok1.lo f2 (Dyn.keep ok.lo f1 rv)
    refine ⟨q, vs, i, j, r1, r2, h, by rw [el]; exact hj, k _ (ok2.put (D2.set rv2 j r)) ((f1.trans f2).trans fun a o n e => ?_)⟩
    rw [upd_ne fun z => n (.inr ⟨zs, by rw [z]; exact List.mem_cons_self⟩)]
    exact e)
/-- x, found = e, [] through a pair (a captured name among them) -/
theorem wb_asgN {α : Type} [Py α] {u : α} (g : Gd X) (i j : Nat) {n m : Str} {t t2 p5 p6} (ha : Ev F X G L st a (dy u) st1) (hr : ∀ q, WB F X ((G.set i (some (dy u))).set j (some (dy (Ad.mk q)))) ((q, []) :: L) st1 rest D) (hi : X.N[i]? = some n := by rfl) (hj : X.N[j]? = some m := by rfl)
    (hx : Loc X.env.scope n := by first | exact Or.inl rfl | exact Or.inr rfl) (hy : Loc X.env.scope m := by first | exact Or.inl rfl | exact Or.inr rfl) (hf : X.fn n = true ∨ X.env.scope.names.lookup n = some .local := by first | exact .inl rfl | exact .inr rfl) (hf2 : X.fn m = true ∨ X.env.scope.names.lookup m = some .local := by first | exact .inl rfl | exact .inr rfl)
    (hs : swapsWithSole [.Tuple [.Name n p1, .Name m p2] t p5] (.Tuple [a, .List [] p3] t2 p6) pos.line X.env = pure false := by rfl) (hw : swappedStores [.Tuple [.Name n p1, .Name m p2] t p5] (.Tuple [a, .List [] p3] t2 p6) X.env = pure none := by rfl)
    (h1 : starEach [a, .List [] p3] X.env = (false, eval a X.env) :: starEach [.List [] p3] X.env := by rfl) (h2 : starEach [.List [] p3] X.env = (false, eval (.List [] p3) X.env) :: starEach [] X.env := by rfl)
    (hn : (assignEach [.Name n p1, .Name m p2] X.env).length = 2 := by rfl) (hst : (assignEach [.Name n p1, .Name m p2] X.env).findIdx? (·.1) = none := by rfl) (ht : (assignEach [.Tuple [.Name n p1, .Name m p2] t p5] X.env).map (·.2) = [assign (.Tuple [.Name n p1, .Name m p2] t p5) X.env] := by rfl)
    (hc1 : (assignEach [.Name n p1, .Name m p2] X.env).map (·.2) = assign (.Name n p1) X.env :: (assignEach [.Name m p2] X.env).map (·.2) := by rfl) (hc2 : (assignEach [.Name m p2] X.env).map (·.2) = assign (.Name m p2) X.env :: (assignEach [] X.env).map (·.2) := by rfl) :
    WB F X G L st (.Assign [.Tuple [.Name n p1, .Name m p2] t p5] (.Tuple [a, .List [] p3] t2 p6) pos :: rest) D :=
  wb_cons (ps_asg (pe_tup (pa_cons pe_wp (pa_cons (pe_lst pa_nil) pa_nil h2) h1)) (pg_tup g.calm (pgs_cons (pg_name g.nd hi hx hf) (pgs_cons (pg_name g.nd hj hy hf2) pgs_nil hc2) hc1) hn hst) hs hw ht) fun σ H ok => ha σ H ok _ fun v H1 f1 ok1 r1 => by
    refine ⟨Nat.zero_le _, fun q hq => ⟨Nat.le_trans (by decide : 2 ≤ 1000) (by decide), fun l hl => ⟨l, [v, .ref q], rfl, .of upd_same, rfl, v, [.ref q], rfl, .ref q, [], rfl, rfl, ?_⟩⟩⟩
    have ok2 := ((ok1.slot (i := i) r1).own hq .nil).slot (i := j) (d := dy (Ad.mk q)) (v := .ref q) rfl
    exact hr q _ _ (ok2.ex (Ex.new hl))
/-! ### a list of one's own handed to a def that turns the pool -/
theorem ev_callQ' {CX : CXT} {k kk : Nat} {n : Str} {R : DL → Pst → Dyn → Pst → Prop} {q c : Addr} {ds0 : DL} (f : Fn X.prog X.w X.K X.mg X.base CX k n (spQ R)) (hr : Room kk X.A) (hk : k ≤ kk) (hx : Passes CX X E0) (hp : F.pool = some (q, c)) (ha : EvA F X G L st (e :: es) ds0 st1)
    (hv : ∀ vs σ H, Ok F G L st1 σ H → D2 (fun v d => d.rel (keys F L) H v) vs ds0 → D2 (fun v d => d.rel (fun a => a = q ∨ a = c) H v) vs (dy (Ad.mk q) :: ds)) (hR : R ds st1 d st2) (hg : Gl X n := by rfl)
    (hdb : (n == ("__debug__" : Str)) = false := by decide) (he : starEach (e :: es) X.env = (false, eval e X.env) :: starEach es X.env := by rfl) (hpl : (backTo pos (starEach es X.env)).any (·.1) = false := by rfl) : Ev F X G L st (.Call (.Name n p) (e :: es) [] pos) d st2 :=
  ev_call f hr hk hx ha (fun vs σ H ok r Q k => by
    have eP := Fr.P_of hp
    refine ⟨q, c, st1, ds, d, st2, ok.pool q c hp, hv vs σ H ok r, hR, fun v H' f pl r => ?_⟩
    have f' : Fx F.P H H' := by rw [eP]; exact f
    exact k v H' (f'.mono fun a z => .inl (.inr z)) (ok.fx f' fun p' c' e => by
      rw [hp] at e
      cases e
      exact pl) (r _)) hg hdb he hpl
/-- as data for the callee: the list of one's own as it stands -/
theorem view_own {α : Type} [Py α] {xs : List α} {q : Addr} {σ : L2.St} {H : Hp} {v : V} {S : AS} (ok : Ok F G L st σ H) (hL : (q, xs.map dy) ∈ L) (hS : ∀ a, S a → keys F L a) (hq : ¬ S q) (r : (dy (Ad.mk q)).rel (keys F L) H v) : (dy (PL.mk xs)).rel S H v := by
  obtain ⟨vs, h1, h2⟩ := ok.loc _ hL
  cases (show v = .ref q from r)
  exact ⟨q, vs, rfl, hq, h1, h2.to_a2.map fun v x z => Py.sub (fun a m => .inl (hS a m)) z⟩
/-- a list of one's own handed to a def that changes nothing, its value without lists -/
theorem ev_callP' {β : Type} [PyF β] {u : β} {CX : CXT} {k kk : Nat} {n : Str} {R : DL → Dyn → Prop} {ds0 : DL} (S : AS) (f : Fn X.prog X.w X.K X.mg X.base CX k n (spP R)) (hr : Room kk X.A) (hk : k ≤ kk) (hx : Passes CX X E0) (ha : EvA F X G L st (e :: es) ds0 st1)
    (hS : ∀ a, S a → keys F L a) (hv : ∀ vs σ H, Ok F G L st1 σ H → D2 (fun v d => d.rel (keys F L) H v) vs ds0 → D2 (fun v d => d.rel S H v) vs ds) (hR : R ds (dy u)) (hg : Gl X n := by rfl) (hdb : (n == ("__debug__" : Str)) = false := by decide)
    (he : starEach (e :: es) X.env = (false, eval e X.env) :: starEach es X.env := by rfl) (hpl : (backTo pos (starEach es X.env)).any (·.1) = false := by rfl) : Ev F X G L st (.Call (.Name n p) (e :: es) [] pos) (dy u) st1 :=
  ev_call f hr hk hx ha (fun vs σ H ok r Q q => ⟨S, ds, dy u, fun a h => ok.lst (hS a h), hv vs σ H ok r, hR, fun v H' e r => q v H' e.fx (ok.ex e) (PyF.frz (α := β) (show rel _ H' v u from r) : rel (keys F L) H' v u)⟩) hg hdb he hpl
end
end K5

namespace K5
open PySem PySem.Spec PyProof.Rows L2
open Py (rel)

/-! ### a for that may leave early: al, what is known while it goes on -/
section
variable {F : Fr} {X : Cx} {G : Gm} {L : Ls} {st st1 st2 st3 : Pst} {e a b c : Expr} {es : List Expr} {pos p1 p2 p3 p4 p : Pos} {d x y z : Dyn} {ds : DL} {s : Stmt} {rest : List Stmt} {D : Ends}
theorem wb_forA {tg iter : Expr} {body : List Stmt} {xs : DL} (g : Gd X) (hI : EvI F X G L st tg iter xs st1) (al : Nat → Prop) (Gk : Nat → Gm) (Lk : Nat → Ls) (Sk : Nat → Pst) (h0 : al 0) (hL : L = Lk 0) (hS : st1 = Sk 0) (hG : Less (Gk 0) G) (hK : ∀ k, keys F (Lk k) = keys F L)
    (hb : ∀ F' k x, F.le F' → xs[k]? = some x → al k → (∃ G1 is, EvG F' X (Gk k) (Lk k) (Sk k) tg x G1 is ∧
      WB F' X G1 (Lk k) (Sk k) body { D with nx := fun σ H => al (k + 1) ∧ Ok F' (Gk (k + 1)) (Lk (k + 1)) (Sk (k + 1)) σ H, ct := fun σ H => al (k + 1) ∧ Ok F' (Gk (k + 1)) (Lk (k + 1)) (Sk (k + 1)) σ H, bk := wpB X rest D }))
    (hr : al xs.length → WB F X (Gk xs.length) (Lk xs.length) (Sk xs.length) rest D) (hs : ∀ x, foldedSetIterable iter X.env x = pure x := by intro _; rfl) : WB F X G L st (.For tg iter body [] pos :: rest) D :=
  wb_cons (ps_for g.po g.calm pi_wp pg_wp pss_wp hs) fun σ H ok => hI σ H ok _ fun J H1 f1 ok1 it => by
    subst hL hS
    obtain ⟨Y, wk, hY⟩ := it
    have ok2 : Ok (F.at_ (Lk 0) H1) (Gk 0) (Lk 0) (Sk 0) σ H1 := (ok1.at_).less hG
    have le : F.le (F.at_ (Lk 0) H1) := ok1.at_le
    have eK : ∀ k, keys (F.at_ (Lk 0) H1) (Lk k) = keys F (Lk 0) := fun k => (le.keys _).trans (hK k)
    refine for_it wk (fun k σ H => al k ∧ Ok (F.at_ (Lk 0) H1) (Gk k) (Lk k) (Sk k) σ H) ⟨h0, ok2⟩ (fun k σ' H' _ ⟨_, o⟩ => ?_) (fun k x σ' H2 H3 hk ⟨ha, o⟩ y => ?_) (fun σ' H' ⟨ha, o⟩ => hr ha σ' H' (le.2 _ _ _ _ _ o))
    · have lo := o.lo
      rw [eK k] at lo
      exact ⟨lo, ok1.at_fx o⟩
    · have lo := o.lo
      rw [eK k] at lo
      obtain ⟨e3, d, hd, rd⟩ := hY k H2 x H3 _ (fun _ z => .inl z) lo (ok1.at_fx o) y
      obtain ⟨G1, is, h1, h2⟩ := hb _ k d le hd ha
      refine h1 x σ' H3 (o.ex e3) (by rw [eK k]; exact rd) _ fun σ2 o2 _ _ => ?_
      exact h2 σ2 H3 o2
/-- the keys do not tell what the lists hold -/
theorem keys_same {F : Fr} {L : Ls} {q : Addr} {ds ds' : DL} : keys F ((q, ds) :: L) = keys F ((q, ds') :: L) := by
  have h : ∀ ds ds' a, keys F ((q, ds) :: L) a → keys F ((q, ds') :: L) a := by
    rintro ds ds' a (z | ⟨x, z⟩)
    · exact .inl z
    · rcases List.mem_cons.mp z with e | e
      · cases e; exact .inr ⟨ds', List.mem_cons_self⟩
      · exact .inr ⟨x, List.mem_cons_of_mem _ e⟩
  funext a
  exact propext ⟨h _ _ a, h _ _ a⟩
/-- the end of a block -/
theorem wb_end {G' : Gm} {L' : Ls} {D : Ends} (hD : D.nx = fun σ H => Ok F G' L' st σ H) (h : Less G' G) (hL : L = L') : WB F X G L st [] D := wb_nil fun σ H ok => by
  subst hL
  rw [hD]
  exact ok.less h
theorem wb_endA {G' : Gm} {L' : Ls} {D : Ends} {A : Prop} (hD : D.nx = fun σ H => A ∧ Ok F G' L' st σ H) (ha : A) (h : Less G' G) (hL : L = L') : WB F X G L st [] D := wb_nil fun σ H ok => by
  subst hL
  rw [hD]
  exact ⟨ha, ok.less h⟩
theorem less_by {G' G : Gm} (h : G'.length = G.length) (h2 : ∀ i, i < G'.length → G'[i]? = some none ∨ G'[i]? = G[i]?) : Less G' G := ⟨h, fun i d e => by
  obtain ⟨hl, _⟩ := List.getElem?_eq_some_iff.mp e
  rcases h2 i hl with q | q
  · rw [q] at e; cases e
  · rw [← q]; exact e⟩
theorem less_refl : Less G G := ⟨rfl, fun _ _ e => e⟩
end
/-! ### what a loop goes over -/
theorem seq_at {n k : Nat} {x : Dyn} (h : ((seqI 0 n).map dy)[k]? = some x) : k < n ∧ x = dy (k : Int) := by
  obtain ⟨hl, e⟩ := List.getElem?_eq_some_iff.mp h
  rw [List.length_map, seqI_len] at hl
  refine ⟨hl, ?_⟩
  rw [List.getElem?_map, seqI_get hl] at h
  have e2 := (Option.some.inj h).symm
  rw [Int.zero_add] at e2
  exact e2
theorem seq_at' {m n k : Nat} {x : Dyn} (h : ((seqI (m : Int) n).map dy)[k]? = some x) : k < n ∧ x = dy ((m + k : Nat) : Int) := by
  obtain ⟨hl, e⟩ := List.getElem?_eq_some_iff.mp h
  rw [List.length_map, seqI_len] at hl
  refine ⟨hl, ?_⟩
  rw [List.getElem?_map, seqI_get hl] at h
  exact (Option.some.inj h).symm
theorem map_at {α : Type} {f : α → Dyn} {xs : List α} {k : Nat} {x : Dyn} (h : (xs.map f)[k]? = some x) : ∃ u, xs[k]? = some u ∧ x = f u := by
  rw [List.getElem?_map] at h
  cases e : xs[k]? with
  | none => rw [e] at h; cases h
  | some u => rw [e] at h; exact ⟨u, rfl, (Option.some.inj h).symm⟩
theorem atI_k {α : Type} {xs : List α} {k : Nat} {d : α} (h : k < xs.length) : atI xs (k : Int) = some (xs.getD k d) := by
  refine atI_nat ?_
  rw [List.getD_eq_getElem?_getD, List.getElem?_eq_getElem h]
  rfl
theorem atI_last {α : Type} {xs : List α} {u : α} (h : xs.getLast? = some u) : atI xs (-1) = some u := by
  rw [List.getLast?_eq_getElem?] at h
  obtain ⟨hl, _⟩ := List.getElem?_eq_some_iff.mp h
  have h0 : 0 < xs.length := by omega
  unfold atI
  have : ixN xs.length (-1) = some (xs.length - 1) := by
    unfold ixN
    rw [if_neg (by decide), if_pos (by omega), show (-1 + (xs.length : Int)).toNat = xs.length - 1 by omega]
  rw [this]
  exact h

/-- a block's context is as good -/
theorem gd_blk {X : Cx} {scope : Scope} {s : Shared} {H : Hp} {C : Addr} {cl : List (Str × Addr)} {fp : List Addr} (g : Gd X) : Gd (bX X scope s H C cl fp) := ⟨g.nd, g.calm, g.hu, PassesOwn.never⟩

/-! ### comprehensions over data of one kind -/
section
variable {F : Fr} {X : Cx} {G : Gm} {L : Ls} {st st1 st2 st3 : Pst} {e a b c : Expr} {es : List Expr} {pos p1 p2 p3 p4 p : Pos} {d x y z : Dyn} {ds : DL} {s : Stmt} {rest : List Stmt} {D : Ends}
theorem Ev.to {d' : Dyn} (h : Ev F X G L st e d st1) (q : d = d') : Ev F X G L st e d' st1 := by subst q; exact h
theorem EvT.to {k0 k1 : Bool} (h : EvT F X G L st e k0 st1) (q : k0 = k1) : EvT F X G L st e k1 st1 := by subst q; exact h
theorem EvI.to {tg : Expr} {xs ys : DL} (h : EvI F X G L st tg e xs st1) (q : xs = ys) : EvI F X G L st tg e ys st1 := by subst q; exact h
theorem wb_cont {X : Cx} (h : WB F X G L st rest D) : WB F X G L st [] { D with nx := wpB X rest D } := wb_nil h
/-- [f z for z in zs], no draws -/
theorem ev_lcM {ζ α : Type} [Py α] {elt tg iter : Expr} {scope : Scope} {zs : List ζ} {dz : ζ → Dyn} {f : ζ → α} {G1 : Nat → ζ → Gm} {is : List Nat} (own : List (Str × Nat)) (g : Gd X) (hI : EvI F X G L st tg iter (zs.map dz) st1) (hl : zs.length ≤ 100000) (ok : blkC X.N X.env.scope scope own = true)
    (hg : ∀ (F' : Fr) (k : Nat) (z : ζ) (D : Addr) s H C cl fp, F.le F' → zs[k]? = some z → Gd (bX X scope s H C cl fp) → EvG F' (bX X scope s H C cl fp) (wipeG G (own.map (·.2))) ((D, ((zs.map f).take k).map dy) :: L) st1 tg (dz z) (G1 k z) is)
    (he : ∀ (F' : Fr) (k : Nat) (z : ζ) (D : Addr) s H C cl fp, F.le F' → zs[k]? = some z → Gd (bX X scope s H C cl fp) → Ev F' (bX X scope s H C cl fp) (G1 k z) ((D, ((zs.map f).take k).map dy) :: L) st1 elt (dy (f z)) st1) (hi : ∀ j ∈ is, j ∈ own.map (·.2) := by decide)
    (hs : ∀ x, foldedSetIterable iter X.env x = pure x := by intro _; rfl) : Ev F X G L st (.ListComp elt [⟨tg, iter, [], 0⟩] scope pos) (dy (PL.mk (zs.map f))) st1 := by
  refine ev_lc own g hI (fun _ => st1) rfl (by rw [List.length_map, List.length_map]) (by rw [List.length_map]; exact hl) (fun F' k x y D le hx hy => ?_) (blkOk_by ok) hs
  obtain ⟨z, hz, rfl⟩ := map_at hx
  rw [List.getElem?_map, hz] at hy
  obtain rfl := (Option.some.inj hy).symm
  have gb : ∀ s H C cl fp, Gd (bX X scope s H C cl fp) := fun s H C cl fp => gd_blk g
  exact ⟨G1 k z, is, hi, fun s H C cl fp => ⟨hg F' k z D s H C cl fp le hz (gb s H C cl fp), he F' k z D s H C cl fp le hz (gb s H C cl fp)⟩⟩
/-- .. with draws: Sk k, the pool ahead of the turn k; ys, what is found -/
theorem ev_lcS {ζ α : Type} [Py α] {elt tg iter : Expr} {scope : Scope} {zs : List ζ} {dz : ζ → Dyn} {ys : List α} {G1 : Nat → ζ → Gm} {is : List Nat} (own : List (Str × Nat)) (g : Gd X) (hI : EvI F X G L st tg iter (zs.map dz) st1) (Sk : Nat → Pst) (hS : st1 = Sk 0) (hn : ys.length = zs.length) (hl : zs.length ≤ 100000) (ok : blkC X.N X.env.scope scope own = true)
    (hg : ∀ (F' : Fr) (k : Nat) (z : ζ) (D : Addr) s H C cl fp, F.le F' → zs[k]? = some z → Gd (bX X scope s H C cl fp) → EvG F' (bX X scope s H C cl fp) (wipeG G (own.map (·.2))) ((D, (ys.take k).map dy) :: L) (Sk k) tg (dz z) (G1 k z) is)
    (he : ∀ (F' : Fr) (k : Nat) (z : ζ) (y : α) (D : Addr) s H C cl fp, F.le F' → zs[k]? = some z → ys[k]? = some y → Gd (bX X scope s H C cl fp) → Ev F' (bX X scope s H C cl fp) (G1 k z) ((D, (ys.take k).map dy) :: L) (Sk k) elt (dy y) (Sk (k + 1))) (hi : ∀ j ∈ is, j ∈ own.map (·.2) := by decide)
    (hs : ∀ x, foldedSetIterable iter X.env x = pure x := by intro _; rfl) : Ev F X G L st (.ListComp elt [⟨tg, iter, [], 0⟩] scope pos) (dy (PL.mk ys)) (Sk zs.length) := by
  have h := ev_lc (ys := ys) (elt := elt) (pos := pos) own g hI Sk hS (by rw [List.length_map, hn]) (by rw [hn]; exact hl) (fun F' k x y D le hx hy => by
    obtain ⟨z, hz, rfl⟩ := map_at hx
    have gb : ∀ s H C cl fp, Gd (bX X scope s H C cl fp) := fun s H C cl fp => gd_blk g
    exact ⟨G1 k z, is, hi, fun s H C cl fp => ⟨hg F' k z D s H C cl fp le hz (gb s H C cl fp), he F' k z y D s H C cl fp le hz hy (gb s H C cl fp)⟩⟩) (blkOk_by ok) hs
  rw [List.length_map] at h
  exact h
end
theorem enum_at {α : Type} [Py α] {xs : List α} {k : Nat} {x : Dyn} (h : (xs.zipIdx.map fun z => dy ((z.2 : Int), z.1))[k]? = some x) : ∃ u, xs[k]? = some u ∧ x = dy ((k : Int), u) := by
  obtain ⟨z, hz, rfl⟩ := map_at h
  rw [List.getElem?_zipIdx] at hz
  cases e : xs[k]? with
  | none => rw [e] at hz; cases hz
  | some u =>
    rw [e, Nat.zero_add] at hz
    cases hz
    exact ⟨u, rfl, rfl⟩
theorem zip_at {α β : Type} {xs : List α} {ys : List β} {f : α × β → Dyn} {k : Nat} {x : Dyn} (h : ((xs.zip ys).map f)[k]? = some x) : ∃ u v, xs[k]? = some u ∧ ys[k]? = some v ∧ x = f (u, v) := by
  obtain ⟨⟨u, v⟩, hz, rfl⟩ := map_at h
  obtain ⟨h1, h2⟩ := List.getElem?_zip_eq_some.mp hz
  exact ⟨u, v, h1, h2, rfl⟩
/-- the body falls off its end -/
theorem wb_fallP {F F0 : Fr} {X : Cx} {G : Gm} {L : Ls} {st : Pst} {D : Ends} (hp : F0.pool = none) (le : F0.le F) (hD : D.nx = (DP F0 (dy (none : Option Int))).nx) : WB F X G L st [] D := wb_nil fun σ H ok => by
  rw [hD]
  exact ends_rtP hp (le.2 _ _ _ _ _ ok) rfl
theorem map_snoc {α : Type} [Py α] (l : List α) (x : α) : (l ++ [x]).map dy = l.map dy ++ [dy x] := by
  rw [List.map_append]
  rfl
theorem seq_len (n : Nat) : ((seqI 0 (n : Int).toNat).map dy).length = n := by
  rw [List.length_map, seqI_len]
  rfl
end K5

namespace K5

/-! ### what the program's defs find -/
abbrev Pt := Int × Int
abbrev Stk := Way × List Int
def pt (l : List Pt) (i : Nat) : Pt := l.getD i (0, 0)
def ax : Way → Int
  | .lev => 0
  | .upr => 1
def meetB (b l ob ol : Int) : Bool := decide (b < ob + ol) && decide (ob < b + l)
def rowB (ss ps : List Pt) (i j : Nat) : Bool := meetB (pt ps i).2 (pt ss i).2 (pt ps j).2 (pt ss j).2
def colB (ss ps : List Pt) (i j : Nat) : Bool := meetB (pt ps i).1 (pt ss i).1 (pt ps j).1 (pt ss j).1
def ovB (ss ps : List Pt) (i j : Nat) : Bool := rowB ss ps i j && colB ss ps i j
/-- a picture of these boxes -/
def Pic (ss ps : List Pt) : Prop := ss.length ≤ 40 ∧ ps.length = ss.length ∧ ∀ i j, i < j → j < ss.length → ovB ss ps i j = false
def behM (ps : List Pt) (s : Stk) : List Pt := match s.1 with
  | .lev => (s.2.zip ps).map fun z => (z.1, z.2.2)
  | .upr => (s.2.zip ps).map fun z => (z.2.1, z.1)
def besT (ss ps : List Pt) (w : Way) (i j : Nat) : Bool := match w with
  | .lev => rowB ss ps i j && decide ((pt ps i).1 < (pt ps j).1)
  | .upr => colB ss ps i j && decide ((pt ps i).2 < (pt ps j).2)
def besRow (ss ps : List Pt) (w : Way) (i : Nat) : Nat → List Pt
  | 0 => []
  | k + 1 => if besT ss ps w i k = true then besRow ss ps w i k ++ [((i : Int), (k : Int))] else besRow ss ps w i k
def besAcc (ss ps : List Pt) (w : Way) : Nat → List Pt
  | 0 => []
  | k + 1 => besAcc ss ps w k ++ besRow ss ps w k ss.length
def besM (ss ps : List Pt) (w : Way) : List Pt := besAcc ss ps w ss.length
def gapM (ss ps : List Pt) (w : Way) (i j : Nat) : Int := pick (pt ps j) (ax w) - pick (pt ps i) (ax w) - pick (pt ss i) (ax w)
def letM (ss ps : List Pt) (s : Stk) : Bool := (besM ss ps s.1).all fun p => decide (0 ≤ gapM ss (behM ps s) s.1 p.1.toNat p.2.toNat)
/-- the pictures through a script, the first one p -/
def picsM (ps : List Pt) : List Stk → List (List Pt)
  | [] => [ps]
  | s :: r => ps :: picsM (behM ps s) r
def endM (ps : List Pt) : List Stk → List Pt
  | [] => ps
  | s :: r => endM (behM ps s) r
/-- the first stroke that is not free -/
def runM (ss ps : List Pt) : List Stk → Option Nat
  | [] => none
  | s :: r => if letM ss ps s = true then (runM ss (behM ps s) r).map (· + 1) else some 0
def goalsM (ps : List Pt) (w : Way) : List Int := ps.map fun p => pick p (ax w)
/-- strokes for boxes of this number -/
def Form (n : Nat) (sc : List Stk) : Prop := sc.length ≤ 200 ∧ ∀ s ∈ sc, s.2.length = n
def fwdM (ps : List Pt) : List Stk → List Stk
  | [] => []
  | s :: r => (s.1, goalsM ps s.1) :: fwdM (behM ps s) r
def backM (ps : List Pt) (sc : List Stk) : List Stk := (fwdM ps sc).reverse
/-- up to the first stroke that is not free -/
def cutO (sc : List Stk) : Option Nat → List Stk
  | none => sc
  | some n => sc.take n

theorem behM_len {ps : List Pt} {s : Stk} (h : s.2.length = ps.length) : (behM ps s).length = ps.length := by
  unfold behM
  cases s.1 <;> simp [h]
theorem picsM_len : ∀ (ps : List Pt) (sc : List Stk), (picsM ps sc).length = sc.length + 1
  | _, [] => rfl
  | ps, s :: r => by
    show (picsM (behM ps s) r).length + 1 = _
    rw [picsM_len]
    rfl
theorem picsM_last : ∀ (ps : List Pt) (sc : List Stk), (picsM ps sc).getLast? = some (endM ps sc)
  | _, [] => rfl
  | ps, s :: r => by
    have h := picsM_last (behM ps s) r
    show (ps :: picsM (behM ps s) r).getLast? = some (endM (behM ps s) r)
    have n : picsM (behM ps s) r ≠ [] := fun z => by
      have := picsM_len (behM ps s) r
      rw [z] at this
      cases this
    rw [List.getLast?_cons, h]
    rfl
theorem picsM_get : ∀ (ps : List Pt) (sc : List Stk) (k : Nat), k ≤ sc.length → (picsM ps sc)[k]? = some (endM ps (sc.take k))
  | _, [], k, h => by
    have : k = 0 := by simpa using h
    subst this
    rfl
  | ps, s :: r, 0, _ => rfl
  | ps, s :: r, k + 1, h => by
    show (picsM (behM ps s) r)[k]? = _
    rw [picsM_get _ r k (by simpa using h)]
    rfl
theorem picsM_take : ∀ (ps : List Pt) (sc : List Stk) (k : Nat), k ≤ sc.length → picsM ps (sc.take k) = (picsM ps sc).take (k + 1)
  | _, [], k, h => by
    have : k = 0 := by simpa using h
    subst this
    rfl
  | ps, s :: r, 0, _ => by cases r <;> rfl
  | ps, s :: r, k + 1, h => by
    show ps :: picsM (behM ps s) (r.take k) = ps :: (picsM (behM ps s) r).take (k + 1)
    rw [picsM_take _ r k (by simpa using h)]
theorem endM_take {ps : List Pt} : ∀ {sc : List Stk} {k : Nat} {s : Stk}, sc[k]? = some s → endM ps (sc.take (k + 1)) = behM (endM ps (sc.take k)) s := by
  intro sc
  induction sc generalizing ps with
  | nil => intro k s h; cases h
  | cons u r ih =>
    intro k s h
    cases k with
    | zero => cases h; rfl
    | succ k =>
      show endM (behM ps u) (r.take (k + 1)) = behM (endM (behM ps u) (r.take k)) s
      exact ih h
theorem endM_len {ps : List Pt} : ∀ {sc : List Stk}, (∀ s ∈ sc, s.2.length = ps.length) → (endM ps sc).length = ps.length := by
  intro sc
  induction sc generalizing ps with
  | nil => intro _; rfl
  | cons u r ih =>
    intro h
    have e := behM_len (h u List.mem_cons_self)
    exact (ih fun s hs => (h s (List.mem_cons_of_mem _ hs)).trans e.symm).trans e
/-- behind k free strokes -/
theorem runM_split {ss : List Pt} : ∀ {ps : List Pt} {sc : List Stk} {m : Option Nat}, runM ss ps sc = m → (∀ k s, sc[k]? = some s → (m = none ∨ ∃ n, m = some n ∧ k < n) → letM ss (endM ps (sc.take k)) s = true) ∧ ∀ n, m = some n → ∃ s, sc[n]? = some s ∧ letM ss (endM ps (sc.take n)) s = false := by
  intro ps sc
  induction sc generalizing ps with
  | nil =>
    intro m h
    refine ⟨fun k s e => (by cases e), fun n e => ?_⟩
    rw [e] at h
    cases h
  | cons u r ih =>
    intro m h
    unfold runM at h
    by_cases hu : letM ss ps u = true
    · rw [if_pos hu] at h
      cases hr : runM ss (behM ps u) r with
      | none =>
        rw [hr] at h
        subst h
        obtain ⟨h1, h2⟩ := ih hr
        refine ⟨fun k s e q => ?_, fun n e => (by cases e)⟩
        cases k with
        | zero => cases e; exact hu
        | succ k => exact h1 k s e (.inl rfl)
      | some j =>
        rw [hr] at h
        have h : some (j + 1) = m := h
        subst h
        obtain ⟨h1, h2⟩ := ih hr
        refine ⟨fun k s e q => ?_, fun n e => ?_⟩
        · cases k with
          | zero => cases e; exact hu
          | succ k =>
            refine h1 k s e (.inr ⟨j, rfl, ?_⟩)
            rcases q with q | ⟨n, q, hk⟩
            · cases q
            · have := Option.some.inj q
              omega
        · cases e
          obtain ⟨s, h3, h4⟩ := h2 j rfl
          exact ⟨s, h3, h4⟩
    · rw [if_neg hu] at h
      subst h
      refine ⟨fun k s e q => ?_, fun n e => ?_⟩
      · rcases q with q | ⟨n, q, hk⟩
        · cases q
        · have := Option.some.inj q
          omega
      · cases e
        exact ⟨u, rfl, by
          show letM ss ps u = false
          simpa using hu⟩
theorem besRow_len (ss ps : List Pt) (w : Way) (i : Nat) : ∀ k, (besRow ss ps w i k).length ≤ k
  | 0 => Nat.le_refl _
  | k + 1 => by
    have h := besRow_len ss ps w i k
    unfold besRow
    split
    · rw [List.length_append]
      exact Nat.succ_le_succ h
    · exact Nat.le_succ_of_le h
theorem besAcc_len (ss ps : List Pt) (w : Way) : ∀ k, (besAcc ss ps w k).length ≤ k * ss.length
  | 0 => by simp [besAcc]
  | k + 1 => by
    unfold besAcc
    rw [List.length_append, Nat.succ_mul]
    exact Nat.add_le_add (besAcc_len ss ps w k) (besRow_len ss ps w k ss.length)
theorem besRow_mem {ss ps : List Pt} {w : Way} {i : Nat} {p : Pt} : ∀ {k}, p ∈ besRow ss ps w i k ↔ ∃ j, j < k ∧ besT ss ps w i j = true ∧ p = ((i : Int), (j : Int))
  | 0 => by simp [besRow]
  | k + 1 => by
    unfold besRow
    by_cases h : besT ss ps w i k = true
    · rw [if_pos h, List.mem_append, List.mem_singleton, besRow_mem (k := k)]
      refine ⟨?_, ?_⟩
      · rintro (⟨j, h1, h2, h3⟩ | rfl)
        · exact ⟨j, by omega, h2, h3⟩
        · exact ⟨k, by omega, h, rfl⟩
      · rintro ⟨j, h1, h2, h3⟩
        by_cases e : j = k
        · subst e; exact .inr h3
        · exact .inl ⟨j, by omega, h2, h3⟩
    · rw [if_neg h, besRow_mem (k := k)]
      refine ⟨fun ⟨j, h1, h2, h3⟩ => ⟨j, by omega, h2, h3⟩, fun ⟨j, h1, h2, h3⟩ => ⟨j, ?_, h2, h3⟩⟩
      by_cases e : j = k
      · subst e; exact absurd h2 h
      · omega
theorem besAcc_mem {ss ps : List Pt} {w : Way} {p : Pt} : ∀ {k}, p ∈ besAcc ss ps w k ↔ ∃ i j, i < k ∧ j < ss.length ∧ besT ss ps w i j = true ∧ p = ((i : Int), (j : Int))
  | 0 => by simp [besAcc]
  | k + 1 => by
    unfold besAcc
    rw [List.mem_append, besAcc_mem (k := k), besRow_mem]
    refine ⟨?_, ?_⟩
    · rintro (⟨i, j, h1, h⟩ | ⟨j, h1, h2, h3⟩)
      · exact ⟨i, j, by omega, h⟩
      · exact ⟨k, j, by omega, h1, h2, h3⟩
    · rintro ⟨i, j, h1, h⟩
      by_cases e : i = k
      · subst e; exact .inr ⟨j, h⟩
      · exact .inl ⟨i, j, by omega, h⟩
theorem take_snoc {α : Type} : ∀ {l : List α} {k : Nat} {s : α}, l[k]? = some s → l.take (k + 1) = l.take k ++ [s]
  | l, k, s, h => by rw [List.take_add_one, h]; rfl
theorem picsM_snoc (s : Stk) : ∀ (ps : List Pt) (l : List Stk), picsM ps (l ++ [s]) = picsM ps l ++ [behM (endM ps l) s]
  | _, [] => rfl
  | ps, u :: r => by
    show ps :: picsM (behM ps u) (r ++ [s]) = ps :: (picsM (behM ps u) r ++ [behM (endM (behM ps u) r) s])
    rw [picsM_snoc s _ r]
theorem fwdM_snoc (s : Stk) : ∀ (ps : List Pt) (l : List Stk), fwdM ps (l ++ [s]) = fwdM ps l ++ [(s.1, goalsM (endM ps l) s.1)]
  | _, [] => rfl
  | ps, u :: r => by
    show _ :: fwdM (behM ps u) (r ++ [s]) = _ :: (fwdM (behM ps u) r ++ [(s.1, goalsM (endM (behM ps u) r) s.1)])
    rw [fwdM_snoc s _ r]
theorem fwdM_len : ∀ (ps : List Pt) (l : List Stk), (fwdM ps l).length = l.length
  | _, [] => rfl
  | ps, u :: r => by
    show (fwdM (behM ps u) r).length + 1 = _
    rw [fwdM_len]
    rfl
/-- the first stroke that is not free is at k -/
theorem runM_first {ss ps : List Pt} {sc : List Stk} {k : Nat} {s : Stk} (h : ∀ j u, j < k → sc[j]? = some u → letM ss (endM ps (sc.take j)) u = true) (hs : sc[k]? = some s) (hf : letM ss (endM ps (sc.take k)) s = false) : runM ss ps sc = some k := by
  obtain ⟨h1, h2⟩ := runM_split (rfl : runM ss ps sc = runM ss ps sc)
  cases e : runM ss ps sc with
  | none =>
    have q := h1 k s hs (.inl e)
    rw [hf] at q
    cases q
  | some n =>
    obtain ⟨u, g1, g2⟩ := h2 n e
    rcases Nat.lt_trichotomy n k with q | q | q
    · have z := h n u q g1
      rw [g2] at z
      cases z
    · rw [q]
    · have z := h1 k s hs (.inr ⟨n, e, q⟩)
      rw [hf] at z
      cases z
theorem runM_none {ss ps : List Pt} {sc : List Stk} (h : ∀ j u, j < sc.length → sc[j]? = some u → letM ss (endM ps (sc.take j)) u = true) : runM ss ps sc = none := by
  cases e : runM ss ps sc with
  | none => rfl
  | some n =>
    obtain ⟨u, g1, g2⟩ := (runM_split e).2 n rfl
    have z := h n u (List.getElem?_eq_some_iff.mp g1).1 g1
    rw [g2] at z
    cases z
end K5

namespace K5
open PySem PySem.Spec PyProof.Rows L2
open Py (rel)
/-- the i-th statement of the text -/
def top (i : Nat) : Stmt := PySem.Challenge.pw_fourstrokes_k05_whole_scripts_led_and_ba.main.body.getD i (.Pass ⟨0, 0, 0, 0⟩)
/-- what the names of built-in things and the text's numbers and words are -/
structure Bn (mg : Str → Option Value) : Prop where
  len : mg "len" = none
  isi : mg "isinstance" = none
  int : mg "int" = none
  bool : mg "bool" = none
  str : mg "str" = none
  tup : mg "tuple" = none
  lst : mg "list" = none
  all : mg "all" = none
  sum : mg "sum" = none
  max : mg "max" = none
  abs : mg "abs" = none
  rng : mg "range" = none
  enu : mg "enumerate" = none
  zip : mg "zip" = none
  rep : mg "repr" = none
  lev : ∃ t, mg "LEVEL" = some (.str Way.lev.s t)
  upr : ∃ t, mg "UPRIGHT" = some (.str Way.upr.s t)
  mxB : ∃ t, mg "MOST_BOXES" = some (.int 40 t)
  mxS : ∃ t, mg "MOST_SIZE" = some (.int 1000 t)
  mxK : ∃ t, mg "MOST_STROKES" = some (.int 200 t)
/-- the class Boxes in the text -/
structure Bc (K : PySem.W.Frag) (C : Addr) : Prop where
  cls : Cls K C
  many : NoAttr K C "many"
  sizes : NoAttr K C "sizes"
theorem blk_by {X : Cx} {scope : Scope} {own : List (Str × Nat)} (N : List Str) (st : Stmt) (h1 : X.N = N) (h2 : X.env.scope = defScope st) (h : blkC N (defScope st) scope own = true) : blkC X.N X.env.scope scope own = true := by
  rw [h1, h2]
  exact h
theorem all_map_true {α : Type} {xs : List α} : (xs.map fun _ => true).all id = true := by
  induction xs with
  | nil => rfl
  | cons x xs ih => rw [List.map_cons, List.all_cons, ih]; rfl
section
variable {P : Program} {w : World} {K : PySem.W.Frag} {mg : Str → Option Value} {base : Heap} {C : Addr}
def R_isInteger (K : PySem.W.Frag) : DL → Dyn → Prop := fun ds d => ∃ (i : Int), (True) ∧ ds = [dy i] ∧ d = dy true
theorem S7 : FnScope ["thing"] ["thing"] (defScope (top 7)) := ⟨rfl, rfl, rfl, by decide +kernel, rfl, by decide +kernel, by decide +kernel⟩
theorem ok_isInteger (B : Bn mg)   (D : Df K mg "is_integer" (top 7) ["thing"]) : Fn P w K mg base CX0 1 "is_integer" (spP (R_isInteger K)) := by
  refine fnP (k := 0) D S7 (fun ds d ⟨_, _, e, _⟩ => by subst e; rfl) fun f cdv A outer s H E ds d hr g hR S0 => ?_
  obtain ⟨i, hp, rfl, rfl⟩ := hR
  exact wb_retP rfl (.refl _) rfl (ev_and (p := true) (q := true) (ev_isInt B.isi B.int (ev_var 0)) fun _ => ev_not (ev_isBoolI B.isi B.bool (ev_var 0)))
def R_isWithin (K : PySem.W.Frag) : DL → Dyn → Prop := fun ds d => ∃ (i a b : Int), (True) ∧ ds = [dy i, dy a, dy b] ∧ d = dy (decide (a ≤ i) && decide (i ≤ b))
theorem S8 : FnScope ["thing", "least", "most"] ["thing", "least", "most"] (defScope (top 8)) := ⟨rfl, rfl, rfl, by decide +kernel, rfl, by decide +kernel, by decide +kernel⟩
theorem ok_isWithin (B : Bn mg)  (h_isInteger : Fn P w K mg base CX0 1 "is_integer" (spP (R_isInteger K))) (D : Df K mg "is_within" (top 8) ["thing", "least", "most"]) : Fn P w K mg base CX0 2 "is_within" (spP (R_isWithin K)) := by
  refine fnP (k := 1) D S8 (fun ds d ⟨_, _, _, _, e, _⟩ => by subst e; rfl) fun f cdv A outer s H E ds d hr g hR S0 => ?_
  obtain ⟨i, a, b, hp, rfl, rfl⟩ := hR
  exact wb_retP rfl (.refl _) rfl (ev_and (p := true) (ev_callP h_isInteger hr (by decide) pass0 (eva_cons (ev_var 0) eva_nil) ⟨i, trivial, rfl, rfl⟩) fun _ => ev_lele (ev_var 1) (ev_var 0) (ev_var 2))
def R_isPair (K : PySem.W.Frag) : DL → Dyn → Prop := fun ds d => ∃ (u : Tn 2), (True) ∧ ds = [dy u] ∧ d = dy true
theorem S9 : FnScope ["thing"] ["thing"] (defScope (top 9)) := ⟨rfl, rfl, rfl, by decide +kernel, rfl, by decide +kernel, by decide +kernel⟩
theorem ok_isPair (B : Bn mg)   (D : Df K mg "is_pair" (top 9) ["thing"]) : Fn P w K mg base CX0 1 "is_pair" (spP (R_isPair K)) := by
  refine fnP (k := 0) D S9 (fun ds d ⟨_, _, e, _⟩ => by subst e; rfl) fun f cdv A outer s H E ds d hr g hR S0 => ?_
  obtain ⟨u, hp, rfl, rfl⟩ := hR
  exact wb_retP rfl (.refl _) rfl (ev_and (p := true) (q := true) (ev_isTup B.isi B.tup (ev_var 0)) fun _ => (ev_eqI (ev_lenT B.len (ev_var 0)) ev_int).to rfl)
def R_isSized (K : PySem.W.Frag) : DL → Dyn → Prop := fun ds d => ∃ (n : Nat) (a b : Int), (True) ∧ ds = [dy (Tn.mk (n := n)), dy a, dy b] ∧ d = dy (decide (a ≤ (n : Int)) && decide ((n : Int) ≤ b))
theorem S10 : FnScope ["thing", "least", "most"] ["thing", "least", "most"] (defScope (top 10)) := ⟨rfl, rfl, rfl, by decide +kernel, rfl, by decide +kernel, by decide +kernel⟩
theorem ok_isSized (B : Bn mg)   (D : Df K mg "is_sized" (top 10) ["thing", "least", "most"]) : Fn P w K mg base CX0 1 "is_sized" (spP (R_isSized K)) := by
  refine fnP (k := 0) D S10 (fun ds d ⟨_, _, _, _, e, _⟩ => by subst e; rfl) fun f cdv A outer s H E ds d hr g hR S0 => ?_
  obtain ⟨n, a, b, hp, rfl, rfl⟩ := hR
  exact wb_retP rfl (.refl _) rfl (ev_and (p := true) (ev_isTup B.isi B.tup (ev_var 0)) fun _ => ev_lele (ev_var 1) (ev_lenT B.len (ev_var 0)) (ev_var 2))
def R_areIntegers (K : PySem.W.Frag) : DL → Dyn → Prop := fun ds d => ∃ (xs : List Int) (m : Int), (m = (xs.length : Int) ∧ xs.length ≤ 1000) ∧ ds = [dy xs, dy m] ∧ d = dy true
theorem S11 : FnScope ["thing", "many", "item"] ["thing", "many"] (defScope (top 11)) := ⟨rfl, rfl, rfl, by decide +kernel, rfl, by decide +kernel, by decide +kernel⟩
theorem ok_areIntegers (B : Bn mg)  (h_isSized : Fn P w K mg base CX0 1 "is_sized" (spP (R_isSized K))) (h_isInteger : Fn P w K mg base CX0 1 "is_integer" (spP (R_isInteger K))) (D : Df K mg "are_integers" (top 11) ["thing", "many"]) : Fn P w K mg base CX0 2 "are_integers" (spP (R_areIntegers K)) := by
  refine fnP (k := 1) D S11 (fun ds d ⟨_, _, _, e, _⟩ => by subst e; rfl) fun f cdv A outer s H E ds d hr g hR S0 => ?_
  obtain ⟨xs, m, hp, rfl, rfl⟩ := hR
  obtain ⟨rfl, hl⟩ := hp
  refine wb_retP rfl (.refl _) rfl ((ev_and (p := decide ((xs.length : Int) ≤ (xs.length : Int)) && decide ((xs.length : Int) ≤ (xs.length : Int))) (ev_callP h_isSized hr (by decide) pass0 (eva_cons ((ev_var 0).toT) (eva_cons (ev_var 1) (eva_cons (ev_var 1) eva_nil))) ⟨xs.length, _, _, trivial, rfl, rfl⟩) fun _ =>
    ev_all g B.all (ev_lcM (f := fun _ => true) [("item", 2)] g (evi_tup (ev_var 0)) (by omega) (blk_by ["thing", "many", "item"] (top 11) rfl rfl (by decide +kernel)) (fun F' k z D s H C cl fp le hz gb => eg_name gb 2) (fun F' k z D s H C cl fp le hz gb => ev_callP h_isInteger hr (by decide) pass0 (eva_cons (ev_var 2) eva_nil) ⟨z, trivial, rfl, rfl⟩))).to ?_)
  rw [decide_eq_true (Int.le_refl _), all_map_true]
  rfl
def R_isSize (K : PySem.W.Frag) : DL → Dyn → Prop := fun ds d => ∃ (u : Pt), ((1 ≤ u.1 ∧ u.1 ≤ 1000) ∧ 1 ≤ u.2 ∧ u.2 ≤ 1000) ∧ ds = [dy u] ∧ d = dy true
theorem S15 : FnScope ["thing"] ["thing"] (defScope (top 15)) := ⟨rfl, rfl, rfl, by decide +kernel, rfl, by decide +kernel, by decide +kernel⟩
theorem ok_isSize (B : Bn mg)  (h_isPair : Fn P w K mg base CX0 1 "is_pair" (spP (R_isPair K))) (h_isWithin : Fn P w K mg base CX0 2 "is_within" (spP (R_isWithin K))) (D : Df K mg "is_size" (top 15) ["thing"]) : Fn P w K mg base CX0 3 "is_size" (spP (R_isSize K)) := by
  refine fnP (k := 2) D S15 (fun ds d ⟨_, _, e, _⟩ => by subst e; rfl) fun f cdv A outer s H E ds d hr g hR S0 => ?_
  obtain ⟨u, hp, rfl, rfl⟩ := hR
  obtain ⟨⟨a1, a2⟩, a3, a4⟩ := hp
  obtain ⟨t, hM⟩ := B.mxS
  exact wb_retP rfl (.refl _) rfl ((ev_and3 (p := true) (ev_callP h_isPair hr (by decide) pass0 (eva_cons ((ev_var 0).toT2) eva_nil) ⟨⟨⟩, trivial, rfl, rfl⟩)
    (fun _ => ev_callP h_isWithin hr (by decide) pass0 (eva_cons (ev_fst (ev_var 0) ev_int) (eva_cons ev_int (eva_cons (ev_globI hM) eva_nil))) ⟨u.1, 1, 1000, trivial, rfl, rfl⟩)
    (fun _ _ => ev_callP h_isWithin hr (by decide) pass0 (eva_cons (ev_snd (ev_var 0) ev_int) (eva_cons ev_int (eva_cons (ev_globI hM) eva_nil))) ⟨u.2, 1, 1000, trivial, rfl, rfl⟩)).to (by
      rw [decide_eq_true a1, decide_eq_true a2, decide_eq_true a3, decide_eq_true a4]; rfl))
def R_arePlaces (K : PySem.W.Frag) : DL → Dyn → Prop := fun ds d => ∃ (C : Addr) (ss ps : List Pt), (Bc K C ∧ ps.length = ss.length ∧ ss.length ≤ 1000) ∧ ds = [dy (Bx.mk (C := C) ss), dy ps] ∧ d = dy true
theorem S17 : FnScope ["boxes", "thing", "place"] ["boxes", "thing"] (defScope (top 17)) := ⟨rfl, rfl, rfl, by decide +kernel, rfl, by decide +kernel, by decide +kernel⟩
theorem ok_arePlaces (B : Bn mg)  (h_isSized : Fn P w K mg base CX0 1 "is_sized" (spP (R_isSized K))) (h_areIntegers : Fn P w K mg base CX0 2 "are_integers" (spP (R_areIntegers K))) (D : Df K mg "are_places" (top 17) ["boxes", "thing"]) : Fn P w K mg base CX0 3 "are_places" (spP (R_arePlaces K)) := by
  refine fnP (k := 2) D S17 (fun ds d ⟨_, _, _, _, e, _⟩ => by subst e; rfl) fun f cdv A outer s H E ds d hr g hR S0 => ?_
  obtain ⟨C, ss, ps, hp, rfl, rfl⟩ := hR
  obtain ⟨bc, hl, hm⟩ := hp
  refine wb_retP rfl (.refl _) rfl ((ev_and (p := decide ((ss.length : Int) ≤ (ps.length : Int)) && decide ((ps.length : Int) ≤ (ss.length : Int))) (ev_callP h_isSized hr (by decide) pass0 (eva_cons ((ev_var 1).toT) (eva_cons (ev_many bc.cls bc.many (ev_var 0)) (eva_cons (ev_many bc.cls bc.many (ev_var 0)) eva_nil))) ⟨ps.length, _, _, trivial, rfl, rfl⟩) fun _ =>
    ev_all g B.all (ev_lcM (f := fun _ => true) [("place", 2)] g (evi_tup (ev_var 1)) (by omega) (blk_by ["boxes", "thing", "place"] (top 17) rfl rfl (by decide +kernel)) (fun F' k z D s H C cl fp le hz gb => eg_name gb 2) (fun F' k z D s H C cl fp le hz gb => ev_callP h_areIntegers hr (by decide) pass0 (eva_cons ((ev_var 2 (d := dy z)).toL) (eva_cons ev_int eva_nil)) ⟨[z.1, z.2], 2, ⟨rfl, by show 2 ≤ 1000; decide⟩, rfl, rfl⟩))).to ?_)
  rw [hl, decide_eq_true (Int.le_refl _), all_map_true]
  rfl
def R_meet (K : PySem.W.Frag) : DL → Dyn → Prop := fun ds d => ∃ (b l ob ol : Int), (True) ∧ ds = [dy b, dy l, dy ob, dy ol] ∧ d = dy (meetB b l ob ol)
theorem S18 : FnScope ["begin", "length", "other_begin", "other_length"] ["begin", "length", "other_begin", "other_length"] (defScope (top 18)) := ⟨rfl, rfl, rfl, by decide +kernel, rfl, by decide +kernel, by decide +kernel⟩
theorem ok_meet (B : Bn mg)   (D : Df K mg "meet" (top 18) ["begin", "length", "other_begin", "other_length"]) : Fn P w K mg base CX0 1 "meet" (spP (R_meet K)) := by
  refine fnP (k := 0) D S18 (fun ds d ⟨_, _, _, _, _, e, _⟩ => by subst e; rfl) fun f cdv A outer s H E ds d hr g hR S0 => ?_
  obtain ⟨b, l, ob, ol, hp, rfl, rfl⟩ := hR
  exact wb_retP rfl (.refl _) rfl (ev_and (ev_lt (ev_var 0) (ev_add (ev_var 2) (ev_var 3))) fun _ => ev_lt (ev_var 2) (ev_add (ev_var 0) (ev_var 1)))
def R_inRow (K : PySem.W.Frag) : DL → Dyn → Prop := fun ds d => ∃ (C : Addr) (ss ps : List Pt) (i j : Nat), (Bc K C ∧ ps.length = ss.length ∧ i < ss.length ∧ j < ss.length) ∧ ds = [dy (Bx.mk (C := C) ss), dy ps, dy (i : Int), dy (j : Int)] ∧ d = dy (rowB ss ps i j)
theorem S19 : FnScope ["boxes", "places", "one", "other"] ["boxes", "places", "one", "other"] (defScope (top 19)) := ⟨rfl, rfl, rfl, by decide +kernel, rfl, by decide +kernel, by decide +kernel⟩
theorem ok_inRow (B : Bn mg)  (h_meet : Fn P w K mg base CX0 1 "meet" (spP (R_meet K))) (D : Df K mg "in_row" (top 19) ["boxes", "places", "one", "other"]) : Fn P w K mg base CX0 2 "in_row" (spP (R_inRow K)) := by
  refine fnP (k := 1) D S19 (fun ds d ⟨_, _, _, _, _, _, e, _⟩ => by subst e; rfl) fun f cdv A outer s H E ds d hr g hR S0 => ?_
  obtain ⟨C, ss, ps, i, j, hp, rfl, rfl⟩ := hR
  obtain ⟨bc, hl, hi, hj⟩ := hp
  exact wb_retP rfl (.refl _) rfl (ev_callP h_meet hr (by decide) pass0 (eva_cons (ev_snd (ev_ixT (ev_var 1) (ev_var 2) (atI_k (d := (0, 0)) (by omega))) ev_int) (eva_cons (ev_snd (ev_ixT (ev_sizes bc.cls bc.sizes (ev_var 0)) (ev_var 2) (atI_k (d := (0, 0)) hi)) ev_int)
    (eva_cons (ev_snd (ev_ixT (ev_var 1) (ev_var 3) (atI_k (d := (0, 0)) (by omega))) ev_int) (eva_cons (ev_snd (ev_ixT (ev_sizes bc.cls bc.sizes (ev_var 0)) (ev_var 3) (atI_k (d := (0, 0)) hj)) ev_int) eva_nil)))) ⟨_, _, _, _, trivial, rfl, rfl⟩)
def R_inColumn (K : PySem.W.Frag) : DL → Dyn → Prop := fun ds d => ∃ (C : Addr) (ss ps : List Pt) (i j : Nat), (Bc K C ∧ ps.length = ss.length ∧ i < ss.length ∧ j < ss.length) ∧ ds = [dy (Bx.mk (C := C) ss), dy ps, dy (i : Int), dy (j : Int)] ∧ d = dy (colB ss ps i j)
theorem S20 : FnScope ["boxes", "places", "one", "other"] ["boxes", "places", "one", "other"] (defScope (top 20)) := ⟨rfl, rfl, rfl, by decide +kernel, rfl, by decide +kernel, by decide +kernel⟩
theorem ok_inColumn (B : Bn mg)  (h_meet : Fn P w K mg base CX0 1 "meet" (spP (R_meet K))) (D : Df K mg "in_column" (top 20) ["boxes", "places", "one", "other"]) : Fn P w K mg base CX0 2 "in_column" (spP (R_inColumn K)) := by
  refine fnP (k := 1) D S20 (fun ds d ⟨_, _, _, _, _, _, e, _⟩ => by subst e; rfl) fun f cdv A outer s H E ds d hr g hR S0 => ?_
  obtain ⟨C, ss, ps, i, j, hp, rfl, rfl⟩ := hR
  obtain ⟨bc, hl, hi, hj⟩ := hp
  exact wb_retP rfl (.refl _) rfl (ev_callP h_meet hr (by decide) pass0 (eva_cons (ev_fst (ev_ixT (ev_var 1) (ev_var 2) (atI_k (d := (0, 0)) (by omega))) ev_int) (eva_cons (ev_fst (ev_ixT (ev_sizes bc.cls bc.sizes (ev_var 0)) (ev_var 2) (atI_k (d := (0, 0)) hi)) ev_int)
    (eva_cons (ev_fst (ev_ixT (ev_var 1) (ev_var 3) (atI_k (d := (0, 0)) (by omega))) ev_int) (eva_cons (ev_fst (ev_ixT (ev_sizes bc.cls bc.sizes (ev_var 0)) (ev_var 3) (atI_k (d := (0, 0)) hj)) ev_int) eva_nil)))) ⟨_, _, _, _, trivial, rfl, rfl⟩)
def R_overlap (K : PySem.W.Frag) : DL → Dyn → Prop := fun ds d => ∃ (C : Addr) (ss ps : List Pt) (i j : Nat), (Bc K C ∧ ps.length = ss.length ∧ i < ss.length ∧ j < ss.length) ∧ ds = [dy (Bx.mk (C := C) ss), dy ps, dy (i : Int), dy (j : Int)] ∧ d = dy (ovB ss ps i j)
theorem S21 : FnScope ["boxes", "places", "one", "other"] ["boxes", "places", "one", "other"] (defScope (top 21)) := ⟨rfl, rfl, rfl, by decide +kernel, rfl, by decide +kernel, by decide +kernel⟩
theorem ok_overlap (B : Bn mg)  (h_inRow : Fn P w K mg base CX0 2 "in_row" (spP (R_inRow K))) (h_inColumn : Fn P w K mg base CX0 2 "in_column" (spP (R_inColumn K))) (D : Df K mg "overlap" (top 21) ["boxes", "places", "one", "other"]) : Fn P w K mg base CX0 3 "overlap" (spP (R_overlap K)) := by
  refine fnP (k := 2) D S21 (fun ds d ⟨_, _, _, _, _, _, e, _⟩ => by subst e; rfl) fun f cdv A outer s H E ds d hr g hR S0 => ?_
  obtain ⟨C, ss, ps, i, j, hp, rfl, rfl⟩ := hR
  exact wb_retP rfl (.refl _) rfl (ev_and (ev_callP h_inRow hr (by decide) pass0 (eva_cons (ev_var 0) (eva_cons (ev_var 1) (eva_cons (ev_var 2) (eva_cons (ev_var 3) eva_nil)))) ⟨C, ss, ps, i, j, hp, rfl, rfl⟩) fun _ => ev_callP h_inColumn hr (by decide) pass0 (eva_cons (ev_var 0) (eva_cons (ev_var 1) (eva_cons (ev_var 2) (eva_cons (ev_var 3) eva_nil)))) ⟨C, ss, ps, i, j, hp, rfl, rfl⟩)
def R_allOverlaps (K : PySem.W.Frag) : DL → Dyn → Prop := fun ds d => ∃ (C : Addr) (ss ps : List Pt), (Bc K C ∧ Pic ss ps) ∧ ds = [dy (Bx.mk (C := C) ss), dy ps] ∧ d = dy (PL.mk ([] : List Pt))
theorem S22 : FnScope ["boxes", "places", "found", "one", "other"] ["boxes", "places"] (defScope (top 22)) := ⟨rfl, rfl, rfl, by decide +kernel, rfl, by decide +kernel, by decide +kernel⟩
theorem ok_allOverlaps (B : Bn mg)  (h_overlap : Fn P w K mg base CX0 3 "overlap" (spP (R_overlap K))) (D : Df K mg "all_overlaps" (top 22) ["boxes", "places"]) : Fn P w K mg base CX0 4 "all_overlaps" (spP (R_allOverlaps K)) := by
  refine fnP (k := 3) D S22 (fun ds d ⟨_, _, _, _, e, _⟩ => by subst e; rfl) fun f cdv A outer s H E ds d hr g hR S0 => ?_
  obtain ⟨C, ss, ps, hp, rfl, rfl⟩ := hR
  obtain ⟨bc, hl, hm, ho⟩ := hp
  refine wb_new g 2 eva_nil (by decide) fun q => ?_
  refine wb_for g (evi_range (n := (ss.length : Int)) B.rng ⟨by omega, by omega⟩ (ev_many (bx := Bx.mk (C := C) ss) bc.cls bc.many (ev_var 0))) (fun _ => [some (dy (Bx.mk (C := C) ss)), some (dy ps), some (dy (Ad.mk q)), none, none]) (fun _ => [(q, [])]) (fun _ => st0) rfl rfl (.refl _) (fun _ => rfl) (fun F' k x le hx => ?_) ?_
  · obtain ⟨hk, rfl⟩ := seq_at hx
    have hk : k < ss.length := by omega
    refine ⟨_, _, eg_name g 3, wb_extend (ys := ([] : List Pt)) (st1 := st0) (ev_var 2) ?_ (by decide) ?_⟩
    · refine ev_lcIf [("other", 4)] g (evi_range2 (m := ((k + 1 : Nat) : Int)) (n := (ss.length : Int)) B.rng (by omega) (Ev.to (d := dy ((k : Int) + 1)) (ev_add (ev_var 3) ev_int) rfl) (ev_many (bx := Bx.mk (C := C) ss) bc.cls bc.many (ev_var 0))) (fun _ => ([] : List Pt)) (fun _ => false) (fun _ => (0, 0)) rfl (fun _ => rfl) (by rw [List.length_map, seqI_len]; omega) (fun F2 j x D le2 hx2 => ?_) (blkOk_by (blk_by ["boxes", "places", "found", "one", "other"] (top 22) rfl rfl (by decide +kernel)))
      obtain ⟨hj, rfl⟩ := seq_at' hx2
      have hj : k + 1 + j < ss.length := by omega
      refine ⟨_, [4], by decide, fun s H C2 cl fp => ⟨eg_name (gd_blk g) 4, EvT.to (evt_val (ev_callP h_overlap hr (by decide) pass0 (eva_cons (ev_var 0) (eva_cons (ev_var 1) (eva_cons (ev_var 3) (eva_cons (ev_var 4) eva_nil)))) ⟨C, ss, ps, k, k + 1 + j, ⟨bc, hm, hk, hj⟩, rfl, rfl⟩)) (ho k (k + 1 + j) (by omega) hj), fun h => (by cases h)⟩⟩
    · exact wb_end rfl (by repeat (first | exact .nil | refine .same ?_ | refine .drop ?_)) rfl
  · exact wb_retO (xs := ([] : List Pt)) rfl (.refl _) rfl (ev_var 2)
def R_isShown (K : PySem.W.Frag) : DL → Dyn → Prop := fun ds d => ∃ (C : Addr) (ss ps : List Pt), (Bc K C ∧ Pic ss ps) ∧ ds = [dy (Bx.mk (C := C) ss), dy ps] ∧ d = dy true
theorem S23 : FnScope ["boxes", "thing"] ["boxes", "thing"] (defScope (top 23)) := ⟨rfl, rfl, rfl, by decide +kernel, rfl, by decide +kernel, by decide +kernel⟩
theorem ok_isShown (B : Bn mg)  (h_arePlaces : Fn P w K mg base CX0 3 "are_places" (spP (R_arePlaces K))) (h_allOverlaps : Fn P w K mg base CX0 4 "all_overlaps" (spP (R_allOverlaps K))) (D : Df K mg "is_shown" (top 23) ["boxes", "thing"]) : Fn P w K mg base CX0 5 "is_shown" (spP (R_isShown K)) := by
  refine fnP (k := 4) D S23 (fun ds d ⟨_, _, _, _, e, _⟩ => by subst e; rfl) fun f cdv A outer s H E ds d hr g hR S0 => ?_
  obtain ⟨C, ss, ps, hp, rfl, rfl⟩ := hR
  obtain ⟨bc, hl, hm, ho⟩ := hp
  exact wb_retP rfl (.refl _) rfl (ev_and (p := true) (q := true) (ev_callP h_arePlaces hr (by decide) pass0 (eva_cons (ev_var 0) (eva_cons (ev_var 1) eva_nil)) ⟨C, ss, ps, ⟨bc, hm, by omega⟩, rfl, rfl⟩) fun _ => (ev_eqI (ev_lenL B.len (ev_callP h_allOverlaps hr (by decide) pass0 (eva_cons (ev_var 0) (eva_cons (ev_var 1) eva_nil)) ⟨C, ss, ps, ⟨bc, hl, hm, ho⟩, rfl, rfl⟩)) ev_int).to rfl)
def R_checkPicture (K : PySem.W.Frag) : DL → Dyn → Prop := fun ds d => ∃ (C : Addr) (ss ps : List Pt), (Bc K C ∧ Pic ss ps) ∧ ds = [dy (Bx.mk (C := C) ss), dy ps] ∧ d = dy (none : Option Int)
theorem S24 : FnScope ["boxes", "thing"] ["boxes", "thing"] (defScope (top 24)) := ⟨rfl, rfl, rfl, by decide +kernel, rfl, by decide +kernel, by decide +kernel⟩
theorem ok_checkPicture (B : Bn mg)  (h_isShown : Fn P w K mg base CX0 5 "is_shown" (spP (R_isShown K))) (D : Df K mg "check_picture" (top 24) ["boxes", "thing"]) : Fn P w K mg base CX0 6 "check_picture" (spP (R_checkPicture K)) := by
  refine fnP (k := 5) D S24 (fun ds d ⟨_, _, _, _, e, _⟩ => by subst e; rfl) fun f cdv A outer s H E ds d hr g hR S0 => ?_
  obtain ⟨C, ss, ps, hp, rfl, rfl⟩ := hR
  exact wb_when (evt_not (evt_val (ev_callP h_isShown hr (by decide) pass0 (eva_cons (ev_var 0) (eva_cons (ev_var 1) eva_nil)) ⟨C, ss, ps, hp, rfl, rfl⟩))) (fun h => by cases h) fun _ => wb_fallP rfl (.refl _) rfl
def R_isWord (K : PySem.W.Frag) : DL → Dyn → Prop := fun ds d => ∃ (w : Way), (True) ∧ ds = [dy w] ∧ d = dy true
theorem S28 : FnScope ["thing"] ["thing"] (defScope (top 28)) := ⟨rfl, rfl, rfl, by decide +kernel, rfl, by decide +kernel, by decide +kernel⟩
theorem ok_isWord (B : Bn mg)   (D : Df K mg "is_word" (top 28) ["thing"]) : Fn P w K mg base CX0 1 "is_word" (spP (R_isWord K)) := by
  refine fnP (k := 0) D S28 (fun ds d ⟨_, _, e, _⟩ => by subst e; rfl) fun f cdv A outer s H E ds d hr g hR S0 => ?_
  obtain ⟨w, hp, rfl, rfl⟩ := hR
  obtain ⟨t1, hL⟩ := B.lev
  obtain ⟨t2, hU⟩ := B.upr
  exact wb_retP rfl (.refl _) rfl ((ev_and (p := true) (ev_isStr B.isi B.str (ev_var 0)) fun _ => ev_inT (ev_var 0) (ev_tupL (xs := [Way.lev, Way.upr]) (eva_cons (ev_globW hL) (eva_cons (ev_globW hU) eva_nil)) (by show 2 ≤ sizeLine; decide))).to (by cases w <;> rfl))
def R_isStroke (K : PySem.W.Frag) : DL → Dyn → Prop := fun ds d => ∃ (C : Addr) (ss : List Pt) (u : Stk), (Bc K C ∧ u.2.length = ss.length ∧ ss.length ≤ 1000) ∧ ds = [dy (Bx.mk (C := C) ss), dy u] ∧ d = dy true
theorem S29 : FnScope ["boxes", "thing"] ["boxes", "thing"] (defScope (top 29)) := ⟨rfl, rfl, rfl, by decide +kernel, rfl, by decide +kernel, by decide +kernel⟩
theorem ok_isStroke (B : Bn mg)  (h_isPair : Fn P w K mg base CX0 1 "is_pair" (spP (R_isPair K))) (h_isWord : Fn P w K mg base CX0 1 "is_word" (spP (R_isWord K))) (h_areIntegers : Fn P w K mg base CX0 2 "are_integers" (spP (R_areIntegers K))) (D : Df K mg "is_stroke" (top 29) ["boxes", "thing"]) : Fn P w K mg base CX0 3 "is_stroke" (spP (R_isStroke K)) := by
  refine fnP (k := 2) D S29 (fun ds d ⟨_, _, _, _, e, _⟩ => by subst e; rfl) fun f cdv A outer s H E ds d hr g hR S0 => ?_
  obtain ⟨C, ss, u, hp, rfl, rfl⟩ := hR
  obtain ⟨bc, hl, hm⟩ := hp
  exact wb_retP rfl (.refl _) rfl (ev_and3 (p := true) (q := true) (r := true) (ev_callP h_isPair hr (by decide) pass0 (eva_cons ((ev_var 1 (d := dy u)).toT2) eva_nil) ⟨⟨⟩, trivial, rfl, rfl⟩) (fun _ => ev_callP h_isWord hr (by decide) pass0 (eva_cons (ev_fst (ev_var 1 (d := dy u)) ev_int) eva_nil) ⟨u.1, trivial, rfl, rfl⟩)
    (fun _ _ => ev_callP h_areIntegers hr (by decide) pass0 (eva_cons (ev_snd (ev_var 1 (d := dy u)) ev_int) (eva_cons (ev_many bc.cls bc.many (ev_var 0)) eva_nil)) ⟨u.2, _, ⟨by rw [hl], by omega⟩, rfl, rfl⟩))
def R_behind (K : PySem.W.Frag) : DL → Dyn → Prop := fun ds d => ∃ (ps : List Pt) (u : Stk), (u.2.length = ps.length ∧ ps.length ≤ 1000) ∧ ds = [dy ps, dy u] ∧ d = dy (behM ps u)
theorem S30 : FnScope ["picture", "stroke", "way", "goals", "goal", "place"] ["picture", "stroke"] (defScope (top 30)) := ⟨rfl, rfl, rfl, by decide +kernel, rfl, by decide +kernel, by decide +kernel⟩
theorem ok_behind (B : Bn mg)   (D : Df K mg "behind" (top 30) ["picture", "stroke"]) : Fn P w K mg base CX0 1 "behind" (spP (R_behind K)) := by
  refine fnP (k := 0) D S30 (fun ds d ⟨_, _, _, e, _⟩ => by subst e; rfl) fun f cdv A outer s H E ds d hr g hR S0 => ?_
  obtain ⟨ps, u, hp, rfl, rfl⟩ := hR
  obtain ⟨hl, hm⟩ := hp
  obtain ⟨t1, hL⟩ := B.lev
  have hz : (u.2.zip ps).length ≤ 100000 := by rw [List.length_zip]; omega
  refine wb_asg (ev_var 1 (d := dy u)) (eg_pair g (egs_cons (eg_name g 2) (egs_cons (eg_name g 3) egs_nil))) ?_
  refine wb_when (evt_eqW (ev_var 2 (d := dy u.1)) (ev_globW hL)) (fun h => ?_) fun h => ?_
  · have e : behM ps u = (u.2.zip ps).map fun z => (z.1, z.2.2) := by unfold behM; rw [of_decide_eq_true h]
    rw [e]
    exact wb_retP rfl (.refl _) rfl (ev_tuple B.tup (ev_lcM (f := fun z => (z.1, z.2.2)) [("goal", 4), ("place", 5)] g (evi_zip hl B.zip (ev_var 3) (ev_var 0)) hz (blk_by ["picture", "stroke", "way", "goals", "goal", "place"] (top 30) rfl rfl (by decide +kernel))
      (fun F' k z D s H C cl fp le hz gb => eg_pair gb (egs_cons (eg_name gb 4) (egs_cons (eg_name gb 5) egs_nil))) fun F' k z D s H C cl fp le hz gb => ev_pair (ev_var 4) (ev_snd (ev_var 5 (d := dy z.2)) ev_int)))
  · have e : behM ps u = (u.2.zip ps).map fun z => (z.2.1, z.1) := by
      have h : ¬ u.1 = Way.lev := of_decide_eq_false h
      unfold behM
      cases hw : u.1 with
      | lev => exact absurd hw h
      | upr => rfl
    rw [e]
    exact wb_retP rfl (.refl _) rfl (ev_tuple B.tup (ev_lcM (f := fun z => (z.2.1, z.1)) [("goal", 4), ("place", 5)] g (evi_zip hl B.zip (ev_var 3) (ev_var 0)) hz (blk_by ["picture", "stroke", "way", "goals", "goal", "place"] (top 30) rfl rfl (by decide +kernel))
      (fun F' k z D s H C cl fp le hz gb => eg_pair gb (egs_cons (eg_name gb 4) (egs_cons (eg_name gb 5) egs_nil))) fun F' k z D s H C cl fp le hz gb => ev_pair (ev_fst (ev_var 5 (d := dy z.2)) ev_int) (ev_var 4)))
end
end K5

namespace K5
open PySem PySem.Spec PyProof.Rows L2
open Py (rel)
section
variable {P : Program} {w : World} {K : PySem.W.Frag} {mg : Str → Option Value} {base : Heap} {C : Addr}
def R_gap (K : PySem.W.Frag) : DL → Dyn → Prop := fun ds d => ∃ (C : Addr) (ss ps : List Pt) (wy : Way) (i j : Nat), (Bc K C ∧ ps.length = ss.length ∧ i < ss.length ∧ j < ss.length) ∧ ds = [dy (Bx.mk (C := C) ss), dy ps, dy wy, dy (i : Int), dy (j : Int)] ∧ d = dy (gapM ss ps wy i j)
theorem S32 : FnScope ["boxes", "places", "way", "one", "other", "axis"] ["boxes", "places", "way", "one", "other"] (defScope (top 32)) := ⟨rfl, rfl, rfl, by decide +kernel, rfl, by decide +kernel, by decide +kernel⟩
theorem ok_gap (B : Bn mg)   (D : Df K mg "gap" (top 32) ["boxes", "places", "way", "one", "other"]) : Fn P w K mg base CX0 1 "gap" (spP (R_gap K)) := by
  refine fnP (k := 0) D S32 (fun ds d ⟨_, _, _, _, _, _, _, e, _⟩ => by subst e; rfl) fun f cdv A outer s H E ds d hr g hR S0 => ?_
  obtain ⟨C, ss, ps, wy, i, j, hp, rfl, rfl⟩ := hR
  obtain ⟨bc, hm, hi, hj⟩ := hp
  obtain ⟨t1, hL⟩ := B.lev
  have ha : ax wy = 0 ∨ ax wy = 1 := by cases wy; exact .inl rfl; exact .inr rfl
  refine wb_set (st1 := st0) (d := dy (ax wy)) g 5 (ev_if (st2 := st0) (evt_eqW (ev_var 2 (d := dy wy)) (ev_globW hL)) (fun h => ?_) (fun h => ?_)) ?_
  · have h : wy = .lev := of_decide_eq_true h
    subst h
    exact ev_int
  · have h : ¬ wy = .lev := of_decide_eq_false h
    cases wy
    · exact absurd rfl h
    · exact ev_int
  · exact wb_retP rfl (.refl _) rfl (ev_sub (ev_sub (ev_ixP (ev_ixT (ev_var 1) (ev_var 4) (atI_k (d := (0, 0)) (by omega))) (ev_var 5) ha) (ev_ixP (ev_ixT (ev_var 1) (ev_var 3) (atI_k (d := (0, 0)) (by omega))) (ev_var 5) ha))
      (ev_ixP (ev_ixT (ev_sizes (bx := Bx.mk (C := C) ss) bc.cls bc.sizes (ev_var 0)) (ev_var 3) (atI_k (d := (0, 0)) hi)) (ev_var 5) ha))
def R_beside (K : PySem.W.Frag) : DL → Dyn → Prop := fun ds d => ∃ (C : Addr) (ss ps : List Pt) (wy : Way), (Bc K C ∧ ps.length = ss.length ∧ ss.length ≤ 40) ∧ ds = [dy (Bx.mk (C := C) ss), dy ps, dy wy] ∧ d = dy (PL.mk (besM ss ps wy))
theorem S31 : FnScope ["boxes", "picture", "way", "found", "one", "other"] ["boxes", "picture", "way"] (defScope (top 31)) := ⟨rfl, rfl, rfl, by decide +kernel, rfl, by decide +kernel, by decide +kernel⟩
theorem ok_beside (B : Bn mg)  (h_inRow : Fn P w K mg base CX0 2 "in_row" (spP (R_inRow K))) (h_inColumn : Fn P w K mg base CX0 2 "in_column" (spP (R_inColumn K))) (D : Df K mg "beside" (top 31) ["boxes", "picture", "way"]) : Fn P w K mg base CX0 3 "beside" (spP (R_beside K)) := by
  refine fnP (k := 2) D S31 (fun ds d ⟨_, _, _, _, _, e, _⟩ => by subst e; rfl) fun f cdv A outer s H E ds d hr g hR S0 => ?_
  obtain ⟨C, ss, ps, wy, hp, rfl, rfl⟩ := hR
  obtain ⟨bc, hm, hl⟩ := hp
  obtain ⟨t1, hL⟩ := B.lev
  obtain ⟨t2, hU⟩ := B.upr
  refine wb_new g 3 eva_nil (by decide) fun q => ?_
  refine wb_for g (evi_range (n := (ss.length : Int)) B.rng ⟨by omega, by omega⟩ (ev_many (bx := Bx.mk (C := C) ss) bc.cls bc.many (ev_var 0))) (fun _ => [some (dy (Bx.mk (C := C) ss)), some (dy ps), some (dy wy), some (dy (Ad.mk q)), none, none]) (fun k => [(q, (besAcc ss ps wy k).map dy)]) (fun _ => st0) rfl rfl (.refl _) (fun k => keys_same) (fun F' i x le hx => ?_) ?_
  · obtain ⟨hi, rfl⟩ := seq_at hx
    have hi : i < ss.length := by omega
    refine ⟨_, _, eg_name g 4, ?_⟩
    refine wb_for g (evi_range (n := (ss.length : Int)) B.rng ⟨by omega, by omega⟩ (ev_many (bx := Bx.mk (C := C) ss) bc.cls bc.many (ev_var 0))) (fun _ => [some (dy (Bx.mk (C := C) ss)), some (dy ps), some (dy wy), some (dy (Ad.mk q)), some (dy (i : Int)), none]) (fun k => [(q, (besAcc ss ps wy i ++ besRow ss ps wy i k).map dy)]) (fun _ => st0) (by rw [show besRow ss ps wy i 0 = [] from rfl, List.append_nil]) rfl (by repeat (first | exact .nil | refine .same ?_ | refine .drop ?_)) (fun k => keys_same) (fun F2 j x le2 hx2 => ?_) ?_
    · obtain ⟨hj, rfl⟩ := seq_at hx2
      have hj : j < ss.length := by omega
      refine ⟨_, _, eg_name g 5, ?_⟩
      have hsz : (besAcc ss ps wy i ++ besRow ss ps wy i j).length < 100000 := by
        have h1 := besAcc_len ss ps wy i
        have h2 := besRow_len ss ps wy i j
        have h3 : i * ss.length ≤ 40 * 40 := Nat.mul_le_mul (by omega) hl
        rw [List.length_append]
        omega
      have fin : ∀ {D : Ends} {G' : Gm}, D.nx = (fun σ H => Ok F2 [some (dy (Bx.mk (C := C) ss)), some (dy ps), some (dy wy), some (dy (Ad.mk q)), some (dy (i : Int)), none] [(q, (besAcc ss ps wy i ++ besRow ss ps wy i (j + 1)).map dy)] st0 σ H) → Less [some (dy (Bx.mk (C := C) ss)), some (dy ps), some (dy wy), some (dy (Ad.mk q)), some (dy (i : Int)), none] G' →
          (besT ss ps wy i j = false → WB F2 (XO P w K mg base ["boxes", "picture", "way", "found", "one", "other"] "beside" (top 31) f cdv A outer s H E) G' [(q, (besAcc ss ps wy i ++ besRow ss ps wy i j).map dy)] st0 [] D) := fun hD hG hb => wb_end hD hG (by rw [show besRow ss ps wy i (j + 1) = besRow ss ps wy i j from if_neg (by rw [hb]; exact Bool.false_ne_true)])
      have fin2 : ∀ {D : Ends} {G' : Gm}, D.nx = (fun σ H => Ok F2 [some (dy (Bx.mk (C := C) ss)), some (dy ps), some (dy wy), some (dy (Ad.mk q)), some (dy (i : Int)), none] [(q, (besAcc ss ps wy i ++ besRow ss ps wy i (j + 1)).map dy)] st0 σ H) → Less [some (dy (Bx.mk (C := C) ss)), some (dy ps), some (dy wy), some (dy (Ad.mk q)), some (dy (i : Int)), none] G' →
          (besT ss ps wy i j = true → WB F2 (XO P w K mg base ["boxes", "picture", "way", "found", "one", "other"] "beside" (top 31) f cdv A outer s H E) G' [(q, (besAcc ss ps wy i ++ besRow ss ps wy i j).map dy ++ [dy ((i : Int), (j : Int))])] st0 [] D) := fun hD hG hb => wb_end hD hG (by rw [show besRow ss ps wy i (j + 1) = besRow ss ps wy i j ++ [((i : Int), (j : Int))] from if_pos hb, ← List.append_assoc, map_snoc (besAcc ss ps wy i ++ besRow ss ps wy i j)])
      cases wy with
      | lev =>
        refine wb_when (EvT.to (k1 := besT ss ps .lev i j) (evw_and (evt_eqW (ev_var 2 (d := dy Way.lev)) (ev_globW hL)) fun _ => evw_and (evt_val (ev_callP h_inRow hr (by decide) pass0 (eva_cons (ev_var 0) (eva_cons (ev_var 1) (eva_cons (ev_var 4) (eva_cons (ev_var 5) eva_nil)))) ⟨C, ss, ps, i, j, ⟨bc, hm, hi, hj⟩, rfl, rfl⟩)) fun _ => evw_and1 (evt_lt (ev_fst (ev_ixT (ev_var 1) (ev_var 4) (atI_k (d := (0, 0)) (by omega))) ev_int) (ev_fst (ev_ixT (ev_var 1) (ev_var 5) (atI_k (d := (0, 0)) (by omega))) ev_int))).t rfl) (fun h => ?_) (fun h => ?_)
        · refine wb_append (ev_var 3) (ev_pair (ev_var 4) (ev_var 5)) (by rw [List.length_map]; exact hsz) (wb_cont ?_)
          exact wb_when (evw_andF (evt_eqW (i := Way.lev) (j := Way.upr) (ev_var 2) (ev_globW hU))).t (fun h => (by cases h)) fun _ => fin2 rfl (by repeat (first | exact .nil | refine .same ?_ | refine .drop ?_)) h
        · exact wb_when (evw_andF (evt_eqW (i := Way.lev) (j := Way.upr) (ev_var 2) (ev_globW hU))).t (fun h => (by cases h)) fun _ => fin rfl (by repeat (first | exact .nil | refine .same ?_ | refine .drop ?_)) h
      | upr =>
        refine wb_when (evw_andF (evt_eqW (i := Way.upr) (j := Way.lev) (ev_var 2) (ev_globW hL))).t (fun h => (by cases h)) fun _ => ?_
        refine wb_when (EvT.to (k1 := besT ss ps .upr i j) (evw_and (evt_eqW (ev_var 2 (d := dy Way.upr)) (ev_globW hU)) fun _ => evw_and (evt_val (ev_callP h_inColumn hr (by decide) pass0 (eva_cons (ev_var 0) (eva_cons (ev_var 1) (eva_cons (ev_var 4) (eva_cons (ev_var 5) eva_nil)))) ⟨C, ss, ps, i, j, ⟨bc, hm, hi, hj⟩, rfl, rfl⟩)) fun _ => evw_and1 (evt_lt (ev_snd (ev_ixT (ev_var 1) (ev_var 4) (atI_k (d := (0, 0)) (by omega))) ev_int) (ev_snd (ev_ixT (ev_var 1) (ev_var 5) (atI_k (d := (0, 0)) (by omega))) ev_int))).t rfl) (fun h => ?_) (fun h => ?_)
        · exact wb_append (ev_var 3) (ev_pair (ev_var 4) (ev_var 5)) (by rw [List.length_map]; exact hsz) (wb_cont (fin2 rfl (by repeat (first | exact .nil | refine .same ?_ | refine .drop ?_)) h))
        · exact fin rfl (by repeat (first | exact .nil | refine .same ?_ | refine .drop ?_)) h
    · refine wb_end rfl (by repeat (first | exact .nil | refine .same ?_ | refine .drop ?_)) ?_
      show [(q, (besAcc ss ps wy i ++ besRow ss ps wy i _).map dy)] = [(q, (besAcc ss ps wy (i + 1)).map dy)]
      rw [List.length_map, seqI_len]
      rfl
  · have e : ((seqI 0 (ss.length : Int).toNat).map dy).length = ss.length := by rw [List.length_map, seqI_len]; rfl
    rw [e]
    exact wb_retO rfl (.refl _) rfl (ev_var 3)
def R_isLet (K : PySem.W.Frag) : DL → Dyn → Prop := fun ds d => ∃ (C : Addr) (ss ps : List Pt) (u : Stk), (Bc K C ∧ ps.length = ss.length ∧ ss.length ≤ 40 ∧ u.2.length = ss.length) ∧ ds = [dy (Bx.mk (C := C) ss), dy ps, dy u] ∧ d = dy (letM ss ps u)
theorem S33 : FnScope ["boxes", "picture", "stroke", "later", "one", "other"] ["boxes", "picture", "stroke"] (defScope (top 33)) := ⟨rfl, rfl, rfl, by decide +kernel, rfl, by decide +kernel, by decide +kernel⟩
theorem ok_isLet (B : Bn mg)  (h_behind : Fn P w K mg base CX0 1 "behind" (spP (R_behind K))) (h_beside : Fn P w K mg base CX0 3 "beside" (spP (R_beside K))) (h_gap : Fn P w K mg base CX0 1 "gap" (spP (R_gap K))) (D : Df K mg "is_let" (top 33) ["boxes", "picture", "stroke"]) : Fn P w K mg base CX0 4 "is_let" (spP (R_isLet K)) := by
  refine fnP (k := 3) D S33 (fun ds d ⟨_, _, _, _, _, e, _⟩ => by subst e; rfl) fun f cdv A outer s H E ds d hr g hR S0 => ?_
  obtain ⟨C, ss, ps, u, hp, rfl, rfl⟩ := hR
  obtain ⟨bc, hm, hl, hu⟩ := hp
  refine wb_set (st1 := st0) (d := dy (behM ps u)) g 3 (ev_callP h_behind hr (by decide) pass0 (eva_cons (ev_var 1) (eva_cons (ev_var 2) eva_nil)) ⟨ps, u, ⟨by omega, by omega⟩, rfl, rfl⟩) ?_
  have hsz : (besM ss ps u.1).length ≤ 100000 := by
    have h1 := besAcc_len ss ps u.1 ss.length
    have h3 : ss.length * ss.length ≤ 40 * 40 := Nat.mul_le_mul hl hl
    unfold besM
    omega
  have hb : (behM ps u).length = ss.length := (behM_len (by omega)).trans hm
  refine wb_retP rfl (.refl _) rfl (Ev.to (ev_all g B.all (ev_lcM (f := fun p : Pt => decide (0 ≤ gapM ss (behM ps u) u.1 p.1.toNat p.2.toNat)) [("one", 4), ("other", 5)] g (evi_pl (ev_callP h_beside hr (by decide) pass0 (eva_cons (ev_var 0) (eva_cons (ev_var 1) (eva_cons (ev_fst (ev_var 2 (d := dy u)) ev_int) eva_nil))) ⟨C, ss, ps, u.1, ⟨bc, hm, hl⟩, rfl, rfl⟩)) hsz (blk_by ["boxes", "picture", "stroke", "later", "one", "other"] (top 33) rfl rfl (by decide +kernel))
    (fun F' k z D s H C cl fp le hz gb => eg_pair gb (egs_cons (eg_name gb 4) (egs_cons (eg_name gb 5) egs_nil))) (fun F' k z D s H C2 cl fp le hz gb => ?_))) ?_)
  · obtain ⟨i, j, hi, hj, _, rfl⟩ := besAcc_mem.mp (List.mem_of_getElem? hz)
    exact ev_ge (ev_callP h_gap hr (by decide) pass0 (eva_cons (ev_var 0) (eva_cons (ev_var 3) (eva_cons (ev_fst (ev_var 2 (d := dy u)) ev_int) (eva_cons (ev_var 4) (eva_cons (ev_var 5) eva_nil))))) ⟨C, ss, behM ps u, u.1, i, j, ⟨bc, hb, hi, hj⟩, rfl, rfl⟩) ev_int
  · unfold letM
    rw [List.all_map]
    rfl
def R_isForm (K : PySem.W.Frag) : DL → Dyn → Prop := fun ds d => ∃ (C : Addr) (ss : List Pt) (sc : List Stk), (Bc K C ∧ ss.length ≤ 40 ∧ Form ss.length sc) ∧ ds = [dy (Bx.mk (C := C) ss), dy sc] ∧ d = dy true
theorem S36 : FnScope ["boxes", "thing", "stroke"] ["boxes", "thing"] (defScope (top 36)) := ⟨rfl, rfl, rfl, by decide +kernel, rfl, by decide +kernel, by decide +kernel⟩
theorem ok_isForm (B : Bn mg)  (h_isSized : Fn P w K mg base CX0 1 "is_sized" (spP (R_isSized K))) (h_isStroke : Fn P w K mg base CX0 3 "is_stroke" (spP (R_isStroke K))) (D : Df K mg "is_form" (top 36) ["boxes", "thing"]) : Fn P w K mg base CX0 4 "is_form" (spP (R_isForm K)) := by
  refine fnP (k := 3) D S36 (fun ds d ⟨_, _, _, _, e, _⟩ => by subst e; rfl) fun f cdv A outer s H E ds d hr g hR S0 => ?_
  obtain ⟨C, ss, sc, hp, rfl, rfl⟩ := hR
  obtain ⟨bc, hl, hf, hs⟩ := hp
  obtain ⟨t, hM⟩ := B.mxK
  refine wb_retP rfl (.refl _) rfl (Ev.to (ev_and (p := decide (0 ≤ (sc.length : Int)) && decide ((sc.length : Int) ≤ 200)) (ev_callP h_isSized hr (by decide) pass0 (eva_cons ((ev_var 1).toT) (eva_cons (ev_int) (eva_cons (ev_globI hM) eva_nil))) ⟨sc.length, 0, 200, trivial, rfl, rfl⟩) fun _ =>
    ev_all g B.all (ev_lcM (f := fun _ : Stk => true) [("stroke", 2)] g (evi_tup (ev_var 1)) (by omega) (blk_by ["boxes", "thing", "stroke"] (top 36) rfl rfl (by decide +kernel)) (fun F' k z D s H C cl fp le hz gb => eg_name gb 2) (fun F' k z D s H C2 cl fp le hz gb => ev_callP h_isStroke hr (by decide) pass0 (eva_cons (ev_var 0) (eva_cons (ev_var 2) eva_nil)) ⟨C, ss, z, ⟨bc, hs z (List.mem_of_getElem? hz), by omega⟩, rfl, rfl⟩))) ?_)
  rw [all_map_true, decide_eq_true (by omega : 0 ≤ (sc.length : Int)), decide_eq_true (by omega : (sc.length : Int) ≤ 200)]
  rfl
def R_runOf (K : PySem.W.Frag) : DL → Dyn → Prop := fun ds d => ∃ (C : Addr) (ss ps : List Pt) (sc : List Stk), (Bc K C ∧ ps.length = ss.length ∧ ss.length ≤ 40 ∧ Form ss.length sc) ∧ ds = [dy (Bx.mk (C := C) ss), dy ps, dy sc] ∧ d = dy (PL.mk (picsM ps (cutO sc (runM ss ps sc))), (runM ss ps sc).map fun n => (n : Int))
theorem S37 : FnScope ["boxes", "picture", "script", "found", "number", "stroke"] ["boxes", "picture", "script"] (defScope (top 37)) := ⟨rfl, rfl, rfl, by decide +kernel, rfl, by decide +kernel, by decide +kernel⟩
theorem ok_runOf (B : Bn mg)  (h_isLet : Fn P w K mg base CX0 4 "is_let" (spP (R_isLet K))) (h_behind : Fn P w K mg base CX0 1 "behind" (spP (R_behind K))) (D : Df K mg "run_of" (top 37) ["boxes", "picture", "script"]) : Fn P w K mg base CX0 5 "run_of" (spP (R_runOf K)) := by
  refine fnP (k := 4) D S37 (fun ds d ⟨_, _, _, _, _, e, _⟩ => by subst e; rfl) fun f cdv A outer s H E ds d hr g hR S0 => ?_
  obtain ⟨C, ss, ps, sc, hp, rfl, rfl⟩ := hR
  obtain ⟨bc, hm, hl, hf, hs⟩ := hp
  have hlen : ∀ k, (endM ps (sc.take k)).length = ss.length := fun k => (endM_len fun s h => (hs s (List.mem_of_mem_take h)).trans hm.symm).trans hm
  refine wb_new (ds := [dy ps]) (st1 := st0) g 3 (eva_cons (ev_var 1) eva_nil) (by show 1 ≤ 100000; decide) fun q => ?_
  refine wb_forA g (evi_enum (xs := sc) B.enu (ev_var 2)) (fun k => ∀ j u, j < k → sc[j]? = some u → letM ss (endM ps (sc.take j)) u = true) (fun _ => [some (dy (Bx.mk (C := C) ss)), some (dy ps), some (dy sc), some (dy (Ad.mk q)), none, none]) (fun k => [(q, (picsM ps (sc.take k)).map dy)]) (fun _ => st0) (fun j u h => by cases h) rfl rfl (.refl _) (fun k => keys_same) (fun F' k x le hx al => ?_) (fun al => ?_)
  · obtain ⟨u, hu, rfl⟩ := enum_at hx
    have last : ∀ {G : Gm} {a1 p1 p2 p3 p4}, G[3]? = some (some (dy (Ad.mk q))) → Ev F' (XO P w K mg base ["boxes", "picture", "script", "found", "number", "stroke"] "run_of" (top 37) f cdv A outer s H E) G [(q, (picsM ps (sc.take k)).map dy)] st0 (.Subscript (.Name "found" p1) (.UnaryOp .USub (.Constant (.int 1) a1 p2) p3) p4) (dy (endM ps (sc.take k))) st0 := fun hG => ev_ixO (ev_var 3 hG) (ev_neg ev_int) List.mem_cons_self (atD_dy (atI_last (picsM_last ps (sc.take k))))
    have hu2 : u.2.length = ss.length := hs u (List.mem_of_getElem? hu)
    refine ⟨_, _, eg_pair g (egs_cons (eg_name g 4) (egs_cons (eg_name g 5) egs_nil)), ?_⟩
    refine wb_when (evt_not (evt_val (ev_callP h_isLet hr (by decide) pass0 (eva_cons (ev_var 0) (eva_cons (last rfl) (eva_cons (ev_var 5) eva_nil))) ⟨C, ss, endM ps (sc.take k), u, ⟨bc, hlen k, hl, hu2⟩, rfl, rfl⟩))) (fun h => ?_) (fun h => ?_)
    · have h : letM ss (endM ps (sc.take k)) u = false := by simpa using h
      have e := runM_first al hu h
      refine wb_letgo 3 rfl ?_
      rw [e]
      exact wb_retP (d := dy (PL.mk (picsM ps (sc.take k)), (some k).map fun n => (n : Int))) rfl le rfl (ev_pair (ev_var 3) ((ev_var 4).some))
    · have h : letM ss (endM ps (sc.take k)) u = true := by simpa using h
      refine wb_append (st1 := st0) (d := dy (behM (endM ps (sc.take k)) u)) (ev_var 3) (ev_callP h_behind hr (by decide) pass0 (eva_cons (last rfl) (eva_cons (ev_var 5) eva_nil)) ⟨endM ps (sc.take k), u, ⟨by rw [hlen, hu2], by rw [hlen]; omega⟩, rfl, rfl⟩) (by rw [List.length_map, picsM_len, List.length_take]; omega) ?_
      refine wb_endA rfl (fun j v hj hv => ?_) (by repeat (first | exact .nil | refine .same ?_ | refine .drop ?_)) ?_
      · by_cases e : j = k
        · subst e
          rw [hu] at hv
          cases hv
          exact h
        · exact al j v (by omega) hv
      · rw [take_snoc hu, picsM_snoc, map_snoc]
  · have e := runM_none (ss := ss) (ps := ps) (sc := sc) (fun j u h1 h2 => al j u (by rw [List.length_map, List.length_zipIdx]; exact h1) h2)
    have e2 : sc.take (sc.zipIdx.map fun z : Stk × Nat => dy ((z.2 : Int), z.1)).length = sc := by rw [List.length_map, List.length_zipIdx]; exact List.take_length
    rw [e2, e]
    refine wb_letgo 3 rfl ?_
    exact wb_retP (d := dy (PL.mk (picsM ps sc), (none : Option Nat).map fun n => (n : Int))) rfl (.refl _) rfl (ev_pair (ev_var 3) ev_none)
end
end K5

namespace K5
open PySem PySem.Spec PyProof.Rows L2
open Py (rel)
section
variable {P : Program} {w : World} {K : PySem.W.Frag} {mg : Str → Option Value} {base : Heap} {C : Addr}
def R_checkScript (K : PySem.W.Frag) : DL → Dyn → Prop := fun ds d => ∃ (C : Addr) (ss ps : List Pt) (sc : List Stk), (Bc K C ∧ Pic ss ps ∧ Form ss.length sc ∧ runM ss ps sc = none) ∧ ds = [dy (Bx.mk (C := C) ss), dy ps, dy sc] ∧ d = dy (PL.mk (picsM ps sc))
theorem S38 : FnScope ["boxes", "picture", "script", "found", "number"] ["boxes", "picture", "script"] (defScope (top 38)) := ⟨rfl, rfl, rfl, by decide +kernel, rfl, by decide +kernel, by decide +kernel⟩
theorem ok_checkScript (B : Bn mg)  (h_checkPicture : Fn P w K mg base CX0 6 "check_picture" (spP (R_checkPicture K))) (h_isForm : Fn P w K mg base CX0 4 "is_form" (spP (R_isForm K))) (h_runOf : Fn P w K mg base CX0 5 "run_of" (spP (R_runOf K))) (D : Df K mg "check_script" (top 38) ["boxes", "picture", "script"]) : Fn P w K mg base CX0 7 "check_script" (spP (R_checkScript K)) := by
  refine fnP (k := 6) D S38 (fun ds d ⟨_, _, _, _, _, e, _⟩ => by subst e; rfl) fun f cdv A outer s H E ds d hr g hR S0 => ?_
  obtain ⟨C, ss, ps, sc, hp, rfl, rfl⟩ := hR
  obtain ⟨bc, pc, hf, hn⟩ := hp
  refine wb_expr (st1 := st0) (d := dy (none : Option Int)) (ev_callP h_checkPicture hr (by decide) pass0 (eva_cons (ev_var 0) (eva_cons (ev_var 1) eva_nil)) ⟨C, ss, ps, ⟨bc, pc⟩, rfl, rfl⟩) ?_
  refine wb_when (evt_not (evt_val (ev_callP h_isForm hr (by decide) pass0 (eva_cons (ev_var 0) (eva_cons (ev_var 2) eva_nil)) ⟨C, ss, sc, ⟨bc, pc.1, hf⟩, rfl, rfl⟩))) (fun h => by cases h) fun _ => ?_
  have hr0 : R_runOf K [dy (Bx.mk (C := C) ss), dy ps, dy sc] (dy (PL.mk (picsM ps sc), (none : Option Int))) := ⟨C, ss, ps, sc, ⟨bc, pc.2.1, pc.1, hf⟩, rfl, by rw [hn]; rfl⟩
  refine wb_asg (ev_callP h_runOf hr (by decide) pass0 (eva_cons (ev_var 0) (eva_cons (ev_var 1) (eva_cons (ev_var 2) eva_nil))) hr0) (eg_pair g (egs_cons (eg_name g 3) (egs_cons (eg_name g 4) egs_nil))) ?_
  refine wb_when (evt_notNI (o := none) (ev_var 4)) (fun h => by cases h) fun _ => ?_
  exact wb_retP (d := dy (PL.mk (picsM ps sc))) rfl (.refl _) rfl (ev_var 3)
def R_led (K : PySem.W.Frag) : DL → Dyn → Prop := fun ds d => ∃ (C : Addr) (ss ps : List Pt) (sc : List Stk), (Bc K C ∧ Pic ss ps ∧ Form ss.length sc ∧ runM ss ps sc = none) ∧ ds = [dy (Bx.mk (C := C) ss), dy ps, dy sc] ∧ d = dy (endM ps sc)
theorem S39 : FnScope ["boxes", "picture", "script"] ["boxes", "picture", "script"] (defScope (top 39)) := ⟨rfl, rfl, rfl, by decide +kernel, rfl, by decide +kernel, by decide +kernel⟩
theorem ok_led (B : Bn mg)  (h_checkScript : Fn P w K mg base CX0 7 "check_script" (spP (R_checkScript K))) (D : Df K mg "led" (top 39) ["boxes", "picture", "script"]) : Fn P w K mg base CX0 8 "led" (spP (R_led K)) := by
  refine fnP (k := 7) D S39 (fun ds d ⟨_, _, _, _, _, e, _⟩ => by subst e; rfl) fun f cdv A outer s H E ds d hr g hR S0 => ?_
  obtain ⟨C, ss, ps, sc, hp, rfl, rfl⟩ := hR
  exact wb_retP rfl (.refl _) rfl (ev_ixL (ev_callP h_checkScript hr (by decide) pass0 (eva_cons (ev_var 0) (eva_cons (ev_var 1) (eva_cons (ev_var 2) eva_nil))) ⟨C, ss, ps, sc, hp, rfl, rfl⟩) (ev_neg ev_int) (atI_last (picsM_last ps sc)))
def R_pictures (K : PySem.W.Frag) : DL → Dyn → Prop := fun ds d => ∃ (C : Addr) (ss ps : List Pt) (sc : List Stk), (Bc K C ∧ Pic ss ps ∧ Form ss.length sc ∧ runM ss ps sc = none) ∧ ds = [dy (Bx.mk (C := C) ss), dy ps, dy sc] ∧ d = dy (PL.mk (picsM ps sc))
theorem S40 : FnScope ["boxes", "picture", "script"] ["boxes", "picture", "script"] (defScope (top 40)) := ⟨rfl, rfl, rfl, by decide +kernel, rfl, by decide +kernel, by decide +kernel⟩
theorem ok_pictures (B : Bn mg)  (h_checkScript : Fn P w K mg base CX0 7 "check_script" (spP (R_checkScript K))) (D : Df K mg "pictures" (top 40) ["boxes", "picture", "script"]) : Fn P w K mg base CX0 8 "pictures" (spP (R_pictures K)) := by
  refine fnP (k := 7) D S40 (fun ds d ⟨_, _, _, _, _, e, _⟩ => by subst e; rfl) fun f cdv A outer s H E ds d hr g hR S0 => ?_
  obtain ⟨C, ss, ps, sc, hp, rfl, rfl⟩ := hR
  exact wb_retP rfl (.refl _) rfl (ev_callP h_checkScript hr (by decide) pass0 (eva_cons (ev_var 0) (eva_cons (ev_var 1) (eva_cons (ev_var 2) eva_nil))) ⟨C, ss, ps, sc, hp, rfl, rfl⟩)
def R_isScript (K : PySem.W.Frag) : DL → Dyn → Prop := fun ds d => ∃ (C : Addr) (ss ps : List Pt) (sc : List Stk), (Bc K C ∧ Pic ss ps ∧ Form ss.length sc) ∧ ds = [dy (Bx.mk (C := C) ss), dy ps, dy sc] ∧ d = dy (runM ss ps sc).isNone
theorem S41 : FnScope ["boxes", "picture", "thing"] ["boxes", "picture", "thing"] (defScope (top 41)) := ⟨rfl, rfl, rfl, by decide +kernel, rfl, by decide +kernel, by decide +kernel⟩
theorem ok_isScript (B : Bn mg)  (h_checkPicture : Fn P w K mg base CX0 6 "check_picture" (spP (R_checkPicture K))) (h_isForm : Fn P w K mg base CX0 4 "is_form" (spP (R_isForm K))) (h_runOf : Fn P w K mg base CX0 5 "run_of" (spP (R_runOf K))) (D : Df K mg "is_script" (top 41) ["boxes", "picture", "thing"]) : Fn P w K mg base CX0 7 "is_script" (spP (R_isScript K)) := by
  refine fnP (k := 6) D S41 (fun ds d ⟨_, _, _, _, _, e, _⟩ => by subst e; rfl) fun f cdv A outer s H E ds d hr g hR S0 => ?_
  obtain ⟨C, ss, ps, sc, hp, rfl, rfl⟩ := hR
  obtain ⟨bc, pc, hf⟩ := hp
  refine wb_expr (st1 := st0) (d := dy (none : Option Int)) (ev_callP h_checkPicture hr (by decide) pass0 (eva_cons (ev_var 0) (eva_cons (ev_var 1) eva_nil)) ⟨C, ss, ps, ⟨bc, pc⟩, rfl, rfl⟩) ?_
  refine wb_retP rfl (.refl _) rfl (Ev.to (ev_and (p := true) (ev_callP h_isForm hr (by decide) pass0 (eva_cons (ev_var 0) (eva_cons (ev_var 2) eva_nil)) ⟨C, ss, sc, ⟨bc, pc.1, hf⟩, rfl, rfl⟩) fun _ => ev_isNI (ev_snd (ev_callP h_runOf hr (by decide) pass0 (eva_cons (ev_var 0) (eva_cons (ev_var 1) (eva_cons (ev_var 2) eva_nil))) ⟨C, ss, ps, sc, ⟨bc, pc.2.1, pc.1, hf⟩, rfl, rfl⟩) ev_int)) ?_)
  cases runM ss ps sc <;> rfl
def R_goalsOf (K : PySem.W.Frag) : DL → Dyn → Prop := fun ds d => ∃ (ps : List Pt) (wy : Way), (ps.length ≤ 1000) ∧ ds = [dy ps, dy wy] ∧ d = dy (goalsM ps wy)
theorem S42 : FnScope ["picture", "way", "place"] ["picture", "way"] (defScope (top 42)) := ⟨rfl, rfl, rfl, by decide +kernel, rfl, by decide +kernel, by decide +kernel⟩
theorem ok_goalsOf (B : Bn mg)   (D : Df K mg "goals_of" (top 42) ["picture", "way"]) : Fn P w K mg base CX0 1 "goals_of" (spP (R_goalsOf K)) := by
  refine fnP (k := 0) D S42 (fun ds d ⟨_, _, _, e, _⟩ => by subst e; rfl) fun f cdv A outer s H E ds d hr g hR S0 => ?_
  obtain ⟨ps, wy, hp, rfl, rfl⟩ := hR
  obtain ⟨t1, hL⟩ := B.lev
  refine wb_retP rfl (.refl _) rfl (ev_tuple B.tup (ev_lcM (f := fun p : Pt => pick p (ax wy)) [("place", 2)] g (evi_tup (ev_var 0)) (by omega) (blk_by ["picture", "way", "place"] (top 42) rfl rfl (by decide +kernel)) (fun F' k z D s H C cl fp le hz gb => eg_name gb 2) (fun F' k z D s H C2 cl fp le hz gb => ?_)))
  refine ev_if (st1 := st0) (evt_eqW (ev_var 1 (d := dy wy)) (ev_globW hL)) (fun h => ?_) (fun h => ?_)
  · have h : wy = .lev := of_decide_eq_true h
    subst h
    exact ev_fst (ev_var 2 (d := dy z)) ev_int
  · have h : ¬ wy = .lev := of_decide_eq_false h
    cases wy
    · exact absurd rfl h
    · exact ev_snd (ev_var 2 (d := dy z)) ev_int
def R_takenBack (K : PySem.W.Frag) : DL → Dyn → Prop := fun ds d => ∃ (C : Addr) (ss ps : List Pt) (sc : List Stk), (Bc K C ∧ Pic ss ps ∧ Form ss.length sc ∧ runM ss ps sc = none) ∧ ds = [dy (Bx.mk (C := C) ss), dy ps, dy sc] ∧ d = dy (backM ps sc)
theorem S43 : FnScope ["boxes", "picture", "script", "found", "stroke", "earlier"] ["boxes", "picture", "script"] (defScope (top 43)) := ⟨rfl, rfl, rfl, by decide +kernel, rfl, by decide +kernel, by decide +kernel⟩
theorem ok_takenBack (B : Bn mg)  (h_checkScript : Fn P w K mg base CX0 7 "check_script" (spP (R_checkScript K))) (h_goalsOf : Fn P w K mg base CX0 1 "goals_of" (spP (R_goalsOf K))) (D : Df K mg "taken_back" (top 43) ["boxes", "picture", "script"]) : Fn P w K mg base CX0 8 "taken_back" (spP (R_takenBack K)) := by
  refine fnP (k := 7) D S43 (fun ds d ⟨_, _, _, _, _, e, _⟩ => by subst e; rfl) fun f cdv A outer s H E ds d hr g hR S0 => ?_
  obtain ⟨C, ss, ps, sc, hp, rfl, rfl⟩ := hR
  obtain ⟨bc, pc, hf, hn⟩ := hp
  have hlen : ∀ k, (endM ps (sc.take k)).length = ss.length := fun k => (endM_len fun s h => (hf.2 s (List.mem_of_mem_take h)).trans pc.2.1.symm).trans pc.2.1
  have h40 := pc.1
  have h200 := hf.1
  refine wb_new (ds := []) (st1 := st0) g 3 eva_nil (by decide) fun q => ?_
  refine wb_for g (evi_zipTL (xs := sc) (ys := picsM ps sc) (by rw [picsM_len]; omega) B.zip (ev_var 2) (ev_callP h_checkScript hr (by decide) pass0 (eva_cons (ev_var 0) (eva_cons (ev_var 1) (eva_cons (ev_var 2) eva_nil))) ⟨C, ss, ps, sc, ⟨bc, pc, hf, hn⟩, rfl, rfl⟩)) (fun _ => [some (dy (Bx.mk (C := C) ss)), some (dy ps), some (dy sc), some (dy (Ad.mk q)), none, none]) (fun k => [(q, (fwdM ps (sc.take k)).map dy)]) (fun _ => st0) rfl rfl (.refl _) (fun k => keys_same) (fun F' k x le hx => ?_) ?_
  · obtain ⟨u, v, hu, hv, rfl⟩ := zip_at hx
    have hk : k < sc.length := (List.getElem?_eq_some_iff.mp hu).1
    have ev : v = endM ps (sc.take k) := by
      rw [picsM_get ps sc k (by omega)] at hv
      exact (Option.some.inj hv).symm
    subst ev
    refine ⟨_, _, eg_pair g (egs_cons (eg_name g 4) (egs_cons (eg_name g 5) egs_nil)), ?_⟩
    refine wb_append (st1 := st0) (d := dy (u.1, goalsM (endM ps (sc.take k)) u.1)) (ev_var 3) (ev_pair (ev_fst (ev_var 4 (d := dy u)) ev_int) (ev_callP h_goalsOf hr (by decide) pass0 (eva_cons (ev_var 5) (eva_cons (ev_fst (ev_var 4 (d := dy u)) ev_int) eva_nil)) ⟨endM ps (sc.take k), u.1, by rw [hlen]; omega, rfl, rfl⟩)) (by rw [List.length_map, fwdM_len, List.length_take]; omega) ?_
    refine wb_end rfl (by repeat (first | exact .nil | refine .same ?_ | refine .drop ?_)) ?_
    rw [take_snoc hu, fwdM_snoc, map_snoc]
  · have e2 : sc.take ((sc.zip (picsM ps sc)).map fun z => dy z).length = sc := by rw [List.length_map, List.length_zip, picsM_len, Nat.min_eq_left (Nat.le_succ _)]; exact List.take_length
    rw [e2]
    exact wb_retP rfl (.refl _) rfl (ev_tuple B.tup (ev_revO List.mem_cons_self (ev_var 3)))
end
end K5

namespace K5
open PySem PySem.Spec PyProof.Rows L2
open Py (rel)

/-! ### the pool -/
section
variable {F : Fr} {X : Cx} {G : Gm} {L : Ls} {st st1 st2 st3 : Pst} {e a b : Expr} {es : List Expr} {pos p1 p2 p3 p4 p : Pos} {d x y z : Dyn} {ds : DL} {s : Stmt} {rest : List Stmt} {D : Ends} {pp cc : Addr}
theorem r2_pool {i : Int} {j : Nat} {u : Dyn} (hp : F.pool = some (pp, cc)) (hi : i = (j : Int)) (hu : ([dy st.seed, dy st.n, dy (Ad.mk cc)] : DL)[j]? = some u) : R2t F G L st (rIxL X.K) (dy (Ad.mk pp)) (dy i) u := fun v w σ H ok ru rw' Q k => by
  obtain ⟨_, h1, _⟩ := ok.pool pp cc hp
  subst hi
  have r : D2 (fun v d => d.rel (keys F L) H v) [V.int st.seed, V.int st.n, V.ref cc] [dy st.seed, dy st.n, dy (Ad.mk cc)] := .cons rfl (.cons rfl (.cons rfl .nil))
  obtain ⟨q, h2, rq⟩ := r.get hu
  exact ⟨pp, _, (j : Int), q, ru, rw', .of h1, atI_nat h2, k q H (.refl _) rq⟩
theorem ev_pool {i : Int} (j : Nat) {u : Dyn} (hp : F.pool = some (pp, cc)) (ha : Ev F X G L st a (dy (Ad.mk pp)) st1) (hb : Ev F X G L st1 b (dy i) st2) (hi : i = (j : Int)) (hu : ([dy st2.seed, dy st2.n, dy (Ad.mk cc)] : DL)[j]? = some u) (hs : PlainIx b := by exact fun _ _ => rfl) : Ev F X G L st (.Subscript a b pos) u st2 :=
  ev_ix ix_list (r2_pool hp hi hu) ha hb hs
theorem ints_a2 {S : AS} {H : Hp} : ∀ ns : List Int, A2 (rel S H) (ns.map V.int) ns
  | [] => .nil
  | n :: ns => .cons rfl (ints_a2 ns)
/-- cells[0] -/
theorem ev_cell {c : Int} {cs : List Int} (hp : F.pool = some (pp, cc)) (hc : st2.cells = c :: cs) (ha : Ev F X G L st a (dy (Ad.mk cc)) st1) (hb : Ev F X G L st1 b (dy (0 : Int)) st2) (hs : PlainIx b := by exact fun _ _ => rfl) : Ev F X G L st (.Subscript a b pos) (dy c) st2 :=
  ev_ix (x := dy (Ad.mk cc)) (y := dy (0 : Int)) (d := dy c) ix_list (fun v w σ H ok ru rw' Q k => by
    obtain ⟨_, _, h2⟩ := ok.pool pp cc hp
    rw [hc] at h2
    exact ⟨cc, _, 0, .int c, ru, rw', .of h2, atI_nat (j := 0) rfl, k _ H (.refl _) rfl⟩) ha hb hs
theorem ev_lenC (hp : F.pool = some (pp, cc)) (hm : X.mg "len" = none) (ha : Ev F X G L st a (dy (Ad.mk cc)) st1) (hg : Gl X "len" := by rfl) (hs : starEach [a] X.env = (false, eval a X.env) :: starEach [] X.env := by rfl) : Ev F X G L st (.Call (.Name "len" p) [a] [] pos) (dy (st1.cells.length : Int)) st1 :=
  ev_callB call_len_seq (rc_one (x := dy (Ad.mk cc)) (d := dy (st1.cells.length : Int)) fun v σ H ok e Q k => by
    obtain ⟨_, _, h2⟩ := ok.pool pp cc hp
    exact ⟨cc, _, by rw [show v = V.ref cc from e], .inl (.of h2), k _ H (.refl _) (by rw [List.length_map]; rfl)⟩) PySem.boot_len hm (eva_cons ha eva_nil hs) hg (by decide) (by decide) hs rfl
theorem Ok.poolP {σ : L2.St} {H : Hp} {n : Int} (hp : F.pool = some (pp, cc)) (ok : Ok F G L st σ H) : Ok F G L ⟨st.seed, n, st.cells⟩ σ (upd H pp (.lst [.int st.seed, .int n, .ref cc])) := by
  obtain ⟨h0, h1, h2⟩ := ok.pool pp cc hp
  refine ok.fx (fun a o na e => ?_) fun p c e => ?_
  · rw [upd_ne fun z => na ⟨pp, cc, hp, .inl z⟩]
    exact e
  · rw [hp] at e
    cases e
    exact ⟨h0, upd_same, by rw [upd_ne (Ne.symm h0)]; exact h2⟩
theorem Ok.poolC {σ : L2.St} {H : Hp} {cs : List Int} (hp : F.pool = some (pp, cc)) (ok : Ok F G L st σ H) : Ok F G L ⟨st.seed, st.n, cs⟩ σ (upd H cc (.lst (cs.map V.int))) := by
  obtain ⟨h0, h1, h2⟩ := ok.pool pp cc hp
  refine ok.fx (fun a o na e => ?_) fun p c e => ?_
  · rw [upd_ne fun z => na ⟨pp, cc, hp, .inr z⟩]
    exact e
  · rw [hp] at e
    cases e
    exact ⟨h0, by rw [upd_ne h0]; exact h1, upd_same⟩
/-- pool[1] = e -/
theorem wb_pool1 {n : Int} (hp : F.pool = some (pp, cc)) (he : Ev F X G L st e (dy n) st1) (ha : Ev F X G L st1 a (dy (Ad.mk pp)) st1) (hb : Ev F X G L st1 b (dy (1 : Int)) st1) (hr : WB F X G L ⟨st1.seed, n, st1.cells⟩ rest D)
    (hs : swapsWithSole [.Subscript a b p1] e pos.line X.env = pure false := by rfl) (hw : swappedStores [.Subscript a b p1] e X.env = pure none := by rfl) (h1 : (assignEach [.Subscript a b p1] X.env).map (·.2) = [assign (.Subscript a b p1) X.env] := by rfl)
    (hq : ∀ v, assign (.Subscript a b p1) X.env v = (do
      let ov ← holding [v] (eval a X.env)
      let iv ← holding [v, ov] (eval b X.env)
      standAt p1
      holding [v, ov, iv] (setItem ov iv v)
      release [v, ov, iv] []) := by intro _; rfl) : WB F X G L st (.Assign [.Subscript a b p1] e pos :: rest) D :=
  wb_cons (ps_asg pe_wp (pg_sub pe_wp pe_wp set_list hq) hs hw h1) fun σ H ok => he σ H ok _ fun v H1 f1 ok1 r1 => ha σ H1 ok1 _ fun u H2 f2 ok2 r2 => hb σ H2 ok2 _ fun w H3 f3 ok3 r3 => by
    obtain ⟨h0, h1, h2⟩ := ok3.pool pp cc hp
    cases (show v = .int n from r1)
    exact ⟨pp, _, 1, 1, r2, r3, h1, rfl, hr σ _ (ok3.poolP hp)⟩
/-- cells[0] = e -/
theorem wb_cell0 {n c : Int} {cs : List Int} (hp : F.pool = some (pp, cc)) (hc : st1.cells = c :: cs) (he : Ev F X G L st e (dy n) st1) (ha : Ev F X G L st1 a (dy (Ad.mk cc)) st1) (hb : Ev F X G L st1 b (dy (0 : Int)) st1) (hr : WB F X G L ⟨st1.seed, st1.n, n :: cs⟩ rest D)
    (hs : swapsWithSole [.Subscript a b p1] e pos.line X.env = pure false := by rfl) (hw : swappedStores [.Subscript a b p1] e X.env = pure none := by rfl) (h1 : (assignEach [.Subscript a b p1] X.env).map (·.2) = [assign (.Subscript a b p1) X.env] := by rfl)
    (hq : ∀ v, assign (.Subscript a b p1) X.env v = (do
      let ov ← holding [v] (eval a X.env)
      let iv ← holding [v, ov] (eval b X.env)
      standAt p1
      holding [v, ov, iv] (setItem ov iv v)
      release [v, ov, iv] []) := by intro _; rfl) : WB F X G L st (.Assign [.Subscript a b p1] e pos :: rest) D :=
  wb_cons (ps_asg pe_wp (pg_sub pe_wp pe_wp set_list hq) hs hw h1) fun σ H ok => he σ H ok _ fun v H1 f1 ok1 r1 => ha σ H1 ok1 _ fun u H2 f2 ok2 r2 => hb σ H2 ok2 _ fun w H3 f3 ok3 r3 => by
    obtain ⟨h0, h1, h2⟩ := ok3.pool pp cc hp
    rw [hc] at h2
    cases (show v = .int n from r1)
    refine ⟨cc, _, 0, 0, r2, r3, h2, ?_, hr σ _ (ok3.poolC (cs := n :: cs) hp)⟩
    rw [List.map_cons, List.length_cons]
    unfold ixN
    rw [if_pos (by decide), if_pos (by omega)]
    rfl
/-- cells.pop(0) -/
theorem wb_cpop {c : Int} {cs : List Int} (hp : F.pool = some (pp, cc)) (hc : st.cells = c :: cs) (ha : Ev F X G L st a (dy (Ad.mk cc)) st) (he : Ev F X G L st e (dy (0 : Int)) st) (hr : WB F X G L ⟨st.seed, st.n, cs⟩ rest D) {apos cpos : Pos}
    (hbase : attributeBase a "pop" X.env (eval a X.env) = eval a X.env := by rfl)
    (hfew : ((backTo cpos (starEach [e] X.env)).all (fun x => !x.1) && (backToKw cpos (keywordEach [] X.env)).all (fun x => x.1.isSome) && decide (([e] : List Expr).length + ([] : List Keyword).length + (if ([] : List Keyword).isEmpty then 0 else 1) < 30)) = true := by rfl)
    (hline : (apos.endLine == cpos.line) = true := by rfl) (hs : starEach [e] X.env = (false, eval e X.env) :: starEach [] X.env := by rfl) (hsw : swapsWith (.Call (.Attribute a "pop" apos) [e] [] cpos) none pos.line X.env = pure false := by rfl) :
    WB F X G L st (.Expr (.Call (.Attribute a "pop" apos) [e] [] cpos) pos :: rest) D :=
  wb_cons (ps_expr (pe_bm PySem.F.plainAttrs_list PySem.F.slot_list_pop PySem.F.type_list_pop mt_popAt pe_wp pa_wp hbase hfew hline hs rfl) hsw) fun σ H ok => ha σ H ok _ fun v H1 f1 ok1 r1 => by
    obtain ⟨_, _, h0⟩ := ok1.pool pp cc hp
    refine ⟨by rw [show v = V.ref cc from r1]; exact .inl ⟨rfl, _, .of h0⟩, ?_⟩
    refine (eva_cons he eva_nil hs) σ H1 ok1 _ fun us H2 f2 ok2 r2 => ?_
    cases r2 with
    | cons r2 rr =>
      cases rr
      obtain ⟨_, _, h2⟩ := ok2.pool pp cc hp
      rw [hc] at h2
      refine ⟨cc, _, 0, 0, .int c, r1, by rw [show _ = V.int 0 from r2], h2, by decide, by decide, ?_, rfl, hr σ _ (ok2.poolC hp)⟩
      exact (ixN_seq (n := ((c :: cs).map V.int).length) (i := 0) (j := 0) (by
        rw [List.map_cons, List.length_cons]
        unfold ixN
        rw [if_pos (by decide), if_pos (by omega)]
        rfl)).1
theorem Ev.toS (h : Ev F X G L st e d st1) (q : st1 = st2) : Ev F X G L st e d st2 := by subst q; exact h
theorem wb_st {b : List Stmt} (q : st = st1) (h : WB F X G L st1 b D) : WB F X G L st b D := by subst q; exact h
theorem atI_int {α : Type} {xs : List α} {i : Int} {d : α} (h0 : 0 ≤ i) (h : i < xs.length) : atI xs i = some (xs.getD i.toNat d) := by
  obtain ⟨n, rfl⟩ : ∃ n : Nat, i = (n : Int) := ⟨i.toNat, by omega⟩
  exact atI_k (by omega)
/-- an if without else whose ways meet again -/
theorem wb_whenE {c : Expr} {A : List Stmt} (G' : Gm) (L' : Ls) (st' : Pst) (h : ∃ k0 st1, EvT F X G L st c k0 st1 ∧ (k0 = true → WB F X G L st1 A { D with nx := fun σ H => Ok F G' L' st' σ H }) ∧ (k0 = false → WB F X G L st1 [] { D with nx := fun σ H => Ok F G' L' st' σ H })) (hr : WB F X G' L' st' rest D) : WB F X G L st (.If c A [] pos :: rest) D := by
  obtain ⟨k0, st1, hc, h1, h2⟩ := h
  have up : ∀ {b : List Stmt} {st1 : Pst}, WB F X G L st1 b { D with nx := fun σ H => Ok F G' L' st' σ H } → WB F X G L st1 b { D with nx := wpB X rest D } := fun h σ H ok => fnP_up (h σ H ok) fun σ H o => hr σ H o
  exact wb_if hc (fun z => up (h1 z)) fun z => up (h2 z)
where
  fnP_up {X : Cx} {b : List Stmt} {D : Ends} {N N' : L2.St → Hp → Prop} {σ : L2.St} {H : Hp} (q : wpB X b { D with nx := N } σ H) (h : ∀ σ H, N σ H → N' σ H) : wpB X b { D with nx := N' } σ H := fun pins s I => by
    refine wpAny_mono (q pins s I) (fun fl s' hs => ?_) fun _ _ z => z
    cases fl with
    | ret u => exact hs
    | next => obtain ⟨σ', H', J, q⟩ := hs; exact ⟨σ', H', J, h _ _ q⟩
    | brk => exact hs
    | cont => exact hs
theorem Ev.unsome {α : Type} [Py α] {u : α} (h : Ev F X G L st e (dy (Option.some u)) st1) : Ev F X G L st e (dy u) st1 := h.imp fun _ _ _ z => z
/-- found[i], found[j] = e, f -/
theorem wb_swap (g : Gd X) {q : Addr} {zs : DL} {i j : Int} {i' j' : Nat} {u w : Dyn} {a1 b1 a2 b2 e1 e2 : Expr} {t t2 p5 p6} (h1 : Ev F X G ((q, zs) :: L) st e1 u st) (h2 : Ev F X G ((q, zs) :: L) st e2 w st)
    (ha1 : ∀ zs, Ev F X G ((q, zs) :: L) st a1 (dy (Ad.mk q)) st) (hb1 : ∀ zs, Ev F X G ((q, zs) :: L) st b1 (dy i) st) (ha2 : ∀ zs, Ev F X G ((q, zs) :: L) st a2 (dy (Ad.mk q)) st) (hb2 : ∀ zs, Ev F X G ((q, zs) :: L) st b2 (dy j) st) (hi : ixN zs.length i = some i') (hj : ixN zs.length j = some j')
    (hr : WB F X G ((q, (zs.set i' u).set j' w) :: L) st rest D)
    (hs : swapsWithSole [.Tuple [.Subscript a1 b1 p1, .Subscript a2 b2 p2] t p5] (.Tuple [e1, e2] t2 p6) pos.line X.env = pure false := by rfl) (hw : swappedStores [.Tuple [.Subscript a1 b1 p1, .Subscript a2 b2 p2] t p5] (.Tuple [e1, e2] t2 p6) X.env = pure none := by rfl)
    (s1 : starEach [e1, e2] X.env = (false, eval e1 X.env) :: starEach [e2] X.env := by rfl) (s2 : starEach [e2] X.env = (false, eval e2 X.env) :: starEach [] X.env := by rfl)
    (hn : (assignEach [.Subscript a1 b1 p1, .Subscript a2 b2 p2] X.env).length = 2 := by rfl) (hst : (assignEach [.Subscript a1 b1 p1, .Subscript a2 b2 p2] X.env).findIdx? (·.1) = none := by rfl) (ht : (assignEach [.Tuple [.Subscript a1 b1 p1, .Subscript a2 b2 p2] t p5] X.env).map (·.2) = [assign (.Tuple [.Subscript a1 b1 p1, .Subscript a2 b2 p2] t p5) X.env] := by rfl)
    (hc1 : (assignEach [.Subscript a1 b1 p1, .Subscript a2 b2 p2] X.env).map (·.2) = assign (.Subscript a1 b1 p1) X.env :: (assignEach [.Subscript a2 b2 p2] X.env).map (·.2) := by rfl) (hc2 : (assignEach [.Subscript a2 b2 p2] X.env).map (·.2) = assign (.Subscript a2 b2 p2) X.env :: (assignEach [] X.env).map (·.2) := by rfl)
    (q1 : ∀ v, assign (.Subscript a1 b1 p1) X.env v = (do
      let ov ← holding [v] (eval a1 X.env)
      let iv ← holding [v, ov] (eval b1 X.env)
      standAt p1
      holding [v, ov, iv] (setItem ov iv v)
      release [v, ov, iv] []) := by intro _; rfl)
    (q2 : ∀ v, assign (.Subscript a2 b2 p2) X.env v = (do
      let ov ← holding [v] (eval a2 X.env)
      let iv ← holding [v, ov] (eval b2 X.env)
      standAt p2
      holding [v, ov, iv] (setItem ov iv v)
      release [v, ov, iv] []) := by intro _; rfl) :
    WB F X G ((q, zs) :: L) st (.Assign [.Tuple [.Subscript a1 b1 p1, .Subscript a2 b2 p2] t p5] (.Tuple [e1, e2] t2 p6) pos :: rest) D :=
  wb_cons (ps_asg (pe_tup (pa_cons pe_wp (pa_cons pe_wp pa_nil s2) s1)) (pg_tup g.calm (pgs_cons pg_wp (pgs_cons pg_wp pgs_nil hc2) hc1) hn hst) hs hw ht) fun σ H ok => h1 σ H ok _ fun v1 H1 f1 ok1 r1 => h2 σ H1 ok1 _ fun v2 H2 f2 ok2 r2 => by
    refine ⟨Nat.le_trans (by decide : 2 ≤ 1000) (by decide), fun l hl => ⟨l, [v1, v2], rfl, .of upd_same, rfl, v1, [v2], rfl, ?_⟩⟩
    have e3 := Ex.new (o := .tup [v1, v2]) hl
    have ok3 := ok2.ex e3
    refine eg_subO (ha1 zs) (hb1 zs) hi q1 ok3 (Dyn.keep ok2.lo e3.fx (Dyn.keep ok1.lo f2 r1)) fun H4 ok4 f4 => ⟨v2, [], rfl, ?_⟩
    have rw2 : w.rel (keys F ((q, zs.set i' u) :: L)) H4 v2 := by
      rw [← keys_same (ds := zs)]
      exact Dyn.keep ok3.lo f4 (Dyn.keep ok2.lo e3.fx r2)
    exact eg_subO (ha2 _) (hb2 _) (by rw [List.length_set]; exact hj) q2 ok4 rw2 fun H5 ok5 f5 => ⟨rfl, hr σ H5 ok5⟩
end
theorem eqd_nil {α : Type} [PyE α] (l : List α) : eqd (PL.mk l) (PL.mk ([] : List α)) = l.isEmpty := by
  cases l <;> rfl
end K5

namespace K5

/-! ### what the law's own defs find -/
def mxA (st : Pst) : Int := ((st.seed + 7919 * (st.n + 1)) * 48271) % 2147483647
def mxB (st : Pst) : Int := (mxA st * (mxA st / 1009 + 69621)) % 2147483647
def mxC (st : Pst) : Int := (mxB st * (mxB st / 2003 + 40692)) % 2147483399
/-- what is drawn; the pool behind it -/
def drw (st : Pst) (m : Int) : Int := match st.cells with
  | [] => (mxC st / 16) % m
  | c :: _ => c % m
def nxt (st : Pst) (m : Int) : Pst := ⟨st.seed, st.n + 1, match st.cells with
  | [] => []
  | c :: cs => if c / m = 0 then cs else c / m :: cs⟩
theorem drw_rng (st : Pst) {m : Int} (h : 0 < m) : 0 ≤ drw st m ∧ drw st m < m := by
  unfold drw
  cases st.cells with
  | nil => exact ⟨Int.emod_nonneg _ (by omega), Int.emod_lt_of_pos _ h⟩
  | cons c cs => exact ⟨Int.emod_nonneg _ (by omega), Int.emod_lt_of_pos _ h⟩
def seedM (ns : List Int) : Nat → Int
  | 0 => (ns.take 1).sum % 1000003 + ns.length + 1
  | k + 1 => (seedM ns k * 48271 + (ns.take 63).getD k 0 % 2147483629 + 11) % 2147483647
def poolM (ns : List Int) : Pst := ⟨seedM ns (ns.take 63).length, 0, (((ns.take 63).filter fun c => decide (10 ^ 18 ≤ absI c)).map absI)⟩
/-- sizes -/
def szS (far : Int) (st : Pst) : Nat → Pst
  | 0 => st
  | k + 1 => nxt (nxt (szS far st k) far) far
def szL (far : Int) (st : Pst) (n : Nat) : List Pt := (List.range n).map fun k => (1 + drw (szS far st k) far, 1 + drw (nxt (szS far st k) far) far)
def farM (st : Pst) : Int := ([3, 3, 5, 12, 1000] : List Int).getD (drw st 5).toNat 0
def szN (st : Pst) (most : Int) : Nat := (1 + drw (nxt st 5) most).toNat
def sizesM (st : Pst) (most : Int) : List Pt := szL (farM st) (nxt (nxt st 5) most) (szN st most)
def sizesS (st : Pst) (most : Int) : Pst := szS (farM st) (nxt (nxt st 5) most) (szN st most)
def ay (w : Way) : Int := b2I (decide (w = .lev))
def inM (ss ps : List Pt) (w : Way) (i j : Nat) : Bool := meetB (pick (pt ps i) (ay w)) (pick (pt ss i) (ay w)) (pick (pt ps j) (ay w)) (pick (pt ss j) (ay w))
def lvRow (ss ps : List Pt) (i : Nat) : Nat → List Pt
  | 0 => []
  | k + 1 => if (inM ss ps .lev i (i + 1 + k) && inM ss ps .upr i (i + 1 + k)) = true then lvRow ss ps i k ++ [((i : Int), ((i + 1 + k : Nat) : Int))] else lvRow ss ps i k
def lvAcc (ss ps : List Pt) : Nat → List Pt
  | 0 => []
  | k + 1 => lvAcc ss ps k ++ lvRow ss ps k (ss.length - (k + 1))
def lvM (ss ps : List Pt) : List Pt := lvAcc ss ps ss.length
/-- a spot beside an elder box -/
def bsdL (p z zb : Pt) : List Pt := [(p.1 + z.1, p.2), (p.1 - zb.1, p.2), (p.1, p.2 + z.2), (p.1, p.2 - zb.2), (p.1 + z.1, p.2 + z.2)]
def bsdE (k : Int) (st : Pst) : Nat := (drw st k).toNat
def bsdP (ss ps : List Pt) (b : Nat) (st : Pst) : Pt := (bsdL (pt ps (bsdE ps.length st)) (pt ss (bsdE ps.length st)) (pt ss b)).getD (drw (nxt st ps.length) 5).toNat (0, 0)
def bsd2 (k : Int) (st : Pst) : Pst := nxt (nxt st k) 5
def bsdM (ss ps : List Pt) (b : Nat) (st : Pst) : Pt :=
  if drw (bsd2 ps.length st) 2 = 0 then ((bsdP ss ps b st).1 + drw (nxt (bsd2 ps.length st) 2) 3 - 1, (bsdP ss ps b st).2 + drw (nxt (nxt (bsd2 ps.length st) 2) 3) 3 - 1) else bsdP ss ps b st
def bsdS (k : Int) (st : Pst) : Pst := if drw (bsd2 k st) 2 = 0 then nxt (nxt (nxt (bsd2 k st) 2) 3) 3 else nxt (bsd2 k st) 2
/-- one try at a spot -/
def tr0 (sp : Int) (st : Pst) : Pt := (drw st (2 * sp) - sp, drw (nxt st (2 * sp)) (2 * sp) - sp)
def tr1 (sp : Int) (st : Pst) : Pst := nxt (nxt st (2 * sp)) (2 * sp)
def trH (ss ps : List Pt) (b : Nat) (sp : Int) (st : Pst) : Pt := if ps.length = 0 then tr0 sp st else if drw (tr1 sp st) 2 = 0 then bsdM ss ps b (nxt (tr1 sp st) 2) else tr0 sp st
def trS (n : Nat) (sp : Int) (st : Pst) : Pst := if n = 0 then tr1 sp st else if drw (tr1 sp st) 2 = 0 then bsdS n (nxt (tr1 sp st) 2) else nxt (tr1 sp st) 2
def trO (ss ps : List Pt) (b : Nat) (o : Option Pt) (h : Pt) : Option Pt := if o.isNone = true then (if lvM (ss.take (b + 1)) (ps ++ [h]) = [] then some h else o) else o
def trI (ss ps : List Pt) (b : Nat) (sp : Int) (st : Pst) : Nat → Option Pt × Pst
  | 0 => (none, st)
  | k + 1 => (trO ss ps b (trI ss ps b sp st k).1 (trH ss ps b sp (trI ss ps b sp st k).2), trS ps.length sp (trI ss ps b sp st k).2)
def lowM (ss ps : List Pt) (b : Nat) : Int := maxL ((List.range b).map fun i => (pt ps i).2 + (pt ss i).2)
def bxP (ss ps : List Pt) (b : Nat) (sp : Int) (st : Pst) : Pt := match (trI ss ps b sp st 5).1 with
  | some p => p
  | none => (drw (trI ss ps b sp st 5).2 sp, lowM ss ps b)
def bxS (ss ps : List Pt) (b : Nat) (sp : Int) (st : Pst) : Pst := match (trI ss ps b sp st 5).1 with
  | some _ => (trI ss ps b sp st 5).2
  | none => nxt (trI ss ps b sp st 5).2 sp
def shI (ss : List Pt) (sp : Int) (st : Pst) : Nat → List Pt × Pst
  | 0 => ([], st)
  | k + 1 => ((shI ss sp st k).1 ++ [bxP ss (shI ss sp st k).1 k sp (shI ss sp st k).2], bxS ss (shI ss sp st k).1 k sp (shI ss sp st k).2)
def spanM (ss : List Pt) (st : Pst) : Int := 1 + maxL (ss.map fun z => maxL [z.1, z.2]) * (1 + drw st 4)
def shownM (ss : List Pt) (st : Pst) : List Pt := (shI ss (spanM ss st) (nxt st 4) ss.length).1
def shownS (ss : List Pt) (st : Pst) : Pst := (shI ss (spanM ss st) (nxt st 4) ss.length).2
/-- another picture -/
def swpM (ps : List Pt) (i j : Nat) : List Pt := (ps.set i (pt ps j)).set j (pt ps i)
def othM (ss ps : List Pt) (st : Pst) : List Pt :=
  if drw st 6 = 0 then (ps.zip ss).map fun z => (0 - z.1.1 - z.2.1, z.1.2)
  else if drw st 6 = 1 then (ps.zip ss).map fun z => (z.1.1, 0 - z.1.2 - z.2.2)
  else if drw st 6 = 2 then (if lvM ss (swpM ps (drw (nxt st 6) ss.length).toNat (drw (nxt (nxt st 6) ss.length) ss.length).toNat) = [] then swpM ps (drw (nxt st 6) ss.length).toNat (drw (nxt (nxt st 6) ss.length) ss.length).toNat else ps)
  else if drw st 6 = 3 then (if drw (nxt st 6) 2 = 0 then ps.map fun p => (p.1 + 5, p.2) else ps)
  else shownM ss (nxt st 6)
def othS (ss : List Pt) (st : Pst) : Pst :=
  if drw st 6 = 0 then nxt st 6
  else if drw st 6 = 1 then nxt st 6
  else if drw st 6 = 2 then nxt (nxt (nxt st 6) ss.length) ss.length
  else if drw st 6 = 3 then nxt (nxt st 6) 2
  else shownS ss (nxt st 6)
/-- hits -/
def gl (u : Stk) (i : Nat) : Int := u.2.getD i 0
def hB (ps : List Pt) (w : Way) (i j : Nat) : Int := pick (pt ps j) (ax w) - pick (pt ps i) (ax w)
def hE (u : Stk) (i j : Nat) : Int := gl u j - gl u i
def hit1 (ss ps : List Pt) (u : Stk) (i j : Nat) : Bool := decide (pick (pt ss i) (ax u.1) ≤ hB ps u.1 i j) && decide (hE u i j < pick (pt ss i) (ax u.1))
def hit2 (ss ps : List Pt) (u : Stk) (i j : Nat) : Bool := decide (hB ps u.1 i j ≤ 0 - pick (pt ss j) (ax u.1)) && decide (0 - pick (pt ss j) (ax u.1) < hE u i j)
def hA (ss ps : List Pt) (u : Stk) (i j : Nat) : List (List Int) :=
  (if hit1 ss ps u i j = true then [[hB ps u.1 i j - pick (pt ss i) (ax u.1), hB ps u.1 i j - hE u i j, (i : Int), (j : Int)]] else []) ++
  (if hit2 ss ps u i j = true then [[0 - pick (pt ss j) (ax u.1) - hB ps u.1 i j, hE u i j - hB ps u.1 i j, (i : Int), (j : Int)]] else [])
def htRow (ss ps : List Pt) (u : Stk) (i : Nat) : Nat → List (List Int)
  | 0 => []
  | k + 1 => if inM ss ps u.1 i (i + 1 + k) = true then htRow ss ps u i k ++ hA ss ps u i (i + 1 + k) else htRow ss ps u i k
def htAcc (ss ps : List Pt) (u : Stk) : Nat → List (List Int)
  | 0 => []
  | k + 1 => htAcc ss ps u k ++ htRow ss ps u k (ss.length - (k + 1))
def htM (ss ps : List Pt) (u : Stk) : List (List Int) := htAcc ss ps u ss.length
def frM (ss ps : List Pt) (u : Stk) : Bool := (htM ss ps u).isEmpty
/-- a stroke -/
def wyM (st : Pst) : Way := if drw st 2 = 0 then .lev else .upr
def bigM (ps : List Pt) (w : Way) : Bool := decide (10 ^ 9 < maxL (ps.map fun p => absI (pick p (ax w))))
def kdM (ps : List Pt) (st : Pst) : Int := if (decide (1 < drw (nxt st 2) 5) && bigM ps (wyM st)) = true then 4 else drw (nxt st 2) 5
def sk1 (st : Pst) : Pst := nxt (nxt st 2) 5
def itS (m : Int) (st : Pst) : Nat → Pst
  | 0 => st
  | k + 1 => nxt (itS m st k) m
def idx {α β : Type} (f : Nat → α → β) (l : List α) : List β := (l.zipIdx).map fun z => f z.2 z.1
def stkG (ss ps : List Pt) (w : Way) (kd : Int) (st : Pst) : List Int :=
  if kd = 0 then (othM ss ps st).map fun p => pick p (ax w)
  else if kd = 1 then idx (fun k p => pick p (ax w) + drw (itS 3 st k) 3 - 1) ps
  else if kd = 2 then idx (fun k p => pick p (ax w) * (1 + drw (itS 2 st k) 2)) ps
  else if kd = 3 then ps.map fun p => pick p (ax w) * (ss.map fun z => pick z (ax w)).sum
  else idx (fun k _ => drw (itS 30 st k) 30 - 15) ps
def stkT (ss : List Pt) (n : Nat) (kd : Int) (st : Pst) : Pst :=
  if kd = 0 then othS ss st
  else if kd = 1 then itS 3 st n
  else if kd = 2 then itS 2 st n
  else if kd = 3 then st
  else itS 30 st n
def stkM (ss ps : List Pt) (st : Pst) : Stk := (wyM st, stkG ss ps (wyM st) (kdM ps st) (sk1 st))
def stkS (ss ps : List Pt) (st : Pst) : Pst := stkT ss ps.length (kdM ps st) (sk1 st)
/-- a script: found, here, the pool -/
def scU (ss : List Pt) (h : List Pt) (st : Pst) : Stk := if drw (stkS ss h st) 6 = 0 then (wyM (nxt (stkS ss h st) 6), goalsM h (wyM (nxt (stkS ss h st) 6))) else stkM ss h st
def scT (ss : List Pt) (h : List Pt) (st : Pst) : Pst := if drw (stkS ss h st) 6 = 0 then nxt (nxt (stkS ss h st) 6) 2 else nxt (stkS ss h st) 6
def scK (ss : List Pt) (h : List Pt) (st : Pst) : Bool := if frM ss h (scU ss h st) = true then true else decide (drw (scT ss h st) 12 = 0)
def scN (ss : List Pt) (h : List Pt) (st : Pst) : Pst := if frM ss h (scU ss h st) = true then scT ss h st else nxt (scT ss h st) 12
structure ScSt where
  f : List Stk
  h : List Pt
  s : Pst
def scI (ss ps : List Pt) (st : Pst) : Nat → ScSt
  | 0 => ⟨[], ps, st⟩
  | k + 1 => if scK ss (scI ss ps st k).h (scI ss ps st k).s = true then ⟨(scI ss ps st k).f ++ [scU ss (scI ss ps st k).h (scI ss ps st k).s], behM (scI ss ps st k).h (scU ss (scI ss ps st k).h (scI ss ps st k).s), scN ss (scI ss ps st k).h (scI ss ps st k).s⟩
    else ⟨(scI ss ps st k).f, (scI ss ps st k).h, scN ss (scI ss ps st k).h (scI ss ps st k).s⟩
def scM (ss ps : List Pt) (most : Int) (st : Pst) : ScSt := scI ss ps (nxt st (most + 1)) (drw st (most + 1)).toNat
end K5

namespace K5
open PySem PySem.Spec PyProof.Rows L2
open Py (rel)
section
variable {P : Program} {w : World} {K : PySem.W.Frag} {mg : Str → Option Value} {base : Heap} {C : Addr}
theorem cmul_r {i j : Int} (h : -(2 ^ 64) < j ∧ j < 2 ^ 64) : CMul i j := .inr h
theorem cmul_l {i j : Int} (h : -(2 ^ 64) < i ∧ i < 2 ^ 64) : CMul i j := .inl h
theorem mxA_rng (t : Pst) : 0 ≤ mxA t ∧ mxA t < 2147483647 := ⟨Int.emod_nonneg _ (by decide), Int.emod_lt_of_pos _ (by decide)⟩
theorem mxB_rng (t : Pst) : 0 ≤ mxB t ∧ mxB t < 2147483647 := ⟨Int.emod_nonneg _ (by decide), Int.emod_lt_of_pos _ (by decide)⟩
def R_Ldraw (K : PySem.W.Frag) : DL → Pst → Dyn → Pst → Prop := fun ds t d t' => ∃ (m : Int), (0 < m ∧ m < 1073741824) ∧ ds = [dy m] ∧ d = dy (drw t m) ∧ t' = nxt t m
theorem S46 : FnScope ["_law_pool_here", "_law_many", "_law_cells", "_law_digit", "_law_mixed"] ["_law_pool_here", "_law_many"] (defScope (top 46)) := ⟨rfl, rfl, rfl, by decide +kernel, rfl, by decide +kernel, by decide +kernel⟩
theorem ok_Ldraw (B : Bn mg)   (D : Df K mg "_law_draw" (top 46) ["_law_pool_here", "_law_many"]) : Fn P w K mg base CX0 1 "_law_draw" (spQ (R_Ldraw K)) := by
  refine fnQ (k := 0) D S46 (fun ds t d t' ⟨_, _, e, _⟩ => by subst e; rfl) fun f cdv A outer s H E ds t d t' hr g hR p c => ?_
  obtain ⟨m, hp, rfl, rfl, rfl⟩ := hR
  obtain ⟨h0, h1⟩ := hp
  refine wb_pool1 (n := t.n + 1) rfl (ev_add (ev_pool 1 rfl (ev_var 0) ev_int rfl rfl) ev_int) (ev_var 0) ev_int ?_
  refine wb_set (st1 := ⟨t.seed, t.n + 1, t.cells⟩) (d := dy (Ad.mk c)) g 2 (ev_pool 2 rfl (ev_var 0) ev_int rfl rfl) ?_
  obtain ⟨sd, n, cells⟩ := t
  cases cells with
  | nil =>
    have a1 := mxA_rng ⟨sd, n, []⟩
    have b1 := mxB_rng ⟨sd, n, []⟩
    refine wb_when (evt_gt (ev_lenC rfl B.len (ev_var 2)) ev_int) (fun h => absurd (show (0 : Int) < 0 from of_decide_eq_true h) (Int.lt_irrefl 0)) fun _ => ?_
    refine wb_set (d := dy (mxA ⟨sd, n, []⟩)) (st1 := ⟨sd, n + 1, []⟩) g 4 (ev_mod (ev_intI B.int (ev_mul (ev_add (ev_pool 0 rfl (ev_var 0) ev_int rfl rfl) (ev_mul ev_int (ev_pool 1 rfl (ev_var 0) ev_int rfl rfl) (cmul_l (by decide)))) ev_int (cmul_r (by decide)))) ev_int (by decide)) ?_
    refine wb_set (d := dy (mxB ⟨sd, n, []⟩)) (st1 := ⟨sd, n + 1, []⟩) g 4 (ev_mod (ev_intI B.int (ev_mul (ev_var 4) (ev_add (ev_div (ev_var 4) ev_int ⟨by decide, by decide⟩) ev_int) (cmul_l (by omega)))) ev_int (by decide)) ?_
    refine wb_set (d := dy (mxC ⟨sd, n, []⟩)) (st1 := ⟨sd, n + 1, []⟩) g 4 (ev_mod (ev_intI B.int (ev_mul (ev_var 4) (ev_add (ev_div (ev_var 4) ev_int ⟨by decide, by decide⟩) ev_int) (cmul_l (by omega)))) ev_int (by decide)) ?_
    exact wb_retQ (u := drw ⟨sd, n, []⟩ m) rfl (.refl _) rfl (ev_mod (ev_intI B.int (ev_div (ev_var 4) ev_int ⟨by decide, by decide⟩)) (ev_var 1) h0)
  | cons c0 cs =>
    refine wb_when (evt_gt (ev_lenC rfl B.len (ev_var 2)) ev_int) (fun _ => ?_) fun h => ?_
    · refine wb_set (d := dy (c0 % m)) (st1 := ⟨sd, n + 1, c0 :: cs⟩) g 3 (ev_mod (ev_intI B.int (ev_cell rfl rfl (ev_var 2) ev_int)) (ev_var 1) h0) ?_
      refine wb_cell0 (n := c0 / m) rfl rfl (ev_div (ev_intI B.int (ev_cell rfl rfl (ev_var 2) ev_int)) (ev_var 1) ⟨h0, h1⟩) (ev_var 2) ev_int ?_
      refine wb_when (evt_eqI (ev_cell rfl rfl (ev_var 2) ev_int) ev_int) (fun h => ?_) fun h => ?_
      · have e : nxt ⟨sd, n, c0 :: cs⟩ m = ⟨sd, n + 1, cs⟩ := by
          show Pst.mk sd (n + 1) (if c0 / m = 0 then cs else c0 / m :: cs) = _
          rw [if_pos (of_decide_eq_true h)]
        rw [e]
        refine wb_cpop (c := c0 / m) (cs := cs) (pp := p) (cc := c) rfl rfl (ev_var 2) ev_int ?_
        exact wb_cont (wb_retQ (u := c0 % m) rfl (.refl _) rfl (ev_var 3))
      · have e : nxt ⟨sd, n, c0 :: cs⟩ m = ⟨sd, n + 1, c0 / m :: cs⟩ := by
          show Pst.mk sd (n + 1) (if c0 / m = 0 then cs else c0 / m :: cs) = _
          rw [if_neg (of_decide_eq_false h)]
        rw [e]
        exact wb_retQ (u := c0 % m) rfl (.refl _) rfl (ev_var 3)
    · have h : ¬ (0 : Int) < ((c0 :: cs).length : Int) := of_decide_eq_false h
      rw [List.length_cons] at h
      omega
def R_Lflag (K : PySem.W.Frag) : DL → Dyn → Prop := fun ds d => ∃ (u v : Bool), (True) ∧ ds = [dy u, dy v] ∧ d = dy (decide (u = v))
theorem S47 : FnScope ["_law_thing", "_law_due"] ["_law_thing", "_law_due"] (defScope (top 47)) := ⟨rfl, rfl, rfl, by decide +kernel, rfl, by decide +kernel, by decide +kernel⟩
theorem ok_Lflag (B : Bn mg)   (D : Df K mg "_law_flag" (top 47) ["_law_thing", "_law_due"]) : Fn P w K mg base CX0 1 "_law_flag" (spP (R_Lflag K)) := by
  refine fnP (k := 0) D S47 (fun ds d ⟨_, _, _, e, _⟩ => by subst e; rfl) fun f cdv A outer s H E ds d hr g hR S0 => ?_
  obtain ⟨u, v, hp, rfl, rfl⟩ := hR
  exact wb_retP rfl (.refl _) rfl (ev_and (p := true) (ev_isBoolB B.isi B.bool (ev_var 0)) fun _ => ev_eqB (ev_var 0) (ev_var 1))
def R_Lsizes (K : PySem.W.Frag) : DL → Pst → Dyn → Pst → Prop := fun ds t d t' => ∃ (most : Int), (0 < most ∧ most ≤ 1000) ∧ ds = [dy most] ∧ d = dy (sizesM t most) ∧ t' = sizesS t most
theorem S49 : FnScope ["_law_pool_here", "_law_most", "_law_far", "_law_box"] ["_law_pool_here", "_law_most"] (defScope (top 49)) := ⟨rfl, rfl, rfl, by decide +kernel, rfl, by decide +kernel, by decide +kernel⟩
theorem ok_Lsizes (B : Bn mg)  (h_Ldraw : Fn P w K mg base CX0 1 "_law_draw" (spQ (R_Ldraw K))) (D : Df K mg "_law_sizes" (top 49) ["_law_pool_here", "_law_most"]) : Fn P w K mg base CX0 2 "_law_sizes" (spQ (R_Lsizes K)) := by
  refine fnQ (k := 1) D S49 (fun ds t d t' ⟨_, _, e, _⟩ => by subst e; rfl) fun f cdv A outer s H E ds t d t' hr g hR p c => ?_
  obtain ⟨most, hp, rfl, rfl, rfl⟩ := hR
  obtain ⟨h0, h1⟩ := hp
  have r5 := drw_rng t (m := 5) (by decide)
  have hfar : 0 < farM t ∧ farM t < 1073741824 := by
    unfold farM
    have : drw t 5 = 0 ∨ drw t 5 = 1 ∨ drw t 5 = 2 ∨ drw t 5 = 3 ∨ drw t 5 = 4 := by omega
    rcases this with e | e | e | e | e <;> rw [e] <;> decide
  have rm := drw_rng (nxt t 5) (m := most) h0
  refine wb_set (d := dy (farM t)) (st1 := nxt t 5) g 2 (ev_ixL (ev_lst (xs := [3, 3, 5, 12, 1000]) (eva_cons ev_int (eva_cons ev_int (eva_cons ev_int (eva_cons ev_int (eva_cons ev_int eva_nil))))) (by show 5 ≤ sizeLine; decide)) (ev_callQ h_Ldraw hr (by decide) pass0 rfl (eva_cons (ev_var 0) (eva_cons (ev_int) eva_nil)) ⟨5, ⟨by decide, by decide⟩, rfl, rfl, rfl⟩) (atI_int r5.1 (by show drw t 5 < 5; exact r5.2))) ?_
  refine wb_retQ (u := sizesM t most) rfl (.refl _) rfl (ev_tuple B.tup (Ev.toS (ev_lcS (zs := seqI 0 (1 + drw (nxt t 5) most).toNat) (ys := sizesM t most) (st1 := nxt (nxt t 5) most) [("_law_box", 3)] g (evi_range (n := 1 + drw (nxt t 5) most) B.rng ⟨by omega, by omega⟩ (ev_add ev_int (ev_callQ h_Ldraw hr (by decide) pass0 rfl (eva_cons (ev_var 0) (eva_cons (ev_var 1) eva_nil)) ⟨most, ⟨h0, by omega⟩, rfl, rfl, rfl⟩))) (szS (farM t) (nxt (nxt t 5) most)) rfl ?_ ?_ (blk_by ["_law_pool_here", "_law_most", "_law_far", "_law_box"] (top 49) rfl rfl (by decide +kernel))
    (fun F' k z D s H C cl fp le hz gb => eg_name gb 3) (fun F' k z y D s H C2 cl fp le hz hy gb => ?_)) ?_))
  · rw [seqI_len]
    unfold sizesM szL szN
    rw [List.length_map, List.length_range]
  · rw [seqI_len]
    omega
  · have hk : k < szN (nxt t 0) most ∨ True := .inr trivial
    unfold sizesM szL at hy
    rw [List.getElem?_map] at hy
    have e : (List.range (szN t most))[k]? = some k := by
      have hl : k < (seqI 0 (1 + drw (nxt t 5) most).toNat).length := (List.getElem?_eq_some_iff.mp hz).1
      rw [seqI_len] at hl
      exact List.getElem?_range hl
    rw [e] at hy
    obtain rfl := (Option.some.inj hy).symm
    exact ev_pair (ev_add ev_int (ev_callQ h_Ldraw hr (by decide) pass0 le.1.1 (eva_cons (ev_var 0) (eva_cons (ev_var 2) eva_nil)) ⟨farM t, hfar, rfl, rfl, rfl⟩)) (ev_add ev_int (ev_callQ h_Ldraw hr (by decide) pass0 le.1.1 (eva_cons (ev_var 0) (eva_cons (ev_var 2) eva_nil)) ⟨farM t, hfar, rfl, rfl, rfl⟩))
  · rw [seqI_len]
    rfl
def R_Lmeet (K : PySem.W.Frag) : DL → Dyn → Prop := fun ds d => ∃ (b l ob ol : Int), (True) ∧ ds = [dy b, dy l, dy ob, dy ol] ∧ d = dy (meetB b l ob ol)
theorem S50 : FnScope ["_law_begin", "_law_length", "_law_other_here", "_law_more"] ["_law_begin", "_law_length", "_law_other_here", "_law_more"] (defScope (top 50)) := ⟨rfl, rfl, rfl, by decide +kernel, rfl, by decide +kernel, by decide +kernel⟩
theorem ok_Lmeet (B : Bn mg)   (D : Df K mg "_law_meet" (top 50) ["_law_begin", "_law_length", "_law_other_here", "_law_more"]) : Fn P w K mg base CX0 1 "_law_meet" (spP (R_Lmeet K)) := by
  refine fnP (k := 0) D S50 (fun ds d ⟨_, _, _, _, _, e, _⟩ => by subst e; rfl) fun f cdv A outer s H E ds d hr g hR S0 => ?_
  obtain ⟨b, l, ob, ol, hp, rfl, rfl⟩ := hR
  exact wb_retP rfl (.refl _) rfl (ev_and (ev_lt (ev_var 0) (ev_add (ev_var 2) (ev_var 3))) fun _ => ev_lt (ev_var 2) (ev_add (ev_var 0) (ev_var 1)))
def R_Lin (K : PySem.W.Frag) : DL → Dyn → Prop := fun ds d => ∃ (wy : Way) (ss ps : List Pt) (i j : Nat), (ps.length = ss.length ∧ i < ss.length ∧ j < ss.length) ∧ ds = [dy wy, dy ss, dy (Sq.mk ps), dy (i : Int), dy (j : Int)] ∧ d = dy (inM ss ps wy i j)
theorem S51 : FnScope ["_law_way", "_law_sizes_here", "_law_places", "_law_one", "_law_other_here", "_law_at"] ["_law_way", "_law_sizes_here", "_law_places", "_law_one", "_law_other_here"] (defScope (top 51)) := ⟨rfl, rfl, rfl, by decide +kernel, rfl, by decide +kernel, by decide +kernel⟩
theorem ok_Lin (B : Bn mg)  (h_Lmeet : Fn P w K mg base CX0 1 "_law_meet" (spP (R_Lmeet K))) (D : Df K mg "_law_in" (top 51) ["_law_way", "_law_sizes_here", "_law_places", "_law_one", "_law_other_here"]) : Fn P w K mg base CX0 2 "_law_in" (spP (R_Lin K)) := by
  refine fnP (k := 1) D S51 (fun ds d ⟨_, _, _, _, _, _, e, _⟩ => by subst e; rfl) fun f cdv A outer s H E ds d hr g hR S0 => ?_
  obtain ⟨wy, ss, ps, i, j, hp, rfl, rfl⟩ := hR
  obtain ⟨hm, hi, hj⟩ := hp
  have ha : ay wy = 0 ∨ ay wy = 1 := by cases wy; exact .inr rfl; exact .inl rfl
  refine wb_set (d := dy (ay wy)) (st1 := st0) g 5 (ev_intB B.int (ev_eqW (ev_var 0) (Ev.word (w := .lev) ev_str))) ?_
  exact wb_retP rfl (.refl _) rfl (ev_callP h_Lmeet hr (by decide) pass0 (eva_cons (ev_ixP (ev_ixS (ev_var 2) (ev_var 3) (atI_k (d := (0, 0)) (by omega))) (ev_var 5) ha) (eva_cons (ev_ixP (ev_ixT (ev_var 1) (ev_var 3) (atI_k (d := (0, 0)) (by omega))) (ev_var 5) ha) (eva_cons (ev_ixP (ev_ixS (ev_var 2) (ev_var 4) (atI_k (d := (0, 0)) (by omega))) (ev_var 5) ha) (eva_cons (ev_ixP (ev_ixT (ev_var 1) (ev_var 4) (atI_k (d := (0, 0)) (by omega))) (ev_var 5) ha) eva_nil)))) ⟨_, _, _, _, trivial, rfl, rfl⟩)
end
end K5

namespace K5
open PySem PySem.Spec PyProof.Rows L2
open Py (rel)
section
variable {P : Program} {w : World} {K : PySem.W.Frag} {mg : Str → Option Value} {base : Heap} {C : Addr}
def R_Loverlaps (K : PySem.W.Frag) : DL → Dyn → Prop := fun ds d => ∃ (ss ps : List Pt), (ps.length = ss.length ∧ ss.length ≤ 40) ∧ ds = [dy ss, dy (PL.mk ps)] ∧ d = dy (PL.mk (lvM ss ps))
theorem S52 : FnScope ["_law_sizes_here", "_law_places", "_law_found", "_law_one", "_law_other_here"] ["_law_sizes_here", "_law_places"] (defScope (top 52)) := ⟨rfl, rfl, rfl, by decide +kernel, rfl, by decide +kernel, by decide +kernel⟩
theorem ok_Loverlaps (B : Bn mg)  (h_Lin : Fn P w K mg base CX0 2 "_law_in" (spP (R_Lin K))) (D : Df K mg "_law_overlaps" (top 52) ["_law_sizes_here", "_law_places"]) : Fn P w K mg base CX0 3 "_law_overlaps" (spP (R_Loverlaps K)) := by
  refine fnP (k := 2) D S52 (fun ds d ⟨_, _, _, e, _⟩ => by subst e; rfl) fun f cdv A outer s H E ds d hr g hR S0 => ?_
  obtain ⟨ss, ps, hp, rfl, rfl⟩ := hR
  obtain ⟨hm, hl⟩ := hp
  have hrow : ∀ i k, (lvRow ss ps i k).length ≤ k := fun i k => by
    induction k with
    | zero => exact Nat.le_refl _
    | succ k ih =>
      unfold lvRow
      split
      · rw [List.length_append]; exact Nat.succ_le_succ ih
      · exact Nat.le_succ_of_le ih
  have hacc : ∀ k, (lvAcc ss ps k).length ≤ k * 40 := fun k => by
    induction k with
    | zero => exact Nat.le_refl _
    | succ k ih =>
      unfold lvAcc
      rw [List.length_append]
      have := hrow k (ss.length - (k + 1))
      omega
  refine wb_new g 2 eva_nil (by decide) fun q => ?_
  refine wb_for g (evi_range (n := (ss.length : Int)) B.rng ⟨by omega, by omega⟩ (ev_len B.len (ev_var 0))) (fun _ => [some (dy ss), some (dy (PL.mk ps)), some (dy (Ad.mk q)), none, none]) (fun k => [(q, (lvAcc ss ps k).map dy)]) (fun _ => st0) rfl rfl (.refl _) (fun k => keys_same) (fun F' i x le hx => ?_) ?_
  · obtain ⟨hi, rfl⟩ := seq_at hx
    have hi : i < ss.length := by omega
    have en : ((ss.length : Int) - ((i + 1 : Nat) : Int)).toNat = ss.length - (i + 1) := by omega
    refine ⟨_, _, eg_name g 3, ?_⟩
    refine wb_for g (evi_range2 (m := ((i + 1 : Nat) : Int)) (n := (ss.length : Int)) B.rng (by omega) (Ev.to (d := dy ((i : Int) + 1)) (ev_add (ev_var 3) ev_int) rfl) (ev_len B.len (ev_var 0))) (fun _ => [some (dy ss), some (dy (PL.mk ps)), some (dy (Ad.mk q)), some (dy (i : Int)), none]) (fun k => [(q, (lvAcc ss ps i ++ lvRow ss ps i k).map dy)]) (fun _ => st0) (by rw [show lvRow ss ps i 0 = [] from rfl, List.append_nil]) rfl (by repeat (first | exact .nil | refine .same ?_ | refine .drop ?_)) (fun k => keys_same) (fun F2 j x le2 hx2 => ?_) ?_
    · obtain ⟨hj, rfl⟩ := seq_at' hx2
      have hj : i + 1 + j < ss.length := by omega
      refine ⟨_, _, eg_name g 4, ?_⟩
      refine wb_when (EvW.t (evw_and (evt_val (ev_callP h_Lin hr (by decide) pass0 (eva_cons (Ev.word (w := .lev) ev_str) (eva_cons (ev_var 0) (eva_cons ((ev_var 1).sqL) (eva_cons (ev_var 3) (eva_cons (ev_var 4) eva_nil))))) ⟨.lev, ss, ps, i, i + 1 + j, ⟨hm, hi, hj⟩, rfl, rfl⟩)) fun _ => evw_and1 (evt_val (ev_callP h_Lin hr (by decide) pass0 (eva_cons (Ev.word (w := .upr) ev_str) (eva_cons (ev_var 0) (eva_cons ((ev_var 1).sqL) (eva_cons (ev_var 3) (eva_cons (ev_var 4) eva_nil))))) ⟨.upr, ss, ps, i, i + 1 + j, ⟨hm, hi, hj⟩, rfl, rfl⟩)))) (fun h => ?_) (fun h => ?_)
      · refine wb_append (st1 := st0) (d := dy ((i : Int), ((i + 1 + j : Nat) : Int))) (ev_var 2) (ev_pair (ev_var 3) (ev_var 4)) ?_ (wb_cont (wb_end rfl (by repeat (first | exact .nil | refine .same ?_ | refine .drop ?_)) ?_))
        · have h1 := hacc i
          have h2 := hrow i j
          rw [List.length_map, List.length_append]
          omega
        · rw [show lvRow ss ps i (j + 1) = lvRow ss ps i j ++ [((i : Int), ((i + 1 + j : Nat) : Int))] from if_pos h, ← List.append_assoc, map_snoc (lvAcc ss ps i ++ lvRow ss ps i j)]
      · refine wb_end rfl (by repeat (first | exact .nil | refine .same ?_ | refine .drop ?_)) ?_
        rw [show lvRow ss ps i (j + 1) = lvRow ss ps i j from if_neg (by rw [h]; exact Bool.false_ne_true)]
    · refine wb_end rfl (by repeat (first | exact .nil | refine .same ?_ | refine .drop ?_)) ?_
      show [(q, (lvAcc ss ps i ++ lvRow ss ps i _).map dy)] = [(q, (lvAcc ss ps (i + 1)).map dy)]
      rw [List.length_map, seqI_len, en]
      rfl
  · rw [seq_len]
    exact wb_retO rfl (.refl _) rfl (ev_var 2)
def R_Lbeside (K : PySem.W.Frag) : DL → Pst → Dyn → Pst → Prop := fun ds t d t' => ∃ (ss ps : List Pt) (b : Nat), (0 < ps.length ∧ ps.length ≤ ss.length ∧ ss.length ≤ 40 ∧ b < ss.length) ∧ ds = [dy ss, dy (PL.mk ps), dy (b : Int)] ∧ d = dy (bsdM ss ps b t) ∧ t' = bsdS ps.length t
theorem S53 : FnScope ["_law_pool_here", "_law_sizes_here", "_law_places", "_law_box", "_law_elder", "_law_x", "_law_y", "_law_wide", "_law_high", "_law_some", "_law_spot"] ["_law_pool_here", "_law_sizes_here", "_law_places", "_law_box"] (defScope (top 53)) := ⟨rfl, rfl, rfl, by decide +kernel, rfl, by decide +kernel, by decide +kernel⟩
theorem ok_Lbeside (B : Bn mg)  (h_Ldraw : Fn P w K mg base CX0 1 "_law_draw" (spQ (R_Ldraw K))) (D : Df K mg "_law_beside" (top 53) ["_law_pool_here", "_law_sizes_here", "_law_places", "_law_box"]) : Fn P w K mg base CX0 2 "_law_beside" (spQ (R_Lbeside K)) := by
  refine fnQ (k := 1) D S53 (fun ds t d t' ⟨_, _, _, _, e, _⟩ => by subst e; rfl) fun f cdv A outer s H E ds t d t' hr g hR p c => ?_
  obtain ⟨ss, ps, b, hp, rfl, rfl, rfl⟩ := hR
  obtain ⟨h0, hm, hl, hb⟩ := hp
  have r0 := drw_rng t (m := (ps.length : Int)) (by omega)
  have r1 := drw_rng (nxt t ps.length) (m := 5) (by decide)
  have he : bsdE ps.length t < ps.length := by unfold bsdE; omega
  have ce : ((bsdE ps.length t : Nat) : Int) = drw t ps.length := by unfold bsdE; omega
  refine wb_set (d := dy ((bsdE ps.length t : Nat) : Int)) (st1 := nxt t ps.length) g 4 (Ev.to (ev_callQ h_Ldraw hr (by decide) pass0 rfl (eva_cons (ev_var 0) (eva_cons (ev_lenL B.len (ev_var 2)) eva_nil)) ⟨(ps.length : Int), ⟨by omega, by omega⟩, rfl, rfl, rfl⟩) (by rw [ce])) ?_
  refine wb_asg (ev_ixL (u := pt ps (bsdE ps.length t)) (ev_var 2) (ev_var 4) (atI_k he)) (eg_pair g (egs_cons (eg_name g 5) (egs_cons (eg_name g 6) egs_nil))) ?_
  refine wb_asg (ev_ixT (u := pt ss (bsdE ps.length t)) (ev_var 1) (ev_var 4) (atI_k (by omega))) (eg_pair g (egs_cons (eg_name g 7) (egs_cons (eg_name g 8) egs_nil))) ?_
  refine wb_set (d := dy (PL.mk (bsdL (pt ps (bsdE ps.length t)) (pt ss (bsdE ps.length t)) (pt ss b)))) (st1 := nxt t ps.length) g 9 (ev_lst (eva_cons (ev_pair (ev_add (ev_var 5) (ev_var 7)) (ev_var 6)) (eva_cons (ev_pair (ev_sub (ev_var 5) (ev_fst (ev_ixT (ev_var 1) (ev_var 3) (atI_k (d := (0, 0)) hb)) ev_int)) (ev_var 6)) (eva_cons (ev_pair (ev_var 5) (ev_add (ev_var 6) (ev_var 8))) (eva_cons (ev_pair (ev_var 5) (ev_sub (ev_var 6) (ev_snd (ev_ixT (ev_var 1) (ev_var 3) (atI_k (d := (0, 0)) hb)) ev_int))) (eva_cons (ev_pair (ev_add (ev_var 5) (ev_var 7)) (ev_add (ev_var 6) (ev_var 8))) eva_nil))))) (by show 5 ≤ sizeLine; decide)) ?_
  refine wb_set (d := dy (bsdP ss ps b t)) (st1 := bsd2 ps.length t) g 10 (ev_ixL (ev_var 9) (ev_callQ h_Ldraw hr (by decide) pass0 rfl (eva_cons (ev_var 0) (eva_cons (ev_int) eva_nil)) ⟨5, ⟨by decide, by decide⟩, rfl, rfl, rfl⟩) (atI_int r1.1 (by show drw (nxt t ps.length) 5 < 5; exact r1.2))) ?_
  by_cases hz : drw (bsd2 ps.length t) 2 = 0
  · have e1 : bsdM ss ps b t = ((bsdP ss ps b t).1 + drw (nxt (bsd2 ps.length t) 2) 3 - 1, (bsdP ss ps b t).2 + drw (nxt (nxt (bsd2 ps.length t) 2) 3) 3 - 1) := if_pos hz
    have e2 : bsdS ps.length t = nxt (nxt (nxt (bsd2 ps.length t) 2) 3) 3 := if_pos hz
    rw [e1, e2]
    exact wb_retQ rfl (.refl _) rfl (ev_if (evt_eqI (ev_callQ h_Ldraw hr (by decide) pass0 rfl (eva_cons (ev_var 0) (eva_cons (ev_int) eva_nil)) ⟨2, ⟨by decide, by decide⟩, rfl, rfl, rfl⟩) ev_int) (fun _ => ev_pair (ev_sub (ev_add (ev_fst (ev_var 10) ev_int) (ev_callQ h_Ldraw hr (by decide) pass0 rfl (eva_cons (ev_var 0) (eva_cons (ev_int) eva_nil)) ⟨3, ⟨by decide, by decide⟩, rfl, rfl, rfl⟩)) ev_int) (ev_sub (ev_add (ev_snd (ev_var 10) ev_int) (ev_callQ h_Ldraw hr (by decide) pass0 rfl (eva_cons (ev_var 0) (eva_cons (ev_int) eva_nil)) ⟨3, ⟨by decide, by decide⟩, rfl, rfl, rfl⟩)) ev_int)) (fun h => absurd hz (of_decide_eq_false h)))
  · have e1 : bsdM ss ps b t = bsdP ss ps b t := if_neg hz
    have e2 : bsdS ps.length t = nxt (bsd2 ps.length t) 2 := if_neg hz
    rw [e1, e2]
    exact wb_retQ rfl (.refl _) rfl (ev_if (evt_eqI (ev_callQ h_Ldraw hr (by decide) pass0 rfl (eva_cons (ev_var 0) (eva_cons (ev_int) eva_nil)) ⟨2, ⟨by decide, by decide⟩, rfl, rfl, rfl⟩) ev_int) (fun h => absurd (of_decide_eq_true h) hz) (fun _ => ev_var 10))
end
end K5

namespace K5
theorem foldl_max_le {b : Int} : ∀ {l : List Int} {n : Int}, (∀ x ∈ l, x ≤ b) → n ≤ b → l.foldl max n ≤ b
  | [], _, _, h => h
  | x :: l, n, hl, h => by
    rw [List.foldl_cons]
    exact foldl_max_le (fun y hy => hl y (List.mem_cons_of_mem _ hy)) (by have := hl x List.mem_cons_self; omega)
theorem le_foldl_max : ∀ {l : List Int} {n : Int}, n ≤ l.foldl max n
  | [], _ => Int.le_refl _
  | x :: l, n => by
    rw [List.foldl_cons]
    have := le_foldl_max (l := l) (n := max n x)
    omega
theorem mem_foldl_max : ∀ {l : List Int} {n x : Int}, x ∈ l → x ≤ l.foldl max n
  | y :: l, n, x, h => by
    rw [List.foldl_cons]
    rcases List.mem_cons.mp h with e | e
    · subst e
      have := le_foldl_max (l := l) (n := max n x)
      omega
    · exact mem_foldl_max e
theorem maxL_le {b : Int} {l : List Int} (h : ∀ x ∈ l, x ≤ b) (h0 : l ≠ []) : maxL l ≤ b := by
  cases l with
  | nil => exact absurd rfl h0
  | cons n l => exact foldl_max_le (fun x hx => h x (List.mem_cons_of_mem _ hx)) (h n List.mem_cons_self)
theorem le_maxL {l : List Int} {x : Int} (h : x ∈ l) : x ≤ maxL l := by
  cases l with
  | nil => cases h
  | cons n l =>
    rcases List.mem_cons.mp h with e | e
    · subst e; exact le_foldl_max
    · exact mem_foldl_max e
/-- sizes of boxes -/
def SzOk (ss : List Pt) : Prop := 0 < ss.length ∧ ss.length ≤ 40 ∧ ∀ z ∈ ss, (1 ≤ z.1 ∧ z.1 ≤ 1000) ∧ 1 ≤ z.2 ∧ z.2 ≤ 1000
theorem max2_rng {z : Pt} (h : (1 ≤ z.1 ∧ z.1 ≤ 1000) ∧ 1 ≤ z.2 ∧ z.2 ≤ 1000) : 1 ≤ maxL [z.1, z.2] ∧ maxL [z.1, z.2] ≤ 1000 := by
  have e : maxL [z.1, z.2] = max z.1 z.2 := rfl
  rw [e]
  omega
theorem span_rng {ss : List Pt} (h : SzOk ss) (st : Pst) : 2 ≤ spanM ss st ∧ spanM ss st ≤ 4001 := by
  obtain ⟨h0, _, h1⟩ := h
  have hd := drw_rng st (m := 4) (by decide)
  have hu : maxL (ss.map fun z => maxL [z.1, z.2]) ≤ 1000 := maxL_le (fun x hx => by
    obtain ⟨z, hz, rfl⟩ := List.mem_map.mp hx
    exact (max2_rng (h1 z hz)).2) (fun e => by
    have := congrArg List.length e
    rw [List.length_map] at this
    simp at this
    rw [this] at h0
    exact absurd h0 (by decide))
  obtain ⟨z, hz⟩ : ∃ z, z ∈ ss := by
    cases ss with
    | nil => exact absurd h0 (by decide)
    | cons z r => exact ⟨z, List.mem_cons_self⟩
  have hl : 1 ≤ maxL (ss.map fun z => maxL [z.1, z.2]) := Int.le_trans (max2_rng (h1 z hz)).1 (le_maxL (List.mem_map.mpr ⟨z, hz, rfl⟩))
  unfold spanM
  generalize maxL (ss.map fun z => maxL [z.1, z.2]) = a at hu hl
  generalize hb : drw st 4 = b at hd
  have hb4 : b = 0 ∨ b = 1 ∨ b = 2 ∨ b = 3 := by omega
  rcases hb4 with e | e | e | e <;> subst e <;> omega
theorem shI_len (ss : List Pt) (sp : Int) (st : Pst) : ∀ k, (shI ss sp st k).1.length = k
  | 0 => rfl
  | k + 1 => by
    show ((shI ss sp st k).1 ++ [_]).length = k + 1
    rw [List.length_append, shI_len]
    rfl
theorem shown_len (ss : List Pt) (st : Pst) : (shownM ss st).length = ss.length := shI_len _ _ _ _
theorem lvM_one {ss ps : List Pt} (h : ss.length ≤ 1) : lvM ss ps = [] := by
  unfold lvM
  have e : ss.length = 0 ∨ ss.length = 1 := by omega
  rcases e with e | e
  · rw [e]; rfl
  · rw [e]
    show [] ++ lvRow ss ps 0 (ss.length - 1) = []
    rw [e]
    rfl
/-- the first box finds its spot at once -/
theorem trI_first (ss : List Pt) (sp : Int) (st : Pst) : ∀ k, ∃ p, (trI ss [] 0 sp st (k + 1)).1 = some p
  | 0 => by
    refine ⟨trH ss [] 0 sp st, ?_⟩
    show trO ss [] 0 none (trH ss [] 0 sp st) = _
    have e : lvM (ss.take (0 + 1)) ([] ++ [trH ss [] 0 sp st]) = [] := lvM_one (by rw [List.length_take]; omega)
    exact (if_pos rfl).trans (if_pos e)
  | k + 1 => by
    obtain ⟨p, h⟩ := trI_first ss sp st k
    refine ⟨p, ?_⟩
    show trO ss [] 0 (trI ss [] 0 sp st (k + 1)).1 _ = _
    rw [h]
    rfl
theorem seq_map {α : Type} (f : Int → α) (n : Nat) : (seqI 0 n).map f = (List.range n).map fun (i : Nat) => f (i : Int) := by
  unfold seqI
  rw [List.map_map]
  refine List.map_congr_left fun i _ => ?_
  show f (0 + (i : Int)) = f (i : Int)
  rw [Int.zero_add]
end K5

namespace K5
open PySem PySem.Spec PyProof.Rows L2
open Py (rel)
section
variable {P : Program} {w : World} {K : PySem.W.Frag} {mg : Str → Option Value} {base : Heap} {C : Addr}
def R_Lshown (K : PySem.W.Frag) : DL → Pst → Dyn → Pst → Prop := fun ds t d t' => ∃ (ss : List Pt), (SzOk ss) ∧ ds = [dy ss] ∧ d = dy (shownM ss t) ∧ t' = shownS ss t
theorem S54 : FnScope ["_law_pool_here", "_law_sizes_here", "_law_span", "_law_places", "_law_size", "_law_box", "_law_spot", "_law_turn", "_law_here", "_law_at"] ["_law_pool_here", "_law_sizes_here"] (defScope (top 54)) := ⟨rfl, rfl, rfl, by decide +kernel, rfl, by decide +kernel, by decide +kernel⟩
theorem ok_Lshown (B : Bn mg)  (h_Ldraw : Fn P w K mg base CX0 1 "_law_draw" (spQ (R_Ldraw K))) (h_Lbeside : Fn P w K mg base CX0 2 "_law_beside" (spQ (R_Lbeside K))) (h_Loverlaps : Fn P w K mg base CX0 3 "_law_overlaps" (spP (R_Loverlaps K))) (D : Df K mg "_law_shown" (top 54) ["_law_pool_here", "_law_sizes_here"]) : Fn P w K mg base CX0 4 "_law_shown" (spQ (R_Lshown K)) := by
  refine fnQ (k := 3) D S54 (fun ds t d t' ⟨_, _, e, _⟩ => by subst e; rfl) fun f cdv A outer s H E ds t d t' hr g hR p c => ?_
  obtain ⟨ss, hp, rfl, rfl, rfl⟩ := hR
  obtain ⟨h0, hl, hz⟩ := id hp
  have hs := span_rng hp t
  have hne : (ss.map fun z => maxL [z.1, z.2]) ≠ [] := fun e => by
    have := congrArg List.length e
    rw [List.length_map] at this
    simp at this
    rw [this] at h0
    exact absurd h0 (by decide)
  have r4 := drw_rng t (m := 4) (by decide)
  unfold shownM shownS
  refine wb_asgN (u := spanM ss t) (st1 := nxt t 4) g 2 3 (ev_add ev_int (ev_mul (ev_max g B.max hne (ev_lcM (f := fun z : Pt => maxL [z.1, z.2]) [("_law_size", 4)] g (evi_tup (ev_var 1)) (by omega) (blk_by ["_law_pool_here", "_law_sizes_here", "_law_span", "_law_places", "_law_size", "_law_box", "_law_spot", "_law_turn", "_law_here", "_law_at"] (top 54) rfl rfl (by decide +kernel)) (fun F' k z D s H C2 cl fp le hz gb => eg_name gb 4) (fun F' k z D s H C2 cl fp le hz gb => ev_maxT gb B.max (by simp) ((ev_var 4 (d := dy z)).toL)))) (ev_add ev_int (ev_callQ h_Ldraw hr (by decide) pass0 rfl (eva_cons (ev_var 0) (eva_cons (ev_int) eva_nil)) ⟨4, ⟨by decide, by decide⟩, rfl, rfl, rfl⟩)) (cmul_r (by omega)))) fun q => ?_
  generalize spanM ss t = sp at hs
  generalize nxt t 4 = t4
  refine wb_for g (evi_range (n := (ss.length : Int)) B.rng ⟨by omega, by omega⟩ (ev_len B.len (ev_var 1))) (fun _ => [some (dy (Ad.mk p)), some (dy ss), some (dy sp), some (dy (Ad.mk q)), none, none, none, none, none, none]) (fun k => [(q, (shI ss sp t4 k).1.map dy)]) (fun k => (shI ss sp t4 k).2) rfl rfl (.refl _) (fun k => keys_same) (fun F' b x le hx => ?_) ?_
  · obtain ⟨hb, rfl⟩ := seq_at hx
    have hb : b < ss.length := by omega
    refine ⟨_, _, eg_name g 5, ?_⟩
    have hlen := shI_len ss sp t4 b
    have hnx : shI ss sp t4 (b + 1) = ((shI ss sp t4 b).1 ++ [bxP ss (shI ss sp t4 b).1 b sp (shI ss sp t4 b).2], bxS ss (shI ss sp t4 b).1 b sp (shI ss sp t4 b).2) := rfl
    rw [hnx]
    generalize (shI ss sp t4 b).1 = ps at hlen
    generalize (shI ss sp t4 b).2 = tb
    refine wb_set (d := dy (none : Option Pt)) (st1 := tb) g 6 ev_none ?_
    refine wb_for g (evi_range (n := 5) B.rng (by decide) ev_int) (fun j => [some (dy (Ad.mk p)), some (dy ss), some (dy sp), some (dy (Ad.mk q)), none, some (dy (b : Int)), some (dy (trI ss ps b sp tb j).1), none, none, none]) (fun _ => [(q, ps.map dy)]) (fun j => (trI ss ps b sp tb j).2) rfl rfl (by repeat (first | exact .nil | refine .same ?_ | refine .drop ?_)) (fun _ => rfl) (fun F2 j x le2 hx2 => ?_) ?_
    · obtain ⟨hj, rfl⟩ := seq_at hx2
      refine ⟨_, _, eg_name g 7, ?_⟩
      have le3 := le.trans le2
      have hnj : trI ss ps b sp tb (j + 1) = (trO ss ps b (trI ss ps b sp tb j).1 (trH ss ps b sp (trI ss ps b sp tb j).2), trS ps.length sp (trI ss ps b sp tb j).2) := rfl
      rw [hnj]
      generalize (trI ss ps b sp tb j).1 = o
      generalize (trI ss ps b sp tb j).2 = tj
      refine wb_set (d := dy (tr0 sp tj)) (st1 := tr1 sp tj) g 8 (ev_pair (ev_sub (ev_callQ h_Ldraw hr (by decide) pass0 le3.1.1 (eva_cons (ev_var 0) (eva_cons (ev_mul ev_int (ev_var 2) (cmul_l (by decide))) eva_nil)) ⟨2 * sp, ⟨by omega, by omega⟩, rfl, rfl, rfl⟩) (ev_var 2)) (ev_sub (ev_callQ h_Ldraw hr (by decide) pass0 le3.1.1 (eva_cons (ev_var 0) (eva_cons (ev_mul ev_int (ev_var 2) (cmul_l (by decide))) eva_nil)) ⟨2 * sp, ⟨by omega, by omega⟩, rfl, rfl, rfl⟩) (ev_var 2))) ?_
      refine wb_whenE [some (dy (Ad.mk p)), some (dy ss), some (dy sp), some (dy (Ad.mk q)), none, some (dy (b : Int)), some (dy o), none, some (dy (trH ss ps b sp tj)), none] [(q, ps.map dy)] (trS ps.length sp tj) ?_ ?_
      · by_cases hz : ps.length = 0
        · have e1 : trH ss ps b sp tj = tr0 sp tj := if_pos hz
          have e2 : trS ps.length sp tj = tr1 sp tj := if_pos hz
          rw [e1, e2]
          exact ⟨false, tr1 sp tj, (evw_andF (EvT.to (evt_gt (ev_lenO B.len List.mem_cons_self (ev_var 3)) ev_int) (decide_eq_false (by rw [List.length_map]; omega)))).t, fun h => (by cases h), fun _ => wb_end rfl (by repeat (first | exact .nil | refine .same ?_ | refine .drop ?_)) rfl⟩
        · refine ⟨decide (drw (tr1 sp tj) 2 = 0), nxt (tr1 sp tj) 2, (evw_andT (EvT.to (evt_gt (ev_lenO B.len List.mem_cons_self (ev_var 3)) ev_int) (decide_eq_true (by rw [List.length_map]; omega))) (evw_and1 (evt_eqI (ev_callQ h_Ldraw hr (by decide) pass0 le3.1.1 (eva_cons (ev_var 0) (eva_cons (ev_int) eva_nil)) ⟨2, ⟨by decide, by decide⟩, rfl, rfl, rfl⟩) ev_int))).t, fun h => ?_, fun h => ?_⟩
          · have e1 : trH ss ps b sp tj = bsdM ss ps b (nxt (tr1 sp tj) 2) := (if_neg hz).trans (if_pos (of_decide_eq_true h))
            have e2 : trS ps.length sp tj = bsdS ps.length (nxt (tr1 sp tj) 2) := (if_neg hz).trans (if_pos (of_decide_eq_true h))
            rw [e1, e2]
            refine wb_set (d := dy (bsdM ss ps b (nxt (tr1 sp tj) 2))) (st1 := bsdS ps.length (nxt (tr1 sp tj) 2)) g 8 (ev_callQ' (ds0 := [dy (Ad.mk p), dy ss, dy (Ad.mk q), dy (b : Int)]) (ds := [dy ss, dy (PL.mk ps), dy (b : Int)]) h_Lbeside hr (by decide) pass0 le3.1.1 (eva_cons (ev_var 0) (eva_cons (ev_var 1) (eva_cons (ev_var 3) (eva_cons (ev_var 5) eva_nil)))) (fun vs σ H ok r => ?_) ⟨ss, ps, b, ⟨by omega, by omega, hl, hb⟩, rfl, rfl, rfl⟩) (wb_end rfl (by repeat (first | exact .nil | refine .same ?_ | refine .drop ?_)) rfl)
            have hS : ∀ a, (a = p ∨ a = c) → keys F2 [(q, ps.map dy)] a := fun a z => .inl (.inr ⟨p, c, le3.1.1, z⟩)
            have hq : ¬ (q = p ∨ q = c) := fun z => ok.np (q, ps.map dy) List.mem_cons_self ⟨p, c, le3.1.1, z⟩
            cases r with
            | cons r1 r =>
              cases r with
              | cons r2 r =>
                cases r with
                | cons r3 r =>
                  cases r with
                  | cons r4 r =>
                    cases r
                    exact .cons (Dyn.sub (fun a z => .inl (hS a z)) r1) (.cons (Dyn.sub (fun a z => .inl (hS a z)) r2) (.cons (view_own ok List.mem_cons_self hS hq r3) (.cons (Dyn.sub (fun a z => .inl (hS a z)) r4) .nil)))
          · have e1 : trH ss ps b sp tj = tr0 sp tj := (if_neg hz).trans (if_neg (of_decide_eq_false h))
            have e2 : trS ps.length sp tj = nxt (tr1 sp tj) 2 := (if_neg hz).trans (if_neg (of_decide_eq_false h))
            rw [e1, e2]
            exact wb_end rfl (by repeat (first | exact .nil | refine .same ?_ | refine .drop ?_)) rfl
      · generalize trH ss ps b sp tj = h
        generalize trS ps.length sp tj = tk
        refine wb_whenE [some (dy (Ad.mk p)), some (dy ss), some (dy sp), some (dy (Ad.mk q)), none, some (dy (b : Int)), some (dy (trO ss ps b o h)), none, some (dy h), none] [(q, ps.map dy)] tk ?_ (wb_end rfl (by repeat (first | exact .nil | refine .same ?_ | refine .drop ?_)) rfl)
        cases o with
        | some v => exact ⟨false, tk, (evw_andF (EvT.to (evt_isNP (o := some v) (ev_var 6)) rfl)).t, fun h => (by cases h), fun _ => wb_end rfl (by repeat (first | exact .nil | refine .same ?_ | refine .drop ?_)) rfl⟩
        | none =>
          refine ⟨(lvM (ss.take (b + 1)) (ps ++ [h])).isEmpty, tk, (evw_andT (EvT.to (evt_isNP (o := none) (ev_var 6)) rfl) (evw_and1 (EvT.to (evt_eqD g (ev_callP h_Loverlaps hr (by decide) pass0 (eva_cons (ev_to (n := b + 1) (ev_var 1) (Ev.to (d := dy ((b : Int) + 1)) (ev_add (ev_var 5) ev_int) rfl)) (eva_cons (ev_catO (xs := ps) (ys := [h]) List.mem_cons_self (by show ps.length + 1 ≤ 100000; omega) (ev_var 3) (ev_lst (xs := [h]) (eva_cons (ev_var 8) eva_nil) (by show 1 ≤ sizeLine; decide))) eva_nil)) ⟨ss.take (b + 1), ps ++ [h], ⟨by rw [List.length_append, List.length_take, hlen, Nat.min_eq_left (by omega)]; rfl, by rw [List.length_take]; omega⟩, rfl, rfl⟩) (ev_lst (xs := ([] : List Pt)) eva_nil (by show 0 ≤ sizeLine; decide))) (eqd_nil _)))).t, fun h2 => ?_, fun h2 => ?_⟩
          · have e : trO ss ps b none h = some h := (if_pos rfl).trans (if_pos (List.isEmpty_iff.mp h2))
            rw [e]
            exact wb_set (d := dy (some h : Option Pt)) (st1 := tk) g 6 ((ev_var 8).some) (wb_end rfl (by repeat (first | exact .nil | refine .same ?_ | refine .drop ?_)) rfl)
          · have e : trO ss ps b none h = none := (if_pos rfl).trans (if_neg (fun z => by rw [z] at h2; cases h2))
            rw [e]
            exact wb_end rfl (by repeat (first | exact .nil | refine .same ?_ | refine .drop ?_)) rfl
    · rw [show ((seqI 0 (5 : Int).toNat).map dy).length = 5 from rfl]
      refine wb_whenE [some (dy (Ad.mk p)), some (dy ss), some (dy sp), some (dy (Ad.mk q)), none, some (dy (b : Int)), some (dy (some (bxP ss ps b sp tb) : Option Pt)), none, none, none] [(q, ps.map dy)] (bxS ss ps b sp tb) ?_ ?_
      · cases ho : (trI ss ps b sp tb 5).1 with
        | some v =>
          have e1 : bxP ss ps b sp tb = v := by unfold bxP; rw [ho]
          have e2 : bxS ss ps b sp tb = (trI ss ps b sp tb 5).2 := by unfold bxS; rw [ho]
          rw [e1, e2]
          exact ⟨false, _, EvT.to (evt_isNP (o := some v) (ev_var 6)) rfl, fun h => (by cases h), fun _ => wb_end rfl (by repeat (first | exact .nil | refine .same ?_ | refine .drop ?_)) rfl⟩
        | none =>
          have hb0 : 0 < b := by
            rcases Nat.eq_zero_or_pos b with z | z
            · subst z
              have e0 : ps = [] := List.length_eq_zero_iff.mp hlen
              subst e0
              obtain ⟨v, hv⟩ := trI_first ss sp tb 4
              rw [ho] at hv
              cases hv
            · exact z
          have e1 : bxP ss ps b sp tb = (drw (trI ss ps b sp tb 5).2 sp, lowM ss ps b) := by unfold bxP; rw [ho]
          have e2 : bxS ss ps b sp tb = nxt (trI ss ps b sp tb 5).2 sp := by unfold bxS; rw [ho]
          rw [e1, e2]
          generalize (trI ss ps b sp tb 5).2 = t5
          have el : lowM ss ps b = maxL ((seqI 0 b).map fun z => (pt ps z.toNat).2 + (pt ss z.toNat).2) := by rw [seq_map]; rfl
          rw [el]
          have hn : ((seqI 0 b).map fun z => (pt ps z.toNat).2 + (pt ss z.toNat).2) ≠ [] := fun z => by
            have := congrArg List.length z
            rw [List.length_map, seqI_len] at this
            simp at this
            omega
          refine ⟨true, t5, EvT.to (evt_isNP (o := none) (ev_var 6)) rfl, fun _ => ?_, fun h => (by cases h)⟩
          refine wb_set (d := dy (some (drw t5 sp, maxL ((seqI 0 b).map fun z => (pt ps z.toNat).2 + (pt ss z.toNat).2)) : Option Pt)) (st1 := nxt t5 sp) g 6 (Ev.some (ev_pair (ev_callQ h_Ldraw hr (by decide) pass0 le.1.1 (eva_cons (ev_var 0) (eva_cons (ev_var 2) eva_nil)) ⟨sp, ⟨by omega, by omega⟩, rfl, rfl, rfl⟩) (ev_max g B.max hn (ev_lcM (zs := seqI 0 b) (f := fun z => (pt ps z.toNat).2 + (pt ss z.toNat).2) [("_law_at", 9)] g (evi_range (n := (b : Int)) B.rng ⟨by omega, by omega⟩ (ev_var 5)) (by rw [seqI_len]; omega) (blk_by ["_law_pool_here", "_law_sizes_here", "_law_span", "_law_places", "_law_size", "_law_box", "_law_spot", "_law_turn", "_law_here", "_law_at"] (top 54) rfl rfl (by decide +kernel)) (fun F3 k z D s H C2 cl fp le5 hz gb => eg_name gb 9) (fun F3 k z D s H C2 cl fp le5 hz gb => ?_))))) (wb_end rfl (by repeat (first | exact .nil | refine .same ?_ | refine .drop ?_)) rfl)
          have hk : k < b := by
            have h := (List.getElem?_eq_some_iff.mp hz).1
            rw [seqI_len] at h
            exact h
          rw [seqI_get hk, Int.zero_add] at hz
          obtain rfl := (Option.some.inj hz).symm
          exact ev_add (ev_snd (ev_ixO (ev_var 3) (ev_var 9) (List.mem_cons_of_mem _ List.mem_cons_self) (atD_dy (atI_k (d := (0, 0)) (by omega)))) ev_int) (ev_snd (ev_ixT (ev_var 1) (ev_var 9) (atI_k (d := (0, 0)) (by omega))) ev_int)
      · refine wb_append (st1 := bxS ss ps b sp tb) (d := dy (bxP ss ps b sp tb)) (ev_var 3) (Ev.unsome (ev_var 6)) (by rw [List.length_map]; omega) (wb_end rfl (by repeat (first | exact .nil | refine .same ?_ | refine .drop ?_)) ?_)
        rw [map_snoc]
  · rw [seq_len]
    exact wb_retQ rfl (.refl _) rfl (ev_tupleO B.tup List.mem_cons_self (ev_var 3))
end
end K5

namespace K5
open PySem PySem.Spec PyProof.Rows L2
open Py (rel)
section
variable {P : Program} {w : World} {K : PySem.W.Frag} {mg : Str → Option Value} {base : Heap} {C : Addr}
theorem zip_flip {α β γ : Type} (f : α × β → γ) : ∀ (xs : List α) (ys : List β), (xs.zip ys).map f = (ys.zip xs).map fun z => f (z.2, z.1)
  | [], [] => rfl
  | [], _ :: _ => rfl
  | _ :: _, [] => rfl
  | x :: xs, y :: ys => by
    rw [List.zip_cons_cons, List.zip_cons_cons, List.map_cons, List.map_cons, zip_flip f xs ys]
def R_Lother (K : PySem.W.Frag) : DL → Pst → Dyn → Pst → Prop := fun ds t d t' => ∃ (ss ps : List Pt), (SzOk ss ∧ ps.length = ss.length) ∧ ds = [dy ss, dy ps] ∧ d = dy (othM ss ps t) ∧ t' = othS ss t
theorem S55 : FnScope ["_law_pool_here", "_law_sizes_here", "_law_places", "_law_kind", "_law_x", "_law_y", "_law_size", "_law_one", "_law_other_here", "_law_found"] ["_law_pool_here", "_law_sizes_here", "_law_places"] (defScope (top 55)) := ⟨rfl, rfl, rfl, by decide +kernel, rfl, by decide +kernel, by decide +kernel⟩
theorem ok_Lother (B : Bn mg)  (h_Ldraw : Fn P w K mg base CX0 1 "_law_draw" (spQ (R_Ldraw K))) (h_Loverlaps : Fn P w K mg base CX0 3 "_law_overlaps" (spP (R_Loverlaps K))) (h_Lshown : Fn P w K mg base CX0 4 "_law_shown" (spQ (R_Lshown K))) (D : Df K mg "_law_other" (top 55) ["_law_pool_here", "_law_sizes_here", "_law_places"]) : Fn P w K mg base CX0 5 "_law_other" (spQ (R_Lother K)) := by
  refine fnQ (k := 4) D S55 (fun ds t d t' ⟨_, _, _, e, _⟩ => by subst e; rfl) fun f cdv A outer s H E ds t d t' hr g hR p c => ?_
  obtain ⟨ss, ps, hp, rfl, rfl, rfl⟩ := hR
  obtain ⟨hs, hm⟩ := hp
  obtain ⟨h0, hl, hz⟩ := id hs
  have r6 := drw_rng t (m := 6) (by decide)
  have hzl : (ps.zip ss).length ≤ 100000 := by rw [List.length_zip]; omega
  refine wb_set (d := dy (drw t 6)) (st1 := nxt t 6) g 3 (ev_callQ h_Ldraw hr (by decide) pass0 rfl (eva_cons (ev_var 0) (eva_cons (ev_int) eva_nil)) ⟨6, ⟨by decide, by decide⟩, rfl, rfl, rfl⟩) ?_
  refine wb_when (evt_eqI (ev_var 3) ev_int) (fun e0 => ?_) (fun e0 => ?_)
  · have e0 : drw t 6 = 0 := of_decide_eq_true e0
    have e1 : othM ss ps t = (ps.zip ss).map fun z => (0 - z.1.1 - z.2.1, z.1.2) := if_pos e0
    have e2 : othS ss t = nxt t 6 := if_pos e0
    rw [e1, e2]
    exact wb_retQ rfl (.refl _) rfl (ev_tuple B.tup (ev_lcM (f := fun z : Pt × Pt => (0 - z.1.1 - z.2.1, z.1.2)) [("_law_x", 4), ("_law_y", 5), ("_law_size", 6)] g (evi_zip hm B.zip (ev_var 2) (ev_var 1)) hzl (blk_by ["_law_pool_here", "_law_sizes_here", "_law_places", "_law_kind", "_law_x", "_law_y", "_law_size", "_law_one", "_law_other_here", "_law_found"] (top 55) rfl rfl (by decide +kernel)) (fun F' k z D s H C2 cl fp le hz gb => eg_pair gb (egs_cons (eg_pair gb (egs_cons (eg_name gb 4) (egs_cons (eg_name gb 5) egs_nil))) (egs_cons (eg_name gb 6) egs_nil)))
      (fun F' k z D s H C2 cl fp le hz gb => ev_pair (ev_sub (ev_sub ev_int (ev_var 4)) (ev_fst (ev_var 6 (d := dy z.2)) ev_int)) (ev_var 5))))
  have e0 : ¬ drw t 6 = 0 := of_decide_eq_false e0
  refine wb_when (evt_eqI (ev_var 3) ev_int) (fun e1 => ?_) (fun e1 => ?_)
  · have e1 : drw t 6 = 1 := of_decide_eq_true e1
    have q1 : othM ss ps t = (ps.zip ss).map fun z => (z.1.1, 0 - z.1.2 - z.2.2) := (if_neg e0).trans (if_pos e1)
    have q2 : othS ss t = nxt t 6 := (if_neg e0).trans (if_pos e1)
    rw [q1, q2]
    exact wb_retQ rfl (.refl _) rfl (ev_tuple B.tup (ev_lcM (f := fun z : Pt × Pt => (z.1.1, 0 - z.1.2 - z.2.2)) [("_law_x", 4), ("_law_y", 5), ("_law_size", 6)] g (evi_zip hm B.zip (ev_var 2) (ev_var 1)) hzl (blk_by ["_law_pool_here", "_law_sizes_here", "_law_places", "_law_kind", "_law_x", "_law_y", "_law_size", "_law_one", "_law_other_here", "_law_found"] (top 55) rfl rfl (by decide +kernel)) (fun F' k z D s H C2 cl fp le hz gb => eg_pair gb (egs_cons (eg_pair gb (egs_cons (eg_name gb 4) (egs_cons (eg_name gb 5) egs_nil))) (egs_cons (eg_name gb 6) egs_nil)))
      (fun F' k z D s H C2 cl fp le hz gb => ev_pair (ev_var 4) (ev_sub (ev_sub ev_int (ev_var 5)) (ev_snd (ev_var 6 (d := dy z.2)) ev_int)))))
  have e1 : ¬ drw t 6 = 1 := of_decide_eq_false e1
  refine wb_when (evt_eqI (ev_var 3) ev_int) (fun e2 => ?_) (fun e2 => ?_)
  · have e2 : drw t 6 = 2 := of_decide_eq_true e2
    have rn1 := drw_rng (nxt t 6) (m := (ss.length : Int)) (by omega)
    have rn2 := drw_rng (nxt (nxt t 6) ss.length) (m := (ss.length : Int)) (by omega)
    have q1 : othM ss ps t = if lvM ss (swpM ps (drw (nxt t 6) ss.length).toNat (drw (nxt (nxt t 6) ss.length) ss.length).toNat) = [] then swpM ps (drw (nxt t 6) ss.length).toNat (drw (nxt (nxt t 6) ss.length) ss.length).toNat else ps := (if_neg e0).trans ((if_neg e1).trans (if_pos e2))
    have q2 : othS ss t = nxt (nxt (nxt t 6) ss.length) ss.length := (if_neg e0).trans ((if_neg e1).trans (if_pos e2))
    rw [q1, q2]
    refine wb_par g 7 8 (x := dy (drw (nxt t 6) ss.length)) (y := dy (drw (nxt (nxt t 6) ss.length) ss.length)) (st1 := nxt (nxt t 6) ss.length) (st2 := nxt (nxt (nxt t 6) ss.length) ss.length) (ev_callQ h_Ldraw hr (by decide) pass0 rfl (eva_cons (ev_var 0) (eva_cons (ev_len B.len (ev_var 1)) eva_nil)) ⟨(ss.length : Int), ⟨by omega, by omega⟩, rfl, rfl, rfl⟩) (ev_callQ h_Ldraw hr (by decide) pass0 rfl (eva_cons (ev_var 0) (eva_cons (ev_len B.len (ev_var 1)) eva_nil)) ⟨(ss.length : Int), ⟨by omega, by omega⟩, rfl, rfl, rfl⟩) ?_
    generalize nxt (nxt (nxt t 6) ss.length) ss.length = t3
    obtain ⟨i, hi⟩ : ∃ i : Nat, drw (nxt t 6) ss.length = (i : Int) := ⟨(drw (nxt t 6) ss.length).toNat, by omega⟩
    obtain ⟨j, hj⟩ : ∃ j : Nat, drw (nxt (nxt t 6) ss.length) ss.length = (j : Int) := ⟨(drw (nxt (nxt t 6) ss.length) ss.length).toNat, by omega⟩
    rw [hi] at rn1 ⊢
    rw [hj] at rn2 ⊢
    rw [Int.toNat_natCast, Int.toNat_natCast]
    have li : i < ps.length := by omega
    have lj : j < ps.length := by omega
    refine wb_list (xs := ps) g 9 B.lst (ev_var 2) fun q => ?_
    have ix : ∀ {k : Nat}, k < ps.length → ixN (ps.map dy).length (k : Int) = some k := fun {k} hk => by
      rw [List.length_map]
      unfold ixN
      rw [if_pos (by omega), if_pos (by omega), Int.toNat_natCast]
    refine wb_swap g (u := dy (pt ps j)) (w := dy (pt ps i)) (ev_ixO (ev_var 9) (ev_var 8) List.mem_cons_self (atD_dy (atI_k lj))) (ev_ixO (ev_var 9) (ev_var 7) List.mem_cons_self (atD_dy (atI_k li))) (fun _ => ev_var 9) (fun _ => ev_var 7) (fun _ => ev_var 9) (fun _ => ev_var 8) (ix li) (ix lj) ?_
    have es : ((ps.map dy).set i (dy (pt ps j))).set j (dy (pt ps i)) = (swpM ps i j).map dy := by unfold swpM; rw [List.map_set, List.map_set]
    rw [es]
    have hsl : (swpM ps i j).length = ss.length := by unfold swpM; rw [List.length_set, List.length_set]; exact hm
    refine wb_letgo (xs := swpM ps i j) 9 rfl ?_
    refine wb_retQ rfl (.refl _) rfl (ev_if (st2 := t3) (EvT.to (k1 := (lvM ss (swpM ps i j)).isEmpty) (evt_eqD g (ev_callP h_Loverlaps hr (by decide) pass0 (eva_cons (ev_var 1) (eva_cons (ev_var 9) eva_nil)) ⟨ss, swpM ps i j, ⟨hsl, hl⟩, rfl, rfl⟩) (ev_lst (xs := ([] : List Pt)) eva_nil (by show 0 ≤ sizeLine; decide))) (eqd_nil _)) (fun h => ?_) (fun h => ?_))
    · rw [if_pos (List.isEmpty_iff.mp h)]
      exact ev_tuple B.tup (ev_var 9)
    · rw [if_neg (fun z => by rw [z] at h; cases h)]
      exact ev_var 2
  have e2 : ¬ drw t 6 = 2 := of_decide_eq_false e2
  refine wb_when (evt_eqI (ev_var 3) ev_int) (fun e3 => ?_) (fun e3 => ?_)
  · have e3 : drw t 6 = 3 := of_decide_eq_true e3
    have q1 : othM ss ps t = if drw (nxt t 6) 2 = 0 then ps.map fun p => (p.1 + 5, p.2) else ps := (if_neg e0).trans ((if_neg e1).trans ((if_neg e2).trans (if_pos e3)))
    have q2 : othS ss t = nxt (nxt t 6) 2 := (if_neg e0).trans ((if_neg e1).trans ((if_neg e2).trans (if_pos e3)))
    rw [q1, q2]
    refine wb_retQ rfl (.refl _) rfl (ev_if (st2 := nxt (nxt t 6) 2) (evt_eqI (ev_callQ h_Ldraw hr (by decide) pass0 rfl (eva_cons (ev_var 0) (eva_cons (ev_int) eva_nil)) ⟨2, ⟨by decide, by decide⟩, rfl, rfl, rfl⟩) ev_int) (fun h => ?_) (fun h => ?_))
    · rw [if_pos (of_decide_eq_true h)]
      exact ev_tuple B.tup (ev_lcM (f := fun p : Pt => (p.1 + 5, p.2)) [("_law_x", 4), ("_law_y", 5)] g (evi_tup (ev_var 2)) (by omega) (blk_by ["_law_pool_here", "_law_sizes_here", "_law_places", "_law_kind", "_law_x", "_law_y", "_law_size", "_law_one", "_law_other_here", "_law_found"] (top 55) rfl rfl (by decide +kernel)) (fun F' k z D s H C2 cl fp le hz gb => eg_pair gb (egs_cons (eg_name gb 4) (egs_cons (eg_name gb 5) egs_nil))) (fun F' k z D s H C2 cl fp le hz gb => ev_pair (ev_add (ev_var 4) ev_int) (ev_var 5)))
    · rw [if_neg (of_decide_eq_false h)]
      exact ev_var 2
  have e3 : ¬ drw t 6 = 3 := of_decide_eq_false e3
  have q1 : othM ss ps t = shownM ss (nxt t 6) := (if_neg e0).trans ((if_neg e1).trans ((if_neg e2).trans (if_neg e3)))
  have q2 : othS ss t = shownS ss (nxt t 6) := (if_neg e0).trans ((if_neg e1).trans ((if_neg e2).trans (if_neg e3)))
  rw [q1, q2]
  exact wb_retQ rfl (.refl _) rfl (ev_callQ h_Lshown hr (by decide) pass0 rfl (eva_cons (ev_var 0) (eva_cons (ev_var 1) eva_nil)) ⟨ss, hs, rfl, rfl, rfl⟩)
def R_LisGoals (K : PySem.W.Frag) : DL → Dyn → Prop := fun ds d => ∃ (n : Int) (xs : List Int), (n = (xs.length : Int) ∧ xs.length ≤ 1000) ∧ ds = [dy n, dy xs] ∧ d = dy true
theorem S56 : FnScope ["_law_many", "_law_thing", "_law_one"] ["_law_many", "_law_thing"] (defScope (top 56)) := ⟨rfl, rfl, rfl, by decide +kernel, rfl, by decide +kernel, by decide +kernel⟩
theorem ok_LisGoals (B : Bn mg)   (D : Df K mg "_law_is_goals" (top 56) ["_law_many", "_law_thing"]) : Fn P w K mg base CX0 1 "_law_is_goals" (spP (R_LisGoals K)) := by
  refine fnP (k := 0) D S56 (fun ds d ⟨_, _, _, e, _⟩ => by subst e; rfl) fun f cdv A outer s H E ds d hr g hR S0 => ?_
  obtain ⟨n, xs, hp, rfl, rfl⟩ := hR
  obtain ⟨rfl, hl⟩ := hp
  refine wb_when (evw_orF (evt_not (evt_val (ev_isTup B.isi B.tup ((ev_var 1).toT)))) (evw_or1 (EvT.to (evt_neI (ev_len B.len (ev_var 1)) (ev_var 0)) (by rw [decide_eq_true rfl])))).t (fun h => (by cases h)) fun _ => ?_
  refine wb_retP rfl (.refl _) rfl (Ev.to (ev_all g B.all (ev_lcM (f := fun _ : Int => true) [("_law_one", 2)] g (evi_tup (ev_var 1)) (by omega) (blk_by ["_law_many", "_law_thing", "_law_one"] (top 56) rfl rfl (by decide +kernel)) (fun F' k z D s H C2 cl fp le hz gb => eg_name gb 2) (fun F' k z D s H C2 cl fp le hz gb => ev_and (p := true) (q := true) (ev_isInt B.isi B.int (ev_var 2)) fun _ => ev_not (ev_isBoolI B.isi B.bool (ev_var 2))))) ?_)
  rw [all_map_true]
def R_LisStroke (K : PySem.W.Frag) : DL → Dyn → Prop := fun ds d => ∃ (n : Int) (u : Stk), (n = (u.2.length : Int) ∧ u.2.length ≤ 1000) ∧ ds = [dy n, dy u] ∧ d = dy true
theorem S57 : FnScope ["_law_many", "_law_thing"] ["_law_many", "_law_thing"] (defScope (top 57)) := ⟨rfl, rfl, rfl, by decide +kernel, rfl, by decide +kernel, by decide +kernel⟩
theorem ok_LisStroke (B : Bn mg)  (h_LisGoals : Fn P w K mg base CX0 1 "_law_is_goals" (spP (R_LisGoals K))) (D : Df K mg "_law_is_stroke" (top 57) ["_law_many", "_law_thing"]) : Fn P w K mg base CX0 2 "_law_is_stroke" (spP (R_LisStroke K)) := by
  refine fnP (k := 1) D S57 (fun ds d ⟨_, _, _, e, _⟩ => by subst e; rfl) fun f cdv A outer s H E ds d hr g hR S0 => ?_
  obtain ⟨n, u, hp, rfl, rfl⟩ := hR
  obtain ⟨rfl, hl⟩ := hp
  refine wb_when (evw_orF (evt_not (evt_val (ev_isTup B.isi B.tup ((ev_var 1 (d := dy u)).toT2)))) (evw_orF (evt_neI (ev_lenT B.len ((ev_var 1 (d := dy u)).toT2)) ev_int) (evw_or1 (evt_not (evt_val (ev_isStr B.isi B.str (ev_fst (ev_var 1 (d := dy u)) ev_int))))))).t (fun h => (by cases h)) fun _ => ?_
  refine wb_retP rfl (.refl _) rfl (Ev.to (ev_and (q := true) (ev_inL (w := u.1) (ws := [.lev, .upr]) (ev_fst (ev_var 1 (d := dy u)) ev_int) (ev_lst (xs := [Way.lev, Way.upr]) (eva_cons (Ev.word (w := .lev) ev_str) (eva_cons (Ev.word (w := .upr) ev_str) eva_nil)) (by show 2 ≤ sizeLine; decide))) fun _ => ev_callP h_LisGoals hr (by decide) pass0 (eva_cons (ev_var 0) (eva_cons (ev_snd (ev_var 1 (d := dy u)) ev_int) eva_nil)) ⟨_, u.2, ⟨rfl, hl⟩, rfl, rfl⟩) ?_)
  cases u.1 <;> rfl
def R_Lbehind (K : PySem.W.Frag) : DL → Dyn → Prop := fun ds d => ∃ (ps : List Pt) (u : Stk), (u.2.length = ps.length ∧ ps.length ≤ 1000) ∧ ds = [dy ps, dy u] ∧ d = dy (behM ps u)
theorem S58 : FnScope ["_law_places", "_law_stroke_here", "_law_x", "_law_y", "_law_goal"] ["_law_places", "_law_stroke_here"] (defScope (top 58)) := ⟨rfl, rfl, rfl, by decide +kernel, rfl, by decide +kernel, by decide +kernel⟩
theorem ok_Lbehind (B : Bn mg)   (D : Df K mg "_law_behind" (top 58) ["_law_places", "_law_stroke_here"]) : Fn P w K mg base CX0 1 "_law_behind" (spP (R_Lbehind K)) := by
  refine fnP (k := 0) D S58 (fun ds d ⟨_, _, _, e, _⟩ => by subst e; rfl) fun f cdv A outer s H E ds d hr g hR S0 => ?_
  obtain ⟨ps, u, hp, rfl, rfl⟩ := hR
  obtain ⟨hl, hm⟩ := hp
  have hz : (ps.zip u.2).length ≤ 100000 := by rw [List.length_zip]; omega
  refine wb_when (evt_eqW (ev_fst (ev_var 1 (d := dy u)) ev_int) (Ev.word (w := .lev) ev_str)) (fun h => ?_) fun h => ?_
  · have e : behM ps u = (ps.zip u.2).map fun z => (z.2, z.1.2) := by rw [zip_flip]; unfold behM; rw [of_decide_eq_true h]
    rw [e]
    exact wb_retP rfl (.refl _) rfl (ev_tuple B.tup (ev_lcM (f := fun z : Pt × Int => (z.2, z.1.2)) [("_law_x", 2), ("_law_y", 3), ("_law_goal", 4)] g (evi_zip hl.symm B.zip (ev_var 0) (ev_snd (ev_var 1 (d := dy u)) ev_int)) hz (blk_by ["_law_places", "_law_stroke_here", "_law_x", "_law_y", "_law_goal"] (top 58) rfl rfl (by decide +kernel)) (fun F' k z D s H C2 cl fp le hz gb => eg_pair gb (egs_cons (eg_pair gb (egs_cons (eg_name gb 2) (egs_cons (eg_name gb 3) egs_nil))) (egs_cons (eg_name gb 4) egs_nil))) (fun F' k z D s H C2 cl fp le hz gb => ev_pair (ev_var 4) (ev_var 3))))
  · have e : behM ps u = (ps.zip u.2).map fun z => (z.1.1, z.2) := by
      rw [zip_flip]
      have h : ¬ u.1 = Way.lev := of_decide_eq_false h
      unfold behM
      cases hw : u.1 with
      | lev => exact absurd hw h
      | upr => rfl
    rw [e]
    exact wb_retP rfl (.refl _) rfl (ev_tuple B.tup (ev_lcM (f := fun z : Pt × Int => (z.1.1, z.2)) [("_law_x", 2), ("_law_y", 3), ("_law_goal", 4)] g (evi_zip hl.symm B.zip (ev_var 0) (ev_snd (ev_var 1 (d := dy u)) ev_int)) hz (blk_by ["_law_places", "_law_stroke_here", "_law_x", "_law_y", "_law_goal"] (top 58) rfl rfl (by decide +kernel)) (fun F' k z D s H C2 cl fp le hz gb => eg_pair gb (egs_cons (eg_pair gb (egs_cons (eg_name gb 2) (egs_cons (eg_name gb 3) egs_nil))) (egs_cons (eg_name gb 4) egs_nil))) (fun F' k z D s H C2 cl fp le hz gb => ev_pair (ev_var 2) (ev_var 4))))
end
end K5

namespace K5
/-- the first stroke at which a test fails -/
def runG (t : List Pt → Stk → Bool) (ps : List Pt) : List Stk → Option Nat
  | [] => none
  | s :: r => if t ps s = true then (runG t (behM ps s) r).map (· + 1) else some 0
theorem runM_G (ss : List Pt) : ∀ (sc : List Stk) (ps : List Pt), runM ss ps sc = runG (letM ss) ps sc
  | [], _ => rfl
  | s :: r, ps => by
    unfold runM runG
    rw [runM_G ss r]
theorem runG_split {t : List Pt → Stk → Bool} : ∀ {sc : List Stk} {ps : List Pt} {m : Option Nat}, runG t ps sc = m → (∀ k s, sc[k]? = some s → (m = none ∨ ∃ n, m = some n ∧ k < n) → t (endM ps (sc.take k)) s = true) ∧ ∀ n, m = some n → ∃ s, sc[n]? = some s ∧ t (endM ps (sc.take n)) s = false := by
  intro sc
  induction sc with
  | nil =>
    intro ps m h
    refine ⟨fun k s e => (by cases e), fun n e => ?_⟩
    rw [e] at h
    cases h
  | cons u r ih =>
    intro ps m h
    unfold runG at h
    by_cases hu : t ps u = true
    · rw [if_pos hu] at h
      cases hr : runG t (behM ps u) r with
      | none =>
        rw [hr] at h
        subst h
        obtain ⟨h1, h2⟩ := ih hr
        refine ⟨fun k s e q => ?_, fun n e => (by cases e)⟩
        cases k with
        | zero => cases e; exact hu
        | succ k => exact h1 k s e (.inl rfl)
      | some j =>
        rw [hr] at h
        have h : some (j + 1) = m := h
        subst h
        obtain ⟨h1, h2⟩ := ih hr
        refine ⟨fun k s e q => ?_, fun n e => ?_⟩
        · cases k with
          | zero => cases e; exact hu
          | succ k =>
            refine h1 k s e (.inr ⟨j, rfl, ?_⟩)
            rcases q with q | ⟨n, q, hk⟩
            · cases q
            · have := Option.some.inj q
              omega
        · cases e
          obtain ⟨s, h3, h4⟩ := h2 j rfl
          exact ⟨s, h3, h4⟩
    · rw [if_neg hu] at h
      subst h
      refine ⟨fun k s e q => ?_, fun n e => ?_⟩
      · rcases q with q | ⟨n, q, hk⟩
        · cases q
        · have := Option.some.inj q
          omega
      · cases e
        exact ⟨u, rfl, by
          show t ps u = false
          simpa using hu⟩
theorem runG_first {t : List Pt → Stk → Bool} {ps : List Pt} {sc : List Stk} {k : Nat} {s : Stk} (h : ∀ j u, j < k → sc[j]? = some u → t (endM ps (sc.take j)) u = true) (hs : sc[k]? = some s) (hf : t (endM ps (sc.take k)) s = false) : runG t ps sc = some k := by
  obtain ⟨h1, h2⟩ := runG_split (rfl : runG t ps sc = runG t ps sc)
  cases e : runG t ps sc with
  | none =>
    have q := h1 k s hs (.inl e)
    rw [hf] at q
    cases q
  | some n =>
    obtain ⟨u, g1, g2⟩ := h2 n e
    rcases Nat.lt_trichotomy n k with q | q | q
    · have z := h n u q g1
      rw [g2] at z
      cases z
    · rw [q]
    · have z := h1 k s hs (.inr ⟨n, e, q⟩)
      rw [hf] at z
      cases z
theorem runG_none {t : List Pt → Stk → Bool} {ps : List Pt} {sc : List Stk} (h : ∀ j u, j < sc.length → sc[j]? = some u → t (endM ps (sc.take j)) u = true) : runG t ps sc = none := by
  cases e : runG t ps sc with
  | none => rfl
  | some n =>
    obtain ⟨u, g1, g2⟩ := (runG_split e).2 n rfl
    have z := h n u (List.getElem?_eq_some_iff.mp g1).1 g1
    rw [g2] at z
    cases z
theorem idx_get {α β : Type} {f : Nat → α → β} {l : List α} {k : Nat} {z : α} (h : l[k]? = some z) : (idx f l)[k]? = some (f k z) := by
  unfold idx
  rw [List.getElem?_map, List.getElem?_zipIdx, h, Nat.zero_add]
  rfl
theorem idx_len {α β : Type} {f : Nat → α → β} {l : List α} : (idx f l).length = l.length := by
  unfold idx
  rw [List.length_map, List.length_zipIdx]
theorem idx_mem {α β : Type} {f : Nat → α → β} {l : List α} {y : β} (h : y ∈ idx f l) : ∃ k z, l[k]? = some z ∧ y = f k z := by
  obtain ⟨k, hk⟩ := List.mem_iff_getElem?.mp h
  have hl := (List.getElem?_eq_some_iff.mp hk).1
  rw [idx_len] at hl
  refine ⟨k, l[k], List.getElem?_eq_getElem hl, ?_⟩
  rw [idx_get (List.getElem?_eq_getElem hl)] at hk
  exact (Option.some.inj hk).symm
theorem swp_len {ps : List Pt} {i j : Nat} : (swpM ps i j).length = ps.length := by unfold swpM; rw [List.length_set, List.length_set]
theorem oth_len {ss ps : List Pt} {st : Pst} (h : ps.length = ss.length) : (othM ss ps st).length = ss.length := by
  unfold othM
  split
  · rw [List.length_map, List.length_zip, h, Nat.min_self]
  · split
    · rw [List.length_map, List.length_zip, h, Nat.min_self]
    · split
      · split
        · rw [swp_len, h]
        · exact h
      · split
        · split
          · rw [List.length_map, h]
          · exact h
        · exact shown_len _ _
theorem stkG_len {ss ps : List Pt} {w : Way} {kd : Int} {st : Pst} (h : ps.length = ss.length) : (stkG ss ps w kd st).length = ss.length := by
  unfold stkG
  split
  · rw [List.length_map, oth_len h]
  · split
    · rw [idx_len, h]
    · split
      · rw [idx_len, h]
      · split
        · rw [List.length_map, h]
        · rw [idx_len, h]
theorem stkM_len {ss ps : List Pt} {st : Pst} (h : ps.length = ss.length) : (stkM ss ps st).2.length = ss.length := stkG_len h
theorem scU_len {ss h : List Pt} {st : Pst} (hl : h.length = ss.length) : (scU ss h st).2.length = ss.length := by
  unfold scU
  split
  · show (goalsM h _).length = _
    unfold goalsM
    rw [List.length_map, hl]
  · exact stkM_len hl
theorem scI_ok {ss ps : List Pt} {st : Pst} (h : ps.length = ss.length) : ∀ k, (scI ss ps st k).h.length = ss.length ∧ (scI ss ps st k).f.length ≤ k ∧ ∀ u ∈ (scI ss ps st k).f, u.2.length = ss.length
  | 0 => ⟨h, Nat.le_refl _, fun u hu => by cases hu⟩
  | k + 1 => by
    obtain ⟨h1, h2, h3⟩ := scI_ok h k
    unfold scI
    split
    · refine ⟨?_, ?_, fun u hu => ?_⟩
      · show (behM _ _).length = _
        rw [behM_len ((scU_len h1).trans h1.symm), h1]
      · show (_ ++ [_]).length ≤ _
        rw [List.length_append]
        exact Nat.succ_le_succ h2
      · rcases List.mem_append.mp hu with q | q
        · exact h3 u q
        · rw [List.mem_singleton.mp q]
          exact scU_len h1
    · exact ⟨h1, Nat.le_succ_of_le h2, h3⟩
theorem ax_eq (w : Way) : b2I (decide (w = .upr)) = ax w := by cases w <;> rfl
theorem wyM_eq (st : Pst) : ([Way.lev, Way.upr] : List Way).getD (drw st 2).toNat .lev = wyM st := by
  have h := drw_rng st (m := 2) (by decide)
  unfold wyM
  have : drw st 2 = 0 ∨ drw st 2 = 1 := by omega
  rcases this with e | e <;> rw [e] <;> rfl
theorem sum_rng {w : Way} : ∀ {ss : List Pt}, (∀ z ∈ ss, (1 ≤ z.1 ∧ z.1 ≤ 1000) ∧ 1 ≤ z.2 ∧ z.2 ≤ 1000) → 0 ≤ (ss.map fun z => pick z (ax w)).sum ∧ (ss.map fun z => pick z (ax w)).sum ≤ 1000 * (ss.length : Int)
  | [], _ => ⟨by show (0 : Int) ≤ 0; decide, by show (0 : Int) ≤ 1000 * 0; decide⟩
  | z :: r, h => by
    obtain ⟨h1, h2⟩ := sum_rng (w := w) (ss := r) fun y hy => h y (List.mem_cons_of_mem _ hy)
    obtain ⟨⟨a1, a2⟩, a3, a4⟩ := h z List.mem_cons_self
    have hp : 0 ≤ pick z (ax w) ∧ pick z (ax w) ≤ 1000 := by
      cases w
      · exact ⟨by show 0 ≤ z.1; omega, a2⟩
      · exact ⟨by show 0 ≤ z.2; omega, a4⟩
    rw [List.map_cons, List.sum_cons, List.length_cons]
    omega
end K5

namespace K5
open PySem PySem.Spec PyProof.Rows L2
open Py (rel)
section
variable {P : Program} {w : World} {K : PySem.W.Frag} {mg : Str → Option Value} {base : Heap} {C : Addr}
def R_Lhits (K : PySem.W.Frag) : DL → Dyn → Prop := fun ds d => ∃ (ss ps : List Pt) (u : Stk), (ps.length = ss.length ∧ u.2.length = ss.length ∧ ss.length ≤ 40) ∧ ds = [dy ss, dy ps, dy u] ∧ d = dy (PL.mk (htM ss ps u))
theorem S59 : FnScope ["_law_sizes_here", "_law_places", "_law_stroke_here", "_law_at", "_law_found", "_law_one", "_law_other_here", "_law_begin", "_law_end"] ["_law_sizes_here", "_law_places", "_law_stroke_here"] (defScope (top 59)) := ⟨rfl, rfl, rfl, by decide +kernel, rfl, by decide +kernel, by decide +kernel⟩
theorem ok_Lhits (B : Bn mg)  (h_Lin : Fn P w K mg base CX0 2 "_law_in" (spP (R_Lin K))) (D : Df K mg "_law_hits" (top 59) ["_law_sizes_here", "_law_places", "_law_stroke_here"]) : Fn P w K mg base CX0 3 "_law_hits" (spP (R_Lhits K)) := by
  refine fnP (k := 2) D S59 (fun ds d ⟨_, _, _, _, e, _⟩ => by subst e; rfl) fun f cdv A outer s H E ds d hr g hR S0 => ?_
  obtain ⟨ss, ps, u, hp, rfl, rfl⟩ := hR
  obtain ⟨hm, hu, hl⟩ := hp
  have ha : ax u.1 = 0 ∨ ax u.1 = 1 := by cases u.1; exact .inl rfl; exact .inr rfl
  have hA2 : ∀ i j, (hA ss ps u i j).length ≤ 2 := fun i j => by
    unfold hA
    rw [List.length_append]
    split <;> split <;> simp
  have hrow : ∀ i k, (htRow ss ps u i k).length ≤ 2 * k := fun i k => by
    induction k with
    | zero => exact Nat.le_refl _
    | succ k ih =>
      unfold htRow
      split
      · rw [List.length_append]
        have := hA2 i (i + 1 + k)
        omega
      · omega
  have hacc : ∀ k, (htAcc ss ps u k).length ≤ k * 80 := fun k => by
    induction k with
    | zero => exact Nat.le_refl _
    | succ k ih =>
      unfold htAcc
      rw [List.length_append]
      have := hrow k (ss.length - (k + 1))
      omega
  refine wb_parN g 3 4 (x := dy (ax u.1)) (st1 := st0) (Ev.to (ev_intB B.int (ev_eqW (ev_fst (ev_var 2 (d := dy u)) ev_int) (Ev.word (w := .upr) ev_str))) (by rw [ax_eq])) fun q => ?_
  refine wb_for g (evi_range (n := (ss.length : Int)) B.rng ⟨by omega, by omega⟩ (ev_len B.len (ev_var 0))) (fun _ => [some (dy ss), some (dy ps), some (dy u), some (dy (ax u.1)), some (dy (Ad.mk q)), none, none, none, none]) (fun k => [(q, (htAcc ss ps u k).map dy)]) (fun _ => st0) rfl rfl (.refl _) (fun k => keys_same) (fun F' i x le hx => ?_) ?_
  · obtain ⟨hi, rfl⟩ := seq_at hx
    have hi : i < ss.length := by omega
    have en : ((ss.length : Int) - ((i + 1 : Nat) : Int)).toNat = ss.length - (i + 1) := by omega
    refine ⟨_, _, eg_name g 5, ?_⟩
    refine wb_for g (evi_range2 (m := ((i + 1 : Nat) : Int)) (n := (ss.length : Int)) B.rng (by omega) (Ev.to (d := dy ((i : Int) + 1)) (ev_add (ev_var 5) ev_int) rfl) (ev_len B.len (ev_var 0))) (fun _ => [some (dy ss), some (dy ps), some (dy u), some (dy (ax u.1)), some (dy (Ad.mk q)), some (dy (i : Int)), none, none, none]) (fun k => [(q, (htAcc ss ps u i ++ htRow ss ps u i k).map dy)]) (fun _ => st0) (by rw [show htRow ss ps u i 0 = [] from rfl, List.append_nil]) rfl (by repeat (first | exact .nil | refine .same ?_ | refine .drop ?_)) (fun k => keys_same) (fun F2 j x le2 hx2 => ?_) ?_
    · obtain ⟨hj, rfl⟩ := seq_at' hx2
      have hj : i + 1 + j < ss.length := by omega
      refine ⟨_, _, eg_name g 6, ?_⟩
      have hsz : (htAcc ss ps u i ++ htRow ss ps u i j).length ≤ 4000 := by
        have h1 := hacc i
        have h2 := hrow i j
        rw [List.length_append]
        omega
      refine wb_whenE [some (dy ss), some (dy ps), some (dy u), some (dy (ax u.1)), some (dy (Ad.mk q)), some (dy (i : Int)), none, none, none] [(q, (htAcc ss ps u i ++ htRow ss ps u i (j + 1)).map dy)] st0 ?_ (wb_end rfl (by repeat (first | exact .nil | refine .same ?_ | refine .drop ?_)) rfl)
      refine ⟨inM ss ps u.1 i (i + 1 + j), st0, evt_val (ev_callP h_Lin hr (by decide) pass0 (eva_cons (ev_fst (ev_var 2 (d := dy u)) ev_int) (eva_cons (ev_var 0) (eva_cons ((ev_var 1).sqT) (eva_cons (ev_var 5) (eva_cons (ev_var 6) eva_nil))))) ⟨u.1, ss, ps, i, i + 1 + j, ⟨hm, hi, hj⟩, rfl, rfl⟩), fun h => ?_, fun h => ?_⟩
      · have er : htRow ss ps u i (j + 1) = htRow ss ps u i j ++ hA ss ps u i (i + 1 + j) := if_pos h
        rw [er, ← List.append_assoc]
        generalize htAcc ss ps u i ++ htRow ss ps u i j = acc at hsz
        generalize i + 1 + j = m at hj
        refine wb_set (d := dy (hB ps u.1 i m)) (st1 := st0) g 7 (ev_sub (ev_ixP (ev_ixT (ev_var 1) (ev_var 6) (atI_k (d := (0, 0)) (by omega))) (ev_var 3) ha) (ev_ixP (ev_ixT (ev_var 1) (ev_var 5) (atI_k (d := (0, 0)) (by omega))) (ev_var 3) ha)) ?_
        refine wb_set (d := dy (hE u i m)) (st1 := st0) g 8 (ev_sub (ev_ixT (ev_snd (ev_var 2 (d := dy u)) ev_int) (ev_var 6) (atI_k (d := 0) (by omega))) (ev_ixT (ev_snd (ev_var 2 (d := dy u)) ev_int) (ev_var 5) (atI_k (d := 0) (by omega)))) ?_
        have gG : [some (dy ss), some (dy ps), some (dy u), some (dy (ax u.1)), some (dy (Ad.mk q)), some (dy (i : Int)), none, none, none].length = 9 := rfl
        refine wb_whenE [some (dy ss), some (dy ps), some (dy u), some (dy (ax u.1)), some (dy (Ad.mk q)), some (dy (i : Int)), some (dy (m : Int)), some (dy (hB ps u.1 i m)), some (dy (hE u i m))] [(q, (acc ++ (if hit1 ss ps u i m = true then [[hB ps u.1 i m - pick (pt ss i) (ax u.1), hB ps u.1 i m - hE u i m, (i : Int), (m : Int)]] else [])).map dy)] st0 ?_ ?_
        · refine ⟨hit1 ss ps u i m, st0, evt_chain op_ge op_gt (r2_I0 fun _ _ => rfl) (r2_I0 fun _ _ => rfl) (ev_var 7) (ev_ixP (ev_ixT (ev_var 0) (ev_var 5) (atI_k (d := (0, 0)) hi)) (ev_var 3) ha) (ev_var 8), fun h1 => ?_, fun h1 => ?_⟩
          · rw [if_pos h1]
            refine wb_append (st1 := st0) (d := dy [hB ps u.1 i m - pick (pt ss i) (ax u.1), hB ps u.1 i m - hE u i m, (i : Int), (m : Int)]) (ev_var 4) (ev_tupL (eva_cons (ev_sub (ev_var 7) (ev_ixP (ev_ixT (ev_var 0) (ev_var 5) (atI_k (d := (0, 0)) hi)) (ev_var 3) ha)) (eva_cons (ev_sub (ev_var 7) (ev_var 8)) (eva_cons (ev_var 5) (eva_cons (ev_var 6) eva_nil)))) (by show 4 ≤ sizeLine; decide)) (by rw [List.length_map]; omega) (wb_end rfl (by repeat (first | exact .nil | refine .same ?_ | refine .drop ?_)) ?_)
            rw [map_snoc]
          · rw [if_neg (by rw [h1]; exact Bool.false_ne_true), List.append_nil]
            exact wb_end rfl (by repeat (first | exact .nil | refine .same ?_ | refine .drop ?_)) rfl
        · have hsz2 : (acc ++ (if hit1 ss ps u i m = true then [[hB ps u.1 i m - pick (pt ss i) (ax u.1), hB ps u.1 i m - hE u i m, (i : Int), (m : Int)]] else [])).length ≤ 4001 := by
            rw [List.length_append]
            split
            · exact Nat.add_le_add hsz (Nat.le_refl 1)
            · exact Nat.le_succ_of_le hsz
          unfold hA
          rw [← List.append_assoc]
          generalize acc ++ (if hit1 ss ps u i m = true then [[hB ps u.1 i m - pick (pt ss i) (ax u.1), hB ps u.1 i m - hE u i m, (i : Int), (m : Int)]] else []) = acc2 at hsz2
          refine wb_whenE [some (dy ss), some (dy ps), some (dy u), some (dy (ax u.1)), some (dy (Ad.mk q)), some (dy (i : Int)), none, none, none] [(q, (acc2 ++ (if hit2 ss ps u i m = true then [[0 - pick (pt ss m) (ax u.1) - hB ps u.1 i m, hE u i m - hB ps u.1 i m, (i : Int), (m : Int)]] else [])).map dy)] st0 ?_ (wb_end rfl (by repeat (first | exact .nil | refine .same ?_ | refine .drop ?_)) rfl)
          refine ⟨hit2 ss ps u i m, st0, evt_chain op_le op_lt (r2_I0 fun _ _ => rfl) (r2_I0 fun _ _ => rfl) (ev_var 7) (ev_sub ev_int (ev_ixP (ev_ixT (ev_var 0) (ev_var 6) (atI_k (d := (0, 0)) hj)) (ev_var 3) ha)) (ev_var 8), fun h1 => ?_, fun h1 => ?_⟩
          · rw [if_pos h1]
            refine wb_append (st1 := st0) (d := dy [0 - pick (pt ss m) (ax u.1) - hB ps u.1 i m, hE u i m - hB ps u.1 i m, (i : Int), (m : Int)]) (ev_var 4) (ev_tupL (eva_cons (ev_sub (ev_sub ev_int (ev_ixP (ev_ixT (ev_var 0) (ev_var 6) (atI_k (d := (0, 0)) hj)) (ev_var 3) ha)) (ev_var 7)) (eva_cons (ev_sub (ev_var 8) (ev_var 7)) (eva_cons (ev_var 5) (eva_cons (ev_var 6) eva_nil)))) (by show 4 ≤ sizeLine; decide)) (by rw [List.length_map]; omega) (wb_end rfl (by repeat (first | exact .nil | refine .same ?_ | refine .drop ?_)) ?_)
            rw [map_snoc]
          · rw [if_neg (by rw [h1]; exact Bool.false_ne_true), List.append_nil]
            exact wb_end rfl (by repeat (first | exact .nil | refine .same ?_ | refine .drop ?_)) rfl
      · have er : htRow ss ps u i (j + 1) = htRow ss ps u i j := if_neg (by rw [h]; exact Bool.false_ne_true)
        rw [er]
        exact wb_end rfl (by repeat (first | exact .nil | refine .same ?_ | refine .drop ?_)) rfl
    · refine wb_end rfl (by repeat (first | exact .nil | refine .same ?_ | refine .drop ?_)) ?_
      show [(q, (htAcc ss ps u i ++ htRow ss ps u i _).map dy)] = [(q, (htAcc ss ps u (i + 1)).map dy)]
      rw [List.length_map, seqI_len, en]
      rfl
  · rw [seq_len]
    exact wb_retO rfl (.refl _) rfl (ev_var 4)
def R_Lfree (K : PySem.W.Frag) : DL → Dyn → Prop := fun ds d => ∃ (ss ps : List Pt) (u : Stk), (ps.length = ss.length ∧ u.2.length = ss.length ∧ ss.length ≤ 40) ∧ ds = [dy ss, dy ps, dy u] ∧ d = dy (frM ss ps u)
theorem S60 : FnScope ["_law_sizes_here", "_law_places", "_law_thing"] ["_law_sizes_here", "_law_places", "_law_thing"] (defScope (top 60)) := ⟨rfl, rfl, rfl, by decide +kernel, rfl, by decide +kernel, by decide +kernel⟩
theorem ok_Lfree (B : Bn mg)  (h_LisStroke : Fn P w K mg base CX0 2 "_law_is_stroke" (spP (R_LisStroke K))) (h_Lhits : Fn P w K mg base CX0 3 "_law_hits" (spP (R_Lhits K))) (D : Df K mg "_law_free" (top 60) ["_law_sizes_here", "_law_places", "_law_thing"]) : Fn P w K mg base CX0 4 "_law_free" (spP (R_Lfree K)) := by
  refine fnP (k := 3) D S60 (fun ds d ⟨_, _, _, _, e, _⟩ => by subst e; rfl) fun f cdv A outer s H E ds d hr g hR S0 => ?_
  obtain ⟨ss, ps, u, hp, rfl, rfl⟩ := hR
  obtain ⟨hm, hu, hl⟩ := hp
  exact wb_retP rfl (.refl _) rfl (Ev.to (ev_and (p := true) (ev_callP h_LisStroke hr (by decide) pass0 (eva_cons (ev_len B.len (ev_var 0)) (eva_cons (ev_var 2) eva_nil)) ⟨_, u, ⟨by rw [hu], by omega⟩, rfl, rfl⟩) fun _ => ev_eqD g (ev_callP h_Lhits hr (by decide) pass0 (eva_cons (ev_var 0) (eva_cons (ev_var 1) (eva_cons (ev_var 2) eva_nil))) ⟨ss, ps, u, ⟨hm, hu, hl⟩, rfl, rfl⟩) (ev_lst (xs := ([] : List (List Int))) eva_nil (by show 0 ≤ sizeLine; decide))) (by rw [eqd_nil]; rfl))
def R_Lled (K : PySem.W.Frag) : DL → Dyn → Prop := fun ds d => ∃ (ss ps : List Pt) (sc : List Stk), (ps.length = ss.length ∧ ss.length ≤ 40 ∧ Form ss.length sc) ∧ ds = [dy ss, dy ps, dy sc] ∧ d = dy (endM ps (cutO sc (runG (frM ss) ps sc)), (runG (frM ss) ps sc).map fun n => (n : Int))
theorem S62 : FnScope ["_law_sizes_here", "_law_places", "_law_script_here", "_law_here", "_law_number", "_law_stroke_here"] ["_law_sizes_here", "_law_places", "_law_script_here"] (defScope (top 62)) := ⟨rfl, rfl, rfl, by decide +kernel, rfl, by decide +kernel, by decide +kernel⟩
theorem ok_Lled (B : Bn mg)  (h_Lfree : Fn P w K mg base CX0 4 "_law_free" (spP (R_Lfree K))) (h_Lbehind : Fn P w K mg base CX0 1 "_law_behind" (spP (R_Lbehind K))) (D : Df K mg "_law_led" (top 62) ["_law_sizes_here", "_law_places", "_law_script_here"]) : Fn P w K mg base CX0 5 "_law_led" (spP (R_Lled K)) := by
  refine fnP (k := 4) D S62 (fun ds d ⟨_, _, _, _, e, _⟩ => by subst e; rfl) fun f cdv A outer s H E ds d hr g hR S0 => ?_
  obtain ⟨ss, ps, sc, hp, rfl, rfl⟩ := hR
  obtain ⟨hm, hl, hf, hs⟩ := hp
  have hlen : ∀ k, (endM ps (sc.take k)).length = ss.length := fun k => (endM_len fun s h => (hs s (List.mem_of_mem_take h)).trans hm.symm).trans hm
  refine wb_set (d := dy ps) (st1 := st0) g 3 (ev_var 1) ?_
  refine wb_forA g (evi_enum (xs := sc) B.enu (ev_var 2)) (fun k => ∀ j u, j < k → sc[j]? = some u → frM ss (endM ps (sc.take j)) u = true) (fun k => [some (dy ss), some (dy ps), some (dy sc), some (dy (endM ps (sc.take k))), none, none]) (fun k => []) (fun _ => st0) (fun j u h => by cases h) rfl rfl (.refl _) (fun k => rfl) (fun F' k x le hx al => ?_) (fun al => ?_)
  · obtain ⟨u, hu, rfl⟩ := enum_at hx
    have hu2 : u.2.length = ss.length := hs u (List.mem_of_getElem? hu)
    refine ⟨_, _, eg_pair g (egs_cons (eg_name g 4) (egs_cons (eg_name g 5) egs_nil)), ?_⟩
    refine wb_when (evt_not (evt_val (ev_callP h_Lfree hr (by decide) pass0 (eva_cons (ev_var 0) (eva_cons (ev_var 3) (eva_cons (ev_var 5) eva_nil))) ⟨ss, endM ps (sc.take k), u, ⟨hlen k, hu2, hl⟩, rfl, rfl⟩))) (fun h => ?_) (fun h => ?_)
    · have h : frM ss (endM ps (sc.take k)) u = false := by simpa using h
      have e := runG_first (t := frM ss) al hu h
      rw [e]
      exact wb_retP (d := dy (endM ps (sc.take k), (some k).map fun n => (n : Int))) rfl le rfl (ev_pair (ev_var 3) ((ev_var 4).some))
    · have h : frM ss (endM ps (sc.take k)) u = true := by simpa using h
      refine wb_set (d := dy (behM (endM ps (sc.take k)) u)) (st1 := st0) g 3 (ev_callP h_Lbehind hr (by decide) pass0 (eva_cons (ev_var 3) (eva_cons (ev_var 5) eva_nil)) ⟨endM ps (sc.take k), u, ⟨by rw [hlen, hu2], by rw [hlen]; omega⟩, rfl, rfl⟩) ?_
      refine wb_endA rfl (fun j v hj hv => ?_) (by rw [endM_take hu]; exact (by repeat (first | exact .nil | refine .same ?_ | refine .drop ?_))) rfl
      by_cases e : j = k
      · subst e
        rw [hu] at hv
        cases hv
        exact h
      · exact al j v (by omega) hv
  · have e := runG_none (t := frM ss) (ps := ps) (sc := sc) (fun j u h1 h2 => al j u (by rw [List.length_map, List.length_zipIdx]; exact h1) h2)
    have e2 : sc.take (sc.zipIdx.map fun z : Stk × Nat => dy ((z.2 : Int), z.1)).length = sc := by rw [List.length_map, List.length_zipIdx]; exact List.take_length
    rw [e2, e]
    exact wb_retP (d := dy (endM ps sc, (none : Option Nat).map fun n => (n : Int))) rfl (.refl _) rfl (ev_pair (ev_var 3) ev_none)
def R_Lback (K : PySem.W.Frag) : DL → Dyn → Prop := fun ds d => ∃ (ps : List Pt) (sc : List Stk), (ps.length ≤ 40 ∧ Form ps.length sc) ∧ ds = [dy ps, dy sc] ∧ d = dy (backM ps sc)
theorem S65 : FnScope ["_law_places", "_law_script_here", "_law_here", "_law_found", "_law_stroke_here", "_law_at", "_law_place"] ["_law_places", "_law_script_here"] (defScope (top 65)) := ⟨rfl, rfl, rfl, by decide +kernel, rfl, by decide +kernel, by decide +kernel⟩
theorem ok_Lback (B : Bn mg)  (h_Lbehind : Fn P w K mg base CX0 1 "_law_behind" (spP (R_Lbehind K))) (D : Df K mg "_law_back" (top 65) ["_law_places", "_law_script_here"]) : Fn P w K mg base CX0 2 "_law_back" (spP (R_Lback K)) := by
  refine fnP (k := 1) D S65 (fun ds d ⟨_, _, _, e, _⟩ => by subst e; rfl) fun f cdv A outer s H E ds d hr g hR S0 => ?_
  obtain ⟨ps, sc, hp, rfl, rfl⟩ := hR
  obtain ⟨hl, hf, hs⟩ := hp
  have hlen : ∀ k, (endM ps (sc.take k)).length = ps.length := fun k => endM_len fun s h => hs s (List.mem_of_mem_take h)
  refine wb_parN g 2 3 (x := dy ps) (st1 := st0) (ev_var 0) fun q => ?_
  refine wb_for g (evi_tup (xs := sc) (ev_var 1)) (fun k => [some (dy ps), some (dy sc), some (dy (endM ps (sc.take k))), some (dy (Ad.mk q)), none, none, none]) (fun k => [(q, (fwdM ps (sc.take k)).map dy)]) (fun _ => st0) rfl rfl (.refl _) (fun k => keys_same) (fun F' k x le hx => ?_) ?_
  · obtain ⟨u, hu, rfl⟩ := map_at hx
    have hu2 : u.2.length = ps.length := hs u (List.mem_of_getElem? hu)
    have hk := (List.getElem?_eq_some_iff.mp hu).1
    have ha : ax u.1 = 0 ∨ ax u.1 = 1 := by cases u.1; exact .inl rfl; exact .inr rfl
    refine ⟨_, _, eg_name g 4, ?_⟩
    refine wb_set (d := dy (ax u.1)) (st1 := st0) g 5 (Ev.to (ev_intB B.int (ev_eqW (ev_fst (ev_var 4 (d := dy u)) ev_int) (Ev.word (w := .upr) ev_str))) (by rw [ax_eq])) ?_
    refine wb_append (st1 := st0) (d := dy (u.1, goalsM (endM ps (sc.take k)) u.1)) (ev_var 3) (ev_pair (ev_fst (ev_var 4 (d := dy u)) ev_int) (ev_tuple B.tup (ev_lcM (f := fun p : Pt => pick p (ax u.1)) [("_law_place", 6)] g (evi_tup (ev_var 2)) (by rw [hlen]; omega) (blk_by ["_law_places", "_law_script_here", "_law_here", "_law_found", "_law_stroke_here", "_law_at", "_law_place"] (top 65) rfl rfl (by decide +kernel)) (fun F' k z D s H C2 cl fp le hz gb => eg_name gb 6) (fun F' k z D s H C2 cl fp le hz gb => ev_ixP (ev_var 6 (d := dy z)) (ev_var 5) ha)))) (by rw [List.length_map, fwdM_len, List.length_take]; omega) ?_
    refine wb_set (d := dy (behM (endM ps (sc.take k)) u)) (st1 := st0) g 2 (ev_callP h_Lbehind hr (by decide) pass0 (eva_cons (ev_var 2) (eva_cons (ev_var 4) eva_nil)) ⟨endM ps (sc.take k), u, ⟨by rw [hlen, hu2], by rw [hlen]; omega⟩, rfl, rfl⟩) ?_
    refine wb_end rfl (by rw [endM_take hu]; exact (by repeat (first | exact .nil | refine .same ?_ | refine .drop ?_))) ?_
    rw [take_snoc hu, fwdM_snoc, map_snoc]
  · rw [show sc.take ((sc.map dy).length) = sc by rw [List.length_map]; exact List.take_length]
    exact wb_retP rfl (.refl _) rfl (ev_tuple B.tup (ev_revO List.mem_cons_self (ev_var 3)))
end
end K5

namespace K5
open PySem PySem.Spec PyProof.Rows L2
open Py (rel)
section
variable {P : Program} {w : World} {K : PySem.W.Frag} {mg : Str → Option Value} {base : Heap} {C : Addr}
def R_Lstroke (K : PySem.W.Frag) : DL → Pst → Dyn → Pst → Prop := fun ds t d t' => ∃ (ss ps : List Pt), (SzOk ss ∧ ps.length = ss.length) ∧ ds = [dy ss, dy ps] ∧ d = dy (stkM ss ps t) ∧ t' = stkS ss ps t
theorem S61 : FnScope ["_law_pool_here", "_law_sizes_here", "_law_places", "_law_way", "_law_at", "_law_kind", "_law_place", "_law_far", "_law_size"] ["_law_pool_here", "_law_sizes_here", "_law_places"] (defScope (top 61)) := ⟨rfl, rfl, rfl, by decide +kernel, rfl, by decide +kernel, by decide +kernel⟩
theorem ok_Lstroke (B : Bn mg)  (h_Ldraw : Fn P w K mg base CX0 1 "_law_draw" (spQ (R_Ldraw K))) (h_Lother : Fn P w K mg base CX0 5 "_law_other" (spQ (R_Lother K))) (D : Df K mg "_law_stroke" (top 61) ["_law_pool_here", "_law_sizes_here", "_law_places"]) : Fn P w K mg base CX0 6 "_law_stroke" (spQ (R_Lstroke K)) := by
  refine fnQ (k := 5) D S61 (fun ds t d t' ⟨_, _, _, e, _⟩ => by subst e; rfl) fun f cdv A outer s H E ds t d t' hr g hR p c => ?_
  obtain ⟨ss, ps, hp, rfl, rfl, rfl⟩ := hR
  obtain ⟨hs, hm⟩ := hp
  obtain ⟨h0, hl, hz⟩ := id hs
  have r2 := drw_rng t (m := 2) (by decide)
  have r5 := drw_rng (nxt t 2) (m := 5) (by decide)
  have ha : ax (wyM t) = 0 ∨ ax (wyM t) = 1 := by cases wyM t; exact .inl rfl; exact .inr rfl
  have hne : (ps.map fun p => absI (pick p (ax (wyM t)))) ≠ [] := fun e => by
    have := congrArg List.length e
    rw [List.length_map, hm] at this
    simp at this
    rw [this] at h0
    exact absurd h0 (by decide)
  refine wb_set (d := dy (wyM t)) (st1 := nxt t 2) g 3 (ev_ixL (xs := [Way.lev, Way.upr]) (ev_lst (eva_cons (Ev.word (w := .lev) ev_str) (eva_cons (Ev.word (w := .upr) ev_str) eva_nil)) (by show 2 ≤ sizeLine; decide)) (ev_callQ h_Ldraw hr (by decide) pass0 rfl (eva_cons (ev_var 0) (eva_cons (ev_int) eva_nil)) ⟨2, ⟨by decide, by decide⟩, rfl, rfl, rfl⟩) (by rw [atI_int (d := Way.lev) r2.1 (by show drw t 2 < 2; exact r2.2), wyM_eq])) ?_
  refine wb_asg (d := dy (ax (wyM t), drw (nxt t 2) 5)) (st1 := sk1 t) (ev_pair (Ev.to (ev_intB B.int (ev_eqW (ev_var 3) (Ev.word (w := .upr) ev_str))) (by rw [ax_eq])) (ev_callQ h_Ldraw hr (by decide) pass0 rfl (eva_cons (ev_var 0) (eva_cons (ev_int) eva_nil)) ⟨5, ⟨by decide, by decide⟩, rfl, rfl, rfl⟩)) (eg_pair g (egs_cons (eg_name g 4) (egs_cons (eg_name g 5) egs_nil))) ?_
  refine wb_whenE [some (dy (Ad.mk p)), some (dy ss), some (dy ps), some (dy (wyM t)), some (dy (ax (wyM t))), some (dy (kdM ps t)), none, none, none] [] (sk1 t) ?_ ?_
  · refine ⟨decide (1 < drw (nxt t 2) 5) && bigM ps (wyM t), sk1 t, (evw_and (evt_gt (ev_var 5) ev_int) fun _ => evw_and1 (evt_gt (ev_max g B.max hne (ev_lcM (f := fun p : Pt => absI (pick p (ax (wyM t)))) [("_law_place", 6)] g (evi_tup (ev_var 2)) (by omega) (blk_by ["_law_pool_here", "_law_sizes_here", "_law_places", "_law_way", "_law_at", "_law_kind", "_law_place", "_law_far", "_law_size"] (top 61) rfl rfl (by decide +kernel)) (fun F' k z D s H C2 cl fp le hz gb => eg_name gb 6) (fun F' k z D s H C2 cl fp le hz gb => ev_abs B.abs (ev_ixP (ev_var 6 (d := dy z)) (ev_var 4) ha)))) (ev_pow (i := 10) (j := 9) ev_int ev_int ⟨by decide, by decide, by decide⟩))).t, fun h => ?_, fun h => ?_⟩
    · have e : kdM ps t = 4 := if_pos h
      rw [e]
      exact wb_set (d := dy (4 : Int)) (st1 := sk1 t) g 5 ev_int (wb_end rfl (by repeat (first | exact .nil | refine .same ?_ | refine .drop ?_)) rfl)
    · have e : kdM ps t = drw (nxt t 2) 5 := if_neg (by rw [h]; exact Bool.false_ne_true)
      rw [e]
      exact wb_end rfl (by repeat (first | exact .nil | refine .same ?_ | refine .drop ?_)) rfl
  show WB _ _ _ _ _ _ (DQ _ p c (stkT ss ps.length (kdM ps t) (sk1 t)) (dy ((wyM t, stkG ss ps (wyM t) (kdM ps t) (sk1 t)) : Stk)))
  generalize kdM ps t = kd
  generalize sk1 t = t2
  generalize wyM t = wy at ha
  refine wb_when (evt_eqI (ev_var 5) ev_int) (fun e0 => ?_) (fun e0 => ?_)
  · have e0 : kd = 0 := of_decide_eq_true e0
    have e1 : stkG ss ps wy kd t2 = (othM ss ps t2).map fun p => pick p (ax wy) := if_pos e0
    have e2 : stkT ss ps.length kd t2 = othS ss t2 := if_pos e0
    rw [e1, e2]
    exact wb_retQ rfl (.refl _) rfl (ev_pair (ev_var 3) (ev_tuple B.tup (ev_lcM (f := fun p : Pt => pick p (ax wy)) [("_law_place", 6)] g (evi_tup (ev_callQ h_Lother hr (by decide) pass0 rfl (eva_cons (ev_var 0) (eva_cons (ev_var 1) (eva_cons (ev_var 2) eva_nil))) ⟨ss, ps, ⟨hs, hm⟩, rfl, rfl, rfl⟩)) (by rw [oth_len hm]; omega) (blk_by ["_law_pool_here", "_law_sizes_here", "_law_places", "_law_way", "_law_at", "_law_kind", "_law_place", "_law_far", "_law_size"] (top 61) rfl rfl (by decide +kernel)) (fun F' k z D s H C2 cl fp le hz gb => eg_name gb 6) (fun F' k z D s H C2 cl fp le hz gb => ev_ixP (ev_var 6 (d := dy z)) (ev_var 4) ha))))
  have e0 : ¬ kd = 0 := of_decide_eq_false e0
  refine wb_when (evt_eqI (ev_var 5) ev_int) (fun e1 => ?_) (fun e1 => ?_)
  · have e1 : kd = 1 := of_decide_eq_true e1
    have q1 : stkG ss ps wy kd t2 = idx (fun k p => pick p (ax wy) + drw (itS 3 t2 k) 3 - 1) ps := (if_neg e0).trans (if_pos e1)
    have q2 : stkT ss ps.length kd t2 = itS 3 t2 ps.length := (if_neg e0).trans (if_pos e1)
    rw [q1, q2]
    refine wb_retQ rfl (.refl _) rfl (ev_pair (ev_var 3) (ev_tuple B.tup (ev_lcS (zs := ps) (st1 := t2) [("_law_place", 6)] g (evi_tup (ev_var 2)) (itS 3 t2) rfl idx_len (by omega) (blk_by ["_law_pool_here", "_law_sizes_here", "_law_places", "_law_way", "_law_at", "_law_kind", "_law_place", "_law_far", "_law_size"] (top 61) rfl rfl (by decide +kernel)) (fun F' k z D s H C2 cl fp le hz gb => eg_name gb 6) (fun F' k z y D s H C2 cl fp le hz hy gb => ?_))))
    rw [idx_get hz] at hy
    obtain rfl := (Option.some.inj hy).symm
    exact ev_sub (ev_add (ev_ixP (ev_var 6 (d := dy z)) (ev_var 4) ha) (ev_callQ h_Ldraw hr (by decide) pass0 le.1.1 (eva_cons (ev_var 0) (eva_cons (ev_int) eva_nil)) ⟨3, ⟨by decide, by decide⟩, rfl, rfl, rfl⟩)) ev_int
  have e1 : ¬ kd = 1 := of_decide_eq_false e1
  refine wb_when (evt_eqI (ev_var 5) ev_int) (fun e2 => ?_) (fun e2 => ?_)
  · have e2 : kd = 2 := of_decide_eq_true e2
    have q1 : stkG ss ps wy kd t2 = idx (fun k p => pick p (ax wy) * (1 + drw (itS 2 t2 k) 2)) ps := (if_neg e0).trans ((if_neg e1).trans (if_pos e2))
    have q2 : stkT ss ps.length kd t2 = itS 2 t2 ps.length := (if_neg e0).trans ((if_neg e1).trans (if_pos e2))
    rw [q1, q2]
    refine wb_retQ rfl (.refl _) rfl (ev_pair (ev_var 3) (ev_tuple B.tup (ev_lcS (zs := ps) (st1 := t2) [("_law_place", 6)] g (evi_tup (ev_var 2)) (itS 2 t2) rfl idx_len (by omega) (blk_by ["_law_pool_here", "_law_sizes_here", "_law_places", "_law_way", "_law_at", "_law_kind", "_law_place", "_law_far", "_law_size"] (top 61) rfl rfl (by decide +kernel)) (fun F' k z D s H C2 cl fp le hz gb => eg_name gb 6) (fun F' k z y D s H C2 cl fp le hz hy gb => ?_))))
    rw [idx_get hz] at hy
    obtain rfl := (Option.some.inj hy).symm
    have rk := drw_rng (itS 2 t2 k) (m := 2) (by decide)
    exact ev_mul (ev_ixP (ev_var 6 (d := dy z)) (ev_var 4) ha) (ev_add ev_int (ev_callQ h_Ldraw hr (by decide) pass0 le.1.1 (eva_cons (ev_var 0) (eva_cons (ev_int) eva_nil)) ⟨2, ⟨by decide, by decide⟩, rfl, rfl, rfl⟩)) (cmul_r (by omega))
  have e2 : ¬ kd = 2 := of_decide_eq_false e2
  refine wb_when (evt_eqI (ev_var 5) ev_int) (fun e3 => ?_) (fun e3 => ?_)
  · have e3 : kd = 3 := of_decide_eq_true e3
    have q1 : stkG ss ps wy kd t2 = ps.map fun p => pick p (ax wy) * (ss.map fun z => pick z (ax wy)).sum := (if_neg e0).trans ((if_neg e1).trans ((if_neg e2).trans (if_pos e3)))
    have q2 : stkT ss ps.length kd t2 = t2 := (if_neg e0).trans ((if_neg e1).trans ((if_neg e2).trans (if_pos e3)))
    rw [q1, q2]
    have sr := sum_rng (w := wy) hz
    refine wb_set (d := dy (ss.map fun z => pick z (ax wy)).sum) (st1 := t2) g 7 (ev_sum g B.sum (ev_lcM (f := fun z : Pt => pick z (ax wy)) [("_law_size", 8)] g (evi_tup (ev_var 1)) (by omega) (blk_by ["_law_pool_here", "_law_sizes_here", "_law_places", "_law_way", "_law_at", "_law_kind", "_law_place", "_law_far", "_law_size"] (top 61) rfl rfl (by decide +kernel)) (fun F' k z D s H C2 cl fp le hz gb => eg_name gb 8) (fun F' k z D s H C2 cl fp le hz gb => ev_ixP (ev_var 8 (d := dy z)) (ev_var 4) ha))) ?_
    generalize (ss.map fun z => pick z (ax wy)).sum = far at sr
    exact wb_retQ rfl (.refl _) rfl (ev_pair (ev_var 3) (ev_tuple B.tup (ev_lcM (f := fun p : Pt => pick p (ax wy) * far) [("_law_place", 6)] g (evi_tup (ev_var 2)) (by omega) (blk_by ["_law_pool_here", "_law_sizes_here", "_law_places", "_law_way", "_law_at", "_law_kind", "_law_place", "_law_far", "_law_size"] (top 61) rfl rfl (by decide +kernel)) (fun F' k z D s H C2 cl fp le hz gb => eg_name gb 6) (fun F' k z D s H C2 cl fp le hz gb => ev_mul (ev_ixP (ev_var 6 (d := dy z)) (ev_var 4) ha) (ev_var 7) (cmul_r (by omega))))))
  have e3 : ¬ kd = 3 := of_decide_eq_false e3
  have q1 : stkG ss ps wy kd t2 = idx (fun k _ => drw (itS 30 t2 k) 30 - 15) ps := (if_neg e0).trans ((if_neg e1).trans ((if_neg e2).trans (if_neg e3)))
  have q2 : stkT ss ps.length kd t2 = itS 30 t2 ps.length := (if_neg e0).trans ((if_neg e1).trans ((if_neg e2).trans (if_neg e3)))
  rw [q1, q2]
  refine wb_retQ rfl (.refl _) rfl (ev_pair (ev_var 3) (ev_tuple B.tup (ev_lcS (zs := ps) (st1 := t2) [("_law_place", 6)] g (evi_tup (ev_var 2)) (itS 30 t2) rfl idx_len (by omega) (blk_by ["_law_pool_here", "_law_sizes_here", "_law_places", "_law_way", "_law_at", "_law_kind", "_law_place", "_law_far", "_law_size"] (top 61) rfl rfl (by decide +kernel)) (fun F' k z D s H C2 cl fp le hz gb => eg_name gb 6) (fun F' k z y D s H C2 cl fp le hz hy gb => ?_))))
  rw [idx_get hz] at hy
  obtain rfl := (Option.some.inj hy).symm
  exact ev_sub (ev_callQ h_Ldraw hr (by decide) pass0 le.1.1 (eva_cons (ev_var 0) (eva_cons (ev_int) eva_nil)) ⟨30, ⟨by decide, by decide⟩, rfl, rfl, rfl⟩) ev_int
def R_Lscript (K : PySem.W.Frag) : DL → Pst → Dyn → Pst → Prop := fun ds t d t' => ∃ (ss ps : List Pt) (most : Int), (SzOk ss ∧ ps.length = ss.length ∧ 0 ≤ most ∧ most ≤ 100) ∧ ds = [dy ss, dy ps, dy most] ∧ d = dy (scM ss ps most t).f ∧ t' = (scM ss ps most t).s
theorem S63 : FnScope ["_law_pool_here", "_law_sizes_here", "_law_places", "_law_most", "_law_found", "_law_here", "_law_turn", "_law_stroke_here", "_law_way", "_law_place"] ["_law_pool_here", "_law_sizes_here", "_law_places", "_law_most"] (defScope (top 63)) := ⟨rfl, rfl, rfl, by decide +kernel, rfl, by decide +kernel, by decide +kernel⟩
theorem ok_Lscript (B : Bn mg)  (h_Ldraw : Fn P w K mg base CX0 1 "_law_draw" (spQ (R_Ldraw K))) (h_Lstroke : Fn P w K mg base CX0 6 "_law_stroke" (spQ (R_Lstroke K))) (h_Lfree : Fn P w K mg base CX0 4 "_law_free" (spP (R_Lfree K))) (h_Lbehind : Fn P w K mg base CX0 1 "_law_behind" (spP (R_Lbehind K))) (D : Df K mg "_law_script" (top 63) ["_law_pool_here", "_law_sizes_here", "_law_places", "_law_most"]) : Fn P w K mg base CX0 7 "_law_script" (spQ (R_Lscript K)) := by
  refine fnQ (k := 6) D S63 (fun ds t d t' ⟨_, _, _, _, e, _⟩ => by subst e; rfl) fun f cdv A outer s H E ds t d t' hr g hR p c => ?_
  obtain ⟨ss, ps, most, hp, rfl, rfl, rfl⟩ := hR
  obtain ⟨hs, hm, hm0, hm1⟩ := hp
  obtain ⟨h0, hl, hz⟩ := id hs
  have rm := drw_rng t (m := most + 1) (by omega)
  unfold scM
  refine wb_parN' g 4 5 (y := dy ps) (st1 := t) (fun q => ev_var 2) fun q => ?_
  refine wb_for g (evi_range (n := drw t (most + 1)) (st1 := nxt t (most + 1)) B.rng ⟨by omega, by omega⟩ (ev_callQ h_Ldraw hr (by decide) pass0 rfl (eva_cons (ev_var 0) (eva_cons (ev_add (ev_var 3) ev_int) eva_nil)) ⟨most + 1, ⟨by omega, by omega⟩, rfl, rfl, rfl⟩)) (fun k => [some (dy (Ad.mk p)), some (dy ss), some (dy ps), some (dy most), some (dy (Ad.mk q)), some (dy (scI ss ps (nxt t (most + 1)) k).h), none, none, none, none]) (fun k => [(q, (scI ss ps (nxt t (most + 1)) k).f.map dy)]) (fun k => (scI ss ps (nxt t (most + 1)) k).s) rfl rfl (.refl _) (fun k => keys_same) (fun F' k x le hx => ?_) ?_
  · obtain ⟨hk, rfl⟩ := seq_at hx
    obtain ⟨hh, hf, hu⟩ := scI_ok (ss := ss) (ps := ps) (st := nxt t (most + 1)) hm k
    have en : scI ss ps (nxt t (most + 1)) (k + 1) = if scK ss (scI ss ps (nxt t (most + 1)) k).h (scI ss ps (nxt t (most + 1)) k).s = true then ⟨(scI ss ps (nxt t (most + 1)) k).f ++ [scU ss (scI ss ps (nxt t (most + 1)) k).h (scI ss ps (nxt t (most + 1)) k).s], behM (scI ss ps (nxt t (most + 1)) k).h (scU ss (scI ss ps (nxt t (most + 1)) k).h (scI ss ps (nxt t (most + 1)) k).s), scN ss (scI ss ps (nxt t (most + 1)) k).h (scI ss ps (nxt t (most + 1)) k).s⟩
      else ⟨(scI ss ps (nxt t (most + 1)) k).f, (scI ss ps (nxt t (most + 1)) k).h, scN ss (scI ss ps (nxt t (most + 1)) k).h (scI ss ps (nxt t (most + 1)) k).s⟩ := rfl
    rw [en]
    generalize (scI ss ps (nxt t (most + 1)) k).f = fd at hf
    generalize (scI ss ps (nxt t (most + 1)) k).h = hd at hh
    generalize (scI ss ps (nxt t (most + 1)) k).s = tk
    have hul := scU_len (st := tk) hh
    refine ⟨_, _, eg_name g 6, ?_⟩
    refine wb_set (d := dy (stkM ss hd tk)) (st1 := stkS ss hd tk) g 7 (ev_callQ h_Lstroke hr (by decide) pass0 le.1.1 (eva_cons (ev_var 0) (eva_cons (ev_var 1) (eva_cons (ev_var 5) eva_nil))) ⟨ss, hd, ⟨hs, hh⟩, rfl, rfl, rfl⟩) ?_
    refine wb_whenE [some (dy (Ad.mk p)), some (dy ss), some (dy ps), some (dy most), some (dy (Ad.mk q)), some (dy hd), none, some (dy (scU ss hd tk)), none, none] [(q, fd.map dy)] (scT ss hd tk) ?_ ?_
    · refine ⟨decide (drw (stkS ss hd tk) 6 = 0), nxt (stkS ss hd tk) 6, evt_eqI (ev_callQ h_Ldraw hr (by decide) pass0 le.1.1 (eva_cons (ev_var 0) (eva_cons (ev_int) eva_nil)) ⟨6, ⟨by decide, by decide⟩, rfl, rfl, rfl⟩) ev_int, fun h => ?_, fun h => ?_⟩
      · have h : drw (stkS ss hd tk) 6 = 0 := of_decide_eq_true h
        have e1 : scU ss hd tk = (wyM (nxt (stkS ss hd tk) 6), goalsM hd (wyM (nxt (stkS ss hd tk) 6))) := if_pos h
        have e2 : scT ss hd tk = nxt (nxt (stkS ss hd tk) 6) 2 := if_pos h
        rw [e1, e2]
        generalize nxt (stkS ss hd tk) 6 = t6
        have r2 := drw_rng t6 (m := 2) (by decide)
        have ha : ax (wyM t6) = 0 ∨ ax (wyM t6) = 1 := by cases wyM t6; exact .inl rfl; exact .inr rfl
        refine wb_set (d := dy (wyM t6)) (st1 := nxt t6 2) g 8 (ev_ixL (xs := [Way.lev, Way.upr]) (ev_lst (eva_cons (Ev.word (w := .lev) ev_str) (eva_cons (Ev.word (w := .upr) ev_str) eva_nil)) (by show 2 ≤ sizeLine; decide)) (ev_callQ h_Ldraw hr (by decide) pass0 le.1.1 (eva_cons (ev_var 0) (eva_cons (ev_int) eva_nil)) ⟨2, ⟨by decide, by decide⟩, rfl, rfl, rfl⟩) (by rw [atI_int (d := Way.lev) r2.1 (by show drw t6 2 < 2; exact r2.2), wyM_eq])) ?_
        refine wb_set (d := dy ((wyM t6, goalsM hd (wyM t6)) : Stk)) (st1 := nxt t6 2) g 7 (ev_pair (ev_var 8) (ev_tuple B.tup (ev_lcM (f := fun p : Pt => pick p (ax (wyM t6))) [("_law_place", 9)] g (evi_tup (ev_var 5)) (by omega) (blk_by ["_law_pool_here", "_law_sizes_here", "_law_places", "_law_most", "_law_found", "_law_here", "_law_turn", "_law_stroke_here", "_law_way", "_law_place"] (top 63) rfl rfl (by decide +kernel)) (fun F' k z D s H C2 cl fp le hz gb => eg_name gb 9) (fun F' k z D s H C2 cl fp le hz gb => ev_ixP (ev_var 9 (d := dy z)) (Ev.to (ev_intB B.int (ev_eqW (ev_var 8) (Ev.word (w := .upr) ev_str))) (by rw [ax_eq])) ha)))) (wb_end rfl (by repeat (first | exact .nil | refine .same ?_ | refine .drop ?_)) rfl)
      · have h : ¬ drw (stkS ss hd tk) 6 = 0 := of_decide_eq_false h
        have e1 : scU ss hd tk = stkM ss hd tk := if_neg h
        have e2 : scT ss hd tk = nxt (stkS ss hd tk) 6 := if_neg h
        rw [e1, e2]
        exact wb_end rfl (by repeat (first | exact .nil | refine .same ?_ | refine .drop ?_)) rfl
    · by_cases hfr : frM ss hd (scU ss hd tk) = true
      · have hK : scK ss hd tk = true := if_pos hfr
        have hN : scN ss hd tk = scT ss hd tk := if_pos hfr
        rw [if_pos hK, hN]
        generalize scU ss hd tk = u at hul hfr
        generalize scT ss hd tk = tt
        refine wb_whenE [some (dy (Ad.mk p)), some (dy ss), some (dy ps), some (dy most), some (dy (Ad.mk q)), some (dy (behM hd u)), none, none, none, none] [(q, (fd ++ [u]).map dy)] tt ?_ (wb_end rfl (by repeat (first | exact .nil | refine .same ?_ | refine .drop ?_)) rfl)
        refine ⟨true, tt, (evw_orT (EvT.to (evt_val (ev_callP h_Lfree hr (by decide) pass0 (eva_cons (ev_var 1) (eva_cons (ev_var 5) (eva_cons (ev_var 7) eva_nil))) ⟨ss, hd, u, ⟨hh, hul, hl⟩, rfl, rfl⟩)) hfr)).t, fun _ => ?_, fun h => (by cases h)⟩
        refine wb_append (st1 := tt) (d := dy u) (ev_var 4) (ev_var 7) (by rw [List.length_map]; omega) ?_
        exact wb_set (d := dy (behM hd u)) (st1 := tt) g 5 (ev_callP h_Lbehind hr (by decide) pass0 (eva_cons (ev_var 5) (eva_cons (ev_var 7) eva_nil)) ⟨hd, u, ⟨by rw [hul, hh], by omega⟩, rfl, rfl⟩) (wb_end rfl (by repeat (first | exact .nil | refine .same ?_ | refine .drop ?_)) (by rw [map_snoc]))
      · have hN : scN ss hd tk = nxt (scT ss hd tk) 12 := if_neg hfr
        by_cases h12 : drw (scT ss hd tk) 12 = 0
        · have hK : scK ss hd tk = true := (if_neg hfr).trans (decide_eq_true h12)
          rw [if_pos hK, hN]
          generalize scU ss hd tk = u at hul hfr
          generalize scT ss hd tk = tt at h12
          refine wb_whenE [some (dy (Ad.mk p)), some (dy ss), some (dy ps), some (dy most), some (dy (Ad.mk q)), some (dy (behM hd u)), none, none, none, none] [(q, (fd ++ [u]).map dy)] (nxt tt 12) ?_ (wb_end rfl (by repeat (first | exact .nil | refine .same ?_ | refine .drop ?_)) rfl)
          refine ⟨true, nxt tt 12, (evw_orF (EvT.to (evt_val (ev_callP h_Lfree hr (by decide) pass0 (eva_cons (ev_var 1) (eva_cons (ev_var 5) (eva_cons (ev_var 7) eva_nil))) ⟨ss, hd, u, ⟨hh, hul, hl⟩, rfl, rfl⟩)) (by simpa using hfr)) (evw_or1 (EvT.to (evt_eqI (ev_callQ h_Ldraw hr (by decide) pass0 le.1.1 (eva_cons (ev_var 0) (eva_cons (ev_int) eva_nil)) ⟨12, ⟨by decide, by decide⟩, rfl, rfl, rfl⟩) ev_int) (decide_eq_true h12)))).t, fun _ => ?_, fun h => (by cases h)⟩
          refine wb_append (st1 := nxt tt 12) (d := dy u) (ev_var 4) (ev_var 7) (by rw [List.length_map]; omega) ?_
          exact wb_set (d := dy (behM hd u)) (st1 := nxt tt 12) g 5 (ev_callP h_Lbehind hr (by decide) pass0 (eva_cons (ev_var 5) (eva_cons (ev_var 7) eva_nil)) ⟨hd, u, ⟨by rw [hul, hh], by omega⟩, rfl, rfl⟩) (wb_end rfl (by repeat (first | exact .nil | refine .same ?_ | refine .drop ?_)) (by rw [map_snoc]))
        · have hK : ¬ scK ss hd tk = true := fun z => h12 (of_decide_eq_true ((if_neg hfr).symm.trans z))
          rw [if_neg hK, hN]
          generalize scU ss hd tk = u at hul hfr
          generalize scT ss hd tk = tt at h12
          refine wb_whenE [some (dy (Ad.mk p)), some (dy ss), some (dy ps), some (dy most), some (dy (Ad.mk q)), some (dy hd), none, none, none, none] [(q, fd.map dy)] (nxt tt 12) ?_ (wb_end rfl (by repeat (first | exact .nil | refine .same ?_ | refine .drop ?_)) rfl)
          exact ⟨false, nxt tt 12, (evw_orF (EvT.to (evt_val (ev_callP h_Lfree hr (by decide) pass0 (eva_cons (ev_var 1) (eva_cons (ev_var 5) (eva_cons (ev_var 7) eva_nil))) ⟨ss, hd, u, ⟨hh, hul, hl⟩, rfl, rfl⟩)) (by simpa using hfr)) (evw_or1 (EvT.to (evt_eqI (ev_callQ h_Ldraw hr (by decide) pass0 le.1.1 (eva_cons (ev_var 0) (eva_cons (ev_int) eva_nil)) ⟨12, ⟨by decide, by decide⟩, rfl, rfl, rfl⟩) ev_int) (decide_eq_false h12)))).t, fun h => (by cases h), fun _ => wb_end rfl (by repeat (first | exact .nil | refine .same ?_ | refine .drop ?_)) rfl⟩
  · rw [List.length_map, seqI_len]
    exact wb_retQ rfl (.refl _) rfl (ev_tupleO B.tup List.mem_cons_self (ev_var 4))
end
end K5

namespace K5
open PySem PySem.Spec PyProof.Rows L2
open Py (rel)

/-! ### Boxes(sizes) -/
theorem a2_upd {α : Type} [Py α] {S : AS} {H H' : Hp} (h : ∀ v (x : α), rel S H v x → rel S H' v x) : ∀ {vs : List V} {xs : List α}, A2 (rel S H) vs xs → A2 (rel S H') vs xs
  | _, _, .nil => .nil
  | _, _, .cons r t => .cons (h _ _ r) (a2_upd h t)
theorem ne_ins {H : Hp} {a x C dx : Addr} {fs : List (Str × V)} {vs : List V} (hx : H x = some (.ins C dx fs)) (ha : H a = some (.tup vs)) : a ≠ x := fun z => by
  rw [z, hx] at ha
  cases ha
theorem pts_upd {S : AS} {H : Hp} {x C dx : Addr} {fs : List (Str × V)} {o : HO} {v : V} {ss : List Pt} (hx : H x = some (.ins C dx fs)) (h : rel S H v ss) : rel S (upd H x o) v ss := by
  obtain ⟨a, vs, e, h1, r⟩ := h
  refine ⟨a, vs, e, by rw [upd_ne (ne_ins hx h1)]; exact h1, a2_upd (fun u p q => ?_) r⟩
  obtain ⟨b, s, t, e2, h2, r1, r2⟩ := q
  exact ⟨b, s, t, e2, by rw [upd_ne (ne_ins hx h2)]; exact h2, r1, r2⟩
def spI (C : Addr) : Sp := fun vs H Q _ => ∃ (S : AS) (x dx : Addr) (v : V) (ss : List Pt), vs = [.ref x, v] ∧ (∀ a, S a → ∃ xs, H a = some (.lst xs)) ∧ H x = some (.ins C dx []) ∧ rel S H v ss ∧ SzOk ss ∧
  ∀ H' v', (∀ a o, a ≠ x → H a = some o → H' a = some o) → H' x = some (.ins C dx (bxF v' ss.length)) → rel S H' v' ss → Q .non H'
section
variable {P : Program} {w : World} {K : PySem.W.Frag} {mg : Str → Option Value} {base : Heap} {C : Addr}
abbrev sI : Stmt := inClass (top 16) 0
theorem SI : FnScope ["self", "sizes", "number", "size"] ["self", "sizes"] (defScope sI) := ⟨rfl, rfl, rfl, by decide +kernel, rfl, by decide +kernel, by decide +kernel⟩
abbrev XI (P : Program) (w : World) (K : PySem.W.Frag) (mg : Str → Option Value) (base : Heap) (f : Addr) (cdv : Value) (A : Around) (outer : List Env) (s : Shared) (H : Hp) (E : XK) : Cx := (cxOf CX0 P w K mg base ["self", "sizes", "number", "size"] "Boxes.__init__" (defScope sI) f cdv A outer s H E).nox
/-- what the text says of the class for Boxes(..) -/
structure BxMk (K : PySem.W.Frag) (mg : Str → Option Value) (C : Addr) : Prop where
  bc : Bc K C
  g : mg "Boxes" = some (.ref C)
  made : ∃ f fd, Mk K C f ∧ Fun K "__init__" "Boxes.__init__" sI f fd ∧ Binds K fd ["self", "sizes"] []
theorem ok_init {f : Addr} {fd : FuncData} (B : Bn mg) (bc : Bc K C) (h_isSized : Fn P w K mg base CX0 1 "is_sized" (spP (R_isSized K))) (h_isSize : Fn P w K mg base CX0 3 "is_size" (spP (R_isSize K))) (Fu : Fun K "__init__" "Boxes.__init__" sI f fd) : FnOk P w K mg base CX0 4 f fd ["self", "sizes"] (spI C) := by
  refine Fu.ok SI (fun vs H Q E h => ?_) (fun cdv A outer s H vs Q E hr h => ?_)
  · obtain ⟨S, x, dx, v, ss, rfl, _⟩ := h
    rfl
  · obtain ⟨S0, x, dx, v, ss, rfl, hS, hx, rv, hz, q⟩ := h
    have g : Gd (XI P w K mg base f cdv A outer s H E) := ⟨SI.nd, rfl, hr.units, PassesOwn.never⟩
    refine ⟨wpB (XI P w K mg base f cdv A outer s H E) (defBody sI), pss_wp, ?_⟩
    have hn := hz.1
    have hm := hz.2.1
    obtain ⟨t, hM⟩ := B.mxB
    have main : WB ⟨S0, none, H⟩ (XI P w K mg base f cdv A outer s H E) (G0 ["self", "sizes", "number", "size"] [dy (Ad.mk x), dy ss]) [] st0 (defBody sI) { nx := fun _ H' => Q .non H', rt := Q } := by
      refine wb_when (evt_not (EvT.to (k1 := true) (evt_val (ev_callP h_isSized hr (by decide) pass0 (eva_cons ((ev_var 1).toT) (eva_cons ev_int (eva_cons (ev_globI hM) eva_nil))) ⟨ss.length, 1, 40, trivial, rfl, rfl⟩)) (by rw [decide_eq_true (by omega : (1 : Int) ≤ (ss.length : Int)), decide_eq_true (by omega : (ss.length : Int) ≤ 40)]; rfl))) (fun h => by cases h) fun _ => ?_
      refine wb_for g (evi_enum (xs := ss) B.enu (ev_var 1)) (fun _ => [some (dy (Ad.mk x)), some (dy ss), none, none]) (fun _ => []) (fun _ => st0) rfl rfl (.refl _) (fun _ => rfl) (fun F' k y le hy => ?_) ?_
      · obtain ⟨u, hu, rfl⟩ := enum_at hy
        refine ⟨_, _, eg_pair g (egs_cons (eg_name g 2) (egs_cons (eg_name g 3) egs_nil)), ?_⟩
        exact wb_when (evt_not (evt_val (ev_callP h_isSize hr (by decide) pass0 (eva_cons (ev_var 3) eva_nil) ⟨u, hz.2.2 u (List.mem_of_getElem? hu), rfl, rfl⟩))) (fun h => by cases h) fun _ => wb_end rfl (by repeat (first | exact .nil | refine .same ?_ | refine .drop ?_)) rfl
      · -- self.sizes = sizes; self.many = len(sizes)
        refine wb_cons (ps_fld pe_wp pe_wp (by rfl)) fun σ H1 ok => ?_
        obtain ⟨v', hv1, hv2⟩ := ok.env.at_ 1 (dy ss) rfl
        obtain ⟨x', hx1, hx2⟩ := ok.env.at_ 0 (dy (Ad.mk x)) rfl
        cases (show x' = .ref x from hx2)
        have kp : ∀ a o, H a = some o → H1 a = some o := fun a o e => ok.base a o (fun ⟨p, c, z, _⟩ => by cases z) e
        have rv' : rel S0 H1 v' ss := Dyn.sub (d := dy ss) (fun a z => .inl (.inl (.inl z))) hv2
        refine (pv 1).wp ⟨v', hv1, (pv 0).wp ⟨.ref x, hx1, x, C, dx, [], rfl, kp _ _ hx, bc.cls, bc.sizes, by show 0 < 1000; decide, ?_⟩⟩
        have hx3 : (upd H1 x (.ins C dx (putF "sizes" v' []))) x = some (.ins C dx [("sizes", v')]) := upd_same
        have rv3 := pts_upd (o := .ins C dx (putF "sizes" v' [])) (kp _ _ hx) rv'
        obtain ⟨a, vs, ev, ha, ra⟩ := id rv3
        subst ev
        have en : vs.length = ss.length := ra.length
        refine (pss_one (ps_fld (pv 0) (pe_callB call_len_seq (by rfl) B.len PySem.boot_len (pa_cons (pv 1) pa_nil)) (by rfl))).wp ⟨.ref a, hv1, a, vs, rfl, .inr (.of ha), .ref x, hx1, x, C, dx, _, rfl, hx3, bc.cls, bc.many, by show 1 < 1000; decide, ?_⟩
        have ne : ¬ (("sizes" : Str) = "many") := by decide +kernel
        have ep : putF "many" (.int (vs.length : Int)) [("sizes", V.ref a)] = bxF (.ref a) ss.length := by
          rw [en]
          show (if ("sizes" : Str) = "many" then _ else _) = _
          rw [if_neg ne]
          rfl
        refine q _ (.ref a) (fun b o hb e => ?_) (by rw [upd_same, ep]) (pts_upd hx3 rv3)
        rw [upd_ne hb, upd_ne hb]
        exact kp b o e
    exact main _ _ (ok_startP hS (.cons rfl (.cons rv .nil)))
section
variable {F : Fr} {X : Cx} {G : Gm} {L : Ls} {st st1 st2 st3 : Pst} {e a b c : Expr} {es : List Expr} {ds : DL} {pos p p2 : Pos} {C : Addr} {ss : List Pt} {rest : List Stmt} {D : Ends}
/-- return [..] of things of several kinds -/
theorem wb_retL (h : EvA F X G L st es ds st1) (hl : ds.length ≤ 1000) (k : ∀ vs σ H, Ok F G L st1 σ H → D2 (fun v d => d.rel (keys F L) H v) vs ds → ∀ p, H p = none → D.rt (.ref p) (upd H p (.lst vs))) : WB F X G L st (.Return (some (.List es p2)) pos :: rest) D :=
  wb_cons (ps_ret (pe_lst pa_wp)) fun σ H ok => h σ H ok _ fun vs H1 f1 ok1 r1 => ⟨by rw [r1.length]; exact Nat.le_trans hl (by decide), fun p hp => k vs σ H1 ok1 r1 p hp⟩
theorem ev_boxes {k : Nat} (M : ∃ f fd, Mk X.K C f ∧ FnOk X.prog X.w X.K X.mg X.base CX0 4 f fd ["self", "sizes"] (spI C) ∧ Binds X.K fd ["self", "sizes"] []) (hm : X.mg "Boxes" = some (.ref C)) (hr : Room k X.A) (hk : 5 ≤ k) (hz : SzOk ss) (ha : Ev F X G L st a (dy ss) st1) (hg : Gl X "Boxes" := by rfl) (hs : starEach [a] X.env = (false, eval a X.env) :: starEach [] X.env := by rfl) : Ev F X G L st (.Call (.Name "Boxes" p) [a] [] pos) (dy (Bx.mk (C := C) ss)) st1 := fun σ H ok Q q => by
  obtain ⟨f, fd, M, Fo, hb⟩ := M
  refine (pe_make M Fo (hr.mono hk) hg hm hb .nil pass0 pa_wp (by decide) hs rfl).wp ((eva_cons ha eva_nil hs) σ H ok _ fun vs H1 f1 ok1 r1 => ?_)
  cases r1 with
  | cons r1 rr =>
    cases rr
    intro x dx hx hdx hne
    have e0 : Ex H1 (upd (upd H1 dx (.own x)) x (.ins C dx [])) := fun b o z => by
      rw [upd_ne (ne_of_none z hx), upd_ne (ne_of_none z hdx)]
      exact z
    refine ⟨keys F L, x, dx, _, ss, rfl, fun b z => ?_, upd_same, Py.keep ok1.lo e0.fx r1, hz, fun H2 v' hk2 h2 r2 => ⟨rfl, ?_⟩⟩
    · obtain ⟨xs, z2⟩ := ok1.lst z
      exact ⟨xs, e0 _ _ z2⟩
    · have e2 : Ex H1 H2 := fun b o z => hk2 b o (ne_of_none z hx) (e0 b o z)
      exact q _ H2 (f1.trans e2.fx) (ok1.ex e2) ⟨x, dx, v', rfl, h2, r2⟩
end
/-! ### the script, as it is handed in -/
structure Sc (K : PySem.W.Frag) where
  l : List Int
def scRel {K : PySem.W.Frag} (_ : AS) (H : Hp) (v : V) (x : Sc K) : Prop := ∃ a, v = .ref a ∧ ((∃ o, H a = some (.frz o (.lst (x.l.map V.int)))) ∨ ∀ H', SqL K H' a (x.l.map V.int))
instance {K : PySem.W.Frag} : Py (Sc K) where
  rel := scRel
  keep := fun {S H H' v x} l f ⟨a, e, h⟩ => ⟨a, e, h.imp (fun ⟨o, h⟩ => ⟨o, f a _ (fun z => by
    obtain ⟨xs, q⟩ := l a _ z h
    cases q) h⟩) fun h => h⟩
  sub := fun _ h => h
theorem scRel.sq {K : PySem.W.Frag} {S : AS} {H : Hp} {v : V} {x : Sc K} (h : rel S H v x) : ∃ a, v = .ref a ∧ SqL K H a (x.l.map V.int) := by
  obtain ⟨a, e, h⟩ := h
  exact ⟨a, e, h.elim (fun ⟨o, h⟩ => .inl (.inr ⟨o, h⟩)) fun h => h H⟩
section
variable {F : Fr} {X : Cx} {G : Gm} {L : Ls} {st st1 st2 : Pst} {a b : Expr} {pos p p2 : PySem.Pos} {K : PySem.W.Frag} {ns : List Int}
theorem ev_toSc {n : Nat} (hK : X.K = K) (ha : Ev F X G L st a (dy (Sc.mk (K := K) ns)) st1) (hb : Ev F X G L st1 b (dy (n : Int)) st2) : Ev F X G L st (.Subscript a (.Slice none (some b) none p2) pos) (dy (PL.mk (ns.take n))) st2 := fun σ H ok Q k =>
  (pe_slice sl_list pe_wp po_none (po_some pe_wp)).wp (ha σ H ok _ fun v H1 f1 ok1 r1 => hb σ H1 ok1 _ fun w H2 f2 ok2 rw' => by
    subst hK
    obtain ⟨q, e, h⟩ := scRel.sq (Dyn.keep ok1.lo f2 r1)
    refine ⟨n, rw', q, _, e, h, fun l hn => ?_⟩
    rw [cut_to, ← List.map_take]
    have e4 := Ex.new (o := .lst ((ns.take n).map V.int)) hn
    refine k _ _ ((f1.trans f2).trans e4.fx) (ok2.ex e4) ⟨l, _, rfl, fun z => ?_, upd_same, ints_a2 _⟩
    obtain ⟨_, z⟩ := ok2.lst z
    rw [hn] at z
    cases z)
theorem ev_lenSc (hK : X.K = K) (hm : X.mg "len" = none) (ha : Ev F X G L st a (dy (Sc.mk (K := K) ns)) st1) (hg : Gl X "len" := by rfl) (hs : starEach [a] X.env = (false, eval a X.env) :: starEach [] X.env := by rfl) : Ev F X G L st (.Call (.Name "len" p) [a] [] pos) (dy (ns.length : Int)) st1 :=
  ev_callB call_len_seq (rc_one (x := dy (Sc.mk (K := K) ns)) (d := dy (ns.length : Int)) fun v σ H ok e Q k => by
    subst hK
    obtain ⟨q, e, h⟩ := scRel.sq e
    exact ⟨q, _, by rw [e], .inl h, k _ H (.refl _) (by rw [List.length_map]; rfl)⟩) PySem.boot_len hm (eva_cons ha eva_nil hs) hg (by decide) (by decide) hs rfl
end
/-! ### the pool is made -/
def spPool (K : PySem.W.Frag) : Sp := fun vs H Q _ => ∃ (S : AS) (ns : List Int), (∀ a, S a → ∃ xs, H a = some (.lst xs)) ∧ D2 (fun v d => d.rel S H v) vs [dy (Sc.mk (K := K) ns)] ∧ ns.length ≤ 1000 ∧ ∀ p c H', Ex H H' → PoolAt p c (poolM ns) H' → Q (.ref p) H'
theorem S45 : FnScope ["_law_script_here", "_law_seed", "_law_cell"] ["_law_script_here"] (defScope (top 45)) := ⟨rfl, rfl, rfl, by decide +kernel, rfl, by decide +kernel, by decide +kernel⟩
def big (c : Int) : Bool := decide (10 ^ 18 ≤ absI c)
def bigs (l : List Int) (k : Nat) : List Int := ((l.take k).filter big).map absI
theorem bigs_step (l : List Int) (k : Nat) : bigs l (k + 1) = if (match l[k]? with | some c => big c | none => false) = true then bigs l k ++ [absI (l.getD k 0)] else bigs l k := by
  unfold bigs
  cases h : l[k]? with
  | none => rw [List.take_add_one, h]; simp
  | some c =>
    rw [List.take_add_one, h]
    have e : l.getD k 0 = c := by rw [List.getD_eq_getElem?_getD, h]; rfl
    rw [e]
    show ((l.take k ++ [c]).filter big).map absI = if big c = true then _ else _
    rw [List.filter_append, List.map_append]
    by_cases hb : big c = true
    · rw [if_pos hb, List.filter_cons_of_pos hb]
      rfl
    · rw [if_neg hb, List.filter_cons_of_neg hb]
      simp
theorem ok_Lpool (B : Bn mg) (D : Df K mg "_law_pool" (top 45) ["_law_script_here"]) : Fn P w K mg base CX0 1 "_law_pool" (spPool K) := by
  obtain ⟨f, fd, Fu, gx, b⟩ := D
  refine ⟨f, fd, ["_law_script_here"], Fu.ok S45 (fun vs H Q E h => ?_) (fun cdv A outer s H vs Q E hr h => ?_), gx, Fu.kp, b⟩
  · obtain ⟨S, ns, _, r, _⟩ := h
    rw [r.length]
    rfl
  · obtain ⟨S0, ns, hS, r, hlen, q⟩ := h
    have g : Gd (XO P w K mg base ["_law_script_here", "_law_seed", "_law_cell"] "_law_pool" (top 45) f cdv A outer s H E) := gd_XO S45 hr
    refine ⟨wpB (XO P w K mg base ["_law_script_here", "_law_seed", "_law_cell"] "_law_pool" (top 45) f cdv A outer s H E) (defBody (top 45)), pss_wp, ?_⟩
    have main : WB ⟨S0, none, H⟩ (XO P w K mg base ["_law_script_here", "_law_seed", "_law_cell"] "_law_pool" (top 45) f cdv A outer s H E) (G0 ["_law_script_here", "_law_seed", "_law_cell"] [dy (Sc.mk (K := K) ns)]) [] st0 (defBody (top 45)) { nx := fun _ H' => Q .non H', rt := Q } := by
      refine wb_set (d := dy (seedM ns 0)) (st1 := st0) g 1 (ev_add (ev_add (ev_mod (ev_intI B.int (ev_sum g B.sum (ev_toSc (n := 1) rfl (ev_var 0) ev_int))) ev_int (by decide)) (ev_lenSc rfl B.len (ev_var 0))) ev_int) ?_
      refine wb_for g (evi_pl (xs := ns.take 63) (ev_toSc (n := 63) rfl (ev_var 0) ev_int)) (fun k => [some (dy (Sc.mk (K := K) ns)), some (dy (seedM ns k)), none]) (fun _ => []) (fun _ => st0) rfl rfl (.refl _) (fun _ => rfl) (fun F' k y le hy => ?_) ?_
      · obtain ⟨u, hu, rfl⟩ := map_at hy
        have eu : (ns.take 63).getD k 0 = u := by rw [List.getD_eq_getElem?_getD, hu]; rfl
        refine ⟨_, _, eg_name g 2, ?_⟩
        have es : seedM ns (k + 1) = (seedM ns k * 48271 + u % 2147483629 + 11) % 2147483647 := by rw [← eu]; rfl
        rw [es]
        exact wb_set (d := dy ((seedM ns k * 48271 + u % 2147483629 + 11) % 2147483647)) (st1 := st0) g 1 (ev_mod (ev_intI B.int (ev_add (ev_add (ev_mul (ev_var 1) ev_int (cmul_r (by decide))) (ev_mod (ev_intI B.int (ev_var 2)) ev_int (by decide))) ev_int)) ev_int (by decide)) (wb_end rfl (by repeat (first | exact .nil | refine .same ?_ | refine .drop ?_)) rfl)
      · have hl63 : ((ns.take 63).map (dy : Int → Dyn)).length = (ns.take 63).length := List.length_map ..
        rw [hl63]
        refine wb_retL (ds := [dy (seedM ns (ns.take 63).length), dy (0 : Int), dy (PL.mk (bigs (ns.take 63) ((ns.take 63).map (dy : Int → Dyn)).length))]) (st1 := st0) (eva_cons (ev_var 1) (eva_cons ev_int (eva_cons (ev_lcIf [("_law_cell", 2)] g (evi_pl (xs := ns.take 63) (ev_toSc (n := 63) rfl (ev_var 0) ev_int)) (bigs (ns.take 63)) (fun k => match (ns.take 63)[k]? with | some c => big c | none => false) (fun k => absI ((ns.take 63).getD k 0)) rfl (bigs_step _) (by rw [hl63, List.length_take]; omega) (fun F2 j x D le2 hx2 => by
            obtain ⟨u, hu, rfl⟩ := map_at hx2
            have eu : (ns.take 63).getD j 0 = u := by rw [List.getD_eq_getElem?_getD, hu]; rfl
            refine ⟨_, [2], by decide, fun s H C cl fp => ⟨eg_name (gd_blk g) 2, ?_, fun _ => ?_⟩⟩
            · rw [hu]
              exact evt_ge (ev_abs B.abs (ev_var 2)) (ev_pow (i := 10) (j := 18) ev_int ev_int ⟨by decide, by decide, by decide⟩)
            · rw [eu]
              exact ev_abs B.abs (ev_var 2)) (blkOk_by (blk_by ["_law_script_here", "_law_seed", "_law_cell"] (top 45) rfl rfl (by decide +kernel)))) eva_nil))) (by show 3 ≤ 1000; decide) fun vs σ H2 ok2 r2 p hp => ?_
        cases r2 with
        | cons r1 r2 =>
          cases r2 with
          | cons r2 r3 =>
            cases r3 with
            | cons r3 r4 =>
              cases r4
              obtain ⟨cc, ws, e3, _, hc, rc⟩ := r3
              have ew : ws = (bigs (ns.take 63) ((ns.take 63).map (dy : Int → Dyn)).length).map V.int := ev_sum.int_flat rc
              have ep := Ex.new (o := .lst [V.int (seedM ns (ns.take 63).length), .int 0, .ref cc]) hp
              have hpc : p ≠ cc := fun z => by rw [← z, hp] at hc; cases hc
              rw [show _ = V.int (seedM ns (ns.take 63).length) from r1, show _ = V.int 0 from r2, e3]
              refine q p cc _ (fun a o e => ep a o (ok2.base a o (fun ⟨p, c, z, _⟩ => by cases z) e)) ⟨hpc, upd_same, ?_⟩
              rw [upd_ne (Ne.symm hpc), hc, ew, hl63]
              have : bigs (ns.take 63) (ns.take 63).length = (poolM ns).cells := by unfold bigs poolM big; rw [List.take_length]
              rw [this]
    exact main _ _ (ok_startP hS r)
end
end K5

namespace K5
open PySem PySem.Spec PyProof.Rows L2
open Py (rel)

/-! ### NotFree(number) -/
section
variable {P : Program} {w : World} {K : PySem.W.Frag} {mg : Str → Option Value} {base : Heap} {C N : Addr}
def spNI (K : PySem.W.Frag) (N : Addr) : Sp := fun vs H Q _ => ∃ (a : Addr) (n : Int), vs = [.ref a, .int n] ∧ H a = some (exo a N none) ∧ ∀ dx, H dx = none → dx ≠ a → Q .non (upd (upd H dx (exd dx [("number", .int n)])) a (exo a N (some dx)))
abbrev sN : Stmt := inClass (top 5) 0
theorem SN : FnScope ["self", "number"] ["self", "number"] (defScope sN) := ⟨rfl, rfl, rfl, by decide +kernel, rfl, by decide +kernel, by decide +kernel⟩
/-- what the text says of the class NotFree -/
structure NfC (K : PySem.W.Frag) (mg : Str → Option Value) (N : Addr) : Prop where
  ex : OexC K N
  no : PySem.W.findIn K (.ref N) "number" = some none
  g : mg "NotFree" = some (.ref N)
  xf : XfC K N
  te : PySem.W.exmOne K (.ref N) (.ref N) = some true
  made : ∃ f fd, PySem.W.findIn K (.ref N) "__init__" = some (some (.ref f)) ∧ PySem.W.typeIn K (.ref f) = some (.type "function") ∧ Fun K "__init__" "NotFree.__init__" sN f fd ∧ Binds K fd ["self", "number"] []
theorem ok_ninit {f : Addr} {fd : FuncData} (T : OexC K N) (no : PySem.W.findIn K (.ref N) "number" = some none) (Fu : Fun K "__init__" "NotFree.__init__" sN f fd) : FnOk P w K mg base CX0 1 f fd ["self", "number"] (spNI K N) := by
  refine Fu.ok SN (fun vs H Q E h => ?_) (fun cdv A outer s H vs Q E hr h => ?_)
  · obtain ⟨a, n, rfl, _⟩ := h
    rfl
  · obtain ⟨a, n, rfl, ha, q⟩ := h
    exact ⟨_, pss_one (ps_ost (pv 0) (pv 1)), .int n, rfl, .ref a, rfl, a, N, rfl, T, no, .inl ⟨ha, fun dx h1 h2 => q dx h1 h2⟩⟩
abbrev XR (P : Program) (w : World) (K : PySem.W.Frag) (mg : Str → Option Value) (base : Heap) (N : List Str) (x : Str) (st : Stmt) (f : Addr) (cdv : Value) (A : Around) (outer : List Env) (s : Shared) (H : Hp) (E : XK) : Cx := cxOf (L2.CX P w) P w K mg base N x (defScope st) f cdv A outer s H E
theorem gd_XR {M ps : List Str} {x : Str} {st : Stmt} {f : Addr} {cdv : Value} {A : Around} {outer : List Env} {s : Shared} {H : Hp} {E : XK} {k : Nat} (S : FnScope M ps (defScope st)) (hr : Room k (A.deeper (envOfC x (defScope st) s.heap.objs.size f cdv))) : Gd (XR P w K mg base M x st f cdv A outer s H E) :=
  ⟨S.nd, rfl, hr.units, passes_of rfl⟩
/-- a script that is not free: the raise with the first stroke's number -/
def spRz (K : PySem.W.Frag) (N : Addr) : Sp := fun vs H _ E => ∃ (S : AS) (C : Addr) (ss ps : List Pt) (sc : List Stk) (n : Nat), (∀ a, S a → ∃ xs, H a = some (.lst xs)) ∧ D2 (fun v d => d.rel S H v) vs [dy (Bx.mk (C := C) ss), dy ps, dy sc] ∧ (Bc K C ∧ Pic ss ps ∧ Form ss.length sc ∧ runM ss ps sc = some n) ∧
  ∀ d H', Ex H H' → H' d = some (.xd [("number", .int (n : Int))]) → E (.ref N) (some d) H'
structure FnR (P : Program) (w : World) (K : PySem.W.Frag) (mg : Str → Option Value) (base : Heap) (k : Nat) (x : Str) (sp : Sp) : Prop where
  ex : ∃ f fd, FnOk P w K mg base (L2.CX P w) k f fd ["boxes", "picture", "script"] sp ∧ mg x = some (.ref f) ∧ PySem.W.keepIn K (.ref f) = true ∧ Binds K fd ["boxes", "picture", "script"] []
theorem nf_E {H1 Hn : Hp} {a d dx : Addr} {fs : List (Str × V)} {u u' v : HO} (ha : H1 a = none) (hd : H1 d = none) (hdx : upd H1 a u dx = none) (eq : Hn = upd (del (upd (upd (upd H1 a u) dx v) a u') a) d (.xd fs)) : Ex H1 Hn := fun b o e => by
  have n1 : b ≠ a := ne_of_none e ha
  have n2 : b ≠ d := ne_of_none e hd
  have n3 : b ≠ dx := fun z => by
    rw [← z, upd_ne n1, e] at hdx
    cases hdx
  rw [eq, upd_ne n2, del_ne n1, upd_ne n1, upd_ne n3, upd_ne n1]
  exact e
theorem ok_checkRz (B : Bn mg) (T : NfC K mg N) (h_checkPicture : Fn P w K mg base CX0 6 "check_picture" (spP (R_checkPicture K))) (h_isForm : Fn P w K mg base CX0 4 "is_form" (spP (R_isForm K))) (h_runOf : Fn P w K mg base CX0 5 "run_of" (spP (R_runOf K))) (D : Df K mg "check_script" (top 38) ["boxes", "picture", "script"]) : FnR P w K mg base 7 "check_script" (spRz K N) := by
  obtain ⟨f, fd, Fu, gx, b⟩ := D
  refine ⟨f, fd, Fu.okX S38 (fun vs H Q E h => ?_) (fun cdv A outer s H vs Q E hr h => ?_), gx, Fu.kp, b⟩
  · obtain ⟨S, C, ss, ps, sc, n, _, r, _⟩ := h
    rw [r.length]
    rfl
  · obtain ⟨S0, C, ss, ps, sc, n, hS, r, ⟨bc, pc, hf, hn⟩, q⟩ := h
    have g := gd_XR (P := P) (w := w) (K := K) (mg := mg) (base := base) (x := "check_script") (f := f) (cdv := cdv) (A := A) (outer := outer) (s := s) (H := H) (E := E) S38 hr
    refine ⟨wpB (XR P w K mg base ["boxes", "picture", "script", "found", "number"] "check_script" (top 38) f cdv A outer s H E) (defBody (top 38)), pss_wp, ?_⟩
    have main : WB ⟨S0, none, H⟩ (XR P w K mg base ["boxes", "picture", "script", "found", "number"] "check_script" (top 38) f cdv A outer s H E) (G0 ["boxes", "picture", "script", "found", "number"] [dy (Bx.mk (C := C) ss), dy ps, dy sc]) [] st0 (defBody (top 38)) { nx := fun _ H' => Q .non H', rt := Q } := by
      refine wb_expr (st1 := st0) (d := dy (none : Option Int)) (ev_callP h_checkPicture hr (by decide) pass0 (eva_cons (ev_var 0) (eva_cons (ev_var 1) eva_nil)) ⟨C, ss, ps, ⟨bc, pc⟩, rfl, rfl⟩) ?_
      refine wb_when (evt_not (evt_val (ev_callP h_isForm hr (by decide) pass0 (eva_cons (ev_var 0) (eva_cons (ev_var 2) eva_nil)) ⟨C, ss, sc, ⟨bc, pc.1, hf⟩, rfl, rfl⟩))) (fun h => by cases h) fun _ => ?_
      have hr0 : R_runOf K [dy (Bx.mk (C := C) ss), dy ps, dy sc] (dy (PL.mk (picsM ps (sc.take n)), (some (n : Int) : Option Int))) := ⟨C, ss, ps, sc, ⟨bc, pc.2.1, pc.1, hf⟩, rfl, by rw [hn]; rfl⟩
      refine wb_asg (ev_callP h_runOf hr (by decide) pass0 (eva_cons (ev_var 0) (eva_cons (ev_var 1) (eva_cons (ev_var 2) eva_nil))) hr0) (eg_pair g (egs_cons (eg_name g 3) (egs_cons (eg_name g 4) egs_nil))) ?_
      refine wb_when (evt_notNI (o := some (n : Int)) (ev_var 4)) (fun _ => ?_) fun h => by cases h
      obtain ⟨fN, fdN, iN, tN, FN, bN⟩ := T.made
      refine wb_cons (ps_raise (W := fun cls d _ H => E cls d H) rfl (takes_of rfl rfl rfl rfl) (pmk_oex T.ex iN tN (ok_ninit T.ex T.no FN) (hr.mono (by decide)) bN .nil pass0 (by rfl) T.g (pa_cons (pe_wp (e := .Name "number" _)) pa_nil))) fun σ H1 ok => ?_
      refine (Ev.unsome (u := (n : Int)) (ev_var 4)) σ H1 ok _ fun v H2 f2 ok2 r2 => ⟨by show 1 ≤ 1000; decide, fun a ha => ⟨a, (n : Int), by rw [show v = V.int (n : Int) from r2]; rfl, upd_same, fun dx hdx hne => ⟨rfl, dx, _, upd_same, by rw [upd_ne hne]; exact upd_same, ?_, ?_⟩⟩⟩
      · rw [upd_ne hne] at hdx
        exact hdx
      · have hdx1 : H2 dx = none := by rw [upd_ne hne] at hdx; exact hdx
        refine q dx _ (fun b o e => nf_E ha hdx1 hdx rfl b o (ok2.base b o (fun ⟨p, c, z, _⟩ => by cases z) e)) upd_same
    exact main _ _ (ok_startP hS r)
theorem ok_ledRz (h : FnR P w K mg base 7 "check_script" (spRz K N)) (D : Df K mg "led" (top 39) ["boxes", "picture", "script"]) : FnR P w K mg base 8 "led" (spRz K N) := by
  obtain ⟨f, fd, Fu, gx, b⟩ := D
  obtain ⟨fc, fdc, Fc, gc, kc, bcc⟩ := h.ex
  refine ⟨f, fd, Fu.okX S39 (fun vs H Q E h => ?_) (fun cdv A outer s H vs Q E hr h => ?_), gx, Fu.kp, b⟩
  · obtain ⟨S, C, ss, ps, sc, n, _, r, _⟩ := h
    rw [r.length]
    rfl
  · obtain ⟨S0, C, ss, ps, sc, n, hS, r, hp, q⟩ := h
    refine ⟨wpB (XR P w K mg base ["boxes", "picture", "script"] "led" (top 39) f cdv A outer s H E) (defBody (top 39)), pss_wp, ?_⟩
    have main : WB ⟨S0, none, H⟩ (XR P w K mg base ["boxes", "picture", "script"] "led" (top 39) f cdv A outer s H E) (G0 ["boxes", "picture", "script"] [dy (Bx.mk (C := C) ss), dy ps, dy sc]) [] st0 (defBody (top 39)) { nx := fun _ H' => Q .non H', rt := Q } := by
      refine wb_cons (ps_ret (pe_ix ix_list (pe_call Fc hr (by rfl) gc kc bcc .nil (passes_call (takes_of rfl rfl rfl rfl) fun _ _ _ _ z => z) (pa_cons (pe_wp (e := .Name "boxes" _)) (pa_cons (pe_wp (e := .Name "picture" _)) (pa_cons (pe_wp (e := .Name "script" _)) pa_nil)))) (pe_un un_neg pe_int) (fun _ _ => rfl))) fun σ H1 ok => ?_
      refine (ev_var 0 (d := dy (Bx.mk (C := C) ss))) σ H1 ok _ fun v1 H2 f2 ok2 r1 => (ev_var 1 (d := dy ps)) σ H2 ok2 _ fun v2 H3 f3 ok3 r2 => (ev_var 2 (d := dy sc)) σ H3 ok3 _ fun v3 H4 f4 ok4 r3 => ?_
      refine ⟨S0, C, ss, ps, sc, n, fun a h => ok4.lst (.inl (.inl h)), .cons (Dyn.sub (fun a z => .inl (.inl (.inl z))) (Dyn.keep ok2.lo (f3.trans f4) r1)) (.cons (Dyn.sub (fun a z => .inl (.inl (.inl z))) (Dyn.keep ok3.lo f4 r2)) (.cons (Dyn.sub (fun a z => .inl (.inl (.inl z))) r3) .nil)), hp, fun d H' e hd => q d H' (fun a o z => e a o (ok4.base a o (fun ⟨p, c, z, _⟩ => by cases z) z)) hd⟩
    exact main _ _ (ok_startP hS r)
theorem ok_picturesRz (h : FnR P w K mg base 7 "check_script" (spRz K N)) (D : Df K mg "pictures" (top 40) ["boxes", "picture", "script"]) : FnR P w K mg base 8 "pictures" (spRz K N) := by
  obtain ⟨f, fd, Fu, gx, b⟩ := D
  obtain ⟨fc, fdc, Fc, gc, kc, bcc⟩ := h.ex
  refine ⟨f, fd, Fu.okX S40 (fun vs H Q E h => ?_) (fun cdv A outer s H vs Q E hr h => ?_), gx, Fu.kp, b⟩
  · obtain ⟨S, C, ss, ps, sc, n, _, r, _⟩ := h
    rw [r.length]
    rfl
  · obtain ⟨S0, C, ss, ps, sc, n, hS, r, hp, q⟩ := h
    refine ⟨wpB (XR P w K mg base ["boxes", "picture", "script"] "pictures" (top 40) f cdv A outer s H E) (defBody (top 40)), pss_wp, ?_⟩
    have main : WB ⟨S0, none, H⟩ (XR P w K mg base ["boxes", "picture", "script"] "pictures" (top 40) f cdv A outer s H E) (G0 ["boxes", "picture", "script"] [dy (Bx.mk (C := C) ss), dy ps, dy sc]) [] st0 (defBody (top 40)) { nx := fun _ H' => Q .non H', rt := Q } := by
      refine wb_cons (ps_ret (pe_call Fc hr (by rfl) gc kc bcc .nil (passes_call (takes_of rfl rfl rfl rfl) fun _ _ _ _ z => z) (pa_cons (pe_wp (e := .Name "boxes" _)) (pa_cons (pe_wp (e := .Name "picture" _)) (pa_cons (pe_wp (e := .Name "script" _)) pa_nil))))) fun σ H1 ok => ?_
      refine (ev_var 0 (d := dy (Bx.mk (C := C) ss))) σ H1 ok _ fun v1 H2 f2 ok2 r1 => (ev_var 1 (d := dy ps)) σ H2 ok2 _ fun v2 H3 f3 ok3 r2 => (ev_var 2 (d := dy sc)) σ H3 ok3 _ fun v3 H4 f4 ok4 r3 => ?_
      refine ⟨S0, C, ss, ps, sc, n, fun a h => ok4.lst (.inl (.inl h)), .cons (Dyn.sub (fun a z => .inl (.inl (.inl z))) (Dyn.keep ok2.lo (f3.trans f4) r1)) (.cons (Dyn.sub (fun a z => .inl (.inl (.inl z))) (Dyn.keep ok3.lo f4 r2)) (.cons (Dyn.sub (fun a z => .inl (.inl (.inl z))) r3) .nil)), hp, fun d H' e hd => q d H' (fun a o z => e a o (ok4.base a o (fun ⟨p, c, z, _⟩ => by cases z) z)) hd⟩
    exact main _ _ (ok_startP hS r)
end
end K5

namespace K5
open PySem PySem.Spec PyProof.Rows L2
open Py (rel)

/-- the word "free" -/
structure FW where
instance : PyF FW := { rel := fun _ _ v _ => v = .str "free", keep := fun _ _ h => h, sub := fun _ h => h, frz := fun h => h }
theorem free_ok : PyData.strOk "free" = true := by decide +kernel
instance : PyE FW := { dat := fun _ => .str "free", deep := 0, dp := fun h => by cases h; exact .str _, lay := fun x => ⟨by simpa [PyData.canLay0] using free_ok, by simp [PyData.depth], by simp [PyData.hasDict]⟩ }

/-! ### isinstance of the caught error, its dict at dd -/
def rIsD (K : PySem.W.Frag) (D a dd : Addr) : List V → Hp → VK → Prop := fun xs H Q => ∃ (c : V) (cv : Value) (b : Bool) (fs : List (Str × V)), xs = [.ref a, c] ∧ (∀ u, RelV c u → u = cv) ∧ PySem.W.kitOne K (.ref D) cv = some b ∧ H dd = some (.xd fs) ∧ Q (.bl b) H
theorem call_isD {X : Cx} {a D dd : Addr} {oe : Obj} {pn : List (Addr × Obj)} (C : ExcC X.K D) (hz : Zc (.ref D) (some dd) oe) (hf : ∃ vs, oe.data = .fields vs) : CallR (X.suite a ((a, oe) :: pn)) (.builtin "isinstance") (rIsD X.K D a dd) := by
  intro pins s σ H xs us Q I r h
  obtain ⟨c, cv, b, fs, rfl, hcv, e, hdd, q⟩ := h
  cases r with
  | cons rx rr =>
    cases rr with
    | cons rt rr =>
      cases rr
      cases rx
      have ec := hcv _ rt
      subst ec
      obtain ⟨hget, _⟩ := I.pin (a, oe) (List.mem_append_left _ List.mem_cons_self)
      obtain ⟨vs, hv⟩ := hf
      have hx : ObjOk X.prog X.w H s.heap dd (.xd fs) := I.hok dd _ hdd
      obtain ⟨mA, hns, hr⟩ := hx
      obtain ⟨od, ho, hl⟩ := lookIn_ns hns
      have J : PySem.W.InstAt s.heap a oe D (some od) := ⟨hget, hz.1, by unfold PySem.W.notCls; rw [hv] <;> rfl, by rw [hz.2]; exact ho⟩
      obtain ⟨cd, hcd, _⟩ := PySem.W.any_some C.hd
      exact PySem.W.kia_one (PySem.W.kitx_exc (by rw [hcd]; rfl) C.hg C.hk C.hs C.ha C.hn C.ht C.hm) I.kIn J e (fun z => nomatch z) fun tk => ⟨.bl b, H, I.kept (t' := tk) fun _ _ z => z, rfl, q⟩
section
variable {F : Fr} {X : Cx} {G G' : Gm} {L : Ls} {st : Pst} {rest body suite : List Stmt} {b₀ : Stmt} {D : Ends} {x n : Str} {np pos pos' : Pos}
/-- try: body except x as n: suite, the body raising an error of the class at N, its fields fs -/
theorem wb_try {N : Addr} {fs : List (Str × V)} (i : Nat) (hs : X.stack = X.env :: X.outer) (hfr : X.env.frame = some X.env.locals) (g : Gd X) (hi : X.N[i]? = some n) (hln : X.env.kindOf n = some .local) (hc : Names X x (.ref N)) (te : PySem.W.exmOne X.K (.ref N) (.ref N) = some true)
    (hbody : ∀ (W : WX) (pn : List (Addr × Obj)) (xe : Value → Shared → Prop) (D' : Ends) (σ : L2.St) (H : Hp), Takes (X.tr pn xe) W → PassesOwn (model X.prog X.w) X.A X.env xe → Ok F G L st σ H → (∀ σ2 H2 dd, Ok F G L st σ2 H2 → H2 dd = some (.xd fs) → W (.ref N) (some dd) σ2 H2) → wpB (X.tr pn xe) body D' σ H)
    (hsu : ∀ (a : Addr) (oe : Obj) (dd : Addr) (pn : List (Addr × Obj)) (D' : Ends) (σ : L2.St) (H : Hp), Zc (.ref N) (some dd) oe → (∃ vs, oe.data = .fields vs) → Ok F (G.set i (some (dy (Ad.mk a)))) L st σ H → H dd = some (.xd fs) → (∀ σ' H', Ok F G' L st σ' H' → D'.nx σ' H') → wpB (X.suite a ((a, oe) :: pn)) (b₀ :: suite) D' σ H)
    (hr : WB F X (G'.set i none) L st rest D) : WB F X G L st (.Try body [.ExceptHandler (some (.Name x np)) (some n) (b₀ :: suite) pos'] [] [] pos :: rest) D :=
  wb_cons (ps_try_as (c := .ref N) (i := i) (Wout := fun _ _ _ _ => False) (tb := fun W D σ H => ∀ pn xe, Takes (X.tr pn xe) W → PassesOwn (model X.prog X.w) X.A X.env xe → wpB (X.tr pn xe) body D σ H) (ts := fun a cls d D σ H => ∀ oe pn, Zc cls d oe → (∃ vs, oe.data = .fields vs) → wpB (X.suite a ((a, oe) :: pn)) (b₀ :: suite) D σ H)
    hs hfr g.nd hi hln hc takes0 (fun W pn xe tk po => ⟨fun pins s σ H D I h => h pn xe tk po pins s I⟩) (fun a oe cls d pn hz hf => ⟨fun pins s σ H D I h => h oe pn hz hf pins s I⟩)) fun σ H ok pn xe tk po => by
    refine hbody _ pn xe _ σ H tk po ok fun σ2 H2 dd ok2 hd => ⟨true, te, fun _ a ha oe pn2 hz hf => ?_, fun z => by cases z⟩
    refine hsu a oe dd pn2 _ _ H2 hz hf (ok2.slot rfl) hd fun σ' H' ok3 => ?_
    exact hr _ _ (ok3.wipe [i])
end
section
variable {P : Program} {w : World} {K : PySem.W.Frag} {mg : Str → Option Value} {base : Heap} {C N : Addr}
/-- what the text says of the classes above NotFree -/
structure NfS (K : PySem.W.Frag) (mg : Str → Option Value) (N S : Addr) : Prop where
  nf : NfC K mg N
  c : ExcC K N
  g : mg "StrokeError" = some (.ref S)
  v : mg "ValueError" = none
  k1 : PySem.W.kitOne K (.ref N) (.ref S) = some true
  k2 : PySem.W.kitOne K (.ref N) (.type "ValueError") = some true
def R_Ltried (K : PySem.W.Frag) : DL → Dyn → Prop := fun ds d => ∃ (C : Addr) (wh : Int) (ss ps : List Pt) (sc : List Stk) (n : Nat), (0 ≤ wh ∧ wh ≤ 2 ∧ Bc K C ∧ Pic ss ps ∧ Form ss.length sc ∧ runM ss ps sc = some n) ∧ ds = [dy wh, dy (Bx.mk (C := C) ss), dy ps, dy sc] ∧ d = dy ((⟨⟩ : FW), (n : Int))
theorem S64 : FnScope ["_law_which", "_law_made", "_law_places", "_law_script_here", "_law_found", "e"] ["_law_which", "_law_made", "_law_places", "_law_script_here"] (defScope (top 64)) := ⟨rfl, rfl, rfl, by decide +kernel, rfl, by decide +kernel, by decide +kernel⟩
abbrev XT (P : Program) (w : World) (K : PySem.W.Frag) (mg : Str → Option Value) (base : Heap) (f : Addr) (cdv : Value) (A : Around) (outer : List Env) (s : Shared) (H : Hp) (E : XK) : Cx := XO P w K mg base ["_law_which", "_law_made", "_law_places", "_law_script_here", "_law_found", "e"] "_law_tried" (top 64) f cdv A outer s H E
theorem ok_Ltried {S : Addr} (B : Bn mg) (T : NfS K mg N S) (hL : FnR P w K mg base 8 "led" (spRz K N)) (hP : FnR P w K mg base 8 "pictures" (spRz K N)) (D : Df K mg "_law_tried" (top 64) ["_law_which", "_law_made", "_law_places", "_law_script_here"]) : Fn P w K mg base CX0 9 "_law_tried" (spP (R_Ltried K)) := by
  refine fnP (k := 8) D S64 (fun ds d ⟨_, _, _, _, _, _, _, e, _⟩ => by subst e; rfl) fun f cdv A outer s H E ds d hr g hR S0 => ?_
  obtain ⟨C, wh, ss, ps, sc, n, ⟨w0, w2, bc, pc, hf, hn⟩, rfl, rfl⟩ := hR
  obtain ⟨fl, fdl, Fl, gl, kl, bl⟩ := hL.ex
  obtain ⟨fp, fdp, Fp, gp, kp, bp⟩ := hP.ex
  refine wb_set (d := dy ("other" : Str)) (st1 := st0) g 4 ev_str ?_
  refine wb_try (N := N) (fs := [("number", .int (n : Int))]) (G' := [some (dy wh), some (dy (Bx.mk (C := C) ss)), some (dy ps), some (dy sc), some (dy ((⟨⟩ : FW), (n : Int))), none]) 5 rfl rfl g rfl rfl ⟨rfl, by decide, .inl T.nf.g⟩ T.nf.te (fun W pn xe D' σ H1 tk po ok hW => ?_) (fun a oe dd pn D' σ H1 hz hfl ok hd hD => ?_) ?_
  · have g2 : Gd ((XT P w K mg base f cdv A outer s H E).tr pn xe) := ⟨g.nd, g.calm, g.hu, po⟩
    have args : ∀ {p1 p2 p3 : Pos} (σ2 : L2.St) (H2 : Hp), Ok ⟨S0, none, H⟩ [some (dy wh), some (dy (Bx.mk (C := C) ss)), some (dy ps), some (dy sc), some (dy ("other" : Str)), none] [] st0 σ2 H2 → ∀ {Q : List V → Hp → Prop}, (∀ vs H3, Ok ⟨S0, none, H⟩ [some (dy wh), some (dy (Bx.mk (C := C) ss)), some (dy ps), some (dy sc), some (dy ("other" : Str)), none] [] st0 σ2 H3 → (∀ Q' : VK, spRz K N vs H3 Q' (WE W σ2)) → Q vs H3) →
        wpA ((XT P w K mg base f cdv A outer s H E).tr pn xe) [.Name "_law_made" p1, .Name "_law_places" p2, .Name "_law_script_here" p3] σ2 H2 Q := fun {p1 p2 p3} σ2 H2 ok2 {Q} k => by
      refine (eva_cons (ev_var 1 (d := dy (Bx.mk (C := C) ss))) (eva_cons (ev_var 2 (d := dy ps)) (eva_cons (ev_var 3 (d := dy sc)) eva_nil))) σ2 H2 ok2 _ fun vs H3 f3 ok3 r3 => k vs H3 ok3 fun Q' => ?_
      refine ⟨S0, C, ss, ps, sc, n, fun a h => ok3.lst (.inl (.inl h)), r3.map fun v d z => Dyn.sub (fun a z => .inl (.inl (.inl z))) z, ⟨bc, pc, hf, hn⟩, fun d H' e hd => ?_⟩
      exact hW σ2 H' d (ok3.ex e) hd
    refine L2.PSs.wp (pss_cons (ps_set (i := 4) g2.nd rfl (Or.inl rfl) (pe_ifExp pt_wp (pe_lst (pa_cons (by exact (pe_callS (X := (XT P w K mg base f cdv A outer s H E).tr pn xe) Fl hr (by rfl) gl kl bl (fun σ => passAt tk σ) pa_wp)) pa_nil)) (by exact (pe_callS (X := (XT P w K mg base f cdv A outer s H E).tr pn xe) Fp hr (by rfl) gp kp bp (fun σ => passAt tk σ) pa_wp)))) pss_wp) ?_
    refine (evt_eqI (ev_var 0 (d := dy wh)) ev_int) σ H1 ok _ fun H2 f2 ok2 => ?_
    by_cases hw : wh = 0
    · rw [decide_eq_true hw]
      refine iteT ?_
      exact args σ H2 ok2 fun vs H3 ok3 h => h _
    · rw [decide_eq_false hw]
      refine iteF ?_
      exact args σ H2 ok2 fun vs H3 ok3 h => h _
  · obtain ⟨v5, h5, e5⟩ := ok.env.at_ 5 (dy (Ad.mk a)) rfl
    cases (show v5 = .ref a from e5)
    refine L2.PSs.wp (X := (XT P w K mg base f cdv A outer s H E).suite a ((a, oe) :: pn)) (pss_one (ps_set (i := 4) S64.nd rfl (Or.inl rfl) (pe_ifExp (PW.pt (pw_and (pt_val (pe_callB (call_isD T.c hz hfl) (by rfl) B.isi (by decide +kernel) (pa_cons (pv 5) (pa_cons (pe_glob (v := .ref S) (by rfl) T.g rfl) pa_nil)))) (pw_and1 (pt_val (pe_callB (call_isD T.c hz hfl) (by rfl) B.isi (by decide +kernel) (pa_cons (pv 5) (pa_cons (pe_bltn (v := .ty "ValueError") (by rfl) T.v (by decide +kernel) rfl) pa_nil))))))) (pe_tup (pa_cons pe_str (pa_cons (pe_xf T.nf.xf T.nf.no hz hfl (pv 5)) pa_nil))) pe_str))) ?_
    refine ⟨.ref a, h5, .ref S, .ref S, true, _, rfl, fun u z => z, T.k1, hd, true, rfl, iteT ?_⟩
    refine ⟨.ref a, h5, .ty "ValueError", .type "ValueError", true, _, rfl, fun u z => z, T.k2, hd, true, rfl, iteT ?_⟩
    refine ⟨.ref a, h5, rfl, rfl, dd, _, _, rfl, hd, rfl, by show 2 ≤ sizeLine; decide, fun q hq => ?_⟩
    have e4 := Ex.new (o := .tup [.str "free", .int (n : Int)]) hq
    refine hD _ _ (((ok.ex e4).slot (i := 4) (d := dy ((⟨⟩ : FW), (n : Int))) (v := .ref q) ⟨q, _, _, rfl, upd_same, rfl, rfl⟩).less ?_)
    exact .same (.same (.same (.same (.same (.drop .nil)))))
  · exact wb_retP (d := dy ((⟨⟩ : FW), (n : Int))) rfl (.refl _) rfl (ev_var 4)
end
end K5

namespace K5
open PySem PySem.Spec PyProof.Rows L2
open Py (rel)

/-! ### data that repr may show -/
def Rp (W : Nat) (d : PyData) : Prop := d.showable = true ∧ d.leavesShort 61 = true ∧ d.weight ≤ W ∧ d.hasDict = false
theorem rp_len {W : Nat} {d : PyData} (h : Rp W d) (hW : W ≤ 200000) : d.shown.length ≤ sizeLine := by
  have h1 := PyData.shown_le 61 (by decide) d h.2.1
  have h2 : (61 + 2) * d.weight ≤ 63 * 200000 := Nat.mul_le_mul (Nat.le_refl _) (Nat.le_trans h.2.2.1 hW)
  rw [sizeLine_eq]
  omega
/-- an int of no great size -/
def Sm (i : Int) : Prop := -(2 ^ 59) < i ∧ i < 2 ^ 59
theorem sm_log {i : Int} (h : Sm i) : i.natAbs.log2 < 60 := by
  have h1 : i.natAbs < 2 ^ 59 := by
    have := h.1
    have := h.2
    omega
  by_cases h0 : i.natAbs = 0
  · rw [h0]; decide
  · have := (Nat.log2_lt h0).mpr h1
    omega
theorem rp_int {i : Int} (h : Sm i) : Rp 61 (.int i) := by
  have hl := sm_log h
  refine ⟨by simp only [PyData.showable, decide_eq_true_eq]; omega, ?_, ?_, by simp only [PyData.hasDict]⟩
  · simp only [PyData.leavesShort]
    refine decide_eq_true ?_
    have e := int_text_length_le (a := i) (by decide : 0 < 60) hl
    have e2 : (PyData.shown (.int i)).length = (toString i).length := by simp only [PyData.shown]; exact PySem.ofString_length _
    omega
  · simp only [PyData.weight]
    split <;> omega
theorem rp_str {x : Str} (h : PyData.strOk x = true) (hl : x.cps.size ≤ 61) : Rp 61 (.str x) := by
  refine ⟨by simp only [PyData.showable], ?_, by simp only [PyData.weight]; exact hl, by simp only [PyData.hasDict]⟩
  have q := PyData.leavesShort_of_canLay0 61 (.str x) (by simp only [PyData.canLay0]; exact h) (by simp only [PyData.intsShort])
  exact q
theorem rp_all {W : Nat} : ∀ {xs : List PyData}, (∀ x ∈ xs, Rp W x) → PyData.showableAll xs = true ∧ PyData.leavesShortAll 61 xs = true ∧ PyData.weightAll xs ≤ (W + 1) * xs.length ∧ PyData.hasDictAll xs = false
  | [], _ => ⟨by simp only [PyData.showableAll], by simp only [PyData.leavesShortAll], by simp only [PyData.weightAll]; exact Nat.zero_le _, by simp only [PyData.hasDictAll]⟩
  | x :: xs, h => by
    obtain ⟨a1, a2, a3, a4⟩ := h x List.mem_cons_self
    obtain ⟨b1, b2, b3, b4⟩ := rp_all (xs := xs) fun y hy => h y (List.mem_cons_of_mem _ hy)
    refine ⟨by simp only [PyData.showableAll, a1, b1, Bool.and_self], by simp only [PyData.leavesShortAll, a2, b2, Bool.and_self], ?_, by simp only [PyData.hasDictAll, a4, b4, Bool.or_self]⟩
    simp only [PyData.weightAll, List.length_cons]
    rw [Nat.mul_succ]
    omega
theorem rp_tup {W V : Nat} {xs : List PyData} (h : ∀ x ∈ xs, Rp W x) (hV : (W + 1) * xs.length ≤ V) : Rp V (.tuple xs) := by
  obtain ⟨a, b, c, d⟩ := rp_all h
  exact ⟨by simp only [PyData.showable, a], by simp only [PyData.leavesShort, b], by simp only [PyData.weight]; omega, by simp only [PyData.hasDict, d]⟩
theorem rp_lst {W V : Nat} {xs : List PyData} (h : ∀ x ∈ xs, Rp W x) (hV : (W + 1) * xs.length ≤ V) : Rp V (.list xs) := by
  obtain ⟨a, b, c, d⟩ := rp_all h
  exact ⟨by simp only [PyData.showable, a], by simp only [PyData.leavesShort, b], by simp only [PyData.weight]; omega, by simp only [PyData.hasDict, d]⟩
theorem rp_mono {V W : Nat} {d : PyData} (h : Rp V d) (hv : V ≤ W) : Rp W d := ⟨h.1, h.2.1, Nat.le_trans h.2.2.1 hv, h.2.2.2⟩
/-- a picture's coordinates are of no great size -/
def SmP (ps : List Pt) : Prop := ∀ p ∈ ps, Sm p.1 ∧ Sm p.2
theorem rp_pt {p : Pt} (h : Sm p.1 ∧ Sm p.2) : Rp 124 (PyE.dat p) := rp_tup (W := 61) (xs := [.int p.1, .int p.2]) (fun x hx => by
  rcases List.mem_cons.mp hx with e | hx
  · rw [e]; exact rp_int h.1
  · rw [List.mem_singleton.mp hx]; exact rp_int h.2) (by show 62 * 2 ≤ 124; decide)
theorem rp_pts {ps : List Pt} (h : SmP ps) (hl : ps.length ≤ 40) : Rp 5000 (PyE.dat ps) := rp_tup (W := 124) (xs := ps.map PyE.dat) (fun x hx => by
  obtain ⟨p, hp, rfl⟩ := List.mem_map.mp hx
  exact rp_pt (h p hp)) (by rw [List.length_map]; omega)
theorem rp_pics {l : List (List Pt)} (h : ∀ ps ∈ l, SmP ps ∧ ps.length ≤ 40) (hl : l.length ≤ 39) : Rp 200000 (PyE.dat (PL.mk l)) := rp_lst (W := 5000) (xs := l.map PyE.dat) (fun x hx => by
  obtain ⟨p, hp, rfl⟩ := List.mem_map.mp hx
  exact rp_pts (h p hp).1 (h p hp).2) (by rw [List.length_map]; omega)
theorem rp_stk {u : Stk} (h : ∀ x ∈ u.2, Sm x) (hl : u.2.length ≤ 40) : Rp 5000 (PyE.dat u) := by
  have hg : Rp 2480 (PyE.dat u.2) := rp_tup (W := 61) (xs := u.2.map PyE.dat) (fun x hx => by
    obtain ⟨p, hp, rfl⟩ := List.mem_map.mp hx
    exact rp_int (h p hp)) (by rw [List.length_map]; omega)
  refine rp_tup (W := 2480) (xs := [PyE.dat u.1, PyE.dat u.2]) (fun x hx => ?_) (by show 2481 * 2 ≤ 5000; decide)
  rcases List.mem_cons.mp hx with e | hx
  · rw [e]
    refine rp_mono (rp_str (way_ok u.1) ?_) (by decide : 61 ≤ 2480)
    cases u.1 <;> decide +kernel
  · rw [List.mem_singleton.mp hx]; exact hg
theorem rp_stks {l : List Stk} (h : ∀ u ∈ l, (∀ x ∈ u.2, Sm x) ∧ u.2.length ≤ 40) (hl : l.length ≤ 39) : Rp 200000 (PyE.dat l) := rp_tup (W := 5000) (xs := l.map PyE.dat) (fun x hx => by
  obtain ⟨p, hp, rfl⟩ := List.mem_map.mp hx
  exact rp_stk (h p hp).1 (h p hp).2) (by rw [List.length_map]; omega)

/-! ### repr, where no guard is held -/
def rRepr (K : PySem.W.Frag) : List V → Hp → VK → Prop := fun xs H Q => ∃ (a : Addr) (d : PyData), xs = [.ref a] ∧ Dp K H (.ref a) d ∧ Rp 200000 d ∧ d.depth ≤ 40 ∧ Q (.str d.shown) H
theorem call_repr {X : Cx} (hg : X.A.guards = some []) (hu : X.A.units + 64 < cLine) : CallR X (.builtin "repr") (rRepr X.K) := by
  intro pins s σ H xs us Q I r h
  obtain ⟨a, d, rfl, hd, hp, hdp, q⟩ := h
  rw [Vals.ref1 r]
  obtain ⟨as, rd⟩ := Dp.reads I d (.ref a) (.ref a) hd rfl
  exact repr_of_reads' rd hp.1 (PyData.noDict_hsm hp.2.2.2) hg (by omega) (fun _ _ e => e) (fun h' u tk k => ⟨.str d.shown, H, I.kept (t' := tk) k, ⟨_, rfl⟩, q⟩) (rp_len hp (Nat.le_refl _))

/-! ### defs whose promise holds where no guard is held -/
structure FnG (P : Program) (w : World) (K : PySem.W.Frag) (mg : Str → Option Value) (base : Heap) (k : Nat) (x : Str) (sp : Sp) : Prop where
  ex : ∃ f fd ps, (∀ vs H Q E, sp vs H Q E → vs.length = List.length ps) ∧
    (∀ (A : Around) (outer : List Env) (s : Shared) (H : Hp) (args : Args) (us : List Value) (vs : List V) (Q : VK) (E : XK), A.guards = some [] → Room k A → Env0 P w K mg base A outer s H → BindsTo s fd args (List.zip ps us) → Vals vs us → sp vs H Q E → codeAny (model P w) A (.call (.ref f) args) (CR CX0 outer P w H s Q E) s) ∧
    mg x = some (.ref f) ∧ PySem.W.keepIn K (.ref f) = true ∧ Binds K fd ps []
theorem fnG {P : Program} {w : World} {K : PySem.W.Frag} {mg : Str → Option Value} {base : Heap} {x : Str} {st : Stmt} {N ps : List Str} {k : Nat} {sp : Sp} (D : Df K mg x st ps) (S : FnScope N ps (defScope st)) (len : ∀ vs H Q E, sp vs H Q E → vs.length = ps.length)
    (hb : ∀ (f : Addr) (cdv : Value) (A : Around) (outer : List Env) (s : Shared) (H : Hp) (E : XK) (vs : List V) (Q : VK), (XO P w K mg base N x st f cdv A outer s H E).A.guards = some [] → Room k (XO P w K mg base N x st f cdv A outer s H E).A → Gd (XO P w K mg base N x st f cdv A outer s H E) → sp vs H Q E →
      wpB (XO P w K mg base N x st f cdv A outer s H E) (defBody st) { nx := fun _ H' => Q .non H', rt := Q } (L2.start N vs) H) : FnG P w K mg base (k + 1) x sp := by
  obtain ⟨f, fd, Fu, gx, b⟩ := D
  refine ⟨f, fd, ps, len, fun A outer s H args us vs Q E hgd hr e0 hb0 r hsp => ?_, gx, Fu.kp, b⟩
  obtain ⟨oc, od, kV, doc, pm, an, cdv, ct, osl, rfl, lk, hcd⟩ := Fu.ex
  have hl := len _ _ _ _ hsp
  have inH : K.In s.heap := e0.mod.kin.keeps fun b o e => (e0.bs b o e).1
  have nol : s.heap.NoLimit := e0.mod.nolimit.keeps fun b o e => (e0.bs b o e).1
  refine codeAny_call_function hr.depth (inH _ _ lk) rfl S.co S.gen rfl (PySem.W.codeRec_of inH hcd) (hb0 _ _ _ _ ?_)
  refine wpAny_newFunctionEnv_cells S.kind (fun y hy => ?_) fun env he s1 z => ?_
  · rcases S.par y.1 (List.of_mem_zip hy).1 with q | q
    · exact .inl q
    · exact .inr ⟨q, PySem.W.cellsFrom_some _ _ _ (.inl q)⟩
  · subst he
    refine ⟨nol.keeps z.toInCall.keep, codeAny_func ?_⟩
    have I : Inv (cxOf CX0 P w K mg base N x (defScope st) f cdv A outer s H E) [] (L2.start N vs) H s1 := inv_start S hr.hd e0 hl r z
    have main := (PSs.nox (X := cxOf CX0 P w K mg base N x (defScope st) f cdv A outer s H E) (pss_wp (X := XO P w K mg base N x st f cdv A outer s H E) (b := defBody st))).run [] s1 _ H _ I (hb f cdv A outer s H E vs Q hgd (hr.deeper _) (gd_XO S (hr.deeper _)) hsp)
    refine wpAny_mono main (fun fl s' hs => ?_) fun e s' hs => hs
    cases fl with
    | ret u => obtain ⟨v, σ', H', J, rv, q⟩ := hs; exact ⟨v, H', J.os, J.bare, J.base, J.hok, rv, q⟩
    | next => obtain ⟨σ', H', J, q⟩ := hs; exact ⟨.non, H', J.os, J.bare, J.base, J.hok, rfl, q⟩
    | brk => obtain ⟨_, _, _, q⟩ := hs; exact q.elim
    | cont => obtain ⟨_, _, _, q⟩ := hs; exact q.elim
section
variable {F : Fr} {X : Cx} {G : Gm} {L : Ls} {st st1 st2 : Pst} {e : Expr} {es : List Expr} {pos p : Pos} {d : Dyn} {ds : DL}
theorem pe_callG {k : Nat} {n : Str} {sp : Sp} {t : TA} (f : FnG X.prog X.w X.K X.mg X.base k n sp) (hgd : X.A.guards = some []) (hr : Room k X.A) (ha : PA X (e :: es) t) (hg : Gl X n) (hdb : (n == ("__debug__" : Str)) = false) (he : starEach (e :: es) X.env = (false, eval e X.env) :: starEach es X.env)
    (hpl : (backTo pos (starEach es X.env)).any (·.1) = false) : PE X (.Call (.Name n p) (e :: es) [] pos) (tCall sp [] E0 t) := ⟨fun pins s σ H Q I h => by
  obtain ⟨fa, fd, ps, len, run, gx, kp, b⟩ := f.ex
  refine wpAny_Call_Name_kw (ld_glob I hg gx ?_ hdb)
  refine PySem.W.callWith_K (h₀ := X.base) I.ok.mod.kin kp (thn (ha.run pos pins s σ H _ I h) fun us s1 ⟨vs, H1, I1, r, q⟩ => ⟨I1.kIn, ?_⟩) he hpl
  have q1 : sp vs H1 Q E0 := by
    have q0 : sp (vs ++ []) H1 Q E0 := q
    rw [List.append_nil] at q0
    exact q0
  have hl : (us ++ []).length = ps.length := by rw [List.append_nil, ← r.length]; exact len _ _ _ _ q1
  have bb := b s1 us I1.kIn hl
  rw [List.append_nil] at bb
  refine wpAny_call (codeAny_mono (run X.A X.stack s1 H1 ⟨us, []⟩ us vs Q E0 hgd hr I1.env0 bb r q1) fun z s' hq => ?_)
  cases z with
  | error e => exact hq.elim
  | ok fl =>
    cases fl with
    | ret u => exact I1.after hq
    | next => exact hq.elim
    | brk => exact hq.elim
    | cont => exact hq.elim⟩
theorem ev_callG {k kk : Nat} {n : Str} {R : DL → Dyn → Prop} (f : FnG X.prog X.w X.K X.mg X.base k n (spP R)) (hgd : X.A.guards = some []) (hr : Room kk X.A) (hk : k ≤ kk) (ha : EvA F X G L st (e :: es) ds st1) (hR : R ds d) (hg : Gl X n := by rfl) (hdb : (n == ("__debug__" : Str)) = false := by decide)
    (he : starEach (e :: es) X.env = (false, eval e X.env) :: starEach es X.env := by rfl) (hpl : (backTo pos (starEach es X.env)).any (·.1) = false := by rfl) : Ev F X G L st (.Call (.Name n p) (e :: es) [] pos) d st1 := fun σ H ok Q q => by
  refine (pe_callG f hgd (hr.mono hk) pa_wp hg hdb he hpl).wp (ha σ H ok _ fun vs H1 f1 ok1 r1 => ?_)
  show spP R (vs ++ []) H1 Q E0
  rw [List.append_nil]
  exact ⟨keys F L, ds, d, fun a h => ok1.lst h, r1, hR, fun v H2 e2 r2 => q v H2 (f1.trans e2.fx) (ok1.ex e2) r2⟩
end
section
variable {P : Program} {w : World} {K : PySem.W.Frag} {mg : Str → Option Value} {base : Heap}
/-- data of a kind that stands at an address -/
class PyA (α : Type) extends PyE α where
  at_ : ∀ {S : AS} {H : Hp} {v : V} {x : α}, rel S H v x → ∃ a, v = .ref a
  low : deep ≤ 30
instance : PyA (List Pt) := { at_ := fun ⟨a, _, e, _⟩ => ⟨a, e⟩, low := by decide }
instance : PyA (List Stk) := { at_ := fun ⟨a, _, e, _⟩ => ⟨a, e⟩, low := by decide }
instance : PyA (PL (List Pt)) := { at_ := fun ⟨a, _, e, _⟩ => ⟨a, e⟩, low := by decide }
def R_Lis (K : PySem.W.Frag) : DL → Dyn → Prop := fun ds d => ∃ (α : Type) (i : PyA α) (x : α), Rp 200000 (PyE.dat x) ∧ ds = [dy x, dy x] ∧ d = dy true
theorem S48 : FnScope ["_law_told", "_law_due"] ["_law_told", "_law_due"] (defScope (top 48)) := ⟨rfl, rfl, rfl, by decide +kernel, rfl, by decide +kernel, by decide +kernel⟩
theorem ok_Lis (B : Bn mg) (D : Df K mg "_law_is" (top 48) ["_law_told", "_law_due"]) : FnG P w K mg base 1 "_law_is" (spP (R_Lis K)) := by
  refine fnG (k := 0) D S48 (fun vs H Q E h => ?_) fun f cdv A outer s H E vs Q hgd hr g h => ?_
  · obtain ⟨S, ds, d, _, r, ⟨α, i, x, _, rfl, _⟩, _⟩ := h
    exact r.length
  · obtain ⟨S, ds, d, hS, r, ⟨α, i, x, hp, rfl, rfl⟩, q⟩ := h
    have hu := g.hu
    refine L2.PSs.wp (pss_one (ps_ret (pe_cmpR op_eq (pe_callB (call_repr hgd hu) (by rfl) B.rep (by decide +kernel) (pa_cons (pv 0) pa_nil)) (pe_callB (call_repr hgd hu) (by rfl) B.rep (by decide +kernel) (pa_cons (pv 1) pa_nil)) (by first | exact nomark _ | rfl)))) ?_
    cases r with
    | cons r1 r =>
      cases r with
      | cons r2 r =>
        cases r
        obtain ⟨a1, rfl⟩ := PyA.at_ (show rel S H _ x from r1)
        obtain ⟨a2, rfl⟩ := PyA.at_ (show rel S H _ x from r2)
        have hdp : (PyE.dat x).depth ≤ 40 := Nat.le_trans (PyE.lay x).2.1 (Nat.le_trans (PyA.low (α := α)) (by decide))
        exact ⟨.ref a1, rfl, a1, _, rfl, PyE.dp (show rel S H _ x from r1), hp, hdp, .ref a2, rfl, a2, _, rfl, PyE.dp (show rel S H _ x from r2), hp, hdp, rfl, q _ H (.refl _) (by show V.bl _ = V.bl true; rw [decide_eq_true rfl])⟩
end
end K5

namespace K5

/-! ### coordinates along a way and across it -/
def cw (w : Way) (p : Pt) : Int := pick p (ax w)
def co (w : Way) (p : Pt) : Int := match w with
  | .lev => p.2
  | .upr => p.1
theorem cw_lev (p : Pt) : cw .lev p = p.1 := rfl
theorem cw_upr (p : Pt) : cw .upr p = p.2 := rfl
def mt (w : Way) (ss ps : List Pt) (i j : Nat) : Bool := meetB (co w (pt ps i)) (co w (pt ss i)) (co w (pt ps j)) (co w (pt ss j))
def mv (w : Way) (ss ps : List Pt) (i j : Nat) : Bool := meetB (cw w (pt ps i)) (cw w (pt ss i)) (cw w (pt ps j)) (cw w (pt ss j))
theorem meetB_iff {b l ob ol : Int} : meetB b l ob ol = true ↔ b < ob + ol ∧ ob < b + l := by
  unfold meetB
  rw [Bool.and_eq_true, decide_eq_true_iff, decide_eq_true_iff]
theorem meetB_comm (b l ob ol : Int) : meetB b l ob ol = meetB ob ol b l := by
  unfold meetB
  exact Bool.and_comm _ _
theorem besT_eq (ss ps : List Pt) (w : Way) (i j : Nat) : besT ss ps w i j = (mt w ss ps i j && decide (cw w (pt ps i) < cw w (pt ps j))) := by cases w <;> rfl
theorem inM_eq (ss ps : List Pt) (w : Way) (i j : Nat) : inM ss ps w i j = mt w ss ps i j := by cases w <;> rfl
theorem ovB_eq (ss ps : List Pt) (w : Way) (i j : Nat) : ovB ss ps i j = (mt w ss ps i j && mv w ss ps i j) := by
  cases w
  · rfl
  · exact Bool.and_comm _ _
theorem mt_comm (w : Way) (ss ps : List Pt) (i j : Nat) : mt w ss ps i j = mt w ss ps j i := meetB_comm _ _ _ _
theorem mv_comm (w : Way) (ss ps : List Pt) (i j : Nat) : mv w ss ps i j = mv w ss ps j i := meetB_comm _ _ _ _
theorem gapM_eq (ss ps : List Pt) (w : Way) (i j : Nat) : gapM ss ps w i j = cw w (pt ps j) - cw w (pt ps i) - cw w (pt ss i) := rfl
theorem pt_get {ps : List Pt} {i : Nat} {p : Pt} (h : ps[i]? = some p) : pt ps i = p := by
  unfold pt
  rw [List.getD_eq_getElem?_getD, h]
  rfl
theorem pt_mem {ps : List Pt} {i : Nat} (h : i < ps.length) : pt ps i ∈ ps := by
  rw [pt_get (List.getElem?_eq_getElem h)]
  exact List.getElem_mem h
theorem gl_get {u : Stk} {i : Nat} {x : Int} (h : u.2[i]? = some x) : gl u i = x := by
  unfold gl
  rw [List.getD_eq_getElem?_getD, h]
  rfl
/-- a point with these coordinates -/
def mk (w : Way) (a b : Int) : Pt := match w with
  | .lev => (a, b)
  | .upr => (b, a)
theorem cw_mk (w : Way) (a b : Int) : cw w (mk w a b) = a := by cases w <;> rfl
theorem co_mk (w : Way) (a b : Int) : co w (mk w a b) = b := by cases w <;> rfl
theorem mk_eta (w : Way) (p : Pt) : mk w (cw w p) (co w p) = p := by cases w <;> rfl
theorem behM_eq (ps : List Pt) (u : Stk) : behM ps u = (u.2.zip ps).map fun z => mk u.1 z.1 (co u.1 z.2) := by
  unfold behM
  cases u.1 <;> rfl
theorem beh_pt {ps : List Pt} {u : Stk} {i : Nat} (hl : u.2.length = ps.length) (hi : i < ps.length) : pt (behM ps u) i = mk u.1 (gl u i) (co u.1 (pt ps i)) := by
  have h1 : u.2[i]? = some (u.2[i]'(hl ▸ hi)) := List.getElem?_eq_getElem _
  have h2 : ps[i]? = some ps[i] := List.getElem?_eq_getElem hi
  have hz : (u.2.zip ps)[i]? = some (u.2[i]'(hl ▸ hi), ps[i]) := List.getElem?_zip_eq_some.mpr ⟨h1, h2⟩
  rw [gl_get h1, pt_get h2]
  refine pt_get ?_
  rw [behM_eq, List.getElem?_map, hz]
  rfl
theorem beh_cw {ps : List Pt} {u : Stk} {i : Nat} (hl : u.2.length = ps.length) (hi : i < ps.length) : cw u.1 (pt (behM ps u) i) = gl u i := by rw [beh_pt hl hi, cw_mk]
theorem beh_co {ps : List Pt} {u : Stk} {i : Nat} (hl : u.2.length = ps.length) (hi : i < ps.length) : co u.1 (pt (behM ps u) i) = co u.1 (pt ps i) := by rw [beh_pt hl hi, co_mk]
theorem beh_mt {ss ps : List Pt} {u : Stk} {i j : Nat} (hl : u.2.length = ps.length) (hi : i < ps.length) (hj : j < ps.length) : mt u.1 ss (behM ps u) i j = mt u.1 ss ps i j := by
  unfold mt
  rw [beh_co hl hi, beh_co hl hj]
/-- sizes are positive -/
def Pos (ss : List Pt) : Prop := ∀ i, i < ss.length → 1 ≤ (pt ss i).1 ∧ 1 ≤ (pt ss i).2
theorem pos_of {ss : List Pt} (h : SzOk ss) : Pos ss := fun i hi => by
  obtain ⟨⟨a, _⟩, b, _⟩ := h.2.2 _ (pt_mem hi)
  exact ⟨a, b⟩
theorem Pos.cw {ss : List Pt} (h : Pos ss) (w : Way) {i : Nat} (hi : i < ss.length) : 1 ≤ cw w (pt ss i) := by
  obtain ⟨a, b⟩ := h i hi
  cases w
  · exact a
  · exact b
theorem pic_apart {ss ps : List Pt} (h : Pic ss ps) (w : Way) {i j : Nat} (hi : i < ss.length) (hj : j < ss.length) (hn : i ≠ j) (hm : mt w ss ps i j = true) : cw w (pt ps i) + cw w (pt ss i) ≤ cw w (pt ps j) ∨ cw w (pt ps j) + cw w (pt ss j) ≤ cw w (pt ps i) := by
  have ho : mv w ss ps i j = false := by
    rcases Nat.lt_or_gt_of_ne hn with q | q
    · have e := h.2.2 i j q hj
      rw [ovB_eq ss ps w, hm, Bool.true_and] at e
      exact e
    · have e := h.2.2 j i q hi
      rw [ovB_eq ss ps w, mt_comm, hm, Bool.true_and, mv_comm] at e
      exact e
  have h2 : ¬ (cw w (pt ps i) < cw w (pt ps j) + cw w (pt ss j) ∧ cw w (pt ps j) < cw w (pt ps i) + cw w (pt ss i)) := fun z => by
    have := meetB_iff.mpr z
    unfold mv at ho
    rw [this] at ho
    cases ho
  omega
/-- a free stroke keeps the order -/
theorem letM_iff {ss ps : List Pt} {u : Stk} (hm : ps.length = ss.length) (hu : u.2.length = ss.length) : letM ss ps u = true ↔ ∀ i j, i < ss.length → j < ss.length → mt u.1 ss ps i j = true → cw u.1 (pt ps i) < cw u.1 (pt ps j) → gl u i + cw u.1 (pt ss i) ≤ gl u j := by
  have hl : u.2.length = ps.length := hu.trans hm.symm
  unfold letM
  rw [List.all_eq_true]
  refine ⟨fun h i j hi hj hmt hlt => ?_, fun h p hp => ?_⟩
  · have hb : besT ss ps u.1 i j = true := by rw [besT_eq, hmt, decide_eq_true hlt]; rfl
    have q := of_decide_eq_true (h ((i : Int), (j : Int)) (besAcc_mem.mpr ⟨i, j, hi, hj, hb, rfl⟩))
    rw [gapM_eq] at q
    have e1 : ((j : Int)).toNat = j := Int.toNat_natCast j
    have e2 : ((i : Int)).toNat = i := Int.toNat_natCast i
    dsimp only at q
    rw [e1, e2, beh_cw hl (by omega), beh_cw hl (by omega)] at q
    omega
  · obtain ⟨i, j, hi, hj, hb, rfl⟩ := besAcc_mem.mp hp
    rw [besT_eq, Bool.and_eq_true] at hb
    have q := h i j hi hj hb.1 (of_decide_eq_true hb.2)
    refine decide_eq_true ?_
    rw [gapM_eq]
    have e1 : ((j : Int)).toNat = j := Int.toNat_natCast j
    have e2 : ((i : Int)).toNat = i := Int.toNat_natCast i
    dsimp only
    rw [e1, e2, beh_cw hl (by omega), beh_cw hl (by omega)]
    omega
/-- a free stroke leads to a picture -/
theorem pic_beh {ss ps : List Pt} {u : Stk} (hp : Pos ss) (h : Pic ss ps) (hu : u.2.length = ss.length) (hf : letM ss ps u = true) : Pic ss (behM ps u) := by
  have hl : u.2.length = ps.length := hu.trans h.2.1.symm
  refine ⟨h.1, (behM_len hl).trans h.2.1, fun i j hij hj => ?_⟩
  have hm := h.2.1
  rw [ovB_eq _ _ u.1, beh_mt hl (by omega) (by omega)]
  cases e : mt u.1 ss ps i j with
  | false => rfl
  | true =>
    rw [Bool.true_and]
    have q := (letM_iff h.2.1 hu).mp hf
    have si := hp.cw u.1 (i := i) (by omega)
    have sj := hp.cw u.1 (i := j) (by omega)
    cases e2 : mv u.1 ss (behM ps u) i j with
    | false => rfl
    | true =>
      unfold mv at e2
      rw [meetB_iff, beh_cw hl (by omega), beh_cw hl (by omega)] at e2
      rcases pic_apart h u.1 (by omega : i < ss.length) hj (by omega) e with z | z
      · have := q i j (by omega) hj e (by omega)
        omega
      · have := q j i hj (by omega) (by rw [mt_comm]; exact e) (by omega)
        omega
/-! ### no overlaps, no hits -/
theorem lvRow_nil {ss ps : List Pt} {i : Nat} : ∀ {k}, lvRow ss ps i k = [] ↔ ∀ j, j < k → ovB ss ps i (i + 1 + j) = false
  | 0 => ⟨fun _ j h => absurd h (Nat.not_lt_zero j), fun _ => rfl⟩
  | k + 1 => by
    have e : (inM ss ps .lev i (i + 1 + k) && inM ss ps .upr i (i + 1 + k)) = ovB ss ps i (i + 1 + k) := by rw [inM_eq, inM_eq]; rfl
    unfold lvRow
    rw [e]
    by_cases h : ovB ss ps i (i + 1 + k) = true
    · rw [if_pos h]
      refine ⟨fun z => by simp at z, fun z => ?_⟩
      have := z k (Nat.lt_succ_self k)
      rw [h] at this
      cases this
    · rw [if_neg h, lvRow_nil (k := k)]
      refine ⟨fun z j hj => ?_, fun z j hj => z j (Nat.lt_succ_of_lt hj)⟩
      by_cases q : j = k
      · subst q; simpa using h
      · exact z j (by omega)
theorem lvAcc_nil {ss ps : List Pt} : ∀ {k}, lvAcc ss ps k = [] ↔ ∀ i, i < k → ∀ j, j < ss.length - (i + 1) → ovB ss ps i (i + 1 + j) = false
  | 0 => ⟨fun _ j h => absurd h (Nat.not_lt_zero j), fun _ => rfl⟩
  | k + 1 => by
    unfold lvAcc
    rw [List.append_eq_nil_iff, lvAcc_nil (k := k), lvRow_nil]
    refine ⟨fun ⟨z1, z2⟩ i hi => ?_, fun z => ⟨fun i hi => z i (Nat.lt_succ_of_lt hi), z k (Nat.lt_succ_self k)⟩⟩
    by_cases q : i = k
    · subst q; exact z2
    · exact z1 i (by omega)
theorem lvM_nil {ss ps : List Pt} : lvM ss ps = [] ↔ ∀ i j, i < j → j < ss.length → ovB ss ps i j = false := by
  unfold lvM
  rw [lvAcc_nil]
  refine ⟨fun h i j hij hj => ?_, fun h i hi j hj => h i (i + 1 + j) (by omega) (by omega)⟩
  have := h i (by omega) (j - (i + 1)) (by omega)
  rw [show i + 1 + (j - (i + 1)) = j by omega] at this
  exact this
theorem hA_nil {ss ps : List Pt} {u : Stk} {i j : Nat} : hA ss ps u i j = [] ↔ hit1 ss ps u i j = false ∧ hit2 ss ps u i j = false := by
  unfold hA
  rw [List.append_eq_nil_iff]
  cases hit1 ss ps u i j <;> cases hit2 ss ps u i j <;> simp
theorem htRow_nil {ss ps : List Pt} {u : Stk} {i : Nat} : ∀ {k}, htRow ss ps u i k = [] ↔ ∀ j, j < k → mt u.1 ss ps i (i + 1 + j) = true → hA ss ps u i (i + 1 + j) = []
  | 0 => ⟨fun _ j h => absurd h (Nat.not_lt_zero j), fun _ => rfl⟩
  | k + 1 => by
    unfold htRow
    rw [inM_eq]
    by_cases h : mt u.1 ss ps i (i + 1 + k) = true
    · rw [if_pos h, List.append_eq_nil_iff, htRow_nil (k := k)]
      refine ⟨fun ⟨z1, z2⟩ j hj => ?_, fun z => ⟨fun j hj => z j (Nat.lt_succ_of_lt hj), z k (Nat.lt_succ_self k) h⟩⟩
      by_cases q : j = k
      · subst q; exact fun _ => z2
      · exact z1 j (by omega)
    · rw [if_neg h, htRow_nil (k := k)]
      refine ⟨fun z j hj => ?_, fun z j hj => z j (Nat.lt_succ_of_lt hj)⟩
      by_cases q : j = k
      · subst q; exact fun q => absurd q h
      · exact z j (by omega)
theorem htAcc_nil {ss ps : List Pt} {u : Stk} : ∀ {k}, htAcc ss ps u k = [] ↔ ∀ i, i < k → ∀ j, j < ss.length - (i + 1) → mt u.1 ss ps i (i + 1 + j) = true → hA ss ps u i (i + 1 + j) = []
  | 0 => ⟨fun _ j h => absurd h (Nat.not_lt_zero j), fun _ => rfl⟩
  | k + 1 => by
    unfold htAcc
    rw [List.append_eq_nil_iff, htAcc_nil (k := k), htRow_nil]
    refine ⟨fun ⟨z1, z2⟩ i hi => ?_, fun z => ⟨fun i hi => z i (Nat.lt_succ_of_lt hi), z k (Nat.lt_succ_self k)⟩⟩
    by_cases q : i = k
    · subst q; exact z2
    · exact z1 i (by omega)
theorem hits_iff {ss ps : List Pt} {u : Stk} : frM ss ps u = true ↔ ∀ i j, i < j → j < ss.length → mt u.1 ss ps i j = true → hit1 ss ps u i j = false ∧ hit2 ss ps u i j = false := by
  unfold frM htM
  rw [List.isEmpty_iff, htAcc_nil]
  refine ⟨fun h i j hij hj hm => ?_, fun h i hi j hj hm => hA_nil.mpr (h i (i + 1 + j) (by omega) (by omega) hm)⟩
  have := h i (by omega) (j - (i + 1)) (by omega)
  rw [show i + 1 + (j - (i + 1)) = j by omega] at this
  exact hA_nil.mp (this hm)
/-- on a picture: free is free -/
theorem frM_pic {ss ps : List Pt} {u : Stk} (hp : Pos ss) (h : Pic ss ps) (hu : u.2.length = ss.length) : frM ss ps u = letM ss ps u := by
  refine Bool.eq_iff_iff.mpr ?_
  rw [hits_iff, letM_iff h.2.1 hu]
  have e1 : ∀ i j, hit1 ss ps u i j = true ↔ cw u.1 (pt ss i) ≤ cw u.1 (pt ps j) - cw u.1 (pt ps i) ∧ gl u j - gl u i < cw u.1 (pt ss i) := fun i j => by
    unfold hit1
    rw [Bool.and_eq_true, decide_eq_true_iff, decide_eq_true_iff]
    rfl
  have e2 : ∀ i j, hit2 ss ps u i j = true ↔ cw u.1 (pt ps j) - cw u.1 (pt ps i) ≤ 0 - cw u.1 (pt ss j) ∧ 0 - cw u.1 (pt ss j) < gl u j - gl u i := fun i j => by
    unfold hit2
    rw [Bool.and_eq_true, decide_eq_true_iff, decide_eq_true_iff]
    rfl
  have no : ∀ {b : Bool}, ¬ b = true → b = false := fun {b} z => by cases b; rfl; exact absurd rfl z
  refine ⟨fun q i j hi hj hmt hlt => ?_, fun q i j hij hj hmt => ⟨no fun z => ?_, no fun z => ?_⟩⟩
  · have si := hp.cw u.1 hi
    have sj := hp.cw u.1 hj
    have hn : i ≠ j := fun z => by subst z; omega
    have ap := pic_apart h u.1 hi hj hn hmt
    rcases Nat.lt_or_gt_of_ne hn with o | o
    · have z := (q i j o hj hmt).1
      have z2 : ¬ hit1 ss ps u i j = true := fun y => by rw [z] at y; cases y
      rw [e1] at z2
      omega
    · have z := (q j i o hi (by rw [mt_comm]; exact hmt)).2
      have z2 : ¬ hit2 ss ps u j i = true := fun y => by rw [z] at y; cases y
      rw [e2] at z2
      omega
  · have si := hp.cw u.1 (i := i) (by omega)
    rw [e1] at z
    have := q i j (by omega) hj hmt (by omega)
    omega
  · have sj := hp.cw u.1 (i := j) (by omega)
    rw [e2] at z
    have := q j i hj (by omega) (by rw [mt_comm]; exact hmt) (by omega)
    omega
end K5

namespace K5
/-! ### shown pictures -/
theorem pt_app_lt {ps : List Pt} {p : Pt} {i : Nat} (h : i < ps.length) : pt (ps ++ [p]) i = pt ps i := by
  unfold pt
  rw [List.getD_eq_getElem?_getD, List.getD_eq_getElem?_getD, List.getElem?_append_left h]
theorem pt_app_eq {ps : List Pt} {p : Pt} {i : Nat} (h : i = ps.length) : pt (ps ++ [p]) i = p := by
  subst h
  exact pt_get (by rw [List.getElem?_append_right (Nat.le_refl _), Nat.sub_self]; rfl)
theorem pt_take {ss : List Pt} {k i : Nat} (h : i < k) : pt (ss.take k) i = pt ss i := by
  unfold pt
  rw [List.getD_eq_getElem?_getD, List.getD_eq_getElem?_getD, List.getElem?_take_of_lt h]
theorem ovB_congr {ss ss' ps ps' : List Pt} {i j : Nat} (h1 : pt ss i = pt ss' i) (h2 : pt ss j = pt ss' j) (h3 : pt ps i = pt ps' i) (h4 : pt ps j = pt ps' j) : ovB ss ps i j = ovB ss' ps' i j := by
  unfold ovB rowB colB
  rw [h1, h2, h3, h4]
theorem trI_some {ss ps : List Pt} {b : Nat} {sp : Int} {st : Pst} : ∀ {k p}, (trI ss ps b sp st k).1 = some p → lvM (ss.take (b + 1)) (ps ++ [p]) = []
  | 0, p, h => by cases h
  | k + 1, p, h => by
    have h : trO ss ps b (trI ss ps b sp st k).1 (trH ss ps b sp (trI ss ps b sp st k).2) = some p := h
    unfold trO at h
    cases e : (trI ss ps b sp st k).1 with
    | some v =>
      rw [e] at h
      have h : some v = some p := h
      cases h
      exact trI_some e
    | none =>
      rw [e] at h
      rw [if_pos (show (none : Option Pt).isNone = true from rfl)] at h
      by_cases hl : lvM (ss.take (b + 1)) (ps ++ [trH ss ps b sp (trI ss ps b sp st k).2]) = []
      · rw [if_pos hl] at h
        cases h
        exact hl
      · rw [if_neg hl] at h
        cases h
theorem shI_apart {ss : List Pt} {sp : Int} {st : Pst} (hz : SzOk ss) : ∀ k, k ≤ ss.length → ∀ i j, i < j → j < k → ovB ss (shI ss sp st k).1 i j = false
  | 0, _, i, j, _, h => absurd h (Nat.not_lt_zero j)
  | b + 1, hb, i, j, hij, hj => by
    have hlen := shI_len ss sp st b
    have ih := shI_apart (sp := sp) (st := st) hz b (by omega)
    show ovB ss ((shI ss sp st b).1 ++ [bxP ss (shI ss sp st b).1 b sp (shI ss sp st b).2]) i j = false
    generalize (shI ss sp st b).1 = ps at hlen ih
    generalize (shI ss sp st b).2 = t
    by_cases hjb : j < b
    · rw [ovB_congr rfl rfl (pt_app_lt (by omega)) (pt_app_lt (by omega))]
      exact ih i j hij hjb
    · have ej : j = b := by omega
      subst ej
      cases hs : (trI ss ps j sp t 5).1 with
      | some p =>
        have e1 : bxP ss ps j sp t = p := by unfold bxP; rw [hs]
        rw [e1]
        have q := lvM_nil.mp (trI_some hs) i j hij (by rw [List.length_take]; omega)
        rw [← q]
        exact ovB_congr (pt_take (by omega)).symm (pt_take (by omega)).symm rfl rfl
      | none =>
        have e1 : bxP ss ps j sp t = (drw (trI ss ps j sp t 5).2 sp, lowM ss ps j) := by unfold bxP; rw [hs]
        rw [e1]
        have hle : (pt ps i).2 + (pt ss i).2 ≤ lowM ss ps j := le_maxL (List.mem_map.mpr ⟨i, List.mem_range.mpr hij, rfl⟩)
        unfold ovB
        have : rowB ss (ps ++ [(drw (trI ss ps j sp t 5).2 sp, lowM ss ps j)]) i j = false := by
          cases e : rowB ss (ps ++ [(drw (trI ss ps j sp t 5).2 sp, lowM ss ps j)]) i j with
          | false => rfl
          | true =>
            unfold rowB at e
            rw [meetB_iff, pt_app_lt (by omega), pt_app_eq hlen.symm] at e
            have := e.2
            dsimp only at this
            omega
        rw [this]
        rfl
theorem pic_shown {ss : List Pt} (hz : SzOk ss) (st : Pst) : Pic ss (shownM ss st) := ⟨hz.2.1, shown_len _ _, fun i j hij hj => shI_apart hz ss.length (Nat.le_refl _) i j hij hj⟩
/-! ### scripts: pieces, back -/
theorem endM_app {ps : List Pt} : ∀ {a b : List Stk}, endM ps (a ++ b) = endM (endM ps a) b := by
  intro a
  induction a generalizing ps with
  | nil => intro b; rfl
  | cons u r ih => intro b; exact ih
theorem runM_app {ss ps : List Pt} {a b : List Stk} : runM ss ps (a ++ b) = none ↔ runM ss ps a = none ∧ runM ss (endM ps a) b = none := by
  induction a generalizing ps with
  | nil => exact ⟨fun h => ⟨rfl, h⟩, fun h => h.2⟩
  | cons u r ih =>
    show (if letM ss ps u = true then (runM ss (behM ps u) (r ++ b)).map (· + 1) else some 0) = none ↔ (if letM ss ps u = true then (runM ss (behM ps u) r).map (· + 1) else some 0) = none ∧ runM ss (endM (behM ps u) r) b = none
    by_cases h : letM ss ps u = true
    · rw [if_pos h, if_pos h, Option.map_eq_none_iff, Option.map_eq_none_iff]
      exact ih
    · rw [if_neg h, if_neg h]
      exact ⟨fun z => (by cases z), fun z => (by cases z.1)⟩
theorem runM_cons {ss ps : List Pt} {u : Stk} {r : List Stk} : runM ss ps (u :: r) = none ↔ letM ss ps u = true ∧ runM ss (behM ps u) r = none := by
  show (if letM ss ps u = true then (runM ss (behM ps u) r).map (· + 1) else some 0) = none ↔ _
  by_cases h : letM ss ps u = true
  · rw [if_pos h, Option.map_eq_none_iff]
    exact ⟨fun z => ⟨h, z⟩, fun z => z.2⟩
  · rw [if_neg h]
    exact ⟨fun z => (by cases z), fun z => absurd z.1 h⟩
/-- behind free strokes is a picture -/
theorem pic_end {ss : List Pt} (hp : Pos ss) : ∀ {sc : List Stk} {ps : List Pt}, Pic ss ps → (∀ u ∈ sc, u.2.length = ss.length) → runM ss ps sc = none → Pic ss (endM ps sc)
  | [], _, h, _, _ => h
  | u :: r, ps, h, hf, hr => by
    obtain ⟨h1, h2⟩ := runM_cons.mp hr
    exact pic_end (sc := r) (ps := behM ps u) hp (pic_beh hp h (hf u List.mem_cons_self) h1) (fun v hv => hf v (List.mem_cons_of_mem _ hv)) h2
/-- with free strokes the two readings are one -/
theorem runG_pic {ss : List Pt} (hp : Pos ss) : ∀ {sc : List Stk} {ps : List Pt}, Pic ss ps → (∀ u ∈ sc, u.2.length = ss.length) → runG (frM ss) ps sc = runM ss ps sc
  | [], _, _, _ => rfl
  | u :: r, ps, h, hf => by
    have hu := hf u List.mem_cons_self
    unfold runG runM
    rw [frM_pic hp h hu]
    by_cases hl : letM ss ps u = true
    · rw [if_pos hl, if_pos hl, runG_pic hp (pic_beh hp h hu hl) fun v hv => hf v (List.mem_cons_of_mem _ hv)]
    · rw [if_neg hl, if_neg hl]
theorem goalsM_len {ps : List Pt} {w : Way} : (goalsM ps w).length = ps.length := by unfold goalsM; rw [List.length_map]
theorem gl_goals {ps : List Pt} {w : Way} {i : Nat} (h : i < ps.length) : gl (w, goalsM ps w) i = cw w (pt ps i) := by
  have h2 : ps[i]? = some ps[i] := List.getElem?_eq_getElem h
  rw [pt_get h2]
  refine gl_get ?_
  show (ps.map fun p => pick p (ax w))[i]? = _
  rw [List.getElem?_map, h2]
  rfl
theorem ext_pt {a b : List Pt} (hl : a.length = b.length) (h : ∀ i, i < a.length → pt a i = pt b i) : a = b := by
  refine List.ext_getElem? fun i => ?_
  by_cases hi : i < a.length
  · have e1 : a[i]? = some a[i] := List.getElem?_eq_getElem hi
    have e2 : b[i]? = some (b[i]'(hl ▸ hi)) := List.getElem?_eq_getElem _
    have := h i hi
    rw [pt_get e1, pt_get e2] at this
    rw [e1, e2, this]
  · rw [List.getElem?_eq_none (by omega), List.getElem?_eq_none (by omega)]
/-- the stroke back leads back -/
theorem beh_back {ps : List Pt} {u : Stk} (hl : u.2.length = ps.length) : behM (behM ps u) (u.1, goalsM ps u.1) = ps := by
  have h1 := behM_len hl
  have h2 : ((u.1, goalsM ps u.1) : Stk).2.length = (behM ps u).length := goalsM_len.trans h1.symm
  refine ext_pt ((behM_len h2).trans h1) fun i hi => ?_
  have hi : i < ps.length := by rw [behM_len h2, h1] at hi; exact hi
  rw [beh_pt h2 (by omega), gl_goals hi]
  show mk u.1 (cw u.1 (pt ps i)) (co u.1 (pt (behM ps u) i)) = pt ps i
  rw [beh_co hl hi, mk_eta]
/-- .. and is free -/
theorem let_back {ss ps : List Pt} {u : Stk} (hp : Pos ss) (h : Pic ss ps) (hu : u.2.length = ss.length) (hf : letM ss ps u = true) : letM ss (behM ps u) (u.1, goalsM ps u.1) = true := by
  have hm := h.2.1
  have hl : u.2.length = ps.length := hu.trans hm.symm
  have q := (letM_iff hm hu).mp hf
  refine (letM_iff (u := (u.1, goalsM ps u.1)) ((behM_len hl).trans hm) (goalsM_len.trans hm)).mpr fun i j hi hj hmt hlt => ?_
  have hmt : mt u.1 ss (behM ps u) i j = true := hmt
  have hlt : cw u.1 (pt (behM ps u) i) < cw u.1 (pt (behM ps u) j) := hlt
  rw [beh_mt hl (by omega) (by omega)] at hmt
  rw [beh_cw hl (by omega), beh_cw hl (by omega)] at hlt
  show gl (u.1, goalsM ps u.1) i + cw u.1 (pt ss i) ≤ gl (u.1, goalsM ps u.1) j
  rw [gl_goals (by omega), gl_goals (by omega)]
  have si := hp.cw u.1 hi
  have sj := hp.cw u.1 hj
  have hn : i ≠ j := fun z => by subst z; omega
  rcases pic_apart h u.1 hi hj hn hmt with z | z
  · exact z
  · have := q j i hj hi (by rw [mt_comm]; exact hmt) (by omega)
    omega
/-- the goals behind a stroke are its own -/
theorem goals_beh {ps : List Pt} {u : Stk} (hl : u.2.length = ps.length) : goalsM (behM ps u) u.1 = u.2 := by
  refine List.ext_getElem? fun i => ?_
  by_cases hi : i < ps.length
  · have e1 : (behM ps u)[i]? = some (pt (behM ps u) i) := by
      have : i < (behM ps u).length := by rw [behM_len hl]; exact hi
      rw [pt_get (List.getElem?_eq_getElem this)]
      exact List.getElem?_eq_getElem this
    have e2 : u.2[i]? = some (gl u i) := by
      have : i < u.2.length := by omega
      rw [gl_get (List.getElem?_eq_getElem this)]
      exact List.getElem?_eq_getElem this
    unfold goalsM
    rw [List.getElem?_map, e1, e2]
    show some (cw u.1 (pt (behM ps u) i)) = _
    rw [beh_cw hl hi]
  · rw [List.getElem?_eq_none (by rw [goalsM_len, behM_len hl]; omega), List.getElem?_eq_none (by omega)]
theorem backM_snoc {ps : List Pt} {l : List Stk} {u : Stk} : backM ps (l ++ [u]) = (u.1, goalsM (endM ps l) u.1) :: backM ps l := by
  unfold backM
  rw [fwdM_snoc, List.reverse_append]
  rfl
theorem backM_len {ps : List Pt} {l : List Stk} : (backM ps l).length = l.length := by unfold backM; rw [List.length_reverse, fwdM_len]
theorem snoc_ind {α : Type} {P : List α → Prop} (h0 : P []) (hs : ∀ l x, P l → P (l ++ [x])) : ∀ l, P l := fun l => by
  have : ∀ r : List α, P r.reverse := fun r => by
    induction r with
    | nil => exact h0
    | cons x r ih => rw [List.reverse_cons]; exact hs _ _ ih
  have h := this l.reverse
  rw [List.reverse_reverse] at h
  exact h
/-- what a script taken back does -/
theorem back_all {ss ps : List Pt} (hp : Pos ss) (h : Pic ss ps) : ∀ sc : List Stk, (∀ u ∈ sc, u.2.length = ss.length) → runM ss ps sc = none →
    (∀ v ∈ backM ps sc, v.2.length = ss.length) ∧ runM ss (endM ps sc) (backM ps sc) = none ∧ endM (endM ps sc) (backM ps sc) = ps ∧ fwdM (endM ps sc) (backM ps sc) = sc.reverse := by
  refine snoc_ind (fun _ _ => ⟨fun v hv => (by cases hv), rfl, rfl, rfl⟩) fun l u ih hf hr => ?_
  obtain ⟨r1, r2⟩ := runM_app.mp hr
  have hfl : ∀ v ∈ l, v.2.length = ss.length := fun v hv => hf v (List.mem_append_left _ hv)
  have hu : u.2.length = ss.length := hf u (List.mem_append_right _ List.mem_cons_self)
  obtain ⟨i1, i2, i3, i4⟩ := ih hfl r1
  have hE := pic_end hp h hfl r1
  have hlet : letM ss (endM ps l) u = true := (runM_cons.mp r2).1
  have hlu : u.2.length = (endM ps l).length := hu.trans hE.2.1.symm
  have ee : endM ps (l ++ [u]) = behM (endM ps l) u := by rw [endM_app]; rfl
  rw [backM_snoc, ee]
  refine ⟨fun v hv => ?_, ?_, ?_, ?_⟩
  · rcases List.mem_cons.mp hv with e | hv
    · rw [e]
      exact goalsM_len.trans hE.2.1
    · exact i1 v hv
  · refine runM_cons.mpr ⟨let_back hp hE hu hlet, ?_⟩
    rw [beh_back hlu]
    exact i2
  · show endM (behM (behM (endM ps l) u) (u.1, goalsM (endM ps l) u.1)) (backM ps l) = ps
    rw [beh_back hlu]
    exact i3
  · show (u.1, goalsM (behM (endM ps l) u) u.1) :: fwdM (behM (behM (endM ps l) u) (u.1, goalsM (endM ps l) u.1)) (backM ps l) = (l ++ [u]).reverse
    rw [beh_back hlu, i4, goals_beh hlu, List.reverse_append]
    rfl
theorem back_back {ss ps : List Pt} (hp : Pos ss) (h : Pic ss ps) {sc : List Stk} (hf : ∀ u ∈ sc, u.2.length = ss.length) (hr : runM ss ps sc = none) : backM (endM ps sc) (backM ps sc) = sc := by
  have := (back_all hp h sc hf hr).2.2.2
  rw [show backM (endM ps sc) (backM ps sc) = (fwdM (endM ps sc) (backM ps sc)).reverse from rfl, this, List.reverse_reverse]
/-! ### there and back a hundred times -/
def thM (ps : List Pt) (w : Way) : Stk := (w, ps.map fun p => pick p (ax w) + 3)
theorem th_len {ps : List Pt} {w : Way} : (thM ps w).2.length = ps.length := List.length_map ..
theorem gl_th {ps : List Pt} {w : Way} {i : Nat} (h : i < ps.length) : gl (thM ps w) i = cw w (pt ps i) + 3 := by
  have h2 : ps[i]? = some ps[i] := List.getElem?_eq_getElem h
  rw [pt_get h2]
  refine gl_get ?_
  show (ps.map fun p => pick p (ax w) + 3)[i]? = _
  rw [List.getElem?_map, h2]
  rfl
theorem let_th {ss ps : List Pt} {w : Way} (hp : Pos ss) (h : Pic ss ps) : letM ss ps (thM ps w) = true := by
  refine (letM_iff h.2.1 (th_len.trans h.2.1)).mpr fun i j hi hj hmt hlt => ?_
  have hm := h.2.1
  have hlt : cw w (pt ps i) < cw w (pt ps j) := hlt
  rw [gl_th (by omega), gl_th (by omega)]
  show cw w (pt ps i) + 3 + cw w (pt ss i) ≤ _
  have si := hp.cw w hi
  have sj := hp.cw w hj
  have hn : i ≠ j := fun z => by subst z; omega
  rcases pic_apart h w hi hj hn hmt with z | z <;> omega
def rep (k : Nat) (a b : Stk) : List Stk := (List.replicate k [a, b]).flatten
theorem rep_succ (k : Nat) (a b : Stk) : rep (k + 1) a b = a :: b :: rep k a b := by
  unfold rep
  rw [List.replicate_succ, List.flatten_cons]
  rfl
theorem rep_len (a b : Stk) : ∀ k, (rep k a b).length = 2 * k
  | 0 => rfl
  | k + 1 => by
    rw [rep_succ, List.length_cons, List.length_cons, rep_len a b k]
    omega
theorem rep_snoc (a b : Stk) : ∀ k, rep (k + 1) a b = rep k a b ++ [a, b]
  | 0 => rfl
  | k + 1 => by
    have h := rep_snoc a b k
    have h2 : rep (k + 1) a b ++ [a, b] = a :: b :: (rep k a b ++ [a, b]) := by rw [rep_succ]; rfl
    rw [rep_succ (k + 1) a b, h2, ← h]
theorem rep_mem {a b v : Stk} : ∀ {k}, v ∈ rep k a b → v = a ∨ v = b
  | 0, h => by cases h
  | k + 1, h => by
    rw [rep_succ] at h
    rcases List.mem_cons.mp h with e | h
    · exact .inl e
    · rcases List.mem_cons.mp h with e | h
      · exact .inr e
      · exact rep_mem h
section
variable {ss ps : List Pt} {w : Way}
theorem end_rep (h : Pic ss ps) : ∀ k, endM ps (rep k (thM ps w) (w, goalsM ps w)) = ps
  | 0 => rfl
  | k + 1 => by
    rw [rep_succ]
    show endM (behM (behM ps (thM ps w)) (w, goalsM ps w)) _ = ps
    rw [show behM (behM ps (thM ps w)) (w, goalsM ps w) = ps from beh_back (u := thM ps w) th_len]
    exact end_rep h k
theorem run_rep (hp : Pos ss) (h : Pic ss ps) : ∀ k, runM ss ps (rep k (thM ps w) (w, goalsM ps w)) = none
  | 0 => rfl
  | k + 1 => by
    rw [rep_succ]
    refine runM_cons.mpr ⟨let_th hp h, runM_cons.mpr ⟨let_back (u := thM ps w) hp h (th_len.trans h.2.1) (let_th hp h), ?_⟩⟩
    rw [show behM (behM ps (thM ps w)) (w, goalsM ps w) = ps from beh_back (u := thM ps w) th_len]
    exact run_rep hp h k
theorem fwd_rep (h : Pic ss ps) : ∀ k, fwdM ps (rep k (thM ps w) (w, goalsM ps w)) = rep k (w, goalsM ps w) (thM ps w)
  | 0 => rfl
  | k + 1 => by
    rw [rep_succ, rep_succ]
    show (w, goalsM ps w) :: (w, goalsM (behM ps (thM ps w)) w) :: fwdM (behM (behM ps (thM ps w)) (w, goalsM ps w)) _ = _
    rw [show behM (behM ps (thM ps w)) (w, goalsM ps w) = ps from beh_back (u := thM ps w) th_len, fwd_rep h k, show goalsM (behM ps (thM ps w)) w = (thM ps w).2 from goals_beh (u := thM ps w) th_len]
    rfl
theorem rep_rev (a b : Stk) : ∀ k, (rep k a b).reverse = rep k b a
  | 0 => rfl
  | k + 1 => by
    rw [rep_succ, List.reverse_cons, List.reverse_cons, rep_rev a b k, rep_snoc, List.append_assoc]
    rfl
theorem back_rep (h : Pic ss ps) (k : Nat) : backM ps (rep k (thM ps w) (w, goalsM ps w)) = rep k (thM ps w) (w, goalsM ps w) := by
  unfold backM
  rw [fwd_rep h, rep_rev]
theorem rep_form (h : Pic ss ps) {k : Nat} (hk : k ≤ 100) : Form ss.length (rep k (thM ps w) (w, goalsM ps w)) := by
  refine ⟨by rw [rep_len]; omega, fun v hv => ?_⟩
  rcases rep_mem hv with e | e
  · rw [e]; exact th_len.trans h.2.1
  · rw [e]; exact goalsM_len.trans h.2.1
theorem rep_take (a b : Stk) (k : Nat) : (rep (k + 1) a b).take (2 * k + 1) = rep k a b ++ [a] := by
  rw [rep_snoc, List.take_append, rep_len, List.take_of_length_le (by rw [rep_len]; omega), show 2 * k + 1 - 2 * k = 1 by omega]
  rfl
end
end K5

namespace K5
/-! ### how great coordinates may be -/
def Bd (B : Int) (p : Pt) : Prop := (-B ≤ p.1 ∧ p.1 ≤ B) ∧ -B ≤ p.2 ∧ p.2 ≤ B
def BdP (B : Int) (ps : List Pt) : Prop := ∀ p ∈ ps, Bd B p
theorem Bd.mono {B C : Int} {p : Pt} (h : Bd B p) (hc : B ≤ C) : Bd C p := by unfold Bd at *; omega
theorem BdP.mono {B C : Int} {ps : List Pt} (h : BdP B ps) (hc : B ≤ C) : BdP C ps := fun p hp => (h p hp).mono hc
theorem Bd.cw {B : Int} {p : Pt} (h : Bd B p) (w : Way) : -B ≤ pick p (ax w) ∧ pick p (ax w) ≤ B := by cases w; exact h.1; exact h.2
theorem BdP.pt {B : Int} {ps : List Pt} (h : BdP B ps) {i : Nat} (hi : i < ps.length) : Bd B (pt ps i) := h _ (pt_mem hi)
theorem getD_mem {α : Type} {l : List α} {i : Nat} {d : α} (h : i < l.length) : l.getD i d ∈ l := by
  rw [List.getD_eq_getElem?_getD, List.getElem?_eq_getElem h]
  exact List.getElem_mem h
section
variable {ss ps : List Pt} {sp B : Int} {st : Pst} {b : Nat}
theorem sz_pt (hz : SzOk ss) {i : Nat} (h : i < ss.length) : (1 ≤ (pt ss i).1 ∧ (pt ss i).1 ≤ 1000) ∧ 1 ≤ (pt ss i).2 ∧ (pt ss i).2 ≤ 1000 := hz.2.2 _ (pt_mem h)
theorem bd_bsd (hz : SzOk ss) (h0 : 0 < ps.length) (hl : ps.length ≤ ss.length) (hb : b < ss.length) (h : BdP B ps) : Bd (B + 1002) (bsdM ss ps b st) := by
  have r0 := drw_rng st (m := (ps.length : Int)) (by omega)
  have r1 := drw_rng (nxt st ps.length) (m := 5) (by decide)
  have he : bsdE ps.length st < ps.length := by unfold bsdE; omega
  have p1 := h.pt he
  have z1 := sz_pt hz (i := bsdE ps.length st) (by omega)
  have z2 := sz_pt hz hb
  have spot : Bd (B + 1000) (bsdP ss ps b st) := by
    have hm : bsdP ss ps b st ∈ bsdL (pt ps (bsdE ps.length st)) (pt ss (bsdE ps.length st)) (pt ss b) := getD_mem (by show (drw (nxt st ps.length) 5).toNat < 5; omega)
    unfold bsdL at hm
    unfold Bd at p1 ⊢
    simp only [List.mem_cons, List.not_mem_nil, or_false] at hm
    rcases hm with e | e | e | e | e <;> rw [e] <;> dsimp only <;> omega
  have r3 := drw_rng (nxt (bsd2 ps.length st) 2) (m := 3) (by decide)
  have r4 := drw_rng (nxt (nxt (bsd2 ps.length st) 2) 3) (m := 3) (by decide)
  unfold bsdM
  split
  · unfold Bd at spot ⊢
    dsimp only
    omega
  · exact spot.mono (by omega)
theorem bd_tr0 (hs : 2 ≤ sp) : Bd sp (tr0 sp st) := by
  have r0 := drw_rng st (m := 2 * sp) (by omega)
  have r1 := drw_rng (nxt st (2 * sp)) (m := 2 * sp) (by omega)
  unfold Bd tr0
  dsimp only
  omega
theorem bd_trH (hz : SzOk ss) (hs : 2 ≤ sp) (hl : ps.length ≤ ss.length) (hb : b < ss.length) (h : BdP B ps) (hB : sp ≤ B) : Bd (B + 1002) (trH ss ps b sp st) := by
  unfold trH
  split
  · exact (bd_tr0 hs).mono (by omega)
  · split
    · exact bd_bsd hz (by omega) hl hb h
    · exact (bd_tr0 hs).mono (by omega)
theorem bd_trI (hz : SzOk ss) (hs : 2 ≤ sp) (hl : ps.length ≤ ss.length) (hb : b < ss.length) (h : BdP B ps) (hB : sp ≤ B) : ∀ k p, (trI ss ps b sp st k).1 = some p → Bd (B + 1002) p
  | 0, p, e => by cases e
  | k + 1, p, e => by
    have e : trO ss ps b (trI ss ps b sp st k).1 (trH ss ps b sp (trI ss ps b sp st k).2) = some p := e
    unfold trO at e
    split at e
    · split at e
      · cases e
        exact bd_trH hz hs hl hb h hB
      · exact bd_trI hz hs hl hb h hB k p e
    · exact bd_trI hz hs hl hb h hB k p e
theorem bd_bx (hz : SzOk ss) (hs : 2 ≤ sp) (hl : ps.length = b) (hb : b < ss.length) (h : BdP B ps) (hB : sp ≤ B) : Bd (B + 1002) (bxP ss ps b sp st) := by
  unfold bxP
  cases e : (trI ss ps b sp st 5).1 with
  | some p => exact bd_trI hz hs (by omega) hb h hB 5 p e
  | none =>
    have hb0 : 0 < b := by
      rcases Nat.eq_zero_or_pos b with z | z
      · subst z
        have e0 : ps = [] := List.length_eq_zero_iff.mp hl
        subst e0
        obtain ⟨v, hv⟩ := trI_first ss sp st 4
        rw [e] at hv
        cases hv
      · exact z
    have r := drw_rng (trI ss ps b sp st 5).2 (m := sp) (by omega)
    have hlo : (pt ps 0).2 + (pt ss 0).2 ≤ lowM ss ps b := le_maxL (List.mem_map.mpr ⟨0, List.mem_range.mpr hb0, rfl⟩)
    have hhi : lowM ss ps b ≤ B + 1000 := maxL_le (fun x hx => by
      obtain ⟨i, hi, rfl⟩ := List.mem_map.mp hx
      have hi := List.mem_range.mp hi
      have := (h.pt (i := i) (by omega)).2
      have := sz_pt hz (i := i) (by omega)
      omega) (fun z => by
      have := congrArg List.length z
      rw [List.length_map, List.length_range] at this
      simp at this
      omega)
    have p0 := (h.pt (i := 0) (by omega)).2
    have s0 := sz_pt hz (i := 0) (by omega)
    unfold Bd
    dsimp only
    omega
theorem bd_shI (hz : SzOk ss) (hs : 2 ≤ sp) : ∀ k : Nat, k ≤ ss.length → BdP (sp + 1002 * (k : Int)) (shI ss sp st k).1
  | 0, _ => fun p hp => by cases hp
  | k + 1, hk => by
    have ih := bd_shI hz hs k (by omega)
    have hl := shI_len ss sp st k
    intro p hp
    rcases List.mem_append.mp hp with q | q
    · exact (ih p q).mono (by omega)
    · rw [List.mem_singleton.mp q]
      exact (bd_bx hz hs hl (by omega) ih (by omega)).mono (by omega)
theorem bd_shown (hz : SzOk ss) (st : Pst) : BdP 100000 (shownM ss st) := by
  have hs := span_rng hz st
  have h40 := hz.2.1
  exact (bd_shI (st := nxt st 4) hz hs.1 ss.length (Nat.le_refl _)).mono (by omega)
theorem bd_oth (hz : SzOk ss) (hl : ps.length = ss.length) (h : BdP B ps) (hB : 0 ≤ B) : BdP (B + 100000) (othM ss ps st) := by
  have zip_mem : ∀ {z : Pt × Pt}, z ∈ ps.zip ss → Bd B z.1 ∧ ((1 ≤ z.2.1 ∧ z.2.1 ≤ 1000) ∧ 1 ≤ z.2.2 ∧ z.2.2 ≤ 1000) := fun {z} hm => ⟨h _ (List.of_mem_zip hm).1, hz.2.2 _ (List.of_mem_zip hm).2⟩
  unfold othM
  split
  · intro p hp
    obtain ⟨z, hm, rfl⟩ := List.mem_map.mp hp
    obtain ⟨a, b⟩ := zip_mem hm
    unfold Bd at a ⊢
    dsimp only
    omega
  · split
    · intro p hp
      obtain ⟨z, hm, rfl⟩ := List.mem_map.mp hp
      obtain ⟨a, b⟩ := zip_mem hm
      unfold Bd at a ⊢
      dsimp only
      omega
    · split
      · rename_i e0 e1 e2
        have h0 := hz.1
        have rn1 := drw_rng (nxt st 6) (m := (ss.length : Int)) (by omega)
        have rn2 := drw_rng (nxt (nxt st 6) ss.length) (m := (ss.length : Int)) (by omega)
        split
        · intro p hp
          unfold swpM at hp
          rcases List.mem_or_eq_of_mem_set hp with q | q
          · rcases List.mem_or_eq_of_mem_set q with q | q
            · exact (h p q).mono (by omega)
            · rw [q]; exact (h.pt (by omega)).mono (by omega)
          · rw [q]; exact (h.pt (by omega)).mono (by omega)
        · exact h.mono (by omega)
      · split
        · split
          · intro p hp
            obtain ⟨q, hq, rfl⟩ := List.mem_map.mp hp
            have := h q hq
            unfold Bd at this ⊢
            dsimp only
            omega
          · exact h.mono (by omega)
        · exact (bd_shown hz _).mono (by omega)
end
/-- what goals may be -/
def BdG (B : Int) (l : List Int) : Prop := ∀ x ∈ l, -B ≤ x ∧ x ≤ B
theorem absI_le {i B : Int} (h : absI i ≤ B) : -B ≤ i ∧ i ≤ B := by
  unfold absI at h
  split at h <;> omega
section
variable {ss ps : List Pt} {B : Int} {st : Pst}
theorem mul_rng {x f : Int} (hx : -(10 ^ 9) ≤ x ∧ x ≤ 10 ^ 9) (hf : 0 ≤ f ∧ f ≤ 40000) : -(10 ^ 14) ≤ x * f ∧ x * f ≤ 10 ^ 14 := by
  obtain ⟨f0, f1⟩ := hf
  have a1 : x * f ≤ 10 ^ 9 * f := Int.mul_le_mul_of_nonneg_right hx.2 f0
  have a2 : -(10 ^ 9) * f ≤ x * f := Int.mul_le_mul_of_nonneg_right hx.1 f0
  omega
theorem bd_stk (hz : SzOk ss) (hl : ps.length = ss.length) (h : BdP B ps) (hB : 10 ^ 14 ≤ B) : BdG (B + 100000) (stkM ss ps st).2 := by
  have cwB : ∀ {p : Pt}, p ∈ ps → -B ≤ pick p (ax (wyM st)) ∧ pick p (ax (wyM st)) ≤ B := fun {p} hp => (h p hp).cw _
  have small : ¬ drw (nxt st 2) 5 = 0 → ¬ drw (nxt st 2) 5 = 1 → ¬ kdM ps st = 4 → ∀ p ∈ ps, -(10 ^ 9) ≤ pick p (ax (wyM st)) ∧ pick p (ax (wyM st)) ≤ 10 ^ 9 := fun h0 h1 h4 p hp => by
    have r5 := drw_rng (nxt st 2) (m := 5) (by decide)
    have hb : ¬ bigM ps (wyM st) = true := fun z => by
      refine h4 ?_
      unfold kdM
      rw [z, decide_eq_true (by omega : 1 < drw (nxt st 2) 5)]
      rfl
    unfold bigM at hb
    rw [decide_eq_true_iff] at hb
    have := le_maxL (List.mem_map.mpr ⟨p, hp, rfl⟩ : absI (pick p (ax (wyM st))) ∈ ps.map fun p => absI (pick p (ax (wyM st))))
    exact absI_le (by omega)
  have kd : kdM ps st = 4 ∨ kdM ps st = drw (nxt st 2) 5 := by
    unfold kdM
    split
    · exact .inl rfl
    · exact .inr rfl
  show BdG _ (stkG ss ps (wyM st) (kdM ps st) (sk1 st))
  intro x hx
  unfold stkG at hx
  split at hx
  · obtain ⟨p, hp, rfl⟩ := List.mem_map.mp hx
    exact (bd_oth hz hl h (by omega) p hp).cw _
  · split at hx
    · obtain ⟨k, p, hp, rfl⟩ := idx_mem hx
      have := cwB (List.mem_of_getElem? hp)
      have := drw_rng (itS 3 (sk1 st) k) (m := 3) (by decide)
      omega
    · split at hx
      · rename_i e0 e1 e2
        have sm := small (by omega) (by omega) (by omega)
        obtain ⟨k, p, hp, rfl⟩ := idx_mem hx
        have := drw_rng (itS 2 (sk1 st) k) (m := 2) (by decide)
        have := mul_rng (sm p (List.mem_of_getElem? hp)) (f := 1 + drw (itS 2 (sk1 st) k) 2) (by omega)
        omega
      · split at hx
        · rename_i e0 e1 e2 e3
          have sm := small (by omega) (by omega) (by omega)
          obtain ⟨p, hp, rfl⟩ := List.mem_map.mp hx
          have h40 := hz.2.1
          have sr := sum_rng (w := wyM st) hz.2.2
          have := mul_rng (sm p hp) (f := (ss.map fun z => pick z (ax (wyM st))).sum) (by omega)
          omega
        · obtain ⟨k, p, hp, rfl⟩ := idx_mem hx
          have := drw_rng (itS 30 (sk1 st) k) (m := 30) (by decide)
          omega
theorem bd_goals {w : Way} (h : BdP B ps) : BdG B (goalsM ps w) := fun x hx => by
  obtain ⟨p, hp, rfl⟩ := List.mem_map.mp hx
  exact (h p hp).cw _
theorem bd_scU (hz : SzOk ss) (hl : ps.length = ss.length) (h : BdP B ps) (hB : 10 ^ 14 ≤ B) : BdG (B + 100000) (scU ss ps st).2 := by
  unfold scU
  split
  · exact fun x hx => by
      have := bd_goals h x hx
      omega
  · exact bd_stk hz hl h hB
theorem bd_beh {u : Stk} (h : BdP B ps) (hg : BdG B u.2) : BdP B (behM ps u) := fun p hp => by
  rw [behM_eq] at hp
  obtain ⟨z, hz, rfl⟩ := List.mem_map.mp hp
  have a := hg _ (List.of_mem_zip hz).1
  have b := h _ (List.of_mem_zip hz).2
  cases u.1
  · exact ⟨a, b.2⟩
  · exact ⟨b.1, a⟩
theorem bd_scI (hz : SzOk ss) (hl : ps.length = ss.length) (h : BdP B ps) (hB : 10 ^ 14 ≤ B) : ∀ k : Nat, BdP (B + 100000 * (k : Int)) (scI ss ps st k).h ∧ ∀ u ∈ (scI ss ps st k).f, BdG (B + 100000 * (k : Int)) u.2
  | 0 => ⟨h.mono (by omega), fun u hu => by cases hu⟩
  | k + 1 => by
    obtain ⟨i1, i2⟩ := bd_scI hz hl h hB k
    obtain ⟨l1, _, _⟩ := scI_ok (ss := ss) (ps := ps) (st := st) hl k
    have up : ∀ {g : List Int}, BdG (B + 100000 * (k : Int)) g → BdG (B + 100000 * ((k + 1 : Nat) : Int)) g := fun {g} q x hx => by
      have := q x hx
      omega
    have hu := bd_scU (st := (scI ss ps st k).s) hz l1 i1 (by omega)
    have hu2 : BdG (B + 100000 * ((k + 1 : Nat) : Int)) (scU ss (scI ss ps st k).h (scI ss ps st k).s).2 := fun x hx => by
      have := hu x hx
      omega
    unfold scI
    split
    · refine ⟨bd_beh (i1.mono (by omega)) hu2, fun u hm => ?_⟩
      rcases List.mem_append.mp hm with q | q
      · exact up (i2 u q)
      · rw [List.mem_singleton.mp q]; exact hu2
    · exact ⟨i1.mono (by omega), fun u hm => up (i2 u hm)⟩
theorem bd_end {ps : List Pt} : ∀ {sc : List Stk}, BdP B ps → (∀ u ∈ sc, BdG B u.2) → BdP B (endM ps sc) := by
  intro sc
  induction sc generalizing ps with
  | nil => intro h _; exact h
  | cons u r ih => intro h hs; exact ih (bd_beh h (hs u List.mem_cons_self)) fun v hv => hs v (List.mem_cons_of_mem _ hv)
theorem bd_pics {ps : List Pt} : ∀ {sc : List Stk}, BdP B ps → (∀ u ∈ sc, BdG B u.2) → ∀ q ∈ picsM ps sc, BdP B q := by
  intro sc
  induction sc generalizing ps with
  | nil =>
    intro h _ q hq
    rw [List.mem_singleton.mp hq]
    exact h
  | cons u r ih =>
    intro h hs q hq
    rcases List.mem_cons.mp hq with e | hq
    · rw [e]; exact h
    · exact ih (bd_beh h (hs u List.mem_cons_self)) (fun v hv => hs v (List.mem_cons_of_mem _ hv)) q hq
theorem bd_fwd {ps : List Pt} : ∀ {sc : List Stk}, BdP B ps → (∀ u ∈ sc, BdG B u.2) → ∀ v ∈ fwdM ps sc, BdG B v.2 := by
  intro sc
  induction sc generalizing ps with
  | nil => intro _ _ v hv; cases hv
  | cons u r ih =>
    intro h hs v hv
    rcases List.mem_cons.mp hv with e | hv
    · rw [e]; exact bd_goals h
    · exact ih (bd_beh h (hs u List.mem_cons_self)) (fun v hv => hs v (List.mem_cons_of_mem _ hv)) v hv
theorem sizes_ok {most : Int} (h0 : 0 < most) (h1 : most ≤ 40) (st : Pst) : SzOk (sizesM st most) := by
  have r5 := drw_rng st (m := 5) (by decide)
  have rm := drw_rng (nxt st 5) (m := most) h0
  have hfar : 0 < farM st ∧ farM st ≤ 1000 := by
    unfold farM
    have : drw st 5 = 0 ∨ drw st 5 = 1 ∨ drw st 5 = 2 ∨ drw st 5 = 3 ∨ drw st 5 = 4 := by omega
    rcases this with e | e | e | e | e <;> rw [e] <;> decide
  have hl : (sizesM st most).length = szN st most := by
    unfold sizesM szL
    rw [List.length_map, List.length_range]
  have hn : szN st most = (1 + drw (nxt st 5) most).toNat := rfl
  refine ⟨by omega, by omega, fun z hm => ?_⟩
  unfold sizesM szL at hm
  obtain ⟨k, _, rfl⟩ := List.mem_map.mp hm
  have a := drw_rng (szS (farM st) (nxt (nxt st 5) most) k) hfar.1
  have b := drw_rng (nxt (szS (farM st) (nxt (nxt st 5) most) k) (farM st)) hfar.1
  dsimp only
  omega
end
end K5

namespace K5
/-! ### one turn of the law -/
def twC (t : Pst) : List Pt := sizesM t 8
def twP (t : Pst) : List Pt := shownM (twC t) (sizesS t 8)
def twA (t : Pst) : Pst := shownS (twC t) (sizesS t 8)
def twF (t : Pst) : List Stk := (scM (twC t) (twP t) 12 (twA t)).f
def twB (t : Pst) : Pst := (scM (twC t) (twP t) 12 (twA t)).s
def twK (t : Pst) : List Stk := cutO (twF t) (runM (twC t) (twP t) (twF t))
def lwS (t : Pst) : Pst := nxt (twB t) ((twK t).length + 1)
def lwI (t : Pst) : Nat → Pst
  | 0 => t
  | k + 1 => lwS (lwI t k)
/-- what holds of a turn's things -/
structure Tw (ss ps : List Pt) (sc : List Stk) : Prop where
  sz : SzOk ss
  pc : Pic ss ps
  len : sc.length ≤ 12
  fm : ∀ u ∈ sc, u.2.length = ss.length
  bp : BdP (10 ^ 15) ps
  bg : ∀ u ∈ sc, BdG (10 ^ 15) u.2
theorem tw_ok (t : Pst) : Tw (twC t) (twP t) (twF t) := by
  have hz := sizes_ok (most := 8) (by decide) (by decide) t
  have pc := pic_shown hz (sizesS t 8)
  have bp := bd_shown hz (sizesS t 8)
  have rm := drw_rng (twA t) (m := 12 + 1) (by decide)
  have so := scI_ok (ss := twC t) (ps := twP t) (st := nxt (twA t) (12 + 1)) pc.2.1 (drw (twA t) (12 + 1)).toNat
  have bo := bd_scI (ss := twC t) (ps := twP t) (B := 10 ^ 14) (st := nxt (twA t) (12 + 1)) hz pc.2.1 (bp.mono (by decide)) (by decide) (drw (twA t) (12 + 1)).toNat
  refine ⟨hz, pc, ?_, so.2.2, bp.mono (by decide), fun u hu x hx => ?_⟩
  · show (scI _ _ _ _).f.length ≤ 12
    have := so.2.1
    omega
  · have := bo.2 u hu x hx
    omega
theorem sm_of {x : Int} (h : -(10 ^ 15) ≤ x ∧ x ≤ 10 ^ 15) : Sm x := by
  unfold Sm
  omega
theorem smP_of {ps : List Pt} (h : BdP (10 ^ 15) ps) : SmP ps := fun p hp => ⟨sm_of (h p hp).1, sm_of (h p hp).2⟩
theorem cut_sub {sc : List Stk} : ∀ {m : Option Nat}, ∀ u ∈ cutO sc m, u ∈ sc
  | none, u, h => h
  | some n, u, h => List.mem_of_mem_take h
theorem cut_len {sc : List Stk} : ∀ {m : Option Nat}, (cutO sc m).length ≤ sc.length
  | none => Nat.le_refl _
  | some n => by
    show (sc.take n).length ≤ _
    rw [List.length_take]
    omega
/-- up to there it is free -/
theorem run_cut {ss : List Pt} : ∀ {sc : List Stk} {ps : List Pt}, runM ss ps (cutO sc (runM ss ps sc)) = none := fun {sc ps} => by
  obtain ⟨h1, h2⟩ := runM_split (rfl : runM ss ps sc = runM ss ps sc)
  cases e : runM ss ps sc with
  | none => exact e
  | some n =>
    refine runM_none fun j u hj hu => ?_
    have hj : j < (sc.take n).length := hj
    have hu : (sc.take n)[j]? = some u := hu
    rw [List.length_take] at hj
    rw [List.getElem?_take_of_lt (by omega)] at hu
    have ht : (cutO sc (some n)).take j = sc.take j := by
      show (sc.take n).take j = _
      rw [List.take_take, Nat.min_eq_left (by omega)]
    rw [ht]
    exact h1 j u hu (.inr ⟨n, e, by omega⟩)
theorem tw_cut {ss ps : List Pt} {sc : List Stk} (h : Tw ss ps sc) (m : Option Nat) : Tw ss ps (cutO sc m) := ⟨h.sz, h.pc, Nat.le_trans cut_len h.len, fun u hu => h.fm u (cut_sub u hu), h.bp, fun u hu => h.bg u (cut_sub u hu)⟩
section
variable {ss ps : List Pt} {sc : List Stk}
theorem Tw.form (h : Tw ss ps sc) : Form ss.length sc := ⟨Nat.le_trans h.len (by decide), h.fm⟩
theorem Tw.n40 (h : Tw ss ps sc) : ps.length ≤ 40 := by rw [h.pc.2.1]; exact h.pc.1
theorem Tw.rpP (h : Tw ss ps sc) : Rp 200000 (PyE.dat ps) := rp_mono (rp_pts (smP_of h.bp) h.n40) (by decide)
theorem Tw.rpE (h : Tw ss ps sc) : Rp 200000 (PyE.dat (endM ps sc)) := rp_mono (rp_pts (smP_of (bd_end h.bp h.bg)) (by rw [endM_len fun u hu => (h.fm u hu).trans h.pc.2.1.symm]; exact h.n40)) (by decide)
theorem pics_len : ∀ {sc : List Stk} {ps : List Pt}, (∀ u ∈ sc, u.2.length = ps.length) → ∀ q ∈ picsM ps sc, q.length = ps.length
  | [], ps, _, q, hq => by rw [List.mem_singleton.mp hq]
  | u :: r, ps, hs, q, hq => by
    rcases List.mem_cons.mp hq with e | hq
    · rw [e]
    · have e := behM_len (hs u List.mem_cons_self)
      exact (pics_len (sc := r) (ps := behM ps u) (fun v hv => (hs v (List.mem_cons_of_mem _ hv)).trans e.symm) q hq).trans e
theorem Tw.rpL (h : Tw ss ps sc) : Rp 200000 (PyE.dat (PL.mk (picsM ps sc))) := rp_pics (fun q hq => ⟨smP_of (bd_pics h.bp h.bg q hq), by rw [pics_len (fun u hu => (h.fm u hu).trans h.pc.2.1.symm) q hq]; exact h.n40⟩) (by rw [picsM_len]; have := h.len; omega)
theorem fwd_lens : ∀ {sc : List Stk} {ps : List Pt}, (∀ u ∈ sc, u.2.length = ps.length) → ∀ v ∈ fwdM ps sc, v.2.length = ps.length
  | [], ps, _, v, hv => by cases hv
  | u :: r, ps, hs, v, hv => by
    rcases List.mem_cons.mp hv with e | hv
    · rw [e]; exact goalsM_len
    · have e := behM_len (hs u List.mem_cons_self)
      exact (fwd_lens (sc := r) (ps := behM ps u) (fun v hv => (hs v (List.mem_cons_of_mem _ hv)).trans e.symm) v hv).trans e
theorem Tw.rpB (h : Tw ss ps sc) : Rp 200000 (PyE.dat (backM ps sc)) := rp_stks (fun v hv => by
  have hv : v ∈ fwdM ps sc := List.mem_reverse.mp hv
  exact ⟨fun x hx => sm_of (bd_fwd h.bp h.bg v hv x hx), by rw [fwd_lens (fun u hu => (h.fm u hu).trans h.pc.2.1.symm) v hv]; exact h.n40⟩) (by rw [backM_len]; have := h.len; omega)
end
end K5

namespace K5
open PySem PySem.Spec PyProof.Rows L2
open Py (rel)
section
variable {P : Program} {w : World} {K : PySem.W.Frag} {mg : Str → Option Value} {base : Heap} {C : Addr}
def lrS (t : Pst) : Pst := nxt (shownS (sizesM t 4) (sizesS t 4)) 2
def R_LlongRight (K : PySem.W.Frag) : DL → Pst → Dyn → Pst → Prop := fun ds t d t' => ∃ (z : Unit), (True) ∧ ds = [] ∧ d = dy true ∧ t' = lrS t
theorem S66 : FnScope ["_law_pool_here", "_law_sizes_here", "_law_made", "_law_places", "_law_far", "_law_at", "_law_there", "_law_place", "_law_strokes"] ["_law_pool_here"] (defScope (top 66)) := ⟨rfl, rfl, rfl, by decide +kernel, rfl, by decide +kernel, by decide +kernel⟩
theorem ok_LlongRight (B : Bn mg) (bc : Bc K C) (gB : mg "Boxes" = some (.ref C)) (hB : ∃ f fd, Mk K C f ∧ FnOk P w K mg base CX0 4 f fd ["self", "sizes"] (spI C) ∧ Binds K fd ["self", "sizes"] []) (h_Ldraw : Fn P w K mg base CX0 1 "_law_draw" (spQ (R_Ldraw K))) (h_Lsizes : Fn P w K mg base CX0 2 "_law_sizes" (spQ (R_Lsizes K))) (h_Lshown : Fn P w K mg base CX0 4 "_law_shown" (spQ (R_Lshown K))) (h_led : Fn P w K mg base CX0 8 "led" (spP (R_led K))) (h_isScript : Fn P w K mg base CX0 7 "is_script" (spP (R_isScript K))) (h_Lflag : Fn P w K mg base CX0 1 "_law_flag" (spP (R_Lflag K))) (h_pictures : Fn P w K mg base CX0 8 "pictures" (spP (R_pictures K))) (h_takenBack : Fn P w K mg base CX0 8 "taken_back" (spP (R_takenBack K))) (h_Lbehind : Fn P w K mg base CX0 1 "_law_behind" (spP (R_Lbehind K))) (D : Df K mg "_law_long_right" (top 66) ["_law_pool_here"]) : Fn P w K mg base CX0 9 "_law_long_right" (spQ (R_LlongRight K)) := by
  refine fnQ (k := 8) D S66 (fun ds t d t' ⟨_, _, e, _⟩ => by subst e; rfl) fun f cdv A outer s H E ds t d t' hr g hR p c => ?_
  obtain ⟨_, hp, rfl, rfl, rfl⟩ := hR
  have hz := sizes_ok (most := 4) (by decide) (by decide) t
  refine wb_set (d := dy (sizesM t 4)) (st1 := sizesS t 4) g 1 (ev_callQ h_Lsizes hr (by decide) pass0 rfl (eva_cons (ev_var 0) (eva_cons (ev_int) eva_nil)) ⟨4, ⟨by decide, by decide⟩, rfl, rfl, rfl⟩) ?_
  unfold lrS
  generalize sizesM t 4 = ss at hz
  generalize sizesS t 4 = t1
  have hp0 := pos_of hz
  have pc := pic_shown hz t1
  have h40 := hz.2.1
  refine wb_par g 2 3 (x := dy (Bx.mk (C := C) ss)) (y := dy (shownM ss t1)) (st1 := t1) (st2 := shownS ss t1) (ev_boxes (k := _) hB gB hr (by decide) hz (ev_var 1)) (ev_callQ h_Lshown hr (by decide) pass0 rfl (eva_cons (ev_var 0) (eva_cons (ev_var 1) eva_nil)) ⟨ss, hz, rfl, rfl, rfl⟩) ?_
  generalize shownS ss t1 = t2
  generalize shownM ss t1 = ps at pc
  have hm := pc.2.1
  have r2 := drw_rng t2 (m := 2) (by decide)
  have ha : ax (wyM t2) = 0 ∨ ax (wyM t2) = 1 := by cases wyM t2; exact .inl rfl; exact .inr rfl
  refine wb_set (d := dy (wyM t2)) (st1 := nxt t2 2) g 4 (ev_ixL (xs := [Way.lev, Way.upr]) (ev_lst (eva_cons (Ev.word (w := .lev) ev_str) (eva_cons (Ev.word (w := .upr) ev_str) eva_nil)) (by show 2 ≤ sizeLine; decide)) (ev_callQ h_Ldraw hr (by decide) pass0 rfl (eva_cons (ev_var 0) (eva_cons (ev_int) eva_nil)) ⟨2, ⟨by decide, by decide⟩, rfl, rfl, rfl⟩) (by rw [atI_int (d := Way.lev) r2.1 (by show drw t2 2 < 2; exact r2.2), wyM_eq])) ?_
  generalize nxt t2 2 = t3
  generalize wyM t2 = wy at ha
  refine wb_set (d := dy (ax wy)) (st1 := t3) g 5 (Ev.to (ev_intB B.int (ev_eqW (ev_var 4) (Ev.word (w := .upr) ev_str))) (by rw [ax_eq])) ?_
  refine wb_set (d := dy (thM ps wy)) (st1 := t3) g 6 (ev_pair (ev_var 4) (ev_tuple B.tup (ev_lcM (f := fun p : Pt => pick p (ax wy) + 3) [("_law_place", 7)] g (evi_tup (ev_var 3)) (by omega) (blk_by ["_law_pool_here", "_law_sizes_here", "_law_made", "_law_places", "_law_far", "_law_at", "_law_there", "_law_place", "_law_strokes"] (top 66) rfl rfl (by decide +kernel)) (fun F' k z D s H C2 cl fp le hz gb => eg_name gb 7) (fun F' k z D s H C2 cl fp le hz gb => ev_add (ev_ixP (ev_var 7 (d := dy z)) (ev_var 5) ha) ev_int)))) ?_
  refine wb_set (d := dy (rep 100 (thM ps wy) (wy, goalsM ps wy))) (st1 := t3) g 8 (ev_repT (n := 100) (by decide) (by decide) (ev_pair (ev_var 6) (ev_pair (ev_var 4) (ev_tuple B.tup (ev_lcM (f := fun p : Pt => pick p (ax wy)) [("_law_place", 7)] g (evi_tup (ev_var 3)) (by omega) (blk_by ["_law_pool_here", "_law_sizes_here", "_law_made", "_law_places", "_law_far", "_law_at", "_law_there", "_law_place", "_law_strokes"] (top 66) rfl rfl (by decide +kernel)) (fun F' k z D s H C2 cl fp le hz gb => eg_name gb 7) (fun F' k z D s H C2 cl fp le hz gb => ev_ixP (ev_var 7 (d := dy z)) (ev_var 5) ha))))) ev_int) ?_
  have er := end_rep (w := wy) pc 100
  have rr := run_rep (w := wy) hp0 pc 100
  have fr := rep_form (w := wy) pc (k := 100) (by decide)
  have lr : (rep 100 (thM ps wy) (wy, goalsM ps wy)).length = 200 := rep_len _ _ 100
  have br := back_rep (w := wy) pc 100
  have et : (rep 100 (thM ps wy) (wy, goalsM ps wy)).take 199 = rep 99 (thM ps wy) (wy, goalsM ps wy) ++ [thM ps wy] := rep_take _ _ 99
  have e99 : endM ps ((rep 100 (thM ps wy) (wy, goalsM ps wy)).take 199) = behM ps (thM ps wy) := by rw [et, endM_app, end_rep pc]; rfl
  have r99 : runM ss ps ((rep 100 (thM ps wy) (wy, goalsM ps wy)).take 199) = none := by
    rw [et]
    exact runM_app.mpr ⟨run_rep hp0 pc 99, by rw [end_rep pc]; exact runM_cons.mpr ⟨let_th hp0 pc, rfl⟩⟩
  have f99 : Form ss.length ((rep 100 (thM ps wy) (wy, goalsM ps wy)).take 199) := ⟨by rw [List.length_take]; omega, fun v hv => fr.2 v (List.mem_of_mem_take hv)⟩
  generalize rep 100 (thM ps wy) (wy, goalsM ps wy) = sc at er rr fr lr br et e99 r99 f99
  refine wb_when (evw_orF (EvT.to (evt_neD g (ev_callP h_led hr (by decide) pass0 (eva_cons (ev_var 2) (eva_cons (ev_var 3) (eva_cons (ev_var 8) eva_nil))) ⟨C, ss, ps, sc, ⟨bc, pc, fr, rr⟩, rfl, rfl⟩) (ev_var 3)) (by rw [er, eqd_refl] <;> rfl)) (evw_or1 (EvT.to (evt_not (evt_val (ev_callP h_Lflag hr (by decide) pass0 (eva_cons (ev_callP h_isScript hr (by decide) pass0 (eva_cons (ev_var 2) (eva_cons (ev_var 3) (eva_cons (ev_var 8) eva_nil))) ⟨C, ss, ps, sc, ⟨bc, pc, fr⟩, rfl, rfl⟩) (eva_cons (ev_bool) eva_nil)) ⟨_, _, trivial, rfl, rfl⟩))) (by rw [rr] <;> rfl)))).t (fun h => by cases h) fun _ => ?_
  refine wb_when (evw_orF (EvT.to (evt_neI (ev_lenL B.len (ev_callP h_pictures hr (by decide) pass0 (eva_cons (ev_var 2) (eva_cons (ev_var 3) (eva_cons (ev_var 8) eva_nil))) ⟨C, ss, ps, sc, ⟨bc, pc, fr, rr⟩, rfl, rfl⟩)) ev_int) (by rw [picsM_len, lr] <;> rfl)) (evw_or1 (EvT.to (evt_neD g (ev_callP h_takenBack hr (by decide) pass0 (eva_cons (ev_var 2) (eva_cons (ev_var 3) (eva_cons (ev_var 8) eva_nil))) ⟨C, ss, ps, sc, ⟨bc, pc, fr, rr⟩, rfl, rfl⟩) (ev_var 8)) (by rw [br, eqd_refl] <;> rfl)))).t (fun h => by cases h) fun _ => ?_
  exact wb_retQ rfl (.refl _) rfl (Ev.to (ev_eqD g (ev_callP h_led hr (by decide) pass0 (eva_cons (ev_var 2) (eva_cons (ev_var 3) (eva_cons (ev_to (n := 199) (ev_var 8) ev_int) eva_nil))) ⟨C, ss, ps, sc.take 199, ⟨bc, pc, f99, r99⟩, rfl, rfl⟩) (ev_callP h_Lbehind hr (by decide) pass0 (eva_cons (ev_var 3) (eva_cons (ev_var 6) eva_nil)) ⟨ps, thM ps wy, ⟨th_len, by omega⟩, rfl, rfl⟩)) (by rw [e99, eqd_refl]))
end
end K5

namespace K5
open PySem PySem.Spec PyProof.Rows L2
open Py (rel)
section
variable {P : Program} {w : World} {K : PySem.W.Frag} {mg : Str → Option Value} {base : Heap} {C : Addr}
def spLaw (K : PySem.W.Frag) : Sp := fun vs H Q _ => ∃ (S : AS) (ns : List Int), (∀ a, S a → ∃ xs, H a = some (.lst xs)) ∧ D2 (fun v d => d.rel S H v) vs [dy (Sc.mk (K := K) ns)] ∧ ns.length ≤ 1000 ∧ ∀ H', Q (.bl true) H'
theorem S67 : FnScope ["_law_script_here", "_law_pool_here", "_law_turn", "_law_sizes_here", "_law_made", "_law_places", "_law_strokes", "_law_end", "_law_wrong", "_law_which", "_law_shown_here", "_law_stroke_here", "_law_back_here", "_law_cut"] ["_law_script_here"] (defScope (top 67)) := ⟨rfl, rfl, rfl, by decide +kernel, rfl, by decide +kernel, by decide +kernel⟩
abbrev XL (P : Program) (w : World) (K : PySem.W.Frag) (mg : Str → Option Value) (base : Heap) (f : Addr) (cdv : Value) (A : Around) (outer : List Env) (s : Shared) (H : Hp) (E : XK) : Cx := XO P w K mg base ["_law_script_here", "_law_pool_here", "_law_turn", "_law_sizes_here", "_law_made", "_law_places", "_law_strokes", "_law_end", "_law_wrong", "_law_which", "_law_shown_here", "_law_stroke_here", "_law_back_here", "_law_cut"] "law" (top 67) f cdv A outer s H E
theorem ev_fw {F : Fr} {X : Cx} {G : Gm} {L : Ls} {st : Pst} {pos : PySem.Pos} {j} : Ev F X G L st (.Constant (.str "free") j pos) (dy (⟨⟩ : FW)) st := Ev.imp ev_str fun _ _ _ z => z
theorem ok_law (B : Bn mg) (bc : Bc K C) (gB : mg "Boxes" = some (.ref C)) (hB : ∃ f fd, Mk K C f ∧ FnOk P w K mg base CX0 4 f fd ["self", "sizes"] (spI C) ∧ Binds K fd ["self", "sizes"] []) (h_Ldraw : Fn P w K mg base CX0 1 "_law_draw" (spQ (R_Ldraw K))) (h_Lsizes : Fn P w K mg base CX0 2 "_law_sizes" (spQ (R_Lsizes K))) (h_Lshown : Fn P w K mg base CX0 4 "_law_shown" (spQ (R_Lshown K))) (h_Lscript : Fn P w K mg base CX0 7 "_law_script" (spQ (R_Lscript K))) (h_Lled : Fn P w K mg base CX0 5 "_law_led" (spP (R_Lled K))) (h_Lflag : Fn P w K mg base CX0 1 "_law_flag" (spP (R_Lflag K))) (h_Lbehind : Fn P w K mg base CX0 1 "_law_behind" (spP (R_Lbehind K))) (h_Lback : Fn P w K mg base CX0 2 "_law_back" (spP (R_Lback K))) (h_LlongRight : Fn P w K mg base CX0 9 "_law_long_right" (spQ (R_LlongRight K))) (h_led : Fn P w K mg base CX0 8 "led" (spP (R_led K))) (h_isScript : Fn P w K mg base CX0 7 "is_script" (spP (R_isScript K))) (h_pictures : Fn P w K mg base CX0 8 "pictures" (spP (R_pictures K))) (h_takenBack : Fn P w K mg base CX0 8 "taken_back" (spP (R_takenBack K)))
    (h_Lpool : Fn P w K mg base CX0 1 "_law_pool" (spPool K)) (h_Ltried : Fn P w K mg base CX0 9 "_law_tried" (spP (R_Ltried K))) (h_Lis : FnG P w K mg base 1 "_law_is" (spP (R_Lis K))) (D : Df K mg "law" (top 67) ["_law_script_here"]) : FnG P w K mg base 10 "law" (spLaw K) := by
  refine fnG (k := 9) D S67 (fun vs H Q E ⟨_, _, _, r, _⟩ => r.length) fun f cdv A outer s H E vs Q hgd hr g h => ?_
  obtain ⟨S0, ns, hS, r, hl, q⟩ := h
  have ok0 : Ok ⟨S0, none, H⟩ (G0 ["_law_script_here", "_law_pool_here", "_law_turn", "_law_sizes_here", "_law_made", "_law_places", "_law_strokes", "_law_end", "_law_wrong", "_law_which", "_law_shown_here", "_law_stroke_here", "_law_back_here", "_law_cut"] [dy (Sc.mk (K := K) ns)]) [] st0 (L2.start ["_law_script_here", "_law_pool_here", "_law_turn", "_law_sizes_here", "_law_made", "_law_places", "_law_strokes", "_law_end", "_law_wrong", "_law_which", "_law_shown_here", "_law_stroke_here", "_law_back_here", "_law_cut"] vs) H := ok_startP hS r
  obtain ⟨fp, fdp, psp, hp1, hp2, hp3, hp4⟩ := h_Lpool.ex
  refine (wb_cons (X := (XL P w K mg base f cdv A outer s H E)) (ps_set (i := 1) S67.nd rfl (Or.inl rfl) (pe_call hp1 (hr.mono (by decide)) (by rfl) hp2 hp3 hp4 .nil pass0 (pa_cons (pe_wp (e := .Name "_law_script_here" _)) pa_nil))) fun σ H1 ok => ?_ : WB ⟨S0, none, H⟩ (XL P w K mg base f cdv A outer s H E) (G0 ["_law_script_here", "_law_pool_here", "_law_turn", "_law_sizes_here", "_law_made", "_law_places", "_law_strokes", "_law_end", "_law_wrong", "_law_which", "_law_shown_here", "_law_stroke_here", "_law_back_here", "_law_cut"] [dy (Sc.mk (K := K) ns)]) [] st0 _ _) _ _ ok0
  refine (ev_var 0 (d := dy (Sc.mk (K := K) ns))) σ H1 ok _ fun v H2 f2 ok2 r2 => ⟨keys ⟨S0, none, H⟩ [], ns, fun a z => ok2.lst z, .cons r2 .nil, hl, fun p c H3 e3 pl => ?_⟩
  have hlen := ok2.env.len
  have okP : Ok ⟨fun _ => False, some (p, c), H3⟩ [none, some (dy (Ad.mk p)), none, none, none, none, none, none, none, none, none, none, none, none] [] (poolM ns) (σ.set 1 (some (.ref p))) H3 := by
    refine ⟨⟨by rw [List.length_set, ← hlen]; rfl, fun i d hd => ?_⟩, fun _ z => (by cases z), List.nodup_nil, fun _ z => (by cases z), fun _ z => (by cases z), fun _ _ e => (by cases e; exact pl), fun _ _ _ e => e, fun _ z => z.elim⟩
    have hi : i = 1 ∧ d = dy (Ad.mk p) := by
      match i, hd with
      | 1, hd => exact ⟨rfl, (Option.some.inj (Option.some.inj hd)).symm⟩
      | 0, hd => cases hd
      | 2, hd => cases hd
      | 3, hd => cases hd
      | 4, hd => cases hd
      | 5, hd => cases hd
      | 6, hd => cases hd
      | 7, hd => cases hd
      | 8, hd => cases hd
      | 9, hd => cases hd
      | 10, hd => cases hd
      | 11, hd => cases hd
      | 12, hd => cases hd
      | 13, hd => cases hd
    obtain ⟨rfl, rfl⟩ := hi
    exact ⟨.ref p, List.getElem?_set_self (by rw [← hlen]; show 1 < 14; decide), rfl⟩
  refine (?_ : WB ⟨fun _ => False, some (p, c), H3⟩ (XL P w K mg base f cdv A outer s H E) [none, some (dy (Ad.mk p)), none, none, none, none, none, none, none, none, none, none, none, none] [] (poolM ns) _ _) _ _ okP
  generalize poolM ns = t0
  refine wb_whenE [none, some (dy (Ad.mk p)), none, none, none, none, none, none, none, none, none, none, none, none] [] (if drw t0 10 = 0 then lrS (nxt t0 10) else nxt t0 10) ?_ ?_
  · by_cases h0 : drw t0 10 = 0
    · rw [if_pos h0]
      exact ⟨false, lrS (nxt t0 10), (evw_andT (EvT.to (evt_eqI (ev_callQ h_Ldraw hr (by decide) pass0 rfl (eva_cons (ev_var 1) (eva_cons (ev_int) eva_nil)) ⟨10, ⟨by decide, by decide⟩, rfl, rfl, rfl⟩) ev_int) (decide_eq_true h0)) (evw_and1 (EvT.to (evt_not (evt_val (ev_callQ h_LlongRight hr (by decide) pass0 rfl (eva_cons (ev_var 1) eva_nil) ⟨(), trivial, rfl, rfl, rfl⟩))) rfl))).t, fun h => (by cases h), fun _ => wb_end rfl (by repeat (first | exact .nil | refine .same ?_ | refine .drop ?_)) rfl⟩
    · rw [if_neg h0]
      exact ⟨false, nxt t0 10, (evw_andF (EvT.to (evt_eqI (ev_callQ h_Ldraw hr (by decide) pass0 rfl (eva_cons (ev_var 1) (eva_cons (ev_int) eva_nil)) ⟨10, ⟨by decide, by decide⟩, rfl, rfl, rfl⟩) ev_int) (decide_eq_false h0))).t, fun h => (by cases h), fun _ => wb_end rfl (by repeat (first | exact .nil | refine .same ?_ | refine .drop ?_)) rfl⟩
  generalize (if drw t0 10 = 0 then lrS (nxt t0 10) else nxt t0 10) = t1
  refine wb_for g (evi_range (n := 4) B.rng (by decide) ev_int) (fun _ => [none, some (dy (Ad.mk p)), none, none, none, none, none, none, none, none, none, none, none, none]) (fun _ => []) (lwI t1) rfl rfl (.refl _) (fun _ => rfl) (fun F' k x le hx => ?_) ?_
  · obtain ⟨_, rfl⟩ := seq_at hx
    refine ⟨_, _, eg_name g 2, ?_⟩
    have el : lwI t1 (k + 1) = lwS (lwI t1 k) := rfl
    rw [el]
    generalize lwI t1 k = t
    have tw := tw_ok t
    unfold lwS
    refine wb_set (d := dy (twC t)) (st1 := sizesS t 8) g 3 (ev_callQ h_Lsizes hr (by decide) pass0 le.1.1 (eva_cons (ev_var 1) (eva_cons (ev_int) eva_nil)) ⟨8, ⟨by decide, by decide⟩, rfl, rfl, rfl⟩) ?_
    have hz := tw.sz
    refine wb_asg (d := dy (Bx.mk (C := C) (twC t), twP t)) (st1 := twA t) (ev_pair (ev_boxes (k := _) hB gB hr (by decide) hz (ev_var 3)) (ev_callQ h_Lshown hr (by decide) pass0 le.1.1 (eva_cons (ev_var 1) (eva_cons (ev_var 3) eva_nil)) ⟨twC t, hz, rfl, rfl, rfl⟩)) (eg_pair g (egs_cons (eg_name g 4) (egs_cons (eg_name g 5) egs_nil))) ?_
    refine wb_set (d := dy (twF t)) (st1 := twB t) g 6 (ev_callQ h_Lscript hr (by decide) pass0 le.1.1 (eva_cons (ev_var 1) (eva_cons (ev_var 3) (eva_cons (ev_var 5) (eva_cons (ev_int) eva_nil)))) ⟨twC t, twP t, 12, ⟨hz, tw.pc.2.1, by decide, by decide⟩, rfl, rfl, rfl⟩) ?_
    have ek : twK t = cutO (twF t) (runM (twC t) (twP t) (twF t)) := rfl
    rw [ek]
    generalize twC t = ss at tw hz
    generalize twP t = ps at tw
    generalize twF t = sc at tw
    generalize twB t = tb
    have hp0 := pos_of hz
    have pc := tw.pc
    have rg := runG_pic hp0 pc tw.fm
    refine wb_asg (d := dy (endM ps (cutO sc (runM ss ps sc)), (runM ss ps sc).map fun n => (n : Int))) (st1 := tb) (Ev.to (ev_callP h_Lled hr (by decide) pass0 (eva_cons (ev_var 3) (eva_cons (ev_var 5) (eva_cons (ev_var 6) eva_nil))) ⟨ss, ps, sc, ⟨pc.2.1, pc.1, tw.form⟩, rfl, rfl⟩) (by rw [rg])) (eg_pair g (egs_cons (eg_name g 7) (egs_cons (eg_name g 8) egs_nil))) ?_
    refine wb_when (EvT.to (k1 := false) (evt_not (evt_val (ev_callP h_Lflag hr (by decide) pass0 (eva_cons (ev_callP h_isScript hr (by decide) pass0 (eva_cons (ev_var 4) (eva_cons (ev_var 5) (eva_cons (ev_var 6) eva_nil))) ⟨C, ss, ps, sc, ⟨bc, pc, tw.form⟩, rfl, rfl⟩) (eva_cons (ev_isNI (ev_var 8)) eva_nil)) ⟨_, _, trivial, rfl, rfl⟩))) (by cases runM ss ps sc <;> rfl)) (fun h => by cases h) fun _ => ?_
    refine wb_whenE [none, some (dy (Ad.mk p)), none, some (dy ss), some (dy (Bx.mk (C := C) ss)), some (dy ps), some (dy (cutO sc (runM ss ps sc))), none, none, none, none, none, none, none] [] tb ?_ ?_
    · cases hm : runM ss ps sc with
      | none => exact ⟨false, tb, EvT.to (evt_notNI (o := none) (ev_var 8)) rfl, fun h => (by cases h), fun _ => wb_end rfl (by repeat (first | exact .nil | refine .same ?_ | refine .drop ?_)) rfl⟩
      | some n =>
        refine ⟨true, tb, EvT.to (evt_notNI (o := some (n : Int)) (ev_var 8)) rfl, fun _ => ?_, fun h => (by cases h)⟩
        refine wb_when (EvT.to (k1 := false) (evt_neD g (ev_lcM (zs := seqI 0 3) (f := fun _ => ((⟨⟩ : FW), (n : Int))) [("_law_which", 9)] g (evi_range (n := 3) B.rng (by decide) ev_int) (by decide) (blk_by ["_law_script_here", "_law_pool_here", "_law_turn", "_law_sizes_here", "_law_made", "_law_places", "_law_strokes", "_law_end", "_law_wrong", "_law_which", "_law_shown_here", "_law_stroke_here", "_law_back_here", "_law_cut"] (top 67) rfl rfl (by decide +kernel)) (fun F2 j z D s H C2 cl fp le2 hz2 gb => eg_name gb 9) (fun F2 j z D s H C2 cl fp le2 hz2 gb => ev_callP h_Ltried hr (by decide) pass0 (eva_cons (ev_var 9) (eva_cons (ev_var 4) (eva_cons (ev_var 5) (eva_cons (ev_var 6) eva_nil)))) ⟨C, z, ss, ps, sc, n, ⟨?_, ?_, bc, pc, tw.form, hm⟩, rfl, rfl⟩)) (ev_repL (n := 3) (xs := [((⟨⟩ : FW), (n : Int))]) (by show 1 * 3 ≤ 100000; decide) (by decide) (ev_lst (eva_cons (ev_pair ev_fw (Ev.unsome (ev_var 8))) eva_nil) (by show 1 ≤ sizeLine; decide)) ev_int)) ?_) (fun h => by cases h) fun _ => ?_
        · have hl2 := (List.getElem?_eq_some_iff.mp hz2).1
          rw [seqI_len] at hl2
          rw [seqI_get hl2] at hz2
          have := Option.some.inj hz2
          omega
        · have hl2 := (List.getElem?_eq_some_iff.mp hz2).1
          rw [seqI_len] at hl2
          rw [seqI_get hl2] at hz2
          have := Option.some.inj hz2
          have : j < 3 := hl2
          omega
        · have e3 : (seqI 0 3).map (fun _ => ((⟨⟩ : FW), (n : Int))) = (List.replicate 3 [((⟨⟩ : FW), (n : Int))]).flatten := rfl
          rw [e3, eqd_refl]
          rfl
        · exact wb_set (d := dy (cutO sc (some n))) (st1 := tb) g 6 (ev_to (n := n) (ev_var 6) (Ev.unsome (ev_var 8))) (wb_end rfl (by repeat (first | exact .nil | refine .same ?_ | refine .drop ?_)) rfl)
    have tc := tw_cut tw (runM ss ps sc)
    have rc : runM ss ps (cutO sc (runM ss ps sc)) = none := run_cut
    generalize cutO sc (runM ss ps sc) = sk at tc rc
    have pre : Bc K C ∧ Pic ss ps ∧ Form ss.length sk ∧ runM ss ps sk = none := ⟨bc, pc, tc.form, rc⟩
    have fml : ∀ u ∈ sk, u.2.length = ps.length := fun u hu => (tc.fm u hu).trans pc.2.1.symm
    have hek : ∀ j, (endM ps (sk.take j)).length = ss.length := fun j => (endM_len fun u h => fml u (List.mem_of_mem_take h)).trans pc.2.1
    have h40 := pc.1
    have h12 := tc.len
    refine wb_new (ds := [dy ps]) (st1 := tb) g 10 (eva_cons (ev_var 5) eva_nil) (by show 1 ≤ 100000; decide) fun q2 => ?_
    refine wb_for g (evi_tup (xs := sk) (ev_var 6)) (fun _ => [none, some (dy (Ad.mk p)), none, some (dy ss), some (dy (Bx.mk (C := C) ss)), some (dy ps), some (dy sk), none, none, none, some (dy (Ad.mk q2)), none, none, none]) (fun k => [(q2, (picsM ps (sk.take k)).map dy)]) (fun _ => tb) rfl rfl (by repeat (first | exact .nil | refine .same ?_ | refine .drop ?_)) (fun k => keys_same) (fun F2 j y le2 hy => ?_) ?_
    · obtain ⟨u, hu, rfl⟩ := map_at hy
      have hu2 : u.2.length = ss.length := tc.fm u (List.mem_of_getElem? hu)
      have hj := (List.getElem?_eq_some_iff.mp hu).1
      refine ⟨_, _, eg_name g 11, ?_⟩
      refine wb_append (st1 := tb) (d := dy (behM (endM ps (sk.take j)) u)) (ev_var 10) (ev_callP h_Lbehind hr (by decide) pass0 (eva_cons (ev_ixO (ev_var 10) (ev_neg ev_int) List.mem_cons_self (atD_dy (atI_last (picsM_last ps (sk.take j))))) (eva_cons (ev_var 11) eva_nil)) ⟨endM ps (sk.take j), u, ⟨by rw [hek, hu2], by rw [hek]; omega⟩, rfl, rfl⟩) (by rw [List.length_map, picsM_len, List.length_take]; omega) ?_
      refine wb_end rfl (by repeat (first | exact .nil | refine .same ?_ | refine .drop ?_)) ?_
      rw [take_snoc hu, picsM_snoc, map_snoc]
    rw [show sk.take ((sk.map dy).length) = sk by rw [List.length_map]; exact List.take_length]
    refine wb_letgo (xs := picsM ps sk) 10 rfl ?_
    have last : ∀ {G : Gm} {a1 p1 p2 p3 p4}, G[10]? = some (some (dy (PL.mk (picsM ps sk)))) → Ev F' (XL P w K mg base f cdv A outer s H E) G [] tb (.Subscript (.Name "_law_shown_here" p1) (.UnaryOp .USub (.Constant (.int 1) a1 p2) p3) p4) (dy (endM ps sk)) tb := fun hG => ev_ixL (ev_var 10 hG) (ev_neg ev_int) (atI_last (picsM_last ps sk))
    refine wb_when (evw_orF (EvT.to (k1 := false) (evt_not (evt_val (ev_callG h_Lis hgd hr (by decide) (eva_cons (ev_callP h_led hr (by decide) pass0 (eva_cons (ev_var 4) (eva_cons (ev_var 5) (eva_cons (ev_var 6) eva_nil))) ⟨C, ss, ps, sk, pre, rfl, rfl⟩) (eva_cons (last rfl) eva_nil)) ⟨List Pt, inferInstance, endM ps sk, tc.rpE, rfl, rfl⟩))) rfl) (evw_or1 (EvT.to (k1 := false) (evt_not (evt_val (ev_callG h_Lis hgd hr (by decide) (eva_cons (ev_callP h_pictures hr (by decide) pass0 (eva_cons (ev_var 4) (eva_cons (ev_var 5) (eva_cons (ev_var 6) eva_nil))) ⟨C, ss, ps, sk, pre, rfl, rfl⟩) (eva_cons (ev_var 10) eva_nil)) ⟨PL (List Pt), inferInstance, PL.mk (picsM ps sk), tc.rpL, rfl, rfl⟩))) rfl))).t (fun h => by cases h) fun _ => ?_
    refine wb_set (d := dy (backM ps sk)) (st1 := tb) g 12 (ev_callP h_takenBack hr (by decide) pass0 (eva_cons (ev_var 4) (eva_cons (ev_var 5) (eva_cons (ev_var 6) eva_nil))) ⟨C, ss, ps, sk, pre, rfl, rfl⟩) ?_
    obtain ⟨b1, b2, b3, _⟩ := back_all hp0 pc sk tc.fm rc
    have pe := pic_end hp0 pc tc.fm rc
    have bf : Form ss.length (backM ps sk) := ⟨by rw [backM_len]; omega, b1⟩
    have pre2 : Bc K C ∧ Pic ss (endM ps sk) ∧ Form ss.length (backM ps sk) ∧ runM ss (endM ps sk) (backM ps sk) = none := ⟨bc, pe, bf, b2⟩
    refine wb_when (evw_orF (EvT.to (k1 := false) (evt_not (evt_val (ev_callG h_Lis hgd hr (by decide) (eva_cons (ev_var 12) (eva_cons (ev_callP h_Lback hr (by decide) pass0 (eva_cons (ev_var 5) (eva_cons (ev_var 6) eva_nil)) ⟨ps, sk, ⟨tc.n40, Nat.le_trans tc.len (by decide), fml⟩, rfl, rfl⟩) eva_nil)) ⟨List Stk, inferInstance, backM ps sk, tc.rpB, rfl, rfl⟩))) rfl) (evw_or1 (EvT.to (k1 := false) (evt_not (evt_val (ev_callG h_Lis hgd hr (by decide) (eva_cons (Ev.to (d' := dy ps) (ev_callP h_led hr (by decide) pass0 (eva_cons (ev_var 4) (eva_cons (last rfl) (eva_cons (ev_var 12) eva_nil))) ⟨C, ss, endM ps sk, backM ps sk, pre2, rfl, rfl⟩) (by rw [b3])) (eva_cons (ev_var 5) eva_nil)) ⟨List Pt, inferInstance, ps, tc.rpP, rfl, rfl⟩))) rfl))).t (fun h => by cases h) fun _ => ?_
    refine wb_when (evw_orF (EvT.to (k1 := false) (evt_not (evt_val (ev_callP h_Lflag hr (by decide) pass0 (eva_cons (ev_callP h_isScript hr (by decide) pass0 (eva_cons (ev_var 4) (eva_cons (last rfl) (eva_cons (ev_var 12) eva_nil))) ⟨C, ss, endM ps sk, backM ps sk, ⟨bc, pe, bf⟩, rfl, rfl⟩) (eva_cons (ev_bool) eva_nil)) ⟨_, _, trivial, rfl, rfl⟩))) (by rw [b2] <;> rfl)) (evw_or1 (EvT.to (k1 := false) (evt_neD g (ev_callP h_takenBack hr (by decide) pass0 (eva_cons (ev_var 4) (eva_cons (last rfl) (eva_cons (ev_var 12) eva_nil))) ⟨C, ss, endM ps sk, backM ps sk, pre2, rfl, rfl⟩) (ev_var 6)) (by rw [back_back hp0 pc tc.fm rc, eqd_refl] <;> rfl)))).t (fun h => by cases h) fun _ => ?_
    have rcut := drw_rng tb (m := (sk.length : Int) + 1) (by omega)
    obtain ⟨cut, hcut⟩ : ∃ n : Nat, drw tb ((sk.length : Int) + 1) = (n : Int) := ⟨(drw tb ((sk.length : Int) + 1)).toNat, by omega⟩
    refine wb_set (d := dy (cut : Int)) (st1 := nxt tb ((sk.length : Int) + 1)) g 13 (Ev.to (ev_callQ h_Ldraw hr (by decide) pass0 le.1.1 (eva_cons (ev_var 1) (eva_cons (ev_add (ev_len B.len (ev_var 6)) ev_int) eva_nil)) ⟨(sk.length : Int) + 1, ⟨by omega, by omega⟩, rfl, rfl, rfl⟩) (by rw [hcut])) ?_
    have eapp : sk.take cut ++ sk.drop cut = sk := List.take_append_drop _ _
    obtain ⟨c1, c2⟩ := runM_app.mp (by rw [eapp]; exact rc : runM ss ps (sk.take cut ++ sk.drop cut) = none)
    have ee : endM (endM ps (sk.take cut)) (sk.drop cut) = endM ps sk := by rw [← endM_app, eapp]
    have f1 : Form ss.length (sk.take cut) := ⟨by rw [List.length_take]; omega, fun u hu => tc.fm u (List.mem_of_mem_take hu)⟩
    have f2 : Form ss.length (sk.drop cut) := ⟨by rw [List.length_drop]; omega, fun u hu => tc.fm u (List.mem_of_mem_drop hu)⟩
    have pcc := pic_end hp0 pc f1.2 c1
    generalize nxt tb ((sk.length : Int) + 1) = tn
    refine wb_when (EvT.to (k1 := false) (evt_neD g (ev_callP h_led hr (by decide) pass0 (eva_cons (ev_var 4) (eva_cons (ev_callP h_led hr (by decide) pass0 (eva_cons (ev_var 4) (eva_cons (ev_var 5) (eva_cons (ev_to (n := cut) (ev_var 6) (ev_var 13)) eva_nil))) ⟨C, ss, ps, sk.take cut, ⟨bc, pc, f1, c1⟩, rfl, rfl⟩) (eva_cons (ev_from (n := cut) (ev_var 6) (ev_var 13)) eva_nil))) ⟨C, ss, endM ps (sk.take cut), sk.drop cut, ⟨bc, pcc, f2, c2⟩, rfl, rfl⟩) (ev_ixL (ev_var 10) (ev_neg ev_int) (atI_last (picsM_last ps sk)))) (by rw [ee, eqd_refl] <;> rfl)) (fun h => by cases h) fun _ => ?_
    exact wb_end rfl (by repeat (first | exact .nil | refine .same ?_ | refine .drop ?_)) rfl
  · exact wb_ret (d := dy true) (st1 := lwI t1 4) ev_bool fun v σ H ok r => by
      cases (show v = .bl true from r)
      exact q H
end
end K5

namespace K5
open PySem PySem.Spec PyProof.Rows L2
open Py (rel)

/-! ### the call of the law, from outside -/
theorem fz_val : ∀ {us : List Value} {zs : List Int}, IntsAre us zs → Vals (zs.map V.int) us
  | [], [], .nil => .nil
  | _, _, .cons z tk r => .cons ⟨tk, rfl⟩ (fz_val r)
section
variable {P : Program} {w : World} {K : PySem.W.Frag} {mg mb : Str → Option Value} {k : Nat} {fa a : Addr} {t : Shared} {us : List Value} {zs : List Int}
/-- from a heap in which at most the script is told -/
theorem call_at {G : Hp} (kin : K.In t.heap) (gn : t.heap.Ns mainGlobals mg) (bn : t.heap.Ns builtinsNs mb) (bv : ∀ x : Str, x ≠ "__name__" → mb x = bootBuiltins x) (nl : t.heap.NoLimit) (gs : t.gens = #[])
    (at_ : t.heap.get? a = some { cls := .type "list", data := .seq us.toArray }) (room : Room k callerA) (fn : ∀ base : Heap, K.In base → base.Ns mainGlobals mg → FnG P w K mg base k "law" (spLaw K)) (nm : mg "law" = some (.ref fa))
    (r1 : zs.length ≤ 1000) (r2 : (dy (Sc.mk (K := K) zs)).rel (fun _ => False) G (.ref a)) (hok : HOk P w G t.heap) (only : ∀ b u, G b = some u → b = a ∧ ∃ o xs, u = .frz o (.lst xs)) (own : ∀ u, G a = some u → K.lookup a = none) :
    codeAny (model P w) callerA (.call (.ref fa) ⟨[.ref a], []⟩) (fun r t' => r = .ok (.ret (.bool true)) ∧ OldK t.heap t'.heap ∧ t'.os = t.os ∧ AllBare t'.gens) t := by
  have free : ∀ {b : Addr} {o : Obj}, t.heap.get? b = some o → b ≠ a → (hidT t.heap G).get? b = some o := fun {b o} e n => hidT_get e (by
    cases z : G b with
    | none => rfl
    | some u => exact absurd (only b u z).1 n)
  have dict_ne : ∀ {b : Addr} {o : Obj} {es : Array DictEntry} {c : Nat}, t.heap.get? b = some o → o.data = .dict es c → b ≠ a := fun {b o es c} e d n => by
    rw [n, at_] at e
    have e := Option.some.inj e
    rw [← e] at d
    have d : Data.seq us.toArray _ = Data.dict es c := d
    cases d
  have names : ∀ {b : Addr} {f : Str → Option Value}, t.heap.Ns b f → (hidT t.heap G).Ns b f := fun {b f} ⟨o, es, c, e, d, z⟩ => ⟨o, es, c, free e (dict_ne e d), d, z⟩
  have inB : K.In (hidT t.heap G) := fun b o e => by
    cases z : G b with
    | none => exact hidT_get (kin b o e) z
    | some u =>
      obtain ⟨q, _⟩ := only b u z
      rw [q] at z e
      rw [own u z] at e
      cases e
  obtain ⟨f, fd, ps, len, run, gx, _, bi⟩ := (fn _ inB (names gn)).ex
  rw [nm] at gx
  have ef : fa = f := Value.ref.inj (Option.some.inj gx)
  subst ef
  have goal : spLaw K [.ref a] G (fun v _ => v = .bl true) (fun _ _ _ => False) := ⟨fun _ => False, zs, fun _ h => h.elim, .cons r2 .nil, r1, fun _ => rfl⟩
  have pl : ([Value.ref a] ++ ([] : List Value)).length = ps.length := len _ _ _ _ goal
  have start : Env0 P w K mg (hidT t.heap G) callerA [] t G := by
    refine ⟨rfl, ⟨inB, names gn, ⟨mb, names bn, bv⟩, ?_⟩, fun _ _ e => of_hidT e, ?_, trivial, fun b h => (List.not_mem_nil h).elim, hok, .of_eq gs⟩
    · obtain ⟨m2, n1, n2⟩ := nl
      exact ⟨m2, names n1, n2⟩
    · rw [hidT_size]
      exact Nat.le_refl _
  refine codeAny_mono (run callerA [] t G ⟨[.ref a], []⟩ [.ref a] [.ref a] _ _ rfl room start (bi t [.ref a] kin pl) (.cons rfl .nil) goal) fun r t' h => ?_
  match r, h with
  | .error _, h => exact h.elim
  | .ok .next, h => exact h.elim
  | .ok .brk, h => exact h.elim
  | .ok .cont, h => exact h.elim
  | .ok (.ret u), ⟨v, G', os, bare, un, hok', rv, q⟩ =>
    have q : v = .bl true := q
    subst q
    have eu : u = Value.bool true := rv
    subst eu
    refine ⟨rfl, OldK.of_keep fun b o e => ?_, os, bare⟩
    cases z : G b with
    | none => exact un.keep b o e z (fun m => (List.not_mem_nil m).elim) fun m => (List.not_mem_nil m).elim
    | some u =>
      obtain ⟨_, ob, xs, rfl⟩ := only b u z
      have first := (hok b _ z).1
      have later := (hok' b _ (un.frzs b ob _ z)).1
      rw [e] at first
      rw [Option.some.inj first]
      exact later
theorem call_law (kin : K.In t.heap) (gn : t.heap.Ns mainGlobals mg) (bn : t.heap.Ns builtinsNs mb) (bv : ∀ x : Str, x ≠ "__name__" → mb x = bootBuiltins x) (nl : t.heap.NoLimit) (gs : t.gens = #[])
    (at_ : t.heap.get? a = some { cls := .type "list", data := .seq us.toArray }) (room : Room k callerA) (fn : ∀ base : Heap, K.In base → base.Ns mainGlobals mg → FnG P w K mg base k "law" (spLaw K)) (nm : mg "law" = some (.ref fa)) (ia : IntsAre us zs) (few : zs.length ≤ 1000) :
    codeAny (model P w) callerA (.call (.ref fa) ⟨[.ref a], []⟩) (fun r t' => r = .ok (.ret (.bool true)) ∧ OldK t.heap t'.heap ∧ t'.os = t.os ∧ AllBare t'.gens) t := by
  have vz := fz_val ia
  have size : (zs.map V.int).length ≤ sizeLine := by
    rw [List.length_map]
    exact Nat.le_trans few (by decide)
  cases q : K.lookup a with
  | some o =>
    have e := kin a o q
    rw [at_] at e
    have e := Option.some.inj e
    subst e
    refine call_at (G := fun _ => none) kin gn bn bv nl gs at_ room fn nm few ⟨a, rfl, .inr fun G' => .inr ⟨_, us.toArray, _, q, rfl, rfl, rfl, ?_, vz⟩⟩ (fun b u z => (by cases z)) (fun b u z => (by cases z)) fun u z => (by cases z)
    rw [List.size_toArray, ← vz.length]
    exact size
  | none =>
    refine call_at (G := upd (fun _ => none) a (.frz { cls := .type "list", data := .seq us.toArray } (.lst (zs.map V.int)))) kin gn bn bv nl gs at_ room fn nm few ⟨a, rfl, .inl ⟨_, upd_same⟩⟩ (fun b u z => ?_) (fun b u z => ?_) fun _ _ => q
    · by_cases hb : b = a
      · subst hb
        rw [upd_same] at z
        cases z
        exact ⟨at_, size, us, _, vz, at_⟩
      · rw [upd_ne hb] at z
        cases z
    · by_cases hb : b = a
      · subst hb
        rw [upd_same] at z
        cases z
        exact ⟨rfl, _, _, rfl⟩
      · rw [upd_ne hb] at z
        cases z
end
theorem walkG {l : PySem.W.OpenLaw} {n k : Nat} {q : Program} {loose : List Str} {XP : (Str → Option Value) → Heap → Prop} {YP : World → Heap → Prop} {d : DefRec} {K : Params → PySem.W.Frag} (hn : l.most = some n) (hn2 : n ≤ 1000) (hdf : d.params.defaults = []) (hr : Room k callerA) (hd : d.name = "law")
    (hY : ∀ (w : World) (h : Heap), YP w h → (K w.params).In h) (F : ∀ (w : World) (mg : Str → Option Value) (h : Heap), (K w.params).In h → h.Ns mainGlobals mg → ∀ base : Heap, (K w.params).In base → base.Ns mainGlobals mg → FnG l.prog w (K w.params) mg base k "law" (spLaw (K w.params))) :
    PySem.W.WalkO q loose XP YP l.row.toRowW d [] (fun f vs => PySem.call f vs) :=
  Att.attach_call hn hdf fun w _ s₁ mg mb fa _ _ _ _ a vs ns G Y _ _ _ hmg hobj hints hlen hg => call_law (hY w _ Y) G.T.g G.T.b G.T.builtins G.T.nolimit hg hobj hr (F w mg _ (hY w _ Y) G.T.g) (by rw [← hd]; exact hmg) hints (Nat.le_trans hlen hn2)

/-! ### all together -/
theorem df_mk {K : PySem.W.Frag} {h : Heap} {mg : Str → Option Value} {x : Str} {st : Stmt} {ps : List Str} {f : Addr} {oc : Value} {od an : Option Addr} {osl : Array (Option Value)} {kV doc pm cdv ct : Value} (X : K.In h) (G : h.Ns mainGlobals mg) (a : PySem.W.nsIn K mainGlobals x = some (some (.ref f)))
    (l : K.lookup f = some ⟨oc, od, .func (PySem.W.fnOf x x (defArgs st) (defBody st) (defScope st) .none kV doc pm an cdv ct), osl⟩) (c : PySem.W.codeIn K cdv x = true) (kp : PySem.W.keepIn K (.ref f) = true)
    (hb : ∀ (kV doc pm : Value) (an : Option Addr) (cdv ct : Value) (us : List Value), us.length = ps.length → bindArgs (PySem.W.fnOf x x (defArgs st) (defBody st) (defScope st) .none kV doc pm an cdv ct) ⟨us, []⟩ = pure (ps.zip us)) : Df K mg x st ps :=
  ⟨f, _, fun_mk l c kp, PySem.W.mg_of X G a, (fun_mk l c kp).binds hb⟩
theorem exm_in {K : PySem.W.Frag} {N : Addr} (e1 : PySem.W.subIn K (.ref N) (.type "BaseException") = some true) (e2 : PySem.W.hasDictIn K N = true) (e3 : PySem.W.typeIn K (.ref N) = some (.type "type")) (e4 : PySem.W.subIn K (.ref N) (.ref N) = some true) : PySem.W.exmOne K (.ref N) (.ref N) = some true := PySem.W.exm_ref e1 e2 e3 e4
theorem kit_in {K : PySem.W.Frag} {N S : Addr} (e2 : PySem.W.hasDictIn K S = true) (e3 : PySem.W.typeIn K (.ref S) = some (.type "type")) (e4 : PySem.W.subIn K (.ref N) (.ref S) = some true) : PySem.W.kitOne K (.ref N) (.ref S) = some true := by
  unfold PySem.W.kitOne
  split
  · rfl
  · obtain ⟨cd, hc, _⟩ := PySem.W.any_some e2
    show (if ((PySem.W.clsIn K S).isSome && PySem.W.typeIn K (.ref S) == some (.type "type")) = true then PySem.W.subIn K (.ref N) (.ref S) else none) = some true
    rw [if_pos (by rw [hc, e3]; rfl)]
    exact e4
theorem kit_ve {K : PySem.W.Frag} {N : Addr} (e4 : PySem.W.subIn K (.ref N) (.type "ValueError") = some true) : PySem.W.kitOne K (.ref N) (.type "ValueError") = some true := by
  unfold PySem.W.kitOne
  have e0 : (Value.ref N == Value.type "ValueError") = false := rfl
  rw [e0, if_neg Bool.false_ne_true]
  show (if PySem.W.kitMeta "ValueError" = true then PySem.W.subIn K (.ref N) (.type "ValueError") else none) = some true
  rw [if_pos (by decide +kernel)]
  exact e4
theorem all_ok {P : Program} {w : World} {K : PySem.W.Frag} {mg : Str → Option Value} {base : Heap} {C M S : Addr} (B : Bn mg) (T : BxMk K mg C) (TN : NfS K mg M S) (D_isInteger : Df K mg "is_integer" (top 7) ["thing"]) (D_isWithin : Df K mg "is_within" (top 8) ["thing", "least", "most"]) (D_isPair : Df K mg "is_pair" (top 9) ["thing"]) (D_isSized : Df K mg "is_sized" (top 10) ["thing", "least", "most"]) (D_areIntegers : Df K mg "are_integers" (top 11) ["thing", "many"]) (D_isSize : Df K mg "is_size" (top 15) ["thing"]) (D_arePlaces : Df K mg "are_places" (top 17) ["boxes", "thing"]) (D_meet : Df K mg "meet" (top 18) ["begin", "length", "other_begin", "other_length"]) (D_inRow : Df K mg "in_row" (top 19) ["boxes", "places", "one", "other"]) (D_inColumn : Df K mg "in_column" (top 20) ["boxes", "places", "one", "other"]) (D_overlap : Df K mg "overlap" (top 21) ["boxes", "places", "one", "other"]) (D_allOverlaps : Df K mg "all_overlaps" (top 22) ["boxes", "places"]) (D_isShown : Df K mg "is_shown" (top 23) ["boxes", "thing"]) (D_checkPicture : Df K mg "check_picture" (top 24) ["boxes", "thing"]) (D_isWord : Df K mg "is_word" (top 28) ["thing"]) (D_isStroke : Df K mg "is_stroke" (top 29) ["boxes", "thing"]) (D_behind : Df K mg "behind" (top 30) ["picture", "stroke"]) (D_gap : Df K mg "gap" (top 32) ["boxes", "places", "way", "one", "other"]) (D_beside : Df K mg "beside" (top 31) ["boxes", "picture", "way"]) (D_isLet : Df K mg "is_let" (top 33) ["boxes", "picture", "stroke"]) (D_isForm : Df K mg "is_form" (top 36) ["boxes", "thing"]) (D_runOf : Df K mg "run_of" (top 37) ["boxes", "picture", "script"]) (D_checkScript : Df K mg "check_script" (top 38) ["boxes", "picture", "script"]) (D_led : Df K mg "led" (top 39) ["boxes", "picture", "script"]) (D_pictures : Df K mg "pictures" (top 40) ["boxes", "picture", "script"]) (D_isScript : Df K mg "is_script" (top 41) ["boxes", "picture", "thing"]) (D_goalsOf : Df K mg "goals_of" (top 42) ["picture", "way"]) (D_takenBack : Df K mg "taken_back" (top 43) ["boxes", "picture", "script"]) (D_Ldraw : Df K mg "_law_draw" (top 46) ["_law_pool_here", "_law_many"]) (D_Lflag : Df K mg "_law_flag" (top 47) ["_law_thing", "_law_due"]) (D_Lsizes : Df K mg "_law_sizes" (top 49) ["_law_pool_here", "_law_most"]) (D_Lmeet : Df K mg "_law_meet" (top 50) ["_law_begin", "_law_length", "_law_other_here", "_law_more"]) (D_Lin : Df K mg "_law_in" (top 51) ["_law_way", "_law_sizes_here", "_law_places", "_law_one", "_law_other_here"]) (D_Loverlaps : Df K mg "_law_overlaps" (top 52) ["_law_sizes_here", "_law_places"]) (D_Lbeside : Df K mg "_law_beside" (top 53) ["_law_pool_here", "_law_sizes_here", "_law_places", "_law_box"]) (D_Lshown : Df K mg "_law_shown" (top 54) ["_law_pool_here", "_law_sizes_here"]) (D_Lother : Df K mg "_law_other" (top 55) ["_law_pool_here", "_law_sizes_here", "_law_places"]) (D_LisGoals : Df K mg "_law_is_goals" (top 56) ["_law_many", "_law_thing"]) (D_LisStroke : Df K mg "_law_is_stroke" (top 57) ["_law_many", "_law_thing"]) (D_Lbehind : Df K mg "_law_behind" (top 58) ["_law_places", "_law_stroke_here"]) (D_Lhits : Df K mg "_law_hits" (top 59) ["_law_sizes_here", "_law_places", "_law_stroke_here"]) (D_Lfree : Df K mg "_law_free" (top 60) ["_law_sizes_here", "_law_places", "_law_thing"]) (D_Lled : Df K mg "_law_led" (top 62) ["_law_sizes_here", "_law_places", "_law_script_here"]) (D_Lback : Df K mg "_law_back" (top 65) ["_law_places", "_law_script_here"]) (D_Lstroke : Df K mg "_law_stroke" (top 61) ["_law_pool_here", "_law_sizes_here", "_law_places"]) (D_Lscript : Df K mg "_law_script" (top 63) ["_law_pool_here", "_law_sizes_here", "_law_places", "_law_most"]) (D_LlongRight : Df K mg "_law_long_right" (top 66) ["_law_pool_here"]) (D_Lpool : Df K mg "_law_pool" (top 45) ["_law_script_here"]) (D_Lis : Df K mg "_law_is" (top 48) ["_law_told", "_law_due"]) (D_Ltried : Df K mg "_law_tried" (top 64) ["_law_which", "_law_made", "_law_places", "_law_script_here"]) (D_law : Df K mg "law" (top 67) ["_law_script_here"]) : FnG P w K mg base 10 "law" (spLaw K) := by
  have h_isInteger : Fn P w K mg base CX0 1 "is_integer" (spP (R_isInteger K)) := ok_isInteger B  D_isInteger
  have h_isWithin : Fn P w K mg base CX0 2 "is_within" (spP (R_isWithin K)) := ok_isWithin B h_isInteger D_isWithin
  have h_isPair : Fn P w K mg base CX0 1 "is_pair" (spP (R_isPair K)) := ok_isPair B  D_isPair
  have h_isSized : Fn P w K mg base CX0 1 "is_sized" (spP (R_isSized K)) := ok_isSized B  D_isSized
  have h_areIntegers : Fn P w K mg base CX0 2 "are_integers" (spP (R_areIntegers K)) := ok_areIntegers B h_isSized h_isInteger D_areIntegers
  have h_isSize : Fn P w K mg base CX0 3 "is_size" (spP (R_isSize K)) := ok_isSize B h_isPair h_isWithin D_isSize
  have h_arePlaces : Fn P w K mg base CX0 3 "are_places" (spP (R_arePlaces K)) := ok_arePlaces B h_isSized h_areIntegers D_arePlaces
  have h_meet : Fn P w K mg base CX0 1 "meet" (spP (R_meet K)) := ok_meet B  D_meet
  have h_inRow : Fn P w K mg base CX0 2 "in_row" (spP (R_inRow K)) := ok_inRow B h_meet D_inRow
  have h_inColumn : Fn P w K mg base CX0 2 "in_column" (spP (R_inColumn K)) := ok_inColumn B h_meet D_inColumn
  have h_overlap : Fn P w K mg base CX0 3 "overlap" (spP (R_overlap K)) := ok_overlap B h_inRow h_inColumn D_overlap
  have h_allOverlaps : Fn P w K mg base CX0 4 "all_overlaps" (spP (R_allOverlaps K)) := ok_allOverlaps B h_overlap D_allOverlaps
  have h_isShown : Fn P w K mg base CX0 5 "is_shown" (spP (R_isShown K)) := ok_isShown B h_arePlaces h_allOverlaps D_isShown
  have h_checkPicture : Fn P w K mg base CX0 6 "check_picture" (spP (R_checkPicture K)) := ok_checkPicture B h_isShown D_checkPicture
  have h_isWord : Fn P w K mg base CX0 1 "is_word" (spP (R_isWord K)) := ok_isWord B  D_isWord
  have h_isStroke : Fn P w K mg base CX0 3 "is_stroke" (spP (R_isStroke K)) := ok_isStroke B h_isPair h_isWord h_areIntegers D_isStroke
  have h_behind : Fn P w K mg base CX0 1 "behind" (spP (R_behind K)) := ok_behind B  D_behind
  have h_gap : Fn P w K mg base CX0 1 "gap" (spP (R_gap K)) := ok_gap B  D_gap
  have h_beside : Fn P w K mg base CX0 3 "beside" (spP (R_beside K)) := ok_beside B h_inRow h_inColumn D_beside
  have h_isLet : Fn P w K mg base CX0 4 "is_let" (spP (R_isLet K)) := ok_isLet B h_behind h_beside h_gap D_isLet
  have h_isForm : Fn P w K mg base CX0 4 "is_form" (spP (R_isForm K)) := ok_isForm B h_isSized h_isStroke D_isForm
  have h_runOf : Fn P w K mg base CX0 5 "run_of" (spP (R_runOf K)) := ok_runOf B h_isLet h_behind D_runOf
  have h_checkScript : Fn P w K mg base CX0 7 "check_script" (spP (R_checkScript K)) := ok_checkScript B h_checkPicture h_isForm h_runOf D_checkScript
  have h_led : Fn P w K mg base CX0 8 "led" (spP (R_led K)) := ok_led B h_checkScript D_led
  have h_pictures : Fn P w K mg base CX0 8 "pictures" (spP (R_pictures K)) := ok_pictures B h_checkScript D_pictures
  have h_isScript : Fn P w K mg base CX0 7 "is_script" (spP (R_isScript K)) := ok_isScript B h_checkPicture h_isForm h_runOf D_isScript
  have h_goalsOf : Fn P w K mg base CX0 1 "goals_of" (spP (R_goalsOf K)) := ok_goalsOf B  D_goalsOf
  have h_takenBack : Fn P w K mg base CX0 8 "taken_back" (spP (R_takenBack K)) := ok_takenBack B h_checkScript h_goalsOf D_takenBack
  have h_Ldraw : Fn P w K mg base CX0 1 "_law_draw" (spQ (R_Ldraw K)) := ok_Ldraw B  D_Ldraw
  have h_Lflag : Fn P w K mg base CX0 1 "_law_flag" (spP (R_Lflag K)) := ok_Lflag B  D_Lflag
  have h_Lsizes : Fn P w K mg base CX0 2 "_law_sizes" (spQ (R_Lsizes K)) := ok_Lsizes B h_Ldraw D_Lsizes
  have h_Lmeet : Fn P w K mg base CX0 1 "_law_meet" (spP (R_Lmeet K)) := ok_Lmeet B  D_Lmeet
  have h_Lin : Fn P w K mg base CX0 2 "_law_in" (spP (R_Lin K)) := ok_Lin B h_Lmeet D_Lin
  have h_Loverlaps : Fn P w K mg base CX0 3 "_law_overlaps" (spP (R_Loverlaps K)) := ok_Loverlaps B h_Lin D_Loverlaps
  have h_Lbeside : Fn P w K mg base CX0 2 "_law_beside" (spQ (R_Lbeside K)) := ok_Lbeside B h_Ldraw D_Lbeside
  have h_Lshown : Fn P w K mg base CX0 4 "_law_shown" (spQ (R_Lshown K)) := ok_Lshown B h_Ldraw h_Lbeside h_Loverlaps D_Lshown
  have h_Lother : Fn P w K mg base CX0 5 "_law_other" (spQ (R_Lother K)) := ok_Lother B h_Ldraw h_Loverlaps h_Lshown D_Lother
  have h_LisGoals : Fn P w K mg base CX0 1 "_law_is_goals" (spP (R_LisGoals K)) := ok_LisGoals B  D_LisGoals
  have h_LisStroke : Fn P w K mg base CX0 2 "_law_is_stroke" (spP (R_LisStroke K)) := ok_LisStroke B h_LisGoals D_LisStroke
  have h_Lbehind : Fn P w K mg base CX0 1 "_law_behind" (spP (R_Lbehind K)) := ok_Lbehind B  D_Lbehind
  have h_Lhits : Fn P w K mg base CX0 3 "_law_hits" (spP (R_Lhits K)) := ok_Lhits B h_Lin D_Lhits
  have h_Lfree : Fn P w K mg base CX0 4 "_law_free" (spP (R_Lfree K)) := ok_Lfree B h_LisStroke h_Lhits D_Lfree
  have h_Lled : Fn P w K mg base CX0 5 "_law_led" (spP (R_Lled K)) := ok_Lled B h_Lfree h_Lbehind D_Lled
  have h_Lback : Fn P w K mg base CX0 2 "_law_back" (spP (R_Lback K)) := ok_Lback B h_Lbehind D_Lback
  have h_Lstroke : Fn P w K mg base CX0 6 "_law_stroke" (spQ (R_Lstroke K)) := ok_Lstroke B h_Ldraw h_Lother D_Lstroke
  have h_Lscript : Fn P w K mg base CX0 7 "_law_script" (spQ (R_Lscript K)) := ok_Lscript B h_Ldraw h_Lstroke h_Lfree h_Lbehind D_Lscript
  have hB : ∃ f fd, Mk K C f ∧ FnOk P w K mg base CX0 4 f fd ["self", "sizes"] (spI C) ∧ Binds K fd ["self", "sizes"] [] := by
    obtain ⟨f, fd, m, fu, b⟩ := T.made
    exact ⟨f, fd, m, ok_init B T.bc h_isSized h_isSize fu, b⟩
  have h_LlongRight : Fn P w K mg base CX0 9 "_law_long_right" (spQ (R_LlongRight K)) := ok_LlongRight B T.bc T.g hB h_Ldraw h_Lsizes h_Lshown h_led h_isScript h_Lflag h_pictures h_takenBack h_Lbehind D_LlongRight
  have h_Lpool := ok_Lpool (P := P) (w := w) (base := base) B D_Lpool
  have h_Lis := ok_Lis (P := P) (w := w) (base := base) B D_Lis
  have r_check := ok_checkRz (P := P) (w := w) (base := base) B TN.nf h_checkPicture h_isForm h_runOf D_checkScript
  have h_Ltried := ok_Ltried (P := P) (w := w) (base := base) B TN (ok_ledRz r_check D_led) (ok_picturesRz r_check D_pictures) D_Ltried
  exact ok_law B T.bc T.g hB h_Ldraw h_Lsizes h_Lshown h_Lscript h_Lled h_Lflag h_Lbehind h_Lback h_LlongRight h_led h_isScript h_pictures h_takenBack h_Lpool h_Ltried h_Lis D_law
theorem all_mk {P : Program} {w : World} {K : PySem.W.Frag} {h base : Heap} {mg : Str → Option Value} {C M S NN f0 f1 f2 f3 f4 f5 f6 f7 f8 f9 f10 f11 f12 f13 f14 f15 f16 f17 f18 f19 f20 f21 f22 f23 f24 f25 f26 f27 f28 f29 f30 f31 f32 f33 f34 f35 f36 f37 f38 f39 f40 f41 f42 f43 f44 f45 f46 f47 f48 f49 f50 f51 f52 : Addr} {od0 an0 od1 an1 od2 an2 od3 an3 od4 an4 od5 an5 od6 an6 od7 an7 od8 an8 od9 an9 od10 an10 od11 an11 od12 an12 od13 an13 od14 an14 od15 an15 od16 an16 od17 an17 od18 an18 od19 an19 od20 an20 od21 an21 od22 an22 od23 an23 od24 an24 od25 an25 od26 an26 od27 an27 od28 an28 od29 an29 od30 an30 od31 an31 od32 an32 od33 an33 od34 an34 od35 an35 od36 an36 od37 an37 od38 an38 od39 an39 od40 an40 od41 an41 od42 an42 od43 an43 od44 an44 od45 an45 od46 an46 od47 an47 od48 an48 od49 an49 od50 an50 od51 an51 od52 an52 dd : Option Addr} {sl0 sl1 sl2 sl3 sl4 sl5 sl6 sl7 sl8 sl9 sl10 sl11 sl12 sl13 sl14 sl15 sl16 sl17 sl18 sl19 sl20 sl21 sl22 sl23 sl24 sl25 sl26 sl27 sl28 sl29 sl30 sl31 sl32 sl33 sl34 sl35 sl36 sl37 sl38 sl39 sl40 sl41 sl42 sl43 sl44 sl45 sl46 sl47 sl48 sl49 sl50 sl51 sl52 : Array (Option Value)} {oc0 kV0 dc0 pm0 cd0 ct0 oc1 kV1 dc1 pm1 cd1 ct1 oc2 kV2 dc2 pm2 cd2 ct2 oc3 kV3 dc3 pm3 cd3 ct3 oc4 kV4 dc4 pm4 cd4 ct4 oc5 kV5 dc5 pm5 cd5 ct5 oc6 kV6 dc6 pm6 cd6 ct6 oc7 kV7 dc7 pm7 cd7 ct7 oc8 kV8 dc8 pm8 cd8 ct8 oc9 kV9 dc9 pm9 cd9 ct9 oc10 kV10 dc10 pm10 cd10 ct10 oc11 kV11 dc11 pm11 cd11 ct11 oc12 kV12 dc12 pm12 cd12 ct12 oc13 kV13 dc13 pm13 cd13 ct13 oc14 kV14 dc14 pm14 cd14 ct14 oc15 kV15 dc15 pm15 cd15 ct15 oc16 kV16 dc16 pm16 cd16 ct16 oc17 kV17 dc17 pm17 cd17 ct17 oc18 kV18 dc18 pm18 cd18 ct18 oc19 kV19 dc19 pm19 cd19 ct19 oc20 kV20 dc20 pm20 cd20 ct20 oc21 kV21 dc21 pm21 cd21 ct21 oc22 kV22 dc22 pm22 cd22 ct22 oc23 kV23 dc23 pm23 cd23 ct23 oc24 kV24 dc24 pm24 cd24 ct24 oc25 kV25 dc25 pm25 cd25 ct25 oc26 kV26 dc26 pm26 cd26 ct26 oc27 kV27 dc27 pm27 cd27 ct27 oc28 kV28 dc28 pm28 cd28 ct28 oc29 kV29 dc29 pm29 cd29 ct29 oc30 kV30 dc30 pm30 cd30 ct30 oc31 kV31 dc31 pm31 cd31 ct31 oc32 kV32 dc32 pm32 cd32 ct32 oc33 kV33 dc33 pm33 cd33 ct33 oc34 kV34 dc34 pm34 cd34 ct34 oc35 kV35 dc35 pm35 cd35 ct35 oc36 kV36 dc36 pm36 cd36 ct36 oc37 kV37 dc37 pm37 cd37 ct37 oc38 kV38 dc38 pm38 cd38 ct38 oc39 kV39 dc39 pm39 cd39 ct39 oc40 kV40 dc40 pm40 cd40 ct40 oc41 kV41 dc41 pm41 cd41 ct41 oc42 kV42 dc42 pm42 cd42 ct42 oc43 kV43 dc43 pm43 cd43 ct43 oc44 kV44 dc44 pm44 cd44 ct44 oc45 kV45 dc45 pm45 cd45 ct45 oc46 kV46 dc46 pm46 cd46 ct46 oc47 kV47 dc47 pm47 cd47 ct47 oc48 kV48 dc48 pm48 cd48 ct48 oc49 kV49 dc49 pm49 cd49 ct49 oc50 kV50 dc50 pm50 cd50 ct50 oc51 kV51 dc51 pm51 cd51 ct51 oc52 kV52 dc52 pm52 cd52 ct52 : Value} {nm qn : Str} {bs sub : List Value} {sn : List Str} {ab : Bool} {col : Option Bool} {m0 m1 m2 m3 m5 : Option Value} {tL tU tB tZ tK : Tok} (X : K.In h) (G : h.Ns mainGlobals mg)
    (a0 : PySem.W.nsIn K mainGlobals "is_integer" = some (some (.ref f0))) (l0 : K.lookup f0 = some ⟨oc0, od0, .func (PySem.W.fnOf "is_integer" "is_integer" (defArgs (top 7)) (defBody (top 7)) (defScope (top 7)) .none kV0 dc0 pm0 an0 cd0 ct0), sl0⟩) (c0 : PySem.W.codeIn K cd0 "is_integer" = true) (k0 : PySem.W.keepIn K (.ref f0) = true)
    (a1 : PySem.W.nsIn K mainGlobals "is_within" = some (some (.ref f1))) (l1 : K.lookup f1 = some ⟨oc1, od1, .func (PySem.W.fnOf "is_within" "is_within" (defArgs (top 8)) (defBody (top 8)) (defScope (top 8)) .none kV1 dc1 pm1 an1 cd1 ct1), sl1⟩) (c1 : PySem.W.codeIn K cd1 "is_within" = true) (k1 : PySem.W.keepIn K (.ref f1) = true)
    (a2 : PySem.W.nsIn K mainGlobals "is_pair" = some (some (.ref f2))) (l2 : K.lookup f2 = some ⟨oc2, od2, .func (PySem.W.fnOf "is_pair" "is_pair" (defArgs (top 9)) (defBody (top 9)) (defScope (top 9)) .none kV2 dc2 pm2 an2 cd2 ct2), sl2⟩) (c2 : PySem.W.codeIn K cd2 "is_pair" = true) (k2 : PySem.W.keepIn K (.ref f2) = true)
    (a3 : PySem.W.nsIn K mainGlobals "is_sized" = some (some (.ref f3))) (l3 : K.lookup f3 = some ⟨oc3, od3, .func (PySem.W.fnOf "is_sized" "is_sized" (defArgs (top 10)) (defBody (top 10)) (defScope (top 10)) .none kV3 dc3 pm3 an3 cd3 ct3), sl3⟩) (c3 : PySem.W.codeIn K cd3 "is_sized" = true) (k3 : PySem.W.keepIn K (.ref f3) = true)
    (a4 : PySem.W.nsIn K mainGlobals "are_integers" = some (some (.ref f4))) (l4 : K.lookup f4 = some ⟨oc4, od4, .func (PySem.W.fnOf "are_integers" "are_integers" (defArgs (top 11)) (defBody (top 11)) (defScope (top 11)) .none kV4 dc4 pm4 an4 cd4 ct4), sl4⟩) (c4 : PySem.W.codeIn K cd4 "are_integers" = true) (k4 : PySem.W.keepIn K (.ref f4) = true)
    (a5 : PySem.W.nsIn K mainGlobals "is_size" = some (some (.ref f5))) (l5 : K.lookup f5 = some ⟨oc5, od5, .func (PySem.W.fnOf "is_size" "is_size" (defArgs (top 15)) (defBody (top 15)) (defScope (top 15)) .none kV5 dc5 pm5 an5 cd5 ct5), sl5⟩) (c5 : PySem.W.codeIn K cd5 "is_size" = true) (k5 : PySem.W.keepIn K (.ref f5) = true)
    (a6 : PySem.W.nsIn K mainGlobals "are_places" = some (some (.ref f6))) (l6 : K.lookup f6 = some ⟨oc6, od6, .func (PySem.W.fnOf "are_places" "are_places" (defArgs (top 17)) (defBody (top 17)) (defScope (top 17)) .none kV6 dc6 pm6 an6 cd6 ct6), sl6⟩) (c6 : PySem.W.codeIn K cd6 "are_places" = true) (k6 : PySem.W.keepIn K (.ref f6) = true)
    (a7 : PySem.W.nsIn K mainGlobals "meet" = some (some (.ref f7))) (l7 : K.lookup f7 = some ⟨oc7, od7, .func (PySem.W.fnOf "meet" "meet" (defArgs (top 18)) (defBody (top 18)) (defScope (top 18)) .none kV7 dc7 pm7 an7 cd7 ct7), sl7⟩) (c7 : PySem.W.codeIn K cd7 "meet" = true) (k7 : PySem.W.keepIn K (.ref f7) = true)
    (a8 : PySem.W.nsIn K mainGlobals "in_row" = some (some (.ref f8))) (l8 : K.lookup f8 = some ⟨oc8, od8, .func (PySem.W.fnOf "in_row" "in_row" (defArgs (top 19)) (defBody (top 19)) (defScope (top 19)) .none kV8 dc8 pm8 an8 cd8 ct8), sl8⟩) (c8 : PySem.W.codeIn K cd8 "in_row" = true) (k8 : PySem.W.keepIn K (.ref f8) = true)
    (a9 : PySem.W.nsIn K mainGlobals "in_column" = some (some (.ref f9))) (l9 : K.lookup f9 = some ⟨oc9, od9, .func (PySem.W.fnOf "in_column" "in_column" (defArgs (top 20)) (defBody (top 20)) (defScope (top 20)) .none kV9 dc9 pm9 an9 cd9 ct9), sl9⟩) (c9 : PySem.W.codeIn K cd9 "in_column" = true) (k9 : PySem.W.keepIn K (.ref f9) = true)
    (a10 : PySem.W.nsIn K mainGlobals "overlap" = some (some (.ref f10))) (l10 : K.lookup f10 = some ⟨oc10, od10, .func (PySem.W.fnOf "overlap" "overlap" (defArgs (top 21)) (defBody (top 21)) (defScope (top 21)) .none kV10 dc10 pm10 an10 cd10 ct10), sl10⟩) (c10 : PySem.W.codeIn K cd10 "overlap" = true) (k10 : PySem.W.keepIn K (.ref f10) = true)
    (a11 : PySem.W.nsIn K mainGlobals "all_overlaps" = some (some (.ref f11))) (l11 : K.lookup f11 = some ⟨oc11, od11, .func (PySem.W.fnOf "all_overlaps" "all_overlaps" (defArgs (top 22)) (defBody (top 22)) (defScope (top 22)) .none kV11 dc11 pm11 an11 cd11 ct11), sl11⟩) (c11 : PySem.W.codeIn K cd11 "all_overlaps" = true) (k11 : PySem.W.keepIn K (.ref f11) = true)
    (a12 : PySem.W.nsIn K mainGlobals "is_shown" = some (some (.ref f12))) (l12 : K.lookup f12 = some ⟨oc12, od12, .func (PySem.W.fnOf "is_shown" "is_shown" (defArgs (top 23)) (defBody (top 23)) (defScope (top 23)) .none kV12 dc12 pm12 an12 cd12 ct12), sl12⟩) (c12 : PySem.W.codeIn K cd12 "is_shown" = true) (k12 : PySem.W.keepIn K (.ref f12) = true)
    (a13 : PySem.W.nsIn K mainGlobals "check_picture" = some (some (.ref f13))) (l13 : K.lookup f13 = some ⟨oc13, od13, .func (PySem.W.fnOf "check_picture" "check_picture" (defArgs (top 24)) (defBody (top 24)) (defScope (top 24)) .none kV13 dc13 pm13 an13 cd13 ct13), sl13⟩) (c13 : PySem.W.codeIn K cd13 "check_picture" = true) (k13 : PySem.W.keepIn K (.ref f13) = true)
    (a14 : PySem.W.nsIn K mainGlobals "is_word" = some (some (.ref f14))) (l14 : K.lookup f14 = some ⟨oc14, od14, .func (PySem.W.fnOf "is_word" "is_word" (defArgs (top 28)) (defBody (top 28)) (defScope (top 28)) .none kV14 dc14 pm14 an14 cd14 ct14), sl14⟩) (c14 : PySem.W.codeIn K cd14 "is_word" = true) (k14 : PySem.W.keepIn K (.ref f14) = true)
    (a15 : PySem.W.nsIn K mainGlobals "is_stroke" = some (some (.ref f15))) (l15 : K.lookup f15 = some ⟨oc15, od15, .func (PySem.W.fnOf "is_stroke" "is_stroke" (defArgs (top 29)) (defBody (top 29)) (defScope (top 29)) .none kV15 dc15 pm15 an15 cd15 ct15), sl15⟩) (c15 : PySem.W.codeIn K cd15 "is_stroke" = true) (k15 : PySem.W.keepIn K (.ref f15) = true)
    (a16 : PySem.W.nsIn K mainGlobals "behind" = some (some (.ref f16))) (l16 : K.lookup f16 = some ⟨oc16, od16, .func (PySem.W.fnOf "behind" "behind" (defArgs (top 30)) (defBody (top 30)) (defScope (top 30)) .none kV16 dc16 pm16 an16 cd16 ct16), sl16⟩) (c16 : PySem.W.codeIn K cd16 "behind" = true) (k16 : PySem.W.keepIn K (.ref f16) = true)
    (a17 : PySem.W.nsIn K mainGlobals "gap" = some (some (.ref f17))) (l17 : K.lookup f17 = some ⟨oc17, od17, .func (PySem.W.fnOf "gap" "gap" (defArgs (top 32)) (defBody (top 32)) (defScope (top 32)) .none kV17 dc17 pm17 an17 cd17 ct17), sl17⟩) (c17 : PySem.W.codeIn K cd17 "gap" = true) (k17 : PySem.W.keepIn K (.ref f17) = true)
    (a18 : PySem.W.nsIn K mainGlobals "beside" = some (some (.ref f18))) (l18 : K.lookup f18 = some ⟨oc18, od18, .func (PySem.W.fnOf "beside" "beside" (defArgs (top 31)) (defBody (top 31)) (defScope (top 31)) .none kV18 dc18 pm18 an18 cd18 ct18), sl18⟩) (c18 : PySem.W.codeIn K cd18 "beside" = true) (k18 : PySem.W.keepIn K (.ref f18) = true)
    (a19 : PySem.W.nsIn K mainGlobals "is_let" = some (some (.ref f19))) (l19 : K.lookup f19 = some ⟨oc19, od19, .func (PySem.W.fnOf "is_let" "is_let" (defArgs (top 33)) (defBody (top 33)) (defScope (top 33)) .none kV19 dc19 pm19 an19 cd19 ct19), sl19⟩) (c19 : PySem.W.codeIn K cd19 "is_let" = true) (k19 : PySem.W.keepIn K (.ref f19) = true)
    (a20 : PySem.W.nsIn K mainGlobals "is_form" = some (some (.ref f20))) (l20 : K.lookup f20 = some ⟨oc20, od20, .func (PySem.W.fnOf "is_form" "is_form" (defArgs (top 36)) (defBody (top 36)) (defScope (top 36)) .none kV20 dc20 pm20 an20 cd20 ct20), sl20⟩) (c20 : PySem.W.codeIn K cd20 "is_form" = true) (k20 : PySem.W.keepIn K (.ref f20) = true)
    (a21 : PySem.W.nsIn K mainGlobals "run_of" = some (some (.ref f21))) (l21 : K.lookup f21 = some ⟨oc21, od21, .func (PySem.W.fnOf "run_of" "run_of" (defArgs (top 37)) (defBody (top 37)) (defScope (top 37)) .none kV21 dc21 pm21 an21 cd21 ct21), sl21⟩) (c21 : PySem.W.codeIn K cd21 "run_of" = true) (k21 : PySem.W.keepIn K (.ref f21) = true)
    (a22 : PySem.W.nsIn K mainGlobals "check_script" = some (some (.ref f22))) (l22 : K.lookup f22 = some ⟨oc22, od22, .func (PySem.W.fnOf "check_script" "check_script" (defArgs (top 38)) (defBody (top 38)) (defScope (top 38)) .none kV22 dc22 pm22 an22 cd22 ct22), sl22⟩) (c22 : PySem.W.codeIn K cd22 "check_script" = true) (k22 : PySem.W.keepIn K (.ref f22) = true)
    (a23 : PySem.W.nsIn K mainGlobals "led" = some (some (.ref f23))) (l23 : K.lookup f23 = some ⟨oc23, od23, .func (PySem.W.fnOf "led" "led" (defArgs (top 39)) (defBody (top 39)) (defScope (top 39)) .none kV23 dc23 pm23 an23 cd23 ct23), sl23⟩) (c23 : PySem.W.codeIn K cd23 "led" = true) (k23 : PySem.W.keepIn K (.ref f23) = true)
    (a24 : PySem.W.nsIn K mainGlobals "pictures" = some (some (.ref f24))) (l24 : K.lookup f24 = some ⟨oc24, od24, .func (PySem.W.fnOf "pictures" "pictures" (defArgs (top 40)) (defBody (top 40)) (defScope (top 40)) .none kV24 dc24 pm24 an24 cd24 ct24), sl24⟩) (c24 : PySem.W.codeIn K cd24 "pictures" = true) (k24 : PySem.W.keepIn K (.ref f24) = true)
    (a25 : PySem.W.nsIn K mainGlobals "is_script" = some (some (.ref f25))) (l25 : K.lookup f25 = some ⟨oc25, od25, .func (PySem.W.fnOf "is_script" "is_script" (defArgs (top 41)) (defBody (top 41)) (defScope (top 41)) .none kV25 dc25 pm25 an25 cd25 ct25), sl25⟩) (c25 : PySem.W.codeIn K cd25 "is_script" = true) (k25 : PySem.W.keepIn K (.ref f25) = true)
    (a26 : PySem.W.nsIn K mainGlobals "goals_of" = some (some (.ref f26))) (l26 : K.lookup f26 = some ⟨oc26, od26, .func (PySem.W.fnOf "goals_of" "goals_of" (defArgs (top 42)) (defBody (top 42)) (defScope (top 42)) .none kV26 dc26 pm26 an26 cd26 ct26), sl26⟩) (c26 : PySem.W.codeIn K cd26 "goals_of" = true) (k26 : PySem.W.keepIn K (.ref f26) = true)
    (a27 : PySem.W.nsIn K mainGlobals "taken_back" = some (some (.ref f27))) (l27 : K.lookup f27 = some ⟨oc27, od27, .func (PySem.W.fnOf "taken_back" "taken_back" (defArgs (top 43)) (defBody (top 43)) (defScope (top 43)) .none kV27 dc27 pm27 an27 cd27 ct27), sl27⟩) (c27 : PySem.W.codeIn K cd27 "taken_back" = true) (k27 : PySem.W.keepIn K (.ref f27) = true)
    (a28 : PySem.W.nsIn K mainGlobals "_law_draw" = some (some (.ref f28))) (l28 : K.lookup f28 = some ⟨oc28, od28, .func (PySem.W.fnOf "_law_draw" "_law_draw" (defArgs (top 46)) (defBody (top 46)) (defScope (top 46)) .none kV28 dc28 pm28 an28 cd28 ct28), sl28⟩) (c28 : PySem.W.codeIn K cd28 "_law_draw" = true) (k28 : PySem.W.keepIn K (.ref f28) = true)
    (a29 : PySem.W.nsIn K mainGlobals "_law_flag" = some (some (.ref f29))) (l29 : K.lookup f29 = some ⟨oc29, od29, .func (PySem.W.fnOf "_law_flag" "_law_flag" (defArgs (top 47)) (defBody (top 47)) (defScope (top 47)) .none kV29 dc29 pm29 an29 cd29 ct29), sl29⟩) (c29 : PySem.W.codeIn K cd29 "_law_flag" = true) (k29 : PySem.W.keepIn K (.ref f29) = true)
    (a30 : PySem.W.nsIn K mainGlobals "_law_sizes" = some (some (.ref f30))) (l30 : K.lookup f30 = some ⟨oc30, od30, .func (PySem.W.fnOf "_law_sizes" "_law_sizes" (defArgs (top 49)) (defBody (top 49)) (defScope (top 49)) .none kV30 dc30 pm30 an30 cd30 ct30), sl30⟩) (c30 : PySem.W.codeIn K cd30 "_law_sizes" = true) (k30 : PySem.W.keepIn K (.ref f30) = true)
    (a31 : PySem.W.nsIn K mainGlobals "_law_meet" = some (some (.ref f31))) (l31 : K.lookup f31 = some ⟨oc31, od31, .func (PySem.W.fnOf "_law_meet" "_law_meet" (defArgs (top 50)) (defBody (top 50)) (defScope (top 50)) .none kV31 dc31 pm31 an31 cd31 ct31), sl31⟩) (c31 : PySem.W.codeIn K cd31 "_law_meet" = true) (k31 : PySem.W.keepIn K (.ref f31) = true)
    (a32 : PySem.W.nsIn K mainGlobals "_law_in" = some (some (.ref f32))) (l32 : K.lookup f32 = some ⟨oc32, od32, .func (PySem.W.fnOf "_law_in" "_law_in" (defArgs (top 51)) (defBody (top 51)) (defScope (top 51)) .none kV32 dc32 pm32 an32 cd32 ct32), sl32⟩) (c32 : PySem.W.codeIn K cd32 "_law_in" = true) (k32 : PySem.W.keepIn K (.ref f32) = true)
    (a33 : PySem.W.nsIn K mainGlobals "_law_overlaps" = some (some (.ref f33))) (l33 : K.lookup f33 = some ⟨oc33, od33, .func (PySem.W.fnOf "_law_overlaps" "_law_overlaps" (defArgs (top 52)) (defBody (top 52)) (defScope (top 52)) .none kV33 dc33 pm33 an33 cd33 ct33), sl33⟩) (c33 : PySem.W.codeIn K cd33 "_law_overlaps" = true) (k33 : PySem.W.keepIn K (.ref f33) = true)
    (a34 : PySem.W.nsIn K mainGlobals "_law_beside" = some (some (.ref f34))) (l34 : K.lookup f34 = some ⟨oc34, od34, .func (PySem.W.fnOf "_law_beside" "_law_beside" (defArgs (top 53)) (defBody (top 53)) (defScope (top 53)) .none kV34 dc34 pm34 an34 cd34 ct34), sl34⟩) (c34 : PySem.W.codeIn K cd34 "_law_beside" = true) (k34 : PySem.W.keepIn K (.ref f34) = true)
    (a35 : PySem.W.nsIn K mainGlobals "_law_shown" = some (some (.ref f35))) (l35 : K.lookup f35 = some ⟨oc35, od35, .func (PySem.W.fnOf "_law_shown" "_law_shown" (defArgs (top 54)) (defBody (top 54)) (defScope (top 54)) .none kV35 dc35 pm35 an35 cd35 ct35), sl35⟩) (c35 : PySem.W.codeIn K cd35 "_law_shown" = true) (k35 : PySem.W.keepIn K (.ref f35) = true)
    (a36 : PySem.W.nsIn K mainGlobals "_law_other" = some (some (.ref f36))) (l36 : K.lookup f36 = some ⟨oc36, od36, .func (PySem.W.fnOf "_law_other" "_law_other" (defArgs (top 55)) (defBody (top 55)) (defScope (top 55)) .none kV36 dc36 pm36 an36 cd36 ct36), sl36⟩) (c36 : PySem.W.codeIn K cd36 "_law_other" = true) (k36 : PySem.W.keepIn K (.ref f36) = true)
    (a37 : PySem.W.nsIn K mainGlobals "_law_is_goals" = some (some (.ref f37))) (l37 : K.lookup f37 = some ⟨oc37, od37, .func (PySem.W.fnOf "_law_is_goals" "_law_is_goals" (defArgs (top 56)) (defBody (top 56)) (defScope (top 56)) .none kV37 dc37 pm37 an37 cd37 ct37), sl37⟩) (c37 : PySem.W.codeIn K cd37 "_law_is_goals" = true) (k37 : PySem.W.keepIn K (.ref f37) = true)
    (a38 : PySem.W.nsIn K mainGlobals "_law_is_stroke" = some (some (.ref f38))) (l38 : K.lookup f38 = some ⟨oc38, od38, .func (PySem.W.fnOf "_law_is_stroke" "_law_is_stroke" (defArgs (top 57)) (defBody (top 57)) (defScope (top 57)) .none kV38 dc38 pm38 an38 cd38 ct38), sl38⟩) (c38 : PySem.W.codeIn K cd38 "_law_is_stroke" = true) (k38 : PySem.W.keepIn K (.ref f38) = true)
    (a39 : PySem.W.nsIn K mainGlobals "_law_behind" = some (some (.ref f39))) (l39 : K.lookup f39 = some ⟨oc39, od39, .func (PySem.W.fnOf "_law_behind" "_law_behind" (defArgs (top 58)) (defBody (top 58)) (defScope (top 58)) .none kV39 dc39 pm39 an39 cd39 ct39), sl39⟩) (c39 : PySem.W.codeIn K cd39 "_law_behind" = true) (k39 : PySem.W.keepIn K (.ref f39) = true)
    (a40 : PySem.W.nsIn K mainGlobals "_law_hits" = some (some (.ref f40))) (l40 : K.lookup f40 = some ⟨oc40, od40, .func (PySem.W.fnOf "_law_hits" "_law_hits" (defArgs (top 59)) (defBody (top 59)) (defScope (top 59)) .none kV40 dc40 pm40 an40 cd40 ct40), sl40⟩) (c40 : PySem.W.codeIn K cd40 "_law_hits" = true) (k40 : PySem.W.keepIn K (.ref f40) = true)
    (a41 : PySem.W.nsIn K mainGlobals "_law_free" = some (some (.ref f41))) (l41 : K.lookup f41 = some ⟨oc41, od41, .func (PySem.W.fnOf "_law_free" "_law_free" (defArgs (top 60)) (defBody (top 60)) (defScope (top 60)) .none kV41 dc41 pm41 an41 cd41 ct41), sl41⟩) (c41 : PySem.W.codeIn K cd41 "_law_free" = true) (k41 : PySem.W.keepIn K (.ref f41) = true)
    (a42 : PySem.W.nsIn K mainGlobals "_law_led" = some (some (.ref f42))) (l42 : K.lookup f42 = some ⟨oc42, od42, .func (PySem.W.fnOf "_law_led" "_law_led" (defArgs (top 62)) (defBody (top 62)) (defScope (top 62)) .none kV42 dc42 pm42 an42 cd42 ct42), sl42⟩) (c42 : PySem.W.codeIn K cd42 "_law_led" = true) (k42 : PySem.W.keepIn K (.ref f42) = true)
    (a43 : PySem.W.nsIn K mainGlobals "_law_back" = some (some (.ref f43))) (l43 : K.lookup f43 = some ⟨oc43, od43, .func (PySem.W.fnOf "_law_back" "_law_back" (defArgs (top 65)) (defBody (top 65)) (defScope (top 65)) .none kV43 dc43 pm43 an43 cd43 ct43), sl43⟩) (c43 : PySem.W.codeIn K cd43 "_law_back" = true) (k43 : PySem.W.keepIn K (.ref f43) = true)
    (a44 : PySem.W.nsIn K mainGlobals "_law_stroke" = some (some (.ref f44))) (l44 : K.lookup f44 = some ⟨oc44, od44, .func (PySem.W.fnOf "_law_stroke" "_law_stroke" (defArgs (top 61)) (defBody (top 61)) (defScope (top 61)) .none kV44 dc44 pm44 an44 cd44 ct44), sl44⟩) (c44 : PySem.W.codeIn K cd44 "_law_stroke" = true) (k44 : PySem.W.keepIn K (.ref f44) = true)
    (a45 : PySem.W.nsIn K mainGlobals "_law_script" = some (some (.ref f45))) (l45 : K.lookup f45 = some ⟨oc45, od45, .func (PySem.W.fnOf "_law_script" "_law_script" (defArgs (top 63)) (defBody (top 63)) (defScope (top 63)) .none kV45 dc45 pm45 an45 cd45 ct45), sl45⟩) (c45 : PySem.W.codeIn K cd45 "_law_script" = true) (k45 : PySem.W.keepIn K (.ref f45) = true)
    (a46 : PySem.W.nsIn K mainGlobals "_law_long_right" = some (some (.ref f46))) (l46 : K.lookup f46 = some ⟨oc46, od46, .func (PySem.W.fnOf "_law_long_right" "_law_long_right" (defArgs (top 66)) (defBody (top 66)) (defScope (top 66)) .none kV46 dc46 pm46 an46 cd46 ct46), sl46⟩) (c46 : PySem.W.codeIn K cd46 "_law_long_right" = true) (k46 : PySem.W.keepIn K (.ref f46) = true)
    (a47 : PySem.W.nsIn K mainGlobals "_law_pool" = some (some (.ref f47))) (l47 : K.lookup f47 = some ⟨oc47, od47, .func (PySem.W.fnOf "_law_pool" "_law_pool" (defArgs (top 45)) (defBody (top 45)) (defScope (top 45)) .none kV47 dc47 pm47 an47 cd47 ct47), sl47⟩) (c47 : PySem.W.codeIn K cd47 "_law_pool" = true) (k47 : PySem.W.keepIn K (.ref f47) = true)
    (a48 : PySem.W.nsIn K mainGlobals "_law_is" = some (some (.ref f48))) (l48 : K.lookup f48 = some ⟨oc48, od48, .func (PySem.W.fnOf "_law_is" "_law_is" (defArgs (top 48)) (defBody (top 48)) (defScope (top 48)) .none kV48 dc48 pm48 an48 cd48 ct48), sl48⟩) (c48 : PySem.W.codeIn K cd48 "_law_is" = true) (k48 : PySem.W.keepIn K (.ref f48) = true)
    (a49 : PySem.W.nsIn K mainGlobals "_law_tried" = some (some (.ref f49))) (l49 : K.lookup f49 = some ⟨oc49, od49, .func (PySem.W.fnOf "_law_tried" "_law_tried" (defArgs (top 64)) (defBody (top 64)) (defScope (top 64)) .none kV49 dc49 pm49 an49 cd49 ct49), sl49⟩) (c49 : PySem.W.codeIn K cd49 "_law_tried" = true) (k49 : PySem.W.keepIn K (.ref f49) = true)
    (a50 : PySem.W.nsIn K mainGlobals "law" = some (some (.ref f50))) (l50 : K.lookup f50 = some ⟨oc50, od50, .func (PySem.W.fnOf "law" "law" (defArgs (top 67)) (defBody (top 67)) (defScope (top 67)) .none kV50 dc50 pm50 an50 cd50 ct50), sl50⟩) (c50 : PySem.W.codeIn K cd50 "law" = true) (k50 : PySem.W.keepIn K (.ref f50) = true)
    (a51 : PySem.W.findIn K (.ref C) "__init__" = some (some (.ref f51))) (l51 : K.lookup f51 = some ⟨oc51, od51, .func (PySem.W.fnOf "__init__" "Boxes.__init__" (defArgs sI) (defBody sI) (defScope sI) .none kV51 dc51 pm51 an51 cd51 ct51), sl51⟩) (c51 : PySem.W.codeIn K cd51 "Boxes.__init__" = true) (k51 : PySem.W.keepIn K (.ref f51) = true)
    (a52 : PySem.W.findIn K (.ref M) "__init__" = some (some (.ref f52))) (l52 : K.lookup f52 = some ⟨oc52, od52, .func (PySem.W.fnOf "__init__" "NotFree.__init__" (defArgs sN) (defBody sN) (defScope sN) .none kV52 dc52 pm52 an52 cd52 ct52), sl52⟩) (c52 : PySem.W.codeIn K cd52 "NotFree.__init__" = true) (k52 : PySem.W.keepIn K (.ref f52) = true)
    (iB : PySem.W.isFn K (.ref f51) = true) (tN : PySem.W.typeIn K (.ref f52) = some (.type "function")) (gC : PySem.W.nsIn K mainGlobals "Boxes" = some (some (.ref C))) (gM : PySem.W.nsIn K mainGlobals "NotFree" = some (some (.ref M)))
    (gS : PySem.W.nsIn K mainGlobals "StrokeError" = some (some (.ref S))) (pgC : PySem.W.plainGet K C Str.empty = true) (hdC : PySem.W.hasDictIn K C = true) (poC : PySem.W.plainOver K C = true)
    (saC : PySem.W.findIn K (.ref C) "__setattr__" = some (some (.builtin "object.__setattr__"))) (mkC : PySem.W.makesIn K C = true) (kcC : PySem.W.keepIn K (.ref C) = true) (nCm : PySem.W.findIn K (.ref C) "many" = some none)
    (nCs : PySem.W.findIn K (.ref C) "sizes" = some none) (xM : K.lookup M = some (excClassObj nm qn M NN bs [.ref S, .type "ValueError", .type "Exception", .type "BaseException", .type "object"] true sn sub ab col dd m0 m1 m2 m3 m5 "ValueError.__new__")) (saM : PySem.W.findIn K (.ref M) "__setattr__" = some (some (.builtin "object.__setattr__"))) (exM : PySem.W.subIn K (.ref M) (.type "BaseException") = some true)
    (tyM : PySem.W.typeIn K (.ref M) = some (.type "type")) (kcM : PySem.W.keepIn K (.ref M) = true) (noM : PySem.W.findIn K (.ref M) "number" = some none) (gaM : PySem.W.findIn K (.ref M) "__getattribute__" = some (some (.builtin "BaseException.__getattribute__")))
    (ggM : PySem.W.findIn K (.ref M) "__getattr__" = some none) (hdM : PySem.W.hasDictIn K M = true) (smM : PySem.W.subIn K (.ref M) (.ref M) = some true) (haM : PySem.W.findIn K (.ref M) "__class__" = some (some (.builtin "object.__class__")))
    (hnM : PySem.W.specialIn K (.builtin "object.__class__") "__get__" = some (some (.builtin "getset_descriptor.__get__"))) (htM : PySem.W.takesIn K (.builtin "object.__class__") = some true) (hmM : PySem.W.mroIn K M (.type "object") = some true) (hdS : PySem.W.hasDictIn K S = true)
    (tyS : PySem.W.typeIn K (.ref S) = some (.type "type")) (suS : PySem.W.subIn K (.ref M) (.ref S) = some true) (suV : PySem.W.subIn K (.ref M) (.type "ValueError") = some true) (z_len : PySem.W.nsIn K mainGlobals "len" = some none)
    (z_isi : PySem.W.nsIn K mainGlobals "isinstance" = some none) (z_int : PySem.W.nsIn K mainGlobals "int" = some none) (z_bool : PySem.W.nsIn K mainGlobals "bool" = some none) (z_str : PySem.W.nsIn K mainGlobals "str" = some none)
    (z_tup : PySem.W.nsIn K mainGlobals "tuple" = some none) (z_lst : PySem.W.nsIn K mainGlobals "list" = some none) (z_all : PySem.W.nsIn K mainGlobals "all" = some none) (z_sum : PySem.W.nsIn K mainGlobals "sum" = some none)
    (z_max : PySem.W.nsIn K mainGlobals "max" = some none) (z_abs : PySem.W.nsIn K mainGlobals "abs" = some none) (z_rng : PySem.W.nsIn K mainGlobals "range" = some none) (z_enu : PySem.W.nsIn K mainGlobals "enumerate" = some none)
    (z_zip : PySem.W.nsIn K mainGlobals "zip" = some none) (z_rep : PySem.W.nsIn K mainGlobals "repr" = some none) (z_ve : PySem.W.nsIn K mainGlobals "ValueError" = some none) (gL : PySem.W.nsIn K mainGlobals "LEVEL" = some (some (.str Way.lev.s tL)))
    (gU : PySem.W.nsIn K mainGlobals "UPRIGHT" = some (some (.str Way.upr.s tU))) (gB : PySem.W.nsIn K mainGlobals "MOST_BOXES" = some (some (.int 40 tB))) (gZ : PySem.W.nsIn K mainGlobals "MOST_SIZE" = some (some (.int 1000 tZ))) (gK : PySem.W.nsIn K mainGlobals "MOST_STROKES" = some (some (.int 200 tK)))
    : FnG P w K mg base 10 "law" (spLaw K) := by
  have B : Bn mg := ⟨PySem.W.mg_none_of X G z_len, PySem.W.mg_none_of X G z_isi, PySem.W.mg_none_of X G z_int, PySem.W.mg_none_of X G z_bool, PySem.W.mg_none_of X G z_str, PySem.W.mg_none_of X G z_tup, PySem.W.mg_none_of X G z_lst, PySem.W.mg_none_of X G z_all, PySem.W.mg_none_of X G z_sum, PySem.W.mg_none_of X G z_max, PySem.W.mg_none_of X G z_abs, PySem.W.mg_none_of X G z_rng, PySem.W.mg_none_of X G z_enu, PySem.W.mg_none_of X G z_zip, PySem.W.mg_none_of X G z_rep, ⟨_, PySem.W.mg_of X G gL⟩, ⟨_, PySem.W.mg_of X G gU⟩, ⟨_, PySem.W.mg_of X G gB⟩, ⟨_, PySem.W.mg_of X G gZ⟩, ⟨_, PySem.W.mg_of X G gK⟩⟩
  have FB := fun_mk (st := sI) l51 c51 k51
  have FN := fun_mk (st := sN) l52 c52 k52
  have T : BxMk K mg C := ⟨⟨⟨pgC, hdC, poC, saC⟩, nCm, nCs⟩, PySem.W.mg_of X G gC, f51, _, ⟨mkC, a51, iB, kcC⟩, FB, FB.binds (ps := ["self", "sizes"]) fun _ _ _ _ _ _ us hl => match us, hl with | [_, _], _ => rfl⟩
  have te : PySem.W.exmOne K (.ref M) (.ref M) = some true := exm_in exM hdM tyM smM
  have TX : OexC K M := ⟨⟨_, _, _, _, _, _, _, _, _, _, _, _, _, _, _, xM, by show PySem.HandSPX.refsVE [.type "ValueError", .type "Exception", .type "BaseException", .type "object"] = true; decide +kernel⟩, saM, exM, tyM, kcM⟩
  have TF : NfC K mg M := ⟨TX, noM, PySem.W.mg_of X G gM, ⟨gaM, ggM, exM, hdM⟩, te, f52, _, a52, tN, FN, FN.binds (ps := ["self", "number"]) fun _ _ _ _ _ _ us hl => match us, hl with | [_, _], _ => rfl⟩
  have TN : NfS K mg M S := ⟨TF, ⟨gaM, ggM, exM, hdM, haM, hnM, htM, hmM⟩, PySem.W.mg_of X G gS, PySem.W.mg_none_of X G z_ve, kit_in hdS tyS suS, kit_ve suV⟩
  refine all_ok B T TN ?_ ?_ ?_ ?_ ?_ ?_ ?_ ?_ ?_ ?_ ?_ ?_ ?_ ?_ ?_ ?_ ?_ ?_ ?_ ?_ ?_ ?_ ?_ ?_ ?_ ?_ ?_ ?_ ?_ ?_ ?_ ?_ ?_ ?_ ?_ ?_ ?_ ?_ ?_ ?_ ?_ ?_ ?_ ?_ ?_ ?_ ?_ ?_ ?_ ?_ ?_
  · exact df_mk X G a0 l0 c0 k0 fun _ _ _ _ _ _ us hl => match us, hl with | [_], _ => rfl
  · exact df_mk X G a1 l1 c1 k1 fun _ _ _ _ _ _ us hl => match us, hl with | [_, _, _], _ => rfl
  · exact df_mk X G a2 l2 c2 k2 fun _ _ _ _ _ _ us hl => match us, hl with | [_], _ => rfl
  · exact df_mk X G a3 l3 c3 k3 fun _ _ _ _ _ _ us hl => match us, hl with | [_, _, _], _ => rfl
  · exact df_mk X G a4 l4 c4 k4 fun _ _ _ _ _ _ us hl => match us, hl with | [_, _], _ => rfl
  · exact df_mk X G a5 l5 c5 k5 fun _ _ _ _ _ _ us hl => match us, hl with | [_], _ => rfl
  · exact df_mk X G a6 l6 c6 k6 fun _ _ _ _ _ _ us hl => match us, hl with | [_, _], _ => rfl
  · exact df_mk X G a7 l7 c7 k7 fun _ _ _ _ _ _ us hl => match us, hl with | [_, _, _, _], _ => rfl
  · exact df_mk X G a8 l8 c8 k8 fun _ _ _ _ _ _ us hl => match us, hl with | [_, _, _, _], _ => rfl
  · exact df_mk X G a9 l9 c9 k9 fun _ _ _ _ _ _ us hl => match us, hl with | [_, _, _, _], _ => rfl
  · exact df_mk X G a10 l10 c10 k10 fun _ _ _ _ _ _ us hl => match us, hl with | [_, _, _, _], _ => rfl
  · exact df_mk X G a11 l11 c11 k11 fun _ _ _ _ _ _ us hl => match us, hl with | [_, _], _ => rfl
  · exact df_mk X G a12 l12 c12 k12 fun _ _ _ _ _ _ us hl => match us, hl with | [_, _], _ => rfl
  · exact df_mk X G a13 l13 c13 k13 fun _ _ _ _ _ _ us hl => match us, hl with | [_, _], _ => rfl
  · exact df_mk X G a14 l14 c14 k14 fun _ _ _ _ _ _ us hl => match us, hl with | [_], _ => rfl
  · exact df_mk X G a15 l15 c15 k15 fun _ _ _ _ _ _ us hl => match us, hl with | [_, _], _ => rfl
  · exact df_mk X G a16 l16 c16 k16 fun _ _ _ _ _ _ us hl => match us, hl with | [_, _], _ => rfl
  · exact df_mk X G a17 l17 c17 k17 fun _ _ _ _ _ _ us hl => match us, hl with | [_, _, _, _, _], _ => rfl
  · exact df_mk X G a18 l18 c18 k18 fun _ _ _ _ _ _ us hl => match us, hl with | [_, _, _], _ => rfl
  · exact df_mk X G a19 l19 c19 k19 fun _ _ _ _ _ _ us hl => match us, hl with | [_, _, _], _ => rfl
  · exact df_mk X G a20 l20 c20 k20 fun _ _ _ _ _ _ us hl => match us, hl with | [_, _], _ => rfl
  · exact df_mk X G a21 l21 c21 k21 fun _ _ _ _ _ _ us hl => match us, hl with | [_, _, _], _ => rfl
  · exact df_mk X G a22 l22 c22 k22 fun _ _ _ _ _ _ us hl => match us, hl with | [_, _, _], _ => rfl
  · exact df_mk X G a23 l23 c23 k23 fun _ _ _ _ _ _ us hl => match us, hl with | [_, _, _], _ => rfl
  · exact df_mk X G a24 l24 c24 k24 fun _ _ _ _ _ _ us hl => match us, hl with | [_, _, _], _ => rfl
  · exact df_mk X G a25 l25 c25 k25 fun _ _ _ _ _ _ us hl => match us, hl with | [_, _, _], _ => rfl
  · exact df_mk X G a26 l26 c26 k26 fun _ _ _ _ _ _ us hl => match us, hl with | [_, _], _ => rfl
  · exact df_mk X G a27 l27 c27 k27 fun _ _ _ _ _ _ us hl => match us, hl with | [_, _, _], _ => rfl
  · exact df_mk X G a28 l28 c28 k28 fun _ _ _ _ _ _ us hl => match us, hl with | [_, _], _ => rfl
  · exact df_mk X G a29 l29 c29 k29 fun _ _ _ _ _ _ us hl => match us, hl with | [_, _], _ => rfl
  · exact df_mk X G a30 l30 c30 k30 fun _ _ _ _ _ _ us hl => match us, hl with | [_, _], _ => rfl
  · exact df_mk X G a31 l31 c31 k31 fun _ _ _ _ _ _ us hl => match us, hl with | [_, _, _, _], _ => rfl
  · exact df_mk X G a32 l32 c32 k32 fun _ _ _ _ _ _ us hl => match us, hl with | [_, _, _, _, _], _ => rfl
  · exact df_mk X G a33 l33 c33 k33 fun _ _ _ _ _ _ us hl => match us, hl with | [_, _], _ => rfl
  · exact df_mk X G a34 l34 c34 k34 fun _ _ _ _ _ _ us hl => match us, hl with | [_, _, _, _], _ => rfl
  · exact df_mk X G a35 l35 c35 k35 fun _ _ _ _ _ _ us hl => match us, hl with | [_, _], _ => rfl
  · exact df_mk X G a36 l36 c36 k36 fun _ _ _ _ _ _ us hl => match us, hl with | [_, _, _], _ => rfl
  · exact df_mk X G a37 l37 c37 k37 fun _ _ _ _ _ _ us hl => match us, hl with | [_, _], _ => rfl
  · exact df_mk X G a38 l38 c38 k38 fun _ _ _ _ _ _ us hl => match us, hl with | [_, _], _ => rfl
  · exact df_mk X G a39 l39 c39 k39 fun _ _ _ _ _ _ us hl => match us, hl with | [_, _], _ => rfl
  · exact df_mk X G a40 l40 c40 k40 fun _ _ _ _ _ _ us hl => match us, hl with | [_, _, _], _ => rfl
  · exact df_mk X G a41 l41 c41 k41 fun _ _ _ _ _ _ us hl => match us, hl with | [_, _, _], _ => rfl
  · exact df_mk X G a42 l42 c42 k42 fun _ _ _ _ _ _ us hl => match us, hl with | [_, _, _], _ => rfl
  · exact df_mk X G a43 l43 c43 k43 fun _ _ _ _ _ _ us hl => match us, hl with | [_, _], _ => rfl
  · exact df_mk X G a44 l44 c44 k44 fun _ _ _ _ _ _ us hl => match us, hl with | [_, _, _], _ => rfl
  · exact df_mk X G a45 l45 c45 k45 fun _ _ _ _ _ _ us hl => match us, hl with | [_, _, _, _], _ => rfl
  · exact df_mk X G a46 l46 c46 k46 fun _ _ _ _ _ _ us hl => match us, hl with | [_], _ => rfl
  · exact df_mk X G a47 l47 c47 k47 fun _ _ _ _ _ _ us hl => match us, hl with | [_], _ => rfl
  · exact df_mk X G a48 l48 c48 k48 fun _ _ _ _ _ _ us hl => match us, hl with | [_, _], _ => rfl
  · exact df_mk X G a49 l49 c49 k49 fun _ _ _ _ _ _ us hl => match us, hl with | [_, _, _, _], _ => rfl
  · exact df_mk X G a50 l50 c50 k50 fun _ _ _ _ _ _ us hl => match us, hl with | [_], _ => rfl
end K5

open PySem PySem.W PyProof.Rows
set_option maxHeartbeats 0 in
theorem PySem.Challenge.cw_fourstrokes_k05_whole_scripts_led_and_ba_holds : PySem.Challenge.rw_fourstrokes_k05_whole_scripts_led_and_ba.Holds := by
  w_on; o_law; k_head; (case hw => w_witness2)
  k_fill
  refine K5.walkG (l := PySem.Challenge.rw_fourstrokes_k05_whole_scripts_led_and_ba) (n := 63) (k := 10) rfl (by decide) rfl ⟨rfl, by decide, by decide⟩ rfl (fun w h Y => PySem.W.kIn_of Y) ?F
  case F =>
    intro w mg h KX G base _ _
    refine' K5.all_mk KX G ?a0 ?l0 ?c0 ?k0 ?a1 ?l1 ?c1 ?k1 ?a2 ?l2 ?c2 ?k2 ?a3 ?l3 ?c3 ?k3 ?a4 ?l4 ?c4 ?k4 ?a5 ?l5 ?c5 ?k5 ?a6 ?l6 ?c6 ?k6 ?a7 ?l7 ?c7 ?k7 ?a8 ?l8 ?c8 ?k8 ?a9 ?l9 ?c9 ?k9 ?a10 ?l10 ?c10 ?k10 ?a11 ?l11 ?c11 ?k11 ?a12 ?l12 ?c12 ?k12 ?a13 ?l13 ?c13 ?k13 ?a14 ?l14 ?c14 ?k14 ?a15 ?l15 ?c15 ?k15 ?a16 ?l16 ?c16 ?k16 ?a17 ?l17 ?c17 ?k17 ?a18 ?l18 ?c18 ?k18 ?a19 ?l19 ?c19 ?k19 ?a20 ?l20 ?c20 ?k20 ?a21 ?l21 ?c21 ?k21 ?a22 ?l22 ?c22 ?k22 ?a23 ?l23 ?c23 ?k23 ?a24 ?l24 ?c24 ?k24 ?a25 ?l25 ?c25 ?k25 ?a26 ?l26 ?c26 ?k26 ?a27 ?l27 ?c27 ?k27 ?a28 ?l28 ?c28 ?k28 ?a29 ?l29 ?c29 ?k29 ?a30 ?l30 ?c30 ?k30 ?a31 ?l31 ?c31 ?k31 ?a32 ?l32 ?c32 ?k32 ?a33 ?l33 ?c33 ?k33 ?a34 ?l34 ?c34 ?k34 ?a35 ?l35 ?c35 ?k35 ?a36 ?l36 ?c36 ?k36 ?a37 ?l37 ?c37 ?k37 ?a38 ?l38 ?c38 ?k38 ?a39 ?l39 ?c39 ?k39 ?a40 ?l40 ?c40 ?k40 ?a41 ?l41 ?c41 ?k41 ?a42 ?l42 ?c42 ?k42 ?a43 ?l43 ?c43 ?k43 ?a44 ?l44 ?c44 ?k44 ?a45 ?l45 ?c45 ?k45 ?a46 ?l46 ?c46 ?k46 ?a47 ?l47 ?c47 ?k47 ?a48 ?l48 ?c48 ?k48 ?a49 ?l49 ?c49 ?k49 ?a50 ?l50 ?c50 ?k50 ?a51 ?l51 ?c51 ?k51 ?a52 ?l52 ?c52 ?k52 ?iB ?tN ?gC ?gM ?gS ?pgC ?hdC ?poC ?saC ?mkC ?kcC ?nCm ?nCs ?xM ?saM ?exM ?tyM ?kcM ?noM ?gaM ?ggM ?hdM ?smM ?haM ?hnM ?htM ?hmM ?hdS ?tyS ?suS ?suV ?z_len ?z_isi ?z_int ?z_bool ?z_str ?z_tup ?z_lst ?z_all ?z_sum ?z_max ?z_abs ?z_rng ?z_enu ?z_zip ?z_rep ?z_ve ?gL ?gU ?gB ?gZ ?gK
    (case gC => k_is); (case gM => k_is); (case gS => k_is); (case a0 => k_is); (case l0 => k_is); (case c0 => k_is); (case k0 => k_is); (case a1 => k_is)
    (case l1 => k_is); (case c1 => k_is); (case k1 => k_is); (case a2 => k_is); (case l2 => k_is); (case c2 => k_is); (case k2 => k_is); (case a3 => k_is)
    (case l3 => k_is); (case c3 => k_is); (case k3 => k_is); (case a4 => k_is); (case l4 => k_is); (case c4 => k_is); (case k4 => k_is); (case a5 => k_is)
    (case l5 => k_is); (case c5 => k_is); (case k5 => k_is); (case a6 => k_is); (case l6 => k_is); (case c6 => k_is); (case k6 => k_is); (case a7 => k_is)
    (case l7 => k_is); (case c7 => k_is); (case k7 => k_is); (case a8 => k_is); (case l8 => k_is); (case c8 => k_is); (case k8 => k_is); (case a9 => k_is)
    (case l9 => k_is); (case c9 => k_is); (case k9 => k_is); (case a10 => k_is); (case l10 => k_is); (case c10 => k_is); (case k10 => k_is); (case a11 => k_is)
    (case l11 => k_is); (case c11 => k_is); (case k11 => k_is); (case a12 => k_is); (case l12 => k_is); (case c12 => k_is); (case k12 => k_is); (case a13 => k_is)
    (case l13 => k_is); (case c13 => k_is); (case k13 => k_is); (case a14 => k_is); (case l14 => k_is); (case c14 => k_is); (case k14 => k_is); (case a15 => k_is)
    (case l15 => k_is); (case c15 => k_is); (case k15 => k_is); (case a16 => k_is); (case l16 => k_is); (case c16 => k_is); (case k16 => k_is); (case a17 => k_is)
    (case l17 => k_is); (case c17 => k_is); (case k17 => k_is); (case a18 => k_is); (case l18 => k_is); (case c18 => k_is); (case k18 => k_is); (case a19 => k_is)
    (case l19 => k_is); (case c19 => k_is); (case k19 => k_is); (case a20 => k_is); (case l20 => k_is); (case c20 => k_is); (case k20 => k_is); (case a21 => k_is)
    (case l21 => k_is); (case c21 => k_is); (case k21 => k_is); (case a22 => k_is); (case l22 => k_is); (case c22 => k_is); (case k22 => k_is); (case a23 => k_is)
    (case l23 => k_is); (case c23 => k_is); (case k23 => k_is); (case a24 => k_is); (case l24 => k_is); (case c24 => k_is); (case k24 => k_is); (case a25 => k_is)
    (case l25 => k_is); (case c25 => k_is); (case k25 => k_is); (case a26 => k_is); (case l26 => k_is); (case c26 => k_is); (case k26 => k_is); (case a27 => k_is)
    (case l27 => k_is); (case c27 => k_is); (case k27 => k_is); (case a28 => k_is); (case l28 => k_is); (case c28 => k_is); (case k28 => k_is); (case a29 => k_is)
    (case l29 => k_is); (case c29 => k_is); (case k29 => k_is); (case a30 => k_is); (case l30 => k_is); (case c30 => k_is); (case k30 => k_is); (case a31 => k_is)
    (case l31 => k_is); (case c31 => k_is); (case k31 => k_is); (case a32 => k_is); (case l32 => k_is); (case c32 => k_is); (case k32 => k_is); (case a33 => k_is)
    (case l33 => k_is); (case c33 => k_is); (case k33 => k_is); (case a34 => k_is); (case l34 => k_is); (case c34 => k_is); (case k34 => k_is); (case a35 => k_is)
    (case l35 => k_is); (case c35 => k_is); (case k35 => k_is); (case a36 => k_is); (case l36 => k_is); (case c36 => k_is); (case k36 => k_is); (case a37 => k_is)
    (case l37 => k_is); (case c37 => k_is); (case k37 => k_is); (case a38 => k_is); (case l38 => k_is); (case c38 => k_is); (case k38 => k_is); (case a39 => k_is)
    (case l39 => k_is); (case c39 => k_is); (case k39 => k_is); (case a40 => k_is); (case l40 => k_is); (case c40 => k_is); (case k40 => k_is); (case a41 => k_is)
    (case l41 => k_is); (case c41 => k_is); (case k41 => k_is); (case a42 => k_is); (case l42 => k_is); (case c42 => k_is); (case k42 => k_is); (case a43 => k_is)
    (case l43 => k_is); (case c43 => k_is); (case k43 => k_is); (case a44 => k_is); (case l44 => k_is); (case c44 => k_is); (case k44 => k_is); (case a45 => k_is)
    (case l45 => k_is); (case c45 => k_is); (case k45 => k_is); (case a46 => k_is); (case l46 => k_is); (case c46 => k_is); (case k46 => k_is); (case a47 => k_is)
    (case l47 => k_is); (case c47 => k_is); (case k47 => k_is); (case a48 => k_is); (case l48 => k_is); (case c48 => k_is); (case k48 => k_is); (case a49 => k_is)
    (case l49 => k_is); (case c49 => k_is); (case k49 => k_is); (case a50 => k_is); (case l50 => k_is); (case c50 => k_is); (case k50 => k_is); (case a51 => k_is)
    (case l51 => k_is); (case c51 => k_is); (case k51 => k_is); (case a52 => k_is); (case l52 => k_is); (case c52 => k_is); (case k52 => k_is); (case iB => k_is)
    (case tN => k_is); (case pgC => k_is); (case hdC => k_is); (case poC => k_is); (case saC => k_is); (case mkC => k_is); (case kcC => k_is); (case nCm => k_is)
    (case nCs => k_is); (case xM => k_is); (case saM => k_is); (case exM => k_is); (case tyM => k_is); (case kcM => k_is); (case noM => k_is); (case gaM => k_is)
    (case ggM => k_is); (case hdM => k_is); (case smM => k_is); (case haM => k_is); (case hnM => k_is); (case htM => k_is); (case hmM => k_is); (case hdS => k_is)
    (case tyS => k_is); (case suS => k_is); (case suV => k_is); (case z_len => k_is); (case z_isi => k_is); (case z_int => k_is); (case z_bool => k_is); (case z_str => k_is)
    (case z_tup => k_is); (case z_lst => k_is); (case z_all => k_is); (case z_sum => k_is); (case z_max => k_is); (case z_abs => k_is); (case z_rng => k_is); (case z_enu => k_is)
    (case z_zip => k_is); (case z_rep => k_is); (case z_ve => k_is); (case gL => k_is); (case gU => k_is); (case gB => k_is); (case gZ => k_is); (case gK => k_is)
