import PyProof.Rows.All
import HandS.HeadHook4
import Wide.All
import OpenK.AllK
import Wide.FinOn
import KE.KStateDown
import Lean
import HandS.ForExc
import HandS.More
import HandS.Defaults
import HandS.Head0
import HandS.Head1
import HandS.Head2
import HandS.HeadEnd
import HandS.HeadHook1
import HandS.HeadHook2
import HandS.ForMost
import HandS.Exc
import HandS.Wide
import HandS.WideBits
import HandS.Style
import HandS.TupLe
import HandS.TupAny
import HandS.IsInst
import HandS.Rev
import HandS.Deep
import HandS.Gcd
import HandS.SortInts
import HandS.RaiseMore
import PyProof.SumWalkG
import KE.SortData
import KE.DataMinMax
import PySem.Challenge.RW_spreadline_k43_whole_one_even_round_row
set_option Elab.async false
set_option linter.all false
set_option maxRecDepth 100000
/-! Tc: the tree calculus: trees, outcomes, combinators. -/
namespace Tc
open PySem PySem.Spec L2

/-- a value of the program as a tree -/
inductive T where
  | non
  | bl (b : Bool)
  | int (i : Int)
  | str (x : Str)
  | lst (xs : List T)
  | tup (xs : List T)
  | emp
  | exc (c : Str) (w : T)
  | clo (n : Nat) (xs : List T)
  | ty (n : String)
  | cls (n : Str)
  deriving Inhabited

/-- the slots' values -/
abbrev Sl := List (Option T)
/-- what an expression comes to -/
inductive Out (α : Type) where
  | ok (a : α) (r : Sl)
  | ex (c : Str) (w : T) (r : Sl)
  | no
/-- what a statement comes to -/
inductive So where
  | nx (r : Sl)
  | rt (t : T) (r : Sl)
  | bk (r : Sl)
  | ct (r : Sl)
  | ex (c : Str) (w : T) (r : Sl)
  | no
/-- what a def comes to: its value and what stands in the lists that it may change -/
inductive Res where
  | ok (t : T) (g : List T)
  | ex (c : Str) (w : T)
  | no
abbrev Ec := Sl → Out T
abbrev Ac := Sl → Out (List T)
abbrev Cc := Sl → Out Bool
abbrev Sc := Sl → So
abbrev Fc := List T → Res

@[simp] def Out.bind {α β : Type} : Out α → (α → Sl → Out β) → Out β
  | .ok a r, f => f a r
  | .ex c w r, _ => .ex c w r
  | .no, _ => .no
@[simp] def Out.opt {α : Type} (r : Sl) : Option α → Out α
  | some a => .ok a r
  | none => .no
@[simp] def Out.so {α : Type} : Out α → (α → Sl → So) → So
  | .ok a r, f => f a r
  | .ex c w r, _ => .ex c w r
  | .no, _ => .no

/-! ### the relation of values and trees -/
/-- a list to be read: tracked, locked, or an object of the top -/
def LsAt (K : PySem.W.Frag) (B : Hp) (a : Addr) (vs : List V) : Prop :=
  Rd B a (.lst vs) ∨ ∃ (its : List Value) (n : Nat), K.lookup a = some { cls := .type "list", data := .seq its.toArray n } ∧ its.length ≤ sizeLine ∧ Vals vs its
theorem LsAt.sq {K : PySem.W.Frag} {B : Hp} {a : Addr} {vs : List V} (h : LsAt K B a vs) : SqL K B a vs := by
  rcases h with h | ⟨its, n, h1, h2, h3⟩
  · exact .inl h
  · exact .inr ⟨_, its.toArray, n, h1, rfl, rfl, rfl, by simpa using h2, by simpa using h3⟩
theorem LsAt.mono {K : PySem.W.Frag} {B B' : Hp} {a : Addr} {vs : List V} (e : Same B B') (h : LsAt K B a vs) : LsAt K B' a vs := by
  rcases h with (h | ⟨o, h⟩) | h
  · exact .inl (.inl (e _ _ h))
  · exact .inl (.inr ⟨o, e _ _ h⟩)
  · exact .inr h
theorem LsAt.of {K : PySem.W.Frag} {B : Hp} {a : Addr} {vs : List V} (h : B a = some (.lst vs)) : LsAt K B a vs := .inl (.inl h)
theorem LsAt.obj {a : Addr} {vs : List V} {X : Cx} {pins : List (Addr × Obj)} {σ : L2.St} {H : Hp} {s : Shared} (h : LsAt X.K H a vs) (I : Inv X pins σ H s) :
    ∃ (its : List Value) (n : Nat), Vals vs its ∧ vs.length ≤ sizeLine ∧ s.heap.get? a = some { cls := .type "list", data := .seq its.toArray n } := by
  rcases h with h | ⟨its, n, h1, h2, h3⟩
  · obtain ⟨z, its, n, r, e⟩ := h.ok I.hok
    exact ⟨its, n, r, z, e⟩
  · exact ⟨its, n, h3, by rw [h3.length]; exact h2, I.kIn a _ h1⟩
mutual
inductive Rep (K : PySem.W.Frag) (B : Hp) : V → T → Prop
  | non : Rep K B .non .non
  | bl (b : Bool) : Rep K B (.bl b) (.bl b)
  | int (i : Int) : Rep K B (.int i) (.int i)
  | str (x : Str) : Rep K B (.str x) (.str x)
  | lst {a : Addr} {vs : List V} {ts : List T} : LsAt K B a vs → Reps K B vs ts → Rep K B (.ref a) (.lst ts)
  | tup {a : Addr} {vs : List V} {ts : List T} : SqT K B a vs → Reps K B vs ts → Rep K B (.ref a) (.tup ts)
  | emp {a : Addr} : B a = some (.dK []) → Rep K B (.ref a) .emp
  | ty (n : String) : Rep K B (.ty n) (.ty n)
  | cls (n : Str) : Rep K B (.ref (He.ga K n)) (.cls n)
inductive Reps (K : PySem.W.Frag) (B : Hp) : List V → List T → Prop
  | nil : Reps K B [] []
  | cons {v : V} {vs : List V} {t : T} {ts : List T} : Rep K B v t → Reps K B vs ts → Reps K B (v :: vs) (t :: ts)
end

theorem same_tup {K : PySem.W.Frag} {H H' : Hp} {a : Addr} {xs : List V} (e : Same H H') (h : SqT K H a xs) : SqT K H' a xs := by
  rcases h with (h | ⟨o, h⟩) | h
  · exact .inl (.inl (e _ _ h))
  · exact .inl (.inr ⟨o, e _ _ h⟩)
  · exact .inr h
section
variable {K : PySem.W.Frag} {B B' : Hp}
mutual
theorem Rep.mono (e : Same B B') : ∀ {v : V} {t : T}, Rep K B v t → Rep K B' v t
  | _, _, .non => .non
  | _, _, .bl b => .bl b
  | _, _, .int i => .int i
  | _, _, .str x => .str x
  | _, _, .lst s r => .lst (s.mono e) (Reps.mono e r)
  | _, _, .tup s r => .tup (same_tup e s) (Reps.mono e r)
  | _, _, .emp h => .emp (e _ _ h)
  | _, _, .ty n => .ty n
  | _, _, .cls n => .cls n
theorem Reps.mono (e : Same B B') : ∀ {vs : List V} {ts : List T}, Reps K B vs ts → Reps K B' vs ts
  | _, _, .nil => .nil
  | _, _, .cons r rs => .cons (Rep.mono e r) (Reps.mono e rs)
end
theorem Reps.length : ∀ {vs : List V} {ts : List T}, Reps K B vs ts → vs.length = ts.length
  | _, _, .nil => rfl
  | _, _, .cons _ rs => congrArg Nat.succ (Reps.length rs)
theorem Reps.append : ∀ {vs : List V} {ts : List T} {vs' : List V} {ts' : List T}, Reps K B vs ts → Reps K B vs' ts' → Reps K B (vs ++ vs') (ts ++ ts')
  | _, _, _, _, .nil, q => q
  | _, _, _, _, .cons r rs, q => .cons r (Reps.append rs q)
theorem Reps.get : ∀ {vs : List V} {ts : List T} {i : Nat} {t : T}, Reps K B vs ts → ts[i]? = some t → ∃ v, vs[i]? = some v ∧ Rep K B v t
  | _, _, _, _, .nil, e => by simp at e
  | _, _, 0, _, .cons r _, e => by simp at e; subst e; exact ⟨_, rfl, r⟩
  | _, _, i + 1, _, .cons _ rs, e => by
    obtain ⟨v, h1, h2⟩ := Reps.get (i := i) rs (by simpa using e)
    exact ⟨v, by simpa using h1, h2⟩
theorem Reps.getV : ∀ {vs : List V} {ts : List T} {i : Nat} {v : V}, Reps K B vs ts → vs[i]? = some v → ∃ t, ts[i]? = some t ∧ Rep K B v t
  | _, _, _, _, .nil, e => by simp at e
  | _, _, 0, _, .cons r _, e => by simp at e; subst e; exact ⟨_, rfl, r⟩
  | _, _, i + 1, _, .cons _ rs, e => by
    obtain ⟨v, h1, h2⟩ := Reps.getV (i := i) rs (by simpa using e)
    exact ⟨v, by simpa using h1, h2⟩
theorem Reps.set : ∀ {vs : List V} {ts : List T} {v : V} {t : T} (i : Nat), Reps K B vs ts → Rep K B v t → Reps K B (vs.set i v) (ts.set i t)
  | _, _, _, _, _, .nil, _ => .nil
  | _, _, _, _, 0, .cons _ rs, q => .cons q rs
  | _, _, _, _, i + 1, .cons r rs, q => .cons r (Reps.set i rs q)
theorem Reps.take : ∀ {vs : List V} {ts : List T} (n : Nat), Reps K B vs ts → Reps K B (vs.take n) (ts.take n)
  | _, _, 0, _ => .nil
  | _, _, _ + 1, .nil => .nil
  | _, _, n + 1, .cons r rs => .cons r (Reps.take n rs)
theorem Reps.drop : ∀ {vs : List V} {ts : List T} (n : Nat), Reps K B vs ts → Reps K B (vs.drop n) (ts.drop n)
  | _, _, 0, r => r
  | _, _, _ + 1, .nil => .nil
  | _, _, n + 1, .cons _ rs => Reps.drop n rs
theorem Reps.ints : ∀ (ns : List Int), Reps K B (ns.map V.int) (ns.map T.int)
  | [] => .nil
  | n :: ns => .cons (.int n) (Reps.ints ns)
end

/-! ### a pure step: nothing is changed, the view grows by what is new -/
structure Pu (H B H' B' : Hp) : Prop where
  bb : Same B B'
  sub : Same B' H'
  nb : ∀ a o, B' a = some o → B a = some o ∨ H a = none
  hh : Same H H'
theorem Pu.refl {H B : Hp} (s : Same B H) : Pu H B H B := ⟨.refl _, s, fun _ _ e => .inl e, .refl _⟩
theorem Pu.trans {H B H1 B1 H2 B2 : Hp} (a : Pu H B H1 B1) (b : Pu H1 B1 H2 B2) : Pu H B H2 B2 :=
  ⟨a.bb.trans b.bb, b.sub, fun x o e => (b.nb x o e).elim (a.nb x o) fun n => .inr (a.hh.free n), a.hh.trans b.hh⟩
theorem Pu.new {H B : Hp} {p : Addr} {o : HO} (s : Same B H) (n : H p = none) : Pu H B (upd H p o) (upd B p o) := by
  refine ⟨fun b u e => ?_, fun b u e => ?_, fun b u e => ?_, fun b u e => ?_⟩
  · rw [upd_ne (ne_of_none e (s.free n))]; exact e
  · by_cases hb : b = p
    · subst hb; rw [upd_same] at e ⊢; exact e
    · rw [upd_ne hb] at e ⊢; exact s _ _ e
  · by_cases hb : b = p
    · subst hb; exact .inr n
    · rw [upd_ne hb] at e; exact .inl e
  · rw [upd_ne (ne_of_none e n)]; exact e
/-- a new object that stays out of the view -/
theorem Pu.hid {H B : Hp} {p : Addr} {o : HO} (s : Same B H) (n : H p = none) : Pu H B (upd H p o) B := by
  refine ⟨.refl _, fun b u e => ?_, fun _ _ e => .inl e, fun b u e => ?_⟩
  · rw [upd_ne (ne_of_none (s _ _ e) n)]; exact s _ _ e
  · rw [upd_ne (ne_of_none e n)]; exact e

/-! ### a step that may change what is owned -/
structure Grow (O : Addr → Prop) (H B : Hp) (O' : Addr → Prop) (H' B' : Hp) : Prop where
  bb : Same B B'
  nb : ∀ a o, B' a = some o → B a = some o ∨ H a = none ∨ O a
  hh : ∀ a o, H a = some o → ¬ O a → H' a = some o
  oo : ∀ a, O' a → O a ∨ H a = none
theorem Grow.refl {O : Addr → Prop} {H B : Hp} : Grow O H B O H B := ⟨.refl _, fun _ _ e => .inl e, fun _ _ e _ => e, fun _ h => .inl h⟩
theorem Grow.of_pu {O : Addr → Prop} {H B H' B' : Hp} (p : Pu H B H' B') : Grow O H B O H' B' :=
  ⟨p.bb, fun a o e => (p.nb a o e).elim .inl fun n => .inr (.inl n), fun a o e _ => p.hh a o e, fun _ h => .inl h⟩
theorem Grow.trans {O O1 O2 : Addr → Prop} {H B H1 B1 H2 B2 : Hp} (x : Grow O H B O1 H1 B1) (y : Grow O1 H1 B1 O2 H2 B2) : Grow O H B O2 H2 B2 := by
  have key : ∀ a, H1 a = none → H a = none ∨ O a := fun a n => by
    cases e : H a with
    | none => exact .inl rfl
    | some o =>
      refine .inr (Classical.byContradiction fun q => ?_)
      rw [x.hh a o e q] at n; cases n
  refine ⟨x.bb.trans y.bb, fun a o e => ?_, fun a o e n => ?_, fun a h => ?_⟩
  · rcases y.nb a o e with q | q | q
    · exact x.nb a o q
    · exact .inr (key a q)
    · rcases x.oo a q with z | z
      · exact .inr (.inr z)
      · exact .inr (.inl z)
  · refine y.hh a o (x.hh a o e n) fun q => ?_
    rcases x.oo a q with z | z
    · exact n z
    · rw [e] at z; cases z
  · rcases y.oo a h with q | q
    · exact x.oo a q
    · exact (key a q).symm

/-! ### a frame: slots, heap, view, what is owned -/
/-- the list that the caller lends (in slot 0), the number of slots -/
structure GI where
  g : Option Addr
  n : Nat
structure Frm (K : PySem.W.Frag) (G : GI) (P : List Nat) (r : Sl) (σ : St) (O : Addr → Prop) (H B : Hp) : Prop where
  sub : Same B H
  out : ∀ a, O a → B a = none
  liv : ∀ a, O a → H a ≠ none
  var : ∀ i t, r[i]? = some (some t) → i ∉ P → ∃ v, σ[i]? = some (some v) ∧ Rep K B v t
  prv : ∀ i, i ∈ P → ∃ p vs ts, r[i]? = some (some (.lst ts)) ∧ σ[i]? = some (some (.ref p)) ∧ O p ∧ H p = some (.lst vs) ∧ Reps K B vs ts
  sep : ∀ i j p, i ∈ P → j ∈ P → σ[i]? = some (some (.ref p)) → σ[j]? = some (some (.ref p)) → i = j
  len : r.length = σ.length
  siz : r.length = G.n
  inn : ∀ g, G.g = some g → 0 ∈ P ∧ σ[0]? = some (some (.ref g))
section
variable {K : PySem.W.Frag} {G : GI} {P : List Nat} {r : Sl} {σ : St} {O : Addr → Prop} {H B H' B' : Hp}
theorem Frm.pu (f : Frm K G P r σ O H B) (p : Pu H B H' B') : Frm K G P r σ O H' B' := by
  refine ⟨p.sub, fun a h => ?_, fun a h => ?_, fun i t e n => ?_, fun i h => ?_, f.sep, f.len, f.siz, f.inn⟩
  · cases e : B' a with
    | none => rfl
    | some o =>
      rcases p.nb a o e with q | q
      · rw [f.out a h] at q; cases q
      · exact absurd q (f.liv a h)
  · cases e : H a with
    | none => exact absurd e (f.liv a h)
    | some o => rw [p.hh a o e]; exact fun z => nomatch z
  · obtain ⟨v, h1, h2⟩ := f.var i t e n
    exact ⟨v, h1, h2.mono p.bb⟩
  · obtain ⟨q, vs, ts, h1, h2, h3, h4, h5⟩ := f.prv i h
    exact ⟨q, vs, ts, h1, h2, h3, p.hh _ _ h4, h5.mono p.bb⟩
end
end Tc

/-! Tc: the judgements, the rules of expressions. -/
namespace Tc
open PySem PySem.Spec L2

/-- where code stands: what all contexts of a def's body (of a comprehension's block) share -/
structure SC where
  prog : Program
  w : World
  K : PySem.W.Frag
  mg : Str → Option Value
  base : Heap
  N : List Str
  sc : Scope
  k : Nat
  W : WX
  G : GI
  st : Str → Bool := fun _ => true
structure SC.Is (c : SC) (X : Cx) : Prop where
  prog : X.prog = c.prog
  w : X.w = c.w
  K : X.K = c.K
  mg : X.mg = c.mg
  base : X.base = c.base
  N : X.N = c.N
  nd : c.N.Nodup
  sc : X.env.scope = c.sc
  calm : X.calm = true
  room : Room c.k X.A
  grd : X.A.guards = some []
  tk : Takes X c.W
  po : PassesOwn (model X.prog X.w) X.A X.env X.xe
  fn : ∀ x, c.st x = true → Loc X.env.scope x → X.fn x = true ∨ X.env.scope.names.lookup x = some .local

/-- what is wanted behind an outcome -/
def PK {α : Type} (c : SC) (P : List Nat) (σ : L2.St) (O : Addr → Prop) (H B : Hp) (good : α → Sl → (Addr → Prop) → Hp → Hp → Prop) : Out α → Prop
  | .ok a r => ∀ O' H' B', Frm c.K c.G P r σ O' H' B' → Grow O H B O' H' B' → good a r O' H' B'
  | .ex n w r => ∀ v d O' H' B', Frm c.K c.G P r σ O' H' B' → Grow O H B O' H' B' → H' d = some (.xd [("value", v)]) → Rep c.K B' v w → c.W (.ref (He.ga c.K n)) (some d) σ H'
  | .no => False
section
variable {α β : Type} {c : SC} {P : List Nat} {σ : L2.St} {O O1 : Addr → Prop} {H B H1 B1 : Hp} {good good' : α → Sl → (Addr → Prop) → Hp → Hp → Prop} {x : Out α}
theorem PK.later (h : PK c P σ O H B good x) (g : Grow O H B O1 H1 B1) : PK c P σ O1 H1 B1 good x := by
  cases x with
  | ok a r => exact fun O' H' B' f g' => h O' H' B' f (g.trans g')
  | ex n w r => exact fun v d O' H' B' f g' => h v d O' H' B' f (g.trans g')
  | no => exact h
theorem PK.imp (h : PK c P σ O H B good x) (i : ∀ a r O' H' B', Frm c.K c.G P r σ O' H' B' → Grow O H B O' H' B' → good a r O' H' B' → good' a r O' H' B') : PK c P σ O H B good' x := by
  cases x with
  | ok a r => exact fun O' H' B' f g => i a r O' H' B' f g (h O' H' B' f g)
  | ex n w r => exact h
  | no => exact h
theorem PK.impE (h : PK c P σ O H B good x) (i : ∀ a r O' H' B', x = .ok a r → Frm c.K c.G P r σ O' H' B' → Grow O H B O' H' B' → good a r O' H' B' → good' a r O' H' B') : PK c P σ O H B good' x := by
  cases x with
  | ok a r => exact fun O' H' B' f g => i a r O' H' B' rfl f g (h O' H' B' f g)
  | ex n w r => exact h
  | no => exact h
theorem PK.bind {G : α → Sl → Out β} {good : β → Sl → (Addr → Prop) → Hp → Hp → Prop} (h : PK c P σ O H B good (x.bind G)) : PK c P σ O H B (fun a r O1 H1 B1 => PK c P σ O1 H1 B1 good (G a r)) x := by
  cases x with
  | ok a r => exact fun O' H' B' f g => PK.later (show PK c P σ O H B good (G a r) from h) g
  | ex n w r => exact h
  | no => exact h
theorem PK.bind0 {G : α → Sl → Out β} {good : β → Sl → (Addr → Prop) → Hp → Hp → Prop} (h : PK c P σ O H B good (x.bind G)) : PK c P σ O H B (fun a r _ _ _ => PK c P σ O H B good (G a r)) x := by
  cases x with
  | ok a r => exact fun O' H' B' f g => h
  | ex n w r => exact h
  | no => exact h
theorem PK.at {a : α} {r : Sl} (h : PK c P σ O H B good (.ok a r)) (f : Frm c.K c.G P r σ O H B) : good a r O H B := h O H B f .refl
theorem PK.pu {a : α} {r : Sl} (h : PK c P σ O H B good (.ok a r)) (f : Frm c.K c.G P r σ O H B) (p : Pu H B H1 B1) : good a r O H1 B1 := h O H1 B1 (f.pu p) (.of_pu p)
theorem PK.opt {o : Option α} {r : Sl} (h : PK c P σ O H B good (Out.opt r o)) : ∃ a, o = some a ∧ PK c P σ O H B good (.ok a r) := by
  cases o with
  | none => exact (show False from h).elim
  | some a => exact ⟨a, rfl, h⟩
end

abbrev GoodT (c : SC) (Q : VK) : T → Sl → (Addr → Prop) → Hp → Hp → Prop := fun t _ _ H B => ∀ v, Rep c.K B v t → Q v H
abbrev GoodA (c : SC) (Q : List V → Hp → Prop) : List T → Sl → (Addr → Prop) → Hp → Hp → Prop := fun ts _ _ H B => ∀ vs, Reps c.K B vs ts → Q vs H
abbrev GoodC (Q : Bool → Hp → Prop) : Bool → Sl → (Addr → Prop) → Hp → Hp → Prop := fun b _ _ H _ => Q b H
/-- a new list, owned, in no slot -/
abbrev GoodF (c : SC) (P : List Nat) (σ : L2.St) (Q : VK) : T → Sl → (Addr → Prop) → Hp → Hp → Prop := fun t _ O H B =>
  ∀ p vs ts, t = .lst ts → O p → (∀ i ∈ P, σ[i]? ≠ some (some (.ref p))) → H p = some (.lst vs) → Reps c.K B vs ts → Q (.ref p) H

structure EJ (c : SC) (P : List Nat) (e : Expr) (F : Ec) : Prop where
  ex : ∃ t : TE, (∀ X, c.Is X → PE X e t) ∧ ∀ r σ O H B Q, Frm c.K c.G P r σ O H B → PK c P σ O H B (GoodT c Q) (F r) → t σ H Q
structure FJ (c : SC) (P : List Nat) (e : Expr) (F : Ec) : Prop where
  ex : ∃ t : TE, (∀ X, c.Is X → PE X e t) ∧ ∀ r σ O H B Q, Frm c.K c.G P r σ O H B → PK c P σ O H B (GoodF c P σ Q) (F r) → t σ H Q
structure CJ (c : SC) (P : List Nat) (e : Expr) (F : Cc) : Prop where
  ex : ∃ t : TT, (∀ X, c.Is X → PT X e t) ∧ ∀ r σ O H B Q, Frm c.K c.G P r σ O H B → PK c P σ O H B (GoodC Q) (F r) → t σ H Q
/-- and, or: whatever the whole is -/
structure WJ (c : SC) (P : List Nat) (e : Expr) (F : Cc) : Prop where
  ex : ∃ t : TT, (∀ X, c.Is X → PW X e t) ∧ ∀ r σ O H B Q, Frm c.K c.G P r σ O H B → PK c P σ O H B (GoodC Q) (F r) → t σ H Q
structure AJ (c : SC) (P : List Nat) (es : List Expr) (F : Ac) : Prop where
  ex : ∃ t : TA, (∀ X, c.Is X → PA X es t) ∧ ∀ r σ O H B Q, Frm c.K c.G P r σ O H B → PK c P σ O H B (GoodA c Q) (F r) → t σ H Q
  len : ∀ r ts r', F r = .ok ts r' → ts.length = es.length

/-! ### the combinators -/
def cVar (i : Nat) : Ec := fun r => match r[i]? with
  | some (some t) => .ok t r
  | _ => .no
def cK (t : T) : Ec := fun r => .ok t r
def cBin (f : T → T → Option T) (a b : Ec) : Ec := fun r => (a r).bind fun x r1 => (b r1).bind fun y r2 => Out.opt r2 (f x y)
def cUn (f : T → Option T) (a : Ec) : Ec := fun r => (a r).bind fun x r1 => Out.opt r1 (f x)
def cApp (f : List T → Option T) (a : Ac) : Ec := fun r => (a r).bind fun xs r1 => Out.opt r1 (f xs)
def cNil : Ac := fun r => .ok [] r
def cCons (a : Ec) (b : Ac) : Ac := fun r => (a r).bind fun x r1 => (b r1).bind fun xs r2 => .ok (x :: xs) r2
def cIf (c : Cc) (a b : Ec) : Ec := fun r => (c r).bind fun z r1 => if z = true then a r1 else b r1
/-- a value that must be a truth value, as a test; a test as a value -/
def cB (a : Ec) : Cc := fun r => (a r).bind fun x r1 => match x with
  | .bl b => .ok b r1
  | _ => .no
def cT (f : T → Option Bool) (a : Ec) : Cc := fun r => (a r).bind fun x r1 => Out.opt r1 (f x)
def cNotC (a : Cc) : Cc := fun r => (a r).bind fun x r1 => .ok (!x) r1
def cAndC (a b : Cc) : Cc := fun r => (a r).bind fun x r1 => if x = true then b r1 else .ok false r1
def cOrC (a b : Cc) : Cc := fun r => (a r).bind fun x r1 => if x = true then .ok true r1 else b r1
def cAndV (a b : Ec) : Ec := fun r => (a r).bind fun x r1 => match x with
  | .bl z => if z = true then b r1 else .ok (.bl false) r1
  | _ => .no
def cOrV (a b : Ec) : Ec := fun r => (a r).bind fun x r1 => match x with
  | .bl z => if z = true then .ok (.bl true) r1 else b r1
  | _ => .no
def cNotV (a : Ec) : Ec := fun r => (a r).bind fun x r1 => match x with
  | .bl z => .ok (.bl (!z)) r1
  | _ => .no
/-- a op b op' c -/
def cChain (f g : T → T → Option T) (a b d : Ec) : Ec := fun r => (a r).bind fun x r1 => (b r1).bind fun y r2 => match f x y with
  | some (.bl z) => if z = true then (d r2).bind fun u r3 => Out.opt r3 (g y u) else .ok (.bl false) r2
  | _ => .no

/-- a rule by values says what the tree's function says -/
def Sd2 (K : PySem.W.Frag) (r : R2) (f : T → T → Option T) : Prop :=
  ∀ (H B : Hp) (x y : V) (t u z : T) (Q : VK), Same B H → Rep K B x t → Rep K B y u → f t u = some z → (∀ v H' B', Pu H B H' B' → Rep K B' v z → Q v H') → r x y H Q
def Sd1 (K : PySem.W.Frag) (r : V → Hp → VK → Prop) (f : T → Option T) : Prop :=
  ∀ (H B : Hp) (x : V) (t z : T) (Q : VK), Same B H → Rep K B x t → f t = some z → (∀ v H' B', Pu H B H' B' → Rep K B' v z → Q v H') → r x H Q
def SdA (K : PySem.W.Frag) (r : List V → Hp → VK → Prop) (f : List T → Option T) : Prop :=
  ∀ (H B : Hp) (xs : List V) (ts : List T) (z : T) (Q : VK), Same B H → Reps K B xs ts → f ts = some z → (∀ v H' B', Pu H B H' B' → Rep K B' v z → Q v H') → r xs H Q
/-- the same where a new list comes -/
def Sf2 (K : PySem.W.Frag) (r : R2) (f : T → T → Option T) : Prop :=
  ∀ (H B : Hp) (x y : V) (t u z : T) (Q : VK), Same B H → Rep K B x t → Rep K B y u → f t u = some z → (∀ p vs ts H', z = .lst ts → Pu H B H' B → H p = none → H' p = some (.lst vs) → Reps K B vs ts → Q (.ref p) H') → r x y H Q
def SfA (K : PySem.W.Frag) (r : List V → Hp → VK → Prop) (f : List T → Option T) : Prop :=
  ∀ (H B : Hp) (xs : List V) (ts : List T) (z : T) (Q : VK), Same B H → Reps K B xs ts → f ts = some z → (∀ p vs ts H', z = .lst ts → Pu H B H' B → H p = none → H' p = some (.lst vs) → Reps K B vs ts → Q (.ref p) H') → r xs H Q

section
variable {c : SC} {P : List Nat} {σ : L2.St} {a b d e : Expr} {es : List Expr} {Fa Fb Fd F : Ec} {Ca Cb : Cc} {A : Ac} {pos : Pos} {rest : List Expr}

theorem Frm.own {O : Addr → Prop} {H B H' : Hp} {r : Sl} {K : PySem.W.Frag} {G : GI} {p : Addr} (f : Frm K G P r σ O H B) (u : Pu H B H' B) (n : H p = none) (h : ∃ o, H' p = some o) : Frm K G P r σ (fun a => O a ∨ a = p) H' B := by
  have f' := f.pu u
  refine ⟨f'.sub, fun a h => ?_, fun a h' => ?_, f'.var, fun i hi => ?_, f'.sep, f'.len, f'.siz, f'.inn⟩
  · rcases h with h | h
    · exact f'.out a h
    · subst h; exact f.sub.free n
  · rcases h' with h' | h'
    · exact f'.liv a h'
    · subst h'; obtain ⟨o, e⟩ := h; rw [e]; exact fun z => nomatch z
  · obtain ⟨q, vs, ts, h1, h2, h3, h4, h5⟩ := f'.prv i hi
    exact ⟨q, vs, ts, h1, h2, .inl h3, h4, h5⟩
theorem Grow.own {O : Addr → Prop} {H B H' : Hp} {p : Addr} (u : Pu H B H' B) (n : H p = none) : Grow O H B (fun a => O a ∨ a = p) H' B :=
  ⟨u.bb, fun a o e => .inl e, fun a o e _ => u.hh a o e, fun a h => h.elim .inl fun z => .inr (by rw [z]; exact n)⟩
/-- what is owned in no slot is given to the view -/
theorem Frm.give {O : Addr → Prop} {H B : Hp} {r : Sl} {K : PySem.W.Frag} {G : GI} {p : Addr} {vs : List V} (f : Frm K G P r σ O H B) (hO : O p) (hs : ∀ i ∈ P, σ[i]? ≠ some (some (.ref p))) (hp : H p = some (.lst vs)) :
    Frm K G P r σ (fun a => O a ∧ a ≠ p) H (upd B p (.lst vs)) ∧ Grow O H B (fun a => O a ∧ a ≠ p) H (upd B p (.lst vs)) ∧ Same B (upd B p (.lst vs)) := by
  have hB := f.out p hO
  have sm : Same B (upd B p (.lst vs)) := fun b u e => by rw [upd_ne (ne_of_none e hB)]; exact e
  refine ⟨⟨fun b u e => ?_, fun a h => ?_, fun a h => f.liv a h.1, fun i t e n => ?_, fun i hi => ?_, f.sep, f.len, f.siz, f.inn⟩, ⟨sm, fun a o e => ?_, fun _ _ e _ => e, fun a h => .inl h.1⟩, sm⟩
  · by_cases hb : b = p
    · subst hb; rw [upd_same] at e; rw [hp]; exact e
    · rw [upd_ne hb] at e; exact f.sub _ _ e
  · rw [upd_ne h.2]; exact f.out a h.1
  · obtain ⟨v, h1, h2⟩ := f.var i t e n
    exact ⟨v, h1, h2.mono sm⟩
  · obtain ⟨q, vs, ts, h1, h2, h3, h4, h5⟩ := f.prv i hi
    exact ⟨q, vs, ts, h1, h2, ⟨h3, fun z => hs i hi (by rw [h2, z])⟩, h4, h5.mono sm⟩
  · by_cases hb : a = p
    · subst hb; exact .inr (.inr hO)
    · rw [upd_ne hb] at e; exact .inl e

theorem FJ.ej (h : FJ c P e F) : EJ c P e F := by
  obtain ⟨t, h1, h2⟩ := h.ex
  refine ⟨t, h1, fun r σ O H B Q f q => h2 r σ O H B Q f ?_⟩
  cases z : F r with
  | ok t' r' =>
    rw [z] at q
    refine fun O' H' B' f' g p vs ts e hO hs hp rp => ?_
    subst e
    obtain ⟨x1, x2, x3⟩ := f'.give hO hs hp
    exact q _ H' _ x1 (g.trans x2) _ (.lst (.of upd_same) (rp.mono x3))
  | ex n w r' => rw [z] at q; exact q
  | no => rw [z] at q; exact q

/-! ### names, constants -/
theorem ej_var (i : Nat) {x : Str} (hN : c.N[i]? = some x := by rfl) (hv : Vis c.sc x := by first | exact Or.inl rfl | exact Or.inr (Or.inl rfl) | exact Or.inr (Or.inr rfl)) (hP : i ∉ P := by decide)
    (hd : (x == ("__debug__" : Str)) = false := by decide) (hcd : (x == ("__classdict__" : Str)) = false := by decide) : EJ c P (.Name x pos) (cVar i) := by
  refine ⟨tVar i, fun X h => pe_var (by rw [h.N]; exact hN) (by rw [h.sc]; exact hv) hd hcd, fun r σ O H B Q f q => ?_⟩
  unfold cVar at q
  split at q
  · rename_i t e
    obtain ⟨v, h1, h2⟩ := f.var i t e hP
    exact ⟨v, h1, q.at f v h2⟩
  · exact (show False from q).elim
theorem ej_int {i : Int} {j : Nat} : EJ c P (.Constant (.int i) j pos) (cK (.int i)) := ⟨tC (.int i), fun X h => pe_int, fun r σ O H B Q f q => PK.at (show PK _ _ _ _ _ _ _ (.ok _ _) from q) f _ (.int i)⟩
theorem ej_bl {b : Bool} {j : Nat} : EJ c P (.Constant (.bool b) j pos) (cK (.bl b)) := ⟨tC (.bl b), fun X h => pe_bl, fun r σ O H B Q f q => PK.at (show PK _ _ _ _ _ _ _ (.ok _ _) from q) f _ (.bl b)⟩
theorem ej_non {j : Nat} : EJ c P (.Constant .none j pos) (cK .non) := ⟨tC .non, fun X h => pe_non, fun r σ O H B Q f q => PK.at (show PK _ _ _ _ _ _ _ (.ok _ _) from q) f _ .non⟩
theorem ej_str {x : Str} {j : Nat} : EJ c P (.Constant (.str x) j pos) (cK (.str x)) := ⟨tC (.str x), fun X h => pe_str, fun r σ O H B Q f q => PK.at (show PK _ _ _ _ _ _ _ (.ok _ _) from q) f _ (.str x)⟩
/-- a constant of the module: an int, a text -/
theorem ej_glob {x : Str} {v : V} {u : Value} {t : T} (hm : c.mg x = some u) (hr : RelV v u) (ht : ∀ K B, Rep K B v t) (hg : c.sc.names.lookup x = some .globalImplicit := by rfl) (hd : (x == ("__debug__" : Str)) = false := by decide) : EJ c P (.Name x pos) (cK t) :=
  ⟨tC v, fun X h => pe_glob (by show X.env.scope.names.lookup x = _; rw [h.sc]; exact hg) (by rw [h.mg]; exact hm) hr hd, fun r σ O H B Q f q => PK.at (show PK _ _ _ _ _ _ _ (.ok _ _) from q) f _ (ht _ _)⟩

/-! ### argument lists -/
theorem aj_nil : AJ c P [] cNil := ⟨⟨tNil, fun X h => pa_nil, fun r σ O H B Q f q => PK.at (show PK _ _ _ _ _ _ _ (.ok _ _) from q) f _ .nil⟩, fun r ts r' e => by cases e; rfl⟩
theorem aj_cons (ha : EJ c P e F) (hb : AJ c P es A) (hs : ∀ env, starEach (e :: es) env = (false, eval e env) :: starEach es env := by intro _; rfl) : AJ c P (e :: es) (cCons F A) := by
  obtain ⟨ta, pa, ra⟩ := ha.ex
  obtain ⟨tb, pb, rb⟩ := hb.ex
  refine ⟨⟨tCons ta tb, fun X h => pa_cons (pa X h) (pb X h) (hs _), fun r σ O H B Q f q => ?_⟩, fun r ts r' q => ?_⟩
  rotate_left
  · unfold cCons at q
    cases z : F r with
    | ok t r1 =>
      rw [z] at q
      cases y : A r1 with
      | ok us r2 =>
        simp only [Out.bind, y] at q
        cases q
        rw [List.length_cons, List.length_cons, hb.len _ _ _ y]
      | ex n w r2 => simp only [Out.bind, y] at q; cases q
      | no => simp only [Out.bind, y] at q; cases q
    | ex n w r1 => rw [z] at q; cases q
    | no => rw [z] at q; cases q
  refine ra r σ O H B _ f ((PK.bind q).imp fun t r1 O1 H1 B1 f1 g1 q1 v rv => ?_)
  refine rb r1 σ O1 H1 B1 _ f1 ((PK.bind q1).imp fun ts r2 O2 H2 B2 f2 g2 q2 vs rvs => ?_)
  exact PK.at (show PK _ _ _ _ _ _ _ (.ok _ _) from q2) f2 _ (.cons (rv.mono g2.bb) rvs)

/-! ### operators -/
theorem ej_bin {op : Operator} {r2 : R2} {f : T → T → Option T} (ho : ∀ X, c.Is X → OpR X (binaryOp op) r2) (hf : Sd2 c.K r2 f) (ha : EJ c P a Fa) (hb : EJ c P b Fb) : EJ c P (.BinOp a op b pos) (cBin f Fa Fb) := by
  obtain ⟨ta, pa, ra⟩ := ha.ex
  obtain ⟨tb, pb, rb⟩ := hb.ex
  refine ⟨tOp r2 ta tb, fun X h => pe_op (ho X h) (pa X h) (pb X h), fun r σ O H B Q fr q => ?_⟩
  refine ra r σ O H B _ fr ((PK.bind q).imp fun t r1 O1 H1 B1 f1 g1 q1 v rv => ?_)
  refine rb r1 σ O1 H1 B1 _ f1 ((PK.bind q1).imp fun u r2 O2 H2 B2 f2 g2 q2 w rw' => ?_)
  obtain ⟨z, ez, q3⟩ := PK.opt q2
  exact hf H2 B2 v w t u z Q f2.sub (rv.mono g2.bb) rw' ez fun v' H' B' p rp => q3.pu f2 p v' rp
theorem fj_bin {op : Operator} {r2 : R2} {f : T → T → Option T} (ho : ∀ X, c.Is X → OpR X (binaryOp op) r2) (hf : Sf2 c.K r2 f) (ha : EJ c P a Fa) (hb : EJ c P b Fb) : FJ c P (.BinOp a op b pos) (cBin f Fa Fb) := by
  obtain ⟨ta, pa, ra⟩ := ha.ex
  obtain ⟨tb, pb, rb⟩ := hb.ex
  refine ⟨tOp r2 ta tb, fun X h => pe_op (ho X h) (pa X h) (pb X h), fun r σ O H B Q fr q => ?_⟩
  refine ra r σ O H B _ fr ((PK.bind q).imp fun t r1 O1 H1 B1 f1 g1 q1 v rv => ?_)
  refine rb r1 σ O1 H1 B1 _ f1 ((PK.bind q1).imp fun u r2 O2 H2 B2 f2 g2 q2 w rw' => ?_)
  obtain ⟨z, ez, q3⟩ := PK.opt q2
  refine hf H2 B2 v w t u z Q f2.sub (rv.mono g2.bb) rw' ez fun p vs ts H' e pu n hp rp => ?_
  refine q3 _ H' B2 (f2.own pu n ⟨_, hp⟩) (.own pu n) p vs ts e (.inr rfl) (fun i hi z => ?_) hp rp
  obtain ⟨p', _, _, _, h2, _, h4, _⟩ := f2.prv i hi
  rw [h2] at z
  cases z
  rw [n] at h4; cases h4
theorem ej_un {op : UnaryOp} {r1 : V → Hp → VK → Prop} {f : T → Option T} (ho : ∀ X, c.Is X → UnR X (unaryOp op) r1) (hf : Sd1 c.K r1 f) (ha : EJ c P a Fa) : EJ c P (.UnaryOp op a pos) (cUn f Fa) := by
  obtain ⟨ta, pa, ra⟩ := ha.ex
  refine ⟨tUn r1 ta, fun X h => pe_un (ho X h) (pa X h), fun r σ O H B Q fr q => ?_⟩
  refine ra r σ O H B _ fr ((PK.bind q).imp fun t r1 O1 H1 B1 f1 g1 q1 v rv => ?_)
  obtain ⟨z, ez, q3⟩ := PK.opt q1
  exact hf H1 B1 v t z Q f1.sub rv ez fun v' H' B' p rp => q3.pu f1 p v' rp
theorem ej_cmp {op : CmpOp} {r2 : R2} {f : T → T → Option T} (ho : ∀ X, c.Is X → OpR X (compareOp op) r2) (hf : Sd2 c.K r2 f) (ha : EJ c P a Fa) (hb : EJ c P b Fb) (hm : behindInMarks op b = false) : EJ c P (.Compare a [op] [b] pos) (cBin f Fa Fb) := by
  obtain ⟨ta, pa, ra⟩ := ha.ex
  obtain ⟨tb, pb, rb⟩ := hb.ex
  refine ⟨tOp r2 ta tb, fun X h => pe_cmpR (ho X h) (pa X h) (pb X h) hm, fun r σ O H B Q fr q => ?_⟩
  refine ra r σ O H B _ fr ((PK.bind q).imp fun t r1 O1 H1 B1 f1 g1 q1 v rv => ?_)
  refine rb r1 σ O1 H1 B1 _ f1 ((PK.bind q1).imp fun u r2 O2 H2 B2 f2 g2 q2 w rw' => ?_)
  obtain ⟨z, ez, q3⟩ := PK.opt q2
  exact hf H2 B2 v w t u z Q f2.sub (rv.mono g2.bb) rw' ez fun v' H' B' p rp => q3.pu f2 p v' rp
theorem Rep.bl_inv {K : PySem.W.Frag} {B : Hp} {v : V} {b : Bool} (h : Rep K B v (.bl b)) : v = .bl b := by cases h; rfl
/-- a comparison as a test -/
theorem cj_cmp {op : CmpOp} {r2 : R2} {f : T → T → Option T} (ho : ∀ X, c.Is X → OpR X (compareOp op) r2) (hf : Sd2 c.K r2 f) (ha : EJ c P a Fa) (hb : EJ c P b Fb) (hm : behindInMarks op b = false) : CJ c P (.Compare a [op] [b] pos) (cB (cBin f Fa Fb)) := by
  obtain ⟨ta, pa, ra⟩ := ha.ex
  obtain ⟨tb, pb, rb⟩ := hb.ex
  refine ⟨tTest (tOp r2 ta tb), fun X h => pt_cmpR (ho X h) (pa X h) (pb X h) hm, fun r σ O H B Q fr q => ?_⟩
  refine ra r σ O H B _ fr ((PK.bind (PK.bind q)).imp fun t r1 O1 H1 B1 f1 g1 q1 v rv => ?_)
  refine rb r1 σ O1 H1 B1 _ f1 ((PK.bind q1).imp fun u r2 O2 H2 B2 f2 g2 q2 w rw' => ?_)
  obtain ⟨z, ez, q3⟩ := PK.opt q2
  refine hf H2 B2 v w t u z _ f2.sub (rv.mono g2.bb) rw' ez fun v' H' B' p rp => ?_
  have q4 := q3.pu f2 p
  cases z with
  | bl k =>
    cases rp.bl_inv
    exact ⟨k, rfl, PK.at q4 (f2.pu p)⟩
  | _ => exact (show False from q4).elim
theorem ej_chain {op op' : CmpOp} {r2 r2' : R2} {f g : T → T → Option T} (ho : ∀ X, c.Is X → OpR X (compareOp op) r2) (hf : Sd2 c.K r2 f) (ho' : ∀ X, c.Is X → OpR X (compareOp op') r2') (hg : Sd2 c.K r2' g)
    (ha : EJ c P a Fa) (hb : EJ c P b Fb) (hd : EJ c P d Fd) (hm : lastMarks [op, op'] [b, d] = false := by with_unfolding_all rfl) : EJ c P (.Compare a [op, op'] [b, d] pos) (cChain f g Fa Fb Fd) := by
  obtain ⟨ta, pa, ra⟩ := ha.ex
  obtain ⟨tb, pb, rb⟩ := hb.ex
  obtain ⟨td, pd, rd⟩ := hd.ex
  refine ⟨tChain r2 r2' ta tb td, fun X h => pe_chain (ho X h) (ho' X h) (pa X h) (pb X h) (pd X h) hm, fun r σ O H B Q fr q => ?_⟩
  refine ra r σ O H B _ fr ((PK.bind q).imp fun t r1 O1 H1 B1 f1 g1 q1 v rv => ?_)
  refine rb r1 σ O1 H1 B1 _ f1 ((PK.bind q1).imp fun u r2 O2 H2 B2 f2 g2 q2 w rw' => ?_)
  cases ez : f t u with
  | none => simp only [ez] at q2; exact (show False from q2).elim
  | some z =>
    simp only [ez] at q2
    cases z with
    | bl k =>
      refine hf H2 B2 v w t u _ _ f2.sub (rv.mono g2.bb) rw' ez fun v' H' B' p rp => ?_
      cases rp.bl_inv
      refine ⟨k, rfl, ?_⟩
      have f3 := f2.pu p
      have q3 := PK.later (show PK c P σ O2 H2 B2 (GoodT c Q) (if k = true then (Fd r2).bind fun u' r3 => Out.opt r3 (g u u') else .ok (.bl false) r2) from q2) (Grow.of_pu p)
      cases k with
      | true =>
        rw [if_pos rfl] at q3 ⊢
        refine rd r2 σ O2 H' B' _ f3 ((PK.bind q3).imp fun u' r3 O4 H4 B4 f4 g4 q4 x rx => ?_)
        obtain ⟨z, ez', q5⟩ := PK.opt q4
        exact hg H4 B4 w x u u' z Q f4.sub ((rw'.mono p.bb).mono g4.bb) rx ez' fun v' H' B' p rp => q5.pu f4 p v' rp
      | false =>
        rw [if_neg Bool.false_ne_true] at q3 ⊢
        exact q3.at f3 _ (.bl false)
    | _ => exact (show False from q2).elim
/-- any value that is a truth value, as a test -/
theorem cj_of (ha : EJ c P e F) (he : ∀ env whole, isTrue e env whole = (do let v ← whole; standAt e.pos; holding [v] (truthy v)) := by intro _ _; rfl) : CJ c P e (cB F) := by
  obtain ⟨ta, pa, ra⟩ := ha.ex
  refine ⟨tB ta, fun X h => pt_val (pa X h) (he _), fun r σ O H B Q fr q => ?_⟩
  refine ra r σ O H B _ fr ((PK.bind q).imp fun t r1 O1 H1 B1 f1 g1 q1 v rv => ?_)
  cases t with
  | bl k => cases rv.bl_inv; exact ⟨k, rfl, PK.at q1 f1⟩
  | _ => exact (show False from q1).elim

/-! ### and, or, not, if -/
theorem wj_and1 (ha : CJ c P a Ca) : WJ c P (.BoolOp .And [a] pos) Ca := by
  obtain ⟨ta, pa, ra⟩ := ha.ex
  exact ⟨ta, fun X h => pw_and1 (pa X h), ra⟩
theorem wj_or1 (ha : CJ c P a Ca) : WJ c P (.BoolOp .Or [a] pos) Ca := by
  obtain ⟨ta, pa, ra⟩ := ha.ex
  exact ⟨ta, fun X h => pw_or1 (pa X h), ra⟩
theorem wj_and (ha : CJ c P a Ca) (hb : WJ c P (.BoolOp .And (b :: rest) pos) Cb) : WJ c P (.BoolOp .And (a :: b :: rest) pos) (cAndC Ca Cb) := by
  obtain ⟨ta, pa, ra⟩ := ha.ex
  obtain ⟨tb, pb, rb⟩ := hb.ex
  refine ⟨tAnd ta tb, fun X h => pw_and (pa X h) (pb X h), fun r σ O H B Q fr q => ?_⟩
  refine ra r σ O H B _ fr ((PK.bind q).imp fun k r1 O1 H1 B1 f1 g1 q1 => ?_)
  cases k with
  | true => exact rb r1 σ O1 H1 B1 Q f1 q1
  | false => exact PK.at (show PK _ _ _ _ _ _ _ (.ok _ _) from q1) f1
theorem wj_or (ha : CJ c P a Ca) (hb : WJ c P (.BoolOp .Or (b :: rest) pos) Cb) : WJ c P (.BoolOp .Or (a :: b :: rest) pos) (cOrC Ca Cb) := by
  obtain ⟨ta, pa, ra⟩ := ha.ex
  obtain ⟨tb, pb, rb⟩ := hb.ex
  refine ⟨tOr ta tb, fun X h => pw_or (pa X h) (pb X h), fun r σ O H B Q fr q => ?_⟩
  refine ra r σ O H B _ fr ((PK.bind q).imp fun k r1 O1 H1 B1 f1 g1 q1 => ?_)
  cases k with
  | false => exact rb r1 σ O1 H1 B1 Q f1 q1
  | true => exact PK.at (show PK _ _ _ _ _ _ _ (.ok _ _) from q1) f1
theorem WJ.cj (h : WJ c P e Ca) : CJ c P e Ca := by
  obtain ⟨t, p, r⟩ := h.ex
  exact ⟨t, fun X h => (p X h).pt, r⟩
theorem cj_not (ha : CJ c P a Ca) : CJ c P (.UnaryOp .Not a pos) (cNotC Ca) := by
  obtain ⟨ta, pa, ra⟩ := ha.ex
  refine ⟨tNot ta, fun X h => pt_not (pa X h), fun r σ O H B Q fr q => ?_⟩
  refine ra r σ O H B _ fr ((PK.bind q).imp fun k r1 O1 H1 B1 f1 g1 q1 => ?_)
  exact PK.at (show PK _ _ _ _ _ _ _ (.ok _ _) from q1) f1
theorem ej_one {op : BoolOp} (ha : EJ c P a Fa) : EJ c P (.BoolOp op [a] pos) Fa := by
  obtain ⟨ta, pa, ra⟩ := ha.ex
  exact ⟨ta, fun X h => pe_one (pa X h), ra⟩
theorem ej_and (ha : EJ c P a Fa) (hb : EJ c P (.BoolOp .And (b :: rest) pos) Fb) : EJ c P (.BoolOp .And (a :: b :: rest) pos) (cAndV Fa Fb) := by
  obtain ⟨ta, pa, ra⟩ := ha.ex
  obtain ⟨tb, pb, rb⟩ := hb.ex
  refine ⟨tAndV ta tb, fun X h => pe_and (pa X h) (pb X h), fun r σ O H B Q fr q => ?_⟩
  refine ra r σ O H B _ fr ((PK.bind q).imp fun t r1 O1 H1 B1 f1 g1 q1 v rv => ?_)
  cases t with
  | bl k =>
    cases rv.bl_inv
    refine ⟨k, rfl, ?_⟩
    cases k with
    | true => exact rb r1 σ O1 H1 B1 Q f1 q1
    | false => exact PK.at (show PK _ _ _ _ _ _ _ (.ok _ _) from q1) f1 _ (.bl false)
  | _ => exact (show False from q1).elim
theorem ej_or (ha : EJ c P a Fa) (hb : EJ c P (.BoolOp .Or (b :: rest) pos) Fb) : EJ c P (.BoolOp .Or (a :: b :: rest) pos) (cOrV Fa Fb) := by
  obtain ⟨ta, pa, ra⟩ := ha.ex
  obtain ⟨tb, pb, rb⟩ := hb.ex
  refine ⟨tOrV ta tb, fun X h => pe_or (pa X h) (pb X h), fun r σ O H B Q fr q => ?_⟩
  refine ra r σ O H B _ fr ((PK.bind q).imp fun t r1 O1 H1 B1 f1 g1 q1 v rv => ?_)
  cases t with
  | bl k =>
    cases rv.bl_inv
    refine ⟨k, rfl, ?_⟩
    cases k with
    | false => exact rb r1 σ O1 H1 B1 Q f1 q1
    | true => exact PK.at (show PK _ _ _ _ _ _ _ (.ok _ _) from q1) f1 _ (.bl true)
  | _ => exact (show False from q1).elim
theorem ej_not (ha : EJ c P a Fa) : EJ c P (.UnaryOp .Not a pos) (cNotV Fa) := by
  obtain ⟨ta, pa, ra⟩ := ha.ex
  refine ⟨tNotV ta, fun X h => pe_not (pa X h), fun r σ O H B Q fr q => ?_⟩
  refine ra r σ O H B _ fr ((PK.bind q).imp fun t r1 O1 H1 B1 f1 g1 q1 v rv => ?_)
  cases t with
  | bl k =>
    cases rv.bl_inv
    exact ⟨k, rfl, PK.at (show PK _ _ _ _ _ _ _ (.ok _ _) from q1) f1 _ (.bl _)⟩
  | _ => exact (show False from q1).elim
theorem ej_if (hc : CJ c P d Ca) (ha : EJ c P a Fa) (hb : EJ c P b Fb) : EJ c P (.IfExp d a b pos) (cIf Ca Fa Fb) := by
  obtain ⟨tc, pc, rc⟩ := hc.ex
  obtain ⟨ta, pa, ra⟩ := ha.ex
  obtain ⟨tb, pb, rb⟩ := hb.ex
  refine ⟨tIf tc ta tb, fun X h => pe_ifExp (pc X h) (pa X h) (pb X h), fun r σ O H B Q fr q => ?_⟩
  refine rc r σ O H B _ fr ((PK.bind q).imp fun k r1 O1 H1 B1 f1 g1 q1 => ?_)
  cases k with
  | true => exact ra r1 σ O1 H1 B1 Q f1 q1
  | false => exact rb r1 σ O1 H1 B1 Q f1 q1
end
end Tc

/-! Tc: statements. -/
namespace Tc
open PySem PySem.Spec L2

/-- where jumps go: does the def hand out new lists; what is owned behind break, behind continue -/
structure JT where
  fr : Bool
  pb : List Nat
  pc : List Nat
def RetOk (c : SC) (fr : Bool) (O : Addr → Prop) (H B : Hp) (v : V) (t : T) : Prop :=
  if fr = true then ∃ p vs ts, v = .ref p ∧ t = .lst ts ∧ O p ∧ (∀ g, c.G.g = some g → p ≠ g) ∧ H p = some (.lst vs) ∧ Reps c.K B vs ts else Rep c.K B v t
def SK (c : SC) (j : JT) (P' : List Nat) (O : Addr → Prop) (H B : Hp) (D : Ends) : So → Prop
  | .nx r => ∀ σ' O' H' B', Frm c.K c.G P' r σ' O' H' B' → Grow O H B O' H' B' → D.nx σ' H'
  | .bk r => ∀ σ' O' H' B', Frm c.K c.G j.pb r σ' O' H' B' → Grow O H B O' H' B' → D.bk σ' H'
  | .ct r => ∀ σ' O' H' B', Frm c.K c.G j.pc r σ' O' H' B' → Grow O H B O' H' B' → D.ct σ' H'
  | .rt t r => ∀ v σ' Pr O' H' B', Frm c.K c.G Pr r σ' O' H' B' → Grow O H B O' H' B' → RetOk c j.fr O' H' B' v t → D.rt v H'
  | .ex n w r => ∀ v d σ' Pr O' H' B', Frm c.K c.G Pr r σ' O' H' B' → Grow O H B O' H' B' → H' d = some (.xd [("value", v)]) → Rep c.K B' v w → c.W (.ref (He.ga c.K n)) (some d) σ' H'
  | .no => False
section
variable {c : SC} {j : JT} {P P' : List Nat} {σ : L2.St} {O O1 : Addr → Prop} {H B H1 B1 : Hp} {D : Ends} {x : So}
theorem SK.later (h : SK c j P' O H B D x) (g : Grow O H B O1 H1 B1) : SK c j P' O1 H1 B1 D x := by
  cases x with
  | nx r => exact fun σ' O' H' B' f g' => h σ' O' H' B' f (g.trans g')
  | bk r => exact fun σ' O' H' B' f g' => h σ' O' H' B' f (g.trans g')
  | ct r => exact fun σ' O' H' B' f g' => h σ' O' H' B' f (g.trans g')
  | rt t r => exact fun v σ' Pr O' H' B' f g' => h v σ' Pr O' H' B' f (g.trans g')
  | ex n w r => exact fun v d σ' Pr O' H' B' f g' => h v d σ' Pr O' H' B' f (g.trans g')
  | no => exact h
/-- an expression ahead of what follows -/
theorem SK.so {α : Type} {y : Out α} {G : α → Sl → So} (h : SK c j P' O H B D (y.so G)) : PK c P σ O H B (fun a r O1 H1 B1 => SK c j P' O1 H1 B1 D (G a r)) y := by
  cases y with
  | ok a r => exact fun O' H' B' f g => SK.later (show SK c j P' O H B D (G a r) from h) g
  | ex n w r => exact fun v d O' H' B' f g => h v d σ P O' H' B' f g
  | no => exact h
end

structure SJ (c : SC) (j : JT) (P P' : List Nat) (s : Stmt) (F : Sc) : Prop where
  ex : ∃ t : TS, (∀ X, c.Is X → PS X s t) ∧ ∀ r σ O H B D, Frm c.K c.G P r σ O H B → SK c j P' O H B D (F r) → t D σ H
structure BJ (c : SC) (j : JT) (P P' : List Nat) (s : List Stmt) (F : Sc) : Prop where
  ex : ∃ t : TS, (∀ X, c.Is X → PSs X s t) ∧ ∀ r σ O H B D, Frm c.K c.G P r σ O H B → SK c j P' O H B D (F r) → t D σ H

def cNx : Sc := fun r => .nx r
def cSeq (F G : Sc) : Sc := fun r => match F r with
  | .nx r1 => G r1
  | o => o
def cSet (i : Nat) (F : Ec) : Sc := fun r => (F r).so fun t r1 => .nx (r1.set i (some t))
def cDrop (F : Ec) : Sc := fun r => (F r).so fun _ r1 => .nx r1
def cRet (F : Ec) : Sc := fun r => (F r).so fun t r1 => .rt t r1
def cIfS (C : Cc) (F G : Sc) : Sc := fun r => (C r).so fun b r1 => if b = true then F r1 else G r1
def cBk : Sc := fun r => .bk r
def cCt : Sc := fun r => .ct r
def cNo : Sc := fun _ => .no
/-- x.append(e) -/
def cApnd (i : Nat) (F : Ec) : Sc := fun r => (F r).so fun t r1 => match r1[i]? with
  | some (some (.lst ts)) => if ts.length < 1000000 then .nx (r1.set i (some (.lst (ts ++ [t])))) else .no
  | _ => .no
/-- x[k] = e -/
def cPut (i : Nat) (E F : Ec) : Sc := fun r => (F r).so fun t r1 => (E r1).so fun k r2 => match r2[i]?, k with
  | some (some (.lst ts)), .int k => (match ixN ts.length k with
    | some n => .nx (r2.set i (some (.lst (ts.set n t))))
    | none => .no)
  | _, _ => .no

section
variable {c : SC} {j : JT} {P P1 P' : List Nat} {s : Stmt} {ss : List Stmt} {e a b : Expr} {F G : Sc} {E Ea Eb : Ec} {C : Cc} {pos : Pos} {K : PySem.W.Frag} {Gi : GI} {r : Sl} {σ : L2.St} {O : Addr → Prop} {H B : Hp}

theorem bj_nil : BJ c j P P [] cNx := ⟨tNext, fun X h => pss_nil, fun r σ O H B D f q => (show SK c j P O H B D (.nx r) from q) σ O H B f .refl⟩
theorem bj_cons (h1 : SJ c j P P1 s F) (h2 : BJ c j P1 P' ss G) : BJ c j P P' (s :: ss) (cSeq F G) := by
  obtain ⟨t, p, rd⟩ := h1.ex
  obtain ⟨u, pu, ru⟩ := h2.ex
  refine ⟨tSeq t u, fun X h => pss_cons (p X h) (pu X h), fun r σ O H B D f q => rd r σ O H B _ f ?_⟩
  unfold cSeq at q
  cases z : F r with
  | nx r1 =>
    rw [z] at q
    exact fun σ' O' H' B' f' g => ru r1 σ' O' H' B' D f' (SK.later q g)
  | _ => rw [z] at q; exact q
theorem bj_one (h1 : SJ c j P P' s F) : BJ c j P P' [s] F := by
  obtain ⟨t, p, rd⟩ := h1.ex
  exact ⟨t, fun X h => pss_one (p X h), rd⟩

/-! ### what is owned is given to the view -/
theorem Frm.frz (f : Frm K Gi P r σ O H B) (hs : ∀ i ∈ P', i ∈ P) (hg : Gi.g = none ∨ 0 ∈ P') : ∃ O' B', Frm K Gi P' r σ O' H B' ∧ Grow O H B O' H B' := by
  classical
  let A : Addr → Prop := fun a => ∃ i, i ∈ P ∧ i ∉ P' ∧ σ[i]? = some (some (.ref a))
  have hA : ∀ a, A a → O a := fun a ⟨i, h1, _, h3⟩ => by
    obtain ⟨p, vs, ts, _, h4, h5, _, _⟩ := f.prv i h1
    rw [h3] at h4
    have e : a = p := V.ref.inj (Option.some.inj (Option.some.inj h4))
    rw [e]; exact h5
  let B' : Hp := fun a => if A a then H a else B a
  have sm : Same B B' := fun a o e => by
    show (if A a then H a else B a) = some o
    by_cases h : A a
    · have := f.out a (hA a h); rw [e] at this; cases this
    · rw [if_neg h]; exact e
  have inB : ∀ a, A a → B' a = H a := fun a h => if_pos h
  refine ⟨fun a => O a ∧ ¬ A a, B', ⟨fun a o e => ?_, fun a h => ?_, fun a h => f.liv a h.1, fun i t e n => ?_, fun i hi => ?_, fun i k p hi hk => f.sep i k p (hs i hi) (hs k hk), f.len, f.siz, fun g e => ?_⟩, sm, fun a o e => ?_, fun _ _ e _ => e, fun a h => .inl h.1⟩
  · have e' : (if A a then H a else B a) = some o := e
    by_cases h : A a
    · rw [if_pos h] at e'; exact e'
    · rw [if_neg h] at e'; exact f.sub _ _ e'
  · show (if A a then H a else B a) = none
    rw [if_neg h.2]; exact f.out a h.1
  · by_cases hi : i ∈ P
    · obtain ⟨p, vs, ts, h1, h2, h3, h4, h5⟩ := f.prv i hi
      rw [h1] at e
      cases e
      exact ⟨_, h2, .lst (.of (by rw [inB p ⟨i, hi, n, h2⟩]; exact h4)) (h5.mono sm)⟩
    · obtain ⟨v, h1, h2⟩ := f.var i t e hi
      exact ⟨v, h1, h2.mono sm⟩
  · obtain ⟨p, vs, ts, h1, h2, h3, h4, h5⟩ := f.prv i (hs i hi)
    refine ⟨p, vs, ts, h1, h2, ⟨h3, fun ⟨k, k1, k2, k3⟩ => ?_⟩, h4, h5.mono sm⟩
    exact k2 (f.sep i k p (hs i hi) k1 h2 k3 ▸ hi)
  · refine ⟨?_, (f.inn g e).2⟩
    rcases hg with z | z
    · rw [z] at e; cases e
    · exact z
  · have e' : (if A a then H a else B a) = some o := e
    by_cases h : A a
    · exact .inr (.inr (hA a h))
    · rw [if_neg h] at e'; exact .inl e'
/-- ahead of a block: lists that are no more changed are given to the view -/
theorem bj_frz (P1 : List Nat) (h : BJ c j P1 P' ss F) (hs : ∀ i ∈ P1, i ∈ P := by decide) (hg : c.G.g = none ∨ 0 ∈ P1 := by first | exact Or.inl rfl | exact Or.inr (by decide)) : BJ c j P P' ss F := by
  obtain ⟨t, p, rd⟩ := h.ex
  refine ⟨t, p, fun r σ O H B D f q => ?_⟩
  obtain ⟨O', B', f', g⟩ := f.frz hs hg
  exact rd r σ O' H B' D f' (q.later g)
theorem sj_frz (P1 : List Nat) (h : SJ c j P1 P' s F) (hs : ∀ i ∈ P1, i ∈ P := by decide) (hg : c.G.g = none ∨ 0 ∈ P1 := by first | exact Or.inl rfl | exact Or.inr (by decide)) : SJ c j P P' s F := by
  obtain ⟨t, p, rd⟩ := h.ex
  refine ⟨t, p, fun r σ O H B D f q => ?_⟩
  obtain ⟨O', B', f', g⟩ := f.frz hs hg
  exact rd r σ O' H B' D f' (q.later g)
/-- .. behind it -/
theorem bj_frzE (P1 : List Nat) (h : BJ c j P P1 ss F) (hs : ∀ i ∈ P', i ∈ P1 := by decide) (hg : c.G.g = none ∨ 0 ∈ P' := by first | exact Or.inl rfl | exact Or.inr (by decide)) : BJ c j P P' ss F := by
  obtain ⟨t, p, rd⟩ := h.ex
  refine ⟨t, p, fun r σ O H B D f q => rd r σ O H B D f ?_⟩
  cases z : F r with
  | nx r1 =>
    rw [z] at q
    intro σ' O' H' B' f' g
    obtain ⟨O2, B2, f2, g2⟩ := f'.frz hs hg
    exact q σ' O2 H' B2 f2 (g.trans g2)
  | _ => rw [z] at q; exact q
theorem sj_frzE (P1 : List Nat) (h : SJ c j P P1 s F) (hs : ∀ i ∈ P', i ∈ P1 := by decide) (hg : c.G.g = none ∨ 0 ∈ P' := by first | exact Or.inl rfl | exact Or.inr (by decide)) : SJ c j P P' s F := by
  obtain ⟨t, p, rd⟩ := h.ex
  refine ⟨t, p, fun r σ O H B D f q => rd r σ O H B D f ?_⟩
  cases z : F r with
  | nx r1 =>
    rw [z] at q
    intro σ' O' H' B' f' g
    obtain ⟨O2, B2, f2, g2⟩ := f'.frz hs hg
    exact q σ' O2 H' B2 f2 (g.trans g2)
  | _ => rw [z] at q; exact q

/-! ### stores -/
theorem Frm.set (f : Frm K Gi P r σ O H B) {i : Nat} {v : V} {t : T} (hv : Rep K B v t) (hi : i ∉ P') (h1 : ∀ k ∈ P', k ∈ P) (h2 : ∀ k ∈ P, k = i ∨ k ∈ P') (hg : Gi.g = none ∨ 0 ∈ P') : Frm K Gi P' (r.set i (some t)) (σ.set i (some v)) O H B := by
  refine ⟨f.sub, f.out, f.liv, fun k u e n => ?_, fun k hk => ?_, fun k m p hk hm e1 e2 => ?_, by rw [List.length_set, List.length_set]; exact f.len, by rw [List.length_set]; exact f.siz, fun g e => ?_⟩
  · by_cases hki : k = i
    · subst hki
      have hl : k < r.length := by
        have := (List.getElem?_eq_some_iff.mp e).1
        simpa using this
      rw [List.getElem?_set_self hl] at e
      cases e
      exact ⟨v, by rw [List.getElem?_set_self (by rw [← f.len]; exact hl)], hv⟩
    · rw [List.getElem?_set_ne (Ne.symm hki)] at e
      obtain ⟨w, e1, e2⟩ := f.var k u e fun z => (h2 k z).elim hki n
      exact ⟨w, by rw [List.getElem?_set_ne (Ne.symm hki)]; exact e1, e2⟩
  · have hki : i ≠ k := fun z => hi (z ▸ hk)
    obtain ⟨p, vs, ts, e1, e2, e3⟩ := f.prv k (h1 k hk)
    exact ⟨p, vs, ts, by rw [List.getElem?_set_ne hki]; exact e1, by rw [List.getElem?_set_ne hki]; exact e2, e3⟩
  · rw [List.getElem?_set_ne fun z : i = k => hi (z ▸ hk)] at e1
    rw [List.getElem?_set_ne fun z : i = m => hi (z ▸ hm)] at e2
    exact f.sep k m p (h1 k hk) (h1 m hm) e1 e2
  · rcases hg with z | z
    · rw [z] at e; cases e
    · refine ⟨z, ?_⟩
      rw [List.getElem?_set_ne fun y : i = 0 => hi (y ▸ z)]
      exact (f.inn g e).2
theorem Frm.setF (f : Frm K Gi P r σ O H B) {i p : Nat} {vs : List V} {ts : List T} (hi : i < r.length) (hO : O p) (hs : ∀ k ∈ P, σ[k]? ≠ some (some (.ref p))) (hp : H p = some (.lst vs)) (hr : Reps K B vs ts)
    (h0 : i ∈ P') (h1 : ∀ k ∈ P', k = i ∨ k ∈ P) (h2 : ∀ k ∈ P, k ∈ P') (hg : Gi.g = none ∨ i ≠ 0) : Frm K Gi P' (r.set i (some (.lst ts))) (σ.set i (some (.ref p))) O H B := by
  have hiσ : i < σ.length := by rw [← f.len]; exact hi
  refine ⟨f.sub, f.out, f.liv, fun k u e n => ?_, fun k hk => ?_, fun k m q hk hm e1 e2 => ?_, by rw [List.length_set, List.length_set]; exact f.len, by rw [List.length_set]; exact f.siz, fun g e => ?_⟩
  · by_cases hki : k = i
    · subst hki
      exact absurd h0 n
    · rw [List.getElem?_set_ne (Ne.symm hki)] at e
      obtain ⟨w, e1, e2⟩ := f.var k u e fun z => n (h2 k z)
      exact ⟨w, by rw [List.getElem?_set_ne (Ne.symm hki)]; exact e1, e2⟩
  · by_cases hki : k = i
    · subst hki
      exact ⟨p, vs, ts, List.getElem?_set_self hi, List.getElem?_set_self hiσ, hO, hp, hr⟩
    · obtain ⟨q, vs, ts, e1, e2, e3⟩ := f.prv k ((h1 k hk).resolve_left hki)
      exact ⟨q, vs, ts, by rw [List.getElem?_set_ne (Ne.symm hki)]; exact e1, by rw [List.getElem?_set_ne (Ne.symm hki)]; exact e2, e3⟩
  · by_cases hki : k = i
    · by_cases hmi : m = i
      · rw [hki, hmi]
      · subst hki
        rw [List.getElem?_set_self hiσ] at e1
        cases e1
        rw [List.getElem?_set_ne (Ne.symm hmi)] at e2
        exact absurd e2 (hs m ((h1 m hm).resolve_left hmi))
    · by_cases hmi : m = i
      · subst hmi
        rw [List.getElem?_set_self hiσ] at e2
        cases e2
        rw [List.getElem?_set_ne (Ne.symm hki)] at e1
        exact absurd e1 (hs k ((h1 k hk).resolve_left hki))
      · rw [List.getElem?_set_ne (Ne.symm hki)] at e1
        rw [List.getElem?_set_ne (Ne.symm hmi)] at e2
        exact f.sep k m q ((h1 k hk).resolve_left hki) ((h1 m hm).resolve_left hmi) e1 e2
  · rcases hg with z | z
    · rw [z] at e; cases e
    · refine ⟨h2 0 (f.inn g e).1, ?_⟩
      rw [List.getElem?_set_ne z]
      exact (f.inn g e).2
/-- another content of an owned list -/
theorem Frm.wr (f : Frm K Gi P r σ O H B) {i : Nat} {p : Addr} {vs vs' : List V} {ts : List T} (hi : i ∈ P) (hσ : σ[i]? = some (some (.ref p))) (hp : H p = some (.lst vs)) (hr : Reps K B vs' ts) :
    Frm K Gi P (r.set i (some (.lst ts))) σ O (upd H p (.lst vs')) B ∧ Grow O H B O (upd H p (.lst vs')) B := by
  obtain ⟨p', ws, us, e1, e2, e3, e4, e5⟩ := f.prv i hi
  rw [hσ] at e2
  cases e2
  have hl : i < r.length := (List.getElem?_eq_some_iff.mp e1).1
  have hB := f.out p e3
  refine ⟨⟨fun b u e => ?_, f.out, fun a h => ?_, fun k u e n => ?_, fun k hk => ?_, f.sep, by rw [List.length_set]; exact f.len, by rw [List.length_set]; exact f.siz, f.inn⟩, .refl _, fun a o e => .inl e, fun a o e n => ?_, fun a h => .inl h⟩
  · rw [upd_ne (ne_of_none e hB)]; exact f.sub _ _ e
  · by_cases h' : a = p
    · rw [h', upd_same]; exact fun z => nomatch z
    · rw [upd_ne h']; exact f.liv a h
  · have hki : k ≠ i := fun z => n (z ▸ hi)
    rw [List.getElem?_set_ne (Ne.symm hki)] at e
    exact f.var k u e n
  · by_cases hki : k = i
    · subst hki
      exact ⟨p, vs', ts, List.getElem?_set_self hl, hσ, e3, upd_same, hr⟩
    · obtain ⟨q, vs, ts, x1, x2, x3, x4, x5⟩ := f.prv k hk
      exact ⟨q, vs, ts, by rw [List.getElem?_set_ne (Ne.symm hki)]; exact x1, x2, x3, by rw [upd_ne fun z : q = p => hki (f.sep k i p hk hi (z ▸ x2) hσ)]; exact x4, x5⟩
  · rw [upd_ne fun z : a = p => n (z ▸ e3)]; exact e

theorem sj_set (i : Nat) {x : Str} {p1 : Pos} (he : EJ c P e E) (hN : c.N[i]? = some x := by rfl) (hx : Loc c.sc x := by first | exact Or.inl rfl | exact Or.inr rfl) (hst : c.st x = true := by rfl)
    (hs : ∀ env, swapsWith e (some (.Name x p1)) pos.line env = pure false := by intro _; rfl) (hi : i ∉ P' := by decide) (h1 : ∀ k ∈ P', k ∈ P := by decide) (h2 : ∀ k ∈ P, k = i ∨ k ∈ P' := by decide)
    (hg : c.G.g = none ∨ 0 ∈ P' := by first | exact Or.inl rfl | exact Or.inr (by decide)) : SJ c j P P' (.Assign [.Name x p1] e pos) (cSet i E) := by
  obtain ⟨t, p, rd⟩ := he.ex
  refine ⟨tAsg t (gName i), fun X h => ?_, fun r σ O H B D f q => rd r σ O H B _ f ((SK.so q).imp fun u r1 O1 H1 B1 f1 g1 q1 v rv => ?_)⟩
  · have hl : Loc X.env.scope x := by rw [h.sc]; exact hx
    exact ps_set (by rw [h.N]; exact h.nd) (by rw [h.N]; exact hN) hl (p X h) (hs _) (h.fn x hst hl)
  · exact (show SK c j P' O1 H1 B1 D (.nx _) from q1) _ O1 H1 B1 (f1.set rv hi h1 h2 hg) .refl
theorem sj_setF (i : Nat) {x : Str} {p1 : Pos} (he : FJ c P e E) (hlen : Nat.ble (i + 1) c.G.n = true := by rfl) (hN : c.N[i]? = some x := by rfl) (hx : Loc c.sc x := by first | exact Or.inl rfl | exact Or.inr rfl) (hst : c.st x = true := by rfl)
    (hs : ∀ env, swapsWith e (some (.Name x p1)) pos.line env = pure false := by intro _; rfl) (h0 : i ∈ P' := by decide) (h1 : ∀ k ∈ P', k = i ∨ k ∈ P := by decide) (h2 : ∀ k ∈ P, k ∈ P' := by decide)
    (hg : c.G.g = none ∨ i ≠ 0 := by first | exact Or.inl rfl | exact Or.inr (by decide)) : SJ c j P P' (.Assign [.Name x p1] e pos) (cSet i E) := by
  obtain ⟨t, p, rd⟩ := he.ex
  refine ⟨tAsg t (gName i), fun X h => ?_, fun r σ O H B D f q => rd r σ O H B _ f ?_⟩
  · have hl : Loc X.env.scope x := by rw [h.sc]; exact hx
    exact ps_set (by rw [h.N]; exact h.nd) (by rw [h.N]; exact hN) hl (p X h) (hs _) (h.fn x hst hl)
  · have q := SK.so (P := P) (σ := σ) q
    cases z : E r with
    | ok u r1 =>
      rw [z] at q
      intro O1 H1 B1 f1 g1 pp vs ts e hO hs hp rp
      subst e
      exact (show SK c j P' O1 H1 B1 D (.nx _) from q O1 H1 B1 f1 g1) _ O1 H1 B1 (f1.setF (by rw [f1.siz]; exact Nat.le_of_ble_eq_true hlen) hO hs hp rp h0 h1 h2 hg) .refl
    | ex n w r1 => rw [z] at q; exact q
    | no => rw [z] at q; exact q
theorem sj_drop (he : EJ c P e E) (hs : ∀ env, swapsWith e none pos.line env = pure false := by intro _; rfl) : SJ c j P P (.Expr e pos) (cDrop E) := by
  obtain ⟨t, p, rd⟩ := he.ex
  refine ⟨tDrop t, fun X h => ps_expr (p X h) (hs _), fun r σ O H B D f q => rd r σ O H B _ f ((SK.so q).imp fun u r1 O1 H1 B1 f1 g1 q1 v rv => ?_)⟩
  exact (show SK c j P O1 H1 B1 D (.nx _) from q1) _ O1 H1 B1 f1 .refl
theorem sj_pass : SJ c j P P (.Pass pos) cNx := ⟨tNext, fun X h => ps_pass, fun r σ O H B D f q => (show SK c j P O H B D (.nx r) from q) σ O H B f .refl⟩
theorem sj_break (hb : P = j.pb := by rfl) : SJ c j P P' (.Break pos) cBk := ⟨tBreak, fun X h => ps_break, fun r σ O H B D f q => (show SK c j P' O H B D (.bk r) from q) σ O H B (hb ▸ f) .refl⟩
theorem sj_cont (hb : P = j.pc := by rfl) : SJ c j P P' (.Continue pos) cCt := ⟨tCont, fun X h => ps_continue, fun r σ O H B D f q => (show SK c j P' O H B D (.ct r) from q) σ O H B (hb ▸ f) .refl⟩
theorem sj_ret (he : EJ c P e E) (hf : j.fr = false := by rfl) : SJ c j P P' (.Return (some e) pos) (cRet E) := by
  obtain ⟨t, p, rd⟩ := he.ex
  refine ⟨tRet t, fun X h => ps_ret (p X h), fun r σ O H B D f q => rd r σ O H B _ f ((SK.so q).imp fun u r1 O1 H1 B1 f1 g1 q1 v rv => ?_)⟩
  refine (show SK c j P' O1 H1 B1 D (.rt _ _) from q1) v σ P O1 H1 B1 f1 .refl ?_
  unfold RetOk
  rw [hf, if_neg Bool.false_ne_true]
  exact rv
theorem sj_retF (he : FJ c P e E) (hf : j.fr = true := by rfl) : SJ c j P P' (.Return (some e) pos) (cRet E) := by
  obtain ⟨t, p, rd⟩ := he.ex
  refine ⟨tRet t, fun X h => ps_ret (p X h), fun r σ O H B D f q => rd r σ O H B _ f ((SK.so q).imp fun u r1 O1 H1 B1 f1 g1 q1 pp vs ts e hO hs hp rp => ?_)⟩
  refine (show SK c j P' O1 H1 B1 D (.rt _ _) from q1) (.ref pp) σ P O1 H1 B1 f1 .refl ?_
  unfold RetOk
  rw [if_pos hf]
  refine ⟨pp, vs, ts, rfl, e, hO, fun g hg z => ?_, hp, rp⟩
  obtain ⟨k0, k1⟩ := f1.inn g hg
  exact hs 0 k0 (by rw [k1, z])
/-- return x, x owned -/
theorem sj_retP (i : Nat) {x : Str} {p1 : Pos} (hf : j.fr = true := by rfl) (hN : c.N[i]? = some x := by rfl) (hv : Vis c.sc x := by first | exact Or.inl rfl | exact Or.inr (Or.inl rfl)) (hi : i ∈ P := by decide) (hg : c.G.g = none ∨ i ≠ 0 := by first | exact Or.inl rfl | exact Or.inr (by decide))
    (hd : (x == ("__debug__" : Str)) = false := by decide) (hcd : (x == ("__classdict__" : Str)) = false := by decide) : SJ c j P P' (.Return (some (.Name x p1)) pos) (cRet (cVar i)) := by
  refine ⟨tRet (tVar i), fun X h => ps_ret (pe_var (by rw [h.N]; exact hN) (by rw [h.sc]; exact hv) hd hcd), fun r σ O H B D f q => ?_⟩
  obtain ⟨p, vs, ts, e1, e2, e3, e4, e5⟩ := f.prv i hi
  unfold cRet cVar at q
  rw [e1] at q
  refine ⟨_, e2, (show SK c j P' O H B D (.rt _ _) from q) (.ref p) σ P O H B f .refl ?_⟩
  unfold RetOk
  rw [if_pos hf]
  refine ⟨p, vs, ts, rfl, rfl, e3, fun g hg' z => ?_, e4, e5⟩
  rcases hg with hg | hg
  · rw [hg] at hg'; cases hg'
  · obtain ⟨k0, k1⟩ := f.inn g hg'
    subst z
    exact hg (f.sep i 0 p hi k0 e2 k1)
theorem sj_if (hc : CJ c P e C) (ha : BJ c j P P' ss F) {s2 : List Stmt} (hb : BJ c j P P' s2 G) : SJ c j P P' (.If e ss s2 pos) (cIfS C F G) := by
  obtain ⟨tc, pc, rc⟩ := hc.ex
  obtain ⟨ta, pa, ra⟩ := ha.ex
  obtain ⟨tb, pb, rb⟩ := hb.ex
  refine ⟨tIfS tc ta tb, fun X h => ps_if (pc X h) (pa X h) (pb X h), fun r σ O H B D f q => rc r σ O H B _ f ((SK.so q).imp fun k r1 O1 H1 B1 f1 g1 q1 => ?_)⟩
  cases k with
  | true => exact ra r1 σ O1 H1 B1 D f1 q1
  | false => exact rb r1 σ O1 H1 B1 D f1 q1
/-- x.append(e), x owned -/
theorem sj_app (i : Nat) {x : Str} {p1 p2 p3 : Pos} (he : EJ c P e E) (hN : c.N[i]? = some x := by rfl) (hv : Vis c.sc x := by first | exact Or.inl rfl | exact Or.inr (Or.inl rfl) | exact Or.inr (Or.inr rfl)) (hi : i ∈ P := by decide)
    (hd : (x == ("__debug__" : Str)) = false := by decide) (hcd : (x == ("__classdict__" : Str)) = false := by decide)
    (hline : (p2.endLine == p3.line) = true := by rfl) (hst : ∀ env, starEach [e] env = [(false, eval e env)] := by intro _; rfl) : SJ c j P P (.Expr (.Call (.Attribute (.Name x p1) "append" p2) [e] [] p3) pos) (cApnd i E) := by
  obtain ⟨t, p, rd⟩ := he.ex
  refine ⟨tDrop (tBM c.K "list" rAppend (tVar i) (tCons t tNil)), fun X h => ?_, fun r σ O H B D f q => ?_⟩
  · have z := pe_bm (X := X) (cpos := p3) (apos := p2) PySem.F.plainAttrs_list PySem.F.slot_list_append PySem.F.type_list_append mt_append (pe_var (x := x) (i := i) (pos := p1) (by rw [h.N]; exact hN) (by rw [h.sc]; exact hv) hd hcd) (pa_cons (p X h) pa_nil (by rw [hst]; rfl)) rfl
      (by rw [hst]; rfl) hline (by rw [hst]; rfl) rfl
    rw [h.K] at z
    exact ps_expr z rfl
  · obtain ⟨pp, vs, ts, e1, e2, e3, e4, e5⟩ := f.prv i hi
    refine ⟨_, e2, .inl ⟨rfl, _, .inl (.inl e4)⟩, ?_⟩
    refine rd r σ O H B _ f ((SK.so q).imp fun u r1 O1 H1 B1 f1 g1 q1 v rv => ?_)
    obtain ⟨pp', vs', ts', x1, x2, x3, x4, x5⟩ := f1.prv i hi
    rw [e2] at x2
    cases x2
    simp only [x1] at q1
    by_cases hz : ts'.length < 1000000
    · rw [if_pos hz] at q1
      refine ⟨pp, vs', v, rfl, rfl, x4, by rw [x5.length]; exact Nat.lt_trans hz (by rw [sizeLine_eq]; decide), ?_⟩
      obtain ⟨f2, g2⟩ := f1.wr hi e2 x4 (x5.append (.cons rv .nil))
      exact (show SK c j P O1 H1 B1 D (.nx _) from q1) σ O1 _ B1 f2 g2
    · rw [if_neg hz] at q1; exact (show False from q1).elim
/-- x[k] = e, x owned -/
theorem sj_put (i : Nat) {x : Str} {k : Expr} {p1 p2 : Pos} (he : EJ c P e E) (hk : EJ c P k Ea) (hN : c.N[i]? = some x := by rfl) (hv : Vis c.sc x := by first | exact Or.inl rfl | exact Or.inr (Or.inl rfl) | exact Or.inr (Or.inr rfl)) (hi : i ∈ P := by decide)
    (hd : (x == ("__debug__" : Str)) = false := by decide) (hcd : (x == ("__classdict__" : Str)) = false := by decide)
    (ha : ∀ env v, assign (.Subscript (.Name x p1) k p2) env v = (do
      let ov ← holding [v] (eval (.Name x p1) env)
      let iv ← holding [v, ov] (eval k env)
      standAt p2
      holding [v, ov, iv] (setItem ov iv v)
      release [v, ov, iv] []) := by intro _ _; rfl)
    (hs1 : ∀ env, swapsWithSole [.Subscript (.Name x p1) k p2] e pos.line env = pure false := by intro _; rfl) (hs2 : ∀ env, swappedStores [.Subscript (.Name x p1) k p2] e env = pure none := by intro _; rfl)
    (hs3 : ∀ env, (assignEach [.Subscript (.Name x p1) k p2] env).map (·.2) = [assign (.Subscript (.Name x p1) k p2) env] := by intro _; rfl) : SJ c j P P (.Assign [.Subscript (.Name x p1) k p2] e pos) (cPut i Ea E) := by
  obtain ⟨t, p, rd⟩ := he.ex
  obtain ⟨tk, pk, rk⟩ := hk.ex
  refine ⟨tAsg t (gSub (tVar i) tk rSetL), fun X h => ?_, fun r σ O H B D f q => ?_⟩
  · exact ps_asg (p X h) (pg_sub (pe_var (x := x) (i := i) (pos := p1) (by rw [h.N]; exact hN) (by rw [h.sc]; exact hv) hd hcd) (pk X h) set_list (ha _)) (hs1 _) (hs2 _) (hs3 _)
  · refine rd r σ O H B _ f ((SK.so q).imp fun u r1 O1 H1 B1 f1 g1 q1 v rv => ?_)
    obtain ⟨pp, vs, ts, e1, e2, e3, e4, e5⟩ := f1.prv i hi
    refine ⟨_, e2, ?_⟩
    refine rk r1 σ O1 H1 B1 _ f1 ((SK.so q1).imp fun w r2 O2 H2 B2 f2 g2 q2 z rz => ?_)
    obtain ⟨pp', vs', ts', x1, x2, x3, x4, x5⟩ := f2.prv i hi
    rw [e2] at x2
    cases x2
    simp only [x1] at q2
    cases w with
    | int n =>
      simp only at q2
      cases hn : ixN ts'.length n with
      | none => rw [hn] at q2; exact (show False from q2).elim
      | some m =>
        rw [hn] at q2
        cases rz
        refine ⟨pp, vs', n, m, rfl, rfl, x4, by rw [x5.length]; exact hn, ?_⟩
        obtain ⟨f3, g3⟩ := f2.wr hi e2 x4 (x5.set m (rv.mono g2.bb))
        exact (show SK c j P O2 H2 B2 D (.nx _) from q2) σ O2 _ B2 f3 g3
    | _ => exact (show False from q2).elim
end
end Tc

/-! Tc: defs and their calls. -/
namespace Tc
open PySem PySem.Spec L2

/-- a def keeps a promise, where nothing is being shown by repr -/
structure FnG (P : Program) (w : World) (K : PySem.W.Frag) (mg : Str → Option Value) (base : Heap) (k : Nat) (f : Addr) (fd : FuncData) (ps : List Str) (sp : Sp) : Prop where
  len : ∀ vs H Q E, sp vs H Q E → vs.length = ps.length
  run : ∀ (A : Around) (outer : List Env) (s : Shared) (H : Hp) (args : Args) (us : List Value) (vs : List V) (Q : VK) (E : XK), Room k A → A.guards = some [] → Env0 P w K mg base A outer s H →
    BindsTo s fd args (ps.zip us) → Vals vs us → sp vs H Q E → codeAny (model P w) A (.call (.ref f) args) (CR (L2.CX P w) outer P w H s Q E) s
theorem FnG.mono {P : Program} {w : World} {K : PySem.W.Frag} {mg : Str → Option Value} {base : Heap} {i k : Nat} {f : Addr} {fd : FuncData} {ps : List Str} {sp : Sp} (F : FnG P w K mg base i f fd ps sp) (h : i ≤ k) : FnG P w K mg base k f fd ps sp :=
  ⟨F.len, fun A outer s H args us vs Q E hr => F.run A outer s H args us vs Q E (hr.mono h)⟩

/-! ### the promise that a mirror tells -/
/-- io: the first argument is a list that the def may change; g: where it stands -/
def ArgOk (K : PySem.W.Frag) (io : Bool) (g : Option Addr) (H B : Hp) (vs : List V) (ts : List T) : Prop :=
  match io with
  | true => ∃ p ws us vs' ts', g = some p ∧ vs = .ref p :: vs' ∧ ts = .lst us :: ts' ∧ B p = none ∧ H p = some (.lst ws) ∧ Reps K B ws us ∧ Reps K B vs' ts'
  | false => g = none ∧ Reps K B vs ts
def OutOk (K : PySem.W.Frag) (fr : Bool) (g : Option Addr) (O : Addr → Prop) (H B : Hp) (v : V) (t : T) : Prop :=
  match fr with
  | true => ∃ p vs ts, v = .ref p ∧ t = .lst ts ∧ O p ∧ (∀ q, g = some q → p ≠ q) ∧ H p = some (.lst vs) ∧ Reps K B vs ts
  | false => Rep K B v t
def ResK (K : PySem.W.Frag) (io fr : Bool) (g : Option Addr) (H B : Hp) (Q : VK) (E : XK) : Res → Prop
  | .ok t gs => ∀ v O' H' B', Same B' H' → (∀ a, O' a → B' a = none ∧ H' a ≠ none) → Grow (fun a => g = some a) H B O' H' B' → (∀ p, g = some p → O' p ∧ ∃ ws us, gs = [.lst us] ∧ H' p = some (.lst ws) ∧ Reps K B' ws us) →
      OutOk K fr g O' H' B' v t → Q v H'
  | .ex n w => io = false ∧ ∀ v d O' H' B', Same B' H' → (∀ a, O' a → B' a = none ∧ H' a ≠ none) → Grow (fun a => g = some a) H B O' H' B' → H' d = some (.xd [("value", v)]) → Rep K B' v w → E (.ref (He.ga K n)) (some d) H'
  | .no => False
def spX (K : PySem.W.Frag) (io fr : Bool) (n : Nat) (m : Fc) : Sp := fun vs H Q E => vs.length = n ∧ ∃ g B ts, Same B H ∧ ArgOk K io g H B vs ts ∧ ResK K io fr g H B Q E (m ts)

/-- from a body to the def's mirror -/
def fnT (n : Nat) (F : Sc) : Fc := fun ts => match F (ts.map some ++ List.replicate (n - ts.length) none) with
  | .rt t _ => .ok t []
  | .nx _ => .ok .non []
  | .ex c w _ => .ex c w
  | _ => .no
def fnG (n : Nat) (F : Sc) : Fc := fun ts => match F (ts.map some ++ List.replicate (n - ts.length) none) with
  | .rt t r => (match r[0]? with
    | some (some (T.lst us)) => .ok t [.lst us]
    | _ => .no)
  | .nx r => (match r[0]? with
    | some (some (T.lst us)) => .ok .non [.lst us]
    | _ => .no)
  | _ => .no
def fnM (io : Bool) (n : Nat) (F : Sc) : Fc := match io with
  | true => fnG n F
  | false => fnT n F
def P0 (io : Bool) : List Nat := match io with
  | true => [0]
  | false => []

section
variable {P : Program} {w : World} {K : PySem.W.Frag} {mg : Str → Option Value} {base : Heap}
/-- the context of a body -/
def ctx (P : Program) (w : World) (K : PySem.W.Frag) (mg : Str → Option Value) (base : Heap) (N : List Str) (sc : Scope) (k : Nat) (W : WX) (g : Option Addr) : SC :=
  ⟨P, w, K, mg, base, N, sc, k, W, ⟨g, N.length⟩, fun _ => true⟩

theorem reps_start {B : Hp} {n : Nat} {vs : List V} {ts : List T} (r : Reps K B vs ts) (i : Nat) (t : T) (e : (ts.map some ++ List.replicate n (none : Option T))[i]? = some (some t)) : ∃ v, (vs.map some ++ List.replicate n (none : Option V))[i]? = some (some v) ∧ Rep K B v t := by
  have hl := r.length
  by_cases h : i < ts.length
  · rw [List.getElem?_append_left (by simpa using h)] at e
    rw [List.getElem?_append_left (by rw [List.length_map, hl]; exact h)]
    · rw [List.getElem?_map] at e ⊢
      cases z : ts[i]? with
      | none => rw [z] at e; cases e
      | some u =>
        rw [z] at e
        have eu : u = t := Option.some.inj (Option.some.inj e)
        subst eu
        obtain ⟨v, h1, h2⟩ := r.get z
        exact ⟨v, by rw [h1]; rfl, h2⟩
  · rw [List.getElem?_append_right (by simpa using h)] at e
    have := List.mem_of_getElem? e
    have := (List.mem_replicate.mp this).2
    cases this

theorem FnG.of {x qual : Str} {params : Arguments} {body : List Stmt} {scope : Scope} {dvs : List V} {kws : List (Str × V)} {f : Addr} {fd : FuncData} {N ps : List Str} {k : Nat} {io fr : Bool} {F : Sc}
    (Fd : FunD K x qual params body scope dvs kws f fd) (S : FnScope N ps scope) (hio : io = true → 1 ≤ ps.length) {P' : List Nat} (h0 : io = true → 0 ∈ P')
    (hb : ∀ (E : XK) (g : Option Addr), (io = false → g = none) → BJ (ctx P w K mg base N scope k (fun cls d _ H => E cls d H) g) ⟨fr, [], []⟩ (P0 io) P' body F) (hfr : fr = true → ∀ r r', F r ≠ .nx r') :
    FnG P w K mg base (k + 1) f fd ps (spX K io fr ps.length (fnM io N.length F)) := by
  refine ⟨fun vs H Q E h => h.1, fun A outer s H args us vs Q E hr hgd e0 hbt hv hsp => ?_⟩
  obtain ⟨oc, od, dV, kV, doc, pm, an, cdv, ct, osl, rfl, lk, hcd, _, _⟩ := Fd.ex
  obtain ⟨hl, g, B, ts, sB, ha, hk⟩ := hsp
  have KX : K.In s.heap := e0.mod.kin.keeps fun b o e => (e0.bs b o e).1
  have lim : s.heap.NoLimit := e0.mod.nolimit.keeps fun b o e => (e0.bs b o e).1
  have hkind : ∀ y ∈ ps.zip us, scope.names.lookup y.1 = some .local ∨ (scope.names.lookup y.1 = some .cell ∧ ((cellsFrom (s.heap.objs.size + 1) scope.names []).lookup y.1).isSome = true) := fun y hy => by
    rcases S.par y.1 (List.of_mem_zip (a := y.1) (b := y.2) hy).1 with q | q
    · exact .inl q
    · exact .inr ⟨q, PySem.W.cellsFrom_some _ _ _ (.inl q)⟩
  refine codeAny_call_function hr.depth (KX _ _ lk) rfl S.co S.gen rfl (PySem.W.codeRec_of KX hcd) (hbt _ _ _ _ ?_)
  refine wpAny_newFunctionEnv_cells S.kind hkind fun env he s1 xx => ?_
  subst he
  refine ⟨lim.keeps xx.toInCall.keep, codeAny_func ?_⟩
  have hpl : ps.length ≤ N.length := by
    have := congrArg List.length S.pre
    rw [List.length_take] at this
    omega
  have hgio : io = false → g = none := fun z => by subst z; exact ha.1
  obtain ⟨t, pt, rt⟩ := (hb E g hgio).ex
  have I := inv_start (CX := L2.CX P w) (P := P) (w := w) (K := K) (mg := mg) (base := base) (qual := qual) (f := f) (cd := cdv) (E := E) S hr.hd e0 hl hv xx
  have isX : (ctx P w K mg base N scope k (fun cls d _ H => E cls d H) g).Is (cxOf (L2.CX P w) P w K mg base N qual scope f cdv A outer s H E) := by
    refine ⟨rfl, rfl, rfl, rfl, rfl, rfl, S.nd, rfl, rfl, hr.deeper _, hgd, takes_of rfl rfl rfl rfl, passes_of rfl, fun _ _ _ => .inl rfl⟩
  have tl : ts.length = ps.length := by
    cases io with
    | false => rw [← ha.2.length]; exact hl
    | true =>
      obtain ⟨p, ws, us', vs', ts', _, rfl, rfl, _, _, _, r2⟩ := ha
      rw [List.length_cons, ← r2.length]
      exact hl
  have hst : L2.start N vs = vs.map some ++ List.replicate (N.length - ts.length) none := by unfold L2.start; rw [hl, tl]
  have fr0 : Frm K ⟨g, N.length⟩ (P0 io) (ts.map some ++ List.replicate (N.length - ts.length) none) (L2.start N vs) (fun a => g = some a) H B := by
    have hlen : (ts.map some ++ List.replicate (N.length - ts.length) (none : Option T)).length = N.length := by
      rw [List.length_append, List.length_map, List.length_replicate]; omega
    have hlen2 : (L2.start N vs).length = N.length := by
      unfold L2.start
      rw [List.length_append, List.length_map, List.length_replicate]; omega
    cases io with
    | false =>
      obtain ⟨rfl, r⟩ := ha
      refine ⟨sB, (fun a h => nomatch h), (fun a h => nomatch h), fun i t e _ => ?_, (fun i h => nomatch h), (fun i _ _ h => nomatch h), by rw [hlen, hlen2], hlen, (fun g h => nomatch h)⟩
      rw [hst]
      exact reps_start r i t e
    | true =>
      obtain ⟨p, ws, us', vs', ts', rfl, rfl, rfl, hB, hp, r1, r2⟩ := ha
      have hm : ∀ i, i ∈ P0 true → i = 0 := fun i h => by simpa [P0] using h
      refine ⟨sB, fun a h => ?_, fun a h => ?_, fun i t e n => ?_, fun i h => ?_, fun i m _ h1 h2 _ _ => (hm i h1).trans (hm m h2).symm, by rw [hlen, hlen2], hlen, fun g h => ?_⟩
      · cases h; exact hB
      · cases h; rw [hp]; exact fun z => nomatch z
      · rw [hst]
        cases i with
        | zero => exact absurd (by simp [P0]) n
        | succ i =>
          have e' : (ts'.map some ++ List.replicate (N.length - (T.lst us' :: ts').length) (none : Option T))[i]? = some (some t) := e
          exact reps_start r2 i t e'
      · cases hm i h
        exact ⟨p, ws, us', rfl, rfl, rfl, hp, r1⟩
      · cases h; exact ⟨by simp [P0], rfl⟩
  refine wpAny_mono ((pt _ isX).run [] s1 (L2.start N vs) H { nx := fun _ H' => Q .non H', rt := Q } I (rt _ _ _ _ _ _ fr0 ?_)) (fun fl s' hs => ?_) fun e s' hs => hs
  · -- what the mirror says is what is wanted
    cases io with
    | false =>
      obtain ⟨rfl, _⟩ := ha
      have hk' : ResK K false fr none H B Q E (fnT N.length F ts) := hk
      unfold fnT at hk'
      cases z : F (ts.map some ++ List.replicate (N.length - ts.length) none) with
      | nx r =>
        rw [z] at hk'
        intro σ' O' H' B' f' g'
        refine hk' .non O' H' B' f'.sub (fun a h => ⟨f'.out a h, f'.liv a h⟩) ⟨g'.bb, g'.nb, g'.hh, g'.oo⟩ (fun p h => nomatch h) ?_
        cases fr with
        | true => exact absurd z (hfr rfl _ _)
        | false => exact .non
      | rt t r =>
        rw [z] at hk'
        intro v σ' Pr O' H' B' f' g' ro
        refine hk' v O' H' B' f'.sub (fun a h => ⟨f'.out a h, f'.liv a h⟩) ⟨g'.bb, g'.nb, g'.hh, g'.oo⟩ (fun p h => nomatch h) ?_
        cases fr with
        | true => exact ro
        | false => exact ro
      | ex n w r =>
        rw [z] at hk'
        intro v d σ' Pr O' H' B' f' g' hd rv
        exact hk'.2 v d O' H' B' f'.sub (fun a h => ⟨f'.out a h, f'.liv a h⟩) ⟨g'.bb, g'.nb, g'.hh, g'.oo⟩ hd rv
      | bk r => rw [z] at hk'; exact (show False from hk').elim
      | ct r => rw [z] at hk'; exact (show False from hk').elim
      | no => rw [z] at hk'; exact (show False from hk').elim
    | true =>
      obtain ⟨p, ws, us', vs', ts', rfl, rfl, rfl, hB, hp, r1, r2⟩ := ha
      have hk' : ResK K true fr (some p) H B Q E (fnG N.length F (.lst us' :: ts')) := hk
      unfold fnG at hk'
      -- the lent list at the end
      have lent : ∀ {Pr r σ' O' H' B'}, Frm K ⟨some p, N.length⟩ Pr r σ' O' H' B' → O' p ∧ ∃ ws us, r[0]? = some (some (.lst us)) ∧ H' p = some (.lst ws) ∧ Reps K B' ws us := fun {Pr r σ' O' H' B'} f' => by
        obtain ⟨k0, k1⟩ := f'.inn p rfl
        obtain ⟨q, vs, ts, e1, e2, e3, e4, e5⟩ := f'.prv 0 k0
        rw [k1] at e2
        cases e2
        exact ⟨e3, vs, ts, e1, e4, e5⟩
      cases z : F ((T.lst us' :: ts').map some ++ List.replicate (N.length - (T.lst us' :: ts').length) none) with
      | nx r =>
        rw [z] at hk'
        intro σ' O' H' B' f' g'
        obtain ⟨l1, ws', us2, l2, l3, l4⟩ := lent f'
        simp only [l2] at hk'
        refine hk' .non O' H' B' f'.sub (fun a h => ⟨f'.out a h, f'.liv a h⟩) ⟨g'.bb, g'.nb, g'.hh, g'.oo⟩ (fun q h => by cases h; exact ⟨l1, ws', us2, rfl, l3, l4⟩) ?_
        cases fr with
        | true => exact absurd z (hfr rfl _ _)
        | false => exact .non
      | rt t r =>
        rw [z] at hk'
        intro v σ' Pr O' H' B' f' g' ro
        obtain ⟨l1, ws', us2, l2, l3, l4⟩ := lent f'
        simp only [l2] at hk'
        refine hk' v O' H' B' f'.sub (fun a h => ⟨f'.out a h, f'.liv a h⟩) ⟨g'.bb, g'.nb, g'.hh, g'.oo⟩ (fun q h => by cases h; exact ⟨l1, ws', us2, rfl, l3, l4⟩) ?_
        cases fr with
        | true => exact ro
        | false => exact ro
      | ex n w r => rw [z] at hk'; exact (show False from hk').elim
      | bk r => rw [z] at hk'; exact (show False from hk').elim
      | ct r => rw [z] at hk'; exact (show False from hk').elim
      | no => rw [z] at hk'; exact (show False from hk').elim
  · have fin : ∀ {σ' : L2.St} {H' : Hp} {v : V} {u : Value}, Inv (cxOf (L2.CX P w) P w K mg base N qual scope f cdv A outer s H E) [] σ' H' s' → RelV v u → Q v H' → CE outer P w H s Q u s' :=
      fun {σ' H' v u} J rv q => ⟨v, H', J.os, J.bare, J.base, J.hok, rv, q⟩
    cases fl with
    | ret u =>
      obtain ⟨v, σ', H', J, rv, q⟩ := hs
      exact fin J rv q
    | next =>
      obtain ⟨σ', H', J, q⟩ := hs
      exact fin (v := V.non) (u := Value.none) J rfl q
    | brk =>
      obtain ⟨_, _, _, q⟩ := hs
      exact False.elim q
    | cont =>
      obtain ⟨_, _, _, q⟩ := hs
      exact False.elim q
end

/-! ### calls -/
section
variable {X : Cx} {k : Nat} {f : Addr} {fd : FuncData} {ps : List Str} {sp : Sp} {x : Str} {p pos : Pos} {e : Expr} {es : List Expr} {t : TA} {W : WX}
def tCallG (sp : Sp) (W : WX) (t : TA) : TE := fun σ H Q => t σ H fun vs H1 => sp vs H1 Q fun cls d H' => W cls d σ H'
theorem run_fnG {pins : List (Addr × Obj)} {σ : L2.St} {H : Hp} {s : Shared} {Q : VK} {us : List Value} {vs : List V} {args : Args} (F : FnG X.prog X.w X.K X.mg X.base k f fd ps sp) (hr : Room k X.A) (hg : X.A.guards = some []) (tk : Takes X W)
    (hb : BindsTo s fd args (ps.zip us)) (I : Inv X pins σ H s) (r : Vals vs us) (h : sp vs H Q fun cls d H' => W cls d σ H') : wpAny (model X.prog X.w) X.A (call (.ref f) args.pos args.kw) (EP X pins σ Q) X.xe s := by
  refine wpAny_call (codeAny_mono (F.run X.A X.stack s H args us vs Q _ hr hg I.env0 hb r h) fun r s' hq => ?_)
  cases r with
  | error e => exact tk e s' (XE.of_call I (fun cls d H' h => h) hq)
  | ok fl =>
    cases fl with
    | ret u => exact I.after hq
    | next => exact False.elim hq
    | brk => exact False.elim hq
    | cont => exact False.elim hq
theorem pe_callG (F : FnG X.prog X.w X.K X.mg X.base k f fd ps sp) (hr : Room k X.A) (hgd : X.A.guards = some []) (tk : Takes X W) (hg : Gl X x) (hm : X.mg x = some (.ref f)) (hk : PySem.W.keepIn X.K (.ref f) = true) (hb : Binds X.K fd ps [])
    (ha : PA X (e :: es) t) (hdb : (x == ("__debug__" : Str)) = false) (he : starEach (e :: es) X.env = (false, eval e X.env) :: starEach es X.env) (hpl : (backTo pos (starEach es X.env)).any (·.1) = false) :
    PE X (.Call (.Name x p) (e :: es) [] pos) (tCallG sp W t) := by
  refine ⟨fun pins s σ H Q I h => ?_⟩
  refine wpAny_Call_Name_kw (ld_glob I hg hm ?_ hdb)
  refine PySem.W.callWith_K (h₀ := X.base) I.ok.mod.kin hk (thn (ha.run pos pins s σ H _ I h) fun us s1 ⟨vs, H1, I1, r, q⟩ => ⟨I1.kIn, ?_⟩) he hpl
  have b := hb s1 us I1.kIn (by rw [List.append_nil, ← r.length]; exact F.len _ _ _ _ q)
  rw [List.append_nil] at b
  exact run_fnG (args := ⟨us, []⟩) F hr hgd tk b I1 r q
theorem pe_callG0 (F : FnG X.prog X.w X.K X.mg X.base k f fd ps sp) (hr : Room k X.A) (hgd : X.A.guards = some []) (tk : Takes X W) (hg : Gl X x) (hm : X.mg x = some (.ref f)) (hk : PySem.W.keepIn X.K (.ref f) = true) (hb : Binds X.K fd ps [])
    (hdb : (x == ("__debug__" : Str)) = false) : PE X (.Call (.Name x p) [] [] pos) (tCallG sp W tNil) := by
  refine ⟨fun pins s σ H Q I h => ?_⟩
  refine wpAny_Call_Name_kw (ld_glob I hg hm ?_ hdb)
  have b := hb s [] I.kIn (by
    have := F.len _ _ _ _ h
    simpa using this)
  exact PySem.W.callWith_K0 I.kIn hk (run_fnG (args := ⟨[], []⟩) F hr hgd tk b I .nil h)
/-- the values at these places -/
def pick {α : Type} (o : List Nat) (xs : List α) : List α := o.filterMap fun i => xs[i]?
theorem pick_vals {us : List Value} {vs : List V} (r : Vals vs us) : ∀ o : List Nat, Vals (pick o vs) (pick o us)
  | [] => .nil
  | i :: o => by
    have ih := pick_vals r o
    unfold pick at ih ⊢
    rw [List.filterMap_cons, List.filterMap_cons]
    cases e : vs[i]? with
    | none => rw [r.none_of e]; exact ih
    | some v =>
      obtain ⟨u, e2, rv⟩ := r.get e
      rw [e2]
      exact .cons rv ih
theorem pick_reps {K : PySem.W.Frag} {B : Hp} {vs : List V} {ts : List T} (r : Reps K B vs ts) : ∀ o : List Nat, Reps K B (pick o vs) (pick o ts)
  | [] => .nil
  | i :: o => by
    have ih := pick_reps r o
    unfold pick at ih ⊢
    rw [List.filterMap_cons, List.filterMap_cons]
    cases e : vs[i]? with
    | none =>
      have h : ts[i]? = none := List.getElem?_eq_none_iff.mpr (by rw [← r.length]; exact List.getElem?_eq_none_iff.mp e)
      rw [h]; exact ih
    | some v =>
      obtain ⟨t, e2, rv⟩ := r.getV e
      rw [e2]
      exact .cons rv ih
/-- how keywords alone are bound: parameter j takes the keyword's value at place o[j] -/
def KwOk (fd : FuncData) (ps ks : List Str) (o : List Nat) : Prop := ∀ ws : List Value, ws.length = ks.length → bindArgs fd ⟨[], ks.zip ws⟩ = pure (ps.zip (pick o ws))
def tCallKw (sp : Sp) (W : WX) (o : List Nat) (n : Nat) (tk : TA) : TE := fun σ H Q => tk σ H fun zs H2 => zs.length = n ∧ sp (pick o zs) H2 Q fun cls d H' => W cls d σ H'
theorem pe_callKw {ks : List Str} {o : List Nat} {kws : List Keyword} {tk : TA} (F : FnG X.prog X.w X.K X.mg X.base k f fd ps sp) (hr : Room k X.A) (hgd : X.A.guards = some []) (tke : Takes X W) (hg : Gl X x) (hm : X.mg x = some (.ref f)) (hk : PySem.W.keepIn X.K (.ref f) = true)
    (hb : KwOk fd ps ks o) (hkw : L2.PK X kws tk) (hall : (backToKw pos (keywordEach kws X.env)).all (·.1.isSome) = true) (hks : (backToKw pos (keywordEach kws X.env)).filterMap (·.1) = ks)
    (hdb : (x == ("__debug__" : Str)) = false) (hpl : ((backTo pos (starEach [] X.env)).any (·.1) || (backToKw pos (keywordEach kws X.env)).any (·.1.isNone)) = false) :
    PE X (.Call (.Name x p) [] kws pos) (tCallKw sp W o ks.length tk) := by
  refine ⟨fun pins s σ H Q I h => ?_⟩
  refine wpAny_Call_Name_kw (ld_glob I hg hm ?_ hdb)
  refine PySem.W.callWith_KW0 (h₀ := X.base) I.ok.mod.kin hk hall (thn (hkw.run pos pins s σ H _ I h) fun ws s2 ⟨zs, H2, I2, rz, l2, q2⟩ => ⟨I2.kIn, ?_⟩) hpl
  rw [hks]
  exact run_fnG (args := ⟨[], ks.zip ws⟩) (us := pick o ws) F hr hgd tke (.of_eq (hb ws (rz.length.symm.trans l2))) I2 (pick_vals rz o) q2
end

/-- a call's outcome -/
def cRes (r1 : Sl) : Res → Out T
  | .ok t _ => .ok t r1
  | .ex c w => .ex c w r1
  | .no => .no
def cCall (m : Fc) (a : Ac) : Ec := fun r => (a r).bind fun ts r1 => cRes r1 (m ts)
def cCallK (m : Fc) (o : List Nat) (a : Ac) : Ec := fun r => (a r).bind fun ts r1 => cRes r1 (m (pick o ts))
/-- .. where the list in slot i is lent -/
def cResG (i : Nat) (r1 : Sl) : Res → Out T
  | .ok t [.lst us] => .ok t (r1.set i (some (.lst us)))
  | _ => .no
def cCallG (m : Fc) (i : Nat) (a : Ac) : Ec := fun r => (a r).bind fun ts r1 => match r1[i]? with
  | some (some (.lst us)) => cResG i r1 (m (.lst us :: ts))
  | _ => .no

section
variable {c : SC} {P : List Nat} {σ : L2.St} {e : Expr} {es : List Expr} {F : Ec} {A : Ac} {pos p : Pos} {k : Nat} {f : Addr} {fd : FuncData} {ps : List Str} {x : Str} {m : Fc} {n : Nat} {r1 : Sl} {O : Addr → Prop} {H B : Hp} {Q : VK}

theorem Frm.back {K : PySem.W.Frag} {G : GI} {r : Sl} {O' : Addr → Prop} {H' B' : Hp} (f : Frm K G P r σ O H B) (sB : Same B' H') (gr : Grow (fun a => (none : Option Addr) = some a) H B O' H' B') :
    Frm K G P r σ O H' B' ∧ Grow O H B O H' B' := by
  have sm : Same H H' := fun a o e => gr.hh a o e fun z => nomatch z
  have pu : Pu H B H' B' := ⟨gr.bb, sB, fun a o e => (gr.nb a o e).elim .inl fun q => q.elim .inr fun z => (nomatch z), sm⟩
  exact ⟨f.pu pu, .of_pu pu⟩
/-- behind a call that changes nothing -/
theorem ResK.ok0 (f : Frm c.K c.G P r1 σ O H B) {R : Res} (h : PK c P σ O H B (GoodT c Q) (cRes r1 R)) : ResK c.K false false none H B Q (fun cls d H' => c.W cls d σ H') R := by
  cases R with
  | ok t gs =>
    intro v O' H' B' sB _ gr _ ov
    obtain ⟨f2, g2⟩ := f.back sB gr
    exact (show PK c P σ O H B (GoodT c Q) (.ok t r1) from h) O H' B' f2 g2 v ov
  | ex n w =>
    refine ⟨rfl, fun v d O' H' B' sB _ gr hd rv => ?_⟩
    obtain ⟨f2, g2⟩ := f.back sB gr
    exact (show PK c P σ O H B (GoodT c Q) (.ex n w r1) from h) v d O H' B' f2 g2 hd rv
  | no => exact (show False from h).elim
theorem Frm.backF {K : PySem.W.Frag} {G : GI} {r : Sl} {O' : Addr → Prop} {H' B' : Hp} {q : Addr} (f : Frm K G P r σ O H B) (sB : Same B' H') (gr : Grow (fun a => (none : Option Addr) = some a) H B O' H' B') (hO : ∀ a, O' a → B' a = none ∧ H' a ≠ none) (hq : O' q) :
    Frm K G P r σ (fun a => O a ∨ a = q) H' B' ∧ Grow O H B (fun a => O a ∨ a = q) H' B' ∧ ∀ i ∈ P, σ[i]? ≠ some (some (.ref q)) := by
  obtain ⟨f2, g2⟩ := f.back sB gr
  have hn : H q = none := (gr.oo q hq).elim (fun z => nomatch z) fun z => z
  refine ⟨⟨f2.sub, fun a h => ?_, fun a h => ?_, f2.var, fun i hi => ?_, f2.sep, f2.len, f2.siz, f2.inn⟩, ⟨g2.bb, g2.nb, g2.hh, fun a h => h.elim .inl fun z => .inr (z ▸ hn)⟩, fun i hi z => ?_⟩
  · rcases h with h | h
    · exact f2.out a h
    · subst h; exact (hO a hq).1
  · rcases h with h | h
    · exact f2.liv a h
    · subst h; exact (hO a hq).2
  · obtain ⟨p, ws, us, h1, h2, h3, h4, h5⟩ := f2.prv i hi
    exact ⟨p, ws, us, h1, h2, .inl h3, h4, h5⟩
  · obtain ⟨p, ws, us, h1, h2, h3, h4, h5⟩ := f.prv i hi
    rw [h2] at z
    cases z
    rw [hn] at h4; cases h4
theorem ResK.ok1 (f : Frm c.K c.G P r1 σ O H B) {R : Res} (h : PK c P σ O H B (GoodF c P σ Q) (cRes r1 R)) : ResK c.K false true none H B Q (fun cls d H' => c.W cls d σ H') R := by
  cases R with
  | ok t gs =>
    intro v O' H' B' sB hO gr _ ov
    obtain ⟨q, vs, ts, rfl, et, hq, _, hp, rp⟩ := ov
    obtain ⟨f2, g2, n2⟩ := f.backF sB gr hO hq
    exact (show PK c P σ O H B (GoodF c P σ Q) (.ok t r1) from h) _ H' B' f2 g2 q vs ts et (.inr rfl) n2 hp rp
  | ex n w =>
    refine ⟨rfl, fun v d O' H' B' sB _ gr hd rv => ?_⟩
    obtain ⟨f2, g2⟩ := f.back sB gr
    exact (show PK c P σ O H B (GoodF c P σ Q) (.ex n w r1) from h) v d O H' B' f2 g2 hd rv
  | no => exact (show False from h).elim

/-- what a call asks of the text and the top -/
structure Callee (c : SC) (k : Nat) (x : Str) (f : Addr) (fd : FuncData) (ps : List Str) (io fr : Bool) (m : Fc) : Prop where
  fn : FnG c.prog c.w c.K c.mg c.base k f fd ps (spX c.K io fr ps.length m)
  mg : c.mg x = some (.ref f)
  kp : PySem.W.keepIn c.K (.ref f) = true
  bd : Binds c.K fd ps []
theorem pe_callee {X : Cx} {io fr : Bool} {t : TA} (h : c.Is X) (C : Callee c k x f fd ps io fr m) (hk : k ≤ c.k) (hg : c.sc.names.lookup x = some .globalImplicit) (ha : PA X (e :: es) t) (hdb : (x == ("__debug__" : Str)) = false)
    (he : ∀ env, starEach (e :: es) env = (false, eval e env) :: starEach es env) (hpl : ∀ env, (backTo pos (starEach es env)).any (·.1) = false) : PE X (.Call (.Name x p) (e :: es) [] pos) (tCallG (spX c.K io fr ps.length m) c.W t) := by
  have F := C.fn
  rw [← h.prog, ← h.w, ← h.mg, ← h.base] at F
  refine pe_callG (f := f) (fd := fd) (ps := ps) (k := k) ?_ (h.room.mono hk) h.grd h.tk (by show X.env.scope.names.lookup x = _; rw [h.sc]; exact hg) (by rw [h.mg]; exact C.mg) (by rw [h.K]; exact C.kp) (by rw [h.K]; exact C.bd) ha hdb (he _) (hpl _)
  rw [h.K]; exact F
theorem ej_call (C : Callee c k x f fd ps false false m) (ha : AJ c P (e :: es) A) (hk : Nat.ble k c.k = true := by rfl) (hg : c.sc.names.lookup x = some .globalImplicit := by rfl) (hdb : (x == ("__debug__" : Str)) = false := by decide)
    (he : ∀ env, starEach (e :: es) env = (false, eval e env) :: starEach es env := by intro _; rfl) (hpl : ∀ env, (backTo pos (starEach es env)).any (·.1) = false := by intro _; rfl) (hn : (e :: es).length = ps.length := by rfl) : EJ c P (.Call (.Name x p) (e :: es) [] pos) (cCall m A) := by
  obtain ⟨t, pt, rt⟩ := ha.ex
  refine ⟨tCallG (spX c.K false false ps.length m) c.W t, fun X h => pe_callee h C (Nat.le_of_ble_eq_true hk) hg (pt X h) hdb he hpl, fun r σ O H B Q fr q => rt r σ O H B _ fr ((PK.bind q).impE fun ts r1 O1 H1 B1 hts f1 g1 q1 vs rv => ?_)⟩
  have hl : vs.length = ps.length := by rw [rv.length, ha.len _ _ _ hts, hn]
  exact ⟨hl, none, B1, ts, f1.sub, ⟨rfl, rv⟩, ResK.ok0 f1 q1⟩
theorem fj_call (C : Callee c k x f fd ps false true m) (ha : AJ c P (e :: es) A) (hk : Nat.ble k c.k = true := by rfl) (hg : c.sc.names.lookup x = some .globalImplicit := by rfl) (hdb : (x == ("__debug__" : Str)) = false := by decide)
    (he : ∀ env, starEach (e :: es) env = (false, eval e env) :: starEach es env := by intro _; rfl) (hpl : ∀ env, (backTo pos (starEach es env)).any (·.1) = false := by intro _; rfl) (hn : (e :: es).length = ps.length := by rfl) : FJ c P (.Call (.Name x p) (e :: es) [] pos) (cCall m A) := by
  obtain ⟨t, pt, rt⟩ := ha.ex
  refine ⟨tCallG (spX c.K false true ps.length m) c.W t, fun X h => pe_callee h C (Nat.le_of_ble_eq_true hk) hg (pt X h) hdb he hpl, fun r σ O H B Q fr q => rt r σ O H B _ fr ((PK.bind q).impE fun ts r1 O1 H1 B1 hts f1 g1 q1 vs rv => ?_)⟩
  have hl : vs.length = ps.length := by rw [rv.length, ha.len _ _ _ hts, hn]
  exact ⟨hl, none, B1, ts, f1.sub, ⟨rfl, rv⟩, ResK.ok1 f1 q1⟩

/-! ### a list is lent -/
theorem Frm.backG {K : PySem.W.Frag} {G : GI} {r : Sl} {O' : Addr → Prop} {H' B' : Hp} {i : Nat} {g : Addr} {ws : List V} {us : List T} (f : Frm K G P r σ O H B) (hi : i ∈ P) (hσ : σ[i]? = some (some (.ref g))) (sB : Same B' H') (hO : ∀ a, O' a → B' a = none ∧ H' a ≠ none)
    (gr : Grow (fun a => some g = some a) H B O' H' B') (hg : O' g) (hp : H' g = some (.lst ws)) (hr : Reps K B' ws us) : Frm K G P (r.set i (some (.lst us))) σ O H' B' ∧ Grow O H B O H' B' := by
  obtain ⟨p', ws', us', e1, e2, e3, e4, e5⟩ := f.prv i hi
  rw [hσ] at e2
  cases e2
  have hl : i < r.length := (List.getElem?_eq_some_iff.mp e1).1
  have keep : ∀ a o, a ≠ g → H a = some o → H' a = some o := fun a o n e => gr.hh a o e fun z => n (Option.some.inj z).symm
  refine ⟨⟨sB, fun a h => ?_, fun a h => ?_, fun k u e n => ?_, fun k hk => ?_, f.sep, by rw [List.length_set]; exact f.len, by rw [List.length_set]; exact f.siz, f.inn⟩, gr.bb, fun a o e => ?_, fun a o e n => keep a o (fun z => n (z ▸ e3)) e, fun a h => .inl h⟩
  · cases e : B' a with
    | none => rfl
    | some o =>
      rcases gr.nb a o e with q | q | q
      · rw [f.out a h] at q; cases q
      · exact absurd q (f.liv a h)
      · cases q
        rw [(hO _ hg).1] at e; cases e
  · by_cases z : a = g
    · rw [z, hp]; exact fun z => nomatch z
    · cases e : H a with
      | none => exact absurd e (f.liv a h)
      | some o => rw [keep a o z e]; exact fun z => nomatch z
  · have hki : k ≠ i := fun z => n (z ▸ hi)
    rw [List.getElem?_set_ne (Ne.symm hki)] at e
    obtain ⟨v, h1, h2⟩ := f.var k u e n
    exact ⟨v, h1, h2.mono gr.bb⟩
  · by_cases hki : k = i
    · subst hki
      exact ⟨g, ws, us, List.getElem?_set_self hl, hσ, e3, hp, hr⟩
    · obtain ⟨q, vs, ts, x1, x2, x3, x4, x5⟩ := f.prv k hk
      exact ⟨q, vs, ts, by rw [List.getElem?_set_ne (Ne.symm hki)]; exact x1, x2, x3, keep q _ (fun z : q = g => hki (f.sep k i g hk hi (z ▸ x2) hσ)) x4, x5.mono gr.bb⟩
  · rcases gr.nb a o e with q | q | q
    · exact .inl q
    · exact .inr (.inl q)
    · cases q
      rw [(hO _ hg).1] at e; cases e
section
variable {i : Nat} {y : Str} {py : Pos}
theorem ej_callG (i : Nat) (C : Callee c k x f fd ps true false m) (ha : AJ c P es A) (hk : Nat.ble k c.k = true := by rfl) (hg : c.sc.names.lookup x = some .globalImplicit := by rfl) (hdb : (x == ("__debug__" : Str)) = false := by decide)
    (hN : c.N[i]? = some y := by rfl) (hv : Vis c.sc y := by first | exact Or.inl rfl | exact Or.inr (Or.inl rfl) | exact Or.inr (Or.inr rfl)) (hi : i ∈ P := by decide)
    (he : ∀ env, starEach (.Name y py :: es) env = (false, eval (.Name y py) env) :: starEach es env := by intro _; rfl) (hpl : ∀ env, (backTo pos (starEach es env)).any (·.1) = false := by intro _; rfl) (hn : es.length + 1 = ps.length := by rfl)
    (hyd : (y == ("__debug__" : Str)) = false := by decide) (hyc : (y == ("__classdict__" : Str)) = false := by decide) : EJ c P (.Call (.Name x p) (.Name y py :: es) [] pos) (cCallG m i A) := by
  obtain ⟨t, pt, rt⟩ := ha.ex
  refine ⟨tCallG (spX c.K true false ps.length m) c.W (tCons (tVar i) t), fun X h => pe_callee h C (Nat.le_of_ble_eq_true hk) hg (pa_cons (pe_var (by rw [h.N]; exact hN) (by rw [h.sc]; exact hv) hyd hyc) (pt X h) (he _)) hdb he hpl, fun r σ O H B Q fr q => ?_⟩
  obtain ⟨g, ws, us, e1, e2, e3, e4, e5⟩ := fr.prv i hi
  refine ⟨.ref g, e2, rt r σ O H B _ fr ((PK.bind q).impE fun ts r1 O1 H1 B1 hts f1 g1 q1 vs rv => ?_)⟩
  obtain ⟨g', ws', us', x1, x2, x3, x4, x5⟩ := f1.prv i hi
  rw [e2] at x2
  cases x2
  simp only [x1] at q1
  refine ⟨by rw [List.length_cons, rv.length, ha.len _ _ _ hts, hn], some g, B1, .lst us' :: ts, f1.sub, ⟨g, ws', us', vs, ts, rfl, rfl, rfl, f1.out g x3, x4, x5, rv⟩, ?_⟩
  cases z : m (.lst us' :: ts) with
  | ok t gs =>
    intro v O' H' B' sB hO gr hg ov
    obtain ⟨h1, ws2, us2, rfl, h2, h3⟩ := hg g rfl
    rw [z] at q1
    obtain ⟨f2, g2⟩ := f1.backG hi e2 sB hO gr h1 h2 h3
    exact (show PK c P σ O1 H1 B1 (GoodT c Q) (.ok t (r1.set i (some (.lst us2)))) from q1) O1 H' B' f2 g2 v ov
  | ex n w => rw [z] at q1; exact (show False from q1).elim
  | no => rw [z] at q1; exact (show False from q1).elim
theorem fj_callG (i : Nat) (C : Callee c k x f fd ps true true m) (ha : AJ c P es A) (hk : Nat.ble k c.k = true := by rfl) (hg : c.sc.names.lookup x = some .globalImplicit := by rfl) (hdb : (x == ("__debug__" : Str)) = false := by decide)
    (hN : c.N[i]? = some y := by rfl) (hv : Vis c.sc y := by first | exact Or.inl rfl | exact Or.inr (Or.inl rfl) | exact Or.inr (Or.inr rfl)) (hi : i ∈ P := by decide)
    (he : ∀ env, starEach (.Name y py :: es) env = (false, eval (.Name y py) env) :: starEach es env := by intro _; rfl) (hpl : ∀ env, (backTo pos (starEach es env)).any (·.1) = false := by intro _; rfl) (hn : es.length + 1 = ps.length := by rfl)
    (hyd : (y == ("__debug__" : Str)) = false := by decide) (hyc : (y == ("__classdict__" : Str)) = false := by decide) : FJ c P (.Call (.Name x p) (.Name y py :: es) [] pos) (cCallG m i A) := by
  obtain ⟨t, pt, rt⟩ := ha.ex
  refine ⟨tCallG (spX c.K true true ps.length m) c.W (tCons (tVar i) t), fun X h => pe_callee h C (Nat.le_of_ble_eq_true hk) hg (pa_cons (pe_var (by rw [h.N]; exact hN) (by rw [h.sc]; exact hv) hyd hyc) (pt X h) (he _)) hdb he hpl, fun r σ O H B Q fr q => ?_⟩
  obtain ⟨g, ws, us, e1, e2, e3, e4, e5⟩ := fr.prv i hi
  refine ⟨.ref g, e2, rt r σ O H B _ fr ((PK.bind q).impE fun ts r1 O1 H1 B1 hts f1 g1 q1 vs rv => ?_)⟩
  obtain ⟨g', ws', us', x1, x2, x3, x4, x5⟩ := f1.prv i hi
  rw [e2] at x2
  cases x2
  simp only [x1] at q1
  refine ⟨by rw [List.length_cons, rv.length, ha.len _ _ _ hts, hn], some g, B1, .lst us' :: ts, f1.sub, ⟨g, ws', us', vs, ts, rfl, rfl, rfl, f1.out g x3, x4, x5, rv⟩, ?_⟩
  cases z : m (.lst us' :: ts) with
  | ok t gs =>
    intro v O' H' B' sB hO gr hg ov
    obtain ⟨h1, ws2, us2, rfl, h2, h3⟩ := hg g rfl
    rw [z] at q1
    obtain ⟨f2, g2⟩ := f1.backG hi e2 sB hO gr h1 h2 h3
    obtain ⟨qq, vs3, ts3, rfl, et, hq, nq, hp, rp⟩ := ov
    have hne : qq ≠ g := nq g rfl
    have hn : H1 qq = none := (gr.oo qq hq).elim (fun z => absurd (Option.some.inj z).symm hne) fun z => z
    refine (show PK c P σ O1 H1 B1 (GoodF c P σ Q) (.ok t (r1.set i (some (.lst us2)))) from q1) (fun a => O1 a ∨ a = qq) H' B' ⟨f2.sub, fun a h => ?_, fun a h => ?_, f2.var, fun j hj => ?_, f2.sep, f2.len, f2.siz, f2.inn⟩ ⟨g2.bb, g2.nb, g2.hh, fun a h => h.elim .inl fun z => .inr (z ▸ hn)⟩ qq vs3 ts3 et (.inr rfl) (fun j hj z => ?_) hp rp
    · rcases h with h | h
      · exact f2.out a h
      · subst h; exact (hO a hq).1
    · rcases h with h | h
      · exact f2.liv a h
      · subst h; exact (hO a hq).2
    · obtain ⟨p, ws, us, h1, h2, h3, h4, h5⟩ := f2.prv j hj
      exact ⟨p, ws, us, h1, h2, .inl h3, h4, h5⟩
    · obtain ⟨p, ws, us, h1, h2, h3, h4, h5⟩ := f1.prv j hj
      rw [h2] at z
      cases z
      rw [hn] at h4; cases h4
  | ex n w => rw [z] at q1; exact (show False from q1).elim
  | no => rw [z] at q1; exact (show False from q1).elim
end

/-! ### keywords, no arguments -/
structure KJ (c : SC) (P : List Nat) (ks : List Keyword) (F : Ac) : Prop where
  ex : ∃ t : TA, (∀ X, c.Is X → L2.PK X ks t) ∧ ∀ r σ O H B Q, Frm c.K c.G P r σ O H B → PK c P σ O H B (GoodA c Q) (F r) → t σ H Q
  len : ∀ r ts r', F r = .ok ts r' → ts.length = ks.length
theorem kj_nil : KJ c P [] cNil := ⟨⟨tNil, fun X h => pk_nil, fun r σ O H B Q f q => PK.at (show PK _ _ _ _ _ _ _ (.ok _ _) from q) f _ .nil⟩, fun r ts r' e => by cases e; rfl⟩
theorem kj_cons {nm : Option Str} {kp : Pos} {ks : List Keyword} (ha : EJ c P e F) (hb : KJ c P ks A) : KJ c P (⟨nm, e, kp⟩ :: ks) (cCons F A) := by
  obtain ⟨ta, pa, ra⟩ := ha.ex
  obtain ⟨tb, pb, rb⟩ := hb.ex
  refine ⟨⟨tCons ta tb, fun X h => pk_cons (pa X h) (pb X h), fun r σ O H B Q f q => ?_⟩, fun r ts r' q => ?_⟩
  rotate_left
  · unfold cCons at q
    cases z : F r with
    | ok t r1 =>
      rw [z] at q
      cases y : A r1 with
      | ok us r2 =>
        simp only [Out.bind, y] at q
        cases q
        rw [List.length_cons, List.length_cons, hb.len _ _ _ y]
      | ex n w r2 => simp only [Out.bind, y] at q; cases q
      | no => simp only [Out.bind, y] at q; cases q
    | ex n w r1 => rw [z] at q; cases q
    | no => rw [z] at q; cases q
  refine ra r σ O H B _ f ((PK.bind q).imp fun t r1 O1 H1 B1 f1 g1 q1 v rv => ?_)
  refine rb r1 σ O1 H1 B1 _ f1 ((PK.bind q1).imp fun ts r2 O2 H2 B2 f2 g2 q2 vs rvs => ?_)
  exact PK.at (show PK _ _ _ _ _ _ _ (.ok _ _) from q2) f2 _ (.cons (rv.mono g2.bb) rvs)
theorem pick_len {α : Type} {o : List Nat} {xs : List α} (h : ∀ i ∈ o, i < xs.length) : (pick o xs).length = o.length := by
  induction o with
  | nil => rfl
  | cons i o ih =>
    have hi := h i (List.mem_cons_self ..)
    have e : pick (i :: o) xs = xs[i] :: pick o xs := by
      unfold pick
      rw [List.filterMap_cons, List.getElem?_eq_getElem hi]
    rw [e, List.length_cons, List.length_cons, ih fun j hj => h j (List.mem_cons_of_mem _ hj)]
theorem ej_callKw {ks : List Str} {kws : List Keyword} (o : List Nat) (C : Callee c k x f fd ps false false m) (ha : KJ c P kws A) (hb : KwOk fd ps ks o) (hk : Nat.ble k c.k = true := by rfl) (hg : c.sc.names.lookup x = some .globalImplicit := by rfl) (hdb : (x == ("__debug__" : Str)) = false := by decide)
    (hall : ∀ env, (backToKw pos (keywordEach kws env)).all (·.1.isSome) = true := by intro _; rfl) (hks : ∀ env, (backToKw pos (keywordEach kws env)).filterMap (·.1) = ks := by intro _; rfl)
    (hpl : ∀ env, ((backTo pos (starEach [] env)).any (·.1) || (backToKw pos (keywordEach kws env)).any (·.1.isNone)) = false := by intro _; rfl) (hn : kws.length = ks.length := by rfl) (ho : o.length = ps.length := by rfl) (hoi : ∀ i ∈ o, i < ks.length := by decide) :
    EJ c P (.Call (.Name x p) [] kws pos) (cCallK m o A) := by
  obtain ⟨t, pt, rt⟩ := ha.ex
  refine ⟨tCallKw (spX c.K false false ps.length m) c.W o ks.length t, fun X h => ?_, fun r σ O H B Q fr q => rt r σ O H B _ fr ((PK.bind q).impE fun ts r1 O1 H1 B1 hts f1 g1 q1 vs rv => ?_)⟩
  · have F := C.fn
    rw [← h.prog, ← h.w, ← h.mg, ← h.base] at F
    refine pe_callKw (f := f) (fd := fd) (ps := ps) (k := k) ?_ (h.room.mono (Nat.le_of_ble_eq_true hk)) h.grd h.tk (by show X.env.scope.names.lookup x = _; rw [h.sc]; exact hg) (by rw [h.mg]; exact C.mg) (by rw [h.K]; exact C.kp) hb (pt X h) (hall _) (hks _) hdb (hpl _)
    rw [h.K]; exact F
  · have hl : vs.length = ks.length := by rw [rv.length, ha.len _ _ _ hts, hn]
    refine ⟨hl, ?_, none, B1, pick o ts, f1.sub, ⟨rfl, pick_reps rv o⟩, ResK.ok0 f1 q1⟩
    rw [pick_len fun i hi => by rw [hl]; exact hoi i hi, ho]
theorem fj_callKw {ks : List Str} {kws : List Keyword} (o : List Nat) (C : Callee c k x f fd ps false true m) (ha : KJ c P kws A) (hb : KwOk fd ps ks o) (hk : Nat.ble k c.k = true := by rfl) (hg : c.sc.names.lookup x = some .globalImplicit := by rfl) (hdb : (x == ("__debug__" : Str)) = false := by decide)
    (hall : ∀ env, (backToKw pos (keywordEach kws env)).all (·.1.isSome) = true := by intro _; rfl) (hks : ∀ env, (backToKw pos (keywordEach kws env)).filterMap (·.1) = ks := by intro _; rfl)
    (hpl : ∀ env, ((backTo pos (starEach [] env)).any (·.1) || (backToKw pos (keywordEach kws env)).any (·.1.isNone)) = false := by intro _; rfl) (hn : kws.length = ks.length := by rfl) (ho : o.length = ps.length := by rfl) (hoi : ∀ i ∈ o, i < ks.length := by decide) :
    FJ c P (.Call (.Name x p) [] kws pos) (cCallK m o A) := by
  obtain ⟨t, pt, rt⟩ := ha.ex
  refine ⟨tCallKw (spX c.K false true ps.length m) c.W o ks.length t, fun X h => ?_, fun r σ O H B Q fr q => rt r σ O H B _ fr ((PK.bind q).impE fun ts r1 O1 H1 B1 hts f1 g1 q1 vs rv => ?_)⟩
  · have F := C.fn
    rw [← h.prog, ← h.w, ← h.mg, ← h.base] at F
    refine pe_callKw (f := f) (fd := fd) (ps := ps) (k := k) ?_ (h.room.mono (Nat.le_of_ble_eq_true hk)) h.grd h.tk (by show X.env.scope.names.lookup x = _; rw [h.sc]; exact hg) (by rw [h.mg]; exact C.mg) (by rw [h.K]; exact C.kp) hb (pt X h) (hall _) (hks _) hdb (hpl _)
    rw [h.K]; exact F
  · have hl : vs.length = ks.length := by rw [rv.length, ha.len _ _ _ hts, hn]
    refine ⟨hl, ?_, none, B1, pick o ts, f1.sub, ⟨rfl, pick_reps rv o⟩, ResK.ok1 f1 q1⟩
    rw [pick_len fun i hi => by rw [hl]; exact hoi i hi, ho]
theorem ej_call0 (C : Callee c k x f fd ps false false m) (hk : Nat.ble k c.k = true := by rfl) (hg : c.sc.names.lookup x = some .globalImplicit := by rfl) (hdb : (x == ("__debug__" : Str)) = false := by decide) (hn : 0 = ps.length := by rfl) : EJ c P (.Call (.Name x p) [] [] pos) (cCall m cNil) := by
  refine ⟨tCallG (spX c.K false false ps.length m) c.W tNil, fun X h => ?_, fun r σ O H B Q fr q => ?_⟩
  · have F := C.fn
    rw [← h.prog, ← h.w, ← h.mg, ← h.base] at F
    refine pe_callG0 (f := f) (fd := fd) (ps := ps) (k := k) ?_ (h.room.mono (Nat.le_of_ble_eq_true hk)) h.grd h.tk (by show X.env.scope.names.lookup x = _; rw [h.sc]; exact hg) (by rw [h.mg]; exact C.mg) (by rw [h.K]; exact C.kp) (by rw [h.K]; exact C.bd) hdb
    rw [h.K]; exact F
  · exact ⟨hn, none, B, [], fr.sub, ⟨rfl, .nil⟩, ResK.ok0 fr q⟩
end
end Tc

/-! Tc: loops, comprehensions. -/
namespace Tc
open PySem PySem.Spec L2

/-! ### targets -/
abbrev Gc := T → Sl → Option Sl
/-- ow: the slots that are stored -/
structure GJ (c : SC) (P ow : List Nat) (tg : Expr) (g : Gc) : Prop where
  ex : ∃ tv : TG, (∀ X, c.Is X → PG X tg tv) ∧ ∀ r σ O H B v t r' (Q : L2.St → Hp → Prop), Frm c.K c.G P r σ O H B → Rep c.K B v t → g t r = some r' → (∀ σ', Frm c.K c.G P r' σ' O H B → (∀ k, k ∉ ow → σ'[k]? = σ[k]?) → Q σ' H) → tv v σ H Q
structure GsJ (c : SC) (P ow : List Nat) (tgs : List Expr) (g : List T → Sl → Option Sl) : Prop where
  ex : ∃ tv : TGs, (∀ X, c.Is X → PGs X tgs tv) ∧ ∀ r σ O H B vs ts r' (Q : L2.St → Hp → Prop), Frm c.K c.G P r σ O H B → Reps c.K B vs ts → g ts r = some r' → (∀ σ', Frm c.K c.G P r' σ' O H B → (∀ k, k ∉ ow → σ'[k]? = σ[k]?) → Q σ' H) → tv vs σ H Q
def gSet (i : Nat) : Gc := fun t r => some (r.set i (some t))
def gNilT : List T → Sl → Option Sl := fun ts r => match ts with
  | [] => some r
  | _ => none
def gConsT (g : Gc) (h : List T → Sl → Option Sl) : List T → Sl → Option Sl := fun ts r => match ts with
  | t :: ts => (g t r).bind (h ts)
  | [] => none
def gTupT (g : List T → Sl → Option Sl) : Gc := fun t r => match t with
  | .tup ts => g ts r
  | _ => none
section
variable {c : SC} {P ow ow2 : List Nat} {tg e : Expr} {es : List Expr} {pos : Pos} {g : Gc} {gs : List T → Sl → Option Sl}
theorem gj_name (i : Nat) {x : Str} (hN : c.N[i]? = some x := by rfl) (hx : Loc c.sc x := by first | exact Or.inl rfl | exact Or.inr rfl) (hst : c.st x = true := by rfl) (hi : i ∉ P := by decide) (hg : c.G.g = none ∨ 0 ∈ P := by first | exact Or.inl rfl | exact Or.inr (by decide)) : GJ c P [i] (.Name x pos) (gSet i) := by
  refine ⟨gName i, fun X h => ?_, fun r σ O H B v t r' Q f rv e q => ?_⟩
  · have hl : Loc X.env.scope x := by rw [h.sc]; exact hx
    exact pg_name (by rw [h.N]; exact h.nd) (by rw [h.N]; exact hN) hl (h.fn x hst hl)
  · cases e
    exact q _ (f.set rv hi (fun _ h => h) (fun _ h => .inr h) hg) fun k hk => List.getElem?_set_ne fun z => hk (by rw [z]; exact List.mem_singleton.mpr rfl)
theorem gsj_nil : GsJ c P [] [] gNilT := by
  refine ⟨gNil, fun X h => pgs_nil, fun r σ O H B vs ts r' Q f rv e q => ?_⟩
  cases rv with
  | nil => cases e; exact ⟨rfl, q σ f fun _ _ => rfl⟩
  | cons r rs => cases e
theorem gsj_cons (h1 : GJ c P ow e g) (h2 : GsJ c P ow2 es gs) (hs : ∀ env, (assignEach (e :: es) env).map (·.2) = assign e env :: (assignEach es env).map (·.2) := by intro _; rfl) : GsJ c P (ow ++ ow2) (e :: es) (gConsT g gs) := by
  obtain ⟨t, p, rd⟩ := h1.ex
  obtain ⟨u, pu, ru⟩ := h2.ex
  refine ⟨gCons t u, fun X h => pgs_cons (p X h) (pu X h) (hs _), fun r σ O H B vs ts r' Q f rv e q => ?_⟩
  cases rv with
  | nil => cases e
  | cons rv rs =>
    rename_i v vs t ts
    have e : (g t r).bind (gs ts) = some r' := e
    cases z : g t r with
    | none => rw [z] at e; cases e
    | some r1 =>
      rw [z] at e
      exact ⟨_, _, rfl, rd r σ O H B _ _ r1 _ f rv z fun σ1 f1 k1 => ru r1 σ1 O H B _ _ r' _ f1 rs e fun σ2 f2 k2 => q σ2 f2 fun k hk => (k2 k fun z => hk (List.mem_append_right _ z)).trans (k1 k fun z => hk (List.mem_append_left _ z))⟩
theorem gj_tup {k : Nat} (h : GsJ c P ow es gs) (hn : ∀ env, (assignEach es env).length = es.length := by intro _; rfl) (hst : ∀ env, (assignEach es env).findIdx? (·.1) = none := by intro _; rfl)
    (hl : ∀ ts r r', gs ts r = some r' → ts.length = es.length) : GJ c P ow (.Tuple es k pos) (gTupT gs) := by
  obtain ⟨t, p, rd⟩ := h.ex
  refine ⟨gTup c.K es.length t, fun X h => ?_, fun r σ O H B v t r' Q f rv e q => ?_⟩
  · have z := pg_tup (k := k) (pos := pos) (n := es.length) h.calm (p X h) (hn _) (hst _)
    rw [h.K] at z; exact z
  · unfold gTupT at e
    cases rv with
    | tup s rs =>
      refine ⟨_, _, rfl, same_tup f.sub s, by rw [rs.length]; exact hl _ _ _ e, rd r σ O H B _ _ r' _ f rs e q⟩
    | _ => cases e
end

/-! ### what is walked -/
structure ItOk (c : SC) (J : It) (ts : List T) (O : Addr → Prop) (H B : Hp) : Prop where
  go : ∀ O' H' B' i, Grow O H B O' H' B' → Same B' H' → i < ts.length → J.go i H'
  yld : ∀ O' H' B' i t x H2, Grow O H B O' H' B' → Same B' H' → ts[i]? = some t → J.yld i H' x H2 → ∃ B2, Pu H' B' H2 B2 ∧ Rep c.K B2 x t
  stop : ∀ O' H' B' i, Grow O H B O' H' B' → Same B' H' → i = ts.length → J.stop i H'
structure IJ (c : SC) (P : List Nat) (tg e : Expr) (I : Ac) : Prop where
  ex : ∃ wi : TI, (∀ X, c.Is X → PI X tg e wi) ∧ ∀ r σ O H B (R : It → Hp → Prop), Frm c.K c.G P r σ O H B → PK c P σ O H B (fun ts _ O' H' B' => ∀ J, ItOk c J ts O' H' B' → R J H') (I r) → wi σ H R
/-- a list's, a tuple's items -/
def cItems (F : Ec) : Ac := fun r => (F r).bind fun t r1 => match t with
  | .lst ts => .ok ts r1
  | .tup ts => .ok ts r1
  | _ => .no
def rangeT (lo hi : Int) : List T := (List.range (hi - lo).toNat).map fun i => .int (lo + (i : Nat))
def lim62 (i : Int) : Bool := decide (-1000000000000000000 ≤ i ∧ i ≤ 1000000000000000000)
def cRange1 (A : Ac) : Ac := fun r => (A r).bind fun ts r1 => match ts with
  | [.int n] => if lim62 n = true then .ok (rangeT 0 n) r1 else .no
  | _ => .no
def cRange2 (A : Ac) : Ac := fun r => (A r).bind fun ts r1 => match ts with
  | [.int m, .int n] => if (lim62 m && lim62 n) = true then .ok (rangeT m n) r1 else .no
  | _ => .no
def enumT (k : Nat) : List T → List T
  | [] => []
  | t :: ts => .tup [.int (k : Nat), t] :: enumT (k + 1) ts
def cEnum (A : Ac) : Ac := fun r => (A r).bind fun ts r1 => match ts with
  | [.lst xs] => .ok (enumT 0 xs) r1
  | _ => .no
def zipT : List T → List T → List T
  | x :: xs, y :: ys => .tup [x, y] :: zipT xs ys
  | _, _ => []
def cZip (A : Ac) : Ac := fun r => (A r).bind fun ts r1 => match ts with
  | [.lst xs, .lst ys] => .ok (zipT xs ys) r1
  | _ => .no
def cRevd (A : Ac) : Ac := fun r => (A r).bind fun ts r1 => match ts with
  | [.lst xs] => .ok xs.reverse r1
  | _ => .no
theorem enumT_get : ∀ (xs : List T) (k i : Nat) (t : T), (enumT k xs)[i]? = some t → ∃ x, xs[i]? = some x ∧ t = .tup [.int ((k + i : Nat) : Int), x]
  | [], _, _, _, h => by simp [enumT] at h
  | x :: xs, k, 0, t, h => by
    simp [enumT] at h
    exact ⟨x, rfl, by rw [← h]; rfl⟩
  | x :: xs, k, i + 1, t, h => by
    obtain ⟨y, h1, h2⟩ := enumT_get xs (k + 1) i t (by simpa [enumT] using h)
    exact ⟨y, by simpa using h1, by rw [h2, show k + 1 + i = k + (i + 1) by omega]⟩
theorem enumT_len : ∀ (xs : List T) (k : Nat), (enumT k xs).length = xs.length
  | [], _ => rfl
  | x :: xs, k => by simp [enumT, enumT_len xs (k + 1)]
theorem zipT_get : ∀ (xs ys : List T) (i : Nat) (t : T), (zipT xs ys)[i]? = some t → ∃ x y, xs[i]? = some x ∧ ys[i]? = some y ∧ t = .tup [x, y]
  | [], _, _, _, h => by simp [zipT] at h
  | _ :: _, [], _, _, h => by simp [zipT] at h
  | x :: xs, y :: ys, 0, t, h => by
    simp [zipT] at h
    exact ⟨x, y, rfl, rfl, h.symm⟩
  | x :: xs, y :: ys, i + 1, t, h => by
    obtain ⟨a, b, h1, h2, h3⟩ := zipT_get xs ys i t (by simpa [zipT] using h)
    exact ⟨a, b, by simpa using h1, by simpa using h2, h3⟩
theorem zipT_len : ∀ (xs ys : List T), (zipT xs ys).length = min xs.length ys.length
  | [], _ => by simp [zipT]
  | _ :: _, [] => by simp [zipT]
  | x :: xs, y :: ys => by rw [show zipT (x :: xs) (y :: ys) = .tup [x, y] :: zipT xs ys from rfl, List.length_cons, List.length_cons, List.length_cons, zipT_len xs ys]; omega
theorem PI.or {X : Cx} {tg e : Expr} {w1 w2 : TI} (a : PI X tg e w1) (b : PI X tg e w2) : PI X tg e (fun σ H R => w1 σ H R ∨ w2 σ H R) :=
  ⟨fun pins s σ H R I h => h.elim (a.run pins s σ H R I) (b.run pins s σ H R I)⟩
section
variable {c : SC} {P : List Nat} {tg e e2 : Expr} {F : Ec} {A : Ac} {p pos tpos : Pos} {elts : List Expr} {kk : Nat} {O : Addr → Prop} {H B : Hp} {a b : Addr} {vs ws : List V} {ts us : List T}
theorem itok_list (s : LsAt c.K B a vs) (r : Reps c.K B vs ts) : ItOk c (Itl c.K a) ts O H B := by
  refine ⟨fun O' H' B' i g sb h => ?_, fun O' H' B' i t x H2 g sb e y => ?_, fun O' H' B' i g sb e => ?_⟩
  · exact ⟨vs, vs[i]'(by rw [r.length]; exact h), ((s.mono g.bb).mono sb).sq, List.getElem?_eq_getElem _⟩
  · obtain ⟨rfl, y⟩ := y
    obtain ⟨v, h1, h2⟩ := r.get e
    have := y vs ((s.mono g.bb).mono sb).sq
    rw [h1] at this
    cases this
    exact ⟨B', .refl sb, h2.mono g.bb⟩
  · exact ⟨vs, ((s.mono g.bb).mono sb).sq, by rw [r.length, e]; exact Nat.le_refl _⟩
theorem itok_tup (s : SqT c.K B a vs) (r : Reps c.K B vs ts) : ItOk c (Itt c.K a) ts O H B := by
  refine ⟨fun O' H' B' i g sb h => ?_, fun O' H' B' i t x H2 g sb e y => ?_, fun O' H' B' i g sb e => ?_⟩
  · exact ⟨vs, vs[i]'(by rw [r.length]; exact h), same_tup sb (same_tup g.bb s), List.getElem?_eq_getElem _⟩
  · obtain ⟨rfl, y⟩ := y
    obtain ⟨v, h1, h2⟩ := r.get e
    have := y vs (same_tup sb (same_tup g.bb s))
    rw [h1] at this
    cases this
    exact ⟨B', .refl sb, h2.mono g.bb⟩
  · exact ⟨vs, same_tup sb (same_tup g.bb s), by rw [r.length, e]; exact Nat.le_refl _⟩
theorem itok_range (lo : Int) (n : Nat) : ItOk c (Itr lo n) ((List.range n).map fun i => T.int (lo + (i : Nat))) O H B := by
  refine ⟨fun O' H' B' i g sb h => (show i < n by simpa using h), fun O' H' B' i t x H2 g sb e y => ?_, fun O' H' B' i g sb e => ?_⟩
  · obtain ⟨rfl, rfl⟩ := y
    refine ⟨B', .refl sb, ?_⟩
    rw [List.getElem?_map] at e
    have hi : i < n := by
      refine Classical.byContradiction fun z => ?_
      rw [List.getElem?_eq_none (by simpa using z)] at e
      cases e
    rw [List.getElem?_range hi] at e
    cases e
    exact .int _
  · have : i = n := by simpa using e
    exact Nat.le_of_eq this.symm
theorem itok_enum (s : LsAt c.K B a vs) (r : Reps c.K B vs ts) : ItOk c (Ite c.K a) (enumT 0 ts) O H B := by
  refine ⟨fun O' H' B' i g sb h => ?_, fun O' H' B' i t x H2 g sb e y => ?_, fun O' H' B' i g sb e => ?_⟩
  · exact ⟨vs, vs[i]'(by rw [r.length]; rw [enumT_len] at h; exact h), ((s.mono g.bb).mono sb).sq, List.getElem?_eq_getElem _⟩
  · obtain ⟨T0, x0, rfl, hn, rfl, y⟩ := y
    obtain ⟨t0, h0, rfl⟩ := enumT_get _ _ _ _ e
    obtain ⟨v, h1, h2⟩ := r.get h0
    have := y vs ((s.mono g.bb).mono sb).sq
    rw [h1] at this
    obtain rfl : v = x0 := Option.some.inj this
    have pu : Pu H' B' (upd H' T0 (.tup [.int (i : Nat), v])) (upd B' T0 (.tup [.int (i : Nat), v])) := .new sb hn
    refine ⟨_, pu, .tup (.inl (.inl upd_same)) ?_⟩
    rw [Nat.zero_add]
    exact .cons (.int _) (.cons ((h2.mono g.bb).mono pu.bb) .nil)
  · exact ⟨vs, ((s.mono g.bb).mono sb).sq, by rw [r.length, e, enumT_len]; exact Nat.le_refl _⟩
theorem itok_zip (s : LsAt c.K B a vs) (r : Reps c.K B vs ts) (s2 : LsAt c.K B b ws) (r2 : Reps c.K B ws us) : ItOk c (Itz c.K a b) (zipT ts us) O H B := by
  refine ⟨fun O' H' B' i g sb h => ?_, fun O' H' B' i t x H2 g sb e y => ?_, fun O' H' B' i g sb e => ?_⟩
  · rw [zipT_len] at h
    exact ⟨vs, ws, vs[i]'(by rw [r.length]; omega), ws[i]'(by rw [r2.length]; omega), ((s.mono g.bb).mono sb).sq, ((s2.mono g.bb).mono sb).sq, List.getElem?_eq_getElem _, List.getElem?_eq_getElem _⟩
  · obtain ⟨T0, x0, y0, rfl, hn, rfl, y1, y2⟩ := y
    obtain ⟨t0, u0, h0, h0', rfl⟩ := zipT_get _ _ _ _ e
    obtain ⟨v, h1, h2⟩ := r.get h0
    obtain ⟨v', h1', h2'⟩ := r2.get h0'
    have z1 := y1 vs ((s.mono g.bb).mono sb).sq
    have z2 := y2 ws ((s2.mono g.bb).mono sb).sq
    rw [h1] at z1
    rw [h1'] at z2
    obtain rfl : v = x0 := Option.some.inj z1
    obtain rfl : v' = y0 := Option.some.inj z2
    have pu : Pu H' B' (upd H' T0 (.tup [v, v'])) (upd B' T0 (.tup [v, v'])) := .new sb hn
    exact ⟨_, pu, .tup (.inl (.inl upd_same)) (.cons ((h2.mono g.bb).mono pu.bb) (.cons ((h2'.mono g.bb).mono pu.bb) .nil))⟩
  · rw [zipT_len] at e
    exact ⟨vs, ws, ((s.mono g.bb).mono sb).sq, ((s2.mono g.bb).mono sb).sq, by rw [r.length, r2.length]; omega⟩
theorem itok_rev (s : LsAt c.K B a vs) (r : Reps c.K B vs ts) : ItOk c (Itv c.K a vs.length) ts.reverse O H B := by
  have hl := r.length
  refine ⟨fun O' H' B' i g sb h => ?_, fun O' H' B' i t x H2 g sb e y => ?_, fun O' H' B' i g sb e => ?_⟩
  · rw [List.length_reverse] at h
    exact ⟨by omega, vs, vs[vs.length - 1 - i]'(by omega), ((s.mono g.bb).mono sb).sq, List.getElem?_eq_getElem _⟩
  · obtain ⟨rfl, y⟩ := y
    have hi : i < ts.length := by
      have := (List.getElem?_eq_some_iff.mp e).1
      simpa using this
    rw [List.getElem?_reverse hi] at e
    obtain ⟨v, h1, h2⟩ := r.get e
    have := y vs ((s.mono g.bb).mono sb).sq
    rw [hl, h1] at this
    cases this
    exact ⟨B', .refl sb, h2.mono g.bb⟩
  · rw [List.length_reverse] at e
    exact (by omega : vs.length ≤ i)
theorem ij_seq (h : EJ c P e F) : IJ c P tg e (cItems F) := by
  obtain ⟨t, p, rd⟩ := h.ex
  refine ⟨fun σ H R => iList c.K t σ H R ∨ iTup c.K t σ H R, fun X h => ?_, fun r σ O H B R f q => ?_⟩
  · have z := PI.or (pi_list (tg := tg) (p X h)) (pi_tup (tg := tg) (p X h))
    rw [h.K] at z; exact z
  · have q := PK.bind q
    cases z : F r with
    | ok t r1 =>
      rw [z] at q
      cases t with
      | lst ts =>
        refine .inl (rd r σ O H B _ f ?_)
        rw [z]
        intro O' H' B' f' g' v rv
        cases rv with
        | lst s rr => exact ⟨_, rfl, ⟨_, (s.mono f'.sub).sq⟩, PK.at (show PK c P σ O' H' B' _ (.ok _ _) from q O' H' B' f' g') f' _ (itok_list s rr)⟩
      | tup ts =>
        refine .inr (rd r σ O H B _ f ?_)
        rw [z]
        intro O' H' B' f' g' v rv
        cases rv with
        | tup s rr => exact ⟨_, rfl, ⟨_, same_tup f'.sub s⟩, PK.at (show PK c P σ O' H' B' _ (.ok _ _) from q O' H' B' f' g') f' _ (itok_tup s rr)⟩
      | _ =>
        refine .inl (rd r σ O H B _ f ?_)
        rw [z]
        intro O' H' B' f' g' v rv
        exact (show False from q O' H' B' f' g').elim
    | ex n w r1 =>
      rw [z] at q
      refine .inl (rd r σ O H B _ f ?_)
      rw [z]; exact q
    | no => rw [z] at q; exact (show False from q).elim
theorem lim62_ok {i : Int} (h : lim62 i = true) : -(2 ^ 62) ≤ i ∧ i < 2 ^ 62 := by
  have := of_decide_eq_true h
  omega
theorem ij_range1 (h : AJ c P [e] A) (hg : c.sc.names.lookup ("range" : Str) = some .globalImplicit := by rfl) (hm : c.mg "range" = none) (hs : ∀ env, starEach [e] env = [(false, eval e env)] := by intro _; rfl) : IJ c P tg (.Call (.Name "range" p) [e] [] pos) (cRange1 A) := by
  obtain ⟨t, pt, rd⟩ := h.ex
  refine ⟨iRng1 t, fun X h => pi_range1 (by show X.env.scope.names.lookup _ = _; rw [h.sc]; exact hg) (by rw [h.mg]; exact hm) (pt X h) (hs _), fun r σ O H B R f q => rd r σ O H B _ f ((PK.bind q).imp fun ts r1 O1 H1 B1 f1 g1 q1 vs rv => ?_)⟩
  match ts, rv, q1 with
  | [.int n], .cons (.int _) .nil, q1 =>
    simp only at q1
    by_cases hz : lim62 n = true
    · rw [if_pos hz] at q1
      obtain ⟨h1, h2⟩ := lim62_ok hz
      refine ⟨n, rfl, h1, h2, PK.at q1 f1 _ ?_⟩
      have := itok_range (c := c) (O := O1) (H := H1) (B := B1) 0 n.toNat
      unfold rangeT
      rw [Int.sub_zero]; exact this
    · rw [if_neg hz] at q1; exact (show False from q1).elim
theorem ij_range2 (h : AJ c P [e, e2] A) (hm : c.mg "range" = none) (hg : c.sc.names.lookup ("range" : Str) = some .globalImplicit := by rfl) (hs : ∀ env, starEach [e, e2] env = [(false, eval e env), (false, eval e2 env)] := by intro _; rfl) (hs2 : ∀ env, starEach [e2] env = [(false, eval e2 env)] := by intro _; rfl) :
    IJ c P tg (.Call (.Name "range" p) [e, e2] [] pos) (cRange2 A) := by
  obtain ⟨t, pt, rd⟩ := h.ex
  refine ⟨iRng2 t, fun X h => pi_range2 (by show X.env.scope.names.lookup _ = _; rw [h.sc]; exact hg) (by rw [h.mg]; exact hm) (pt X h) (hs _) (hs2 _), fun r σ O H B R f q => rd r σ O H B _ f ((PK.bind q).imp fun ts r1 O1 H1 B1 f1 g1 q1 vs rv => ?_)⟩
  match ts, rv, q1 with
  | [.int m, .int n], .cons (.int _) (.cons (.int _) .nil), q1 =>
    simp only at q1
    by_cases hz : (lim62 m && lim62 n) = true
    · rw [if_pos hz] at q1
      obtain ⟨z1, z2⟩ := Bool.and_eq_true_iff.mp hz
      obtain ⟨h1, h2⟩ := lim62_ok z1
      obtain ⟨h3, h4⟩ := lim62_ok z2
      exact ⟨m, n, rfl, ⟨h1, h2, h3, h4⟩, PK.at q1 f1 _ (itok_range m (n - m).toNat)⟩
    · rw [if_neg hz] at q1; exact (show False from q1).elim
theorem ij_enum (h : AJ c P [e] A) (hm : c.mg "enumerate" = none) (hg : c.sc.names.lookup ("enumerate" : Str) = some .globalImplicit := by rfl) (hs : ∀ env, starEach [e] env = [(false, eval e env)] := by intro _; rfl) : IJ c P (.Tuple elts kk tpos) (.Call (.Name "enumerate" p) [e] [] pos) (cEnum A) := by
  obtain ⟨t, pt, rd⟩ := h.ex
  refine ⟨iEnum c.K t, fun X h => ?_, fun r σ O H B R f q => rd r σ O H B _ f ((PK.bind q).imp fun ts r1 O1 H1 B1 f1 g1 q1 vs rv => ?_)⟩
  · have z := pi_enum (elts := elts) (kk := kk) (tpos := tpos) (p := p) (pos := pos) (X := X) (by show X.env.scope.names.lookup _ = _; rw [h.sc]; exact hg) (by rw [h.mg]; exact hm) (pt X h) (hs _)
    rw [h.K] at z; exact z
  · match ts, rv, q1 with
    | [.lst xs], .cons (.lst s rr) .nil, q1 => exact ⟨_, _, rfl, (s.mono f1.sub).sq, PK.at (show PK c P σ O1 H1 B1 _ (.ok _ _) from q1) f1 _ (itok_enum s rr)⟩
theorem ij_zip (h : AJ c P [e, e2] A) (hm : c.mg "zip" = none) (hg : c.sc.names.lookup ("zip" : Str) = some .globalImplicit := by rfl) (hs : ∀ env, starEach [e, e2] env = (false, eval e env) :: starEach [e2] env := by intro _; rfl) (hpl : ∀ env, (backTo pos (starEach [e2] env)).any (·.1) = false := by intro _; rfl) :
    IJ c P (.Tuple elts kk tpos) (.Call (.Name "zip" p) [e, e2] [] pos) (cZip A) := by
  obtain ⟨t, pt, rd⟩ := h.ex
  refine ⟨iZip c.K t, fun X h => ?_, fun r σ O H B R f q => rd r σ O H B _ f ((PK.bind q).imp fun ts r1 O1 H1 B1 f1 g1 q1 vs rv => ?_)⟩
  · have z := pi_zip (elts := elts) (kk := kk) (tpos := tpos) (p := p) (pos := pos) (X := X) (by show X.env.scope.names.lookup _ = _; rw [h.sc]; exact hg) (by rw [h.mg]; exact hm) (pt X h) (hs _) (hpl _)
    rw [h.K] at z; exact z
  · match ts, rv, q1 with
    | [.lst xs, .lst ys], .cons (.lst s rr) (.cons (.lst s2 rr2) .nil), q1 => exact ⟨_, _, _, _, rfl, (s.mono f1.sub).sq, (s2.mono f1.sub).sq, PK.at (show PK c P σ O1 H1 B1 _ (.ok _ _) from q1) f1 _ (itok_zip s rr s2 rr2)⟩
theorem ij_rev (h : AJ c P [e] A) (hm : c.mg "reversed" = none) (hg : c.sc.names.lookup ("reversed" : Str) = some .globalImplicit := by rfl) (hs : ∀ env, starEach [e] env = [(false, eval e env)] := by intro _; rfl) : IJ c P tg (.Call (.Name "reversed" p) [e] [] pos) (cRevd A) := by
  obtain ⟨t, pt, rd⟩ := h.ex
  refine ⟨iRev c.K t, fun X h => ?_, fun r σ O H B R f q => rd r σ O H B _ f ((PK.bind q).imp fun ts r1 O1 H1 B1 f1 g1 q1 vs rv => ?_)⟩
  · have z := pi_reversed (tg := tg) (p := p) (pos := pos) (X := X) (by show X.env.scope.names.lookup _ = _; rw [h.sc]; exact hg) (by rw [h.mg]; exact hm) (pt X h) (hs _)
    rw [h.K] at z; exact z
  · match ts, rv, q1 with
    | [.lst xs], .cons (.lst s rr) .nil, q1 => exact ⟨_, _, rfl, (s.mono f1.sub).sq, PK.at (show PK c P σ O1 H1 B1 _ (.ok _ _) from q1) f1 _ (itok_rev s rr)⟩
end

/-! ### for -/
def forGo (g : Gc) (F : Sc) : List T → Sl → So
  | [], r => .nx r
  | x :: xs, r => match g x r with
    | none => .no
    | some r1 => match F r1 with
      | .nx r2 => forGo g F xs r2
      | .ct r2 => forGo g F xs r2
      | .bk r2 => .nx r2
      | o => o
def cFor (I : Ac) (g : Gc) (F : Sc) : Sc := fun r => (I r).so fun ts r1 => forGo g F ts r1
section
variable {c : SC} {j : JT} {P ow : List Nat} {tg e : Expr} {I : Ac} {g : Gc} {F : Sc} {ss : List Stmt} {pos : Pos} {C : Cc}
theorem sj_for (hi : IJ c P tg e I) (hg : GJ c P ow tg g) (hb : BJ c ⟨j.fr, P, P⟩ P P ss F) (hs : ∀ env x, foldedSetIterable e env x = pure x := by intro _ _; rfl) : SJ c j P P (.For tg e ss [] pos) (cFor I g F) := by
  obtain ⟨wi, pi, ri⟩ := hi.ex
  obtain ⟨tv, pg, rg⟩ := hg.ex
  obtain ⟨tb, pb, rb⟩ := hb.ex
  refine ⟨tFor wi tv tb, fun X h => ps_for h.po h.calm (pi X h) (pg X h) (pb X h) (hs _), fun r σ O H B D f q => ri r σ O H B _ f ((SK.so q).imp fun ts r1 O1 H1 B1 f1 g1 q1 J jo => ?_)⟩
  refine ⟨fun i m σ2 H2 => i + m = ts.length ∧ ∃ r2 O2 B2, Frm c.K c.G P r2 σ2 O2 H2 B2 ∧ Grow O1 H1 B1 O2 H2 B2 ∧ SK c j P O2 H2 B2 D (forGo g F (ts.drop i) r2), ⟨ts.length, by omega, r1, O1, B1, f1, .refl, q1⟩, ?_⟩
  rintro i m σ2 H2 ⟨hm, r2, O2, B2, f2, g2, q2⟩
  cases m with
  | zero =>
    left
    have hi : i = ts.length := by omega
    rw [hi, List.drop_length] at q2
    exact ⟨jo.stop O2 H2 B2 i g2 f2.sub hi, (show SK c j P O2 H2 B2 D (.nx r2) from q2) σ2 O2 H2 B2 f2 .refl⟩
  | succ m =>
    right
    have hi : i < ts.length := by omega
    rw [List.drop_eq_getElem_cons hi] at q2
    have e1 : ts[i]? = some ts[i] := List.getElem?_eq_getElem hi
    unfold forGo at q2
    cases z : g ts[i] r2 with
    | none => rw [z] at q2; exact (show False from q2).elim
    | some r3 =>
      simp only [z] at q2
      refine ⟨jo.go O2 H2 B2 i g2 f2.sub hi, fun σ5 H5 => ∃ r5 O5 B5, Frm c.K c.G P r5 σ5 O5 H5 B5 ∧ Grow O1 H1 B1 O5 H5 B5 ∧ SK c j P O5 H5 B5 D (forGo g F (ts.drop (i + 1)) r5), fun σ' H' hN => ⟨m, by omega, by omega, hN⟩, fun x H3 y => ?_⟩
      obtain ⟨B3, pu, rx⟩ := jo.yld O2 H2 B2 i _ x H3 g2 f2.sub e1 y
      have f3 := f2.pu pu
      have g3 := g2.trans (Grow.of_pu (O := O2) pu)
      have q3 := SK.later q2 (Grow.of_pu (O := O2) pu)
      refine rg r2 σ2 O2 H3 B3 x _ r3 _ f3 rx z fun σ4 f4 _ => rb r3 σ4 O2 H3 B3 _ f4 ?_
      cases y : F r3 with
      | nx r5 =>
        simp only [y] at q3
        intro σ' O' H' B' f' g'
        exact ⟨r5, O', B', f', g3.trans g', q3.later g'⟩
      | ct r5 =>
        simp only [y] at q3
        intro σ' O' H' B' f' g'
        exact ⟨r5, O', B', f', g3.trans g', q3.later g'⟩
      | bk r5 =>
        simp only [y] at q3
        intro σ' O' H' B' f' g'
        exact (show SK c j P O2 H3 B3 D (.nx r5) from q3) σ' O' H' B' f' g'
      | rt t r5 => simp only [y] at q3; exact q3
      | ex n w r5 => simp only [y] at q3; exact q3
      | no => simp only [y] at q3; exact q3

/-! ### while -/
def whGo (C : Cc) (F : Sc) : Nat → Sl → So
  | 0, _ => .no
  | n + 1, r => match C r with
    | .ok true r1 => (match F r1 with
      | .nx r2 => whGo C F n r2
      | .ct r2 => whGo C F n r2
      | .bk r2 => .nx r2
      | o => o)
    | .ok false r1 => .nx r1
    | .ex n w r1 => .ex n w r1
    | .no => .no
/-- n: more than the turns -/
def cWh (n : Nat) (C : Cc) (F : Sc) : Sc := fun r => whGo C F n r
theorem sj_while (n : Nat) (hc : CJ c P e C) (hb : BJ c ⟨j.fr, P, P⟩ P P ss F) : SJ c j P P (.While e ss [] pos) (cWh n C F) := by
  obtain ⟨tc, pc, rc⟩ := hc.ex
  obtain ⟨tb, pb, rb⟩ := hb.ex
  refine ⟨tWhile tc tb, fun X h => ps_while h.po (pc X h) (pb X h), fun r σ O H B D f q => ?_⟩
  refine ⟨fun m σ2 H2 => ∃ r2 O2 B2, Frm c.K c.G P r2 σ2 O2 H2 B2 ∧ Grow O H B O2 H2 B2 ∧ SK c j P O2 H2 B2 D (whGo C F m r2), ⟨n, r, O, B, f, .refl, q⟩, ?_⟩
  rintro m σ2 H2 ⟨r2, O2, B2, f2, g2, q2⟩
  cases m with
  | zero => exact (show False from q2).elim
  | succ m =>
    unfold whGo at q2
    refine rc r2 σ2 O2 H2 B2 _ f2 ?_
    cases z : C r2 with
    | ok b r3 =>
      simp only [z] at q2
      intro O3 H3 B3 f3 g3
      cases b with
      | true =>
        simp only at q2
        show (if true = true then _ else _)
        rw [if_pos rfl]
        refine ⟨fun σ5 H5 => ∃ r5 O5 B5, Frm c.K c.G P r5 σ5 O5 H5 B5 ∧ Grow O H B O5 H5 B5 ∧ SK c j P O5 H5 B5 D (whGo C F m r5), fun σ' H' hN => ⟨m, Nat.lt_succ_self _, hN⟩, rb r3 σ2 O3 H3 B3 _ f3 ?_⟩
        have q3 := SK.later q2 g3
        cases y : F r3 with
        | nx r5 =>
          simp only [y] at q3
          intro σ' O' H' B' f' g'
          exact ⟨r5, O', B', f', (g2.trans g3).trans g', q3.later g'⟩
        | ct r5 =>
          simp only [y] at q3
          intro σ' O' H' B' f' g'
          exact ⟨r5, O', B', f', (g2.trans g3).trans g', q3.later g'⟩
        | bk r5 =>
          simp only [y] at q3
          intro σ' O' H' B' f' g'
          exact (show SK c j P O3 H3 B3 D (.nx r5) from q3) σ' O' H' B' f' g'
        | rt t r5 => simp only [y] at q3; exact q3
        | ex n w r5 => simp only [y] at q3; exact q3
        | no => simp only [y] at q3; exact q3
      | false =>
        simp only at q2
        show (if false = true then _ else _)
        rw [if_neg Bool.false_ne_true]
        exact (show SK c j P O2 H2 B2 D (.nx r3) from q2) σ2 O3 H3 B3 f3 g3
    | ex k w r3 =>
      simp only [z] at q2
      exact fun v d O' H' B' f' g' => (show SK c j P O2 H2 B2 D (.ex k w r3) from q2) v d σ2 P O' H' B' f' g'
    | no => simp only [z] at q2; exact (show False from q2).elim
end
end Tc

/-! Tc: list comprehensions. -/
namespace Tc
open PySem PySem.Spec L2

/-- where a comprehension's block stands -/
def SC.blk (c : SC) (scope : Scope) : SC := { c with sc := relS scope c.sc, W := fun _ _ _ _ => False, st := fun x => match scope.names.lookup x with
  | some .local => true
  | some .cell => true
  | _ => false }
theorem blk_is {c : SC} {X : Cx} (h : c.Is X) (scope : Scope) (hk : scope.kind = .function) (s : Shared) (H : Hp) (C : Addr) (cl : List (Str × Addr)) (fp : List Addr) : (c.blk scope).Is (X.blk s H scope (compEnvC scope cl C X.env) fp) := by
  refine ⟨h.prog, h.w, h.K, h.mg, h.base, h.N, h.nd, ?_, h.calm, h.room, h.grd, takes0, PassesOwn.never, fun x hx hl => ?_⟩
  · show relS scope X.env.scope = relS scope c.sc
    rw [h.sc]
  · have hx' : (match scope.names.lookup x with | some .local => true | some .cell => true | _ => false) = true := hx
    cases e : scope.names.lookup x with
    | none => rw [e] at hx'; cases hx'
    | some k =>
      rw [e] at hx'
      cases k with
      | «local» => exact .inr (lookup_relS_keep (sc := X.env.scope) (by decide) e)
      | cell => exact .inl (by show (scope.names.lookup x == some .cell) = true; rw [e]; rfl)
      | _ => cases hx'

def wipeT (r : Sl) : List Nat → Sl
  | [] => r
  | v :: vs => (wipeT r vs).set v none
def backT (r0 r : Sl) : List Nat → Sl
  | [] => r
  | v :: vs => (backT r0 r vs).set v (r0.getD v none)
def lcGo (own : List Nat) (g : Gc) (C : Cc) (E : Ec) : List T → List T → Sl → Out (List T)
  | [], acc, r => .ok acc r
  | x :: xs, acc, r => match g x r with
    | none => .no
    | some r1 => match C r1 with
      | .ok true r2 => (match E r2 with
        | .ok y r3 => if acc.length < 1000000 then lcGo own g C E xs (acc ++ [y]) (wipeT r3 own) else .no
        | _ => .no)
      | .ok false r2 => lcGo own g C E xs acc (wipeT r2 own)
      | _ => .no
def cLc (own : List Nat) (I : Ac) (g : Gc) (C : Cc) (E : Ec) : Ec := fun r => (I r).bind fun ts r1 => (lcGo own g C E ts [] (wipeT r1 own)).bind fun acc r2 => .ok (.lst acc) (backT r1 r2 own)
def cTrue : Cc := fun r => .ok true r

theorem wipe_get {α : Type} : ∀ (own : List Nat) (f : List Nat → List (Option α)) (_ : ∀ v vs, f (v :: vs) = (f vs).set v none) (k : Nat), k ∉ own → (f own)[k]? = (f [])[k]?
  | [], _, _, _, _ => rfl
  | v :: vs, f, hf, k, hk => by
    rw [hf, List.getElem?_set_ne fun z => hk (by rw [z]; exact List.mem_cons_self ..)]
    exact wipe_get vs f hf k fun z => hk (List.mem_cons_of_mem _ z)
theorem wipeT_get {r : Sl} {own : List Nat} {k : Nat} (h : k ∉ own) : (wipeT r own)[k]? = r[k]? := wipe_get own (wipeT r) (fun _ _ => rfl) k h
theorem wipeσ_get {σ : L2.St} {own : List Nat} {k : Nat} (h : k ∉ own) : (wipe σ own)[k]? = σ[k]? := wipe_get own (wipe σ) (fun _ _ => rfl) k h
theorem wipeT_len (r : Sl) : ∀ own : List Nat, (wipeT r own).length = r.length
  | [] => rfl
  | v :: vs => by unfold wipeT; rw [List.length_set, wipeT_len r vs]
theorem wipeT_none {r : Sl} : ∀ {own : List Nat} {k : Nat} {t : T}, k ∈ own → (wipeT r own)[k]? ≠ some (some t)
  | v :: vs, k, t, h => by
    intro e
    unfold wipeT at e
    by_cases hv : v = k
    · subst hv
      by_cases hl : v < (wipeT r vs).length
      · rw [List.getElem?_set_self hl] at e; cases e
      · rw [List.getElem?_eq_none (by simpa using hl)] at e; cases e
    · rw [List.getElem?_set_ne hv] at e
      rcases List.mem_cons.mp h with z | z
      · exact hv z.symm
      · exact wipeT_none z e
theorem backT_len (r0 r : Sl) : ∀ own : List Nat, (backT r0 r own).length = r.length
  | [] => rfl
  | v :: vs => by unfold backT; rw [List.length_set, backT_len r0 r vs]
theorem backT_out {r0 r : Sl} : ∀ {own : List Nat} {k : Nat}, k ∉ own → (backT r0 r own)[k]? = r[k]?
  | [], _, _ => rfl
  | v :: vs, k, h => by
    unfold backT
    rw [List.getElem?_set_ne fun z => h (by rw [z]; exact List.mem_cons_self ..)]
    exact backT_out fun z => h (List.mem_cons_of_mem _ z)
theorem backT_in {r0 r : Sl} (hl : r0.length = r.length) : ∀ {own : List Nat} {k : Nat} {t : T}, k ∈ own → (backT r0 r own)[k]? = some (some t) → r0[k]? = some (some t)
  | v :: vs, k, t, h, e => by
    unfold backT at e
    by_cases hv : v = k
    · subst hv
      by_cases hlt : v < (backT r0 r vs).length
      · rw [List.getElem?_set_self hlt] at e
        have e' := Option.some.inj e
        rw [List.getD_eq_getElem?_getD] at e'
        cases z : r0[v]? with
        | none => rw [z] at e'; cases e'
        | some o => rw [z] at e'; exact congrArg some e'
      · rw [List.getElem?_eq_none (by simpa using hlt)] at e; cases e
    · rw [List.getElem?_set_ne hv] at e
      rcases List.mem_cons.mp h with z | z
      · exact absurd z.symm hv
      · exact backT_in hl z e
section
variable {K : PySem.W.Frag} {G : GI} {P own : List Nat} {r r0 : Sl} {σ : L2.St} {O O1 : Addr → Prop} {H B H1 B1 : Hp}
theorem Frm.wip (f : Frm K G P r σ O H B) (ho : ∀ k ∈ own, k ∉ P) : Frm K G P (wipeT r own) (L2.wipe σ own) O H B := by
  refine ⟨f.sub, f.out, f.liv, fun i t e n => ?_, fun i hi => ?_, fun i k p hi hk e1 e2 => ?_, by rw [wipeT_len, wipe_length]; exact f.len, by rw [wipeT_len]; exact f.siz, fun g e => ?_⟩
  · by_cases hi : i ∈ own
    · exact absurd e (wipeT_none hi)
    · rw [wipeT_get hi] at e
      obtain ⟨v, h1, h2⟩ := f.var i t e n
      exact ⟨v, by rw [wipeσ_get hi]; exact h1, h2⟩
  · have h := fun z => ho i z hi
    obtain ⟨p, vs, ts, h1, h2, h3⟩ := f.prv i hi
    exact ⟨p, vs, ts, by rw [wipeT_get h]; exact h1, by rw [wipeσ_get h]; exact h2, h3⟩
  · rw [wipeσ_get fun z => ho i z hi] at e1
    rw [wipeσ_get fun z => ho k z hk] at e2
    exact f.sep i k p hi hk e1 e2
  · obtain ⟨k0, k1⟩ := f.inn g e
    exact ⟨k0, by rw [wipeσ_get fun z => ho 0 z k0]; exact k1⟩
theorem Frm.unwipe (f0 : Frm K G P r0 σ O H B) (f : Frm K G P r (wipe σ own) O1 H1 B1) (bb : Same B B1) (ho : ∀ k ∈ own, k ∉ P) : Frm K G P (backT r0 r own) σ O1 H1 B1 := by
  have hl : r0.length = r.length := f0.siz.trans f.siz.symm
  refine ⟨f.sub, f.out, f.liv, fun i t e n => ?_, fun i hi => ?_, f0.sep, by rw [backT_len, ← hl]; exact f0.len, by rw [backT_len]; exact f.siz, f0.inn⟩
  · by_cases hi : i ∈ own
    · obtain ⟨v, h1, h2⟩ := f0.var i t (backT_in hl hi e) n
      exact ⟨v, h1, h2.mono bb⟩
    · rw [backT_out hi] at e
      obtain ⟨v, h1, h2⟩ := f.var i t e n
      exact ⟨v, by rw [wipeσ_get hi] at h1; exact h1, h2⟩
  · have h := fun z => ho i z hi
    obtain ⟨p, vs, ts, h1, h2, h3⟩ := f.prv i hi
    exact ⟨p, vs, ts, by rw [backT_out h]; exact h1, by rw [wipeσ_get h] at h2; exact h2, h3⟩
end
theorem wipe_ext {σ σ' : L2.St} (hl : σ'.length = σ.length) : ∀ {own : List Nat}, (∀ k, k ∉ own → σ'[k]? = σ[k]?) → wipe σ' own = wipe σ own := by
  intro own h
  refine List.ext_getElem? fun k => ?_
  by_cases hk : k ∈ own
  · have key : ∀ (s : L2.St) (own : List Nat), k ∈ own → (wipe s own)[k]? = if k < s.length then some none else none := by
      intro s own
      induction own with
      | nil => intro z; cases z
      | cons v vs ih =>
        intro z
        unfold wipe
        by_cases hv : v = k
        · subst hv
          by_cases hlt : v < s.length
          · rw [if_pos hlt, List.getElem?_set_self (by rw [wipe_length]; exact hlt)]
          · rw [if_neg hlt, List.getElem?_eq_none (by rw [List.length_set, wipe_length]; omega)]
        · rw [List.getElem?_set_ne hv]
          exact ih ((List.mem_cons.mp z).resolve_left fun y => hv y.symm)
    rw [key _ _ hk, key _ _ hk, hl]
  · rw [wipeσ_get hk, wipeσ_get hk]; exact h k hk

/-- a clause's tests -/
structure IfJ (c : SC) (P : List Nat) (ifs : List Expr) (C : Cc) : Prop where
  ex : ∃ t : TT, (∀ X, c.Is X → PTs X ifs t) ∧ ∀ r σ O H B Q, Frm c.K c.G P r σ O H B → PK c P σ O H B (GoodC Q) (C r) → t σ H Q
section
variable {c : SC} {P own : List Nat} {e tg it : Expr} {ifs : List Expr} {scope : Scope} {C : Cc} {I : Ac} {g : Gc} {E : Ec} {pos : Pos} {j : JT} {P' : List Nat}
theorem ifj_nil : IfJ c P [] cTrue := ⟨tYes, fun X h => pts_nil, fun r σ O H B Q f q => PK.at (show PK _ _ _ _ _ _ _ (.ok _ _) from q) f⟩
theorem ifj_one (h : CJ c P e C) : IfJ c P [e] C := by
  obtain ⟨t, p, rd⟩ := h.ex
  exact ⟨t, fun X h => pts_one (p X h), rd⟩

theorem Frm.ofwipe {K : PySem.W.Frag} {G : GI} {r : Sl} {σ : L2.St} {O : Addr → Prop} {H B : Hp} (f : Frm K G P r (wipe σ own) O H B) (hσ : ∀ i j p, i ∈ P → j ∈ P → σ[i]? = some (some (.ref p)) → σ[j]? = some (some (.ref p)) → i = j) : Frm K G P r σ O H B := by
  refine ⟨f.sub, f.out, f.liv, fun i t e n => ?_, fun i hi => ?_, hσ, by rw [f.len, wipe_length], f.siz, fun g e => ?_⟩
  · obtain ⟨v, h1, h2⟩ := f.var i t e n
    exact ⟨v, (wipe_some h1).1, h2⟩
  · obtain ⟨p, vs, ts, h1, h2, h3⟩ := f.prv i hi
    exact ⟨p, vs, ts, h1, (wipe_some h2).1, h3⟩
  · obtain ⟨k0, k1⟩ := f.inn g e
    exact ⟨k0, (wipe_some k1).1⟩
/-- an object that is neither seen nor owned is changed -/
theorem Frm.side {K : PySem.W.Frag} {G : GI} {r : Sl} {σ : L2.St} {O : Addr → Prop} {H B : Hp} {D : Addr} {o : HO} (f : Frm K G P r σ O H B) (n : ¬ O D) (b : B D = none) : Frm K G P r σ O (upd H D o) B := by
  refine ⟨fun a u e => ?_, f.out, fun a h => ?_, f.var, fun i hi => ?_, f.sep, f.len, f.siz, f.inn⟩
  · rw [upd_ne (ne_of_none e b)]; exact f.sub _ _ e
  · rw [upd_ne fun z : a = D => n (z ▸ h)]; exact f.liv a h
  · obtain ⟨p, vs, ts, h1, h2, h3, h4, h5⟩ := f.prv i hi
    exact ⟨p, vs, ts, h1, h2, h3, by rw [upd_ne fun z : p = D => n (z ▸ h3)]; exact h4, h5⟩

/-- the reading of a comprehension -/
theorem lc_read {wi : TI} {tv : TG} {tt : TT} {te : TE} (ho : ∀ k ∈ own, k ∉ P)
    (ri : ∀ r σ O H B (R : It → Hp → Prop), Frm c.K c.G P r σ O H B → PK c P σ O H B (fun ts _ O' H' B' => ∀ J, ItOk c J ts O' H' B' → R J H') (I r) → wi σ H R)
    (rg : ∀ r σ O H B v t r' (Q : L2.St → Hp → Prop), Frm c.K c.G P r σ O H B → Rep c.K B v t → g t r = some r' → (∀ σ', Frm c.K c.G P r' σ' O H B → (∀ k, k ∉ own → σ'[k]? = σ[k]?) → Q σ' H) → tv v σ H Q)
    (rc : ∀ r σ O H B Q, Frm c.K c.G P r σ O H B → PK (c.blk scope) P σ O H B (GoodC Q) (C r) → tt σ H Q)
    (re : ∀ r σ O H B Q, Frm c.K c.G P r σ O H B → PK (c.blk scope) P σ O H B (GoodT (c.blk scope) Q) (E r) → te σ H Q)
    {r : Sl} {σ : L2.St} {O : Addr → Prop} {H B : Hp} {Q : VK} (f : Frm c.K c.G P r σ O H B) (q : PK c P σ O H B (GoodF c P σ Q) (cLc own I g C E r)) : tLc wi tv tt te own σ H Q := by
  refine ri r σ O H B _ f ((PK.bind q).imp fun ts r1 O1 H1 B1 f1 g1 q1 J jo D hD => ?_)
  have q1 := PK.bind0 q1
  have pu0 : Pu H1 B1 (upd H1 D (.lst [])) B1 := .hid f1.sub hD
  have f1' := f1.pu pu0
  have bD : B1 D = none := f1.sub.free hD
  have oD : ¬ O1 D := fun z => f1.liv D z hD
  have nD : ∀ i ∈ P, σ[i]? ≠ some (some (.ref D)) := fun i hi z => by
    obtain ⟨p, ws, us, h1, h2, h3, h4, h5⟩ := f1.prv i hi
    rw [h2] at z
    cases z
    rw [hD] at h4; cases h4
  have ww : wipe (wipe σ own) own = wipe σ own := wipe_ext (wipe_length _ _) fun k hk => wipeσ_get hk
  refine ⟨fun i m H2 => i + m = ts.length ∧ ∃ r2 O2 B2 acc av, Frm c.K c.G P r2 (wipe σ own) O2 H2 B2 ∧ Grow O1 H1 B1 O2 H2 B2 ∧ ¬ O2 D ∧ B2 D = none ∧ H2 D = some (.lst av) ∧ Reps c.K B2 av acc ∧
    PK c P σ O1 H1 B1 (fun acc r2 _ _ _ => PK c P σ O1 H1 B1 (GoodF c P σ Q) (.ok (.lst acc) (backT r1 r2 own))) (lcGo own g C E (ts.drop i) acc r2), ⟨ts.length, by omega, wipeT r1 own, O1, B1, [], [], f1'.wip ho, .of_pu pu0, oD, bD, upd_same, .nil, q1⟩, ?_⟩
  rintro i m H2 ⟨hm, r2, O2, B2, acc, av, f2, g2, nO, nB, hHD, ra, q2⟩
  cases m with
  | zero =>
    left
    have hi : i = ts.length := by omega
    refine ⟨jo.stop O2 H2 B2 i g2 f2.sub hi, ?_⟩
    rw [hi, List.drop_length] at q2
    have fb := f1.unwipe f2 g2.bb ho
    have q3 := (show PK c P σ O1 H1 B1 _ (.ok acc r2) from q2) O2 H2 B2 (f2.ofwipe f1.sep) g2
    refine (show PK c P σ O1 H1 B1 (GoodF c P σ Q) (.ok (.lst acc) (backT r1 r2 own)) from q3) (fun a => O2 a ∨ a = D) H2 B2 ⟨fb.sub, fun a h => ?_, fun a h => ?_, fb.var, fun i hi => ?_, fb.sep, fb.len, fb.siz, fb.inn⟩ ?_ D av acc rfl (.inr rfl) nD hHD ra
    · rcases h with h | h
      · exact fb.out a h
      · rw [h]; exact nB
    · rcases h with h | h
      · exact fb.liv a h
      · rw [h, hHD]; exact fun z => nomatch z
    · obtain ⟨p, vs, ts, h1, h2, h3, h4, h5⟩ := fb.prv i hi
      exact ⟨p, vs, ts, h1, h2, .inl h3, h4, h5⟩
    · exact ⟨g2.bb, g2.nb, g2.hh, fun a h => h.elim (g2.oo a) fun z => .inr (z ▸ hD)⟩
  | succ m =>
    right
    have hi : i < ts.length := by omega
    rw [List.drop_eq_getElem_cons hi] at q2
    have e1 : ts[i]? = some ts[i] := List.getElem?_eq_getElem hi
    unfold lcGo at q2
    cases z : g ts[i] r2 with
    | none => simp only [z] at q2; exact (show False from q2).elim
    | some r3 =>
      simp only [z] at q2
      refine ⟨jo.go O2 H2 B2 i g2 f2.sub hi, fun H5 => ∃ r5 O5 B5 acc av, Frm c.K c.G P r5 (wipe σ own) O5 H5 B5 ∧ Grow O1 H1 B1 O5 H5 B5 ∧ ¬ O5 D ∧ B5 D = none ∧ H5 D = some (.lst av) ∧ Reps c.K B5 av acc ∧
        PK c P σ O1 H1 B1 (fun acc r2 _ _ _ => PK c P σ O1 H1 B1 (GoodF c P σ Q) (.ok (.lst acc) (backT r1 r2 own))) (lcGo own g C E (ts.drop (i + 1)) acc r5), fun H' hN => ⟨m, by omega, by omega, hN⟩, fun x H3 y => ?_⟩
      obtain ⟨B3, pu, rx⟩ := jo.yld O2 H2 B2 i _ x H3 g2 f2.sub e1 y
      have f3 := f2.pu pu
      have g3 := g2.trans (Grow.of_pu (O := O2) pu)
      have h3D := pu.hh _ _ hHD
      -- what stays of the new list through the code of a turn
      have stay : ∀ {O5 H5 B5}, Grow O2 H3 B3 O5 H5 B5 → ¬ O5 D ∧ B5 D = none ∧ H5 D = some (.lst av) := fun {O5 H5 B5} g5 => by
        refine ⟨fun z => (g5.oo D z).elim nO (fun y => by rw [h3D] at y; cases y), ?_, g5.hh D _ h3D nO⟩
        cases e : B5 D with
        | none => rfl
        | some o =>
          rcases g5.nb D o e with y | y | y
          · rcases pu.nb D o y with x | x
            · rw [nB] at x; cases x
            · rw [hHD] at x; cases x
          · rw [h3D] at y; cases y
          · exact absurd y nO
      refine rg r2 (wipe σ own) O2 H3 B3 x _ r3 _ f3 rx z fun σ4 f4 k4 => ⟨?_, ?_⟩
      · have hl : σ4.length = (wipe σ own).length := by rw [← f4.len, ← f3.len, f4.siz, f3.siz]
        rw [wipe_ext hl k4, ww]
      · have hl : σ4.length = (wipe σ own).length := by rw [← f4.len, ← f3.len, f4.siz, f3.siz]
        have w4 : wipe σ4 own = wipe σ own := by rw [wipe_ext hl k4, ww]
        refine rc r3 σ4 O2 H3 B3 _ f4 ?_
        cases y : C r3 with
        | ok b r5 =>
          simp only [y] at q2
          intro O5 H5 B5 f5 g5
          cases b with
          | false =>
            obtain ⟨s1, s2, s3⟩ := stay g5
            show (if false = true then _ else _)
            rw [if_neg Bool.false_ne_true]
            exact ⟨wipeT r5 own, O5, B5, acc, av, w4 ▸ f5.wip ho, g3.trans g5, s1, s2, s3, (ra.mono pu.bb).mono g5.bb, q2⟩
          | true =>
            show (if true = true then _ else _)
            rw [if_pos rfl]
            refine re r5 σ4 O5 H5 B5 _ f5 ?_
            cases ye : E r5 with
            | ok t r6 =>
              simp only [ye] at q2
              intro O6 H6 B6 f6 g6 yv rv
              obtain ⟨s1, s2, s3⟩ := stay (g5.trans g6)
              by_cases hz : acc.length < 1000000
              · rw [if_pos hz] at q2
                have ra6 := ((ra.mono pu.bb).mono g5.bb).mono g6.bb
                refine ⟨av, s3, by rw [ra6.length]; exact Nat.lt_trans hz (by rw [sizeLine_eq]; decide), ?_⟩
                have f7 := (w4 ▸ f6.wip ho : Frm c.K c.G P (wipeT r6 own) (wipe σ own) O6 H6 B6).side (o := .lst (av ++ [yv])) s1 s2
                have g6' := (g3.trans g5).trans g6
                refine ⟨wipeT r6 own, O6, B6, acc ++ [t], av ++ [yv], f7, ⟨g6'.bb, g6'.nb, fun a o e n => ?_, g6'.oo⟩, s1, s2, upd_same, ra6.append (.cons rv .nil), q2⟩
                rw [upd_ne (ne_of_none e hD)]
                exact g6'.hh a o e n
              · rw [if_neg hz] at q2; exact (show False from q2).elim
            | ex n w r6 => simp only [ye] at q2; exact (show False from q2).elim
            | no => simp only [ye] at q2; exact (show False from q2).elim
        | ex n w r5 => simp only [y] at q2; exact (show False from q2).elim
        | no => simp only [y] at q2; exact (show False from q2).elim

theorem fj_lc {on : List (Str × Nat)} (hi : IJ c P tg it I) (hb : blkC c.N c.sc scope on = true) (hg : GJ (c.blk scope) P (on.map (·.2)) tg g) (hc : IfJ (c.blk scope) P ifs C) (he : EJ (c.blk scope) P e E)
    (ho : ∀ k ∈ on.map (·.2), k ∉ P := by decide) (hk : scope.kind = .function := by rfl) (hs : ∀ env x, foldedSetIterable it env x = pure x := by intro _ _; rfl) : FJ c P (.ListComp e [⟨tg, it, ifs, 0⟩] scope pos) (cLc (on.map (·.2)) I g C E) := by
  obtain ⟨wi, pi, ri⟩ := hi.ex
  obtain ⟨tv, pg, rg⟩ := hg.ex
  obtain ⟨tt, pt, rc⟩ := hc.ex
  obtain ⟨te, pe, re⟩ := he.ex
  refine ⟨tLc wi tv tt te (on.map (·.2)), fun X h => ?_, fun r σ O H B Q f q => lc_read (scope := scope) ho ri rg rc re f q⟩
  exact pe_lc (own := on) h.calm (by rw [h.N]; exact h.nd) (pi X h) (by rw [h.N, h.sc]; exact blkOk_by hb) (fun s H C cl fp => pg _ (blk_is h scope hk s H C cl fp)) (fun s H C cl fp => pt _ (blk_is h scope hk s H C cl fp)) (fun s H C cl fp => pe _ (blk_is h scope hk s H C cl fp)) (hs _)
/-- name = [..], the name a local: owned from now on -/
theorem sj_setLcF (i : Nat) {y : Str} {py spos : Pos} {on : List (Str × Nat)} (hi : IJ c P tg it I) (hb : blkC c.N c.sc scope on = true) (hg : GJ (c.blk scope) P (on.map (·.2)) tg g) (hc : IfJ (c.blk scope) P ifs C) (he : EJ (c.blk scope) P e E)
    (hsw : ∀ env : Env, env.scope = c.sc → swapsWith (.ListComp e [⟨tg, it, ifs, 0⟩] scope pos) (some (.Name y py)) spos.line env = pure true) (hyl : c.sc.names.lookup y = some .local := by rfl) (hN : c.N[i]? = some y := by rfl)
    (hlen : Nat.ble (i + 1) c.G.n = true := by rfl) (h0 : i ∈ P' := by decide) (h1 : ∀ k ∈ P', k = i ∨ k ∈ P := by decide) (h2 : ∀ k ∈ P, k ∈ P' := by decide) (hgg : c.G.g = none ∨ i ≠ 0 := by first | exact Or.inl rfl | exact Or.inr (by decide))
    (ho : ∀ k ∈ on.map (·.2), k ∉ P := by decide) (hk : scope.kind = .function := by rfl) (hs : ∀ env x, foldedSetIterable it env x = pure x := by intro _ _; rfl) :
    SJ c j P P' (.Assign [.Name y py] (.ListComp e [⟨tg, it, ifs, 0⟩] scope pos) spos) (cSet i (cLc (on.map (·.2)) I g C E)) := by
  obtain ⟨wi, pi, ri⟩ := hi.ex
  obtain ⟨tv, pg, rg⟩ := hg.ex
  obtain ⟨tt, pt, rc⟩ := hc.ex
  obtain ⟨te, pe, re⟩ := he.ex
  refine ⟨tAsg (tLc wi tv tt te (on.map (·.2))) (gName i), fun X h => ?_, fun r σ O H B D f q => ?_⟩
  · exact ps_setLc (own := on) h.calm (by rw [h.N]; exact h.nd) (by rw [h.N]; exact hN) (by rw [h.sc]; exact hyl) (hsw _ h.sc) (pi X h) (by rw [h.N, h.sc]; exact blkOk_by hb) (fun s H C cl fp => pg _ (blk_is h scope hk s H C cl fp)) (fun s H C cl fp => pt _ (blk_is h scope hk s H C cl fp)) (fun s H C cl fp => pe _ (blk_is h scope hk s H C cl fp)) (hs _)
  · refine lc_read (scope := scope) ho ri rg rc re f ((SK.so (P := P) (σ := σ) q).imp fun u r1 O1 H1 B1 f1 g1 q1 pp vs ts e hO hs hp rp => ?_)
    subst e
    exact (show SK c j P' O1 H1 B1 D (.nx _) from q1) _ O1 H1 B1 (f1.setF (by rw [f1.siz]; exact Nat.le_of_ble_eq_true hlen) hO hs hp rp h0 h1 h2 hgg) .refl
/-- .. seen by all -/
theorem sj_setLc (i : Nat) {y : Str} {py spos : Pos} {on : List (Str × Nat)} (hi : IJ c P tg it I) (hb : blkC c.N c.sc scope on = true) (hg : GJ (c.blk scope) P (on.map (·.2)) tg g) (hc : IfJ (c.blk scope) P ifs C) (he : EJ (c.blk scope) P e E)
    (hsw : ∀ env : Env, env.scope = c.sc → swapsWith (.ListComp e [⟨tg, it, ifs, 0⟩] scope pos) (some (.Name y py)) spos.line env = pure true) (hyl : c.sc.names.lookup y = some .local := by rfl) (hN : c.N[i]? = some y := by rfl)
    (hi' : i ∉ P' := by decide) (h1 : ∀ k ∈ P', k ∈ P := by decide) (h2 : ∀ k ∈ P, k = i ∨ k ∈ P' := by decide) (hgg : c.G.g = none ∨ 0 ∈ P' := by first | exact Or.inl rfl | exact Or.inr (by decide))
    (ho : ∀ k ∈ on.map (·.2), k ∉ P := by decide) (hk : scope.kind = .function := by rfl) (hs : ∀ env x, foldedSetIterable it env x = pure x := by intro _ _; rfl) :
    SJ c j P P' (.Assign [.Name y py] (.ListComp e [⟨tg, it, ifs, 0⟩] scope pos) spos) (cSet i (cLc (on.map (·.2)) I g C E)) := by
  obtain ⟨wi, pi, ri⟩ := hi.ex
  obtain ⟨tv, pg, rg⟩ := hg.ex
  obtain ⟨tt, pt, rc⟩ := hc.ex
  obtain ⟨te, pe, re⟩ := he.ex
  refine ⟨tAsg (tLc wi tv tt te (on.map (·.2))) (gName i), fun X h => ?_, fun r σ O H B D f q => ?_⟩
  · exact ps_setLc (own := on) h.calm (by rw [h.N]; exact h.nd) (by rw [h.N]; exact hN) (by rw [h.sc]; exact hyl) (hsw _ h.sc) (pi X h) (by rw [h.N, h.sc]; exact blkOk_by hb) (fun s H C cl fp => pg _ (blk_is h scope hk s H C cl fp)) (fun s H C cl fp => pt _ (blk_is h scope hk s H C cl fp)) (fun s H C cl fp => pe _ (blk_is h scope hk s H C cl fp)) (hs _)
  · refine lc_read (scope := scope) ho ri rg rc re f ((SK.so (P := P) (σ := σ) q).imp fun u r1 O1 H1 B1 f1 g1 q1 pp vs ts e hO hs hp rp => ?_)
    subst e
    obtain ⟨x1, x2, x3⟩ := f1.give hO hs hp
    exact (show SK c j P' O1 H1 B1 D (.nx _) from q1) _ _ H1 _ (x1.set (.lst (.of upd_same) (rp.mono x3)) hi' h1 h2 hgg) x2
theorem sw_lc {elt : Expr} {gs : List Comprehension} {scope : Scope} {pos py : Pos} {y : Str} {l : Nat} {env : Env} {sc : Scope} (he : env.scope = sc) (hk : sc.kind = .function) (hy : sc.names.lookup y = some .local) (hl : (py.line == pos.line) = true)
    (ha : (scope.names.any fun (n, k) => n == y && (k == .local || k == .cell)) = false) : swapsWith (.ListComp elt gs scope pos) (some (.Name y py)) l env = pure true := sw_true (by rw [he]; exact hk) (by rw [he]; exact hy) hl ha
end
end Tc

/-! Tc: what operators and built-ins do with trees. -/
namespace Tc
open PySem PySem.Spec L2

/-- lists and texts stay below this -/
abbrev LIM : Nat := 1000000
theorem lim_line {n : Nat} (h : n ≤ LIM) : n ≤ sizeLine := Nat.le_trans h (by rw [sizeLine_eq]; decide)
/-- a factor -/
def okSz (i : Int) : Bool := decide (i.natAbs.log2 < 60000000)
/-- a divisor -/
def okDv (i : Int) : Bool := decide (0 < i ∧ i.natAbs.log2 < 9000)
def mkL (ts : List T) : Option T := if ts.length ≤ LIM then some (.lst ts) else none
def addT : T → T → Option T
  | .int i, .int j => some (.int (i + j))
  | .str x, .str y => if x.length + y.length ≤ LIM then some (.str (x ++ y)) else none
  | .lst xs, .lst ys => if xs.length + ys.length ≤ LIM then some (.lst (xs ++ ys)) else none
  | .tup xs, .tup ys => if xs.length + ys.length ≤ LIM then some (.tup (xs ++ ys)) else none
  | _, _ => none
def subT : T → T → Option T
  | .int i, .int j => some (.int (i - j))
  | _, _ => none
def mulT : T → T → Option T
  | .int i, .int j => if (okSz i && okSz j) = true then some (.int (i * j)) else none
  | .lst xs, .int k => if 0 ≤ k ∧ k ≤ 1000000 ∧ xs.length * k.toNat ≤ LIM then some (.lst (List.replicate k.toNat xs).flatten) else none
  | _, _ => none
def fdivT : T → T → Option T
  | .int i, .int j => if okDv j = true then some (.int (i / j)) else none
  | _, _ => none
def modT : T → T → Option T
  | .int i, .int j => if 0 < j then some (.int (i % j)) else none
  | _, _ => none
def powT : T → T → Option T
  | .int i, .int j => if 0 ≤ j ∧ j ≤ 1000 ∧ i.natAbs.log2 < 100000 then some (.int (i ^ j.toNat)) else none
  | _, _ => none
def negT : T → Option T
  | .int i => some (.int (-i))
  | _ => none
def ltT : T → T → Option T
  | .int i, .int j => some (.bl (decide (i < j)))
  | _, _ => none
def leT : T → T → Option T
  | .int i, .int j => some (.bl (decide (i ≤ j)))
  | _, _ => none
def gtT : T → T → Option T
  | .int i, .int j => some (.bl (decide (j < i)))
  | _, _ => none
def geT : T → T → Option T
  | .int i, .int j => some (.bl (decide (j ≤ i)))
  | _, _ => none
/-- is None, is True, is False -/
def isB : T → T → Option Bool
  | .non, .non => some true
  | _, .non => some false
  | .bl a, .bl b => some (a == b)
  | .cls _, .bl _ => none
  | _, .bl _ => some false
  | _, _ => none
def isT (t u : T) : Option T := (isB t u).map .bl
def isNT (t u : T) : Option T := (isB t u).map fun b => .bl (!b)

section
variable {K : PySem.W.Frag} {X : Cx}
theorem op_catLs : OpR X (binaryOp .Add) (fun x y H Q => ∃ l b xs zs, x = .ref l ∧ y = .ref b ∧ LsAt X.K H l xs ∧ LsAt X.K H b zs ∧ xs.length + zs.length ≤ sizeLine ∧ ∀ p, H p = none → Q (.ref p) (upd H p (.lst (xs ++ zs)))) := by
  intro pins s σ H x y v u Q I rx ry h
  obtain ⟨l, b, xs, zs, rfl, rfl, hH, hB, hz, q⟩ := h
  cases rx
  cases ry
  obtain ⟨its, n, r, _, e⟩ := hH.obj I
  obtain ⟨its2, n2, r2, _, e2⟩ := hB.obj I
  have hl := r.length
  have hl2 := r2.length
  refine PySem.P.add_list e e2 ?_ (by rw [List.size_toArray, List.size_toArray]; omega)
  have ea : its.toArray ++ its2.toArray = (its ++ its2).toArray := by simp
  rw [ea]
  exact ⟨.ref _, _, I.lnew (t' := s.toks) (r.append r2) (by rw [List.length_append]; omega), rfl, q _ I.fresh⟩
abbrev rAddI : R2 := rI0 fun i j => .int (i + j)
def rAddS : R2 := fun x y H Q => ∃ i j, x = .str i ∧ y = .str j ∧ i.length + j.length ≤ sizeLine ∧ Q (.str (i ++ j)) H
def rAddL (K : PySem.W.Frag) : R2 := fun x y H Q => ∃ l b xs zs, x = .ref l ∧ y = .ref b ∧ LsAt K H l xs ∧ LsAt K H b zs ∧ xs.length + zs.length ≤ sizeLine ∧ ∀ p, H p = none → Q (.ref p) (upd H p (.lst (xs ++ zs)))
def rAdd4 (K : PySem.W.Frag) : R2 := fun x y H Q => rAddI x y H Q ∨ rAddS x y H Q ∨ rAddL K x y H Q ∨ rCatA K x y H Q
theorem op_add4 {c : SC} : ∀ X, c.Is X → OpR X (binaryOp .Add) (rAdd4 c.K) := fun X h => by
  have z := OpR.or (op_add (X := X)) (OpR.or op_add_str (OpR.or op_catLs op_catA))
  rw [h.K] at z; exact z
/-- a new tuple, a new list in the view -/
theorem Rep.newT {H B : Hp} {vs : List V} {ts : List T} (sB : Same B H) (r : Reps K B vs ts) {p : Addr} (n : H p = none) : Pu H B (upd H p (.tup vs)) (upd B p (.tup vs)) ∧ Rep K (upd B p (.tup vs)) (.ref p) (.tup ts) := by
  have pu : Pu H B (upd H p (.tup vs)) (upd B p (.tup vs)) := .new sB n
  exact ⟨pu, .tup (.inl (.inl upd_same)) (r.mono pu.bb)⟩
theorem Rep.newL {H B : Hp} {vs : List V} {ts : List T} (sB : Same B H) (r : Reps K B vs ts) {p : Addr} (n : H p = none) : Pu H B (upd H p (.lst vs)) (upd B p (.lst vs)) ∧ Rep K (upd B p (.lst vs)) (.ref p) (.lst ts) := by
  have pu : Pu H B (upd H p (.lst vs)) (upd B p (.lst vs)) := .new sB n
  exact ⟨pu, .lst (.of upd_same) (r.mono pu.bb)⟩
theorem sd_add : Sd2 K (rAdd4 K) addT := by
  intro H B x y t u z Q sB rx ry e q
  cases rx with
  | int i =>
    cases ry with
    | int j => cases e; exact .inl ⟨i, j, rfl, rfl, q _ H B (.refl sB) (.int _)⟩
    | _ => cases e
  | str i =>
    cases ry with
    | str j =>
      simp only [addT] at e
      split at e
      · rename_i hz
        cases e
        exact .inr (.inl ⟨i, j, rfl, rfl, lim_line hz, q _ H B (.refl sB) (.str _)⟩)
      · cases e
    | _ => cases e
  | lst s r =>
    cases ry with
    | lst s2 r2 =>
      simp only [addT] at e
      split at e
      · rename_i hz
        cases e
        refine .inr (.inr (.inl ⟨_, _, _, _, rfl, rfl, s.mono sB, s2.mono sB, by rw [r.length, r2.length]; exact lim_line hz, fun p hp => ?_⟩))
        obtain ⟨pu, rp⟩ := Rep.newL sB (r.append r2) hp
        exact q _ _ _ pu rp
      · cases e
    | _ => cases e
  | tup s r =>
    cases ry with
    | tup s2 r2 =>
      simp only [addT] at e
      split at e
      · rename_i hz
        cases e
        refine .inr (.inr (.inr ⟨_, _, _, _, rfl, rfl, same_tup sB s, same_tup sB s2, by rw [r.length, r2.length]; exact lim_line hz, fun h => ?_, fun h1 h2 => ?_, fun h1 h2 p hp => ?_⟩))
        · subst h
          cases r
          exact q _ H B (.refl sB) (.tup s2 r2)
        · subst h2
          cases r2
          rw [List.append_nil] at q
          exact q _ H B (.refl sB) (.tup s r)
        · obtain ⟨pu, rp⟩ := Rep.newT sB (r.append r2) hp
          exact q _ _ _ pu rp
      · cases e
    | _ => cases e
  | _ => cases e
/-- list + list alone, its list new -/
def catT : T → T → Option T
  | .lst xs, .lst ys => if xs.length + ys.length ≤ LIM then some (.lst (xs ++ ys)) else none
  | _, _ => none
theorem op_addL {c : SC} : ∀ X, c.Is X → OpR X (binaryOp .Add) (rAddL c.K) := fun X h => by
  have z := op_catLs (X := X)
  rw [h.K] at z; exact z
theorem sf_cat : Sf2 K (rAddL K) catT := by
  intro H B x y t u z Q sB rx ry e q
  cases rx with
  | lst s r =>
    cases ry with
    | lst s2 r2 =>
      simp only [catT] at e
      split at e
      · rename_i hz
        cases e
        exact ⟨_, _, _, _, rfl, rfl, s.mono sB, s2.mono sB, by rw [r.length, r2.length]; exact lim_line hz, fun p hp => q p _ _ _ rfl (.hid sB hp) hp upd_same (r.append r2)⟩
      · cases e
    | _ => cases e
  | _ => cases e
theorem sd_sub : Sd2 K (rI0 fun i j => .int (i - j)) subT := by
  intro H B x y t u z Q sB rx ry e q
  cases rx with
  | int i =>
    cases ry with
    | int j => cases e; exact ⟨i, j, rfl, rfl, q _ H B (.refl sB) (.int _)⟩
    | _ => cases e
  | _ => cases e
theorem okSz_bits {i : Int} (h : okSz i = true) : Builtin.Int.intBits i ≤ 60000000 := by
  have := of_decide_eq_true h
  unfold Builtin.Int.intBits
  split <;> omega
def rMul2 (K : PySem.W.Frag) : R2 := fun x y H Q => rI CMulX (fun i j => .int (i * j)) x y H Q ∨ ∃ l k xs, x = .ref l ∧ y = .int k ∧ LsAt K H l xs ∧ 0 ≤ k ∧ k ≤ 1000000 ∧ xs.length * k.toNat ≤ sizeLine ∧ ∀ p, H p = none → Q (.ref p) (upd H p (.lst (List.replicate k.toNat xs).flatten))
theorem sd_fdiv : Sd2 K (rI CDivW fun i j => .int (i / j)) fdivT := by
  intro H B x y t u z Q sB rx ry e q
  cases rx with
  | int i =>
    cases ry with
    | int j =>
      simp only [fdivT] at e
      split at e
      · rename_i hz
        cases e
        exact ⟨i, j, rfl, rfl, (show 0 < j ∧ j.natAbs.log2 < 9000 from of_decide_eq_true hz), q _ H B (.refl sB) (.int _)⟩
      · cases e
    | _ => cases e
  | _ => cases e
theorem sd_mod : Sd2 K (rI (fun _ j => 0 < j) fun i j => .int (i % j)) modT := by
  intro H B x y t u z Q sB rx ry e q
  cases rx with
  | int i =>
    cases ry with
    | int j =>
      simp only [modT] at e
      split at e
      · rename_i hz
        cases e
        exact ⟨i, j, rfl, rfl, hz, q _ H B (.refl sB) (.int _)⟩
      · cases e
    | _ => cases e
  | _ => cases e
def CPowW (i j : Int) : Prop := 0 ≤ j ∧ j ≤ 1000 ∧ i.natAbs.log2 < 100000
theorem op_powW : OpR X (binaryOp .Pow) (rI CPowW fun i j => .int (i ^ j.toNat)) := opI fun i j _ _ _ _ _ hc q => by
  obtain ⟨h0, h1, h2⟩ := hc
  refine PyProof.Rows.pow_int h0 ?_ q
  have hb : Builtin.Int.intBits i ≤ 100000 := by unfold Builtin.Int.intBits; split <;> omega
  have : (Builtin.Int.intBits i : Int) * j ≤ 100000 * 1000 := Int.mul_le_mul (by omega) h1 h0 (by omega)
  omega
theorem sd_pow : Sd2 K (rI CPowW fun i j => .int (i ^ j.toNat)) powT := by
  intro H B x y t u z Q sB rx ry e q
  cases rx with
  | int i =>
    cases ry with
    | int j =>
      simp only [powT] at e
      split at e
      · rename_i hz
        cases e
        exact ⟨i, j, rfl, rfl, hz, q _ H B (.refl sB) (.int _)⟩
      · cases e
    | _ => cases e
  | _ => cases e
theorem sd_neg : Sd1 K (rU fun i => .int (-i)) negT := by
  intro H B x t z Q sB rx e q
  cases rx with
  | int i => cases e; exact ⟨i, rfl, q _ H B (.refl sB) (.int _)⟩
  | _ => cases e
theorem sd_int {f : T → T → Option T} {g : Int → Int → Bool} (h : ∀ i j, f (.int i) (.int j) = some (.bl (g i j))) (hn : ∀ t u z, f t u = some z → ∃ i j, t = .int i ∧ u = .int j) : Sd2 K (rI0 fun i j => .bl (g i j)) f := by
  intro H B x y t u z Q sB rx ry e q
  obtain ⟨i, j, rfl, rfl⟩ := hn t u z e
  cases rx
  cases ry
  rw [h] at e
  cases e
  exact ⟨i, j, rfl, rfl, q _ H B (.refl sB) (.bl _)⟩
theorem sd_lt : Sd2 K (rI0 fun i j => .bl (decide (i < j))) ltT := sd_int (fun _ _ => rfl) fun t u z e => by cases t <;> cases u <;> first | exact ⟨_, _, rfl, rfl⟩ | cases e
theorem sd_le : Sd2 K (rI0 fun i j => .bl (decide (i ≤ j))) leT := sd_int (fun _ _ => rfl) fun t u z e => by cases t <;> cases u <;> first | exact ⟨_, _, rfl, rfl⟩ | cases e
theorem sd_gt : Sd2 K (rI0 fun i j => .bl (decide (j < i))) gtT := sd_int (fun _ _ => rfl) fun t u z e => by cases t <;> cases u <;> first | exact ⟨_, _, rfl, rfl⟩ | cases e
theorem sd_ge : Sd2 K (rI0 fun i j => .bl (decide (j ≤ i))) geT := sd_int (fun _ _ => rfl) fun t u z e => by cases t <;> cases u <;> first | exact ⟨_, _, rfl, rfl⟩ | cases e

/-! ### is -/
def vIs (x y : V) : Bool := match x, y with
  | .non, .non => true
  | .bl a, .bl b => a == b
  | _, _ => false
def vCon : V → Bool
  | .non => true
  | .bl _ => true
  | _ => false
theorem op_isC : OpR X (compareOp .Is) (fun x y H Q => vCon y = true ∧ Q (.bl (vIs x y)) H) := by
  intro pins s σ H x y v u Q I rx ry h
  obtain ⟨hc, q⟩ := h
  cases y with
  | non =>
    refine op_isN pins s σ H x .non v u Q I rx ry ⟨rfl, ?_⟩
    cases x <;> exact q
  | bl b =>
    cases (show u = Value.bool b from ry)
    cases x with
    | bl a =>
      cases (show v = Value.bool a from rx)
      refine op_is_bl pins s σ H (.bl a) (.bl b) _ _ Q I rfl rfl ⟨a, b, rfl, rfl, ?_⟩
      have e : decide (a = b) = (a == b) := by cases a <;> cases b <;> rfl
      rw [e]; exact q
    | non => cases (show v = Value.none from rx); exact wpAny_pure ⟨.bl false, H, I, rfl, q⟩
    | int i => obtain ⟨t, e⟩ := (show ∃ t, v = Value.int i t from rx); cases e; exact wpAny_pure ⟨.bl false, H, I, rfl, q⟩
    | str i => obtain ⟨t, e⟩ := (show ∃ t, v = Value.str i t from rx); cases e; exact wpAny_pure ⟨.bl false, H, I, rfl, q⟩
    | byt i => obtain ⟨t, e⟩ := (show ∃ t, v = Value.bytes i t from rx); cases e; exact wpAny_pure ⟨.bl false, H, I, rfl, q⟩
    | flt i => obtain ⟨t, e⟩ := (show ∃ t, v = Value.float i t from rx); cases e; exact wpAny_pure ⟨.bl false, H, I, rfl, q⟩
    | ref a => cases (show v = Value.ref a from rx); exact wpAny_pure ⟨.bl false, H, I, rfl, q⟩
    | ty n => cases (show v = Value.type n from rx); exact wpAny_pure ⟨.bl false, H, I, rfl, q⟩
  | _ => cases hc
theorem op_isnotC : OpR X (compareOp .IsNot) (fun x y H Q => vCon y = true ∧ Q (.bl (!vIs x y)) H) := by
  intro pins s σ H x y v u Q I rx ry h
  obtain ⟨hc, q⟩ := h
  cases y with
  | non =>
    refine op_notN pins s σ H x .non v u Q I rx ry ⟨rfl, ?_⟩
    cases x <;> exact q
  | bl b =>
    cases (show u = Value.bool b from ry)
    cases x with
    | bl a =>
      cases (show v = Value.bool a from rx)
      refine op_isnot_bl pins s σ H (.bl a) (.bl b) _ _ Q I rfl rfl ⟨a, b, rfl, rfl, ?_⟩
      have e : decide (a = b) = (a == b) := by cases a <;> cases b <;> rfl
      rw [e]; exact q
    | non => cases (show v = Value.none from rx); exact wpAny_pure ⟨.bl true, H, I, rfl, q⟩
    | int i => obtain ⟨t, e⟩ := (show ∃ t, v = Value.int i t from rx); cases e; exact wpAny_pure ⟨.bl true, H, I, rfl, q⟩
    | str i => obtain ⟨t, e⟩ := (show ∃ t, v = Value.str i t from rx); cases e; exact wpAny_pure ⟨.bl true, H, I, rfl, q⟩
    | byt i => obtain ⟨t, e⟩ := (show ∃ t, v = Value.bytes i t from rx); cases e; exact wpAny_pure ⟨.bl true, H, I, rfl, q⟩
    | flt i => obtain ⟨t, e⟩ := (show ∃ t, v = Value.float i t from rx); cases e; exact wpAny_pure ⟨.bl true, H, I, rfl, q⟩
    | ref a => cases (show v = Value.ref a from rx); exact wpAny_pure ⟨.bl true, H, I, rfl, q⟩
    | ty n => cases (show v = Value.type n from rx); exact wpAny_pure ⟨.bl true, H, I, rfl, q⟩
  | _ => cases hc
theorem is_vis {B : Hp} {x y : V} {t u : T} {b : Bool} (rx : Rep K B x t) (ry : Rep K B y u) (e : isB t u = some b) : vCon y = true ∧ vIs x y = b := by
  cases ry <;> first
    | (cases rx <;> first | (cases e; exact ⟨rfl, rfl⟩) | (cases e))
    | (cases t <;> cases e)
theorem sd_is : Sd2 K (fun x y H Q => vCon y = true ∧ Q (.bl (vIs x y)) H) isT := by
  intro H B x y t u z Q sB rx ry e q
  unfold isT at e
  cases h : isB t u with
  | none => rw [h] at e; cases e
  | some b =>
    rw [h] at e
    cases e
    obtain ⟨h1, h2⟩ := is_vis rx ry h
    exact ⟨h1, h2 ▸ q _ H B (.refl sB) (.bl _)⟩
theorem sd_isnot : Sd2 K (fun x y H Q => vCon y = true ∧ Q (.bl (!vIs x y)) H) isNT := by
  intro H B x y t u z Q sB rx ry e q
  unfold isNT at e
  cases h : isB t u with
  | none => rw [h] at e; cases e
  | some b =>
    rw [h] at e
    cases e
    obtain ⟨h1, h2⟩ := is_vis rx ry h
    exact ⟨h1, h2 ▸ q _ H B (.refl sB) (.bl _)⟩

/-! ### == -/
mutual
/-- as data -/
def toD : T → PyData
  | .bl b => .bool b
  | .int i => .int i
  | .str x => .str x
  | .lst xs => .list (toDs xs)
  | .tup xs => .tuple (toDs xs)
  | _ => .none
def toDs : List T → List PyData
  | [] => []
  | t :: ts => toD t :: toDs ts
end
mutual
/-- data, nested less than n deep -/
def dOk : Nat → T → Bool
  | _, .non => true
  | _, .bl _ => true
  | _, .int _ => true
  | _, .str x => x.cps.all (· < 0x110000)
  | n + 1, .lst xs => dOks n xs
  | n + 1, .tup xs => dOks n xs
  | _, _ => false
def dOks : Nat → List T → Bool
  | _, [] => true
  | n, t :: ts => dOk n t && dOks n ts
end
mutual
def eqB : T → T → Bool
  | .non, .non => true
  | .bl a, .bl b => a == b
  | .bl a, .int j => (if a then 1 else 0) == j
  | .int i, .bl b => i == (if b then 1 else 0)
  | .int i, .int j => i == j
  | .str x, .str y => x == y
  | .lst xs, .lst ys => eqBs xs ys
  | .tup xs, .tup ys => eqBs xs ys
  | _, _ => false
def eqBs : List T → List T → Bool
  | [], [] => true
  | x :: xs, y :: ys => eqB x y && eqBs xs ys
  | _, _ => false
end
def eqT (t u : T) : Option T := if (dOk 30 t && dOk 30 u) = true then some (.bl (eqB t u)) else none
def neT (t u : T) : Option T := if (dOk 30 t && dOk 30 u) = true then some (.bl (!eqB t u)) else none

end
section
variable {K : PySem.W.Frag} {X : Cx}
mutual
theorem dp_of {B : Hp} : ∀ (n : Nat) {v : V} {t : T}, Rep K B v t → dOk n t = true → Dp K B v (toD t)
  | _, _, _, .non, _ => .non
  | _, _, _, .bl b, _ => .bl b
  | _, _, _, .int i, _ => .int i
  | _, _, _, .str x, _ => .str x
  | n + 1, _, _, .lst s r, h => .lst s.sq (dps_of n r h)
  | n + 1, _, _, .tup s r, h => .tup s (dps_of n r h)
  | 0, _, _, .lst s r, h => nomatch h
  | 0, _, _, .tup s r, h => nomatch h
  | 0, _, _, .emp _, h => nomatch h
  | _ + 1, _, _, .emp _, h => nomatch h
  | 0, _, _, .ty _, h => nomatch h
  | _ + 1, _, _, .ty _, h => nomatch h
  | 0, _, _, .cls _, h => nomatch h
  | _ + 1, _, _, .cls _, h => nomatch h
theorem dps_of {B : Hp} : ∀ (n : Nat) {vs : List V} {ts : List T}, Reps K B vs ts → dOks n ts = true → DpAll K B vs (toDs ts)
  | _, _, _, .nil, _ => .nil
  | n, _, _, .cons r rs, h => .cons (dp_of n r (Bool.and_eq_true_iff.mp h).1) (dps_of n rs (Bool.and_eq_true_iff.mp h).2)
end
mutual
theorem toD_lay : ∀ (n : Nat) (t : T), dOk n t = true → (toD t).canLay0 = true ∧ (toD t).depth ≤ n
  | n, .non, _ => ⟨rfl, Nat.zero_le _⟩
  | n, .bl _, _ => ⟨rfl, Nat.zero_le _⟩
  | n, .int _, _ => ⟨rfl, Nat.zero_le _⟩
  | n, .str x, h => by
    refine ⟨?_, Nat.zero_le _⟩
    cases n <;> exact h
  | n + 1, .lst xs, h => by
    obtain ⟨h1, h2⟩ := toDs_lay n xs h
    exact ⟨h1, by show PyData.depth (.list (toDs xs)) ≤ n + 1; unfold PyData.depth; omega⟩
  | n + 1, .tup xs, h => by
    obtain ⟨h1, h2⟩ := toDs_lay n xs h
    exact ⟨h1, by show PyData.depth (.tuple (toDs xs)) ≤ n + 1; unfold PyData.depth; omega⟩
theorem toDs_lay : ∀ (n : Nat) (ts : List T), dOks n ts = true → PyData.canLayAll0 (toDs ts) = true ∧ PyData.depthAll (toDs ts) ≤ n
  | n, [], _ => ⟨rfl, Nat.zero_le _⟩
  | n, t :: ts, h => by
    obtain ⟨h1, h2⟩ := Bool.and_eq_true_iff.mp (show (dOk n t && dOks n ts) = true from h)
    obtain ⟨a1, a2⟩ := toD_lay n t h1
    obtain ⟨b1, b2⟩ := toDs_lay n ts h2
    refine ⟨Bool.and_eq_true_iff.mpr ⟨a1, b1⟩, ?_⟩
    show PyData.depthAll (toD t :: toDs ts) ≤ n
    unfold PyData.depthAll
    omega
end

mutual
theorem eqv_eq : ∀ (n m : Nat) (t u : T), dOk n t = true → dOk m u = true → PyData.eqv (toD t) (toD u) = eqB t u
  | n, m, .lst xs, u, h, h' => by
    cases u with
    | lst ys =>
      cases n with
      | zero => cases h
      | succ n =>
        cases m with
        | zero => cases h'
        | succ m => exact eqvs_eq n m xs ys h h'
    | _ => first | rfl | (cases m <;> cases h')
  | n, m, .tup xs, u, h, h' => by
    cases u with
    | tup ys =>
      cases n with
      | zero => cases h
      | succ n =>
        cases m with
        | zero => cases h'
        | succ m => exact eqvs_eq n m xs ys h h'
    | _ => first | rfl | (cases m <;> cases h')
  | _, _, .non, u, _, h' => by cases u <;> first | rfl | (rename_i m _ _; cases m <;> cases h') | (rename_i m _; cases m <;> cases h')
  | _, _, .bl _, u, _, h' => by cases u <;> first | rfl | (rename_i m _ _; cases m <;> cases h') | (rename_i m _; cases m <;> cases h')
  | _, _, .int _, u, _, h' => by cases u <;> first | rfl | (rename_i m _ _; cases m <;> cases h') | (rename_i m _; cases m <;> cases h')
  | _, _, .str _, u, _, h' => by cases u <;> first | rfl | (rename_i m _ _; cases m <;> cases h') | (rename_i m _; cases m <;> cases h')
  | n, _, .emp, _, h, _ => by cases n <;> cases h
  | n, _, .exc _ _, _, h, _ => by cases n <;> cases h
  | n, _, .clo _ _, _, h, _ => by cases n <;> cases h
  | n, _, .ty _, _, h, _ => by cases n <;> cases h
  | n, _, .cls _, _, h, _ => by cases n <;> cases h
theorem eqvs_eq : ∀ (n m : Nat) (ts us : List T), dOks n ts = true → dOks m us = true → PyData.eqvAll (toDs ts) (toDs us) = eqBs ts us
  | _, _, [], [], _, _ => rfl
  | _, _, [], _ :: _, _, _ => rfl
  | _, _, _ :: _, [], _, _ => rfl
  | n, m, t :: ts, u :: us, h, h' => by
    obtain ⟨h1, h2⟩ := Bool.and_eq_true_iff.mp (show (dOk n t && dOks n ts) = true from h)
    obtain ⟨k1, k2⟩ := Bool.and_eq_true_iff.mp (show (dOk m u && dOks m us) = true from h')
    have a := eqv_eq n m t u h1 k1
    have b := eqvs_eq n m ts us h2 k2
    show (PyData.eqv (toD t) (toD u) && PyData.eqvAll (toDs ts) (toDs us)) = (eqB t u && eqBs ts us)
    rw [a, b]
end
end
section
variable {K : PySem.W.Frag} {X : Cx}
theorem shaped_of {n : Nat} {t : T} (h : dOk n t = true) (hn : n ≤ 64) : SeqAt.shaped (toD t) = true := by
  obtain ⟨h1, h2⟩ := toD_lay n t h
  exact Bool.and_eq_true_iff.mpr ⟨h1, decide_eq_true (Nat.le_trans h2 hn)⟩
theorem op_eqK {c : SC} : ∀ X, c.Is X → OpR X (compareOp .Eq) (rEqD c.K) := fun X h => by
  have z := op_eqD (X := X) (h.room.units)
  rw [h.K] at z; exact z
theorem op_neK {c : SC} : ∀ X, c.Is X → OpR X (compareOp .NotEq) (rNeD c.K) := fun X h => by
  have z := op_neD (X := X) (h.room.units)
  rw [h.K] at z; exact z
theorem sd_eq : Sd2 K (rEqD K) eqT := by
  intro H B x y t u z Q sB rx ry e q
  unfold eqT at e
  split at e
  · rename_i h
    cases e
    obtain ⟨h1, h2⟩ := Bool.and_eq_true_iff.mp h
    refine ⟨toD t, toD u, dp_of 30 (rx.mono sB) h1, dp_of 30 (ry.mono sB) h2, shaped_of h1 (by decide), shaped_of h2 (by decide), ?_⟩
    rw [eqv_eq 30 30 t u h1 h2]
    exact q _ H B (.refl sB) (.bl _)
  · cases e
theorem sd_ne : Sd2 K (rNeD K) neT := by
  intro H B x y t u z Q sB rx ry e q
  unfold neT at e
  split at e
  · rename_i h
    cases e
    obtain ⟨h1, h2⟩ := Bool.and_eq_true_iff.mp h
    refine ⟨toD t, toD u, dp_of 30 (rx.mono sB) h1, dp_of 30 (ry.mono sB) h2, shaped_of h1 (by decide), shaped_of h2 (by decide), ?_⟩
    rw [eqv_eq 30 30 t u h1 h2]
    exact q _ H B (.refl sB) (.bl _)
  · cases e
/-! ### * -/
theorem op_repLs : OpR X (binaryOp .Mult) (fun x y H Q => ∃ l k xs, x = .ref l ∧ y = .int k ∧ LsAt X.K H l xs ∧ 0 ≤ k ∧ k ≤ 1000000 ∧ xs.length * k.toNat ≤ sizeLine ∧ ∀ p, H p = none → Q (.ref p) (upd H p (.lst (List.replicate k.toNat xs).flatten))) := by
  intro pins s σ H x y v u Q I rx ry h
  obtain ⟨l, k, xs, rfl, rfl, hL, h0, h1, hz, q⟩ := h
  cases rx
  obtain ⟨t, rfl⟩ := ry
  obtain ⟨its, n, r, zz, e⟩ := hL.obj I
  have hl := r.length
  have hlen : its.toArray.size * k.toNat ≤ sizeLine := by rw [List.size_toArray, ← hl]; exact hz
  have hcap : ¬ its.toArray.size * k.toNat > (2 ^ 63 - 1) / 8 := by
    have : (sizeLine : Nat) ≤ (2 ^ 63 - 1) / 8 := by decide
    omega
  have hfit : ¬ (!Builtin.List.listFitsIndex k) = true := by
    rw [PySem.fitsIndex_both (by omega) (by omega)]
    exact Bool.false_ne_true
  have hlong : ¬ Builtin.List.listTooLong (its.toArray.size * k.toNat) = true := by
    rw [notLongL hlen]
    exact Bool.false_ne_true
  have hnew : List.foldl (fun x1 x2 => x1 ++ x2) #[] (List.replicate (if its.toArray.isEmpty = true then 0 else k.toNat) its.toArray) = (List.replicate k.toNat its).flatten.toArray := by
    have f0 : ∀ m : Nat, List.foldl (fun x1 x2 => x1 ++ x2) #[] (List.replicate m its.toArray) = (List.replicate m its).flatten.toArray := fun m => by
      have := foldl_rep its m []
      rw [List.nil_append] at this
      exact this
    rw [f0]
    cases its with
    | nil => simp
    | cons a r' => rw [if_neg (by simp)]
  refine wpAny_binaryOp_repeat_ref (T := "list") (U := "int") (by decide) ⟨_, e, rfl⟩ (fun s' => typeIs_int s' k t) PySem.noFill_list_mul PySem.F.fills_int_mul PySem.F.slot_int_rmul PySem.repeat_list PySem.F.slot_int_index.lookup
    (call_meets PySem.F.slot_int_rmul (typeIs_int s k t) PySem.F.entry_int_rmul (PySem.F.args_int_rmul_2 _ _) (int___rmul___int_list k t l its.toArray n)
      ⟨e, rfl, ⟨_, e, rfl⟩, call_meets PySem.F.slot_list_mul ⟨_, e, rfl⟩ PySem.F.entry_list_mul (PySem.F.args_list_mul_2 _ _) (AutoListH.list___mul___list_int_3 l its.toArray n k t hfit hcap hlong) ⟨e, ?_⟩⟩)
  rw [hnew]
  exact ⟨.ref _, _, I.lnew (t' := s.toks) (r.rep k.toNat) (by rw [PyProof.Rows.lm_len_rep_flat, Nat.mul_comm]; exact hz), rfl, q _ I.fresh⟩
theorem op_mul2 {c : SC} : ∀ X, c.Is X → OpR X (binaryOp .Mult) (rMul2 c.K) := fun X h => by
  have z := OpR.or (op_mulX (X := X)) op_repLs
  rw [h.K] at z; exact z
theorem Reps.rep {B : Hp} {vs : List V} {ts : List T} (r : Reps K B vs ts) : ∀ n : Nat, Reps K B (List.replicate n vs).flatten (List.replicate n ts).flatten
  | 0 => .nil
  | n + 1 => by
    rw [List.replicate_succ, List.replicate_succ, List.flatten_cons, List.flatten_cons]
    exact r.append (Reps.rep r n)
theorem sd_mul : Sd2 K (rMul2 K) mulT := by
  intro H B x y t u z Q sB rx ry e q
  cases rx with
  | int i =>
    cases ry with
    | int j =>
      simp only [mulT] at e
      split at e
      · rename_i hz
        cases e
        obtain ⟨h1, h2⟩ := Bool.and_eq_true_iff.mp hz
        have b1 := okSz_bits h1
        have b2 := okSz_bits h2
        exact .inl ⟨i, j, rfl, rfl, (by unfold CMulX; omega), q _ H B (.refl sB) (.int _)⟩
      · cases e
    | _ => cases e
  | lst s r =>
    cases ry with
    | int j =>
      simp only [mulT] at e
      split at e
      · rename_i hz
        cases e
        obtain ⟨h1, h2, h3⟩ := hz
        refine .inr ⟨_, j, _, rfl, rfl, s.mono sB, h1, h2, by rw [r.length]; exact lim_line h3, fun p hp => ?_⟩
        obtain ⟨pu, rp⟩ := Rep.newL sB (r.rep j.toNat) hp
        exact q _ _ _ pu rp
      · cases e
    | _ => cases e
  | _ => cases e
/-- [..] * n, its list new -/
def repT : T → T → Option T
  | .lst xs, .int k => if 0 ≤ k ∧ k ≤ 1000000 ∧ xs.length * k.toNat ≤ LIM then some (.lst (List.replicate k.toNat xs).flatten) else none
  | _, _ => none
theorem sf_rep : Sf2 K (rMul2 K) repT := by
  intro H B x y t u z Q sB rx ry e q
  cases rx with
  | lst s r =>
    cases ry with
    | int j =>
      simp only [repT] at e
      split at e
      · rename_i hz
        cases e
        obtain ⟨h1, h2, h3⟩ := hz
        exact .inr ⟨_, j, _, rfl, rfl, s.mono sB, h1, h2, by rw [r.length]; exact lim_line h3, fun p hp => q p _ _ _ rfl (.hid sB hp) hp upd_same (r.rep j.toNat)⟩
      · cases e
    | _ => cases e
  | _ => cases e
end
end Tc

/-! Tc: places, slices, displays, built-ins. -/
namespace Tc
open PySem PySem.Spec L2

section
variable {c : SC} {P : List Nat} {σ : L2.St} {a b d e : Expr} {es : List Expr} {Fa Fb F : Ec} {A : Ac} {pos p q : Pos}

/-! ### x[i] -/
def strAt (x : Str) (i : Int) : Option T := match atI x.cps.toList i with
  | some k => some (.str ⟨#[k]⟩)
  | none => none
def ixT : T → T → Option T
  | .lst xs, .int i => atI xs i
  | .tup xs, .int i => atI xs i
  | .str x, .int i => if x.length ≤ LIM then strAt x i else none
  | _, _ => none
theorem atI_reps {K : PySem.W.Frag} {B : Hp} {vs : List V} {ts : List T} {i : Int} {t : T} (r : Reps K B vs ts) (h : atI ts i = some t) : ∃ v, atI vs i = some v ∧ Rep K B v t := by
  unfold atI at h ⊢
  rw [r.length]
  cases z : ixN ts.length i with
  | none => rw [z] at h; cases h
  | some j =>
    rw [z] at h
    exact r.get h
theorem ix_K : ∀ X, c.Is X → IxR X (rIx c.K) := fun X h => by
  have z := ix_seq (X := X)
  rw [h.K] at z; exact z
theorem sd_ix {K : PySem.W.Frag} : Sd2 K (rIx K) ixT := by
  intro H B x y t u z Q sB rx ry e q
  cases rx with
  | lst s r =>
    cases ry with
    | int i =>
      obtain ⟨v, e1, e2⟩ := atI_reps r e
      exact .inl ⟨_, _, i, v, rfl, rfl, (s.mono sB).sq, e1, q v H B (.refl sB) e2⟩
    | _ => cases e
  | tup s r =>
    cases ry with
    | int i =>
      obtain ⟨v, e1, e2⟩ := atI_reps r e
      exact .inr (.inl ⟨_, _, i, v, rfl, rfl, same_tup sB s, e1, q v H B (.refl sB) e2⟩)
    | _ => cases e
  | str s =>
    cases ry with
    | int i =>
      simp only [ixT] at e
      split at e
      · rename_i hz
        unfold strAt at e
        split at e
        · rename_i k hk
          cases e
          exact .inr (.inr ⟨s, i, k, rfl, rfl, lim_line hz, hk, q _ H B (.refl sB) (.str _)⟩)
        · cases e
      · cases e
    | _ => cases e
  | _ => cases e
theorem ej_ix (ha : EJ c P a Fa) (hb : EJ c P b Fb) (hs : PlainIx b := by intro _ _; rfl) : EJ c P (.Subscript a b pos) (cBin ixT Fa Fb) := by
  obtain ⟨ta, pa, ra⟩ := ha.ex
  obtain ⟨tb, pb, rb⟩ := hb.ex
  refine ⟨tOp (rIx c.K) ta tb, fun X h => pe_ix (ix_K X h) (pa X h) (pb X h) hs, fun r σ O H B Q fr q => ?_⟩
  refine ra r σ O H B _ fr ((PK.bind q).imp fun t r1 O1 H1 B1 f1 g1 q1 v rv => ?_)
  refine rb r1 σ O1 H1 B1 _ f1 ((PK.bind q1).imp fun u r2 O2 H2 B2 f2 g2 q2 w rw' => ?_)
  obtain ⟨z, ez, q3⟩ := PK.opt q2
  exact sd_ix H2 B2 v w t u z Q f2.sub (rv.mono g2.bb) rw' ez fun v' H' B' p rp => q3.pu f2 p v' rp
/-- x[i], x owned: an item is given as it stands -/
def cPix (i : Nat) (Fb : Ec) : Ec := fun r => (Fb r).bind fun k r1 => match r1[i]? with
  | some (some (.lst ts)) => (match k with
    | .int n => Out.opt r1 (atI ts n)
    | _ => .no)
  | _ => .no
theorem ej_pix (i : Nat) {x : Str} (hb : EJ c P b Fb) (hN : c.N[i]? = some x := by rfl) (hv : Vis c.sc x := by first | exact Or.inl rfl | exact Or.inr (Or.inl rfl) | exact Or.inr (Or.inr rfl)) (hP : i ∈ P := by decide)
    (hs : PlainIx b := by intro _ _; rfl) (hd : (x == ("__debug__" : Str)) = false := by decide) (hcd : (x == ("__classdict__" : Str)) = false := by decide) : EJ c P (.Subscript (.Name x p) b pos) (cPix i Fb) := by
  obtain ⟨tb, pb, rb⟩ := hb.ex
  refine ⟨tOp (rIx c.K) (tVar i) tb, fun X h => pe_ix (ix_K X h) (pe_var (by rw [h.N]; exact hN) (by rw [h.sc]; exact hv) hd hcd) (pb X h) hs, fun r σ O H B Q fr q => ?_⟩
  obtain ⟨g, ws, us, e1, e2, e3, e4, e5⟩ := fr.prv i hP
  refine ⟨.ref g, e2, rb r σ O H B _ fr ((PK.bind q).imp fun u r2 O2 H2 B2 f2 g2 q2 w rw' => ?_)⟩
  obtain ⟨g', ws', us', x1, x2, x3, x4, x5⟩ := f2.prv i hP
  rw [e2] at x2
  cases x2
  simp only [x1] at q2
  cases rw' with
  | int n =>
    obtain ⟨z, ez, q3⟩ := PK.opt q2
    obtain ⟨v, h1, h2⟩ := atI_reps x5 ez
    exact .inl ⟨g, ws', n, v, rfl, rfl, .inl (.inl x4), h1, PK.at q3 f2 v h2⟩
  | _ => exact (show False from q2).elim

/-! ### displays -/
def cTup (A : Ac) : Ec := fun r => (A r).bind fun ts r1 => if ts.length ≤ LIM then .ok (.tup ts) r1 else .no
def cLst (A : Ac) : Ec := fun r => (A r).bind fun ts r1 => if ts.length ≤ LIM then .ok (.lst ts) r1 else .no
theorem ej_tup {x1} (ha : AJ c P es A) : EJ c P (.Tuple es x1 pos) (cTup A) := by
  obtain ⟨t, pt, rt⟩ := ha.ex
  refine ⟨tTup t, fun X h => pe_tup (pt X h), fun r σ O H B Q fr q => ?_⟩
  refine rt r σ O H B _ fr ((PK.bind q).imp fun ts r1 O1 H1 B1 f1 g1 q1 vs rv => ?_)
  by_cases hz : ts.length ≤ LIM
  · rw [if_pos hz] at q1
    refine ⟨by rw [rv.length]; exact lim_line hz, fun p hp => ?_⟩
    obtain ⟨pu, rp⟩ := Rep.newT f1.sub rv hp
    exact q1.pu f1 pu _ rp
  · rw [if_neg hz] at q1
    exact (show False from q1).elim
theorem fj_lst (ha : AJ c P es A) : FJ c P (.List es pos) (cLst A) := by
  obtain ⟨t, pt, rt⟩ := ha.ex
  refine ⟨tLst t, fun X h => pe_lst (pt X h), fun r σ O H B Q fr q => ?_⟩
  refine rt r σ O H B _ fr ((PK.bind q).imp fun ts r1 O1 H1 B1 f1 g1 q1 vs rv => ?_)
  by_cases hz : ts.length ≤ LIM
  · rw [if_pos hz] at q1
    refine ⟨by rw [rv.length]; exact lim_line hz, fun p hp => ?_⟩
    refine q1 _ _ B1 (f1.own (.hid f1.sub hp) hp ⟨_, upd_same⟩) (.own (.hid f1.sub hp) hp) p vs ts rfl (.inr rfl) (fun i hi z => ?_) upd_same rv
    obtain ⟨p', _, _, _, h2, _, h4, _⟩ := f1.prv i hi
    rw [h2] at z
    cases z
    rw [hp] at h4; cases h4
  · rw [if_neg hz] at q1
    exact (show False from q1).elim
theorem ej_lst (ha : AJ c P es A) : EJ c P (.List es pos) (cLst A) := (fj_lst ha).ej

/-! ### built-ins -/
theorem ej_callB {x : Str} {id : String} {rr : List V → Hp → VK → Prop} {f : List T → Option T} (hc : ∀ X, c.Is X → CallR X (.builtin id) rr) (hf : SdA c.K rr f) (ha : AJ c P (e :: es) A) (hg : c.sc.names.lookup x = some .globalImplicit := by rfl) (hm : c.mg x = none := by rfl) (hv : bootBuiltins x = some (.builtin id) := by rfl)
    (hn : x ≠ "__name__" := by decide) (hdb : (x == ("__debug__" : Str)) = false := by decide) (he : ∀ env, starEach (e :: es) env = (false, eval e env) :: starEach es env := by intro _; rfl) (hpl : ∀ env, (backTo pos (starEach es env)).any (·.1) = false := by intro _; rfl) :
    EJ c P (.Call (.Name x p) (e :: es) [] pos) (cApp f A) := by
  obtain ⟨t, pt, rt⟩ := ha.ex
  refine ⟨tCB rr t, fun X h => pe_callB (hc X h) (by show X.env.scope.names.lookup x = _; rw [h.sc]; exact hg) (by rw [h.mg]; exact hm) hv (pt X h) hn hdb (he _) (hpl _), fun r σ O H B Q fr q => ?_⟩
  refine rt r σ O H B _ fr ((PK.bind q).imp fun ts r1 O1 H1 B1 f1 g1 q1 vs rv => ?_)
  obtain ⟨z, ez, q3⟩ := PK.opt q1
  exact hf H1 B1 vs ts z Q f1.sub rv ez fun v' H' B' p rp => q3.pu f1 p v' rp
theorem fj_callB {x : Str} {id : String} {rr : List V → Hp → VK → Prop} {f : List T → Option T} (hc : ∀ X, c.Is X → CallR X (.builtin id) rr) (hf : SfA c.K rr f) (ha : AJ c P (e :: es) A) (hg : c.sc.names.lookup x = some .globalImplicit := by rfl) (hm : c.mg x = none := by rfl) (hv : bootBuiltins x = some (.builtin id) := by rfl)
    (hn : x ≠ "__name__" := by decide) (hdb : (x == ("__debug__" : Str)) = false := by decide) (he : ∀ env, starEach (e :: es) env = (false, eval e env) :: starEach es env := by intro _; rfl) (hpl : ∀ env, (backTo pos (starEach es env)).any (·.1) = false := by intro _; rfl) :
    FJ c P (.Call (.Name x p) (e :: es) [] pos) (cApp f A) := by
  obtain ⟨t, pt, rt⟩ := ha.ex
  refine ⟨tCB rr t, fun X h => pe_callB (hc X h) (by show X.env.scope.names.lookup x = _; rw [h.sc]; exact hg) (by rw [h.mg]; exact hm) hv (pt X h) hn hdb (he _) (hpl _), fun r σ O H B Q fr q => ?_⟩
  refine rt r σ O H B _ fr ((PK.bind q).imp fun ts r1 O1 H1 B1 f1 g1 q1 vs rv => ?_)
  obtain ⟨z, ez, q3⟩ := PK.opt q1
  refine hf H1 B1 vs ts z Q f1.sub rv ez fun p ws us H' e pu n hp rp => ?_
  refine q3 _ H' B1 (f1.own pu n ⟨_, hp⟩) (.own pu n) p ws us e (.inr rfl) (fun i hi z => ?_) hp rp
  obtain ⟨p', _, _, _, h2, _, h4, _⟩ := f1.prv i hi
  rw [h2] at z
  cases z
  rw [n] at h4; cases h4
theorem ej_callTy {x : Str} {T' : String} {rr : List V → Hp → VK → Prop} {f : List T → Option T} (hc : ∀ X, c.Is X → CallR X (.type T') rr) (hf : SdA c.K rr f) (ha : AJ c P (e :: es) A) (hg : c.sc.names.lookup x = some .globalImplicit := by rfl) (hm : c.mg x = none := by rfl) (hv : bootBuiltins x = some (.type T') := by rfl)
    (hn : x ≠ "__name__" := by decide) (hdb : (x == ("__debug__" : Str)) = false := by decide) (he : ∀ env, starEach (e :: es) env = (false, eval e env) :: starEach es env := by intro _; rfl) (hpl : ∀ env, (backTo pos (starEach es env)).any (·.1) = false := by intro _; rfl) :
    EJ c P (.Call (.Name x p) (e :: es) [] pos) (cApp f A) := by
  obtain ⟨t, pt, rt⟩ := ha.ex
  refine ⟨tCB rr t, fun X h => pe_callTy (hc X h) (by show X.env.scope.names.lookup x = _; rw [h.sc]; exact hg) (by rw [h.mg]; exact hm) hv (pt X h) hn hdb (he _) (hpl _), fun r σ O H B Q fr q => ?_⟩
  refine rt r σ O H B _ fr ((PK.bind q).imp fun ts r1 O1 H1 B1 f1 g1 q1 vs rv => ?_)
  obtain ⟨z, ez, q3⟩ := PK.opt q1
  exact hf H1 B1 vs ts z Q f1.sub rv ez fun v' H' B' p rp => q3.pu f1 p v' rp

/-- len -/
def lenT : List T → Option T
  | [.lst xs] => if xs.length ≤ LIM then some (.int xs.length) else none
  | [.tup xs] => if xs.length ≤ LIM then some (.int xs.length) else none
  | [.str x] => if x.length ≤ LIM then some (.int x.length) else none
  | _ => none
def rLen (K : PySem.W.Frag) : List V → Hp → VK → Prop := fun xs H Q => ∃ x n, xs = [x] ∧ LenV K x H n ∧ Q (.int n) H
theorem cl_len : ∀ X, c.Is X → CallR X (.builtin "len") (rLen c.K) := fun X h => by
  have z := call_len (X := X)
  rw [h.K] at z; exact z
theorem Reps.one_inv {K : PySem.W.Frag} {B : Hp} {xs : List V} {t : T} (h : Reps K B xs [t]) : ∃ x, xs = [x] ∧ Rep K B x t := by
  cases h with
  | cons r rs => cases rs; exact ⟨_, rfl, r⟩
theorem Reps.two_inv {K : PySem.W.Frag} {B : Hp} {xs : List V} {t u : T} (h : Reps K B xs [t, u]) : ∃ x y, xs = [x, y] ∧ Rep K B x t ∧ Rep K B y u := by
  cases h with
  | cons r rs => cases rs with
    | cons r2 rs2 => cases rs2; exact ⟨_, _, rfl, r, r2⟩
theorem sd_len {K : PySem.W.Frag} : SdA K (rLen K) lenT := by
  intro H B xs ts z Q sB rx e q
  unfold lenT at e
  split at e
  · obtain ⟨x, rfl, r⟩ := rx.one_inv
    split at e
    · rename_i hz
      cases e
      cases r with
      | lst s rs => exact ⟨_, _, rfl, .inl ⟨_, (s.mono sB).sq, rfl⟩, by rw [rs.length]; exact q _ H B (.refl sB) (.int _)⟩
    · cases e
  · obtain ⟨x, rfl, r⟩ := rx.one_inv
    split at e
    · rename_i hz
      cases e
      cases r with
      | tup s rs => exact ⟨_, _, rfl, .inr ⟨_, same_tup sB s, rfl⟩, by rw [rs.length]; exact q _ H B (.refl sB) (.int _)⟩
    · cases e
  · obtain ⟨x, rfl, r⟩ := rx.one_inv
    split at e
    · rename_i hz
      cases e
      cases r with
      | str s => exact ⟨_, _, rfl, ⟨lim_line hz, rfl⟩, q _ H B (.refl sB) (.int _)⟩
    · cases e
  · cases e
/-- the ints of a list -/
def intsT : List T → Option (List Int)
  | [] => some []
  | .int i :: ts => (intsT ts).map (i :: ·)
  | _ => none
theorem intsT_reps {K : PySem.W.Frag} {B : Hp} : ∀ {ts : List T} {vs : List V} {ns : List Int}, Reps K B vs ts → intsT ts = some ns → vs = ns.map V.int ∧ ts = ns.map T.int
  | [], _, _, .nil, e => by cases e; exact ⟨rfl, rfl⟩
  | t :: ts, _, ns, .cons r rs, e => by
    cases r with
    | int i =>
      unfold intsT at e
      cases h : intsT ts with
      | none => rw [h] at e; cases e
      | some ms =>
        rw [h] at e
        cases e
        obtain ⟨h1, h2⟩ := intsT_reps rs h
        exact ⟨by rw [h1]; rfl, by rw [h2]; rfl⟩
    | _ => cases e
@[simp] theorem intsT_map : ∀ ns : List Int, intsT (ns.map T.int) = some ns
  | [] => rfl
  | n :: ns => by
    show (intsT (ns.map T.int)).map (n :: ·) = _
    rw [intsT_map ns]; rfl
def sumT : List T → Option T
  | [.lst xs] => (intsT xs).map fun ns => .int ns.sum
  | _ => none
theorem cl_sum : ∀ X, c.Is X → CallR X (.builtin "sum") (rSum c.K) := fun X h => by
  have z := cr_sum (X := X) h.calm
  rw [h.K] at z; exact z
theorem sd_sum {K : PySem.W.Frag} : SdA K (rSum K) sumT := by
  intro H B xs ts z Q sB rx e q
  unfold sumT at e
  split at e
  · rename_i ys
    obtain ⟨x, rfl, r⟩ := rx.one_inv
    cases r with
    | @lst a vs _ s rs =>
      cases h : intsT ys with
      | none => rw [h] at e; cases e
      | some ns =>
        rw [h] at e
        cases e
        obtain ⟨h1, h2⟩ := intsT_reps rs h
        subst h1
        exact ⟨a, ns, rfl, (s.mono sB).sq, q _ H B (.refl sB) (.int _)⟩
  · cases e
/-- int(x) -/
def intT : List T → Option T
  | [.int i] => some (.int i)
  | [.bl b] => some (.int (if b then 1 else 0))
  | _ => none
def rInt1 : List V → Hp → VK → Prop := fun xs H Q => (∃ i, xs = [.int i] ∧ Q (.int i) H) ∨ ∃ k, xs = [.bl k] ∧ Q (.int (if k then 1 else 0)) H
theorem cl_int : ∀ X, c.Is X → CallR X (.type "int") rInt1 := fun X h => call_int1
theorem sd_intF {K : PySem.W.Frag} : SdA K rInt1 intT := by
  intro H B xs ts z Q sB rx e q
  unfold intT at e
  split at e
  · cases e
    obtain ⟨x, rfl, r⟩ := rx.one_inv
    cases r
    exact .inl ⟨_, rfl, q _ H B (.refl sB) (.int _)⟩
  · cases e
    obtain ⟨x, rfl, r⟩ := rx.one_inv
    cases r
    exact .inr ⟨_, rfl, q _ H B (.refl sB) (.int _)⟩
  · cases e
/-- abs -/
def absT : List T → Option T
  | [.int i] => some (.int (if i < 0 then -i else i))
  | _ => none
def rAbs1 : List V → Hp → VK → Prop := fun xs H Q => ∃ i, xs = [.int i] ∧ Q (.int (if i < 0 then -i else i)) H
theorem cl_abs : ∀ X, c.Is X → CallR X (.builtin "abs") rAbs1 := fun X h => call_abs
theorem sd_abs {K : PySem.W.Frag} : SdA K rAbs1 absT := by
  intro H B xs ts z Q sB rx e q
  unfold absT at e
  split at e
  · cases e
    obtain ⟨x, rfl, r⟩ := rx.one_inv
    cases r
    exact ⟨_, rfl, q _ H B (.refl sB) (.int _)⟩
  · cases e
/-- max, min of two ints -/
def max2T : List T → Option T
  | [.int i, .int j] => some (.int (if j > i then j else i))
  | _ => none
def min2T : List T → Option T
  | [.int i, .int j] => some (.int (if j < i then j else i))
  | _ => none
def rMax2 : List V → Hp → VK → Prop := fun xs H Q => ∃ i j, xs = [.int i, .int j] ∧ Q (.int (if j > i then j else i)) H
def rMin2 : List V → Hp → VK → Prop := fun xs H Q => ∃ i j, xs = [.int i, .int j] ∧ Q (.int (if j < i then j else i)) H
theorem cl_max2 : ∀ X, c.Is X → CallR X (.builtin "max") rMax2 := fun X h => call_max2 h.calm
theorem cl_min2 : ∀ X, c.Is X → CallR X (.builtin "min") rMin2 := fun X h => call_min2 h.calm
theorem sd_max2 {K : PySem.W.Frag} : SdA K rMax2 max2T := by
  intro H B xs ts z Q sB rx e q
  unfold max2T at e
  split at e
  · cases e
    obtain ⟨x, y, rfl, r1, r2⟩ := rx.two_inv
    cases r1
    cases r2
    exact ⟨_, _, rfl, q _ H B (.refl sB) (.int _)⟩
  · cases e
theorem sd_min2 {K : PySem.W.Frag} : SdA K rMin2 min2T := by
  intro H B xs ts z Q sB rx e q
  unfold min2T at e
  split at e
  · cases e
    obtain ⟨x, y, rfl, r1, r2⟩ := rx.two_inv
    cases r1
    cases r2
    exact ⟨_, _, rfl, q _ H B (.refl sB) (.int _)⟩
  · cases e
/-- max, min of a list of ints -/
def maxI : List Int → Option Int
  | [] => none
  | n :: ns => some (ns.foldl (fun m x => if x > m then x else m) n)
def minI : List Int → Option Int
  | [] => none
  | n :: ns => some (ns.foldl (fun m x => if x < m then x else m) n)
def maxT : List T → Option T
  | [.lst xs] => ((intsT xs).bind maxI).map .int
  | _ => none
def minT : List T → Option T
  | [.lst xs] => ((intsT xs).bind minI).map .int
  | _ => none
theorem foldl_max : ∀ (ns : List Int) (n : Int), (ns.foldl (fun m x => if x > m then x else m) n) ∈ n :: ns ∧ ∀ y ∈ n :: ns, y ≤ ns.foldl (fun m x => if x > m then x else m) n
  | [], n => ⟨List.mem_singleton.mpr rfl, fun y h => by rw [List.mem_singleton.mp h]; exact Int.le_refl _⟩
  | m :: ns, n => by
    obtain ⟨h1, h2⟩ := foldl_max ns (if m > n then m else n)
    rw [List.foldl_cons]
    refine ⟨?_, fun y h => ?_⟩
    · rcases List.mem_cons.mp h1 with h | h
      · rw [h]
        split
        · exact List.mem_cons_of_mem _ (List.mem_cons_self ..)
        · exact List.mem_cons_self ..
      · exact List.mem_cons_of_mem _ (List.mem_cons_of_mem _ h)
    · have h0 := h2 _ (List.mem_cons_self ..)
      generalize hF : List.foldl _ _ ns = z at *
      rcases List.mem_cons.mp h with h | h
      · subst h; split at h0 <;> omega
      · rcases List.mem_cons.mp h with h | h
        · subst h; split at h0 <;> omega
        · exact h2 y (List.mem_cons_of_mem _ h)
theorem foldl_min : ∀ (ns : List Int) (n : Int), (ns.foldl (fun m x => if x < m then x else m) n) ∈ n :: ns ∧ ∀ y ∈ n :: ns, ns.foldl (fun m x => if x < m then x else m) n ≤ y
  | [], n => ⟨List.mem_singleton.mpr rfl, fun y h => by rw [List.mem_singleton.mp h]; exact Int.le_refl _⟩
  | m :: ns, n => by
    obtain ⟨h1, h2⟩ := foldl_min ns (if m < n then m else n)
    rw [List.foldl_cons]
    refine ⟨?_, fun y h => ?_⟩
    · rcases List.mem_cons.mp h1 with h | h
      · rw [h]
        split
        · exact List.mem_cons_of_mem _ (List.mem_cons_self ..)
        · exact List.mem_cons_self ..
      · exact List.mem_cons_of_mem _ (List.mem_cons_of_mem _ h)
    · have h0 := h2 _ (List.mem_cons_self ..)
      generalize hF : List.foldl _ _ ns = z at *
      rcases List.mem_cons.mp h with h | h
      · subst h; split at h0 <;> omega
      · rcases List.mem_cons.mp h with h | h
        · subst h; split at h0 <;> omega
        · exact h2 y (List.mem_cons_of_mem _ h)
theorem maxI_spec {ns : List Int} {m : Int} (h : maxI ns = some m) : m ∈ ns ∧ ∀ y ∈ ns, y ≤ m := by
  cases ns with
  | nil => cases h
  | cons n ns => cases h; exact foldl_max ns n
theorem minI_spec {ns : List Int} {m : Int} (h : minI ns = some m) : m ∈ ns ∧ ∀ y ∈ ns, m ≤ y := by
  cases ns with
  | nil => cases h
  | cons n ns => cases h; exact foldl_min ns n
theorem cl_max : ∀ X, c.Is X → CallR X (.builtin "max") (rMax c.K) := fun X h => by
  have z := cr_max (X := X) h.calm
  rw [h.K] at z; exact z
theorem cl_min : ∀ X, c.Is X → CallR X (.builtin "min") (rMin c.K) := fun X h => by
  have z := cr_min (X := X) h.calm
  rw [h.K] at z; exact z
theorem sd_max {K : PySem.W.Frag} : SdA K (rMax K) maxT := by
  intro H B xs ts z Q sB rx e q
  unfold maxT at e
  split at e
  · rename_i ys
    obtain ⟨x, rfl, r⟩ := rx.one_inv
    cases r with
    | @lst a vs _ s rs =>
      cases h : intsT ys with
      | none => rw [h] at e; cases e
      | some ns =>
        rw [h] at e
        obtain ⟨h1, h2⟩ := intsT_reps rs h
        subst h1
        cases hm : maxI ns with
        | none => simp only [Option.bind_some, hm] at e; cases e
        | some m =>
          simp only [Option.bind_some, hm] at e
          cases e
          obtain ⟨m1, m2⟩ := maxI_spec hm
          refine ⟨a, ns, rfl, (s.mono sB).sq, List.length_pos_of_mem m1, fun m' h1 h2 => ?_⟩
          have : m' = m := Int.le_antisymm (m2 _ h1) (h2 _ m1)
          subst this
          exact q _ H B (.refl sB) (.int _)
  · cases e
theorem sd_min {K : PySem.W.Frag} : SdA K (rMin K) minT := by
  intro H B xs ts z Q sB rx e q
  unfold minT at e
  split at e
  · rename_i ys
    obtain ⟨x, rfl, r⟩ := rx.one_inv
    cases r with
    | @lst a vs _ s rs =>
      cases h : intsT ys with
      | none => rw [h] at e; cases e
      | some ns =>
        rw [h] at e
        obtain ⟨h1, h2⟩ := intsT_reps rs h
        subst h1
        cases hm : minI ns with
        | none => simp only [Option.bind_some, hm] at e; cases e
        | some m =>
          simp only [Option.bind_some, hm] at e
          cases e
          obtain ⟨m1, m2⟩ := minI_spec hm
          refine ⟨a, ns, rfl, (s.mono sB).sq, List.length_pos_of_mem m1, fun m' h1 h2 => ?_⟩
          have : m' = m := Int.le_antisymm (h2 _ m1) (m2 _ h1)
          subst this
          exact q _ H B (.refl sB) (.int _)
  · cases e

/-! ### isinstance -/
inductive TyK where
  | int | bool | str | list | tuple | dict
def TyK.s : TyK → String
  | .int => "int"
  | .bool => "bool"
  | .str => "str"
  | .list => "list"
  | .tuple => "tuple"
  | .dict => "dict"
def tyS : T → Option String
  | .non => some "NoneType"
  | .bl _ => some "bool"
  | .int _ => some "int"
  | .str _ => some "str"
  | .lst _ => some "list"
  | .tup _ => some "tuple"
  | .emp => some "dict"
  | _ => none
def isK : TyK → T → Option Bool
  | _, .exc _ _ => none
  | _, .clo _ _ => none
  | _, .ty _ => none
  | _, .cls _ => none
  | .int, .int _ => some true
  | .int, .bl _ => some true
  | .bool, .bl _ => some true
  | .str, .str _ => some true
  | .list, .lst _ => some true
  | .tuple, .tup _ => some true
  | .dict, .emp => some true
  | _, _ => some false
def isiT (k : TyK) (t : T) : Option T := (isK k t).map .bl
/-- any of these -/
def isKs : List TyK → T → Option Bool
  | [], _ => some false
  | k :: ks, t => (isK k t).bind fun b => (isKs ks t).map (b || ·)
def isisT (ks : List TyK) (t : T) : Option T := (isKs ks t).map .bl
theorem isK_kit {k : TyK} {t : T} {b : Bool} (h : isK k t = some b) : ∃ s, tyS t = some s ∧ kitB s k.s = some b := by
  cases t <;> first
    | (refine ⟨_, rfl, ?_⟩; cases k <;> cases h <;> decide +kernel)
    | (cases k <;> cases h)
theorem rep_ty {K : PySem.W.Frag} {B H : Hp} {v : V} {t : T} {s : String} (sB : Same B H) (r : Rep K B v t) (h : tyS t = some s) : TyX K H v (.type s) := by
  cases r with
  | non => cases h; exact .base .non
  | bl b => cases h; exact .base (.bl b)
  | int i => cases h; exact .base (.int i)
  | str x => cases h; exact .base (.str x)
  | lst l r =>
    cases h
    rcases l with (e | ⟨o, e⟩) | ⟨its, n, e, _⟩
    · exact .base (.lst (sB _ _ e))
    · exact .base (.frz (sB _ _ e))
    · exact .kList e rfl
  | tup l r =>
    cases h
    rcases l with (e | ⟨o, e⟩) | ⟨o, its, n, e, e2, _⟩
    · exact .base (.tup (sB _ _ e))
    · exact .fTuple (sB _ _ e)
    · exact .kTuple e e2
  | emp e => cases h; exact .base (.dK (sB _ _ e))
  | ty n => cases h
  | cls n => cases h
theorem ej_isi {x y : Str} {p1 p2 : Pos} (k : TyK) (ha : EJ c P a Fa) (hx : x = "isinstance" := by rfl) (hg : c.sc.names.lookup x = some .globalImplicit := by rfl) (hm : c.mg x = none := by rfl) (hg2 : c.sc.names.lookup y = some .globalImplicit := by rfl) (hm2 : c.mg y = none := by rfl)
    (hv2 : bootBuiltins y = some (.type k.s) := by rfl) (hn2 : y ≠ "__name__" := by decide) (hd2 : (y == ("__debug__" : Str)) = false := by decide) (hs : ∀ env, starEach [a, .Name y p2] env = (false, eval a env) :: starEach [.Name y p2] env := by intro _; rfl) :
    EJ c P (.Call (.Name x p1) [a, .Name y p2] [] pos) (cUn (isiT k) Fa) := by
  subst hx
  obtain ⟨ta, pa, ra⟩ := ha.ex
  refine ⟨tCB (rIsi c.K) (tCons ta (tCons (tC (.ty k.s)) tNil)), fun X h => ?_, fun r σ O H B Q fr q => ?_⟩
  · have hc := call_isi (X := X)
    rw [h.K] at hc
    exact pe_callB hc (by show X.env.scope.names.lookup _ = _; rw [h.sc]; exact hg) (by rw [h.mg]; exact hm) (by rfl) (pa_cons (pa X h) (pa_cons (pe_bltn (by show X.env.scope.names.lookup _ = _; rw [h.sc]; exact hg2) (by rw [h.mg]; exact hm2) hv2 rfl hn2 hd2) pa_nil) (hs _)) (he := hs _)
  · refine ra r σ O H B _ fr ((PK.bind q).imp fun t r1 O1 H1 B1 f1 g1 q1 v rv => ?_)
    obtain ⟨z, ez, q3⟩ := PK.opt q1
    unfold isiT at ez
    cases hk : isK k t with
    | none => rw [hk] at ez; cases ez
    | some b =>
      rw [hk] at ez
      cases ez
      obtain ⟨s, h1, h2⟩ := isK_kit hk
      exact ⟨v, .ty k.s, _, _, b, rfl, .ty k.s, rep_ty f1.sub rv h1, kit_ty h2, PK.at q3 f1 _ (.bl b)⟩
theorem isKs_kit {K : PySem.W.Frag} {t : T} {s : String} : ∀ {ks : List TyK} {b : Bool}, isKs ks t = some b → tyS t = some s → PySem.W.kitAny K (.type s) (ks.map fun k => Value.type k.s) = some b
  | [], _, h, _ => by cases h; rfl
  | k :: ks, b, h, hs => by
    unfold isKs at h
    cases hk : isK k t with
    | none => rw [hk] at h; cases h
    | some b1 =>
      rw [hk] at h
      cases hr : isKs ks t with
      | none => simp only [Option.bind_some, hr] at h; cases h
      | some b2 =>
        simp only [Option.bind_some, hr] at h
        cases h
        obtain ⟨s', h1, h2⟩ := isK_kit hk
        rw [hs] at h1
        cases h1
        refine kitAny_cons (kit_ty h2) (fun e => ?_) fun e => ?_
        · subst e; exact isKs_kit hr hs
        · subst e; rfl
/-- isinstance(x, (list, tuple)) -/
theorem ej_isi2 {x y z : Str} {p1 p2 p3 p4 : Pos} {x1} (k1 k2 : TyK) (ha : EJ c P a Fa) (hx : x = "isinstance" := by rfl) (hg : c.sc.names.lookup x = some .globalImplicit := by rfl) (hm : c.mg x = none := by rfl)
    (hg2 : c.sc.names.lookup y = some .globalImplicit := by rfl) (hm2 : c.mg y = none := by rfl) (hv2 : bootBuiltins y = some (.type k1.s) := by rfl) (hn2 : y ≠ "__name__" := by decide) (hd2 : (y == ("__debug__" : Str)) = false := by decide)
    (hg3 : c.sc.names.lookup z = some .globalImplicit := by rfl) (hm3 : c.mg z = none := by rfl) (hv3 : bootBuiltins z = some (.type k2.s) := by rfl) (hn3 : z ≠ "__name__" := by decide) (hd3 : (z == ("__debug__" : Str)) = false := by decide)
    (hs : ∀ env, starEach [a, .Tuple [.Name y p2, .Name z p3] x1 p4] env = (false, eval a env) :: starEach [.Tuple [.Name y p2, .Name z p3] x1 p4] env := by intro _; rfl) :
    EJ c P (.Call (.Name x p1) [a, .Tuple [.Name y p2, .Name z p3] x1 p4] [] pos) (cUn (isisT [k1, k2]) Fa) := by
  subst hx
  obtain ⟨ta, pa, ra⟩ := ha.ex
  refine ⟨tCB (rIsiT c.K) (tCons ta (tCons (tTup (tCons (tC (.ty k1.s)) (tCons (tC (.ty k2.s)) tNil))) tNil)), fun X h => ?_, fun r σ O H B Q fr q => ?_⟩
  · have hc := call_isiT (X := X)
    rw [h.K] at hc
    exact pe_callB hc (by show X.env.scope.names.lookup _ = _; rw [h.sc]; exact hg) (by rw [h.mg]; exact hm) (by rfl)
      (pa_cons (pa X h) (pa_cons (pe_tup (pa_cons (pe_bltn (by show X.env.scope.names.lookup _ = _; rw [h.sc]; exact hg2) (by rw [h.mg]; exact hm2) hv2 rfl hn2 hd2) (pa_cons (pe_bltn (by show X.env.scope.names.lookup _ = _; rw [h.sc]; exact hg3) (by rw [h.mg]; exact hm3) hv3 rfl hn3 hd3) pa_nil))) pa_nil) (hs _)) (he := hs _)
  · refine ra r σ O H B _ fr ((PK.bind q).imp fun t r1 O1 H1 B1 f1 g1 q1 v rv => ?_)
    obtain ⟨z, ez, q3⟩ := PK.opt q1
    unfold isisT at ez
    cases hk : isKs [k1, k2] t with
    | none => rw [hk] at ez; cases ez
    | some b =>
      rw [hk] at ez
      cases ez
      refine ⟨by show 2 ≤ sizeLine; rw [sizeLine_eq]; decide, fun p hp => ?_⟩
      have h1 : ∃ s, tyS t = some s := by
        cases hk1 : isK k1 t with
        | none => simp only [isKs, hk1] at hk; cases hk
        | some b1 => obtain ⟨s, h1, _⟩ := isK_kit hk1; exact ⟨s, h1⟩
      obtain ⟨s, h1⟩ := h1
      have pu : Pu H1 B1 (upd H1 p (.tup [.ty k1.s, .ty k2.s])) B1 := .hid f1.sub hp
      have f2 := f1.pu pu
      exact ⟨v, p, [.ty k1.s, .ty k2.s], _, _, b, rfl, upd_same, .cons (.ty _) (.cons (.ty _) .nil), rep_ty f2.sub rv h1, isKs_kit hk h1, q3.pu f1 pu _ (.bl b)⟩

/-! ### x.bit_length() -/
def bitsT : T → Option T
  | .int i => some (.int (Builtin.Int.intBits i : Nat))
  | _ => none
theorem ej_bits {apos : Pos} (ha : EJ c P a Fa) (hbase : ∀ env, attributeBase a "bit_length" env (eval a env) = eval a env := by intro _; rfl) (hline : (apos.endLine == pos.line) = true := by rfl) : EJ c P (.Call (.Attribute a "bit_length" apos) [] [] pos) (cUn bitsT Fa) := by
  obtain ⟨ta, pa, ra⟩ := ha.ex
  refine ⟨tBits ta, fun X h => pe_bits (pa X h) (hbase _) hline, fun r σ O H B Q fr q => ?_⟩
  refine ra r σ O H B _ fr ((PK.bind q).imp fun t r1 O1 H1 B1 f1 g1 q1 v rv => ?_)
  obtain ⟨z, ez, q3⟩ := PK.opt q1
  cases rv with
  | int i => cases ez; exact ⟨i, rfl, PK.at q3 f1 _ (.int _)⟩
  | _ => cases ez
end
end Tc

/-! Tc: slices, tuple assignments, what is never reached. -/
namespace Tc
open PySem PySem.Spec L2

section
variable {c : SC} {j : JT} {P P1 P2 P' : List Nat} {a b d e : Expr} {es : List Expr} {ss : List Stmt} {s : Stmt} {Fa Fb F : Ec} {A : Ac} {pos p q : Pos}

/-! ### what is never reached -/
theorem sj_no : SJ c j P P' s cNo := ⟨fun _ _ _ => False, fun X h => ⟨fun pins s σ H D I h => h.elim⟩, fun r σ O H B D f q => q⟩
theorem bj_no : BJ c j P P' ss cNo := ⟨fun _ _ _ => False, fun X h => ⟨fun pins s σ H D I h => h.elim⟩, fun r σ O H B D f q => q⟩
def cNoE : Ec := fun _ => .no
theorem ej_no : EJ c P e cNoE := ⟨fun _ _ _ => False, fun X h => ⟨fun pins s σ H D I h => h.elim⟩, fun r σ O H B Q f q => q⟩
theorem fj_no : FJ c P e cNoE := ⟨fun _ _ _ => False, fun X h => ⟨fun pins s σ H D I h => h.elim⟩, fun r σ O H B Q f q => q⟩

/-! ### slices -/
abbrev Pc := Sl → Out (Option Int)
abbrev GoodP (Q : Option Int → Hp → Prop) : Option Int → Sl → (Addr → Prop) → Hp → Hp → Prop := fun b _ _ H _ => Q b H
structure OJ (c : SC) (P : List Nat) (e : Option Expr) (F : Pc) : Prop where
  ex : ∃ t : TO, (∀ X, c.Is X → PO X e t) ∧ ∀ r σ O H B Q, Frm c.K c.G P r σ O H B → PK c P σ O H B (GoodP Q) (F r) → t σ H Q
def cP0 : Pc := fun r => .ok none r
def cP1 (F : Ec) : Pc := fun r => (F r).bind fun t r1 => match t with
  | .int i => .ok (some i) r1
  | _ => .no
theorem oj_none : OJ c P none cP0 := ⟨tNoPart, fun X h => po_none, fun r σ O H B Q f q => PK.at (show PK _ _ _ _ _ _ _ (.ok _ _) from q) f⟩
theorem oj_some (ha : EJ c P a Fa) : OJ c P (some a) (cP1 Fa) := by
  obtain ⟨ta, pa, ra⟩ := ha.ex
  refine ⟨tPart ta, fun X h => po_some (pa X h), fun r σ O H B Q fr q => ?_⟩
  refine ra r σ O H B _ fr ((PK.bind q).imp fun t r1 O1 H1 B1 f1 g1 q1 v rv => ?_)
  cases rv with
  | int i => exact ⟨i, rfl, PK.at (show PK _ _ _ _ _ _ _ (.ok _ _) from q1) f1⟩
  | _ => exact (show False from q1).elim
def cutT (ts : List T) (lo hi : Option Int) : List T := (ts.drop (HT.sIx ts.length 0 lo)).take (HT.sIx ts.length ts.length hi - HT.sIx ts.length 0 lo)
def slT (t : T) (lo hi : Option Int) : Option T := match t with
  | .lst xs => some (.lst (cutT xs lo hi))
  | .tup xs => some (.tup (cutT xs lo hi))
  | .str x => if x.length ≤ LIM then some (.str (cutS x lo hi)) else none
  | _ => none
def slL (t : T) (lo hi : Option Int) : Option T := match t with
  | .lst xs => some (.lst (cutT xs lo hi))
  | _ => none
def cSl (f : T → Option Int → Option Int → Option T) (F : Ec) (lo hi : Pc) : Ec := fun r => (F r).bind fun t r1 => (lo r1).bind fun l r2 => (hi r2).bind fun u r3 => Out.opt r3 (f t l u)
def rSl4 (K : PySem.W.Frag) : V → Option Int → Option Int → Hp → VK → Prop := fun x lo hi H Q => rSlL K x lo hi H Q ∨ rSlA K x lo hi H Q ∨ rSlS x lo hi H Q
theorem sl_K : ∀ X, c.Is X → SlR X (rSl4 c.K) := fun X h => by
  have z := SlR.or (sl_list (X := X)) (SlR.or sl_tupA sl_str)
  rw [h.K] at z; exact z
theorem cut_reps {K : PySem.W.Frag} {B : Hp} {vs : List V} {ts : List T} (r : Reps K B vs ts) (lo hi : Option Int) : Reps K B (cutV vs lo hi) (cutT ts lo hi) := by
  unfold cutV cutT
  rw [r.length]
  exact (r.drop _).take _
theorem cut_all {ts : List T} {lo hi : Option Int} (h : HT.sIx ts.length 0 lo = 0 ∧ HT.sIx ts.length ts.length hi = ts.length) : cutT ts lo hi = ts := by
  unfold cutT
  rw [h.1, h.2]
  simp
theorem ej_sl {lo hi : Option Expr} {L U : Pc} {p2 : Pos} (ha : EJ c P a Fa) (hl : OJ c P lo L) (hu : OJ c P hi U) : EJ c P (.Subscript a (.Slice lo hi none p2) pos) (cSl slT Fa L U) := by
  obtain ⟨ta, pa, ra⟩ := ha.ex
  obtain ⟨tl, pl, rl⟩ := hl.ex
  obtain ⟨tu, pu, ru⟩ := hu.ex
  refine ⟨tSl (rSl4 c.K) ta tl tu, fun X h => pe_slice (sl_K X h) (pa X h) (pl X h) (pu X h), fun r σ O H B Q fr q => ?_⟩
  refine ra r σ O H B _ fr ((PK.bind q).imp fun t r1 O1 H1 B1 f1 g1 q1 v rv => ?_)
  refine rl r1 σ O1 H1 B1 _ f1 ((PK.bind q1).imp fun l r2 O2 H2 B2 f2 g2 q2 => ?_)
  refine ru r2 σ O2 H2 B2 _ f2 ((PK.bind q2).imp fun u r3 O3 H3 B3 f3 g3 q3 => ?_)
  obtain ⟨z, ez, q4⟩ := PK.opt q3
  have rv := (rv.mono g2.bb).mono g3.bb
  cases rv with
  | lst s rs =>
    cases ez
    refine .inl ⟨_, _, rfl, (s.mono f3.sub).sq, fun p hp => ?_⟩
    obtain ⟨pu, rp⟩ := Rep.newL f3.sub (cut_reps rs l u) hp
    exact q4.pu f3 pu _ rp
  | tup s rs =>
    cases ez
    have hl := rs.length
    refine .inr (.inl ⟨_, _, rfl, same_tup f3.sub s, fun hw => ?_, fun hw p hp => ?_⟩)
    · rw [hl] at hw
      rw [cut_all hw] at q4
      exact PK.at q4 f3 _ (.tup s rs)
    · obtain ⟨pu, rp⟩ := Rep.newT f3.sub (cut_reps rs l u) hp
      exact q4.pu f3 pu _ rp
  | str x =>
    simp only [slT] at ez
    split at ez
    · rename_i hz
      cases ez
      exact .inr (.inr ⟨x, rfl, lim_line hz, PK.at q4 f3 _ (.str _)⟩)
    · cases ez
  | _ => cases ez
theorem fj_sl {lo hi : Option Expr} {L U : Pc} {p2 : Pos} (ha : EJ c P a Fa) (hl : OJ c P lo L) (hu : OJ c P hi U) : FJ c P (.Subscript a (.Slice lo hi none p2) pos) (cSl slL Fa L U) := by
  obtain ⟨ta, pa, ra⟩ := ha.ex
  obtain ⟨tl, pl, rl⟩ := hl.ex
  obtain ⟨tu, pu, ru⟩ := hu.ex
  refine ⟨tSl (rSl4 c.K) ta tl tu, fun X h => pe_slice (sl_K X h) (pa X h) (pl X h) (pu X h), fun r σ O H B Q fr q => ?_⟩
  refine ra r σ O H B _ fr ((PK.bind q).imp fun t r1 O1 H1 B1 f1 g1 q1 v rv => ?_)
  refine rl r1 σ O1 H1 B1 _ f1 ((PK.bind q1).imp fun l r2 O2 H2 B2 f2 g2 q2 => ?_)
  refine ru r2 σ O2 H2 B2 _ f2 ((PK.bind q2).imp fun u r3 O3 H3 B3 f3 g3 q3 => ?_)
  obtain ⟨z, ez, q4⟩ := PK.opt q3
  have rv := (rv.mono g2.bb).mono g3.bb
  cases rv with
  | lst s rs =>
    cases ez
    refine .inl ⟨_, _, rfl, (s.mono f3.sub).sq, fun p hp => ?_⟩
    refine q4 _ _ B3 (f3.own (.hid f3.sub hp) hp ⟨_, upd_same⟩) (.own (.hid f3.sub hp) hp) p _ _ rfl (.inr rfl) (fun i hi z => ?_) upd_same (cut_reps rs l u)
    obtain ⟨p', _, _, _, h2, _, h4, _⟩ := f3.prv i hi
    rw [h2] at z
    cases z
    rw [hp] at h4; cases h4
  | _ => cases ez

/-! ### argument lists with new lists among them -/
inductive Mx (K : PySem.W.Frag) (P : List Nat) (σ : L2.St) (H B : Hp) : (Addr → Prop) → List Bool → List V → List T → Prop
  | nil {O} : Mx K P σ H B O [] [] []
  | consE {O ks v vs t ts} : Rep K B v t → Mx K P σ H B O ks vs ts → Mx K P σ H B O (false :: ks) (v :: vs) (t :: ts)
  | consF {O : Addr → Prop} {ks p ws vs us ts} : O p → (∀ i ∈ P, σ[i]? ≠ some (some (.ref p))) → H p = some (.lst ws) → Reps K B ws us → Mx K P σ H B (fun a => O a ∧ a ≠ p) ks vs ts → Mx K P σ H B O (true :: ks) (.ref p :: vs) (.lst us :: ts)
theorem Mx.mono {K : PySem.W.Frag} {P : List Nat} {σ : L2.St} {H B : Hp} {ks : List Bool} {vs : List V} {ts : List T} : ∀ {O O' : Addr → Prop}, (∀ a, O a → O' a) → Mx K P σ H B O ks vs ts → Mx K P σ H B O' ks vs ts := by
  intro O O' h m
  induction m generalizing O' with
  | nil => exact .nil
  | consE r _ ih => exact .consE r (ih h)
  | consF h1 h2 h3 h4 _ ih => exact .consF (h _ h1) h2 h3 h4 (ih fun a ha => ⟨h a ha.1, ha.2⟩)
theorem Mx.len {K : PySem.W.Frag} {P : List Nat} {σ : L2.St} {H B : Hp} {O : Addr → Prop} {ks : List Bool} {vs : List V} {ts : List T} (m : Mx K P σ H B O ks vs ts) : vs.length = ks.length ∧ ts.length = ks.length := by
  induction m with
  | nil => exact ⟨rfl, rfl⟩
  | consE _ _ ih => exact ⟨congrArg (· + 1) ih.1, congrArg (· + 1) ih.2⟩
  | consF _ _ _ _ _ ih => exact ⟨congrArg (· + 1) ih.1, congrArg (· + 1) ih.2⟩
abbrev GoodM (c : SC) (P : List Nat) (σ : L2.St) (ks : List Bool) (Q : List V → Hp → Prop) : List T → Sl → (Addr → Prop) → Hp → Hp → Prop := fun ts _ O H B => ∀ vs, Mx c.K P σ H B O ks vs ts → Q vs H
structure MJ (c : SC) (P : List Nat) (ks : List Bool) (es : List Expr) (F : Ac) : Prop where
  ex : ∃ t : TA, (∀ X, c.Is X → PA X es t) ∧ ∀ r σ O H B Q, Frm c.K c.G P r σ O H B → PK c P σ O H B (GoodM c P σ ks Q) (F r) → t σ H Q
theorem mj_nil : MJ c P [] [] cNil := ⟨tNil, fun X h => pa_nil, fun r σ O H B Q f q => PK.at (show PK _ _ _ _ _ _ _ (.ok _ _) from q) f _ .nil⟩
variable {ks : List Bool}
theorem mj_e (ha : EJ c P e F) (hb : MJ c P ks es A) (hs : ∀ env, starEach (e :: es) env = (false, eval e env) :: starEach es env := by intro _; rfl) : MJ c P (false :: ks) (e :: es) (cCons F A) := by
  obtain ⟨ta, pa, ra⟩ := ha.ex
  obtain ⟨tb, pb, rb⟩ := hb.ex
  refine ⟨tCons ta tb, fun X h => pa_cons (pa X h) (pb X h) (hs _), fun r σ O H B Q f q => ?_⟩
  refine ra r σ O H B _ f ((PK.bind q).imp fun t r1 O1 H1 B1 f1 g1 q1 v rv => ?_)
  refine rb r1 σ O1 H1 B1 _ f1 ((PK.bind q1).imp fun ts r2 O2 H2 B2 f2 g2 q2 vs rvs => ?_)
  exact PK.at (show PK _ _ _ _ _ _ _ (.ok _ _) from q2) f2 _ (.consE (rv.mono g2.bb) rvs)
theorem mj_f (ha : FJ c P e F) (hb : MJ c P ks es A) (hs : ∀ env, starEach (e :: es) env = (false, eval e env) :: starEach es env := by intro _; rfl) : MJ c P (true :: ks) (e :: es) (cCons F A) := by
  obtain ⟨ta, pa, ra⟩ := ha.ex
  obtain ⟨tb, pb, rb⟩ := hb.ex
  refine ⟨tCons ta tb, fun X h => pa_cons (pa X h) (pb X h) (hs _), fun r σ O H B Q f q => ?_⟩
  refine ra r σ O H B _ f ((PK.bind q).imp fun t r1 O1 H1 B1 f1 g1 q1 pp ws us et hO hs hp rp => ?_)
  subst et
  have q1 := PK.bind q1
  have f1' : Frm c.K c.G P r1 σ (fun a => O1 a ∧ a ≠ pp) H1 B1 := by
    refine ⟨f1.sub, fun a h => f1.out a h.1, fun a h => f1.liv a h.1, f1.var, fun i hi => ?_, f1.sep, f1.len, f1.siz, f1.inn⟩
    obtain ⟨q, vs, ts, h1, h2, h3, h4, h5⟩ := f1.prv i hi
    exact ⟨q, vs, ts, h1, h2, ⟨h3, fun z => hs i hi (by rw [h2, z])⟩, h4, h5⟩
  refine rb r1 σ (fun a => O1 a ∧ a ≠ pp) H1 B1 _ f1' ?_
  have up : ∀ O' H' B', Grow (fun a => O1 a ∧ a ≠ pp) H1 B1 O' H' B' → Grow O1 H1 B1 (fun a => O' a ∨ a = pp) H' B' ∧ H' pp = some (.lst ws) ∧ ¬ O' pp ∧ B' pp = none := fun O' H' B' g => by
    have hk : H' pp = some (.lst ws) := g.hh pp _ hp fun z => z.2 rfl
    refine ⟨⟨g.bb, fun a o e => ?_, fun a o e n => g.hh a o e fun z => n z.1, fun a h => ?_⟩, hk, fun z => ?_, ?_⟩
    · rcases g.nb a o e with z | z | z
      · exact .inl z
      · exact .inr (.inl z)
      · exact .inr (.inr z.1)
    · rcases h with h | h
      · rcases g.oo a h with z | z
        · exact .inl z.1
        · exact .inr z
      · subst h; exact .inl hO
    · rcases g.oo pp z with z | z
      · exact z.2 rfl
      · rw [hp] at z; cases z
    · cases e : B' pp with
      | none => rfl
      | some o =>
        rcases g.nb pp o e with z | z | z
        · rw [f1.out pp hO] at z; cases z
        · rw [hp] at z; cases z
        · exact (z.2 rfl).elim
  have fr : ∀ r' O' H' B', Frm c.K c.G P r' σ O' H' B' → H' pp = some (.lst ws) → B' pp = none → Frm c.K c.G P r' σ (fun a => O' a ∨ a = pp) H' B' := fun r' O' H' B' f hk hb => by
    refine ⟨f.sub, fun a h => ?_, fun a h => ?_, f.var, fun i hi => ?_, f.sep, f.len, f.siz, f.inn⟩
    · rcases h with h | h
      · exact f.out a h
      · subst h; exact hb
    · rcases h with h | h
      · exact f.liv a h
      · subst h; rw [hk]; exact fun z => nomatch z
    · obtain ⟨q, vs, ts, h1, h2, h3, h4, h5⟩ := f.prv i hi
      exact ⟨q, vs, ts, h1, h2, .inl h3, h4, h5⟩
  cases z : A r1 with
  | ok ts r2 =>
    rw [z] at q1
    intro O2 H2 B2 f2 g2 vs m
    obtain ⟨u1, u2, u3, u4⟩ := up O2 H2 B2 g2
    have f3 := fr r2 O2 H2 B2 f2 u2 u4
    exact PK.at (show PK _ _ _ _ _ _ _ (.ok _ _) from q1 (fun a => O2 a ∨ a = pp) H2 B2 f3 u1) f3 _ (.consF (.inr rfl) hs u2 (rp.mono g2.bb) (m.mono fun a ha => ⟨.inl ha, fun z => u3 (z ▸ ha)⟩))
  | ex n w r2 =>
    rw [z] at q1
    intro v d O2 H2 B2 f2 g2 e1 e2
    obtain ⟨u1, u2, u3, u4⟩ := up O2 H2 B2 g2
    exact q1 v d (fun a => O2 a ∨ a = pp) H2 B2 (fr r2 O2 H2 B2 f2 u2 u4) u1 e1 e2
  | no => rw [z] at q1; exact (show False from q1).elim

/-! ### stores of such lists -/
/-- slot i takes a new list (k) or a value -/
def stOk (g0 : Bool) (n i : Nat) (k : Bool) (P P' : List Nat) : Bool :=
  if k then i < n && P'.contains i && P'.all (fun x => x == i || P.contains x) && P.all (fun x => P'.contains x) && (i != 0 || g0)
  else !P'.contains i && P'.all (fun x => P.contains x) && P.all (fun x => x == i || P'.contains x) && (P'.contains 0 || g0)
theorem Mx.store {K : PySem.W.Frag} {G : GI} {r : Sl} {σ : L2.St} {O O1 : Addr → Prop} {H B : Hp} {i : Nat} {k : Bool} {v : V} {vs : List V} {t : T} {ts : List T} (f : Frm K G P r σ O H B) (hO : ∀ a, O1 a → O a) (m : Mx K P σ H B O1 (k :: ks) (v :: vs) (t :: ts))
    (h : stOk G.g.isNone G.n i k P P' = true) : Frm K G P' (r.set i (some t)) (σ.set i (some v)) O H B ∧ ∃ O2 : Addr → Prop, (∀ a, O2 a → O a) ∧ Mx K P' (σ.set i (some v)) H B O2 ks vs ts := by
  have hgg : G.g.isNone = true → G.g = none := fun z => Option.isNone_iff_eq_none.mp z
  have key : ∀ {O2 : Addr → Prop} {σ' : L2.St} {ks : List Bool} {vs : List V} {ts : List T}, (∀ a, O2 a → ∀ x ∈ P', (∀ y ∈ P, σ[y]? ≠ some (some (.ref a))) → σ'[x]? ≠ some (some (.ref a))) → Mx K P σ H B O2 ks vs ts → Mx K P' σ' H B O2 ks vs ts := by
    intro O2 σ' ks vs ts hk m
    induction m with
    | nil => exact .nil
    | consE r _ ih => exact .consE r (ih hk)
    | consF h1 h2 h3 h4 _ ih => exact .consF h1 (fun x hx => hk _ h1 x hx h2) h3 h4 (ih fun a ha => hk a ha.1)
  cases m with
  | consE rv m =>
    simp only [stOk, Bool.false_eq_true, if_false, Bool.and_eq_true, Bool.or_eq_true, List.all_eq_true, beq_iff_eq, List.contains_iff_mem, Bool.not_eq_true'] at h
    obtain ⟨⟨⟨h1, h2⟩, h3⟩, h4⟩ := h
    have h1 : i ∉ P' := fun z => by rw [List.contains_iff_mem.mpr z] at h1; cases h1
    refine ⟨f.set rv h1 h2 h3 (h4.symm.elim (fun z => .inl (hgg z)) .inr), O1, hO, key (fun a _ x hx hy => ?_) m⟩
    rw [List.getElem?_set_ne fun z : i = x => h1 (z ▸ hx)]
    exact hy x (h2 x hx)
  | @consF _ _ pp _ _ _ _ h1' h2' h3' h4' m =>
    simp only [stOk, if_true, Bool.and_eq_true, Bool.or_eq_true, List.all_eq_true, beq_iff_eq, List.contains_iff_mem, bne_iff_ne, decide_eq_true_eq] at h
    obtain ⟨⟨⟨⟨h0, h1⟩, h2⟩, h3⟩, h4⟩ := h
    refine ⟨f.setF (by rw [f.siz]; exact h0) (hO _ h1') h2' h3' h4' h1 h2 h3 (h4.symm.elim (fun z => .inl (hgg z)) .inr), fun a => O1 a ∧ a ≠ pp, fun a h => hO a h.1, key (fun a ha x hx hy => ?_) m⟩
    by_cases hxi : x = i
    · subst hxi
      rw [List.getElem?_set_self (by rw [← f.len, f.siz]; exact h0)]
      exact fun z => ha.2 (V.ref.inj (Option.some.inj (Option.some.inj z))).symm
    · rw [List.getElem?_set_ne (Ne.symm hxi)]
      exact hy x ((h2 x hx).resolve_left hxi)

theorem sw_of {ts : List Expr} {v : Expr} {R : Sem (Option (List Str))} (h : ∀ env : Env, swappedStores ts v { env with scope := c.sc } = R) {X : Cx} (i : c.Is X) : swappedStores ts v X.env = R := by
  have e : X.env = { X.env with scope := c.sc } := by rw [← i.sc]
  rw [e]; exact h X.env
def cPar2 (i k : Nat) (A : Ac) : Sc := fun r => (A r).so fun ts r1 => match ts with
  | [t, u] => .nx ((r1.set i (some t)).set k (some u))
  | _ => .no
def cPar3 (i k l : Nat) (A : Ac) : Sc := fun r => (A r).so fun ts r1 => match ts with
  | [t, u, w] => .nx (((r1.set i (some t)).set k (some u)).set l (some w))
  | _ => .no
/-- x, y = a, b -/
theorem sj_par2 (i k : Nat) {k1 k2 : Bool} {x y : Str} {px py pt p2 : Pos} {kt kv} (P1 : List Nat) (ha : MJ c P [k1, k2] [a, b] A) (hi : c.N[i]? = some x := by rfl) (hk : c.N[k]? = some y := by rfl) (hik : i ≠ k := by decide) (hx : c.sc.names.lookup x = some .local := by rfl) (hy : c.sc.names.lookup y = some .local := by rfl)
    (h1 : stOk c.G.g.isNone c.G.n i k1 P P1 = true := by rfl) (h2 : stOk c.G.g.isNone c.G.n k k2 P1 P' = true := by rfl)
    (hw : ∀ env : Env, swappedStores [.Tuple [.Name x px, .Name y py] kt pt] (.Tuple [a, b] kv p2) { env with scope := c.sc } = pure (some [x, y]) := by intro _; rfl)
    (hs : ∀ env, swapsWithSole [.Tuple [.Name x px, .Name y py] kt pt] (.Tuple [a, b] kv p2) pos.line env = pure false := by intro _; rfl) :
    SJ c j P P' (.Assign [.Tuple [.Name x px, .Name y py] kt pt] (.Tuple [a, b] kv p2) pos) (cPar2 i k A) := by
  obtain ⟨t, pt, rt⟩ := ha.ex
  refine ⟨tPar i k t, fun X h => ps_par h.calm (by rw [h.N]; exact h.nd) (by rw [h.N]; exact hi) (by rw [h.N]; exact hk) hik (by rw [h.sc]; exact hx) (by rw [h.sc]; exact hy) (pt X h) (sw_of hw h) (hs _), fun r σ O H B D f q => ?_⟩
  refine rt r σ O H B _ f ((SK.so q).imp fun ts r1 O1 H1 B1 f1 g1 q1 vs m => ?_)
  obtain ⟨e1, e2⟩ := m.len
  match vs, ts, e1, e2, m, q1 with
  | [v1, v2], [t1, t2], _, _, m, q1 =>
    refine ⟨v1, v2, rfl, ?_⟩
    obtain ⟨f2, O2, s2, m2⟩ := m.store f1 (fun _ h => h) h1
    obtain ⟨f3, _, _, _⟩ := m2.store f2 s2 h2
    exact (show SK c j P' O1 H1 B1 D (.nx _) from q1) _ O1 H1 B1 f3 .refl
theorem sj_par3 (i k l : Nat) {k1 k2 k3 : Bool} {x y z : Str} {px py pz pt p2 : Pos} {kt kv} (P1 P2 : List Nat) (ha : MJ c P [k1, k2, k3] [a, b, d] A) (hi : c.N[i]? = some x := by rfl) (hk : c.N[k]? = some y := by rfl) (hl : c.N[l]? = some z := by rfl) (hik : i ≠ k := by decide) (hil : i ≠ l := by decide) (hkl : k ≠ l := by decide)
    (hx : c.sc.names.lookup x = some .local := by rfl) (hy : c.sc.names.lookup y = some .local := by rfl) (hz : c.sc.names.lookup z = some .local := by rfl)
    (h1 : stOk c.G.g.isNone c.G.n i k1 P P1 = true := by rfl) (h2 : stOk c.G.g.isNone c.G.n k k2 P1 P2 = true := by rfl) (h3 : stOk c.G.g.isNone c.G.n l k3 P2 P' = true := by rfl)
    (hw : ∀ env : Env, swappedStores [.Tuple [.Name x px, .Name y py, .Name z pz] kt pt] (.Tuple [a, b, d] kv p2) { env with scope := c.sc } = pure (some [x, y, z]) := by intro _; rfl)
    (hs : ∀ env, swapsWithSole [.Tuple [.Name x px, .Name y py, .Name z pz] kt pt] (.Tuple [a, b, d] kv p2) pos.line env = pure false := by intro _; rfl) :
    SJ c j P P' (.Assign [.Tuple [.Name x px, .Name y py, .Name z pz] kt pt] (.Tuple [a, b, d] kv p2) pos) (cPar3 i k l A) := by
  obtain ⟨t, pt, rt⟩ := ha.ex
  refine ⟨tPar3 i k l t, fun X h => ps_par3 h.calm (by rw [h.N]; exact h.nd) (by rw [h.N]; exact hi) (by rw [h.N]; exact hk) (by rw [h.N]; exact hl) hik hil hkl (by rw [h.sc]; exact hx) (by rw [h.sc]; exact hy) (by rw [h.sc]; exact hz) (pt X h) (sw_of hw h) (hs _), fun r σ O H B D f q => ?_⟩
  refine rt r σ O H B _ f ((SK.so q).imp fun ts r1 O1 H1 B1 f1 g1 q1 vs m => ?_)
  obtain ⟨e1, e2⟩ := m.len
  match vs, ts, e1, e2, m, q1 with
  | [v1, v2, v3], [t1, t2, t3], _, _, m, q1 =>
    refine ⟨v1, v2, v3, rfl, ?_⟩
    obtain ⟨f2, O2, s2, m2⟩ := m.store f1 (fun _ h => h) h1
    obtain ⟨f3, O3, s3, m3⟩ := m2.store f2 s2 h2
    obtain ⟨f4, _, _, _⟩ := m3.store f3 s3 h3
    exact (show SK c j P' O1 H1 B1 D (.nx _) from q1) _ O1 H1 B1 f4 .refl
/-- target = e, any target -/
def cAsg (g : Gc) (F : Ec) : Sc := fun r => (F r).so fun t r1 => match g t r1 with
  | some r2 => .nx r2
  | none => .no
theorem sj_asg {ow : List Nat} {tg : Expr} {g : Gc} (ha : EJ c P e F) (hg : GJ c P ow tg g) (hs : ∀ env, swapsWithSole [tg] e pos.line env = pure false := by intro _; rfl)
    (hw : ∀ env : Env, swappedStores [tg] e { env with scope := c.sc } = pure none := by intro _; rfl) (h1 : ∀ env, (assignEach [tg] env).map (·.2) = [assign tg env] := by intro _; rfl) : SJ c j P P (.Assign [tg] e pos) (cAsg g F) := by
  obtain ⟨t, pt, rt⟩ := ha.ex
  obtain ⟨tv, pv, rv⟩ := hg.ex
  refine ⟨tAsg t tv, fun X h => ps_asg (pt X h) (pv X h) (hs _) (sw_of hw h) (h1 _), fun r σ O H B D f q => ?_⟩
  refine rt r σ O H B _ f ((SK.so q).imp fun u r1 O1 H1 B1 f1 g1 q1 v rvv => ?_)
  cases z : g u r1 with
  | none => rw [z] at q1; exact (show False from q1).elim
  | some r2 =>
    rw [z] at q1
    exact rv r1 σ O1 H1 B1 v u r2 _ f1 rvv z fun σ' f' _ => (show SK c j P O1 H1 B1 D (.nx _) from q1) _ O1 H1 B1 f' .refl
end
end Tc

/-! Tc: the law's def is called with the script. -/
namespace Tc
open PySem PySem.Spec L2 PyProof.Rows

section
variable {P : Program} {w : World} {K : PySem.W.Frag} {mg mb : Str → Option Value}
/-- what stands when the top is through, the script at a -/
structure Aft (K : PySem.W.Frag) (mg mb : Str → Option Value) (z : Shared) (a : Addr) (us : List Value) : Prop where
  kin : K.In z.heap
  gl : z.heap.Ns mainGlobals mg
  bn : z.heap.Ns builtinsNs mb
  bs : ∀ y : Str, y ≠ "__name__" → mb y = bootBuiltins y
  nl : z.heap.NoLimit
  ge : z.gens = #[]
  ob : z.heap.get? a = some { cls := .type "list", data := .seq us.toArray }
/-- nothing but the script may be seen: it is lent with no right to change it -/
structure Lone (K : PySem.W.Frag) (P : Program) (w : World) (z : Shared) (a : Addr) (H : Hp) : Prop where
  ok : HOk P w H z.heap
  at_ : ∀ b, H b ≠ none → b = a
  fz : ∀ b, H b ≠ none → (∃ o xs, H b = some (.frz o (.lst xs))) ∧ K.lookup b = none
theorem Lone.ns {z : Shared} {a b : Addr} {us : List Value} {H : Hp} {m : Str → Option Value} (A : Aft K mg mb z a us) (L : Lone K P w z a H) (n : z.heap.Ns b m) : (hidT z.heap H).Ns b m := by
  obtain ⟨o, es, ep, h1, h2, h3⟩ := n
  refine ⟨o, es, ep, hidT_get h1 (Classical.byContradiction fun hb => ?_), h2, h3⟩
  have hba := L.at_ b hb
  rw [hba, A.ob] at h1
  cases h1
  have : (Data.seq us.toArray _ : Data) = .dict es ep := h2
  cases this
theorem law_go {k : Nat} {fa a : Addr} {fd : FuncData} {x : Str} {sp : Sp} {z : Shared} {us : List Value} {H : Hp} (A : Aft K mg mb z a us) (L : Lone K P w z a H) (hr : Room k callerA) (hb : ∀ (s : Shared) (u : Value), BindsTo s fd ⟨[u], []⟩ [(x, u)])
    (F : ∀ base : Heap, K.In base → base.Ns mainGlobals mg → FnG P w K mg base k fa fd [x] sp) (hs : sp [.ref a] H (fun v _ => v = .bl true) fun _ _ _ => False) :
    codeAny (model P w) callerA (.call (.ref fa) ⟨[.ref a], []⟩) (fun r z' => r = .ok (.ret (.bool true)) ∧ OldK z.heap z'.heap ∧ z'.os = z.os ∧ AllBare z'.gens) z := by
  have kb : K.In (hidT z.heap H) := fun b o e => hidT_get (A.kin b o e) (Classical.byContradiction fun hn => by
    rw [(L.fz b hn).2] at e
    cases e)
  have gb := L.ns A A.gl
  obtain ⟨mc, c1, c2⟩ := A.nl
  have md : Mod K mg (hidT z.heap H) := ⟨kb, gb, ⟨mb, L.ns A A.bn, A.bs⟩, ⟨mc, L.ns A c1, c2⟩⟩
  have ev : Env0 P w K mg (hidT z.heap H) callerA [] z H := ⟨rfl, md, fun b o e => of_hidT e, Nat.le_of_eq (hidT_size _ _), trivial, (fun b hb => nomatch hb), L.ok, .of_eq A.ge⟩
  refine codeAny_mono ((F _ kb gb).run callerA [] z H _ [.ref a] [.ref a] _ _ hr rfl ev (hb z (.ref a)) (.cons rfl .nil) hs) fun r z' q => ?_
  cases r with
  | error e =>
    obtain ⟨_, _, _, _, _, _, _, _, _, _, _, _, no⟩ := q
    exact no.elim
  | ok fl =>
    cases fl with
    | ret u =>
      obtain ⟨v, H', os, bare, un, ok', rv, e⟩ := q
      have e : v = .bl true := e
      subst e
      cases rv
      refine ⟨rfl, OldK.of_keep fun b o e => ?_, os, bare⟩
      by_cases hn : H b = none
      · exact un.keep b o e hn (fun y => nomatch y) (fun y => nomatch y)
      · obtain ⟨⟨ob, xs, hz⟩, _⟩ := L.fz b hn
        obtain ⟨e1, _⟩ := L.ok b _ hz
        obtain ⟨e2, _⟩ := ok' b _ (un.frzs b ob _ hz)
        rw [← e, e1]
        exact e2
    | next => exact False.elim q
    | brk => exact False.elim q
    | cont => exact False.elim q
/-- the law's def, its script a list of ints -/
theorem law_run {k : Nat} {fa a : Addr} {fd : FuncData} {x : Str} {sp : Sp} {z : Shared} {us : List Value} {ns : List Int} (A : Aft K mg mb z a us) (hi : IntsAre us ns) (hl : ns.length ≤ sizeLine) (hr : Room k callerA) (hb : ∀ (s : Shared) (u : Value), BindsTo s fd ⟨[u], []⟩ [(x, u)])
    (F : ∀ base : Heap, K.In base → base.Ns mainGlobals mg → FnG P w K mg base k fa fd [x] sp)
    (hs : ∀ H : Hp, LsAt K H a (ns.map V.int) → sp [.ref a] H (fun v _ => v = .bl true) fun _ _ _ => False) :
    codeAny (model P w) callerA (.call (.ref fa) ⟨[.ref a], []⟩) (fun r z' => r = .ok (.ret (.bool true)) ∧ OldK z.heap z'.heap ∧ z'.os = z.os ∧ AllBare z'.gens) z := by
  have rv := vals_ints hi
  have hlen : (ns.map V.int).length ≤ sizeLine := by rw [List.length_map]; exact hl
  cases hk : K.lookup a with
  | some o =>
    have e := A.kin a o hk
    rw [A.ob] at e
    cases e
    have L : Lone K P w z a fun _ => none := ⟨(fun b u y => nomatch y), (fun b y => absurd rfl y), (fun b y => absurd rfl y)⟩
    exact law_go A L hr hb F (hs _ (.inr ⟨us, _, hk, by rw [← rv.length]; exact hlen, rv⟩))
  | none =>
    let H : Hp := fun b => if b = a then some (.frz { cls := .type "list", data := .seq us.toArray } (.lst (ns.map V.int))) else none
    have ha : H a = some (.frz { cls := .type "list", data := .seq us.toArray } (.lst (ns.map V.int))) := if_pos rfl
    have only : ∀ b, H b ≠ none → b = a := fun b y => Classical.byContradiction fun hb => y (if_neg hb)
    have L : Lone K P w z a H := by
      refine ⟨fun b u y => ?_, only, fun b y => ?_⟩
      · have hba := only b (by rw [y]; exact fun q => nomatch q)
        subst hba
        rw [ha] at y
        cases y
        exact ⟨A.ob, hlen, us, _, rv, A.ob⟩
      · have hba := only b y
        subst hba
        exact ⟨⟨_, _, ha⟩, hk⟩
    exact law_go A L hr hb F (hs H (.inl (.inr ⟨_, ha⟩)))
end
/-- the goal that the head leaves -/
theorem law_ends {l : PySem.W.OpenLaw} {n k : Nat} {q : Program} {loose : List Str} {XP : (Str → Option Value) → Heap → Prop} {YP : World → Heap → Prop} {d : DefRec} {x : Str} (h1 : l.most = some n) (h2 : n ≤ sizeLine) (h3 : d.params.defaults = []) (hr : Room k callerA)
    (F : ∀ (w : World) (mg : Str → Option Value) (fa : Addr) (h : Heap), YP w h → h.Ns mainGlobals mg → mg d.name = some (.ref fa) → ∃ (K : PySem.W.Frag) (fd : FuncData) (m : Fc), K.In h ∧ (∀ (s : Shared) (u : Value), BindsTo s fd ⟨[u], []⟩ [(x, u)]) ∧
      (∀ ns : List Int, ns.length ≤ n → m [.lst (ns.map T.int)] = .ok (.bl true) []) ∧ ∀ base : Heap, K.In base → base.Ns mainGlobals mg → FnG l.prog w K mg base k fa fd [x] (spX K false false 1 m)) :
    PySem.W.WalkO q loose XP YP l.row.toRowW d [] (fun f vs => PySem.call f vs) := by
  refine Att.attach_call h1 h3 fun w s0 z mg mb fa o pm cd doc a us ns G Y ho hd hcd hmg hobj hints hlen hg => ?_
  obtain ⟨K, fd, m, kx, hb, hm, hF⟩ := F w mg fa _ Y G.T.g hmg
  refine law_run (sp := spX K false false 1 m) ⟨kx, G.T.g, G.T.b, G.T.builtins, G.T.nolimit, hg, hobj⟩ hints (Nat.le_trans hlen h2) hr hb hF fun H s => ?_
  refine ⟨rfl, none, H, [.lst (ns.map T.int)], .refl _, ⟨rfl, .cons (.lst s (Reps.ints ns)) .nil⟩, ?_⟩
  rw [hm ns hlen]
  intro v O' H' B' _ _ _ _ ov
  exact ov.bl_inv
end Tc

/-! Tc: chains as tests, defs of the top. -/
namespace Tc
open PySem PySem.Spec L2
section
variable {c : SC} {P : List Nat} {a b d e : Expr} {Fa Fb Fd : Ec} {pos : Pos}
/-- a op b op' d as a test -/
theorem cj_chain {op op' : CmpOp} {r2 r2' : R2} {f g : T → T → Option T} (ho : ∀ X, c.Is X → OpR X (compareOp op) r2) (hf : Sd2 c.K r2 f) (ho' : ∀ X, c.Is X → OpR X (compareOp op') r2') (hg : Sd2 c.K r2' g)
    (ha : EJ c P a Fa) (hb : EJ c P b Fb) (hd : EJ c P d Fd) (hm : lastMarks [op, op'] [b, d] = false := by with_unfolding_all rfl) : CJ c P (.Compare a [op, op'] [b, d] pos) (cB (cChain f g Fa Fb Fd)) := by
  obtain ⟨ta, pa, ra⟩ := ha.ex
  obtain ⟨tb, pb, rb⟩ := hb.ex
  obtain ⟨td, pd, rd⟩ := hd.ex
  refine ⟨tTest (tChain r2 r2' ta tb td), fun X h => pt_chain (ho X h) (ho' X h) (pa X h) (pb X h) (pd X h) hm, fun r σ O H B Q fr q => ?_⟩
  have q := PK.bind (x := cChain f g Fa Fb Fd r) q
  -- the same reading as for the value
  refine ra r σ O H B _ fr ((PK.bind (show PK c P σ O H B _ ((Fa r).bind fun x r1 => (Fb r1).bind fun y r2 => match f x y with
    | some (.bl z) => if z = true then (Fd r2).bind fun u r3 => Out.opt r3 (g y u) else .ok (.bl false) r2
    | _ => .no) from q)).imp fun t r1 O1 H1 B1 f1 g1 q1 v rv => ?_)
  refine rb r1 σ O1 H1 B1 _ f1 ((PK.bind q1).imp fun u r2 O2 H2 B2 f2 g2 q2 w rw' => ?_)
  cases ez : f t u with
  | none => simp only [ez] at q2; exact (show False from q2).elim
  | some z =>
    simp only [ez] at q2
    cases z with
    | bl k =>
      refine hf H2 B2 v w t u _ _ f2.sub (rv.mono g2.bb) rw' ez fun v' H' B' p rp => ?_
      cases rp.bl_inv
      refine ⟨k, rfl, ?_⟩
      have f3 := f2.pu p
      have q2 : PK c P σ O2 H2 B2 _ (if k = true then (Fd r2).bind (fun u' r3 => Out.opt r3 (g u u')) else .ok (.bl false) r2) := q2
      cases k with
      | true =>
        rw [if_pos rfl] at q2 ⊢
        have q3 := PK.later q2 (Grow.of_pu (O := O2) p)
        refine rd r2 σ O2 H' B' _ f3 ((PK.bind q3).imp fun u' r3 O4 H4 B4 f4 g4 q4 x rx => ?_)
        obtain ⟨z, ez', q5⟩ := PK.opt q4
        refine hg H4 B4 w x u u' z _ f4.sub ((rw'.mono p.bb).mono g4.bb) rx ez' fun v' H5 B5 p5 rp5 => ?_
        have f5 := f4.pu p5
        have q6 := PK.at (PK.later q5 (Grow.of_pu (O := O4) p5)) f5
        cases z with
        | bl k => cases rp5.bl_inv; exact ⟨k, rfl, PK.at (show PK _ _ _ _ _ _ _ (.ok _ _) from q6) f5⟩
        | _ => exact (show False from q6).elim
      | false =>
        rw [if_neg Bool.false_ne_true] at q2 ⊢
        have q6 := PK.at (PK.later q2 (Grow.of_pu (O := O2) p)) f3
        exact ⟨false, rfl, PK.at (show PK _ _ _ _ _ _ _ (.ok _ _) from q6) f3⟩
    | _ => exact (show False from q2).elim
end
/-- a def of the top, without defaults -/
structure TopD (K : PySem.W.Frag) (mg : Str → Option Value) (x : Str) (st : Stmt) (f : Addr) (fd : FuncData) : Prop where
  fd : FunD K x x (defArgs st) (defBody st) (defScope st) [] [] f fd
  mg : mg x = some (.ref f)
/-- how arguments are bound -/
def BindOk (x : Str) (st : Stmt) (ps : List Str) : Prop := ∀ (kV doc pm : Value) (an : Option Addr) (cdv ct : Value) (us : List Value), us.length = ps.length → bindArgs (PySem.W.fnOf x x (defArgs st) (defBody st) (defScope st) .none kV doc pm an cdv ct) ⟨us, []⟩ = pure (ps.zip us)
/-- what a call of it asks, wherever the call stands -/
theorem TopD.callee {P : Program} {w : World} {K : PySem.W.Frag} {mg : Str → Option Value} {base : Heap} {x : Str} {st : Stmt} {f : Addr} {fd : FuncData} {k : Nat} {ps : List Str} {io fr : Bool} {m : Fc} (D : TopD K mg x st f fd) (hb : BindOk x st ps)
    (F : FnG P w K mg base k f fd ps (spX K io fr ps.length m)) (c : SC) (h1 : c.prog = P := by rfl) (h2 : c.w = w := by rfl) (h3 : c.K = K := by rfl) (h4 : c.mg = mg := by rfl) (h5 : c.base = base := by rfl) : Callee c k x f fd ps io fr m := by
  subst h1 h2 h3 h4 h5
  exact ⟨F, D.mg, D.fd.kp, D.fd.bindsN hb⟩
/-- keywords alone -/
theorem TopD.kw {K : PySem.W.Frag} {mg : Str → Option Value} {x : Str} {st : Stmt} {f : Addr} {fd : FuncData} {ps ks : List Str} {o : List Nat} (D : TopD K mg x st f fd)
    (h : ∀ (kV doc pm : Value) (an : Option Addr) (cdv ct : Value) (ws : List Value), ws.length = ks.length → bindArgs (PySem.W.fnOf x x (defArgs st) (defBody st) (defScope st) .none kV doc pm an cdv ct) ⟨[], ks.zip ws⟩ = pure (ps.zip (pick o ws))) : KwOk fd ps ks o := by
  obtain ⟨oc, od, dV, kV, doc, pm, an, cdv, ct, osl, rfl, lk, hcd, hD, hK⟩ := D.fd.ex
  rcases hD with ⟨_, rfl⟩ | ⟨e, _⟩
  · exact h kV doc pm an cdv ct
  · exact absurd rfl e
section
variable {c : SC} {j : JT} {P P' : List Nat} {pos p : Pos}
/-- a constant of the module -/
theorem ej_gint {x : Str} {i : Int} (h : ∃ t, c.mg x = some (.int i t)) (hg : c.sc.names.lookup x = some .globalImplicit := by rfl) (hd : (x == ("__debug__" : Str)) = false := by decide) : EJ c P (.Name x pos) (cK (.int i)) := by
  obtain ⟨t, e⟩ := h
  exact ej_glob (v := .int i) e ⟨t, rfl⟩ (fun _ _ => .int i) hg hd
theorem ej_gstr {x : Str} {i : Str} (h : ∃ t, c.mg x = some (.str i t)) (hg : c.sc.names.lookup x = some .globalImplicit := by rfl) (hd : (x == ("__debug__" : Str)) = false := by decide) : EJ c P (.Name x pos) (cK (.str i)) := by
  obtain ⟨t, e⟩ := h
  exact ej_glob (v := .str i) e ⟨t, rfl⟩ (fun _ _ => .str i) hg hd
/-- the length of an owned list -/
def cPlen (i : Nat) : Ec := fun r => match r[i]? with
  | some (some (.lst ts)) => if ts.length ≤ LIM then .ok (.int ts.length) r else .no
  | _ => .no
theorem ej_plen (i : Nat) {x y : Str} {py : Pos} (hm : c.mg y = none) (hy : y = "len" := by rfl) (hg : c.sc.names.lookup y = some .globalImplicit := by rfl) (hN : c.N[i]? = some x := by rfl) (hv : Vis c.sc x := by first | exact Or.inl rfl | exact Or.inr (Or.inl rfl) | exact Or.inr (Or.inr rfl)) (hP : i ∈ P := by decide)
    (hd : (x == ("__debug__" : Str)) = false := by decide) (hcd : (x == ("__classdict__" : Str)) = false := by decide) (hs : ∀ env, starEach [.Name x p] env = (false, eval (.Name x p) env) :: starEach [] env := by intro _; rfl) : EJ c P (.Call (.Name y py) [.Name x p] [] pos) (cPlen i) := by
  subst hy
  refine ⟨tCB (rLen c.K) (tCons (tVar i) tNil), fun X h => ?_, fun r σ O H B Q fr q => ?_⟩
  · exact pe_callB (cl_len X h) (by show X.env.scope.names.lookup _ = _; rw [h.sc]; exact hg) (by rw [h.mg]; exact hm) (by rfl) (pa_cons (pe_var (by rw [h.N]; exact hN) (by rw [h.sc]; exact hv) hd hcd) pa_nil (hs _)) (he := hs _)
  · obtain ⟨g, ws, us, e1, e2, e3, e4, e5⟩ := fr.prv i hP
    unfold cPlen at q
    rw [e1] at q
    simp only at q
    by_cases hz : us.length ≤ LIM
    · rw [if_pos hz] at q
      refine ⟨.ref g, e2, _, _, rfl, .inl ⟨ws, .inl (.inl e4), rfl⟩, ?_⟩
      rw [e5.length]
      exact PK.at q fr _ (.int _)
    · rw [if_neg hz] at q; exact (show False from q).elim
end
theorem gNil_len (ts : List T) (r r' : Sl) (h : gNilT ts r = some r') : ts.length = 0 := by
  cases ts with
  | nil => rfl
  | cons _ _ => cases h
theorem gCons_len {g : Gc} {gs : List T → Sl → Option Sl} {n : Nat} (hn : ∀ (ts : List T) (r r' : Sl), gs ts r = some r' → ts.length = n) (ts : List T) (r r' : Sl) (h : gConsT g gs ts r = some r') : ts.length = n + 1 := by
  cases ts with
  | nil => cases h
  | cons t ts =>
    have h : (g t r).bind (gs ts) = some r' := h
    cases z : g t r with
    | none => rw [z] at h; cases h
    | some r1 => rw [z] at h; rw [List.length_cons, hn _ _ _ h]
/-! ### blocks that never fall out -/
abbrev NN (F : Sc) : Prop := ∀ r r', F r ≠ .nx r'
theorem cRet_nn {F : Ec} : NN (cRet F) := fun r r' h => by
  unfold cRet at h
  cases z : F r with
  | ok t r1 => rw [z] at h; cases h
  | ex c w r1 => rw [z] at h; cases h
  | no => rw [z] at h; cases h
theorem cNo_nn : NN cNo := fun r r' h => by cases h
theorem cSeq_nn {F G : Sc} (h : NN G) : NN (cSeq F G) := fun r r' e => by
  unfold cSeq at e
  cases z : F r with
  | nx r1 => rw [z] at e; exact h _ _ e
  | _ => rw [z] at e; cases e
theorem cIfS_nn {C : Cc} {F G : Sc} (h1 : NN F) (h2 : NN G) : NN (cIfS C F G) := fun r r' e => by
  unfold cIfS at e
  cases z : C r with
  | ok b r1 =>
    rw [z] at e
    cases b with
    | true => exact h1 _ _ e
    | false => exact h2 _ _ e
  | ex c w r1 => rw [z] at e; cases e
  | no => rw [z] at e; cases e
theorem FnG.never {P : Program} {w : World} {K : PySem.W.Frag} {mg : Str → Option Value} {base : Heap} {k : Nat} {f : Addr} {fd : FuncData} {ps : List Str} {io fr : Bool} {n : Nat} (hn : n = ps.length := by rfl) : FnG P w K mg base k f fd ps (spX K io fr n fun _ => .no) :=
  ⟨fun vs H Q E h => hn ▸ h.1, fun A outer s H args us vs Q E _ _ _ _ _ h => by
    obtain ⟨_, g, B, ts, _, _, h⟩ := h
    exact (show False from h).elim⟩
end Tc

/-! Tc: what a mirror comes to, told backwards. -/
namespace Tc
open PySem PySem.Spec L2
abbrev Xp := Str → T → Sl → Prop
abbrev noX : Xp := fun _ _ _ => False
abbrev noT : T → Sl → Prop := fun _ _ => False
abbrev noS : Sl → Prop := fun _ => False
structure WE {α : Type} (o : Out α) (ψ : α → Sl → Prop) (ξ : Xp) : Prop where
  go : match o with
    | .ok a r => ψ a r
    | .ex c w r => ξ c w r
    | .no => False
structure WS (o : So) (nx : Sl → Prop) (rt : T → Sl → Prop) (bk ct : Sl → Prop) (ex : Xp) : Prop where
  go : match o with
    | .nx r => nx r
    | .rt t r => rt t r
    | .bk r => bk r
    | .ct r => ct r
    | .ex c w r => ex c w r
    | .no => False
structure WR (o : Res) (χ : T → List T → Prop) (ξ : Str → T → Prop) : Prop where
  go : match o with
    | .ok t g => χ t g
    | .ex c w => ξ c w
    | .no => False
abbrev noR : Str → T → Prop := fun _ _ => False
section
variable {α β : Type} {r : Sl} {ξ : Xp} {nx bk ct : Sl → Prop} {rt : T → Sl → Prop} {ex : Xp} {i k l : Nat} {t : T}
theorem WE.imp {o : Out α} {ψ ψ' : α → Sl → Prop} (h : WE o ψ ξ) (q : ∀ a r, ψ a r → ψ' a r) : WE o ψ' ξ := by
  cases o with
  | ok a r => exact ⟨q a r h.go⟩
  | ex c w r => exact ⟨h.go⟩
  | no => exact h.go.elim
theorem WS.imp {o : So} {nx' bk' ct' : Sl → Prop} {rt' : T → Sl → Prop} {ex' : Xp} (h : WS o nx rt bk ct ex) (h1 : ∀ r, nx r → nx' r) (h2 : ∀ t r, rt t r → rt' t r) (h3 : ∀ r, bk r → bk' r) (h4 : ∀ r, ct r → ct' r) (h5 : ∀ c w r, ex c w r → ex' c w r) : WS o nx' rt' bk' ct' ex' := by
  cases o with
  | nx r => exact ⟨h1 r h.go⟩
  | rt t r => exact ⟨h2 t r h.go⟩
  | bk r => exact ⟨h3 r h.go⟩
  | ct r => exact ⟨h4 r h.go⟩
  | ex c w r => exact ⟨h5 c w r h.go⟩
  | no => exact h.go.elim
theorem WR.imp {o : Res} {χ χ' : T → List T → Prop} {ζ ζ' : Str → T → Prop} (h : WR o χ ζ) (h1 : ∀ t g, χ t g → χ' t g) (h2 : ∀ c w, ζ c w → ζ' c w) : WR o χ' ζ' := by
  cases o with
  | ok t g => exact ⟨h1 t g h.go⟩
  | ex c w => exact ⟨h2 c w h.go⟩
  | no => exact h.go.elim
theorem WE_bind {o : Out α} {f : α → Sl → Out β} {ψ : β → Sl → Prop} (h : WE o (fun a r => WE (f a r) ψ ξ) ξ) : WE (o.bind f) ψ ξ := by
  cases o with
  | ok a r => exact h.go
  | ex c w r => exact ⟨h.go⟩
  | no => exact h.go.elim
theorem WS_so {o : Out α} {f : α → Sl → So} (h : WE o (fun a r => WS (f a r) nx rt bk ct ex) ex) : WS (o.so f) nx rt bk ct ex := by
  cases o with
  | ok a r => exact h.go
  | ex c w r => exact ⟨h.go⟩
  | no => exact h.go.elim

/-! ### expressions -/
section
variable {ψ : T → Sl → Prop} {a b d e : Ec} {c : Cc}
theorem WE_var (h : r[i]? = some (some t)) (q : ψ t r) : WE (cVar i r) ψ ξ := by unfold cVar; rw [h]; exact ⟨q⟩
theorem WE_k (q : ψ t r) : WE (cK t r) ψ ξ := ⟨q⟩
theorem WE_bin {f : T → T → Option T} (h : WE (a r) (fun x r1 => WE (b r1) (fun y r2 => ∃ z, f x y = some z ∧ ψ z r2) ξ) ξ) : WE (cBin f a b r) ψ ξ :=
  WE_bind (h.imp fun x r1 h1 => WE_bind (h1.imp fun y r2 ⟨z, e, q⟩ => by rw [e]; exact ⟨q⟩))
theorem WE_un {f : T → Option T} (h : WE (a r) (fun x r1 => ∃ z, f x = some z ∧ ψ z r1) ξ) : WE (cUn f a r) ψ ξ :=
  WE_bind (h.imp fun x r1 ⟨z, e, q⟩ => by rw [e]; exact ⟨q⟩)
theorem WE_app {f : List T → Option T} {A : Ac} (h : WE (A r) (fun x r1 => ∃ z, f x = some z ∧ ψ z r1) ξ) : WE (cApp f A r) ψ ξ :=
  WE_bind (h.imp fun x r1 ⟨z, e, q⟩ => by rw [e]; exact ⟨q⟩)
theorem WE_nil {ψ : List T → Sl → Prop} (q : ψ [] r) : WE (cNil r) ψ ξ := ⟨q⟩
theorem WE_cons {ψ : List T → Sl → Prop} {A : Ac} (h : WE (a r) (fun x r1 => WE (A r1) (fun xs r2 => ψ (x :: xs) r2) ξ) ξ) : WE (cCons a A r) ψ ξ :=
  WE_bind (h.imp fun x r1 h1 => WE_bind (h1.imp fun y r2 q => ⟨q⟩))
theorem WE_if (h : WE (c r) (fun z r1 => (z = true → WE (a r1) ψ ξ) ∧ (z = false → WE (b r1) ψ ξ)) ξ) : WE (cIf c a b r) ψ ξ :=
  WE_bind (h.imp fun z r1 q => by
    cases z with
    | true => exact q.1 rfl
    | false => exact q.2 rfl)
theorem WE_B {ψ : Bool → Sl → Prop} (h : WE (a r) (fun x r1 => ∃ z, x = .bl z ∧ ψ z r1) ξ) : WE (cB a r) ψ ξ :=
  WE_bind (h.imp fun x r1 ⟨z, e, q⟩ => by subst e; exact ⟨q⟩)
theorem WE_notC {ψ : Bool → Sl → Prop} (h : WE (c r) (fun z r1 => ψ (!z) r1) ξ) : WE (cNotC c r) ψ ξ := WE_bind (h.imp fun _ _ q => ⟨q⟩)
theorem WE_andC {ψ : Bool → Sl → Prop} {c' : Cc} (h : WE (c r) (fun z r1 => (z = true → WE (c' r1) ψ ξ) ∧ (z = false → ψ false r1)) ξ) : WE (cAndC c c' r) ψ ξ :=
  WE_bind (h.imp fun z r1 q => by
    cases z with
    | true => exact q.1 rfl
    | false => exact ⟨q.2 rfl⟩)
theorem WE_orC {ψ : Bool → Sl → Prop} {c' : Cc} (h : WE (c r) (fun z r1 => (z = true → ψ true r1) ∧ (z = false → WE (c' r1) ψ ξ)) ξ) : WE (cOrC c c' r) ψ ξ :=
  WE_bind (h.imp fun z r1 q => by
    cases z with
    | true => exact ⟨q.1 rfl⟩
    | false => exact q.2 rfl)
theorem WE_andV (h : WE (a r) (fun x r1 => ∃ z, x = .bl z ∧ (z = true → WE (b r1) ψ ξ) ∧ (z = false → ψ (.bl false) r1)) ξ) : WE (cAndV a b r) ψ ξ :=
  WE_bind (h.imp fun x r1 ⟨z, e, q⟩ => by
    subst e
    cases z with
    | true => exact q.1 rfl
    | false => exact ⟨q.2 rfl⟩)
theorem WE_orV (h : WE (a r) (fun x r1 => ∃ z, x = .bl z ∧ (z = true → ψ (.bl true) r1) ∧ (z = false → WE (b r1) ψ ξ)) ξ) : WE (cOrV a b r) ψ ξ :=
  WE_bind (h.imp fun x r1 ⟨z, e, q⟩ => by
    subst e
    cases z with
    | true => exact ⟨q.1 rfl⟩
    | false => exact q.2 rfl)
theorem WE_notV (h : WE (a r) (fun x r1 => ∃ z, x = .bl z ∧ ψ (.bl (!z)) r1) ξ) : WE (cNotV a r) ψ ξ :=
  WE_bind (h.imp fun x r1 ⟨z, e, q⟩ => by subst e; exact ⟨q⟩)
theorem WE_chain {f g : T → T → Option T} (h : WE (a r) (fun x r1 => WE (b r1) (fun y r2 => ∃ z, f x y = some (.bl z) ∧ (z = true → WE (d r2) (fun u r3 => ∃ v, g y u = some v ∧ ψ v r3) ξ) ∧ (z = false → ψ (.bl false) r2)) ξ) ξ) : WE (cChain f g a b d r) ψ ξ :=
  WE_bind (h.imp fun x r1 h1 => WE_bind (h1.imp fun y r2 ⟨z, e, q⟩ => by
    rw [e]
    cases z with
    | true => exact WE_bind ((q.1 rfl).imp fun u r3 ⟨v, e, q⟩ => by rw [e]; exact ⟨q⟩)
    | false => exact ⟨q.2 rfl⟩))
theorem WE_tup {A : Ac} (h : WE (A r) (fun ts r1 => ts.length ≤ LIM ∧ ψ (.tup ts) r1) ξ) : WE (cTup A r) ψ ξ :=
  WE_bind (h.imp fun x r1 q => by rw [if_pos q.1]; exact ⟨q.2⟩)
theorem WE_lst {A : Ac} (h : WE (A r) (fun ts r1 => ts.length ≤ LIM ∧ ψ (.lst ts) r1) ξ) : WE (cLst A r) ψ ξ :=
  WE_bind (h.imp fun x r1 q => by rw [if_pos q.1]; exact ⟨q.2⟩)
theorem WE_pix (h : WE (b r) (fun x r1 => ∃ ts n z, r1[i]? = some (some (.lst ts)) ∧ x = .int n ∧ atI ts n = some z ∧ ψ z r1) ξ) : WE (cPix i b r) ψ ξ :=
  WE_bind (h.imp fun x r1 ⟨ts, n, z, e1, e2, e3, q⟩ => by subst e2; rw [e1]; show WE (Out.opt r1 (atI ts n)) ψ ξ; rw [e3]; exact ⟨q⟩)
theorem WE_plen {ts : List T} (h : r[i]? = some (some (.lst ts))) (hl : ts.length ≤ LIM) (q : ψ (.int ts.length) r) : WE (cPlen i r) ψ ξ := by
  unfold cPlen; rw [h]; simp only [hl, if_true]; exact ⟨q⟩
theorem WE_p0 {ψ : Option Int → Sl → Prop} (q : ψ none r) : WE (cP0 r) ψ ξ := ⟨q⟩
theorem WE_p1 {ψ : Option Int → Sl → Prop} (h : WE (a r) (fun x r1 => ∃ n, x = .int n ∧ ψ (some n) r1) ξ) : WE (cP1 a r) ψ ξ :=
  WE_bind (h.imp fun x r1 ⟨n, e, q⟩ => by subst e; exact ⟨q⟩)
theorem WE_sl {f : T → Option Int → Option Int → Option T} {lo hi : Pc} (h : WE (a r) (fun x r1 => WE (lo r1) (fun l r2 => WE (hi r2) (fun u r3 => ∃ z, f x l u = some z ∧ ψ z r3) ξ) ξ) ξ) : WE (cSl f a lo hi r) ψ ξ :=
  WE_bind (h.imp fun x r1 h1 => WE_bind (h1.imp fun y r2 h2 => WE_bind (h2.imp fun u r3 ⟨z, e, q⟩ => by rw [e]; exact ⟨q⟩)))
theorem WE_call {m : Fc} {A : Ac} (h : WE (A r) (fun ts r1 => WR (m ts) (fun t _ => ψ t r1) fun c w => ξ c w r1) ξ) : WE (cCall m A r) ψ ξ :=
  WE_bind (h.imp fun ts r1 q => by
    cases z : m ts with
    | ok t g => rw [z] at q; exact ⟨q.go⟩
    | ex c w => rw [z] at q; exact ⟨q.go⟩
    | no => rw [z] at q; exact q.go.elim)
theorem WE_callK {m : Fc} {A : Ac} {o : List Nat} (h : WE (A r) (fun ts r1 => WR (m (pick o ts)) (fun t _ => ψ t r1) fun c w => ξ c w r1) ξ) : WE (cCallK m o A r) ψ ξ :=
  WE_bind (h.imp fun ts r1 q => by
    cases z : m (pick o ts) with
    | ok t g => rw [z] at q; exact ⟨q.go⟩
    | ex c w => rw [z] at q; exact ⟨q.go⟩
    | no => rw [z] at q; exact q.go.elim)
theorem WE_callG {m : Fc} {A : Ac} (h : WE (A r) (fun ts r1 => ∃ us, r1[i]? = some (some (.lst us)) ∧ WR (m (.lst us :: ts)) (fun t g => ∃ us', g = [.lst us'] ∧ ψ t (r1.set i (some (.lst us')))) noR) ξ) : WE (cCallG m i A r) ψ ξ :=
  WE_bind (h.imp fun ts r1 ⟨us, e, q⟩ => by
    rw [e]
    show WE (cResG i r1 (m (.lst us :: ts))) ψ ξ
    cases z : m (.lst us :: ts) with
    | ok t g => rw [z] at q; obtain ⟨us', e2, q'⟩ := q.go; subst e2; exact ⟨q'⟩
    | ex c w => rw [z] at q; exact q.go.elim
    | no => rw [z] at q; exact q.go.elim)
/-- a comprehension whose parts change nothing -/
theorem wipe_back : ∀ (own : List Nat) (r : Sl), (∀ k ∈ own, k < r.length) → backT r (wipeT r own) own = r := by
  intro own r h
  refine List.ext_getElem? fun k => ?_
  by_cases hk : k ∈ own
  · have key : ∀ own : List Nat, k ∈ own → ∀ s : Sl, s.length = r.length → (backT r s own)[k]? = r[k]? := by
      intro own
      induction own with
      | nil => intro z; cases z
      | cons v vs ih =>
        intro z s hs
        unfold backT
        by_cases hv : v = k
        · subst hv
          have hl := h v hk
          rw [List.getElem?_set_self (by rw [backT_len]; omega), List.getD_eq_getElem?_getD, List.getElem?_eq_getElem hl]
          rfl
        · rw [List.getElem?_set_ne hv]
          exact ih ((List.mem_cons.mp z).resolve_left fun y => hv y.symm) s hs
    exact key own hk _ (wipeT_len _ _)
  · rw [backT_out hk, wipeT_get hk]
theorem WE_lc {own : List Nat} {I : Ac} {g : Gc} {C : Cc} {E : Ec} (p : T → Bool) (f : T → T) (h : WE (I r) (fun ts r1 => ts.length < 1000000 ∧ (∀ k ∈ own, k < r1.length) ∧
    (∀ t ∈ ts, ∃ q, g t (wipeT r1 own) = some q ∧ WE (C q) (fun z r2 => z = p t ∧ (p t = false → wipeT r2 own = wipeT r1 own) ∧ (p t = true → WE (E r2) (fun y r3 => y = f t ∧ wipeT r3 own = wipeT r1 own) noX)) noX) ∧ ψ (.lst ((ts.filter p).map f)) r1) ξ) : WE (cLc own I g C E r) ψ ξ := by
  refine WE_bind (h.imp fun ts r1 ⟨hl, hw, ht, q⟩ => WE_bind ?_)
  have key : ∀ (us : List T) (acc : List T), (∀ t ∈ us, t ∈ ts) → acc.length + us.length < 1000000 → lcGo own g C E us acc (wipeT r1 own) = .ok (acc ++ (us.filter p).map f) (wipeT r1 own) := by
    intro us
    induction us with
    | nil => intro acc _ _; simp [lcGo]
    | cons u us ih =>
      intro acc hm hn
      rw [List.length_cons] at hn
      obtain ⟨s, e1, w⟩ := ht u (hm u (List.mem_cons_self ..))
      unfold lcGo
      simp only [e1]
      cases z : C s with
      | ok b s2 =>
        rw [z] at w
        obtain ⟨w1, w2, w3⟩ := w.go
        subst w1
        cases hp : p u with
        | false =>
          simp only [hp]
          rw [w2 hp, ih acc (fun t h => hm t (List.mem_cons_of_mem _ h)) (by omega)]
          simp [hp]
        | true =>
          simp only [hp]
          have w4 := w3 hp
          cases y : E s2 with
          | ok t s3 =>
            rw [y] at w4
            obtain ⟨w5, w6⟩ := w4.go
            subst w5
            simp only [show acc.length < 1000000 by omega, if_true]
            rw [w6, ih (acc ++ [f u]) (fun t h => hm t (List.mem_cons_of_mem _ h)) (by rw [List.length_append, List.length_singleton]; omega)]
            simp [hp]
          | ex n w s3 => rw [y] at w4; exact w4.go.elim
          | no => rw [y] at w4; exact w4.go.elim
      | ex n v s2 => rw [z] at w; exact w.go.elim
      | no => rw [z] at w; exact w.go.elim
  rw [key ts [] (fun _ h => h) (by simpa using hl)]
  refine ⟨⟨?_⟩⟩
  show ψ (.lst _) (backT r1 (wipeT r1 own) own)
  rw [wipe_back own r1 hw]
  exact q
theorem WE_true {ψ : Bool → Sl → Prop} (q : ψ true r) : WE (cTrue r) ψ ξ := ⟨q⟩
end

/-! ### what is walked -/
section
variable {ψ : List T → Sl → Prop} {a : Ec} {A : Ac}
theorem WE_items (h : WE (a r) (fun x r1 => ∃ ts, (x = .lst ts ∨ x = .tup ts) ∧ ψ ts r1) ξ) : WE (cItems a r) ψ ξ :=
  WE_bind (h.imp fun x r1 ⟨ts, e, q⟩ => by rcases e with e | e <;> subst e <;> exact ⟨q⟩)
theorem WE_rg1 (h : WE (A r) (fun ts r1 => ∃ n, ts = [.int n] ∧ lim62 n = true ∧ ψ (rangeT 0 n) r1) ξ) : WE (cRange1 A r) ψ ξ :=
  WE_bind (h.imp fun x r1 ⟨n, e, e2, q⟩ => by subst e; simp only [e2, if_true]; exact ⟨q⟩)
theorem WE_rg2 (h : WE (A r) (fun ts r1 => ∃ m n, ts = [.int m, .int n] ∧ lim62 m = true ∧ lim62 n = true ∧ ψ (rangeT m n) r1) ξ) : WE (cRange2 A r) ψ ξ :=
  WE_bind (h.imp fun x r1 ⟨m, n, e, e2, e3, q⟩ => by subst e; simp only [e2, e3, Bool.and_true, if_true]; exact ⟨q⟩)
theorem WE_enum (h : WE (A r) (fun ts r1 => ∃ xs, ts = [.lst xs] ∧ ψ (enumT 0 xs) r1) ξ) : WE (cEnum A r) ψ ξ :=
  WE_bind (h.imp fun x r1 ⟨xs, e, q⟩ => by subst e; exact ⟨q⟩)
theorem WE_zip (h : WE (A r) (fun ts r1 => ∃ xs ys, ts = [.lst xs, .lst ys] ∧ ψ (zipT xs ys) r1) ξ) : WE (cZip A r) ψ ξ :=
  WE_bind (h.imp fun x r1 ⟨xs, ys, e, q⟩ => by subst e; exact ⟨q⟩)
theorem WE_revd (h : WE (A r) (fun ts r1 => ∃ xs, ts = [.lst xs] ∧ ψ xs.reverse r1) ξ) : WE (cRevd A r) ψ ξ :=
  WE_bind (h.imp fun x r1 ⟨xs, e, q⟩ => by subst e; exact ⟨q⟩)
end

/-! ### statements -/
section
variable {F G : Sc} {a b : Ec} {c : Cc}
theorem WS_nx (q : nx r) : WS (cNx r) nx rt bk ct ex := ⟨q⟩
theorem WS_bk (q : bk r) : WS (cBk r) nx rt bk ct ex := ⟨q⟩
theorem WS_ct (q : ct r) : WS (cCt r) nx rt bk ct ex := ⟨q⟩
theorem WS_seq (h : WS (F r) (fun r1 => WS (G r1) nx rt bk ct ex) rt bk ct ex) : WS (cSeq F G r) nx rt bk ct ex := by
  unfold cSeq
  cases z : F r with
  | nx r1 => rw [z] at h; exact h.go
  | no => rw [z] at h; exact h.go.elim
  | _ => rw [z] at h; exact ⟨h.go⟩
theorem WS_set (h : WE (a r) (fun t r1 => nx (r1.set i (some t))) ex) : WS (cSet i a r) nx rt bk ct ex := WS_so (h.imp fun _ _ q => ⟨q⟩)
theorem WS_drop (h : WE (a r) (fun _ r1 => nx r1) ex) : WS (cDrop a r) nx rt bk ct ex := WS_so (h.imp fun _ _ q => ⟨q⟩)
theorem WS_ret (h : WE (a r) (fun t r1 => rt t r1) ex) : WS (cRet a r) nx rt bk ct ex := WS_so (h.imp fun _ _ q => ⟨q⟩)
theorem WS_if (h : WE (c r) (fun z r1 => (z = true → WS (F r1) nx rt bk ct ex) ∧ (z = false → WS (G r1) nx rt bk ct ex)) ex) : WS (cIfS c F G r) nx rt bk ct ex :=
  WS_so (h.imp fun z r1 q => by
    cases z with
    | true => exact q.1 rfl
    | false => exact q.2 rfl)
theorem WS_app (h : WE (a r) (fun t r1 => ∃ ts, r1[i]? = some (some (.lst ts)) ∧ ts.length < 1000000 ∧ nx (r1.set i (some (.lst (ts ++ [t]))))) ex) : WS (cApnd i a r) nx rt bk ct ex :=
  WS_so (h.imp fun z r1 ⟨ts, e, e2, q⟩ => by rw [e]; simp only [e2, if_true]; exact ⟨q⟩)
theorem WS_put (h : WE (a r) (fun t r1 => WE (b r1) (fun k r2 => ∃ ts n m, r2[i]? = some (some (.lst ts)) ∧ k = .int n ∧ ixN ts.length n = some m ∧ nx (r2.set i (some (.lst (ts.set m t))))) ex) ex) : WS (cPut i b a r) nx rt bk ct ex :=
  WS_so (h.imp fun z r1 h1 => WS_so (h1.imp fun k r2 ⟨ts, n, m, e1, e2, e3, q⟩ => by subst e2; rw [e1]; simp only [e3]; exact ⟨q⟩))
theorem WS_par2 {A : Ac} (h : WE (A r) (fun ts r1 => ∃ t u, ts = [t, u] ∧ nx ((r1.set i (some t)).set k (some u))) ex) : WS (cPar2 i k A r) nx rt bk ct ex :=
  WS_so (h.imp fun z r1 ⟨t, u, e, q⟩ => by subst e; exact ⟨q⟩)
theorem WS_par3 {A : Ac} (h : WE (A r) (fun ts r1 => ∃ t u v, ts = [t, u, v] ∧ nx (((r1.set i (some t)).set k (some u)).set l (some v))) ex) : WS (cPar3 i k l A r) nx rt bk ct ex :=
  WS_so (h.imp fun z r1 ⟨t, u, v, e, q⟩ => by subst e; exact ⟨q⟩)
theorem WS_asg {g : Gc} (h : WE (a r) (fun t r1 => ∃ r2, g t r1 = some r2 ∧ nx r2) ex) : WS (cAsg g a r) nx rt bk ct ex :=
  WS_so (h.imp fun z r1 ⟨r2, e, q⟩ => by rw [e]; exact ⟨q⟩)
theorem forGo_inv {g : Gc} (Inv : Nat → Sl → Prop) : ∀ (ts us : List T) (r : Sl), Inv us.length r →
    (∀ i t r, us.length ≤ i → (us ++ ts)[i]? = some t → Inv i r → ∃ r1, g t r = some r1 ∧ WS (F r1) (Inv (i + 1)) rt nx (Inv (i + 1)) ex) → (∀ r, Inv (us ++ ts).length r → nx r) → WS (forGo g F ts r) nx rt bk ct ex
  | [], us, r, h0, _, h2 => ⟨h2 r (by rw [List.append_nil]; exact h0)⟩
  | t :: ts, us, r, h0, h1, h2 => by
    obtain ⟨r1, e, w⟩ := h1 us.length t r (Nat.le_refl _) (by simp) h0
    unfold forGo
    simp only [e]
    have next : ∀ r2, Inv (us.length + 1) r2 → WS (forGo g F ts r2) nx rt bk ct ex := fun r2 h =>
      forGo_inv Inv ts (us ++ [t]) r2 (by rw [List.length_append]; exact h) (fun i t' r' hi he => h1 i t' r' (by rw [List.length_append] at hi; simp at hi; omega) (by rw [List.append_assoc] at he; exact he))
        (fun r' h' => h2 r' (by rw [List.append_assoc] at h'; exact h'))
    cases z : F r1 with
    | nx r2 => rw [z] at w; exact next r2 w.go
    | ct r2 => rw [z] at w; exact next r2 w.go
    | bk r2 => rw [z] at w; exact ⟨w.go⟩
    | rt t' r2 => rw [z] at w; exact ⟨w.go⟩
    | ex n w' r2 => rw [z] at w; exact ⟨w.go⟩
    | no => rw [z] at w; exact w.go.elim
theorem WS_for {I : Ac} {g : Gc} (Inv : List T → Nat → Sl → Prop) (h : WE (I r) (fun ts r1 => Inv ts 0 r1 ∧ (∀ i t r, ts[i]? = some t → Inv ts i r → ∃ r1, g t r = some r1 ∧ WS (F r1) (Inv ts (i + 1)) rt nx (Inv ts (i + 1)) ex) ∧ ∀ r, Inv ts ts.length r → nx r) ex) :
    WS (cFor I g F r) nx rt bk ct ex :=
  WS_so (h.imp fun ts r1 ⟨h0, h1, h2⟩ => forGo_inv (Inv ts) ts [] r1 h0 (fun i t r _ e => h1 i t r e) h2)
theorem whGo_inv (Inv : Sl → Prop) (v : Sl → Nat) (h : ∀ r, Inv r → WE (c r) (fun z r1 => (z = true → WS (F r1) (fun r2 => Inv r2 ∧ v r2 < v r) rt nx (fun r2 => Inv r2 ∧ v r2 < v r) ex) ∧ (z = false → nx r1)) ex) :
    ∀ (n : Nat) (r : Sl), v r < n → Inv r → WS (whGo c F n r) nx rt bk ct ex
  | 0, r, hn, _ => absurd hn (Nat.not_lt_zero _)
  | n + 1, r, hn, hi => by
    have w := h r hi
    unfold whGo
    cases z : c r with
    | ok b r1 =>
      rw [z] at w
      cases b with
      | false => exact ⟨w.go.2 rfl⟩
      | true =>
        have w := w.go.1 rfl
        simp only
        cases y : F r1 with
        | nx r2 => rw [y] at w; exact whGo_inv Inv v h n r2 (by have := w.go.2; omega) w.go.1
        | ct r2 => rw [y] at w; exact whGo_inv Inv v h n r2 (by have := w.go.2; omega) w.go.1
        | bk r2 => rw [y] at w; exact ⟨w.go⟩
        | rt t' r2 => rw [y] at w; exact ⟨w.go⟩
        | ex n w' r2 => rw [y] at w; exact ⟨w.go⟩
        | no => rw [y] at w; exact w.go.elim
    | ex n' w' r1 => rw [z] at w; exact ⟨w.go⟩
    | no => rw [z] at w; exact w.go.elim
theorem WS_wh {n : Nat} (Inv : Sl → Prop) (v : Sl → Nat) (h0 : Inv r) (hv : v r < n) (h : ∀ r, Inv r → WE (c r) (fun z r1 => (z = true → WS (F r1) (fun r2 => Inv r2 ∧ v r2 < v r) rt nx (fun r2 => Inv r2 ∧ v r2 < v r) ex) ∧ (z = false → nx r1)) ex) :
    WS (cWh n c F r) nx rt bk ct ex := whGo_inv Inv v h n r hv h0

/-! ### defs -/
theorem WR_fn {n : Nat} {ts : List T} {s : Sl} {χ : T → List T → Prop} {ζ : Str → T → Prop} (h : WS (F s) (fun _ => χ .non []) (fun t _ => χ t []) noS noS (fun c w _ => ζ c w)) (hs : ts.map some ++ List.replicate (n - ts.length) none = s := by rfl) : WR (fnM false n F ts) χ ζ := by
  show WR (fnT n F ts) χ ζ
  unfold fnT
  rw [hs]
  cases z : F s with
  | nx r => rw [z] at h; exact ⟨h.go⟩
  | rt t r => rw [z] at h; exact ⟨h.go⟩
  | ex c w r => rw [z] at h; exact ⟨h.go⟩
  | bk r => rw [z] at h; exact h.go.elim
  | ct r => rw [z] at h; exact h.go.elim
  | no => rw [z] at h; exact h.go.elim
theorem WR_fnG {n : Nat} {ts : List T} {s : Sl} {χ : T → List T → Prop} {ζ : Str → T → Prop} (h : WS (F s) (fun r => ∃ us, r[0]? = some (some (.lst us)) ∧ χ .non [.lst us]) (fun t r => ∃ us, r[0]? = some (some (.lst us)) ∧ χ t [.lst us]) noS noS noX) (hs : ts.map some ++ List.replicate (n - ts.length) none = s := by rfl) : WR (fnM true n F ts) χ ζ := by
  show WR (fnG n F ts) χ ζ
  unfold fnG
  rw [hs]
  cases z : F s with
  | nx r => rw [z] at h; obtain ⟨us, e, q⟩ := h.go; simp only [e]; exact ⟨q⟩
  | rt t r => rw [z] at h; obtain ⟨us, e, q⟩ := h.go; simp only [e]; exact ⟨q⟩
  | ex c w r => rw [z] at h; exact h.go.elim
  | bk r => rw [z] at h; exact h.go.elim
  | ct r => rw [z] at h; exact h.go.elim
  | no => rw [z] at h; exact h.go.elim
theorem WR.eq {o : Res} {t : T} {g : List T} (h : WR o (fun t' g' => t' = t ∧ g' = g) noR) : o = .ok t g := by
  cases o with
  | ok t' g' => obtain ⟨rfl, rfl⟩ := (show t' = t ∧ g' = g from h.go); rfl
  | ex c w => exact h.go.elim
  | no => exact h.go.elim
theorem WR.of_eq {o : Res} {t : T} {g : List T} {χ : T → List T → Prop} {ζ : Str → T → Prop} (e : o = .ok t g) (h : χ t g) : WR o χ ζ := by rw [e]; exact ⟨h⟩
end
end
/-! ### truth values that cannot be -/
theorem ff1 {p : Prop} (h : false = true) : p := nomatch h
theorem ff2 {p : Prop} (h : (!true) = true) : p := nomatch h
theorem ff3 {p : Prop} (h : (true == false) = true) : p := nomatch h
theorem ff4 {p : Prop} (h : (false == true) = true) : p := nomatch h
theorem ff5 {p : Prop} (h : (!!false) = true) : p := nomatch h
theorem tt1 {p : Prop} (h : true = false) : p := nomatch h
theorem tt2 {p : Prop} (h : (!false) = false) : p := nomatch h
theorem tt3 {p : Prop} (h : (true == true) = false) : p := nomatch h
theorem tt4 {p : Prop} (h : (false == false) = false) : p := nomatch h
theorem tt5 {p : Prop} (h : (!!true) = false) : p := nomatch h
/-! ### sizes -/
theorem okSz_of {i : Int} (h1 : -1000000000000000000000000000000 ≤ i) (h2 : i ≤ 1000000000000000000000000000000) : okSz i = true := by
  have h : i.natAbs < 2 ^ 100 := by
    have e : (2 : Nat) ^ 100 = 1267650600228229401496703205376 := by decide
    omega
  refine decide_eq_true ?_
  by_cases z : i.natAbs = 0
  · rw [z]; decide
  · have := (Nat.log2_lt z).mpr h
    omega
theorem okDv_of {i : Int} (h1 : 0 < i) (h2 : i ≤ 1000000000000000000000000000000) : okDv i = true := by
  have h : i.natAbs < 2 ^ 100 := by
    have e : (2 : Nat) ^ 100 = 1267650600228229401496703205376 := by decide
    omega
  refine decide_eq_true ⟨h1, ?_⟩
  have := (Nat.log2_lt (by omega)).mpr h
  omega
theorem lim62_of {i : Int} (h1 : -1000000000000000000 ≤ i) (h2 : i ≤ 1000000000000000000) : lim62 i = true := decide_eq_true ⟨h1, h2⟩
theorem mulT_of {i j : Int} (h1 : -1000000000000000000000000000000 ≤ i) (h2 : i ≤ 1000000000000000000000000000000) (h3 : -1000000000000000000000000000000 ≤ j) (h4 : j ≤ 1000000000000000000000000000000) : mulT (.int i) (.int j) = some (.int (i * j)) := by
  simp only [mulT, okSz_of h1 h2, okSz_of h3 h4, Bool.and_true, if_true]
theorem fdivT_of {i j : Int} (h1 : 0 < j) (h2 : j ≤ 1000000000000000000000000000000) : fdivT (.int i) (.int j) = some (.int (i / j)) := by
  simp only [fdivT, okDv_of h1 h2, if_true]
theorem modT_of {i j : Int} (h1 : 0 < j) : modT (.int i) (.int j) = some (.int (i % j)) := by
  simp only [modT, h1, if_true]
end Tc

/-! Tc: what all laws draw and compare with. -/
namespace Tc
open PySem PySem.Spec L2
def cm_law_hash : Fc := fnM false 3 (cSeq (cSet 2 (cBin modT (cApp intT (cCons (cBin addT (cBin addT (cBin addT (cBin mulT (cVar 0) (cK (.int 1140671))) (cBin mulT (cBin mulT (cK (.int 27644437)) (cVar 1)) (cVar 1))) (cBin mulT (cK (.int 131)) (cVar 1))) (cK (.int 19))) cNil)) (cK (.int 2147483629))))
 (cSeq (cSet 2 (cBin modT (cApp intT (cCons (cBin addT (cBin addT (cBin mulT (cVar 2) (cVar 2)) (cBin mulT (cK (.int 62089)) (cVar 1))) (cK (.int 32416187))) cNil)) (cK (.int 2147483587))))
 (cRet (cBin modT (cApp intT (cCons (cBin mulT (cVar 2) (cK (.int 48271))) cNil)) (cK (.int 2147483647))))))
def cm_law_random : Fc := fnM true 4 (cSeq (cIfS (cB (cBin gtT (cPix 0 (cK (.int 0))) (cK (.int 0))))
 (cSeq (cSet 2 (cBin modT (cApp intT (cCons (cPix 0 (cK (.int 0))) cNil)) (cVar 1)))
 (cSeq (cPut 0 (cK (.int 0)) (cBin fdivT (cPix 0 (cK (.int 0))) (cVar 1)))
 (cRet (cVar 2))))
 cNx)
 (cSeq (cSet 2 (cK (.int 0)))
 (cSeq (cFor (cRange1 (cCons (cBin addT (cK (.int 1)) (cBin fdivT (cUn bitsT (cVar 1)) (cK (.int 30)))) cNil)) (gSet 3)
 (cSeq (cPut 0 (cK (.int 2)) (cBin addT (cPix 0 (cK (.int 2))) (cK (.int 1))))
 (cSet 2 (cBin addT (cBin mulT (cVar 2) (cK (.int 2147483587))) (cCall cm_law_hash (cCons (cPix 0 (cK (.int 1))) (cCons (cPix 0 (cK (.int 2))) cNil)))))))
 (cRet (cBin modT (cApp intT (cCons (cVar 2) cNil)) (cVar 1))))))
def cm_law_cell : Fc := fnM false 2 (cSeq (cIfS (cB (cBin ltT (cVar 1) (cApp lenT (cCons (cVar 0) cNil))))
 (cRet (cBin ixT (cVar 0) (cVar 1)))
 cNx)
 (cRet (cBin modT (cApp sumT (cCons (cSl slT (cVar 0) cP0 (cP1 (cK (.int 1)))) cNil)) (cK (.int 1000003)))))
def cm_law_generator : Fc := fnM false 3 (cSeq (cSet 2 (cCall cm_law_cell (cCons (cVar 0) (cCons (cVar 1) cNil))))
 (cRet (cLst (cCons (cBin modT (cApp intT (cCons (cApp max2T (cCons (cBin subT (cVar 2) (cBin powT (cK (.int 10)) (cK (.int 18)))) (cCons (cK (.int 0)) cNil))) cNil)) (cBin powT (cBin powT (cK (.int 10)) (cK (.int 60))) (cK (.int 10)))) (cCons (cBin modT (cApp intT (cCons (cVar 2) cNil)) (cK (.int 2147483647))) (cCons (cBin mulT (cK (.int 1000)) (cVar 1)) cNil))))))
def cm_law_pick : Fc := fnM true 2 (cRet (cBin ixT (cVar 1) (cCallG cm_law_random 0 (cCons (cApp lenT (cCons (cVar 1) cNil)) cNil))))
def cm_law_same : Nat → Fc
  | 0 => fun _ => .no
  | n + 1 => fnM false 3 (cSeq (cIfS (cOrC (cB (cBin isT (cVar 1) (cK .non))) (cOrC (cB (cBin isT (cVar 1) (cK (.bl true)))) (cB (cBin isT (cVar 1) (cK (.bl false))))))
 (cRet (cIf (cB (cBin isT (cVar 1) (cK .non))) (cBin isT (cVar 0) (cK .non)) (cIf (cB (cBin isT (cVar 1) (cK (.bl true)))) (cBin isT (cVar 0) (cK (.bl true))) (cBin isT (cVar 0) (cK (.bl false))))))
 cNx)
 (cSeq (cIfS (cB (cUn (isisT [.list, .tuple]) (cVar 1)))
 (cSeq (cIfS (cOrC (cAndC (cNotC (cB (cUn (isiT .list) (cVar 0)))) (cB (cUn (isiT .list) (cVar 1)))) (cAndC (cNotC (cB (cUn (isiT .tuple) (cVar 0)))) (cB (cUn (isiT .tuple) (cVar 1)))))
 (cRet (cK (.bl false)))
 cNx)
 (cRet (cAndV (cBin eqT (cApp lenT (cCons (cVar 0) cNil)) (cApp lenT (cCons (cVar 1) cNil))) (cBin eqT (cLc [2] (cRange1 (cCons (cApp lenT (cCons (cVar 1) cNil)) cNil)) (gSet 2) (cNotC (cB (cCall (cm_law_same n) (cCons (cBin ixT (cVar 0) (cVar 2)) (cCons (cBin ixT (cVar 1) (cVar 2)) cNil))))) (cVar 2)) (cLst cNil)))))
 cNx)
 (cSeq (cIfS (cB (cUn (isiT .int) (cVar 1)))
 (cRet (cAndV (cUn (isiT .int) (cVar 0)) (cAndV (cNotV (cUn (isiT .bool) (cVar 0))) (cBin eqT (cVar 0) (cVar 1)))))
 cNx)
 (cRet (cAndV (cUn (isiT .str) (cVar 0)) (cBin eqT (cVar 0) (cVar 1)))))))
def cm_is_whole : Fc := fnM false 1 (cRet (cAndV (cUn (isiT .int) (cVar 0)) (cNotV (cUn (isiT .bool) (cVar 0)))))
def cm_is_count : Fc := fnM false 1 (cRet (cAndV (cCall cm_is_whole (cCons (cVar 0) cNil)) (cBin geT (cVar 0) (cK (.int 0)))))
def cm_is_below : Fc := fnM false 2 (cRet (cAndV (cCall cm_is_count (cCons (cVar 0) cNil)) (cBin ltT (cVar 0) (cVar 1))))

section
variable {χ : T → List T → Prop} {ζ : Str → T → Prop}
theorem mul_bd {a b A B : Int} (h1 : 0 ≤ a) (h2 : a ≤ A) (h3 : 0 ≤ b) (h4 : b ≤ B) : 0 ≤ a * b ∧ a * b ≤ A * B :=
  ⟨Int.mul_nonneg h1 h3, Int.mul_le_mul h2 h4 h3 (Int.le_trans h1 h2)⟩
theorem div_bd {a b : Int} (h1 : 0 ≤ a) (h2 : 0 < b) : 0 ≤ a / b ∧ a / b ≤ a := ⟨Int.ediv_nonneg h1 (Int.le_of_lt h2), Int.ediv_le_self _ h1⟩
theorem mod_bd {a b : Int} (h2 : 0 < b) : 0 ≤ a % b ∧ a % b < b := ⟨Int.emod_nonneg _ (by omega), Int.emod_lt_of_pos _ h2⟩
theorem hash_ok {s k : Int} (h1 : 0 ≤ s) (h2 : s < 2147483647) (h3 : 0 ≤ k) (h4 : k ≤ 1000000000) (q : ∀ h, 0 ≤ h → h < 2147483647 → χ (.int h) []) : WR (cm_law_hash [.int s, .int k]) χ ζ := by
  refine WR_fn ?_
  try simp only [List.map_cons, List.map_nil, List.cons_append, List.nil_append, List.length_cons, List.length_nil, Nat.zero_add, Nat.reduceAdd, Nat.reduceSub, Nat.sub_self, List.replicate_zero, List.replicate_succ, List.append_nil, List.set_cons_zero, List.set_cons_succ]
  have b1 := mul_bd (a := 27644437 * k) (b := k) (by omega) (show 27644437 * k ≤ 27644437000000000 by omega) h3 h4
  repeat' (first
      | with_reducible (first | refine WS_seq ?_ | refine WS_set ?_ | refine WS_ret ?_ | refine WS_if ?_ | refine WS_drop ?_ | refine WS_nx ?_ | refine WE_bin ?_ | refine WE_cons ?_ | refine WE_nil ?_ | refine WE_k ?_ | refine WE_app ?_ | refine WE_un ?_ | refine WE_B ?_ | refine WE_notC ?_ | refine WE_call ?_ | refine WE_callK ?_ | refine WE_lst ?_ | refine WE_tup ?_ | refine WE_chain ?_ | refine WE_andV ?_ | refine WE_orV ?_ | refine WE_notV ?_ | refine WE_andC ?_ | refine WE_orC ?_ | refine WE_if ?_ | refine WS_par2 ?_ | refine WS_par3 ?_ | refine WE_rg1 ?_ | refine WE_rg2 ?_ | refine WE_items ?_ | refine WE_enum ?_ | refine WE_zip ?_ | refine WE_revd ?_ | refine WE_callG ?_ | refine WS_put ?_ | refine WS_app ?_ | refine WE_pix ?_ | refine WE_sl ?_ | refine WE_p0 ?_ | refine WE_p1 ?_ | refine WE_true ?_ | refine WS_asg ?_) | ((with_reducible apply WE_var); (case h => exact rfl))
      | ((with_reducible refine And.intro ?_ ?_); (with_reducible first | exact ff1 | exact ff2 | exact ff3 | exact ff4 | exact ff5 | fail); (intro _))
      | ((with_reducible refine And.intro ?_ ?_); rotate_left; (with_reducible first | exact tt1 | exact tt2 | exact tt3 | exact tt4 | exact tt5 | fail); (intro _))
      | ((with_reducible apply Exists.intro); (with_reducible apply And.intro); first | ((with_reducible (first | show addT (.int _) (.int _) = some _ | show subT (.int _) (.int _) = some _ | show negT (.int _) = some _ | show ltT (.int _) (.int _) = some _ | show leT (.int _) (.int _) = some _ | show gtT (.int _) (.int _) = some _ | show geT (.int _) (.int _) = some _ | show intT [.int _] = some _ | show max2T [.int _, .int _] = some _ | show min2T [.int _, .int _] = some _ | show absT [.int _] = some _ | show eqT (.int _) (.int _) = some _ | show neT (.int _) (.int _) = some _ | show T.bl _ = T.bl _)); exact rfl) | ((with_reducible (first | show isiT _ _ = some _ | show isT _ _ = some _ | show isNT _ _ = some _ | show isisT _ _ = some _)); first | exact (rfl : _ = some (T.bl true)) | exact (rfl : _ = some (T.bl false)) | exact rfl) | fail)
      | fail)
  refine ⟨_, mulT_of (by omega) (by omega) (by omega) (by omega), ?_⟩
  repeat' (first
      | with_reducible (first | refine WS_seq ?_ | refine WS_set ?_ | refine WS_ret ?_ | refine WS_if ?_ | refine WS_drop ?_ | refine WS_nx ?_ | refine WE_bin ?_ | refine WE_cons ?_ | refine WE_nil ?_ | refine WE_k ?_ | refine WE_app ?_ | refine WE_un ?_ | refine WE_B ?_ | refine WE_notC ?_ | refine WE_call ?_ | refine WE_callK ?_ | refine WE_lst ?_ | refine WE_tup ?_ | refine WE_chain ?_ | refine WE_andV ?_ | refine WE_orV ?_ | refine WE_notV ?_ | refine WE_andC ?_ | refine WE_orC ?_ | refine WE_if ?_ | refine WS_par2 ?_ | refine WS_par3 ?_ | refine WE_rg1 ?_ | refine WE_rg2 ?_ | refine WE_items ?_ | refine WE_enum ?_ | refine WE_zip ?_ | refine WE_revd ?_ | refine WE_callG ?_ | refine WS_put ?_ | refine WS_app ?_ | refine WE_pix ?_ | refine WE_sl ?_ | refine WE_p0 ?_ | refine WE_p1 ?_ | refine WE_true ?_ | refine WS_asg ?_) | ((with_reducible apply WE_var); (case h => exact rfl))
      | ((with_reducible refine And.intro ?_ ?_); (with_reducible first | exact ff1 | exact ff2 | exact ff3 | exact ff4 | exact ff5 | fail); (intro _))
      | ((with_reducible refine And.intro ?_ ?_); rotate_left; (with_reducible first | exact tt1 | exact tt2 | exact tt3 | exact tt4 | exact tt5 | fail); (intro _))
      | ((with_reducible apply Exists.intro); (with_reducible apply And.intro); first | ((with_reducible (first | show addT (.int _) (.int _) = some _ | show subT (.int _) (.int _) = some _ | show negT (.int _) = some _ | show ltT (.int _) (.int _) = some _ | show leT (.int _) (.int _) = some _ | show gtT (.int _) (.int _) = some _ | show geT (.int _) (.int _) = some _ | show intT [.int _] = some _ | show max2T [.int _, .int _] = some _ | show min2T [.int _, .int _] = some _ | show absT [.int _] = some _ | show eqT (.int _) (.int _) = some _ | show neT (.int _) (.int _) = some _ | show T.bl _ = T.bl _)); exact rfl) | ((with_reducible (first | show isiT _ _ = some _ | show isT _ _ = some _ | show isNT _ _ = some _ | show isisT _ _ = some _)); first | exact (rfl : _ = some (T.bl true)) | exact (rfl : _ = some (T.bl false)) | exact rfl) | fail)
      | fail)
  refine ⟨_, mulT_of (by omega) (by omega) (by omega) (by omega), ?_⟩
  repeat' (first
      | with_reducible (first | refine WS_seq ?_ | refine WS_set ?_ | refine WS_ret ?_ | refine WS_if ?_ | refine WS_drop ?_ | refine WS_nx ?_ | refine WE_bin ?_ | refine WE_cons ?_ | refine WE_nil ?_ | refine WE_k ?_ | refine WE_app ?_ | refine WE_un ?_ | refine WE_B ?_ | refine WE_notC ?_ | refine WE_call ?_ | refine WE_callK ?_ | refine WE_lst ?_ | refine WE_tup ?_ | refine WE_chain ?_ | refine WE_andV ?_ | refine WE_orV ?_ | refine WE_notV ?_ | refine WE_andC ?_ | refine WE_orC ?_ | refine WE_if ?_ | refine WS_par2 ?_ | refine WS_par3 ?_ | refine WE_rg1 ?_ | refine WE_rg2 ?_ | refine WE_items ?_ | refine WE_enum ?_ | refine WE_zip ?_ | refine WE_revd ?_ | refine WE_callG ?_ | refine WS_put ?_ | refine WS_app ?_ | refine WE_pix ?_ | refine WE_sl ?_ | refine WE_p0 ?_ | refine WE_p1 ?_ | refine WE_true ?_ | refine WS_asg ?_) | ((with_reducible apply WE_var); (case h => exact rfl))
      | ((with_reducible refine And.intro ?_ ?_); (with_reducible first | exact ff1 | exact ff2 | exact ff3 | exact ff4 | exact ff5 | fail); (intro _))
      | ((with_reducible refine And.intro ?_ ?_); rotate_left; (with_reducible first | exact tt1 | exact tt2 | exact tt3 | exact tt4 | exact tt5 | fail); (intro _))
      | ((with_reducible apply Exists.intro); (with_reducible apply And.intro); first | ((with_reducible (first | show addT (.int _) (.int _) = some _ | show subT (.int _) (.int _) = some _ | show negT (.int _) = some _ | show ltT (.int _) (.int _) = some _ | show leT (.int _) (.int _) = some _ | show gtT (.int _) (.int _) = some _ | show geT (.int _) (.int _) = some _ | show intT [.int _] = some _ | show max2T [.int _, .int _] = some _ | show min2T [.int _, .int _] = some _ | show absT [.int _] = some _ | show eqT (.int _) (.int _) = some _ | show neT (.int _) (.int _) = some _ | show T.bl _ = T.bl _)); exact rfl) | ((with_reducible (first | show isiT _ _ = some _ | show isT _ _ = some _ | show isNT _ _ = some _ | show isisT _ _ = some _)); first | exact (rfl : _ = some (T.bl true)) | exact (rfl : _ = some (T.bl false)) | exact rfl) | fail)
      | fail)
  refine ⟨_, mulT_of (by omega) (by omega) (by omega) (by omega), ?_⟩
  repeat' (first
      | with_reducible (first | refine WS_seq ?_ | refine WS_set ?_ | refine WS_ret ?_ | refine WS_if ?_ | refine WS_drop ?_ | refine WS_nx ?_ | refine WE_bin ?_ | refine WE_cons ?_ | refine WE_nil ?_ | refine WE_k ?_ | refine WE_app ?_ | refine WE_un ?_ | refine WE_B ?_ | refine WE_notC ?_ | refine WE_call ?_ | refine WE_callK ?_ | refine WE_lst ?_ | refine WE_tup ?_ | refine WE_chain ?_ | refine WE_andV ?_ | refine WE_orV ?_ | refine WE_notV ?_ | refine WE_andC ?_ | refine WE_orC ?_ | refine WE_if ?_ | refine WS_par2 ?_ | refine WS_par3 ?_ | refine WE_rg1 ?_ | refine WE_rg2 ?_ | refine WE_items ?_ | refine WE_enum ?_ | refine WE_zip ?_ | refine WE_revd ?_ | refine WE_callG ?_ | refine WS_put ?_ | refine WS_app ?_ | refine WE_pix ?_ | refine WE_sl ?_ | refine WE_p0 ?_ | refine WE_p1 ?_ | refine WE_true ?_ | refine WS_asg ?_) | ((with_reducible apply WE_var); (case h => exact rfl))
      | ((with_reducible refine And.intro ?_ ?_); (with_reducible first | exact ff1 | exact ff2 | exact ff3 | exact ff4 | exact ff5 | fail); (intro _))
      | ((with_reducible refine And.intro ?_ ?_); rotate_left; (with_reducible first | exact tt1 | exact tt2 | exact tt3 | exact tt4 | exact tt5 | fail); (intro _))
      | ((with_reducible apply Exists.intro); (with_reducible apply And.intro); first | ((with_reducible (first | show addT (.int _) (.int _) = some _ | show subT (.int _) (.int _) = some _ | show negT (.int _) = some _ | show ltT (.int _) (.int _) = some _ | show leT (.int _) (.int _) = some _ | show gtT (.int _) (.int _) = some _ | show geT (.int _) (.int _) = some _ | show intT [.int _] = some _ | show max2T [.int _, .int _] = some _ | show min2T [.int _, .int _] = some _ | show absT [.int _] = some _ | show eqT (.int _) (.int _) = some _ | show neT (.int _) (.int _) = some _ | show T.bl _ = T.bl _)); exact rfl) | ((with_reducible (first | show isiT _ _ = some _ | show isT _ _ = some _ | show isNT _ _ = some _ | show isisT _ _ = some _)); first | exact (rfl : _ = some (T.bl true)) | exact (rfl : _ = some (T.bl false)) | exact rfl) | fail)
      | fail)
  refine ⟨_, mulT_of (by omega) (by omega) (by omega) (by omega), ?_⟩
  repeat' (first
      | with_reducible (first | refine WS_seq ?_ | refine WS_set ?_ | refine WS_ret ?_ | refine WS_if ?_ | refine WS_drop ?_ | refine WS_nx ?_ | refine WE_bin ?_ | refine WE_cons ?_ | refine WE_nil ?_ | refine WE_k ?_ | refine WE_app ?_ | refine WE_un ?_ | refine WE_B ?_ | refine WE_notC ?_ | refine WE_call ?_ | refine WE_callK ?_ | refine WE_lst ?_ | refine WE_tup ?_ | refine WE_chain ?_ | refine WE_andV ?_ | refine WE_orV ?_ | refine WE_notV ?_ | refine WE_andC ?_ | refine WE_orC ?_ | refine WE_if ?_ | refine WS_par2 ?_ | refine WS_par3 ?_ | refine WE_rg1 ?_ | refine WE_rg2 ?_ | refine WE_items ?_ | refine WE_enum ?_ | refine WE_zip ?_ | refine WE_revd ?_ | refine WE_callG ?_ | refine WS_put ?_ | refine WS_app ?_ | refine WE_pix ?_ | refine WE_sl ?_ | refine WE_p0 ?_ | refine WE_p1 ?_ | refine WE_true ?_ | refine WS_asg ?_) | ((with_reducible apply WE_var); (case h => exact rfl))
      | ((with_reducible refine And.intro ?_ ?_); (with_reducible first | exact ff1 | exact ff2 | exact ff3 | exact ff4 | exact ff5 | fail); (intro _))
      | ((with_reducible refine And.intro ?_ ?_); rotate_left; (with_reducible first | exact tt1 | exact tt2 | exact tt3 | exact tt4 | exact tt5 | fail); (intro _))
      | ((with_reducible apply Exists.intro); (with_reducible apply And.intro); first | ((with_reducible (first | show addT (.int _) (.int _) = some _ | show subT (.int _) (.int _) = some _ | show negT (.int _) = some _ | show ltT (.int _) (.int _) = some _ | show leT (.int _) (.int _) = some _ | show gtT (.int _) (.int _) = some _ | show geT (.int _) (.int _) = some _ | show intT [.int _] = some _ | show max2T [.int _, .int _] = some _ | show min2T [.int _, .int _] = some _ | show absT [.int _] = some _ | show eqT (.int _) (.int _) = some _ | show neT (.int _) (.int _) = some _ | show T.bl _ = T.bl _)); exact rfl) | ((with_reducible (first | show isiT _ _ = some _ | show isT _ _ = some _ | show isNT _ _ = some _ | show isisT _ _ = some _)); first | exact (rfl : _ = some (T.bl true)) | exact (rfl : _ = some (T.bl false)) | exact rfl) | fail)
      | fail)
  refine ⟨_, modT_of (by omega), ?_⟩
  have m1 := mod_bd (a := s * 1140671 + 27644437 * k * k + 131 * k + 19) (b := 2147483629) (by omega)
  generalize (s * 1140671 + 27644437 * k * k + 131 * k + 19) % 2147483629 = m at *
  try simp only [List.map_cons, List.map_nil, List.cons_append, List.nil_append, List.length_cons, List.length_nil, Nat.zero_add, Nat.reduceAdd, Nat.reduceSub, Nat.sub_self, List.replicate_zero, List.replicate_succ, List.append_nil, List.set_cons_zero, List.set_cons_succ]
  have m2 := mul_bd m1.1 (Int.le_of_lt m1.2) m1.1 (Int.le_of_lt m1.2)
  repeat' (first
      | with_reducible (first | refine WS_seq ?_ | refine WS_set ?_ | refine WS_ret ?_ | refine WS_if ?_ | refine WS_drop ?_ | refine WS_nx ?_ | refine WE_bin ?_ | refine WE_cons ?_ | refine WE_nil ?_ | refine WE_k ?_ | refine WE_app ?_ | refine WE_un ?_ | refine WE_B ?_ | refine WE_notC ?_ | refine WE_call ?_ | refine WE_callK ?_ | refine WE_lst ?_ | refine WE_tup ?_ | refine WE_chain ?_ | refine WE_andV ?_ | refine WE_orV ?_ | refine WE_notV ?_ | refine WE_andC ?_ | refine WE_orC ?_ | refine WE_if ?_ | refine WS_par2 ?_ | refine WS_par3 ?_ | refine WE_rg1 ?_ | refine WE_rg2 ?_ | refine WE_items ?_ | refine WE_enum ?_ | refine WE_zip ?_ | refine WE_revd ?_ | refine WE_callG ?_ | refine WS_put ?_ | refine WS_app ?_ | refine WE_pix ?_ | refine WE_sl ?_ | refine WE_p0 ?_ | refine WE_p1 ?_ | refine WE_true ?_ | refine WS_asg ?_) | ((with_reducible apply WE_var); (case h => exact rfl))
      | ((with_reducible refine And.intro ?_ ?_); (with_reducible first | exact ff1 | exact ff2 | exact ff3 | exact ff4 | exact ff5 | fail); (intro _))
      | ((with_reducible refine And.intro ?_ ?_); rotate_left; (with_reducible first | exact tt1 | exact tt2 | exact tt3 | exact tt4 | exact tt5 | fail); (intro _))
      | ((with_reducible apply Exists.intro); (with_reducible apply And.intro); first | ((with_reducible (first | show addT (.int _) (.int _) = some _ | show subT (.int _) (.int _) = some _ | show negT (.int _) = some _ | show ltT (.int _) (.int _) = some _ | show leT (.int _) (.int _) = some _ | show gtT (.int _) (.int _) = some _ | show geT (.int _) (.int _) = some _ | show intT [.int _] = some _ | show max2T [.int _, .int _] = some _ | show min2T [.int _, .int _] = some _ | show absT [.int _] = some _ | show eqT (.int _) (.int _) = some _ | show neT (.int _) (.int _) = some _ | show T.bl _ = T.bl _)); exact rfl) | ((with_reducible (first | show isiT _ _ = some _ | show isT _ _ = some _ | show isNT _ _ = some _ | show isisT _ _ = some _)); first | exact (rfl : _ = some (T.bl true)) | exact (rfl : _ = some (T.bl false)) | exact rfl) | fail)
      | fail)
  refine ⟨_, mulT_of (by omega) (by omega) (by omega) (by omega), ?_⟩
  repeat' (first
      | with_reducible (first | refine WS_seq ?_ | refine WS_set ?_ | refine WS_ret ?_ | refine WS_if ?_ | refine WS_drop ?_ | refine WS_nx ?_ | refine WE_bin ?_ | refine WE_cons ?_ | refine WE_nil ?_ | refine WE_k ?_ | refine WE_app ?_ | refine WE_un ?_ | refine WE_B ?_ | refine WE_notC ?_ | refine WE_call ?_ | refine WE_callK ?_ | refine WE_lst ?_ | refine WE_tup ?_ | refine WE_chain ?_ | refine WE_andV ?_ | refine WE_orV ?_ | refine WE_notV ?_ | refine WE_andC ?_ | refine WE_orC ?_ | refine WE_if ?_ | refine WS_par2 ?_ | refine WS_par3 ?_ | refine WE_rg1 ?_ | refine WE_rg2 ?_ | refine WE_items ?_ | refine WE_enum ?_ | refine WE_zip ?_ | refine WE_revd ?_ | refine WE_callG ?_ | refine WS_put ?_ | refine WS_app ?_ | refine WE_pix ?_ | refine WE_sl ?_ | refine WE_p0 ?_ | refine WE_p1 ?_ | refine WE_true ?_ | refine WS_asg ?_) | ((with_reducible apply WE_var); (case h => exact rfl))
      | ((with_reducible refine And.intro ?_ ?_); (with_reducible first | exact ff1 | exact ff2 | exact ff3 | exact ff4 | exact ff5 | fail); (intro _))
      | ((with_reducible refine And.intro ?_ ?_); rotate_left; (with_reducible first | exact tt1 | exact tt2 | exact tt3 | exact tt4 | exact tt5 | fail); (intro _))
      | ((with_reducible apply Exists.intro); (with_reducible apply And.intro); first | ((with_reducible (first | show addT (.int _) (.int _) = some _ | show subT (.int _) (.int _) = some _ | show negT (.int _) = some _ | show ltT (.int _) (.int _) = some _ | show leT (.int _) (.int _) = some _ | show gtT (.int _) (.int _) = some _ | show geT (.int _) (.int _) = some _ | show intT [.int _] = some _ | show max2T [.int _, .int _] = some _ | show min2T [.int _, .int _] = some _ | show absT [.int _] = some _ | show eqT (.int _) (.int _) = some _ | show neT (.int _) (.int _) = some _ | show T.bl _ = T.bl _)); exact rfl) | ((with_reducible (first | show isiT _ _ = some _ | show isT _ _ = some _ | show isNT _ _ = some _ | show isisT _ _ = some _)); first | exact (rfl : _ = some (T.bl true)) | exact (rfl : _ = some (T.bl false)) | exact rfl) | fail)
      | fail)
  refine ⟨_, mulT_of (by omega) (by omega) (by omega) (by omega), ?_⟩
  repeat' (first
      | with_reducible (first | refine WS_seq ?_ | refine WS_set ?_ | refine WS_ret ?_ | refine WS_if ?_ | refine WS_drop ?_ | refine WS_nx ?_ | refine WE_bin ?_ | refine WE_cons ?_ | refine WE_nil ?_ | refine WE_k ?_ | refine WE_app ?_ | refine WE_un ?_ | refine WE_B ?_ | refine WE_notC ?_ | refine WE_call ?_ | refine WE_callK ?_ | refine WE_lst ?_ | refine WE_tup ?_ | refine WE_chain ?_ | refine WE_andV ?_ | refine WE_orV ?_ | refine WE_notV ?_ | refine WE_andC ?_ | refine WE_orC ?_ | refine WE_if ?_ | refine WS_par2 ?_ | refine WS_par3 ?_ | refine WE_rg1 ?_ | refine WE_rg2 ?_ | refine WE_items ?_ | refine WE_enum ?_ | refine WE_zip ?_ | refine WE_revd ?_ | refine WE_callG ?_ | refine WS_put ?_ | refine WS_app ?_ | refine WE_pix ?_ | refine WE_sl ?_ | refine WE_p0 ?_ | refine WE_p1 ?_ | refine WE_true ?_ | refine WS_asg ?_) | ((with_reducible apply WE_var); (case h => exact rfl))
      | ((with_reducible refine And.intro ?_ ?_); (with_reducible first | exact ff1 | exact ff2 | exact ff3 | exact ff4 | exact ff5 | fail); (intro _))
      | ((with_reducible refine And.intro ?_ ?_); rotate_left; (with_reducible first | exact tt1 | exact tt2 | exact tt3 | exact tt4 | exact tt5 | fail); (intro _))
      | ((with_reducible apply Exists.intro); (with_reducible apply And.intro); first | ((with_reducible (first | show addT (.int _) (.int _) = some _ | show subT (.int _) (.int _) = some _ | show negT (.int _) = some _ | show ltT (.int _) (.int _) = some _ | show leT (.int _) (.int _) = some _ | show gtT (.int _) (.int _) = some _ | show geT (.int _) (.int _) = some _ | show intT [.int _] = some _ | show max2T [.int _, .int _] = some _ | show min2T [.int _, .int _] = some _ | show absT [.int _] = some _ | show eqT (.int _) (.int _) = some _ | show neT (.int _) (.int _) = some _ | show T.bl _ = T.bl _)); exact rfl) | ((with_reducible (first | show isiT _ _ = some _ | show isT _ _ = some _ | show isNT _ _ = some _ | show isisT _ _ = some _)); first | exact (rfl : _ = some (T.bl true)) | exact (rfl : _ = some (T.bl false)) | exact rfl) | fail)
      | fail)
  refine ⟨_, modT_of (by omega), ?_⟩
  try simp only [List.map_cons, List.map_nil, List.cons_append, List.nil_append, List.length_cons, List.length_nil, Nat.zero_add, Nat.reduceAdd, Nat.reduceSub, Nat.sub_self, List.replicate_zero, List.replicate_succ, List.append_nil, List.set_cons_zero, List.set_cons_succ]
  repeat' (first
      | with_reducible (first | refine WS_seq ?_ | refine WS_set ?_ | refine WS_ret ?_ | refine WS_if ?_ | refine WS_drop ?_ | refine WS_nx ?_ | refine WE_bin ?_ | refine WE_cons ?_ | refine WE_nil ?_ | refine WE_k ?_ | refine WE_app ?_ | refine WE_un ?_ | refine WE_B ?_ | refine WE_notC ?_ | refine WE_call ?_ | refine WE_callK ?_ | refine WE_lst ?_ | refine WE_tup ?_ | refine WE_chain ?_ | refine WE_andV ?_ | refine WE_orV ?_ | refine WE_notV ?_ | refine WE_andC ?_ | refine WE_orC ?_ | refine WE_if ?_ | refine WS_par2 ?_ | refine WS_par3 ?_ | refine WE_rg1 ?_ | refine WE_rg2 ?_ | refine WE_items ?_ | refine WE_enum ?_ | refine WE_zip ?_ | refine WE_revd ?_ | refine WE_callG ?_ | refine WS_put ?_ | refine WS_app ?_ | refine WE_pix ?_ | refine WE_sl ?_ | refine WE_p0 ?_ | refine WE_p1 ?_ | refine WE_true ?_ | refine WS_asg ?_) | ((with_reducible apply WE_var); (case h => exact rfl))
      | ((with_reducible refine And.intro ?_ ?_); (with_reducible first | exact ff1 | exact ff2 | exact ff3 | exact ff4 | exact ff5 | fail); (intro _))
      | ((with_reducible refine And.intro ?_ ?_); rotate_left; (with_reducible first | exact tt1 | exact tt2 | exact tt3 | exact tt4 | exact tt5 | fail); (intro _))
      | ((with_reducible apply Exists.intro); (with_reducible apply And.intro); first | ((with_reducible (first | show addT (.int _) (.int _) = some _ | show subT (.int _) (.int _) = some _ | show negT (.int _) = some _ | show ltT (.int _) (.int _) = some _ | show leT (.int _) (.int _) = some _ | show gtT (.int _) (.int _) = some _ | show geT (.int _) (.int _) = some _ | show intT [.int _] = some _ | show max2T [.int _, .int _] = some _ | show min2T [.int _, .int _] = some _ | show absT [.int _] = some _ | show eqT (.int _) (.int _) = some _ | show neT (.int _) (.int _) = some _ | show T.bl _ = T.bl _)); exact rfl) | ((with_reducible (first | show isiT _ _ = some _ | show isT _ _ = some _ | show isNT _ _ = some _ | show isisT _ _ = some _)); first | exact (rfl : _ = some (T.bl true)) | exact (rfl : _ = some (T.bl false)) | exact rfl) | fail)
      | fail)
  refine ⟨_, mulT_of (by omega) (by omega) (by omega) (by omega), ?_⟩
  repeat' (first
      | with_reducible (first | refine WS_seq ?_ | refine WS_set ?_ | refine WS_ret ?_ | refine WS_if ?_ | refine WS_drop ?_ | refine WS_nx ?_ | refine WE_bin ?_ | refine WE_cons ?_ | refine WE_nil ?_ | refine WE_k ?_ | refine WE_app ?_ | refine WE_un ?_ | refine WE_B ?_ | refine WE_notC ?_ | refine WE_call ?_ | refine WE_callK ?_ | refine WE_lst ?_ | refine WE_tup ?_ | refine WE_chain ?_ | refine WE_andV ?_ | refine WE_orV ?_ | refine WE_notV ?_ | refine WE_andC ?_ | refine WE_orC ?_ | refine WE_if ?_ | refine WS_par2 ?_ | refine WS_par3 ?_ | refine WE_rg1 ?_ | refine WE_rg2 ?_ | refine WE_items ?_ | refine WE_enum ?_ | refine WE_zip ?_ | refine WE_revd ?_ | refine WE_callG ?_ | refine WS_put ?_ | refine WS_app ?_ | refine WE_pix ?_ | refine WE_sl ?_ | refine WE_p0 ?_ | refine WE_p1 ?_ | refine WE_true ?_ | refine WS_asg ?_) | ((with_reducible apply WE_var); (case h => exact rfl))
      | ((with_reducible refine And.intro ?_ ?_); (with_reducible first | exact ff1 | exact ff2 | exact ff3 | exact ff4 | exact ff5 | fail); (intro _))
      | ((with_reducible refine And.intro ?_ ?_); rotate_left; (with_reducible first | exact tt1 | exact tt2 | exact tt3 | exact tt4 | exact tt5 | fail); (intro _))
      | ((with_reducible apply Exists.intro); (with_reducible apply And.intro); first | ((with_reducible (first | show addT (.int _) (.int _) = some _ | show subT (.int _) (.int _) = some _ | show negT (.int _) = some _ | show ltT (.int _) (.int _) = some _ | show leT (.int _) (.int _) = some _ | show gtT (.int _) (.int _) = some _ | show geT (.int _) (.int _) = some _ | show intT [.int _] = some _ | show max2T [.int _, .int _] = some _ | show min2T [.int _, .int _] = some _ | show absT [.int _] = some _ | show eqT (.int _) (.int _) = some _ | show neT (.int _) (.int _) = some _ | show T.bl _ = T.bl _)); exact rfl) | ((with_reducible (first | show isiT _ _ = some _ | show isT _ _ = some _ | show isNT _ _ = some _ | show isisT _ _ = some _)); first | exact (rfl : _ = some (T.bl true)) | exact (rfl : _ = some (T.bl false)) | exact rfl) | fail)
      | fail)
  refine ⟨_, modT_of (by omega), ?_⟩
  have m3 := mod_bd (a := (m * m + 62089 * k + 32416187) % 2147483587 * 48271) (b := 2147483647) (by omega)
  exact q _ m3.1 m3.2
theorem rangeT_get {lo hi : Int} {i : Nat} {t : T} (h : (rangeT lo hi)[i]? = some t) : t = .int (lo + i) ∧ (i : Int) < hi - lo := by
  unfold rangeT at h
  rw [List.getElem?_map] at h
  have hi : i < (hi - lo).toNat := by
    refine Classical.byContradiction fun z => ?_
    rw [List.getElem?_eq_none (by rw [List.length_range]; omega)] at h
    cases h
  rw [List.getElem?_range hi] at h
  exact ⟨(Option.some.inj h).symm, by omega⟩
theorem range0_get {hi : Int} {i : Nat} {t : T} (h : (rangeT 0 hi)[i]? = some t) : t = .int i ∧ (i : Int) < hi := by
  obtain ⟨h1, h2⟩ := rangeT_get h
  rw [Int.zero_add] at h1
  exact ⟨h1, by omega⟩
theorem rangeT_len (lo hi : Int) : (rangeT lo hi).length = (hi - lo).toNat := by unfold rangeT; rw [List.length_map, List.length_range]
theorem rangeT_mem {lo hi : Int} {t : T} (h : t ∈ rangeT lo hi) : ∃ i : Int, t = .int i ∧ lo ≤ i ∧ i < hi := by
  obtain ⟨k, hk, rfl⟩ := List.mem_map.mp h
  have := List.mem_range.mp hk
  exact ⟨_, rfl, by omega, by omega⟩
/-- a generator: what is left of the seed, the seed's rest, the count -/
def GenOk (N : Int) (us : List T) : Prop := ∃ a s k : Int, us = [.int a, .int s, .int k] ∧ 0 ≤ a ∧ 0 ≤ s ∧ s < 2147483647 ∧ 0 ≤ k ∧ k ≤ N
theorem GenOk.mono {N M : Int} {us : List T} (h : GenOk N us) (l : N ≤ M) : GenOk M us := by
  obtain ⟨a, s, k, e, h1, h2, h3, h4, h5⟩ := h
  exact ⟨a, s, k, e, h1, h2, h3, h4, by omega⟩
theorem random_ok {N b : Int} {us : List T} (hg : GenOk N us) (hN : N ≤ 900000000) (h1 : 1 ≤ b) (h2 : b ≤ 1000000000000000000) (q : ∀ d us', GenOk (N + 3) us' → 0 ≤ d → d < b → χ (.int d) [.lst us']) : WR (cm_law_random [.lst us, .int b]) χ ζ := by
  obtain ⟨a, s, k, rfl, g1, g2, g3, g4, g5⟩ := hg
  refine WR_fnG ?_
  try simp only [List.map_cons, List.map_nil, List.cons_append, List.nil_append, List.length_cons, List.length_nil, Nat.zero_add, Nat.reduceAdd, Nat.reduceSub, Nat.sub_self, List.replicate_zero, List.replicate_succ, List.append_nil, List.set_cons_zero, List.set_cons_succ]
  repeat' (first
      | with_reducible (first | refine WS_seq ?_ | refine WS_set ?_ | refine WS_ret ?_ | refine WS_if ?_ | refine WS_drop ?_ | refine WS_nx ?_ | refine WE_bin ?_ | refine WE_cons ?_ | refine WE_nil ?_ | refine WE_k ?_ | refine WE_app ?_ | refine WE_un ?_ | refine WE_B ?_ | refine WE_notC ?_ | refine WE_call ?_ | refine WE_callK ?_ | refine WE_lst ?_ | refine WE_tup ?_ | refine WE_chain ?_ | refine WE_andV ?_ | refine WE_orV ?_ | refine WE_notV ?_ | refine WE_andC ?_ | refine WE_orC ?_ | refine WE_if ?_ | refine WS_par2 ?_ | refine WS_par3 ?_ | refine WE_rg1 ?_ | refine WE_rg2 ?_ | refine WE_items ?_ | refine WE_enum ?_ | refine WE_zip ?_ | refine WE_revd ?_ | refine WE_callG ?_ | refine WS_put ?_ | refine WS_app ?_ | refine WE_pix ?_ | refine WE_sl ?_ | refine WE_p0 ?_ | refine WE_p1 ?_ | refine WE_true ?_ | refine WS_asg ?_) | ((with_reducible apply WE_var); (case h => exact rfl))
      | ((with_reducible refine And.intro ?_ ?_); (with_reducible first | exact ff1 | exact ff2 | exact ff3 | exact ff4 | exact ff5 | fail); (intro _))
      | ((with_reducible refine And.intro ?_ ?_); rotate_left; (with_reducible first | exact tt1 | exact tt2 | exact tt3 | exact tt4 | exact tt5 | fail); (intro _))
      | ((with_reducible apply Exists.intro); (with_reducible apply And.intro); first | ((with_reducible (first | show addT (.int _) (.int _) = some _ | show subT (.int _) (.int _) = some _ | show negT (.int _) = some _ | show ltT (.int _) (.int _) = some _ | show leT (.int _) (.int _) = some _ | show gtT (.int _) (.int _) = some _ | show geT (.int _) (.int _) = some _ | show intT [.int _] = some _ | show max2T [.int _, .int _] = some _ | show min2T [.int _, .int _] = some _ | show absT [.int _] = some _ | show eqT (.int _) (.int _) = some _ | show neT (.int _) (.int _) = some _ | show T.bl _ = T.bl _)); exact rfl) | ((with_reducible (first | show isiT _ _ = some _ | show isT _ _ = some _ | show isNT _ _ = some _ | show isisT _ _ = some _)); first | exact (rfl : _ = some (T.bl true)) | exact (rfl : _ = some (T.bl false)) | exact rfl) | fail)
      | fail)
  refine ⟨_, _, _, rfl, rfl, rfl, ?_⟩
  repeat' (first
      | with_reducible (first | refine WS_seq ?_ | refine WS_set ?_ | refine WS_ret ?_ | refine WS_if ?_ | refine WS_drop ?_ | refine WS_nx ?_ | refine WE_bin ?_ | refine WE_cons ?_ | refine WE_nil ?_ | refine WE_k ?_ | refine WE_app ?_ | refine WE_un ?_ | refine WE_B ?_ | refine WE_notC ?_ | refine WE_call ?_ | refine WE_callK ?_ | refine WE_lst ?_ | refine WE_tup ?_ | refine WE_chain ?_ | refine WE_andV ?_ | refine WE_orV ?_ | refine WE_notV ?_ | refine WE_andC ?_ | refine WE_orC ?_ | refine WE_if ?_ | refine WS_par2 ?_ | refine WS_par3 ?_ | refine WE_rg1 ?_ | refine WE_rg2 ?_ | refine WE_items ?_ | refine WE_enum ?_ | refine WE_zip ?_ | refine WE_revd ?_ | refine WE_callG ?_ | refine WS_put ?_ | refine WS_app ?_ | refine WE_pix ?_ | refine WE_sl ?_ | refine WE_p0 ?_ | refine WE_p1 ?_ | refine WE_true ?_ | refine WS_asg ?_) | ((with_reducible apply WE_var); (case h => exact rfl))
      | ((with_reducible refine And.intro ?_ ?_); (with_reducible first | exact ff1 | exact ff2 | exact ff3 | exact ff4 | exact ff5 | fail); (intro _))
      | ((with_reducible refine And.intro ?_ ?_); rotate_left; (with_reducible first | exact tt1 | exact tt2 | exact tt3 | exact tt4 | exact tt5 | fail); (intro _))
      | ((with_reducible apply Exists.intro); (with_reducible apply And.intro); first | ((with_reducible (first | show addT (.int _) (.int _) = some _ | show subT (.int _) (.int _) = some _ | show negT (.int _) = some _ | show ltT (.int _) (.int _) = some _ | show leT (.int _) (.int _) = some _ | show gtT (.int _) (.int _) = some _ | show geT (.int _) (.int _) = some _ | show intT [.int _] = some _ | show max2T [.int _, .int _] = some _ | show min2T [.int _, .int _] = some _ | show absT [.int _] = some _ | show eqT (.int _) (.int _) = some _ | show neT (.int _) (.int _) = some _ | show T.bl _ = T.bl _)); exact rfl) | ((with_reducible (first | show isiT _ _ = some _ | show isT _ _ = some _ | show isNT _ _ = some _ | show isisT _ _ = some _)); first | exact (rfl : _ = some (T.bl true)) | exact (rfl : _ = some (T.bl false)) | exact rfl) | fail)
      | fail)
  refine ⟨fun hz => ?_, fun hz => ?_⟩
  · have hz : 0 < a := of_decide_eq_true hz
    repeat' (first
      | with_reducible (first | refine WS_seq ?_ | refine WS_set ?_ | refine WS_ret ?_ | refine WS_if ?_ | refine WS_drop ?_ | refine WS_nx ?_ | refine WE_bin ?_ | refine WE_cons ?_ | refine WE_nil ?_ | refine WE_k ?_ | refine WE_app ?_ | refine WE_un ?_ | refine WE_B ?_ | refine WE_notC ?_ | refine WE_call ?_ | refine WE_callK ?_ | refine WE_lst ?_ | refine WE_tup ?_ | refine WE_chain ?_ | refine WE_andV ?_ | refine WE_orV ?_ | refine WE_notV ?_ | refine WE_andC ?_ | refine WE_orC ?_ | refine WE_if ?_ | refine WS_par2 ?_ | refine WS_par3 ?_ | refine WE_rg1 ?_ | refine WE_rg2 ?_ | refine WE_items ?_ | refine WE_enum ?_ | refine WE_zip ?_ | refine WE_revd ?_ | refine WE_callG ?_ | refine WS_put ?_ | refine WS_app ?_ | refine WE_pix ?_ | refine WE_sl ?_ | refine WE_p0 ?_ | refine WE_p1 ?_ | refine WE_true ?_ | refine WS_asg ?_) | ((with_reducible apply WE_var); (case h => exact rfl))
      | ((with_reducible refine And.intro ?_ ?_); (with_reducible first | exact ff1 | exact ff2 | exact ff3 | exact ff4 | exact ff5 | fail); (intro _))
      | ((with_reducible refine And.intro ?_ ?_); rotate_left; (with_reducible first | exact tt1 | exact tt2 | exact tt3 | exact tt4 | exact tt5 | fail); (intro _))
      | ((with_reducible apply Exists.intro); (with_reducible apply And.intro); first | ((with_reducible (first | show addT (.int _) (.int _) = some _ | show subT (.int _) (.int _) = some _ | show negT (.int _) = some _ | show ltT (.int _) (.int _) = some _ | show leT (.int _) (.int _) = some _ | show gtT (.int _) (.int _) = some _ | show geT (.int _) (.int _) = some _ | show intT [.int _] = some _ | show max2T [.int _, .int _] = some _ | show min2T [.int _, .int _] = some _ | show absT [.int _] = some _ | show eqT (.int _) (.int _) = some _ | show neT (.int _) (.int _) = some _ | show T.bl _ = T.bl _)); exact rfl) | ((with_reducible (first | show isiT _ _ = some _ | show isT _ _ = some _ | show isNT _ _ = some _ | show isisT _ _ = some _)); first | exact (rfl : _ = some (T.bl true)) | exact (rfl : _ = some (T.bl false)) | exact rfl) | fail)
      | fail)
    refine ⟨_, _, _, rfl, rfl, rfl, ?_⟩
    repeat' (first
      | with_reducible (first | refine WS_seq ?_ | refine WS_set ?_ | refine WS_ret ?_ | refine WS_if ?_ | refine WS_drop ?_ | refine WS_nx ?_ | refine WE_bin ?_ | refine WE_cons ?_ | refine WE_nil ?_ | refine WE_k ?_ | refine WE_app ?_ | refine WE_un ?_ | refine WE_B ?_ | refine WE_notC ?_ | refine WE_call ?_ | refine WE_callK ?_ | refine WE_lst ?_ | refine WE_tup ?_ | refine WE_chain ?_ | refine WE_andV ?_ | refine WE_orV ?_ | refine WE_notV ?_ | refine WE_andC ?_ | refine WE_orC ?_ | refine WE_if ?_ | refine WS_par2 ?_ | refine WS_par3 ?_ | refine WE_rg1 ?_ | refine WE_rg2 ?_ | refine WE_items ?_ | refine WE_enum ?_ | refine WE_zip ?_ | refine WE_revd ?_ | refine WE_callG ?_ | refine WS_put ?_ | refine WS_app ?_ | refine WE_pix ?_ | refine WE_sl ?_ | refine WE_p0 ?_ | refine WE_p1 ?_ | refine WE_true ?_ | refine WS_asg ?_) | ((with_reducible apply WE_var); (case h => exact rfl))
      | ((with_reducible refine And.intro ?_ ?_); (with_reducible first | exact ff1 | exact ff2 | exact ff3 | exact ff4 | exact ff5 | fail); (intro _))
      | ((with_reducible refine And.intro ?_ ?_); rotate_left; (with_reducible first | exact tt1 | exact tt2 | exact tt3 | exact tt4 | exact tt5 | fail); (intro _))
      | ((with_reducible apply Exists.intro); (with_reducible apply And.intro); first | ((with_reducible (first | show addT (.int _) (.int _) = some _ | show subT (.int _) (.int _) = some _ | show negT (.int _) = some _ | show ltT (.int _) (.int _) = some _ | show leT (.int _) (.int _) = some _ | show gtT (.int _) (.int _) = some _ | show geT (.int _) (.int _) = some _ | show intT [.int _] = some _ | show max2T [.int _, .int _] = some _ | show min2T [.int _, .int _] = some _ | show absT [.int _] = some _ | show eqT (.int _) (.int _) = some _ | show neT (.int _) (.int _) = some _ | show T.bl _ = T.bl _)); exact rfl) | ((with_reducible (first | show isiT _ _ = some _ | show isT _ _ = some _ | show isNT _ _ = some _ | show isisT _ _ = some _)); first | exact (rfl : _ = some (T.bl true)) | exact (rfl : _ = some (T.bl false)) | exact rfl) | fail)
      | fail)
    refine ⟨_, modT_of (by omega), ?_⟩
    try simp only [List.map_cons, List.map_nil, List.cons_append, List.nil_append, List.length_cons, List.length_nil, Nat.zero_add, Nat.reduceAdd, Nat.reduceSub, Nat.sub_self, List.replicate_zero, List.replicate_succ, List.append_nil, List.set_cons_zero, List.set_cons_succ]
    repeat' (first
      | with_reducible (first | refine WS_seq ?_ | refine WS_set ?_ | refine WS_ret ?_ | refine WS_if ?_ | refine WS_drop ?_ | refine WS_nx ?_ | refine WE_bin ?_ | refine WE_cons ?_ | refine WE_nil ?_ | refine WE_k ?_ | refine WE_app ?_ | refine WE_un ?_ | refine WE_B ?_ | refine WE_notC ?_ | refine WE_call ?_ | refine WE_callK ?_ | refine WE_lst ?_ | refine WE_tup ?_ | refine WE_chain ?_ | refine WE_andV ?_ | refine WE_orV ?_ | refine WE_notV ?_ | refine WE_andC ?_ | refine WE_orC ?_ | refine WE_if ?_ | refine WS_par2 ?_ | refine WS_par3 ?_ | refine WE_rg1 ?_ | refine WE_rg2 ?_ | refine WE_items ?_ | refine WE_enum ?_ | refine WE_zip ?_ | refine WE_revd ?_ | refine WE_callG ?_ | refine WS_put ?_ | refine WS_app ?_ | refine WE_pix ?_ | refine WE_sl ?_ | refine WE_p0 ?_ | refine WE_p1 ?_ | refine WE_true ?_ | refine WS_asg ?_) | ((with_reducible apply WE_var); (case h => exact rfl))
      | ((with_reducible refine And.intro ?_ ?_); (with_reducible first | exact ff1 | exact ff2 | exact ff3 | exact ff4 | exact ff5 | fail); (intro _))
      | ((with_reducible refine And.intro ?_ ?_); rotate_left; (with_reducible first | exact tt1 | exact tt2 | exact tt3 | exact tt4 | exact tt5 | fail); (intro _))
      | ((with_reducible apply Exists.intro); (with_reducible apply And.intro); first | ((with_reducible (first | show addT (.int _) (.int _) = some _ | show subT (.int _) (.int _) = some _ | show negT (.int _) = some _ | show ltT (.int _) (.int _) = some _ | show leT (.int _) (.int _) = some _ | show gtT (.int _) (.int _) = some _ | show geT (.int _) (.int _) = some _ | show intT [.int _] = some _ | show max2T [.int _, .int _] = some _ | show min2T [.int _, .int _] = some _ | show absT [.int _] = some _ | show eqT (.int _) (.int _) = some _ | show neT (.int _) (.int _) = some _ | show T.bl _ = T.bl _)); exact rfl) | ((with_reducible (first | show isiT _ _ = some _ | show isT _ _ = some _ | show isNT _ _ = some _ | show isisT _ _ = some _)); first | exact (rfl : _ = some (T.bl true)) | exact (rfl : _ = some (T.bl false)) | exact rfl) | fail)
      | fail)
    refine ⟨_, _, _, rfl, rfl, rfl, ?_⟩
    repeat' (first
      | with_reducible (first | refine WS_seq ?_ | refine WS_set ?_ | refine WS_ret ?_ | refine WS_if ?_ | refine WS_drop ?_ | refine WS_nx ?_ | refine WE_bin ?_ | refine WE_cons ?_ | refine WE_nil ?_ | refine WE_k ?_ | refine WE_app ?_ | refine WE_un ?_ | refine WE_B ?_ | refine WE_notC ?_ | refine WE_call ?_ | refine WE_callK ?_ | refine WE_lst ?_ | refine WE_tup ?_ | refine WE_chain ?_ | refine WE_andV ?_ | refine WE_orV ?_ | refine WE_notV ?_ | refine WE_andC ?_ | refine WE_orC ?_ | refine WE_if ?_ | refine WS_par2 ?_ | refine WS_par3 ?_ | refine WE_rg1 ?_ | refine WE_rg2 ?_ | refine WE_items ?_ | refine WE_enum ?_ | refine WE_zip ?_ | refine WE_revd ?_ | refine WE_callG ?_ | refine WS_put ?_ | refine WS_app ?_ | refine WE_pix ?_ | refine WE_sl ?_ | refine WE_p0 ?_ | refine WE_p1 ?_ | refine WE_true ?_ | refine WS_asg ?_) | ((with_reducible apply WE_var); (case h => exact rfl))
      | ((with_reducible refine And.intro ?_ ?_); (with_reducible first | exact ff1 | exact ff2 | exact ff3 | exact ff4 | exact ff5 | fail); (intro _))
      | ((with_reducible refine And.intro ?_ ?_); rotate_left; (with_reducible first | exact tt1 | exact tt2 | exact tt3 | exact tt4 | exact tt5 | fail); (intro _))
      | ((with_reducible apply Exists.intro); (with_reducible apply And.intro); first | ((with_reducible (first | show addT (.int _) (.int _) = some _ | show subT (.int _) (.int _) = some _ | show negT (.int _) = some _ | show ltT (.int _) (.int _) = some _ | show leT (.int _) (.int _) = some _ | show gtT (.int _) (.int _) = some _ | show geT (.int _) (.int _) = some _ | show intT [.int _] = some _ | show max2T [.int _, .int _] = some _ | show min2T [.int _, .int _] = some _ | show absT [.int _] = some _ | show eqT (.int _) (.int _) = some _ | show neT (.int _) (.int _) = some _ | show T.bl _ = T.bl _)); exact rfl) | ((with_reducible (first | show isiT _ _ = some _ | show isT _ _ = some _ | show isNT _ _ = some _ | show isisT _ _ = some _)); first | exact (rfl : _ = some (T.bl true)) | exact (rfl : _ = some (T.bl false)) | exact rfl) | fail)
      | fail)
    refine ⟨_, fdivT_of (by omega) (by omega), ?_⟩
    repeat' (first
      | with_reducible (first | refine WS_seq ?_ | refine WS_set ?_ | refine WS_ret ?_ | refine WS_if ?_ | refine WS_drop ?_ | refine WS_nx ?_ | refine WE_bin ?_ | refine WE_cons ?_ | refine WE_nil ?_ | refine WE_k ?_ | refine WE_app ?_ | refine WE_un ?_ | refine WE_B ?_ | refine WE_notC ?_ | refine WE_call ?_ | refine WE_callK ?_ | refine WE_lst ?_ | refine WE_tup ?_ | refine WE_chain ?_ | refine WE_andV ?_ | refine WE_orV ?_ | refine WE_notV ?_ | refine WE_andC ?_ | refine WE_orC ?_ | refine WE_if ?_ | refine WS_par2 ?_ | refine WS_par3 ?_ | refine WE_rg1 ?_ | refine WE_rg2 ?_ | refine WE_items ?_ | refine WE_enum ?_ | refine WE_zip ?_ | refine WE_revd ?_ | refine WE_callG ?_ | refine WS_put ?_ | refine WS_app ?_ | refine WE_pix ?_ | refine WE_sl ?_ | refine WE_p0 ?_ | refine WE_p1 ?_ | refine WE_true ?_ | refine WS_asg ?_) | ((with_reducible apply WE_var); (case h => exact rfl))
      | ((with_reducible refine And.intro ?_ ?_); (with_reducible first | exact ff1 | exact ff2 | exact ff3 | exact ff4 | exact ff5 | fail); (intro _))
      | ((with_reducible refine And.intro ?_ ?_); rotate_left; (with_reducible first | exact tt1 | exact tt2 | exact tt3 | exact tt4 | exact tt5 | fail); (intro _))
      | ((with_reducible apply Exists.intro); (with_reducible apply And.intro); first | ((with_reducible (first | show addT (.int _) (.int _) = some _ | show subT (.int _) (.int _) = some _ | show negT (.int _) = some _ | show ltT (.int _) (.int _) = some _ | show leT (.int _) (.int _) = some _ | show gtT (.int _) (.int _) = some _ | show geT (.int _) (.int _) = some _ | show intT [.int _] = some _ | show max2T [.int _, .int _] = some _ | show min2T [.int _, .int _] = some _ | show absT [.int _] = some _ | show eqT (.int _) (.int _) = some _ | show neT (.int _) (.int _) = some _ | show T.bl _ = T.bl _)); exact rfl) | ((with_reducible (first | show isiT _ _ = some _ | show isT _ _ = some _ | show isNT _ _ = some _ | show isisT _ _ = some _)); first | exact (rfl : _ = some (T.bl true)) | exact (rfl : _ = some (T.bl false)) | exact rfl) | fail)
      | fail)
    refine ⟨_, _, _, rfl, rfl, rfl, ?_⟩
    try simp only [List.map_cons, List.map_nil, List.cons_append, List.nil_append, List.length_cons, List.length_nil, Nat.zero_add, Nat.reduceAdd, Nat.reduceSub, Nat.sub_self, List.replicate_zero, List.replicate_succ, List.append_nil, List.set_cons_zero, List.set_cons_succ]
    repeat' (first
      | with_reducible (first | refine WS_seq ?_ | refine WS_set ?_ | refine WS_ret ?_ | refine WS_if ?_ | refine WS_drop ?_ | refine WS_nx ?_ | refine WE_bin ?_ | refine WE_cons ?_ | refine WE_nil ?_ | refine WE_k ?_ | refine WE_app ?_ | refine WE_un ?_ | refine WE_B ?_ | refine WE_notC ?_ | refine WE_call ?_ | refine WE_callK ?_ | refine WE_lst ?_ | refine WE_tup ?_ | refine WE_chain ?_ | refine WE_andV ?_ | refine WE_orV ?_ | refine WE_notV ?_ | refine WE_andC ?_ | refine WE_orC ?_ | refine WE_if ?_ | refine WS_par2 ?_ | refine WS_par3 ?_ | refine WE_rg1 ?_ | refine WE_rg2 ?_ | refine WE_items ?_ | refine WE_enum ?_ | refine WE_zip ?_ | refine WE_revd ?_ | refine WE_callG ?_ | refine WS_put ?_ | refine WS_app ?_ | refine WE_pix ?_ | refine WE_sl ?_ | refine WE_p0 ?_ | refine WE_p1 ?_ | refine WE_true ?_ | refine WS_asg ?_) | ((with_reducible apply WE_var); (case h => exact rfl))
      | ((with_reducible refine And.intro ?_ ?_); (with_reducible first | exact ff1 | exact ff2 | exact ff3 | exact ff4 | exact ff5 | fail); (intro _))
      | ((with_reducible refine And.intro ?_ ?_); rotate_left; (with_reducible first | exact tt1 | exact tt2 | exact tt3 | exact tt4 | exact tt5 | fail); (intro _))
      | ((with_reducible apply Exists.intro); (with_reducible apply And.intro); first | ((with_reducible (first | show addT (.int _) (.int _) = some _ | show subT (.int _) (.int _) = some _ | show negT (.int _) = some _ | show ltT (.int _) (.int _) = some _ | show leT (.int _) (.int _) = some _ | show gtT (.int _) (.int _) = some _ | show geT (.int _) (.int _) = some _ | show intT [.int _] = some _ | show max2T [.int _, .int _] = some _ | show min2T [.int _, .int _] = some _ | show absT [.int _] = some _ | show eqT (.int _) (.int _) = some _ | show neT (.int _) (.int _) = some _ | show T.bl _ = T.bl _)); exact rfl) | ((with_reducible (first | show isiT _ _ = some _ | show isT _ _ = some _ | show isNT _ _ = some _ | show isisT _ _ = some _)); first | exact (rfl : _ = some (T.bl true)) | exact (rfl : _ = some (T.bl false)) | exact rfl) | fail)
      | fail)
    have m := mod_bd (a := a) (b := b) (by omega)
    exact ⟨_, rfl, q _ _ ⟨_, _, _, rfl, Int.ediv_nonneg (by omega) (by omega), g2, g3, g4, by omega⟩ m.1 m.2⟩
  · repeat' (first
      | with_reducible (first | refine WS_seq ?_ | refine WS_set ?_ | refine WS_ret ?_ | refine WS_if ?_ | refine WS_drop ?_ | refine WS_nx ?_ | refine WE_bin ?_ | refine WE_cons ?_ | refine WE_nil ?_ | refine WE_k ?_ | refine WE_app ?_ | refine WE_un ?_ | refine WE_B ?_ | refine WE_notC ?_ | refine WE_call ?_ | refine WE_callK ?_ | refine WE_lst ?_ | refine WE_tup ?_ | refine WE_chain ?_ | refine WE_andV ?_ | refine WE_orV ?_ | refine WE_notV ?_ | refine WE_andC ?_ | refine WE_orC ?_ | refine WE_if ?_ | refine WS_par2 ?_ | refine WS_par3 ?_ | refine WE_rg1 ?_ | refine WE_rg2 ?_ | refine WE_items ?_ | refine WE_enum ?_ | refine WE_zip ?_ | refine WE_revd ?_ | refine WE_callG ?_ | refine WS_put ?_ | refine WS_app ?_ | refine WE_pix ?_ | refine WE_sl ?_ | refine WE_p0 ?_ | refine WE_p1 ?_ | refine WE_true ?_ | refine WS_asg ?_) | ((with_reducible apply WE_var); (case h => exact rfl))
      | ((with_reducible refine And.intro ?_ ?_); (with_reducible first | exact ff1 | exact ff2 | exact ff3 | exact ff4 | exact ff5 | fail); (intro _))
      | ((with_reducible refine And.intro ?_ ?_); rotate_left; (with_reducible first | exact tt1 | exact tt2 | exact tt3 | exact tt4 | exact tt5 | fail); (intro _))
      | ((with_reducible apply Exists.intro); (with_reducible apply And.intro); first | ((with_reducible (first | show addT (.int _) (.int _) = some _ | show subT (.int _) (.int _) = some _ | show negT (.int _) = some _ | show ltT (.int _) (.int _) = some _ | show leT (.int _) (.int _) = some _ | show gtT (.int _) (.int _) = some _ | show geT (.int _) (.int _) = some _ | show intT [.int _] = some _ | show max2T [.int _, .int _] = some _ | show min2T [.int _, .int _] = some _ | show absT [.int _] = some _ | show eqT (.int _) (.int _) = some _ | show neT (.int _) (.int _) = some _ | show T.bl _ = T.bl _)); exact rfl) | ((with_reducible (first | show isiT _ _ = some _ | show isT _ _ = some _ | show isNT _ _ = some _ | show isisT _ _ = some _)); first | exact (rfl : _ = some (T.bl true)) | exact (rfl : _ = some (T.bl false)) | exact rfl) | fail)
      | fail)
    try simp only [List.map_cons, List.map_nil, List.cons_append, List.nil_append, List.length_cons, List.length_nil, Nat.zero_add, Nat.reduceAdd, Nat.reduceSub, Nat.sub_self, List.replicate_zero, List.replicate_succ, List.append_nil, List.set_cons_zero, List.set_cons_succ]
    have hb : Builtin.Int.intBits b ≤ 60 := PyProof.Rows.intBits_le (by
      have e : (2 : Nat) ^ 60 = 1152921504606846976 := by decide
      omega)
    generalize hbb : ((Builtin.Int.intBits b : Nat) : Int) = bb at *
    have hb0 : 0 ≤ bb ∧ bb ≤ 60 := by omega
    refine WS_for (fun ts i r => ∃ d k' x, r = [some (.lst [.int a, .int s, .int k']), some (.int b), some (.int d), x] ∧ 0 ≤ k' ∧ k' = k + i ∧ 0 ≤ d ∧ i ≤ 3 ∧ (i = 0 → d ≤ 0) ∧ (i = 1 → d ≤ 2147483647) ∧ (i = 2 → d ≤ 4611686014132420609)) ?_
    refine WE_rg1 (WE_cons (WE_bin (WE_k (WE_bin (WE_un (WE_var rfl ⟨.int bb, ?_, WE_k ⟨_, fdivT_of (by omega) (by omega), _, rfl, WE_nil ⟨_, rfl, lim62_of (by omega) (by omega), ?_⟩⟩⟩))))))
    · show some (T.int _) = _
      rw [hbb]
    · have hlen : (rangeT 0 (1 + bb / 30)).length ≤ 3 := by
        unfold rangeT
        rw [List.length_map, List.length_range]
        omega
      refine ⟨⟨0, k, none, rfl, g4, by omega, by omega, by omega, by omega, by omega, by omega⟩, fun i t r ht hr => ?_, fun r hr => ?_⟩
      · obtain ⟨d, k', x, rfl, e0, e1, e2, e3, e4, e5, e6⟩ := hr
        have hi : i < 3 := Nat.lt_of_lt_of_le (List.getElem?_eq_some_iff.mp ht).1 hlen
        refine ⟨_, rfl, ?_⟩
        try simp only [List.map_cons, List.map_nil, List.cons_append, List.nil_append, List.length_cons, List.length_nil, Nat.zero_add, Nat.reduceAdd, Nat.reduceSub, Nat.sub_self, List.replicate_zero, List.replicate_succ, List.append_nil, List.set_cons_zero, List.set_cons_succ]
        repeat' (first
      | with_reducible (first | refine WS_seq ?_ | refine WS_set ?_ | refine WS_ret ?_ | refine WS_if ?_ | refine WS_drop ?_ | refine WS_nx ?_ | refine WE_bin ?_ | refine WE_cons ?_ | refine WE_nil ?_ | refine WE_k ?_ | refine WE_app ?_ | refine WE_un ?_ | refine WE_B ?_ | refine WE_notC ?_ | refine WE_call ?_ | refine WE_callK ?_ | refine WE_lst ?_ | refine WE_tup ?_ | refine WE_chain ?_ | refine WE_andV ?_ | refine WE_orV ?_ | refine WE_notV ?_ | refine WE_andC ?_ | refine WE_orC ?_ | refine WE_if ?_ | refine WS_par2 ?_ | refine WS_par3 ?_ | refine WE_rg1 ?_ | refine WE_rg2 ?_ | refine WE_items ?_ | refine WE_enum ?_ | refine WE_zip ?_ | refine WE_revd ?_ | refine WE_callG ?_ | refine WS_put ?_ | refine WS_app ?_ | refine WE_pix ?_ | refine WE_sl ?_ | refine WE_p0 ?_ | refine WE_p1 ?_ | refine WE_true ?_ | refine WS_asg ?_) | ((with_reducible apply WE_var); (case h => exact rfl))
      | ((with_reducible refine And.intro ?_ ?_); (with_reducible first | exact ff1 | exact ff2 | exact ff3 | exact ff4 | exact ff5 | fail); (intro _))
      | ((with_reducible refine And.intro ?_ ?_); rotate_left; (with_reducible first | exact tt1 | exact tt2 | exact tt3 | exact tt4 | exact tt5 | fail); (intro _))
      | ((with_reducible apply Exists.intro); (with_reducible apply And.intro); first | ((with_reducible (first | show addT (.int _) (.int _) = some _ | show subT (.int _) (.int _) = some _ | show negT (.int _) = some _ | show ltT (.int _) (.int _) = some _ | show leT (.int _) (.int _) = some _ | show gtT (.int _) (.int _) = some _ | show geT (.int _) (.int _) = some _ | show intT [.int _] = some _ | show max2T [.int _, .int _] = some _ | show min2T [.int _, .int _] = some _ | show absT [.int _] = some _ | show eqT (.int _) (.int _) = some _ | show neT (.int _) (.int _) = some _ | show T.bl _ = T.bl _)); exact rfl) | ((with_reducible (first | show isiT _ _ = some _ | show isT _ _ = some _ | show isNT _ _ = some _ | show isisT _ _ = some _)); first | exact (rfl : _ = some (T.bl true)) | exact (rfl : _ = some (T.bl false)) | exact rfl) | fail)
      | fail)
        refine ⟨_, _, _, rfl, rfl, rfl, ?_⟩
        repeat' (first
      | with_reducible (first | refine WS_seq ?_ | refine WS_set ?_ | refine WS_ret ?_ | refine WS_if ?_ | refine WS_drop ?_ | refine WS_nx ?_ | refine WE_bin ?_ | refine WE_cons ?_ | refine WE_nil ?_ | refine WE_k ?_ | refine WE_app ?_ | refine WE_un ?_ | refine WE_B ?_ | refine WE_notC ?_ | refine WE_call ?_ | refine WE_callK ?_ | refine WE_lst ?_ | refine WE_tup ?_ | refine WE_chain ?_ | refine WE_andV ?_ | refine WE_orV ?_ | refine WE_notV ?_ | refine WE_andC ?_ | refine WE_orC ?_ | refine WE_if ?_ | refine WS_par2 ?_ | refine WS_par3 ?_ | refine WE_rg1 ?_ | refine WE_rg2 ?_ | refine WE_items ?_ | refine WE_enum ?_ | refine WE_zip ?_ | refine WE_revd ?_ | refine WE_callG ?_ | refine WS_put ?_ | refine WS_app ?_ | refine WE_pix ?_ | refine WE_sl ?_ | refine WE_p0 ?_ | refine WE_p1 ?_ | refine WE_true ?_ | refine WS_asg ?_) | ((with_reducible apply WE_var); (case h => exact rfl))
      | ((with_reducible refine And.intro ?_ ?_); (with_reducible first | exact ff1 | exact ff2 | exact ff3 | exact ff4 | exact ff5 | fail); (intro _))
      | ((with_reducible refine And.intro ?_ ?_); rotate_left; (with_reducible first | exact tt1 | exact tt2 | exact tt3 | exact tt4 | exact tt5 | fail); (intro _))
      | ((with_reducible apply Exists.intro); (with_reducible apply And.intro); first | ((with_reducible (first | show addT (.int _) (.int _) = some _ | show subT (.int _) (.int _) = some _ | show negT (.int _) = some _ | show ltT (.int _) (.int _) = some _ | show leT (.int _) (.int _) = some _ | show gtT (.int _) (.int _) = some _ | show geT (.int _) (.int _) = some _ | show intT [.int _] = some _ | show max2T [.int _, .int _] = some _ | show min2T [.int _, .int _] = some _ | show absT [.int _] = some _ | show eqT (.int _) (.int _) = some _ | show neT (.int _) (.int _) = some _ | show T.bl _ = T.bl _)); exact rfl) | ((with_reducible (first | show isiT _ _ = some _ | show isT _ _ = some _ | show isNT _ _ = some _ | show isisT _ _ = some _)); first | exact (rfl : _ = some (T.bl true)) | exact (rfl : _ = some (T.bl false)) | exact rfl) | fail)
      | fail)
        refine ⟨_, _, _, rfl, rfl, rfl, ?_⟩
        try simp only [List.map_cons, List.map_nil, List.cons_append, List.nil_append, List.length_cons, List.length_nil, Nat.zero_add, Nat.reduceAdd, Nat.reduceSub, Nat.sub_self, List.replicate_zero, List.replicate_succ, List.append_nil, List.set_cons_zero, List.set_cons_succ]
        have hd : d ≤ 4611686014132420609 := by
          match i, hi with
          | 0, _ => have := e4 rfl; omega
          | 1, _ => have := e5 rfl; omega
          | 2, _ => have := e6 rfl; omega
        repeat' (first
      | with_reducible (first | refine WS_seq ?_ | refine WS_set ?_ | refine WS_ret ?_ | refine WS_if ?_ | refine WS_drop ?_ | refine WS_nx ?_ | refine WE_bin ?_ | refine WE_cons ?_ | refine WE_nil ?_ | refine WE_k ?_ | refine WE_app ?_ | refine WE_un ?_ | refine WE_B ?_ | refine WE_notC ?_ | refine WE_call ?_ | refine WE_callK ?_ | refine WE_lst ?_ | refine WE_tup ?_ | refine WE_chain ?_ | refine WE_andV ?_ | refine WE_orV ?_ | refine WE_notV ?_ | refine WE_andC ?_ | refine WE_orC ?_ | refine WE_if ?_ | refine WS_par2 ?_ | refine WS_par3 ?_ | refine WE_rg1 ?_ | refine WE_rg2 ?_ | refine WE_items ?_ | refine WE_enum ?_ | refine WE_zip ?_ | refine WE_revd ?_ | refine WE_callG ?_ | refine WS_put ?_ | refine WS_app ?_ | refine WE_pix ?_ | refine WE_sl ?_ | refine WE_p0 ?_ | refine WE_p1 ?_ | refine WE_true ?_ | refine WS_asg ?_) | ((with_reducible apply WE_var); (case h => exact rfl))
      | ((with_reducible refine And.intro ?_ ?_); (with_reducible first | exact ff1 | exact ff2 | exact ff3 | exact ff4 | exact ff5 | fail); (intro _))
      | ((with_reducible refine And.intro ?_ ?_); rotate_left; (with_reducible first | exact tt1 | exact tt2 | exact tt3 | exact tt4 | exact tt5 | fail); (intro _))
      | ((with_reducible apply Exists.intro); (with_reducible apply And.intro); first | ((with_reducible (first | show addT (.int _) (.int _) = some _ | show subT (.int _) (.int _) = some _ | show negT (.int _) = some _ | show ltT (.int _) (.int _) = some _ | show leT (.int _) (.int _) = some _ | show gtT (.int _) (.int _) = some _ | show geT (.int _) (.int _) = some _ | show intT [.int _] = some _ | show max2T [.int _, .int _] = some _ | show min2T [.int _, .int _] = some _ | show absT [.int _] = some _ | show eqT (.int _) (.int _) = some _ | show neT (.int _) (.int _) = some _ | show T.bl _ = T.bl _)); exact rfl) | ((with_reducible (first | show isiT _ _ = some _ | show isT _ _ = some _ | show isNT _ _ = some _ | show isisT _ _ = some _)); first | exact (rfl : _ = some (T.bl true)) | exact (rfl : _ = some (T.bl false)) | exact rfl) | fail)
      | fail)
        refine ⟨_, mulT_of (by omega) (by omega) (by omega) (by omega), ?_⟩
        repeat' (first
      | with_reducible (first | refine WS_seq ?_ | refine WS_set ?_ | refine WS_ret ?_ | refine WS_if ?_ | refine WS_drop ?_ | refine WS_nx ?_ | refine WE_bin ?_ | refine WE_cons ?_ | refine WE_nil ?_ | refine WE_k ?_ | refine WE_app ?_ | refine WE_un ?_ | refine WE_B ?_ | refine WE_notC ?_ | refine WE_call ?_ | refine WE_callK ?_ | refine WE_lst ?_ | refine WE_tup ?_ | refine WE_chain ?_ | refine WE_andV ?_ | refine WE_orV ?_ | refine WE_notV ?_ | refine WE_andC ?_ | refine WE_orC ?_ | refine WE_if ?_ | refine WS_par2 ?_ | refine WS_par3 ?_ | refine WE_rg1 ?_ | refine WE_rg2 ?_ | refine WE_items ?_ | refine WE_enum ?_ | refine WE_zip ?_ | refine WE_revd ?_ | refine WE_callG ?_ | refine WS_put ?_ | refine WS_app ?_ | refine WE_pix ?_ | refine WE_sl ?_ | refine WE_p0 ?_ | refine WE_p1 ?_ | refine WE_true ?_ | refine WS_asg ?_) | ((with_reducible apply WE_var); (case h => exact rfl))
      | ((with_reducible refine And.intro ?_ ?_); (with_reducible first | exact ff1 | exact ff2 | exact ff3 | exact ff4 | exact ff5 | fail); (intro _))
      | ((with_reducible refine And.intro ?_ ?_); rotate_left; (with_reducible first | exact tt1 | exact tt2 | exact tt3 | exact tt4 | exact tt5 | fail); (intro _))
      | ((with_reducible apply Exists.intro); (with_reducible apply And.intro); first | ((with_reducible (first | show addT (.int _) (.int _) = some _ | show subT (.int _) (.int _) = some _ | show negT (.int _) = some _ | show ltT (.int _) (.int _) = some _ | show leT (.int _) (.int _) = some _ | show gtT (.int _) (.int _) = some _ | show geT (.int _) (.int _) = some _ | show intT [.int _] = some _ | show max2T [.int _, .int _] = some _ | show min2T [.int _, .int _] = some _ | show absT [.int _] = some _ | show eqT (.int _) (.int _) = some _ | show neT (.int _) (.int _) = some _ | show T.bl _ = T.bl _)); exact rfl) | ((with_reducible (first | show isiT _ _ = some _ | show isT _ _ = some _ | show isNT _ _ = some _ | show isisT _ _ = some _)); first | exact (rfl : _ = some (T.bl true)) | exact (rfl : _ = some (T.bl false)) | exact rfl) | fail)
      | fail)
        refine ⟨_, _, _, rfl, rfl, rfl, ?_⟩
        repeat' (first
      | with_reducible (first | refine WS_seq ?_ | refine WS_set ?_ | refine WS_ret ?_ | refine WS_if ?_ | refine WS_drop ?_ | refine WS_nx ?_ | refine WE_bin ?_ | refine WE_cons ?_ | refine WE_nil ?_ | refine WE_k ?_ | refine WE_app ?_ | refine WE_un ?_ | refine WE_B ?_ | refine WE_notC ?_ | refine WE_call ?_ | refine WE_callK ?_ | refine WE_lst ?_ | refine WE_tup ?_ | refine WE_chain ?_ | refine WE_andV ?_ | refine WE_orV ?_ | refine WE_notV ?_ | refine WE_andC ?_ | refine WE_orC ?_ | refine WE_if ?_ | refine WS_par2 ?_ | refine WS_par3 ?_ | refine WE_rg1 ?_ | refine WE_rg2 ?_ | refine WE_items ?_ | refine WE_enum ?_ | refine WE_zip ?_ | refine WE_revd ?_ | refine WE_callG ?_ | refine WS_put ?_ | refine WS_app ?_ | refine WE_pix ?_ | refine WE_sl ?_ | refine WE_p0 ?_ | refine WE_p1 ?_ | refine WE_true ?_ | refine WS_asg ?_) | ((with_reducible apply WE_var); (case h => exact rfl))
      | ((with_reducible refine And.intro ?_ ?_); (with_reducible first | exact ff1 | exact ff2 | exact ff3 | exact ff4 | exact ff5 | fail); (intro _))
      | ((with_reducible refine And.intro ?_ ?_); rotate_left; (with_reducible first | exact tt1 | exact tt2 | exact tt3 | exact tt4 | exact tt5 | fail); (intro _))
      | ((with_reducible apply Exists.intro); (with_reducible apply And.intro); first | ((with_reducible (first | show addT (.int _) (.int _) = some _ | show subT (.int _) (.int _) = some _ | show negT (.int _) = some _ | show ltT (.int _) (.int _) = some _ | show leT (.int _) (.int _) = some _ | show gtT (.int _) (.int _) = some _ | show geT (.int _) (.int _) = some _ | show intT [.int _] = some _ | show max2T [.int _, .int _] = some _ | show min2T [.int _, .int _] = some _ | show absT [.int _] = some _ | show eqT (.int _) (.int _) = some _ | show neT (.int _) (.int _) = some _ | show T.bl _ = T.bl _)); exact rfl) | ((with_reducible (first | show isiT _ _ = some _ | show isT _ _ = some _ | show isNT _ _ = some _ | show isisT _ _ = some _)); first | exact (rfl : _ = some (T.bl true)) | exact (rfl : _ = some (T.bl false)) | exact rfl) | fail)
      | fail)
        refine ⟨_, _, _, rfl, rfl, rfl, ?_⟩
        repeat' (first
      | with_reducible (first | refine WS_seq ?_ | refine WS_set ?_ | refine WS_ret ?_ | refine WS_if ?_ | refine WS_drop ?_ | refine WS_nx ?_ | refine WE_bin ?_ | refine WE_cons ?_ | refine WE_nil ?_ | refine WE_k ?_ | refine WE_app ?_ | refine WE_un ?_ | refine WE_B ?_ | refine WE_notC ?_ | refine WE_call ?_ | refine WE_callK ?_ | refine WE_lst ?_ | refine WE_tup ?_ | refine WE_chain ?_ | refine WE_andV ?_ | refine WE_orV ?_ | refine WE_notV ?_ | refine WE_andC ?_ | refine WE_orC ?_ | refine WE_if ?_ | refine WS_par2 ?_ | refine WS_par3 ?_ | refine WE_rg1 ?_ | refine WE_rg2 ?_ | refine WE_items ?_ | refine WE_enum ?_ | refine WE_zip ?_ | refine WE_revd ?_ | refine WE_callG ?_ | refine WS_put ?_ | refine WS_app ?_ | refine WE_pix ?_ | refine WE_sl ?_ | refine WE_p0 ?_ | refine WE_p1 ?_ | refine WE_true ?_ | refine WS_asg ?_) | ((with_reducible apply WE_var); (case h => exact rfl))
      | ((with_reducible refine And.intro ?_ ?_); (with_reducible first | exact ff1 | exact ff2 | exact ff3 | exact ff4 | exact ff5 | fail); (intro _))
      | ((with_reducible refine And.intro ?_ ?_); rotate_left; (with_reducible first | exact tt1 | exact tt2 | exact tt3 | exact tt4 | exact tt5 | fail); (intro _))
      | ((with_reducible apply Exists.intro); (with_reducible apply And.intro); first | ((with_reducible (first | show addT (.int _) (.int _) = some _ | show subT (.int _) (.int _) = some _ | show negT (.int _) = some _ | show ltT (.int _) (.int _) = some _ | show leT (.int _) (.int _) = some _ | show gtT (.int _) (.int _) = some _ | show geT (.int _) (.int _) = some _ | show intT [.int _] = some _ | show max2T [.int _, .int _] = some _ | show min2T [.int _, .int _] = some _ | show absT [.int _] = some _ | show eqT (.int _) (.int _) = some _ | show neT (.int _) (.int _) = some _ | show T.bl _ = T.bl _)); exact rfl) | ((with_reducible (first | show isiT _ _ = some _ | show isT _ _ = some _ | show isNT _ _ = some _ | show isisT _ _ = some _)); first | exact (rfl : _ = some (T.bl true)) | exact (rfl : _ = some (T.bl false)) | exact rfl) | fail)
      | fail)
        refine hash_ok g2 g3 (by omega) (by omega) fun h q1 q2 => ?_
        repeat' (first
      | with_reducible (first | refine WS_seq ?_ | refine WS_set ?_ | refine WS_ret ?_ | refine WS_if ?_ | refine WS_drop ?_ | refine WS_nx ?_ | refine WE_bin ?_ | refine WE_cons ?_ | refine WE_nil ?_ | refine WE_k ?_ | refine WE_app ?_ | refine WE_un ?_ | refine WE_B ?_ | refine WE_notC ?_ | refine WE_call ?_ | refine WE_callK ?_ | refine WE_lst ?_ | refine WE_tup ?_ | refine WE_chain ?_ | refine WE_andV ?_ | refine WE_orV ?_ | refine WE_notV ?_ | refine WE_andC ?_ | refine WE_orC ?_ | refine WE_if ?_ | refine WS_par2 ?_ | refine WS_par3 ?_ | refine WE_rg1 ?_ | refine WE_rg2 ?_ | refine WE_items ?_ | refine WE_enum ?_ | refine WE_zip ?_ | refine WE_revd ?_ | refine WE_callG ?_ | refine WS_put ?_ | refine WS_app ?_ | refine WE_pix ?_ | refine WE_sl ?_ | refine WE_p0 ?_ | refine WE_p1 ?_ | refine WE_true ?_ | refine WS_asg ?_) | ((with_reducible apply WE_var); (case h => exact rfl))
      | ((with_reducible refine And.intro ?_ ?_); (with_reducible first | exact ff1 | exact ff2 | exact ff3 | exact ff4 | exact ff5 | fail); (intro _))
      | ((with_reducible refine And.intro ?_ ?_); rotate_left; (with_reducible first | exact tt1 | exact tt2 | exact tt3 | exact tt4 | exact tt5 | fail); (intro _))
      | ((with_reducible apply Exists.intro); (with_reducible apply And.intro); first | ((with_reducible (first | show addT (.int _) (.int _) = some _ | show subT (.int _) (.int _) = some _ | show negT (.int _) = some _ | show ltT (.int _) (.int _) = some _ | show leT (.int _) (.int _) = some _ | show gtT (.int _) (.int _) = some _ | show geT (.int _) (.int _) = some _ | show intT [.int _] = some _ | show max2T [.int _, .int _] = some _ | show min2T [.int _, .int _] = some _ | show absT [.int _] = some _ | show eqT (.int _) (.int _) = some _ | show neT (.int _) (.int _) = some _ | show T.bl _ = T.bl _)); exact rfl) | ((with_reducible (first | show isiT _ _ = some _ | show isT _ _ = some _ | show isNT _ _ = some _ | show isisT _ _ = some _)); first | exact (rfl : _ = some (T.bl true)) | exact (rfl : _ = some (T.bl false)) | exact rfl) | fail)
      | fail)
        try simp only [List.map_cons, List.map_nil, List.cons_append, List.nil_append, List.length_cons, List.length_nil, Nat.zero_add, Nat.reduceAdd, Nat.reduceSub, Nat.sub_self, List.replicate_zero, List.replicate_succ, List.append_nil, List.set_cons_zero, List.set_cons_succ]
        refine ⟨_, _, _, rfl, by omega, by omega, by omega, by omega, by omega, fun z => ?_, fun z => ?_⟩
        · have := e4 (by omega); omega
        · have := e5 (by omega); omega
      · obtain ⟨d, k', x, rfl, e0, e1, e2, e3, _⟩ := hr
        repeat' (first
      | with_reducible (first | refine WS_seq ?_ | refine WS_set ?_ | refine WS_ret ?_ | refine WS_if ?_ | refine WS_drop ?_ | refine WS_nx ?_ | refine WE_bin ?_ | refine WE_cons ?_ | refine WE_nil ?_ | refine WE_k ?_ | refine WE_app ?_ | refine WE_un ?_ | refine WE_B ?_ | refine WE_notC ?_ | refine WE_call ?_ | refine WE_callK ?_ | refine WE_lst ?_ | refine WE_tup ?_ | refine WE_chain ?_ | refine WE_andV ?_ | refine WE_orV ?_ | refine WE_notV ?_ | refine WE_andC ?_ | refine WE_orC ?_ | refine WE_if ?_ | refine WS_par2 ?_ | refine WS_par3 ?_ | refine WE_rg1 ?_ | refine WE_rg2 ?_ | refine WE_items ?_ | refine WE_enum ?_ | refine WE_zip ?_ | refine WE_revd ?_ | refine WE_callG ?_ | refine WS_put ?_ | refine WS_app ?_ | refine WE_pix ?_ | refine WE_sl ?_ | refine WE_p0 ?_ | refine WE_p1 ?_ | refine WE_true ?_ | refine WS_asg ?_) | ((with_reducible apply WE_var); (case h => exact rfl))
      | ((with_reducible refine And.intro ?_ ?_); (with_reducible first | exact ff1 | exact ff2 | exact ff3 | exact ff4 | exact ff5 | fail); (intro _))
      | ((with_reducible refine And.intro ?_ ?_); rotate_left; (with_reducible first | exact tt1 | exact tt2 | exact tt3 | exact tt4 | exact tt5 | fail); (intro _))
      | ((with_reducible apply Exists.intro); (with_reducible apply And.intro); first | ((with_reducible (first | show addT (.int _) (.int _) = some _ | show subT (.int _) (.int _) = some _ | show negT (.int _) = some _ | show ltT (.int _) (.int _) = some _ | show leT (.int _) (.int _) = some _ | show gtT (.int _) (.int _) = some _ | show geT (.int _) (.int _) = some _ | show intT [.int _] = some _ | show max2T [.int _, .int _] = some _ | show min2T [.int _, .int _] = some _ | show absT [.int _] = some _ | show eqT (.int _) (.int _) = some _ | show neT (.int _) (.int _) = some _ | show T.bl _ = T.bl _)); exact rfl) | ((with_reducible (first | show isiT _ _ = some _ | show isT _ _ = some _ | show isNT _ _ = some _ | show isisT _ _ = some _)); first | exact (rfl : _ = some (T.bl true)) | exact (rfl : _ = some (T.bl false)) | exact rfl) | fail)
      | fail)
        refine ⟨_, modT_of (by omega), ?_⟩
        have m := mod_bd (a := d) (b := b) (by omega)
        exact ⟨_, rfl, q _ _ ⟨_, _, _, rfl, g1, g2, g3, by omega, by omega⟩ m.1 m.2⟩
theorem pick_ok {N : Int} {us ts : List T} (hg : GenOk N us) (hN : N ≤ 900000000) (h1 : 1 ≤ ts.length) (h2 : ts.length ≤ LIM) (q : ∀ t us', GenOk (N + 3) us' → t ∈ ts → χ t [.lst us']) : WR (cm_law_pick [.lst us, .lst ts]) χ ζ := by
  refine WR_fnG ?_
  try simp only [List.map_cons, List.map_nil, List.cons_append, List.nil_append, List.length_cons, List.length_nil, Nat.zero_add, Nat.reduceAdd, Nat.reduceSub, Nat.sub_self, List.replicate_zero, List.replicate_succ, List.append_nil, List.set_cons_zero, List.set_cons_succ]
  repeat' (first
      | with_reducible (first | refine WS_seq ?_ | refine WS_set ?_ | refine WS_ret ?_ | refine WS_if ?_ | refine WS_drop ?_ | refine WS_nx ?_ | refine WE_bin ?_ | refine WE_cons ?_ | refine WE_nil ?_ | refine WE_k ?_ | refine WE_app ?_ | refine WE_un ?_ | refine WE_B ?_ | refine WE_notC ?_ | refine WE_call ?_ | refine WE_callK ?_ | refine WE_lst ?_ | refine WE_tup ?_ | refine WE_chain ?_ | refine WE_andV ?_ | refine WE_orV ?_ | refine WE_notV ?_ | refine WE_andC ?_ | refine WE_orC ?_ | refine WE_if ?_ | refine WS_par2 ?_ | refine WS_par3 ?_ | refine WE_rg1 ?_ | refine WE_rg2 ?_ | refine WE_items ?_ | refine WE_enum ?_ | refine WE_zip ?_ | refine WE_revd ?_ | refine WE_callG ?_ | refine WS_put ?_ | refine WS_app ?_ | refine WE_pix ?_ | refine WE_sl ?_ | refine WE_p0 ?_ | refine WE_p1 ?_ | refine WE_true ?_ | refine WS_asg ?_) | ((with_reducible apply WE_var); (case h => exact rfl))
      | ((with_reducible refine And.intro ?_ ?_); (with_reducible first | exact ff1 | exact ff2 | exact ff3 | exact ff4 | exact ff5 | fail); (intro _))
      | ((with_reducible refine And.intro ?_ ?_); rotate_left; (with_reducible first | exact tt1 | exact tt2 | exact tt3 | exact tt4 | exact tt5 | fail); (intro _))
      | ((with_reducible apply Exists.intro); (with_reducible apply And.intro); first | ((with_reducible (first | show addT (.int _) (.int _) = some _ | show subT (.int _) (.int _) = some _ | show negT (.int _) = some _ | show ltT (.int _) (.int _) = some _ | show leT (.int _) (.int _) = some _ | show gtT (.int _) (.int _) = some _ | show geT (.int _) (.int _) = some _ | show intT [.int _] = some _ | show max2T [.int _, .int _] = some _ | show min2T [.int _, .int _] = some _ | show absT [.int _] = some _ | show eqT (.int _) (.int _) = some _ | show neT (.int _) (.int _) = some _ | show T.bl _ = T.bl _)); exact rfl) | ((with_reducible (first | show isiT _ _ = some _ | show isT _ _ = some _ | show isNT _ _ = some _ | show isisT _ _ = some _)); first | exact (rfl : _ = some (T.bl true)) | exact (rfl : _ = some (T.bl false)) | exact rfl) | fail)
      | fail)
  refine ⟨.int ts.length, by simp only [lenT, h2, if_true], ?_⟩
  repeat' (first
      | with_reducible (first | refine WS_seq ?_ | refine WS_set ?_ | refine WS_ret ?_ | refine WS_if ?_ | refine WS_drop ?_ | refine WS_nx ?_ | refine WE_bin ?_ | refine WE_cons ?_ | refine WE_nil ?_ | refine WE_k ?_ | refine WE_app ?_ | refine WE_un ?_ | refine WE_B ?_ | refine WE_notC ?_ | refine WE_call ?_ | refine WE_callK ?_ | refine WE_lst ?_ | refine WE_tup ?_ | refine WE_chain ?_ | refine WE_andV ?_ | refine WE_orV ?_ | refine WE_notV ?_ | refine WE_andC ?_ | refine WE_orC ?_ | refine WE_if ?_ | refine WS_par2 ?_ | refine WS_par3 ?_ | refine WE_rg1 ?_ | refine WE_rg2 ?_ | refine WE_items ?_ | refine WE_enum ?_ | refine WE_zip ?_ | refine WE_revd ?_ | refine WE_callG ?_ | refine WS_put ?_ | refine WS_app ?_ | refine WE_pix ?_ | refine WE_sl ?_ | refine WE_p0 ?_ | refine WE_p1 ?_ | refine WE_true ?_ | refine WS_asg ?_) | ((with_reducible apply WE_var); (case h => exact rfl))
      | ((with_reducible refine And.intro ?_ ?_); (with_reducible first | exact ff1 | exact ff2 | exact ff3 | exact ff4 | exact ff5 | fail); (intro _))
      | ((with_reducible refine And.intro ?_ ?_); rotate_left; (with_reducible first | exact tt1 | exact tt2 | exact tt3 | exact tt4 | exact tt5 | fail); (intro _))
      | ((with_reducible apply Exists.intro); (with_reducible apply And.intro); first | ((with_reducible (first | show addT (.int _) (.int _) = some _ | show subT (.int _) (.int _) = some _ | show negT (.int _) = some _ | show ltT (.int _) (.int _) = some _ | show leT (.int _) (.int _) = some _ | show gtT (.int _) (.int _) = some _ | show geT (.int _) (.int _) = some _ | show intT [.int _] = some _ | show max2T [.int _, .int _] = some _ | show min2T [.int _, .int _] = some _ | show absT [.int _] = some _ | show eqT (.int _) (.int _) = some _ | show neT (.int _) (.int _) = some _ | show T.bl _ = T.bl _)); exact rfl) | ((with_reducible (first | show isiT _ _ = some _ | show isT _ _ = some _ | show isNT _ _ = some _ | show isisT _ _ = some _)); first | exact (rfl : _ = some (T.bl true)) | exact (rfl : _ = some (T.bl false)) | exact rfl) | fail)
      | fail)
  refine ⟨_, rfl, random_ok hg hN (by omega) (by simp only [LIM] at h2; omega) fun d us' g d0 d1 => ⟨_, rfl, ?_⟩⟩
  have hd : d.toNat < ts.length := by omega
  have e : ts[d.toNat]? = some ts[d.toNat] := List.getElem?_eq_getElem hd
  refine ⟨ts[d.toNat], ?_, us', rfl, q _ _ g (List.getElem_mem hd)⟩
  show atI ts d = _
  have := atI_nat e
  rw [Int.toNat_of_nonneg d0] at this
  exact this
theorem pickT_ok {N : Int} {us ts : List T} (hg : GenOk N us) (hN : N ≤ 900000000) (h1 : 1 ≤ ts.length) (h2 : ts.length ≤ LIM) (q : ∀ t us', GenOk (N + 3) us' → t ∈ ts → χ t [.lst us']) : WR (cm_law_pick [.lst us, .tup ts]) χ ζ := by
  refine WR_fnG ?_
  try simp only [List.map_cons, List.map_nil, List.cons_append, List.nil_append, List.length_cons, List.length_nil, Nat.zero_add, Nat.reduceAdd, Nat.reduceSub, Nat.sub_self, List.replicate_zero, List.replicate_succ, List.append_nil, List.set_cons_zero, List.set_cons_succ]
  repeat' (first
      | with_reducible (first | refine WS_seq ?_ | refine WS_set ?_ | refine WS_ret ?_ | refine WS_if ?_ | refine WS_drop ?_ | refine WS_nx ?_ | refine WE_bin ?_ | refine WE_cons ?_ | refine WE_nil ?_ | refine WE_k ?_ | refine WE_app ?_ | refine WE_un ?_ | refine WE_B ?_ | refine WE_notC ?_ | refine WE_call ?_ | refine WE_callK ?_ | refine WE_lst ?_ | refine WE_tup ?_ | refine WE_chain ?_ | refine WE_andV ?_ | refine WE_orV ?_ | refine WE_notV ?_ | refine WE_andC ?_ | refine WE_orC ?_ | refine WE_if ?_ | refine WS_par2 ?_ | refine WS_par3 ?_ | refine WE_rg1 ?_ | refine WE_rg2 ?_ | refine WE_items ?_ | refine WE_enum ?_ | refine WE_zip ?_ | refine WE_revd ?_ | refine WE_callG ?_ | refine WS_put ?_ | refine WS_app ?_ | refine WE_pix ?_ | refine WE_sl ?_ | refine WE_p0 ?_ | refine WE_p1 ?_ | refine WE_true ?_ | refine WS_asg ?_) | ((with_reducible apply WE_var); (case h => exact rfl))
      | ((with_reducible refine And.intro ?_ ?_); (with_reducible first | exact ff1 | exact ff2 | exact ff3 | exact ff4 | exact ff5 | fail); (intro _))
      | ((with_reducible refine And.intro ?_ ?_); rotate_left; (with_reducible first | exact tt1 | exact tt2 | exact tt3 | exact tt4 | exact tt5 | fail); (intro _))
      | ((with_reducible apply Exists.intro); (with_reducible apply And.intro); first | ((with_reducible (first | show addT (.int _) (.int _) = some _ | show subT (.int _) (.int _) = some _ | show negT (.int _) = some _ | show ltT (.int _) (.int _) = some _ | show leT (.int _) (.int _) = some _ | show gtT (.int _) (.int _) = some _ | show geT (.int _) (.int _) = some _ | show intT [.int _] = some _ | show max2T [.int _, .int _] = some _ | show min2T [.int _, .int _] = some _ | show absT [.int _] = some _ | show eqT (.int _) (.int _) = some _ | show neT (.int _) (.int _) = some _ | show T.bl _ = T.bl _)); exact rfl) | ((with_reducible (first | show isiT _ _ = some _ | show isT _ _ = some _ | show isNT _ _ = some _ | show isisT _ _ = some _)); first | exact (rfl : _ = some (T.bl true)) | exact (rfl : _ = some (T.bl false)) | exact rfl) | fail)
      | fail)
  refine ⟨.int ts.length, by simp only [lenT, h2, if_true], ?_⟩
  repeat' (first
      | with_reducible (first | refine WS_seq ?_ | refine WS_set ?_ | refine WS_ret ?_ | refine WS_if ?_ | refine WS_drop ?_ | refine WS_nx ?_ | refine WE_bin ?_ | refine WE_cons ?_ | refine WE_nil ?_ | refine WE_k ?_ | refine WE_app ?_ | refine WE_un ?_ | refine WE_B ?_ | refine WE_notC ?_ | refine WE_call ?_ | refine WE_callK ?_ | refine WE_lst ?_ | refine WE_tup ?_ | refine WE_chain ?_ | refine WE_andV ?_ | refine WE_orV ?_ | refine WE_notV ?_ | refine WE_andC ?_ | refine WE_orC ?_ | refine WE_if ?_ | refine WS_par2 ?_ | refine WS_par3 ?_ | refine WE_rg1 ?_ | refine WE_rg2 ?_ | refine WE_items ?_ | refine WE_enum ?_ | refine WE_zip ?_ | refine WE_revd ?_ | refine WE_callG ?_ | refine WS_put ?_ | refine WS_app ?_ | refine WE_pix ?_ | refine WE_sl ?_ | refine WE_p0 ?_ | refine WE_p1 ?_ | refine WE_true ?_ | refine WS_asg ?_) | ((with_reducible apply WE_var); (case h => exact rfl))
      | ((with_reducible refine And.intro ?_ ?_); (with_reducible first | exact ff1 | exact ff2 | exact ff3 | exact ff4 | exact ff5 | fail); (intro _))
      | ((with_reducible refine And.intro ?_ ?_); rotate_left; (with_reducible first | exact tt1 | exact tt2 | exact tt3 | exact tt4 | exact tt5 | fail); (intro _))
      | ((with_reducible apply Exists.intro); (with_reducible apply And.intro); first | ((with_reducible (first | show addT (.int _) (.int _) = some _ | show subT (.int _) (.int _) = some _ | show negT (.int _) = some _ | show ltT (.int _) (.int _) = some _ | show leT (.int _) (.int _) = some _ | show gtT (.int _) (.int _) = some _ | show geT (.int _) (.int _) = some _ | show intT [.int _] = some _ | show max2T [.int _, .int _] = some _ | show min2T [.int _, .int _] = some _ | show absT [.int _] = some _ | show eqT (.int _) (.int _) = some _ | show neT (.int _) (.int _) = some _ | show T.bl _ = T.bl _)); exact rfl) | ((with_reducible (first | show isiT _ _ = some _ | show isT _ _ = some _ | show isNT _ _ = some _ | show isisT _ _ = some _)); first | exact (rfl : _ = some (T.bl true)) | exact (rfl : _ = some (T.bl false)) | exact rfl) | fail)
      | fail)
  refine ⟨_, rfl, random_ok hg hN (by omega) (by simp only [LIM] at h2; omega) fun d us' g d0 d1 => ⟨_, rfl, ?_⟩⟩
  have hd : d.toNat < ts.length := by omega
  have e : ts[d.toNat]? = some ts[d.toNat] := List.getElem?_eq_getElem hd
  refine ⟨ts[d.toNat], ?_, us', rfl, q _ _ g (List.getElem_mem hd)⟩
  show atI ts d = _
  have := atI_nat e
  rw [Int.toNat_of_nonneg d0] at this
  exact this
theorem cell_ok {ns : List Int} {i : Int} (h0 : 0 ≤ i) (hl : ns.length ≤ 63) (q : ∀ v, χ (.int v) []) : WR (cm_law_cell [.lst (ns.map T.int), .int i]) χ ζ := by
  refine WR_fn ?_
  try simp only [List.map_cons, List.map_nil, List.cons_append, List.nil_append, List.length_cons, List.length_nil, Nat.zero_add, Nat.reduceAdd, Nat.reduceSub, Nat.sub_self, List.replicate_zero, List.replicate_succ, List.append_nil, List.set_cons_zero, List.set_cons_succ]
  repeat' (first
      | with_reducible (first | refine WS_seq ?_ | refine WS_set ?_ | refine WS_ret ?_ | refine WS_if ?_ | refine WS_drop ?_ | refine WS_nx ?_ | refine WE_bin ?_ | refine WE_cons ?_ | refine WE_nil ?_ | refine WE_k ?_ | refine WE_app ?_ | refine WE_un ?_ | refine WE_B ?_ | refine WE_notC ?_ | refine WE_call ?_ | refine WE_callK ?_ | refine WE_lst ?_ | refine WE_tup ?_ | refine WE_chain ?_ | refine WE_andV ?_ | refine WE_orV ?_ | refine WE_notV ?_ | refine WE_andC ?_ | refine WE_orC ?_ | refine WE_if ?_ | refine WS_par2 ?_ | refine WS_par3 ?_ | refine WE_rg1 ?_ | refine WE_rg2 ?_ | refine WE_items ?_ | refine WE_enum ?_ | refine WE_zip ?_ | refine WE_revd ?_ | refine WE_callG ?_ | refine WS_put ?_ | refine WS_app ?_ | refine WE_pix ?_ | refine WE_sl ?_ | refine WE_p0 ?_ | refine WE_p1 ?_ | refine WE_true ?_ | refine WS_asg ?_) | ((with_reducible apply WE_var); (case h => exact rfl))
      | ((with_reducible refine And.intro ?_ ?_); (with_reducible first | exact ff1 | exact ff2 | exact ff3 | exact ff4 | exact ff5 | fail); (intro _))
      | ((with_reducible refine And.intro ?_ ?_); rotate_left; (with_reducible first | exact tt1 | exact tt2 | exact tt3 | exact tt4 | exact tt5 | fail); (intro _))
      | ((with_reducible apply Exists.intro); (with_reducible apply And.intro); first | ((with_reducible (first | show addT (.int _) (.int _) = some _ | show subT (.int _) (.int _) = some _ | show negT (.int _) = some _ | show ltT (.int _) (.int _) = some _ | show leT (.int _) (.int _) = some _ | show gtT (.int _) (.int _) = some _ | show geT (.int _) (.int _) = some _ | show intT [.int _] = some _ | show max2T [.int _, .int _] = some _ | show min2T [.int _, .int _] = some _ | show absT [.int _] = some _ | show eqT (.int _) (.int _) = some _ | show neT (.int _) (.int _) = some _ | show T.bl _ = T.bl _)); exact rfl) | ((with_reducible (first | show isiT _ _ = some _ | show isT _ _ = some _ | show isNT _ _ = some _ | show isisT _ _ = some _)); first | exact (rfl : _ = some (T.bl true)) | exact (rfl : _ = some (T.bl false)) | exact rfl) | fail)
      | fail)
  refine ⟨.int ns.length, by simp only [lenT, List.length_map, show ns.length ≤ LIM from Nat.le_trans hl (by decide), if_true], ?_⟩
  repeat' (first
      | with_reducible (first | refine WS_seq ?_ | refine WS_set ?_ | refine WS_ret ?_ | refine WS_if ?_ | refine WS_drop ?_ | refine WS_nx ?_ | refine WE_bin ?_ | refine WE_cons ?_ | refine WE_nil ?_ | refine WE_k ?_ | refine WE_app ?_ | refine WE_un ?_ | refine WE_B ?_ | refine WE_notC ?_ | refine WE_call ?_ | refine WE_callK ?_ | refine WE_lst ?_ | refine WE_tup ?_ | refine WE_chain ?_ | refine WE_andV ?_ | refine WE_orV ?_ | refine WE_notV ?_ | refine WE_andC ?_ | refine WE_orC ?_ | refine WE_if ?_ | refine WS_par2 ?_ | refine WS_par3 ?_ | refine WE_rg1 ?_ | refine WE_rg2 ?_ | refine WE_items ?_ | refine WE_enum ?_ | refine WE_zip ?_ | refine WE_revd ?_ | refine WE_callG ?_ | refine WS_put ?_ | refine WS_app ?_ | refine WE_pix ?_ | refine WE_sl ?_ | refine WE_p0 ?_ | refine WE_p1 ?_ | refine WE_true ?_ | refine WS_asg ?_) | ((with_reducible apply WE_var); (case h => exact rfl))
      | ((with_reducible refine And.intro ?_ ?_); (with_reducible first | exact ff1 | exact ff2 | exact ff3 | exact ff4 | exact ff5 | fail); (intro _))
      | ((with_reducible refine And.intro ?_ ?_); rotate_left; (with_reducible first | exact tt1 | exact tt2 | exact tt3 | exact tt4 | exact tt5 | fail); (intro _))
      | ((with_reducible apply Exists.intro); (with_reducible apply And.intro); first | ((with_reducible (first | show addT (.int _) (.int _) = some _ | show subT (.int _) (.int _) = some _ | show negT (.int _) = some _ | show ltT (.int _) (.int _) = some _ | show leT (.int _) (.int _) = some _ | show gtT (.int _) (.int _) = some _ | show geT (.int _) (.int _) = some _ | show intT [.int _] = some _ | show max2T [.int _, .int _] = some _ | show min2T [.int _, .int _] = some _ | show absT [.int _] = some _ | show eqT (.int _) (.int _) = some _ | show neT (.int _) (.int _) = some _ | show T.bl _ = T.bl _)); exact rfl) | ((with_reducible (first | show isiT _ _ = some _ | show isT _ _ = some _ | show isNT _ _ = some _ | show isisT _ _ = some _)); first | exact (rfl : _ = some (T.bl true)) | exact (rfl : _ = some (T.bl false)) | exact rfl) | fail)
      | fail)
  refine ⟨fun hz => ?_, fun hz => ?_⟩
  · have hz : i < ns.length := of_decide_eq_true hz
    repeat' (first
      | with_reducible (first | refine WS_seq ?_ | refine WS_set ?_ | refine WS_ret ?_ | refine WS_if ?_ | refine WS_drop ?_ | refine WS_nx ?_ | refine WE_bin ?_ | refine WE_cons ?_ | refine WE_nil ?_ | refine WE_k ?_ | refine WE_app ?_ | refine WE_un ?_ | refine WE_B ?_ | refine WE_notC ?_ | refine WE_call ?_ | refine WE_callK ?_ | refine WE_lst ?_ | refine WE_tup ?_ | refine WE_chain ?_ | refine WE_andV ?_ | refine WE_orV ?_ | refine WE_notV ?_ | refine WE_andC ?_ | refine WE_orC ?_ | refine WE_if ?_ | refine WS_par2 ?_ | refine WS_par3 ?_ | refine WE_rg1 ?_ | refine WE_rg2 ?_ | refine WE_items ?_ | refine WE_enum ?_ | refine WE_zip ?_ | refine WE_revd ?_ | refine WE_callG ?_ | refine WS_put ?_ | refine WS_app ?_ | refine WE_pix ?_ | refine WE_sl ?_ | refine WE_p0 ?_ | refine WE_p1 ?_ | refine WE_true ?_ | refine WS_asg ?_) | ((with_reducible apply WE_var); (case h => exact rfl))
      | ((with_reducible refine And.intro ?_ ?_); (with_reducible first | exact ff1 | exact ff2 | exact ff3 | exact ff4 | exact ff5 | fail); (intro _))
      | ((with_reducible refine And.intro ?_ ?_); rotate_left; (with_reducible first | exact tt1 | exact tt2 | exact tt3 | exact tt4 | exact tt5 | fail); (intro _))
      | ((with_reducible apply Exists.intro); (with_reducible apply And.intro); first | ((with_reducible (first | show addT (.int _) (.int _) = some _ | show subT (.int _) (.int _) = some _ | show negT (.int _) = some _ | show ltT (.int _) (.int _) = some _ | show leT (.int _) (.int _) = some _ | show gtT (.int _) (.int _) = some _ | show geT (.int _) (.int _) = some _ | show intT [.int _] = some _ | show max2T [.int _, .int _] = some _ | show min2T [.int _, .int _] = some _ | show absT [.int _] = some _ | show eqT (.int _) (.int _) = some _ | show neT (.int _) (.int _) = some _ | show T.bl _ = T.bl _)); exact rfl) | ((with_reducible (first | show isiT _ _ = some _ | show isT _ _ = some _ | show isNT _ _ = some _ | show isisT _ _ = some _)); first | exact (rfl : _ = some (T.bl true)) | exact (rfl : _ = some (T.bl false)) | exact rfl) | fail)
      | fail)
    have hd : i.toNat < ns.length := by omega
    have e : (ns.map T.int)[i.toNat]? = some (T.int ns[i.toNat]) := by rw [List.getElem?_map, List.getElem?_eq_getElem hd]; rfl
    refine ⟨.int ns[i.toNat], ?_, q _⟩
    show atI (ns.map T.int) i = _
    have := atI_nat e
    rw [Int.toNat_of_nonneg h0] at this
    exact this
  · repeat' (first
      | with_reducible (first | refine WS_seq ?_ | refine WS_set ?_ | refine WS_ret ?_ | refine WS_if ?_ | refine WS_drop ?_ | refine WS_nx ?_ | refine WE_bin ?_ | refine WE_cons ?_ | refine WE_nil ?_ | refine WE_k ?_ | refine WE_app ?_ | refine WE_un ?_ | refine WE_B ?_ | refine WE_notC ?_ | refine WE_call ?_ | refine WE_callK ?_ | refine WE_lst ?_ | refine WE_tup ?_ | refine WE_chain ?_ | refine WE_andV ?_ | refine WE_orV ?_ | refine WE_notV ?_ | refine WE_andC ?_ | refine WE_orC ?_ | refine WE_if ?_ | refine WS_par2 ?_ | refine WS_par3 ?_ | refine WE_rg1 ?_ | refine WE_rg2 ?_ | refine WE_items ?_ | refine WE_enum ?_ | refine WE_zip ?_ | refine WE_revd ?_ | refine WE_callG ?_ | refine WS_put ?_ | refine WS_app ?_ | refine WE_pix ?_ | refine WE_sl ?_ | refine WE_p0 ?_ | refine WE_p1 ?_ | refine WE_true ?_ | refine WS_asg ?_) | ((with_reducible apply WE_var); (case h => exact rfl))
      | ((with_reducible refine And.intro ?_ ?_); (with_reducible first | exact ff1 | exact ff2 | exact ff3 | exact ff4 | exact ff5 | fail); (intro _))
      | ((with_reducible refine And.intro ?_ ?_); rotate_left; (with_reducible first | exact tt1 | exact tt2 | exact tt3 | exact tt4 | exact tt5 | fail); (intro _))
      | ((with_reducible apply Exists.intro); (with_reducible apply And.intro); first | ((with_reducible (first | show addT (.int _) (.int _) = some _ | show subT (.int _) (.int _) = some _ | show negT (.int _) = some _ | show ltT (.int _) (.int _) = some _ | show leT (.int _) (.int _) = some _ | show gtT (.int _) (.int _) = some _ | show geT (.int _) (.int _) = some _ | show intT [.int _] = some _ | show max2T [.int _, .int _] = some _ | show min2T [.int _, .int _] = some _ | show absT [.int _] = some _ | show eqT (.int _) (.int _) = some _ | show neT (.int _) (.int _) = some _ | show T.bl _ = T.bl _)); exact rfl) | ((with_reducible (first | show isiT _ _ = some _ | show isT _ _ = some _ | show isNT _ _ = some _ | show isisT _ _ = some _)); first | exact (rfl : _ = some (T.bl true)) | exact (rfl : _ = some (T.bl false)) | exact rfl) | fail)
      | fail)
    refine ⟨_, rfl, ?_⟩
    repeat' (first
      | with_reducible (first | refine WS_seq ?_ | refine WS_set ?_ | refine WS_ret ?_ | refine WS_if ?_ | refine WS_drop ?_ | refine WS_nx ?_ | refine WE_bin ?_ | refine WE_cons ?_ | refine WE_nil ?_ | refine WE_k ?_ | refine WE_app ?_ | refine WE_un ?_ | refine WE_B ?_ | refine WE_notC ?_ | refine WE_call ?_ | refine WE_callK ?_ | refine WE_lst ?_ | refine WE_tup ?_ | refine WE_chain ?_ | refine WE_andV ?_ | refine WE_orV ?_ | refine WE_notV ?_ | refine WE_andC ?_ | refine WE_orC ?_ | refine WE_if ?_ | refine WS_par2 ?_ | refine WS_par3 ?_ | refine WE_rg1 ?_ | refine WE_rg2 ?_ | refine WE_items ?_ | refine WE_enum ?_ | refine WE_zip ?_ | refine WE_revd ?_ | refine WE_callG ?_ | refine WS_put ?_ | refine WS_app ?_ | refine WE_pix ?_ | refine WE_sl ?_ | refine WE_p0 ?_ | refine WE_p1 ?_ | refine WE_true ?_ | refine WS_asg ?_) | ((with_reducible apply WE_var); (case h => exact rfl))
      | ((with_reducible refine And.intro ?_ ?_); (with_reducible first | exact ff1 | exact ff2 | exact ff3 | exact ff4 | exact ff5 | fail); (intro _))
      | ((with_reducible refine And.intro ?_ ?_); rotate_left; (with_reducible first | exact tt1 | exact tt2 | exact tt3 | exact tt4 | exact tt5 | fail); (intro _))
      | ((with_reducible apply Exists.intro); (with_reducible apply And.intro); first | ((with_reducible (first | show addT (.int _) (.int _) = some _ | show subT (.int _) (.int _) = some _ | show negT (.int _) = some _ | show ltT (.int _) (.int _) = some _ | show leT (.int _) (.int _) = some _ | show gtT (.int _) (.int _) = some _ | show geT (.int _) (.int _) = some _ | show intT [.int _] = some _ | show max2T [.int _, .int _] = some _ | show min2T [.int _, .int _] = some _ | show absT [.int _] = some _ | show eqT (.int _) (.int _) = some _ | show neT (.int _) (.int _) = some _ | show T.bl _ = T.bl _)); exact rfl) | ((with_reducible (first | show isiT _ _ = some _ | show isT _ _ = some _ | show isNT _ _ = some _ | show isisT _ _ = some _)); first | exact (rfl : _ = some (T.bl true)) | exact (rfl : _ = some (T.bl false)) | exact rfl) | fail)
      | fail)
    refine ⟨_, rfl, ?_⟩
    repeat' (first
      | with_reducible (first | refine WS_seq ?_ | refine WS_set ?_ | refine WS_ret ?_ | refine WS_if ?_ | refine WS_drop ?_ | refine WS_nx ?_ | refine WE_bin ?_ | refine WE_cons ?_ | refine WE_nil ?_ | refine WE_k ?_ | refine WE_app ?_ | refine WE_un ?_ | refine WE_B ?_ | refine WE_notC ?_ | refine WE_call ?_ | refine WE_callK ?_ | refine WE_lst ?_ | refine WE_tup ?_ | refine WE_chain ?_ | refine WE_andV ?_ | refine WE_orV ?_ | refine WE_notV ?_ | refine WE_andC ?_ | refine WE_orC ?_ | refine WE_if ?_ | refine WS_par2 ?_ | refine WS_par3 ?_ | refine WE_rg1 ?_ | refine WE_rg2 ?_ | refine WE_items ?_ | refine WE_enum ?_ | refine WE_zip ?_ | refine WE_revd ?_ | refine WE_callG ?_ | refine WS_put ?_ | refine WS_app ?_ | refine WE_pix ?_ | refine WE_sl ?_ | refine WE_p0 ?_ | refine WE_p1 ?_ | refine WE_true ?_ | refine WS_asg ?_) | ((with_reducible apply WE_var); (case h => exact rfl))
      | ((with_reducible refine And.intro ?_ ?_); (with_reducible first | exact ff1 | exact ff2 | exact ff3 | exact ff4 | exact ff5 | fail); (intro _))
      | ((with_reducible refine And.intro ?_ ?_); rotate_left; (with_reducible first | exact tt1 | exact tt2 | exact tt3 | exact tt4 | exact tt5 | fail); (intro _))
      | ((with_reducible apply Exists.intro); (with_reducible apply And.intro); first | ((with_reducible (first | show addT (.int _) (.int _) = some _ | show subT (.int _) (.int _) = some _ | show negT (.int _) = some _ | show ltT (.int _) (.int _) = some _ | show leT (.int _) (.int _) = some _ | show gtT (.int _) (.int _) = some _ | show geT (.int _) (.int _) = some _ | show intT [.int _] = some _ | show max2T [.int _, .int _] = some _ | show min2T [.int _, .int _] = some _ | show absT [.int _] = some _ | show eqT (.int _) (.int _) = some _ | show neT (.int _) (.int _) = some _ | show T.bl _ = T.bl _)); exact rfl) | ((with_reducible (first | show isiT _ _ = some _ | show isT _ _ = some _ | show isNT _ _ = some _ | show isisT _ _ = some _)); first | exact (rfl : _ = some (T.bl true)) | exact (rfl : _ = some (T.bl false)) | exact rfl) | fail)
      | fail)
    have e : cutT (ns.map T.int) none (some 1) = (ns.take 1).map T.int := by
      unfold cutT
      rw [List.length_map]
      show List.take (HT.sIx ns.length ns.length (some 1) - 0) (List.drop 0 (ns.map T.int)) = _
      rw [List.drop_zero, List.map_take]
      show List.take (min 1 ns.length - 0) _ = _
      cases ns with
      | nil => rfl
      | cons a l => simp
    refine ⟨.int (ns.take 1).sum, by rw [e]; show (intsT _).map _ = _; rw [intsT_map]; rfl, ?_⟩
    repeat' (first
      | with_reducible (first | refine WS_seq ?_ | refine WS_set ?_ | refine WS_ret ?_ | refine WS_if ?_ | refine WS_drop ?_ | refine WS_nx ?_ | refine WE_bin ?_ | refine WE_cons ?_ | refine WE_nil ?_ | refine WE_k ?_ | refine WE_app ?_ | refine WE_un ?_ | refine WE_B ?_ | refine WE_notC ?_ | refine WE_call ?_ | refine WE_callK ?_ | refine WE_lst ?_ | refine WE_tup ?_ | refine WE_chain ?_ | refine WE_andV ?_ | refine WE_orV ?_ | refine WE_notV ?_ | refine WE_andC ?_ | refine WE_orC ?_ | refine WE_if ?_ | refine WS_par2 ?_ | refine WS_par3 ?_ | refine WE_rg1 ?_ | refine WE_rg2 ?_ | refine WE_items ?_ | refine WE_enum ?_ | refine WE_zip ?_ | refine WE_revd ?_ | refine WE_callG ?_ | refine WS_put ?_ | refine WS_app ?_ | refine WE_pix ?_ | refine WE_sl ?_ | refine WE_p0 ?_ | refine WE_p1 ?_ | refine WE_true ?_ | refine WS_asg ?_) | ((with_reducible apply WE_var); (case h => exact rfl))
      | ((with_reducible refine And.intro ?_ ?_); (with_reducible first | exact ff1 | exact ff2 | exact ff3 | exact ff4 | exact ff5 | fail); (intro _))
      | ((with_reducible refine And.intro ?_ ?_); rotate_left; (with_reducible first | exact tt1 | exact tt2 | exact tt3 | exact tt4 | exact tt5 | fail); (intro _))
      | ((with_reducible apply Exists.intro); (with_reducible apply And.intro); first | ((with_reducible (first | show addT (.int _) (.int _) = some _ | show subT (.int _) (.int _) = some _ | show negT (.int _) = some _ | show ltT (.int _) (.int _) = some _ | show leT (.int _) (.int _) = some _ | show gtT (.int _) (.int _) = some _ | show geT (.int _) (.int _) = some _ | show intT [.int _] = some _ | show max2T [.int _, .int _] = some _ | show min2T [.int _, .int _] = some _ | show absT [.int _] = some _ | show eqT (.int _) (.int _) = some _ | show neT (.int _) (.int _) = some _ | show T.bl _ = T.bl _)); exact rfl) | ((with_reducible (first | show isiT _ _ = some _ | show isT _ _ = some _ | show isNT _ _ = some _ | show isisT _ _ = some _)); first | exact (rfl : _ = some (T.bl true)) | exact (rfl : _ = some (T.bl false)) | exact rfl) | fail)
      | fail)
    exact ⟨_, modT_of (by omega), q _⟩
theorem generator_ok {ns : List Int} {i : Int} (h0 : 0 ≤ i) (h1 : i ≤ 100) (hl : ns.length ≤ 63) (q : ∀ us, GenOk 100000 us → χ (.lst us) []) : WR (cm_law_generator [.lst (ns.map T.int), .int i]) χ ζ := by
  refine WR_fn ?_
  try simp only [List.map_cons, List.map_nil, List.cons_append, List.nil_append, List.length_cons, List.length_nil, Nat.zero_add, Nat.reduceAdd, Nat.reduceSub, Nat.sub_self, List.replicate_zero, List.replicate_succ, List.append_nil, List.set_cons_zero, List.set_cons_succ]
  repeat' (first
      | with_reducible (first | refine WS_seq ?_ | refine WS_set ?_ | refine WS_ret ?_ | refine WS_if ?_ | refine WS_drop ?_ | refine WS_nx ?_ | refine WE_bin ?_ | refine WE_cons ?_ | refine WE_nil ?_ | refine WE_k ?_ | refine WE_app ?_ | refine WE_un ?_ | refine WE_B ?_ | refine WE_notC ?_ | refine WE_call ?_ | refine WE_callK ?_ | refine WE_lst ?_ | refine WE_tup ?_ | refine WE_chain ?_ | refine WE_andV ?_ | refine WE_orV ?_ | refine WE_notV ?_ | refine WE_andC ?_ | refine WE_orC ?_ | refine WE_if ?_ | refine WS_par2 ?_ | refine WS_par3 ?_ | refine WE_rg1 ?_ | refine WE_rg2 ?_ | refine WE_items ?_ | refine WE_enum ?_ | refine WE_zip ?_ | refine WE_revd ?_ | refine WE_callG ?_ | refine WS_put ?_ | refine WS_app ?_ | refine WE_pix ?_ | refine WE_sl ?_ | refine WE_p0 ?_ | refine WE_p1 ?_ | refine WE_true ?_ | refine WS_asg ?_) | ((with_reducible apply WE_var); (case h => exact rfl))
      | ((with_reducible refine And.intro ?_ ?_); (with_reducible first | exact ff1 | exact ff2 | exact ff3 | exact ff4 | exact ff5 | fail); (intro _))
      | ((with_reducible refine And.intro ?_ ?_); rotate_left; (with_reducible first | exact tt1 | exact tt2 | exact tt3 | exact tt4 | exact tt5 | fail); (intro _))
      | ((with_reducible apply Exists.intro); (with_reducible apply And.intro); first | ((with_reducible (first | show addT (.int _) (.int _) = some _ | show subT (.int _) (.int _) = some _ | show negT (.int _) = some _ | show ltT (.int _) (.int _) = some _ | show leT (.int _) (.int _) = some _ | show gtT (.int _) (.int _) = some _ | show geT (.int _) (.int _) = some _ | show intT [.int _] = some _ | show max2T [.int _, .int _] = some _ | show min2T [.int _, .int _] = some _ | show absT [.int _] = some _ | show eqT (.int _) (.int _) = some _ | show neT (.int _) (.int _) = some _ | show T.bl _ = T.bl _)); exact rfl) | ((with_reducible (first | show isiT _ _ = some _ | show isT _ _ = some _ | show isNT _ _ = some _ | show isisT _ _ = some _)); first | exact (rfl : _ = some (T.bl true)) | exact (rfl : _ = some (T.bl false)) | exact rfl) | fail)
      | fail)
  refine cell_ok h0 hl fun v => ?_
  try simp only [List.map_cons, List.map_nil, List.cons_append, List.nil_append, List.length_cons, List.length_nil, Nat.zero_add, Nat.reduceAdd, Nat.reduceSub, Nat.sub_self, List.replicate_zero, List.replicate_succ, List.append_nil, List.set_cons_zero, List.set_cons_succ]
  repeat' (first
      | with_reducible (first | refine WS_seq ?_ | refine WS_set ?_ | refine WS_ret ?_ | refine WS_if ?_ | refine WS_drop ?_ | refine WS_nx ?_ | refine WE_bin ?_ | refine WE_cons ?_ | refine WE_nil ?_ | refine WE_k ?_ | refine WE_app ?_ | refine WE_un ?_ | refine WE_B ?_ | refine WE_notC ?_ | refine WE_call ?_ | refine WE_callK ?_ | refine WE_lst ?_ | refine WE_tup ?_ | refine WE_chain ?_ | refine WE_andV ?_ | refine WE_orV ?_ | refine WE_notV ?_ | refine WE_andC ?_ | refine WE_orC ?_ | refine WE_if ?_ | refine WS_par2 ?_ | refine WS_par3 ?_ | refine WE_rg1 ?_ | refine WE_rg2 ?_ | refine WE_items ?_ | refine WE_enum ?_ | refine WE_zip ?_ | refine WE_revd ?_ | refine WE_callG ?_ | refine WS_put ?_ | refine WS_app ?_ | refine WE_pix ?_ | refine WE_sl ?_ | refine WE_p0 ?_ | refine WE_p1 ?_ | refine WE_true ?_ | refine WS_asg ?_) | ((with_reducible apply WE_var); (case h => exact rfl))
      | ((with_reducible refine And.intro ?_ ?_); (with_reducible first | exact ff1 | exact ff2 | exact ff3 | exact ff4 | exact ff5 | fail); (intro _))
      | ((with_reducible refine And.intro ?_ ?_); rotate_left; (with_reducible first | exact tt1 | exact tt2 | exact tt3 | exact tt4 | exact tt5 | fail); (intro _))
      | ((with_reducible apply Exists.intro); (with_reducible apply And.intro); first | ((with_reducible (first | show addT (.int _) (.int _) = some _ | show subT (.int _) (.int _) = some _ | show negT (.int _) = some _ | show ltT (.int _) (.int _) = some _ | show leT (.int _) (.int _) = some _ | show gtT (.int _) (.int _) = some _ | show geT (.int _) (.int _) = some _ | show intT [.int _] = some _ | show max2T [.int _, .int _] = some _ | show min2T [.int _, .int _] = some _ | show absT [.int _] = some _ | show eqT (.int _) (.int _) = some _ | show neT (.int _) (.int _) = some _ | show T.bl _ = T.bl _)); exact rfl) | ((with_reducible (first | show isiT _ _ = some _ | show isT _ _ = some _ | show isNT _ _ = some _ | show isisT _ _ = some _)); first | exact (rfl : _ = some (T.bl true)) | exact (rfl : _ = some (T.bl false)) | exact rfl) | fail)
      | fail)
  refine ⟨_, rfl, ?_⟩
  repeat' (first
      | with_reducible (first | refine WS_seq ?_ | refine WS_set ?_ | refine WS_ret ?_ | refine WS_if ?_ | refine WS_drop ?_ | refine WS_nx ?_ | refine WE_bin ?_ | refine WE_cons ?_ | refine WE_nil ?_ | refine WE_k ?_ | refine WE_app ?_ | refine WE_un ?_ | refine WE_B ?_ | refine WE_notC ?_ | refine WE_call ?_ | refine WE_callK ?_ | refine WE_lst ?_ | refine WE_tup ?_ | refine WE_chain ?_ | refine WE_andV ?_ | refine WE_orV ?_ | refine WE_notV ?_ | refine WE_andC ?_ | refine WE_orC ?_ | refine WE_if ?_ | refine WS_par2 ?_ | refine WS_par3 ?_ | refine WE_rg1 ?_ | refine WE_rg2 ?_ | refine WE_items ?_ | refine WE_enum ?_ | refine WE_zip ?_ | refine WE_revd ?_ | refine WE_callG ?_ | refine WS_put ?_ | refine WS_app ?_ | refine WE_pix ?_ | refine WE_sl ?_ | refine WE_p0 ?_ | refine WE_p1 ?_ | refine WE_true ?_ | refine WS_asg ?_) | ((with_reducible apply WE_var); (case h => exact rfl))
      | ((with_reducible refine And.intro ?_ ?_); (with_reducible first | exact ff1 | exact ff2 | exact ff3 | exact ff4 | exact ff5 | fail); (intro _))
      | ((with_reducible refine And.intro ?_ ?_); rotate_left; (with_reducible first | exact tt1 | exact tt2 | exact tt3 | exact tt4 | exact tt5 | fail); (intro _))
      | ((with_reducible apply Exists.intro); (with_reducible apply And.intro); first | ((with_reducible (first | show addT (.int _) (.int _) = some _ | show subT (.int _) (.int _) = some _ | show negT (.int _) = some _ | show ltT (.int _) (.int _) = some _ | show leT (.int _) (.int _) = some _ | show gtT (.int _) (.int _) = some _ | show geT (.int _) (.int _) = some _ | show intT [.int _] = some _ | show max2T [.int _, .int _] = some _ | show min2T [.int _, .int _] = some _ | show absT [.int _] = some _ | show eqT (.int _) (.int _) = some _ | show neT (.int _) (.int _) = some _ | show T.bl _ = T.bl _)); exact rfl) | ((with_reducible (first | show isiT _ _ = some _ | show isT _ _ = some _ | show isNT _ _ = some _ | show isisT _ _ = some _)); first | exact (rfl : _ = some (T.bl true)) | exact (rfl : _ = some (T.bl false)) | exact rfl) | fail)
      | fail)
  refine ⟨_, rfl, ?_⟩
  repeat' (first
      | with_reducible (first | refine WS_seq ?_ | refine WS_set ?_ | refine WS_ret ?_ | refine WS_if ?_ | refine WS_drop ?_ | refine WS_nx ?_ | refine WE_bin ?_ | refine WE_cons ?_ | refine WE_nil ?_ | refine WE_k ?_ | refine WE_app ?_ | refine WE_un ?_ | refine WE_B ?_ | refine WE_notC ?_ | refine WE_call ?_ | refine WE_callK ?_ | refine WE_lst ?_ | refine WE_tup ?_ | refine WE_chain ?_ | refine WE_andV ?_ | refine WE_orV ?_ | refine WE_notV ?_ | refine WE_andC ?_ | refine WE_orC ?_ | refine WE_if ?_ | refine WS_par2 ?_ | refine WS_par3 ?_ | refine WE_rg1 ?_ | refine WE_rg2 ?_ | refine WE_items ?_ | refine WE_enum ?_ | refine WE_zip ?_ | refine WE_revd ?_ | refine WE_callG ?_ | refine WS_put ?_ | refine WS_app ?_ | refine WE_pix ?_ | refine WE_sl ?_ | refine WE_p0 ?_ | refine WE_p1 ?_ | refine WE_true ?_ | refine WS_asg ?_) | ((with_reducible apply WE_var); (case h => exact rfl))
      | ((with_reducible refine And.intro ?_ ?_); (with_reducible first | exact ff1 | exact ff2 | exact ff3 | exact ff4 | exact ff5 | fail); (intro _))
      | ((with_reducible refine And.intro ?_ ?_); rotate_left; (with_reducible first | exact tt1 | exact tt2 | exact tt3 | exact tt4 | exact tt5 | fail); (intro _))
      | ((with_reducible apply Exists.intro); (with_reducible apply And.intro); first | ((with_reducible (first | show addT (.int _) (.int _) = some _ | show subT (.int _) (.int _) = some _ | show negT (.int _) = some _ | show ltT (.int _) (.int _) = some _ | show leT (.int _) (.int _) = some _ | show gtT (.int _) (.int _) = some _ | show geT (.int _) (.int _) = some _ | show intT [.int _] = some _ | show max2T [.int _, .int _] = some _ | show min2T [.int _, .int _] = some _ | show absT [.int _] = some _ | show eqT (.int _) (.int _) = some _ | show neT (.int _) (.int _) = some _ | show T.bl _ = T.bl _)); exact rfl) | ((with_reducible (first | show isiT _ _ = some _ | show isT _ _ = some _ | show isNT _ _ = some _ | show isisT _ _ = some _)); first | exact (rfl : _ = some (T.bl true)) | exact (rfl : _ = some (T.bl false)) | exact rfl) | fail)
      | fail)
  refine ⟨_, rfl, ?_⟩
  repeat' (first
      | with_reducible (first | refine WS_seq ?_ | refine WS_set ?_ | refine WS_ret ?_ | refine WS_if ?_ | refine WS_drop ?_ | refine WS_nx ?_ | refine WE_bin ?_ | refine WE_cons ?_ | refine WE_nil ?_ | refine WE_k ?_ | refine WE_app ?_ | refine WE_un ?_ | refine WE_B ?_ | refine WE_notC ?_ | refine WE_call ?_ | refine WE_callK ?_ | refine WE_lst ?_ | refine WE_tup ?_ | refine WE_chain ?_ | refine WE_andV ?_ | refine WE_orV ?_ | refine WE_notV ?_ | refine WE_andC ?_ | refine WE_orC ?_ | refine WE_if ?_ | refine WS_par2 ?_ | refine WS_par3 ?_ | refine WE_rg1 ?_ | refine WE_rg2 ?_ | refine WE_items ?_ | refine WE_enum ?_ | refine WE_zip ?_ | refine WE_revd ?_ | refine WE_callG ?_ | refine WS_put ?_ | refine WS_app ?_ | refine WE_pix ?_ | refine WE_sl ?_ | refine WE_p0 ?_ | refine WE_p1 ?_ | refine WE_true ?_ | refine WS_asg ?_) | ((with_reducible apply WE_var); (case h => exact rfl))
      | ((with_reducible refine And.intro ?_ ?_); (with_reducible first | exact ff1 | exact ff2 | exact ff3 | exact ff4 | exact ff5 | fail); (intro _))
      | ((with_reducible refine And.intro ?_ ?_); rotate_left; (with_reducible first | exact tt1 | exact tt2 | exact tt3 | exact tt4 | exact tt5 | fail); (intro _))
      | ((with_reducible apply Exists.intro); (with_reducible apply And.intro); first | ((with_reducible (first | show addT (.int _) (.int _) = some _ | show subT (.int _) (.int _) = some _ | show negT (.int _) = some _ | show ltT (.int _) (.int _) = some _ | show leT (.int _) (.int _) = some _ | show gtT (.int _) (.int _) = some _ | show geT (.int _) (.int _) = some _ | show intT [.int _] = some _ | show max2T [.int _, .int _] = some _ | show min2T [.int _, .int _] = some _ | show absT [.int _] = some _ | show eqT (.int _) (.int _) = some _ | show neT (.int _) (.int _) = some _ | show T.bl _ = T.bl _)); exact rfl) | ((with_reducible (first | show isiT _ _ = some _ | show isT _ _ = some _ | show isNT _ _ = some _ | show isisT _ _ = some _)); first | exact (rfl : _ = some (T.bl true)) | exact (rfl : _ = some (T.bl false)) | exact rfl) | fail)
      | fail)
  refine ⟨_, modT_of (by decide +kernel), ?_⟩
  repeat' (first
      | with_reducible (first | refine WS_seq ?_ | refine WS_set ?_ | refine WS_ret ?_ | refine WS_if ?_ | refine WS_drop ?_ | refine WS_nx ?_ | refine WE_bin ?_ | refine WE_cons ?_ | refine WE_nil ?_ | refine WE_k ?_ | refine WE_app ?_ | refine WE_un ?_ | refine WE_B ?_ | refine WE_notC ?_ | refine WE_call ?_ | refine WE_callK ?_ | refine WE_lst ?_ | refine WE_tup ?_ | refine WE_chain ?_ | refine WE_andV ?_ | refine WE_orV ?_ | refine WE_notV ?_ | refine WE_andC ?_ | refine WE_orC ?_ | refine WE_if ?_ | refine WS_par2 ?_ | refine WS_par3 ?_ | refine WE_rg1 ?_ | refine WE_rg2 ?_ | refine WE_items ?_ | refine WE_enum ?_ | refine WE_zip ?_ | refine WE_revd ?_ | refine WE_callG ?_ | refine WS_put ?_ | refine WS_app ?_ | refine WE_pix ?_ | refine WE_sl ?_ | refine WE_p0 ?_ | refine WE_p1 ?_ | refine WE_true ?_ | refine WS_asg ?_) | ((with_reducible apply WE_var); (case h => exact rfl))
      | ((with_reducible refine And.intro ?_ ?_); (with_reducible first | exact ff1 | exact ff2 | exact ff3 | exact ff4 | exact ff5 | fail); (intro _))
      | ((with_reducible refine And.intro ?_ ?_); rotate_left; (with_reducible first | exact tt1 | exact tt2 | exact tt3 | exact tt4 | exact tt5 | fail); (intro _))
      | ((with_reducible apply Exists.intro); (with_reducible apply And.intro); first | ((with_reducible (first | show addT (.int _) (.int _) = some _ | show subT (.int _) (.int _) = some _ | show negT (.int _) = some _ | show ltT (.int _) (.int _) = some _ | show leT (.int _) (.int _) = some _ | show gtT (.int _) (.int _) = some _ | show geT (.int _) (.int _) = some _ | show intT [.int _] = some _ | show max2T [.int _, .int _] = some _ | show min2T [.int _, .int _] = some _ | show absT [.int _] = some _ | show eqT (.int _) (.int _) = some _ | show neT (.int _) (.int _) = some _ | show T.bl _ = T.bl _)); exact rfl) | ((with_reducible (first | show isiT _ _ = some _ | show isT _ _ = some _ | show isNT _ _ = some _ | show isisT _ _ = some _)); first | exact (rfl : _ = some (T.bl true)) | exact (rfl : _ = some (T.bl false)) | exact rfl) | fail)
      | fail)
  refine ⟨_, modT_of (by decide), ?_⟩
  repeat' (first
      | with_reducible (first | refine WS_seq ?_ | refine WS_set ?_ | refine WS_ret ?_ | refine WS_if ?_ | refine WS_drop ?_ | refine WS_nx ?_ | refine WE_bin ?_ | refine WE_cons ?_ | refine WE_nil ?_ | refine WE_k ?_ | refine WE_app ?_ | refine WE_un ?_ | refine WE_B ?_ | refine WE_notC ?_ | refine WE_call ?_ | refine WE_callK ?_ | refine WE_lst ?_ | refine WE_tup ?_ | refine WE_chain ?_ | refine WE_andV ?_ | refine WE_orV ?_ | refine WE_notV ?_ | refine WE_andC ?_ | refine WE_orC ?_ | refine WE_if ?_ | refine WS_par2 ?_ | refine WS_par3 ?_ | refine WE_rg1 ?_ | refine WE_rg2 ?_ | refine WE_items ?_ | refine WE_enum ?_ | refine WE_zip ?_ | refine WE_revd ?_ | refine WE_callG ?_ | refine WS_put ?_ | refine WS_app ?_ | refine WE_pix ?_ | refine WE_sl ?_ | refine WE_p0 ?_ | refine WE_p1 ?_ | refine WE_true ?_ | refine WS_asg ?_) | ((with_reducible apply WE_var); (case h => exact rfl))
      | ((with_reducible refine And.intro ?_ ?_); (with_reducible first | exact ff1 | exact ff2 | exact ff3 | exact ff4 | exact ff5 | fail); (intro _))
      | ((with_reducible refine And.intro ?_ ?_); rotate_left; (with_reducible first | exact tt1 | exact tt2 | exact tt3 | exact tt4 | exact tt5 | fail); (intro _))
      | ((with_reducible apply Exists.intro); (with_reducible apply And.intro); first | ((with_reducible (first | show addT (.int _) (.int _) = some _ | show subT (.int _) (.int _) = some _ | show negT (.int _) = some _ | show ltT (.int _) (.int _) = some _ | show leT (.int _) (.int _) = some _ | show gtT (.int _) (.int _) = some _ | show geT (.int _) (.int _) = some _ | show intT [.int _] = some _ | show max2T [.int _, .int _] = some _ | show min2T [.int _, .int _] = some _ | show absT [.int _] = some _ | show eqT (.int _) (.int _) = some _ | show neT (.int _) (.int _) = some _ | show T.bl _ = T.bl _)); exact rfl) | ((with_reducible (first | show isiT _ _ = some _ | show isT _ _ = some _ | show isNT _ _ = some _ | show isisT _ _ = some _)); first | exact (rfl : _ = some (T.bl true)) | exact (rfl : _ = some (T.bl false)) | exact rfl) | fail)
      | fail)
  refine ⟨_, mulT_of (by omega) (by omega) (by omega) (by omega), ?_⟩
  repeat' (first
      | with_reducible (first | refine WS_seq ?_ | refine WS_set ?_ | refine WS_ret ?_ | refine WS_if ?_ | refine WS_drop ?_ | refine WS_nx ?_ | refine WE_bin ?_ | refine WE_cons ?_ | refine WE_nil ?_ | refine WE_k ?_ | refine WE_app ?_ | refine WE_un ?_ | refine WE_B ?_ | refine WE_notC ?_ | refine WE_call ?_ | refine WE_callK ?_ | refine WE_lst ?_ | refine WE_tup ?_ | refine WE_chain ?_ | refine WE_andV ?_ | refine WE_orV ?_ | refine WE_notV ?_ | refine WE_andC ?_ | refine WE_orC ?_ | refine WE_if ?_ | refine WS_par2 ?_ | refine WS_par3 ?_ | refine WE_rg1 ?_ | refine WE_rg2 ?_ | refine WE_items ?_ | refine WE_enum ?_ | refine WE_zip ?_ | refine WE_revd ?_ | refine WE_callG ?_ | refine WS_put ?_ | refine WS_app ?_ | refine WE_pix ?_ | refine WE_sl ?_ | refine WE_p0 ?_ | refine WE_p1 ?_ | refine WE_true ?_ | refine WS_asg ?_) | ((with_reducible apply WE_var); (case h => exact rfl))
      | ((with_reducible refine And.intro ?_ ?_); (with_reducible first | exact ff1 | exact ff2 | exact ff3 | exact ff4 | exact ff5 | fail); (intro _))
      | ((with_reducible refine And.intro ?_ ?_); rotate_left; (with_reducible first | exact tt1 | exact tt2 | exact tt3 | exact tt4 | exact tt5 | fail); (intro _))
      | ((with_reducible apply Exists.intro); (with_reducible apply And.intro); first | ((with_reducible (first | show addT (.int _) (.int _) = some _ | show subT (.int _) (.int _) = some _ | show negT (.int _) = some _ | show ltT (.int _) (.int _) = some _ | show leT (.int _) (.int _) = some _ | show gtT (.int _) (.int _) = some _ | show geT (.int _) (.int _) = some _ | show intT [.int _] = some _ | show max2T [.int _, .int _] = some _ | show min2T [.int _, .int _] = some _ | show absT [.int _] = some _ | show eqT (.int _) (.int _) = some _ | show neT (.int _) (.int _) = some _ | show T.bl _ = T.bl _)); exact rfl) | ((with_reducible (first | show isiT _ _ = some _ | show isT _ _ = some _ | show isNT _ _ = some _ | show isisT _ _ = some _)); first | exact (rfl : _ = some (T.bl true)) | exact (rfl : _ = some (T.bl false)) | exact rfl) | fail)
      | fail)
  refine ⟨by show 3 ≤ LIM; decide, q _ ⟨_, _, _, rfl, Int.emod_nonneg _ (by decide +kernel), Int.emod_nonneg _ (by decide), Int.emod_lt_of_pos _ (by decide), by omega, by omega⟩⟩

/-! ### a value compared with itself -/
def pl : Nat → T → Bool
  | _, .non => true
  | _, .bl _ => true
  | _, .int _ => true
  | _, .str x => x.cps.all (· < 0x110000)
  | n + 1, .lst xs => decide (xs.length < 1000000) && xs.all (pl n)
  | n + 1, .tup xs => decide (xs.length < 1000000) && xs.all (pl n)
  | _, _ => false
theorem sameq_lst {xs : List T} {k : Nat} (hl : xs.length < 1000000) (ih : ∀ x ∈ xs, cm_law_same k [x, x] = .ok (.bl true) []) : cm_law_same (k + 1) [.lst xs, .lst xs] = .ok (.bl true) [] := by
  have hL : xs.length ≤ LIM := Nat.le_of_lt hl
  have e1 : lenT [.lst xs] = some (.int xs.length) := by simp only [lenT, hL, if_true]
  have e2 : ∀ i : Nat, ∀ x, xs[i]? = some x → ixT (.lst xs) (.int (i : Int)) = some x := fun i x hx => atI_nat hx
  refine WR.eq (WR_fn ?_)
  try simp only [List.map_cons, List.map_nil, List.cons_append, List.nil_append, List.length_cons, List.length_nil, Nat.zero_add, Nat.reduceAdd, Nat.reduceSub, Nat.sub_self, List.replicate_zero, List.replicate_succ, List.append_nil, List.set_cons_zero, List.set_cons_succ]
  repeat' (first
      | with_reducible (first | refine WS_seq ?_ | refine WS_set ?_ | refine WS_ret ?_ | refine WS_if ?_ | refine WS_drop ?_ | refine WS_nx ?_ | refine WE_bin ?_ | refine WE_cons ?_ | refine WE_nil ?_ | refine WE_k ?_ | refine WE_app ?_ | refine WE_un ?_ | refine WE_B ?_ | refine WE_notC ?_ | refine WE_call ?_ | refine WE_callK ?_ | refine WE_lst ?_ | refine WE_tup ?_ | refine WE_chain ?_ | refine WE_andV ?_ | refine WE_orV ?_ | refine WE_notV ?_ | refine WE_andC ?_ | refine WE_orC ?_ | refine WE_if ?_ | refine WS_par2 ?_ | refine WS_par3 ?_ | refine WE_rg1 ?_ | refine WE_rg2 ?_ | refine WE_items ?_ | refine WE_enum ?_ | refine WE_zip ?_ | refine WE_revd ?_ | refine WE_callG ?_ | refine WS_put ?_ | refine WS_app ?_ | refine WE_pix ?_ | refine WE_sl ?_ | refine WE_p0 ?_ | refine WE_p1 ?_ | refine WE_true ?_ | refine WS_asg ?_) | ((with_reducible apply WE_var); (case h => exact rfl))
      | ((with_reducible refine And.intro ?_ ?_); (with_reducible first | exact ff1 | exact ff2 | exact ff3 | exact ff4 | exact ff5 | fail); (intro _))
      | ((with_reducible refine And.intro ?_ ?_); rotate_left; (with_reducible first | exact tt1 | exact tt2 | exact tt3 | exact tt4 | exact tt5 | fail); (intro _))
      | ((with_reducible apply Exists.intro); (with_reducible apply And.intro); first | ((with_reducible (first | show addT (.int _) (.int _) = some _ | show subT (.int _) (.int _) = some _ | show negT (.int _) = some _ | show ltT (.int _) (.int _) = some _ | show leT (.int _) (.int _) = some _ | show gtT (.int _) (.int _) = some _ | show geT (.int _) (.int _) = some _ | show intT [.int _] = some _ | show max2T [.int _, .int _] = some _ | show min2T [.int _, .int _] = some _ | show absT [.int _] = some _ | show eqT (.int _) (.int _) = some _ | show neT (.int _) (.int _) = some _ | show T.bl _ = T.bl _)); exact rfl) | ((with_reducible (first | show isiT _ _ = some _ | show isT _ _ = some _ | show isNT _ _ = some _ | show isisT _ _ = some _)); first | exact (rfl : _ = some (T.bl true)) | exact (rfl : _ = some (T.bl false)) | exact rfl) | fail)
      | fail)
  refine ⟨_, e1, ?_⟩
  repeat' (first
      | with_reducible (first | refine WS_seq ?_ | refine WS_set ?_ | refine WS_ret ?_ | refine WS_if ?_ | refine WS_drop ?_ | refine WS_nx ?_ | refine WE_bin ?_ | refine WE_cons ?_ | refine WE_nil ?_ | refine WE_k ?_ | refine WE_app ?_ | refine WE_un ?_ | refine WE_B ?_ | refine WE_notC ?_ | refine WE_call ?_ | refine WE_callK ?_ | refine WE_lst ?_ | refine WE_tup ?_ | refine WE_chain ?_ | refine WE_andV ?_ | refine WE_orV ?_ | refine WE_notV ?_ | refine WE_andC ?_ | refine WE_orC ?_ | refine WE_if ?_ | refine WS_par2 ?_ | refine WS_par3 ?_ | refine WE_rg1 ?_ | refine WE_rg2 ?_ | refine WE_items ?_ | refine WE_enum ?_ | refine WE_zip ?_ | refine WE_revd ?_ | refine WE_callG ?_ | refine WS_put ?_ | refine WS_app ?_ | refine WE_pix ?_ | refine WE_sl ?_ | refine WE_p0 ?_ | refine WE_p1 ?_ | refine WE_true ?_ | refine WS_asg ?_) | ((with_reducible apply WE_var); (case h => exact rfl))
      | ((with_reducible refine And.intro ?_ ?_); (with_reducible first | exact ff1 | exact ff2 | exact ff3 | exact ff4 | exact ff5 | fail); (intro _))
      | ((with_reducible refine And.intro ?_ ?_); rotate_left; (with_reducible first | exact tt1 | exact tt2 | exact tt3 | exact tt4 | exact tt5 | fail); (intro _))
      | ((with_reducible apply Exists.intro); (with_reducible apply And.intro); first | ((with_reducible (first | show addT (.int _) (.int _) = some _ | show subT (.int _) (.int _) = some _ | show negT (.int _) = some _ | show ltT (.int _) (.int _) = some _ | show leT (.int _) (.int _) = some _ | show gtT (.int _) (.int _) = some _ | show geT (.int _) (.int _) = some _ | show intT [.int _] = some _ | show max2T [.int _, .int _] = some _ | show min2T [.int _, .int _] = some _ | show absT [.int _] = some _ | show eqT (.int _) (.int _) = some _ | show neT (.int _) (.int _) = some _ | show T.bl _ = T.bl _)); exact rfl) | ((with_reducible (first | show isiT _ _ = some _ | show isT _ _ = some _ | show isNT _ _ = some _ | show isisT _ _ = some _)); first | exact (rfl : _ = some (T.bl true)) | exact (rfl : _ = some (T.bl false)) | exact rfl) | fail)
      | fail)
  refine ⟨_, e1, ?_⟩
  repeat' (first
      | with_reducible (first | refine WS_seq ?_ | refine WS_set ?_ | refine WS_ret ?_ | refine WS_if ?_ | refine WS_drop ?_ | refine WS_nx ?_ | refine WE_bin ?_ | refine WE_cons ?_ | refine WE_nil ?_ | refine WE_k ?_ | refine WE_app ?_ | refine WE_un ?_ | refine WE_B ?_ | refine WE_notC ?_ | refine WE_call ?_ | refine WE_callK ?_ | refine WE_lst ?_ | refine WE_tup ?_ | refine WE_chain ?_ | refine WE_andV ?_ | refine WE_orV ?_ | refine WE_notV ?_ | refine WE_andC ?_ | refine WE_orC ?_ | refine WE_if ?_ | refine WS_par2 ?_ | refine WS_par3 ?_ | refine WE_rg1 ?_ | refine WE_rg2 ?_ | refine WE_items ?_ | refine WE_enum ?_ | refine WE_zip ?_ | refine WE_revd ?_ | refine WE_callG ?_ | refine WS_put ?_ | refine WS_app ?_ | refine WE_pix ?_ | refine WE_sl ?_ | refine WE_p0 ?_ | refine WE_p1 ?_ | refine WE_true ?_ | refine WS_asg ?_) | ((with_reducible apply WE_var); (case h => exact rfl))
      | ((with_reducible refine And.intro ?_ ?_); (with_reducible first | exact ff1 | exact ff2 | exact ff3 | exact ff4 | exact ff5 | fail); (intro _))
      | ((with_reducible refine And.intro ?_ ?_); rotate_left; (with_reducible first | exact tt1 | exact tt2 | exact tt3 | exact tt4 | exact tt5 | fail); (intro _))
      | ((with_reducible apply Exists.intro); (with_reducible apply And.intro); first | ((with_reducible (first | show addT (.int _) (.int _) = some _ | show subT (.int _) (.int _) = some _ | show negT (.int _) = some _ | show ltT (.int _) (.int _) = some _ | show leT (.int _) (.int _) = some _ | show gtT (.int _) (.int _) = some _ | show geT (.int _) (.int _) = some _ | show intT [.int _] = some _ | show max2T [.int _, .int _] = some _ | show min2T [.int _, .int _] = some _ | show absT [.int _] = some _ | show eqT (.int _) (.int _) = some _ | show neT (.int _) (.int _) = some _ | show T.bl _ = T.bl _)); exact rfl) | ((with_reducible (first | show isiT _ _ = some _ | show isT _ _ = some _ | show isNT _ _ = some _ | show isisT _ _ = some _)); first | exact (rfl : _ = some (T.bl true)) | exact (rfl : _ = some (T.bl false)) | exact rfl) | fail)
      | fail)
  refine ⟨fun _ => ?_, fun h => by simp [eqB] at h⟩
  refine WE_bin ?_
  refine WE_lc (fun _ => false) (fun t => t) ?_
  repeat' (first
      | with_reducible (first | refine WS_seq ?_ | refine WS_set ?_ | refine WS_ret ?_ | refine WS_if ?_ | refine WS_drop ?_ | refine WS_nx ?_ | refine WE_bin ?_ | refine WE_cons ?_ | refine WE_nil ?_ | refine WE_k ?_ | refine WE_app ?_ | refine WE_un ?_ | refine WE_B ?_ | refine WE_notC ?_ | refine WE_call ?_ | refine WE_callK ?_ | refine WE_lst ?_ | refine WE_tup ?_ | refine WE_chain ?_ | refine WE_andV ?_ | refine WE_orV ?_ | refine WE_notV ?_ | refine WE_andC ?_ | refine WE_orC ?_ | refine WE_if ?_ | refine WS_par2 ?_ | refine WS_par3 ?_ | refine WE_rg1 ?_ | refine WE_rg2 ?_ | refine WE_items ?_ | refine WE_enum ?_ | refine WE_zip ?_ | refine WE_revd ?_ | refine WE_callG ?_ | refine WS_put ?_ | refine WS_app ?_ | refine WE_pix ?_ | refine WE_sl ?_ | refine WE_p0 ?_ | refine WE_p1 ?_ | refine WE_true ?_ | refine WS_asg ?_) | ((with_reducible apply WE_var); (case h => exact rfl))
      | ((with_reducible refine And.intro ?_ ?_); (with_reducible first | exact ff1 | exact ff2 | exact ff3 | exact ff4 | exact ff5 | fail); (intro _))
      | ((with_reducible refine And.intro ?_ ?_); rotate_left; (with_reducible first | exact tt1 | exact tt2 | exact tt3 | exact tt4 | exact tt5 | fail); (intro _))
      | ((with_reducible apply Exists.intro); (with_reducible apply And.intro); first | ((with_reducible (first | show addT (.int _) (.int _) = some _ | show subT (.int _) (.int _) = some _ | show negT (.int _) = some _ | show ltT (.int _) (.int _) = some _ | show leT (.int _) (.int _) = some _ | show gtT (.int _) (.int _) = some _ | show geT (.int _) (.int _) = some _ | show intT [.int _] = some _ | show max2T [.int _, .int _] = some _ | show min2T [.int _, .int _] = some _ | show absT [.int _] = some _ | show eqT (.int _) (.int _) = some _ | show neT (.int _) (.int _) = some _ | show T.bl _ = T.bl _)); exact rfl) | ((with_reducible (first | show isiT _ _ = some _ | show isT _ _ = some _ | show isNT _ _ = some _ | show isisT _ _ = some _)); first | exact (rfl : _ = some (T.bl true)) | exact (rfl : _ = some (T.bl false)) | exact rfl) | fail)
      | fail)
  refine ⟨_, e1, ?_⟩
  repeat' (first
      | with_reducible (first | refine WS_seq ?_ | refine WS_set ?_ | refine WS_ret ?_ | refine WS_if ?_ | refine WS_drop ?_ | refine WS_nx ?_ | refine WE_bin ?_ | refine WE_cons ?_ | refine WE_nil ?_ | refine WE_k ?_ | refine WE_app ?_ | refine WE_un ?_ | refine WE_B ?_ | refine WE_notC ?_ | refine WE_call ?_ | refine WE_callK ?_ | refine WE_lst ?_ | refine WE_tup ?_ | refine WE_chain ?_ | refine WE_andV ?_ | refine WE_orV ?_ | refine WE_notV ?_ | refine WE_andC ?_ | refine WE_orC ?_ | refine WE_if ?_ | refine WS_par2 ?_ | refine WS_par3 ?_ | refine WE_rg1 ?_ | refine WE_rg2 ?_ | refine WE_items ?_ | refine WE_enum ?_ | refine WE_zip ?_ | refine WE_revd ?_ | refine WE_callG ?_ | refine WS_put ?_ | refine WS_app ?_ | refine WE_pix ?_ | refine WE_sl ?_ | refine WE_p0 ?_ | refine WE_p1 ?_ | refine WE_true ?_ | refine WS_asg ?_) | ((with_reducible apply WE_var); (case h => exact rfl))
      | ((with_reducible refine And.intro ?_ ?_); (with_reducible first | exact ff1 | exact ff2 | exact ff3 | exact ff4 | exact ff5 | fail); (intro _))
      | ((with_reducible refine And.intro ?_ ?_); rotate_left; (with_reducible first | exact tt1 | exact tt2 | exact tt3 | exact tt4 | exact tt5 | fail); (intro _))
      | ((with_reducible apply Exists.intro); (with_reducible apply And.intro); first | ((with_reducible (first | show addT (.int _) (.int _) = some _ | show subT (.int _) (.int _) = some _ | show negT (.int _) = some _ | show ltT (.int _) (.int _) = some _ | show leT (.int _) (.int _) = some _ | show gtT (.int _) (.int _) = some _ | show geT (.int _) (.int _) = some _ | show intT [.int _] = some _ | show max2T [.int _, .int _] = some _ | show min2T [.int _, .int _] = some _ | show absT [.int _] = some _ | show eqT (.int _) (.int _) = some _ | show neT (.int _) (.int _) = some _ | show T.bl _ = T.bl _)); exact rfl) | ((with_reducible (first | show isiT _ _ = some _ | show isT _ _ = some _ | show isNT _ _ = some _ | show isisT _ _ = some _)); first | exact (rfl : _ = some (T.bl true)) | exact (rfl : _ = some (T.bl false)) | exact rfl) | fail)
      | fail)
  refine ⟨_, rfl, lim62_of (by omega) (by omega), by unfold rangeT; rw [List.length_map, List.length_range]; omega, (fun k hk => by rw [List.mem_singleton.mp hk]; show 2 < 3; decide), fun u hu => ⟨_, rfl, ?_⟩, ?_⟩
  · unfold rangeT at hu
    obtain ⟨i, hi, rfl⟩ := List.mem_map.mp hu
    have hi := List.mem_range.mp hi
    have hx : xs[i]? = some xs[i] := List.getElem?_eq_getElem (by omega)
    rw [Int.zero_add]
    repeat' (first
      | with_reducible (first | refine WS_seq ?_ | refine WS_set ?_ | refine WS_ret ?_ | refine WS_if ?_ | refine WS_drop ?_ | refine WS_nx ?_ | refine WE_bin ?_ | refine WE_cons ?_ | refine WE_nil ?_ | refine WE_k ?_ | refine WE_app ?_ | refine WE_un ?_ | refine WE_B ?_ | refine WE_notC ?_ | refine WE_call ?_ | refine WE_callK ?_ | refine WE_lst ?_ | refine WE_tup ?_ | refine WE_chain ?_ | refine WE_andV ?_ | refine WE_orV ?_ | refine WE_notV ?_ | refine WE_andC ?_ | refine WE_orC ?_ | refine WE_if ?_ | refine WS_par2 ?_ | refine WS_par3 ?_ | refine WE_rg1 ?_ | refine WE_rg2 ?_ | refine WE_items ?_ | refine WE_enum ?_ | refine WE_zip ?_ | refine WE_revd ?_ | refine WE_callG ?_ | refine WS_put ?_ | refine WS_app ?_ | refine WE_pix ?_ | refine WE_sl ?_ | refine WE_p0 ?_ | refine WE_p1 ?_ | refine WE_true ?_ | refine WS_asg ?_) | ((with_reducible apply WE_var); (case h => exact rfl))
      | ((with_reducible refine And.intro ?_ ?_); (with_reducible first | exact ff1 | exact ff2 | exact ff3 | exact ff4 | exact ff5 | fail); (intro _))
      | ((with_reducible refine And.intro ?_ ?_); rotate_left; (with_reducible first | exact tt1 | exact tt2 | exact tt3 | exact tt4 | exact tt5 | fail); (intro _))
      | ((with_reducible apply Exists.intro); (with_reducible apply And.intro); first | ((with_reducible (first | show addT (.int _) (.int _) = some _ | show subT (.int _) (.int _) = some _ | show negT (.int _) = some _ | show ltT (.int _) (.int _) = some _ | show leT (.int _) (.int _) = some _ | show gtT (.int _) (.int _) = some _ | show geT (.int _) (.int _) = some _ | show intT [.int _] = some _ | show max2T [.int _, .int _] = some _ | show min2T [.int _, .int _] = some _ | show absT [.int _] = some _ | show eqT (.int _) (.int _) = some _ | show neT (.int _) (.int _) = some _ | show T.bl _ = T.bl _)); exact rfl) | ((with_reducible (first | show isiT _ _ = some _ | show isT _ _ = some _ | show isNT _ _ = some _ | show isisT _ _ = some _)); first | exact (rfl : _ = some (T.bl true)) | exact (rfl : _ = some (T.bl false)) | exact rfl) | fail)
      | fail)
    refine ⟨_, e2 i _ hx, ?_⟩
    repeat' (first
      | with_reducible (first | refine WS_seq ?_ | refine WS_set ?_ | refine WS_ret ?_ | refine WS_if ?_ | refine WS_drop ?_ | refine WS_nx ?_ | refine WE_bin ?_ | refine WE_cons ?_ | refine WE_nil ?_ | refine WE_k ?_ | refine WE_app ?_ | refine WE_un ?_ | refine WE_B ?_ | refine WE_notC ?_ | refine WE_call ?_ | refine WE_callK ?_ | refine WE_lst ?_ | refine WE_tup ?_ | refine WE_chain ?_ | refine WE_andV ?_ | refine WE_orV ?_ | refine WE_notV ?_ | refine WE_andC ?_ | refine WE_orC ?_ | refine WE_if ?_ | refine WS_par2 ?_ | refine WS_par3 ?_ | refine WE_rg1 ?_ | refine WE_rg2 ?_ | refine WE_items ?_ | refine WE_enum ?_ | refine WE_zip ?_ | refine WE_revd ?_ | refine WE_callG ?_ | refine WS_put ?_ | refine WS_app ?_ | refine WE_pix ?_ | refine WE_sl ?_ | refine WE_p0 ?_ | refine WE_p1 ?_ | refine WE_true ?_ | refine WS_asg ?_) | ((with_reducible apply WE_var); (case h => exact rfl))
      | ((with_reducible refine And.intro ?_ ?_); (with_reducible first | exact ff1 | exact ff2 | exact ff3 | exact ff4 | exact ff5 | fail); (intro _))
      | ((with_reducible refine And.intro ?_ ?_); rotate_left; (with_reducible first | exact tt1 | exact tt2 | exact tt3 | exact tt4 | exact tt5 | fail); (intro _))
      | ((with_reducible apply Exists.intro); (with_reducible apply And.intro); first | ((with_reducible (first | show addT (.int _) (.int _) = some _ | show subT (.int _) (.int _) = some _ | show negT (.int _) = some _ | show ltT (.int _) (.int _) = some _ | show leT (.int _) (.int _) = some _ | show gtT (.int _) (.int _) = some _ | show geT (.int _) (.int _) = some _ | show intT [.int _] = some _ | show max2T [.int _, .int _] = some _ | show min2T [.int _, .int _] = some _ | show absT [.int _] = some _ | show eqT (.int _) (.int _) = some _ | show neT (.int _) (.int _) = some _ | show T.bl _ = T.bl _)); exact rfl) | ((with_reducible (first | show isiT _ _ = some _ | show isT _ _ = some _ | show isNT _ _ = some _ | show isisT _ _ = some _)); first | exact (rfl : _ = some (T.bl true)) | exact (rfl : _ = some (T.bl false)) | exact rfl) | fail)
      | fail)
    refine ⟨_, e2 i _ hx, ?_⟩
    repeat' (first
      | with_reducible (first | refine WS_seq ?_ | refine WS_set ?_ | refine WS_ret ?_ | refine WS_if ?_ | refine WS_drop ?_ | refine WS_nx ?_ | refine WE_bin ?_ | refine WE_cons ?_ | refine WE_nil ?_ | refine WE_k ?_ | refine WE_app ?_ | refine WE_un ?_ | refine WE_B ?_ | refine WE_notC ?_ | refine WE_call ?_ | refine WE_callK ?_ | refine WE_lst ?_ | refine WE_tup ?_ | refine WE_chain ?_ | refine WE_andV ?_ | refine WE_orV ?_ | refine WE_notV ?_ | refine WE_andC ?_ | refine WE_orC ?_ | refine WE_if ?_ | refine WS_par2 ?_ | refine WS_par3 ?_ | refine WE_rg1 ?_ | refine WE_rg2 ?_ | refine WE_items ?_ | refine WE_enum ?_ | refine WE_zip ?_ | refine WE_revd ?_ | refine WE_callG ?_ | refine WS_put ?_ | refine WS_app ?_ | refine WE_pix ?_ | refine WE_sl ?_ | refine WE_p0 ?_ | refine WE_p1 ?_ | refine WE_true ?_ | refine WS_asg ?_) | ((with_reducible apply WE_var); (case h => exact rfl))
      | ((with_reducible refine And.intro ?_ ?_); (with_reducible first | exact ff1 | exact ff2 | exact ff3 | exact ff4 | exact ff5 | fail); (intro _))
      | ((with_reducible refine And.intro ?_ ?_); rotate_left; (with_reducible first | exact tt1 | exact tt2 | exact tt3 | exact tt4 | exact tt5 | fail); (intro _))
      | ((with_reducible apply Exists.intro); (with_reducible apply And.intro); first | ((with_reducible (first | show addT (.int _) (.int _) = some _ | show subT (.int _) (.int _) = some _ | show negT (.int _) = some _ | show ltT (.int _) (.int _) = some _ | show leT (.int _) (.int _) = some _ | show gtT (.int _) (.int _) = some _ | show geT (.int _) (.int _) = some _ | show intT [.int _] = some _ | show max2T [.int _, .int _] = some _ | show min2T [.int _, .int _] = some _ | show absT [.int _] = some _ | show eqT (.int _) (.int _) = some _ | show neT (.int _) (.int _) = some _ | show T.bl _ = T.bl _)); exact rfl) | ((with_reducible (first | show isiT _ _ = some _ | show isT _ _ = some _ | show isNT _ _ = some _ | show isisT _ _ = some _)); first | exact (rfl : _ = some (T.bl true)) | exact (rfl : _ = some (T.bl false)) | exact rfl) | fail)
      | fail)
    rw [ih _ (List.getElem_mem _)]
    exact ⟨true, rfl, rfl, fun _ => rfl, fun h => nomatch h⟩
  · have hf : ∀ l : List T, List.map (fun t => t) (List.filter (fun _ => false) l) = [] := fun l => by simp
    rw [hf]
    repeat' (first
      | with_reducible (first | refine WS_seq ?_ | refine WS_set ?_ | refine WS_ret ?_ | refine WS_if ?_ | refine WS_drop ?_ | refine WS_nx ?_ | refine WE_bin ?_ | refine WE_cons ?_ | refine WE_nil ?_ | refine WE_k ?_ | refine WE_app ?_ | refine WE_un ?_ | refine WE_B ?_ | refine WE_notC ?_ | refine WE_call ?_ | refine WE_callK ?_ | refine WE_lst ?_ | refine WE_tup ?_ | refine WE_chain ?_ | refine WE_andV ?_ | refine WE_orV ?_ | refine WE_notV ?_ | refine WE_andC ?_ | refine WE_orC ?_ | refine WE_if ?_ | refine WS_par2 ?_ | refine WS_par3 ?_ | refine WE_rg1 ?_ | refine WE_rg2 ?_ | refine WE_items ?_ | refine WE_enum ?_ | refine WE_zip ?_ | refine WE_revd ?_ | refine WE_callG ?_ | refine WS_put ?_ | refine WS_app ?_ | refine WE_pix ?_ | refine WE_sl ?_ | refine WE_p0 ?_ | refine WE_p1 ?_ | refine WE_true ?_ | refine WS_asg ?_) | ((with_reducible apply WE_var); (case h => exact rfl))
      | ((with_reducible refine And.intro ?_ ?_); (with_reducible first | exact ff1 | exact ff2 | exact ff3 | exact ff4 | exact ff5 | fail); (intro _))
      | ((with_reducible refine And.intro ?_ ?_); rotate_left; (with_reducible first | exact tt1 | exact tt2 | exact tt3 | exact tt4 | exact tt5 | fail); (intro _))
      | ((with_reducible apply Exists.intro); (with_reducible apply And.intro); first | ((with_reducible (first | show addT (.int _) (.int _) = some _ | show subT (.int _) (.int _) = some _ | show negT (.int _) = some _ | show ltT (.int _) (.int _) = some _ | show leT (.int _) (.int _) = some _ | show gtT (.int _) (.int _) = some _ | show geT (.int _) (.int _) = some _ | show intT [.int _] = some _ | show max2T [.int _, .int _] = some _ | show min2T [.int _, .int _] = some _ | show absT [.int _] = some _ | show eqT (.int _) (.int _) = some _ | show neT (.int _) (.int _) = some _ | show T.bl _ = T.bl _)); exact rfl) | ((with_reducible (first | show isiT _ _ = some _ | show isT _ _ = some _ | show isNT _ _ = some _ | show isisT _ _ = some _)); first | exact (rfl : _ = some (T.bl true)) | exact (rfl : _ = some (T.bl false)) | exact rfl) | fail)
      | fail)
    exact ⟨by show 0 ≤ LIM; decide, _, rfl, rfl, trivial⟩
theorem sameq_tup {xs : List T} {k : Nat} (hl : xs.length < 1000000) (ih : ∀ x ∈ xs, cm_law_same k [x, x] = .ok (.bl true) []) : cm_law_same (k + 1) [.tup xs, .tup xs] = .ok (.bl true) [] := by
  have hL : xs.length ≤ LIM := Nat.le_of_lt hl
  have e1 : lenT [.tup xs] = some (.int xs.length) := by simp only [lenT, hL, if_true]
  have e2 : ∀ i : Nat, ∀ x, xs[i]? = some x → ixT (.tup xs) (.int (i : Int)) = some x := fun i x hx => atI_nat hx
  refine WR.eq (WR_fn ?_)
  try simp only [List.map_cons, List.map_nil, List.cons_append, List.nil_append, List.length_cons, List.length_nil, Nat.zero_add, Nat.reduceAdd, Nat.reduceSub, Nat.sub_self, List.replicate_zero, List.replicate_succ, List.append_nil, List.set_cons_zero, List.set_cons_succ]
  repeat' (first
      | with_reducible (first | refine WS_seq ?_ | refine WS_set ?_ | refine WS_ret ?_ | refine WS_if ?_ | refine WS_drop ?_ | refine WS_nx ?_ | refine WE_bin ?_ | refine WE_cons ?_ | refine WE_nil ?_ | refine WE_k ?_ | refine WE_app ?_ | refine WE_un ?_ | refine WE_B ?_ | refine WE_notC ?_ | refine WE_call ?_ | refine WE_callK ?_ | refine WE_lst ?_ | refine WE_tup ?_ | refine WE_chain ?_ | refine WE_andV ?_ | refine WE_orV ?_ | refine WE_notV ?_ | refine WE_andC ?_ | refine WE_orC ?_ | refine WE_if ?_ | refine WS_par2 ?_ | refine WS_par3 ?_ | refine WE_rg1 ?_ | refine WE_rg2 ?_ | refine WE_items ?_ | refine WE_enum ?_ | refine WE_zip ?_ | refine WE_revd ?_ | refine WE_callG ?_ | refine WS_put ?_ | refine WS_app ?_ | refine WE_pix ?_ | refine WE_sl ?_ | refine WE_p0 ?_ | refine WE_p1 ?_ | refine WE_true ?_ | refine WS_asg ?_) | ((with_reducible apply WE_var); (case h => exact rfl))
      | ((with_reducible refine And.intro ?_ ?_); (with_reducible first | exact ff1 | exact ff2 | exact ff3 | exact ff4 | exact ff5 | fail); (intro _))
      | ((with_reducible refine And.intro ?_ ?_); rotate_left; (with_reducible first | exact tt1 | exact tt2 | exact tt3 | exact tt4 | exact tt5 | fail); (intro _))
      | ((with_reducible apply Exists.intro); (with_reducible apply And.intro); first | ((with_reducible (first | show addT (.int _) (.int _) = some _ | show subT (.int _) (.int _) = some _ | show negT (.int _) = some _ | show ltT (.int _) (.int _) = some _ | show leT (.int _) (.int _) = some _ | show gtT (.int _) (.int _) = some _ | show geT (.int _) (.int _) = some _ | show intT [.int _] = some _ | show max2T [.int _, .int _] = some _ | show min2T [.int _, .int _] = some _ | show absT [.int _] = some _ | show eqT (.int _) (.int _) = some _ | show neT (.int _) (.int _) = some _ | show T.bl _ = T.bl _)); exact rfl) | ((with_reducible (first | show isiT _ _ = some _ | show isT _ _ = some _ | show isNT _ _ = some _ | show isisT _ _ = some _)); first | exact (rfl : _ = some (T.bl true)) | exact (rfl : _ = some (T.bl false)) | exact rfl) | fail)
      | fail)
  refine ⟨_, e1, ?_⟩
  repeat' (first
      | with_reducible (first | refine WS_seq ?_ | refine WS_set ?_ | refine WS_ret ?_ | refine WS_if ?_ | refine WS_drop ?_ | refine WS_nx ?_ | refine WE_bin ?_ | refine WE_cons ?_ | refine WE_nil ?_ | refine WE_k ?_ | refine WE_app ?_ | refine WE_un ?_ | refine WE_B ?_ | refine WE_notC ?_ | refine WE_call ?_ | refine WE_callK ?_ | refine WE_lst ?_ | refine WE_tup ?_ | refine WE_chain ?_ | refine WE_andV ?_ | refine WE_orV ?_ | refine WE_notV ?_ | refine WE_andC ?_ | refine WE_orC ?_ | refine WE_if ?_ | refine WS_par2 ?_ | refine WS_par3 ?_ | refine WE_rg1 ?_ | refine WE_rg2 ?_ | refine WE_items ?_ | refine WE_enum ?_ | refine WE_zip ?_ | refine WE_revd ?_ | refine WE_callG ?_ | refine WS_put ?_ | refine WS_app ?_ | refine WE_pix ?_ | refine WE_sl ?_ | refine WE_p0 ?_ | refine WE_p1 ?_ | refine WE_true ?_ | refine WS_asg ?_) | ((with_reducible apply WE_var); (case h => exact rfl))
      | ((with_reducible refine And.intro ?_ ?_); (with_reducible first | exact ff1 | exact ff2 | exact ff3 | exact ff4 | exact ff5 | fail); (intro _))
      | ((with_reducible refine And.intro ?_ ?_); rotate_left; (with_reducible first | exact tt1 | exact tt2 | exact tt3 | exact tt4 | exact tt5 | fail); (intro _))
      | ((with_reducible apply Exists.intro); (with_reducible apply And.intro); first | ((with_reducible (first | show addT (.int _) (.int _) = some _ | show subT (.int _) (.int _) = some _ | show negT (.int _) = some _ | show ltT (.int _) (.int _) = some _ | show leT (.int _) (.int _) = some _ | show gtT (.int _) (.int _) = some _ | show geT (.int _) (.int _) = some _ | show intT [.int _] = some _ | show max2T [.int _, .int _] = some _ | show min2T [.int _, .int _] = some _ | show absT [.int _] = some _ | show eqT (.int _) (.int _) = some _ | show neT (.int _) (.int _) = some _ | show T.bl _ = T.bl _)); exact rfl) | ((with_reducible (first | show isiT _ _ = some _ | show isT _ _ = some _ | show isNT _ _ = some _ | show isisT _ _ = some _)); first | exact (rfl : _ = some (T.bl true)) | exact (rfl : _ = some (T.bl false)) | exact rfl) | fail)
      | fail)
  refine ⟨_, e1, ?_⟩
  repeat' (first
      | with_reducible (first | refine WS_seq ?_ | refine WS_set ?_ | refine WS_ret ?_ | refine WS_if ?_ | refine WS_drop ?_ | refine WS_nx ?_ | refine WE_bin ?_ | refine WE_cons ?_ | refine WE_nil ?_ | refine WE_k ?_ | refine WE_app ?_ | refine WE_un ?_ | refine WE_B ?_ | refine WE_notC ?_ | refine WE_call ?_ | refine WE_callK ?_ | refine WE_lst ?_ | refine WE_tup ?_ | refine WE_chain ?_ | refine WE_andV ?_ | refine WE_orV ?_ | refine WE_notV ?_ | refine WE_andC ?_ | refine WE_orC ?_ | refine WE_if ?_ | refine WS_par2 ?_ | refine WS_par3 ?_ | refine WE_rg1 ?_ | refine WE_rg2 ?_ | refine WE_items ?_ | refine WE_enum ?_ | refine WE_zip ?_ | refine WE_revd ?_ | refine WE_callG ?_ | refine WS_put ?_ | refine WS_app ?_ | refine WE_pix ?_ | refine WE_sl ?_ | refine WE_p0 ?_ | refine WE_p1 ?_ | refine WE_true ?_ | refine WS_asg ?_) | ((with_reducible apply WE_var); (case h => exact rfl))
      | ((with_reducible refine And.intro ?_ ?_); (with_reducible first | exact ff1 | exact ff2 | exact ff3 | exact ff4 | exact ff5 | fail); (intro _))
      | ((with_reducible refine And.intro ?_ ?_); rotate_left; (with_reducible first | exact tt1 | exact tt2 | exact tt3 | exact tt4 | exact tt5 | fail); (intro _))
      | ((with_reducible apply Exists.intro); (with_reducible apply And.intro); first | ((with_reducible (first | show addT (.int _) (.int _) = some _ | show subT (.int _) (.int _) = some _ | show negT (.int _) = some _ | show ltT (.int _) (.int _) = some _ | show leT (.int _) (.int _) = some _ | show gtT (.int _) (.int _) = some _ | show geT (.int _) (.int _) = some _ | show intT [.int _] = some _ | show max2T [.int _, .int _] = some _ | show min2T [.int _, .int _] = some _ | show absT [.int _] = some _ | show eqT (.int _) (.int _) = some _ | show neT (.int _) (.int _) = some _ | show T.bl _ = T.bl _)); exact rfl) | ((with_reducible (first | show isiT _ _ = some _ | show isT _ _ = some _ | show isNT _ _ = some _ | show isisT _ _ = some _)); first | exact (rfl : _ = some (T.bl true)) | exact (rfl : _ = some (T.bl false)) | exact rfl) | fail)
      | fail)
  refine ⟨fun _ => ?_, fun h => by simp [eqB] at h⟩
  refine WE_bin ?_
  refine WE_lc (fun _ => false) (fun t => t) ?_
  repeat' (first
      | with_reducible (first | refine WS_seq ?_ | refine WS_set ?_ | refine WS_ret ?_ | refine WS_if ?_ | refine WS_drop ?_ | refine WS_nx ?_ | refine WE_bin ?_ | refine WE_cons ?_ | refine WE_nil ?_ | refine WE_k ?_ | refine WE_app ?_ | refine WE_un ?_ | refine WE_B ?_ | refine WE_notC ?_ | refine WE_call ?_ | refine WE_callK ?_ | refine WE_lst ?_ | refine WE_tup ?_ | refine WE_chain ?_ | refine WE_andV ?_ | refine WE_orV ?_ | refine WE_notV ?_ | refine WE_andC ?_ | refine WE_orC ?_ | refine WE_if ?_ | refine WS_par2 ?_ | refine WS_par3 ?_ | refine WE_rg1 ?_ | refine WE_rg2 ?_ | refine WE_items ?_ | refine WE_enum ?_ | refine WE_zip ?_ | refine WE_revd ?_ | refine WE_callG ?_ | refine WS_put ?_ | refine WS_app ?_ | refine WE_pix ?_ | refine WE_sl ?_ | refine WE_p0 ?_ | refine WE_p1 ?_ | refine WE_true ?_ | refine WS_asg ?_) | ((with_reducible apply WE_var); (case h => exact rfl))
      | ((with_reducible refine And.intro ?_ ?_); (with_reducible first | exact ff1 | exact ff2 | exact ff3 | exact ff4 | exact ff5 | fail); (intro _))
      | ((with_reducible refine And.intro ?_ ?_); rotate_left; (with_reducible first | exact tt1 | exact tt2 | exact tt3 | exact tt4 | exact tt5 | fail); (intro _))
      | ((with_reducible apply Exists.intro); (with_reducible apply And.intro); first | ((with_reducible (first | show addT (.int _) (.int _) = some _ | show subT (.int _) (.int _) = some _ | show negT (.int _) = some _ | show ltT (.int _) (.int _) = some _ | show leT (.int _) (.int _) = some _ | show gtT (.int _) (.int _) = some _ | show geT (.int _) (.int _) = some _ | show intT [.int _] = some _ | show max2T [.int _, .int _] = some _ | show min2T [.int _, .int _] = some _ | show absT [.int _] = some _ | show eqT (.int _) (.int _) = some _ | show neT (.int _) (.int _) = some _ | show T.bl _ = T.bl _)); exact rfl) | ((with_reducible (first | show isiT _ _ = some _ | show isT _ _ = some _ | show isNT _ _ = some _ | show isisT _ _ = some _)); first | exact (rfl : _ = some (T.bl true)) | exact (rfl : _ = some (T.bl false)) | exact rfl) | fail)
      | fail)
  refine ⟨_, e1, ?_⟩
  repeat' (first
      | with_reducible (first | refine WS_seq ?_ | refine WS_set ?_ | refine WS_ret ?_ | refine WS_if ?_ | refine WS_drop ?_ | refine WS_nx ?_ | refine WE_bin ?_ | refine WE_cons ?_ | refine WE_nil ?_ | refine WE_k ?_ | refine WE_app ?_ | refine WE_un ?_ | refine WE_B ?_ | refine WE_notC ?_ | refine WE_call ?_ | refine WE_callK ?_ | refine WE_lst ?_ | refine WE_tup ?_ | refine WE_chain ?_ | refine WE_andV ?_ | refine WE_orV ?_ | refine WE_notV ?_ | refine WE_andC ?_ | refine WE_orC ?_ | refine WE_if ?_ | refine WS_par2 ?_ | refine WS_par3 ?_ | refine WE_rg1 ?_ | refine WE_rg2 ?_ | refine WE_items ?_ | refine WE_enum ?_ | refine WE_zip ?_ | refine WE_revd ?_ | refine WE_callG ?_ | refine WS_put ?_ | refine WS_app ?_ | refine WE_pix ?_ | refine WE_sl ?_ | refine WE_p0 ?_ | refine WE_p1 ?_ | refine WE_true ?_ | refine WS_asg ?_) | ((with_reducible apply WE_var); (case h => exact rfl))
      | ((with_reducible refine And.intro ?_ ?_); (with_reducible first | exact ff1 | exact ff2 | exact ff3 | exact ff4 | exact ff5 | fail); (intro _))
      | ((with_reducible refine And.intro ?_ ?_); rotate_left; (with_reducible first | exact tt1 | exact tt2 | exact tt3 | exact tt4 | exact tt5 | fail); (intro _))
      | ((with_reducible apply Exists.intro); (with_reducible apply And.intro); first | ((with_reducible (first | show addT (.int _) (.int _) = some _ | show subT (.int _) (.int _) = some _ | show negT (.int _) = some _ | show ltT (.int _) (.int _) = some _ | show leT (.int _) (.int _) = some _ | show gtT (.int _) (.int _) = some _ | show geT (.int _) (.int _) = some _ | show intT [.int _] = some _ | show max2T [.int _, .int _] = some _ | show min2T [.int _, .int _] = some _ | show absT [.int _] = some _ | show eqT (.int _) (.int _) = some _ | show neT (.int _) (.int _) = some _ | show T.bl _ = T.bl _)); exact rfl) | ((with_reducible (first | show isiT _ _ = some _ | show isT _ _ = some _ | show isNT _ _ = some _ | show isisT _ _ = some _)); first | exact (rfl : _ = some (T.bl true)) | exact (rfl : _ = some (T.bl false)) | exact rfl) | fail)
      | fail)
  refine ⟨_, rfl, lim62_of (by omega) (by omega), by unfold rangeT; rw [List.length_map, List.length_range]; omega, (fun k hk => by rw [List.mem_singleton.mp hk]; show 2 < 3; decide), fun u hu => ⟨_, rfl, ?_⟩, ?_⟩
  · unfold rangeT at hu
    obtain ⟨i, hi, rfl⟩ := List.mem_map.mp hu
    have hi := List.mem_range.mp hi
    have hx : xs[i]? = some xs[i] := List.getElem?_eq_getElem (by omega)
    rw [Int.zero_add]
    repeat' (first
      | with_reducible (first | refine WS_seq ?_ | refine WS_set ?_ | refine WS_ret ?_ | refine WS_if ?_ | refine WS_drop ?_ | refine WS_nx ?_ | refine WE_bin ?_ | refine WE_cons ?_ | refine WE_nil ?_ | refine WE_k ?_ | refine WE_app ?_ | refine WE_un ?_ | refine WE_B ?_ | refine WE_notC ?_ | refine WE_call ?_ | refine WE_callK ?_ | refine WE_lst ?_ | refine WE_tup ?_ | refine WE_chain ?_ | refine WE_andV ?_ | refine WE_orV ?_ | refine WE_notV ?_ | refine WE_andC ?_ | refine WE_orC ?_ | refine WE_if ?_ | refine WS_par2 ?_ | refine WS_par3 ?_ | refine WE_rg1 ?_ | refine WE_rg2 ?_ | refine WE_items ?_ | refine WE_enum ?_ | refine WE_zip ?_ | refine WE_revd ?_ | refine WE_callG ?_ | refine WS_put ?_ | refine WS_app ?_ | refine WE_pix ?_ | refine WE_sl ?_ | refine WE_p0 ?_ | refine WE_p1 ?_ | refine WE_true ?_ | refine WS_asg ?_) | ((with_reducible apply WE_var); (case h => exact rfl))
      | ((with_reducible refine And.intro ?_ ?_); (with_reducible first | exact ff1 | exact ff2 | exact ff3 | exact ff4 | exact ff5 | fail); (intro _))
      | ((with_reducible refine And.intro ?_ ?_); rotate_left; (with_reducible first | exact tt1 | exact tt2 | exact tt3 | exact tt4 | exact tt5 | fail); (intro _))
      | ((with_reducible apply Exists.intro); (with_reducible apply And.intro); first | ((with_reducible (first | show addT (.int _) (.int _) = some _ | show subT (.int _) (.int _) = some _ | show negT (.int _) = some _ | show ltT (.int _) (.int _) = some _ | show leT (.int _) (.int _) = some _ | show gtT (.int _) (.int _) = some _ | show geT (.int _) (.int _) = some _ | show intT [.int _] = some _ | show max2T [.int _, .int _] = some _ | show min2T [.int _, .int _] = some _ | show absT [.int _] = some _ | show eqT (.int _) (.int _) = some _ | show neT (.int _) (.int _) = some _ | show T.bl _ = T.bl _)); exact rfl) | ((with_reducible (first | show isiT _ _ = some _ | show isT _ _ = some _ | show isNT _ _ = some _ | show isisT _ _ = some _)); first | exact (rfl : _ = some (T.bl true)) | exact (rfl : _ = some (T.bl false)) | exact rfl) | fail)
      | fail)
    refine ⟨_, e2 i _ hx, ?_⟩
    repeat' (first
      | with_reducible (first | refine WS_seq ?_ | refine WS_set ?_ | refine WS_ret ?_ | refine WS_if ?_ | refine WS_drop ?_ | refine WS_nx ?_ | refine WE_bin ?_ | refine WE_cons ?_ | refine WE_nil ?_ | refine WE_k ?_ | refine WE_app ?_ | refine WE_un ?_ | refine WE_B ?_ | refine WE_notC ?_ | refine WE_call ?_ | refine WE_callK ?_ | refine WE_lst ?_ | refine WE_tup ?_ | refine WE_chain ?_ | refine WE_andV ?_ | refine WE_orV ?_ | refine WE_notV ?_ | refine WE_andC ?_ | refine WE_orC ?_ | refine WE_if ?_ | refine WS_par2 ?_ | refine WS_par3 ?_ | refine WE_rg1 ?_ | refine WE_rg2 ?_ | refine WE_items ?_ | refine WE_enum ?_ | refine WE_zip ?_ | refine WE_revd ?_ | refine WE_callG ?_ | refine WS_put ?_ | refine WS_app ?_ | refine WE_pix ?_ | refine WE_sl ?_ | refine WE_p0 ?_ | refine WE_p1 ?_ | refine WE_true ?_ | refine WS_asg ?_) | ((with_reducible apply WE_var); (case h => exact rfl))
      | ((with_reducible refine And.intro ?_ ?_); (with_reducible first | exact ff1 | exact ff2 | exact ff3 | exact ff4 | exact ff5 | fail); (intro _))
      | ((with_reducible refine And.intro ?_ ?_); rotate_left; (with_reducible first | exact tt1 | exact tt2 | exact tt3 | exact tt4 | exact tt5 | fail); (intro _))
      | ((with_reducible apply Exists.intro); (with_reducible apply And.intro); first | ((with_reducible (first | show addT (.int _) (.int _) = some _ | show subT (.int _) (.int _) = some _ | show negT (.int _) = some _ | show ltT (.int _) (.int _) = some _ | show leT (.int _) (.int _) = some _ | show gtT (.int _) (.int _) = some _ | show geT (.int _) (.int _) = some _ | show intT [.int _] = some _ | show max2T [.int _, .int _] = some _ | show min2T [.int _, .int _] = some _ | show absT [.int _] = some _ | show eqT (.int _) (.int _) = some _ | show neT (.int _) (.int _) = some _ | show T.bl _ = T.bl _)); exact rfl) | ((with_reducible (first | show isiT _ _ = some _ | show isT _ _ = some _ | show isNT _ _ = some _ | show isisT _ _ = some _)); first | exact (rfl : _ = some (T.bl true)) | exact (rfl : _ = some (T.bl false)) | exact rfl) | fail)
      | fail)
    refine ⟨_, e2 i _ hx, ?_⟩
    repeat' (first
      | with_reducible (first | refine WS_seq ?_ | refine WS_set ?_ | refine WS_ret ?_ | refine WS_if ?_ | refine WS_drop ?_ | refine WS_nx ?_ | refine WE_bin ?_ | refine WE_cons ?_ | refine WE_nil ?_ | refine WE_k ?_ | refine WE_app ?_ | refine WE_un ?_ | refine WE_B ?_ | refine WE_notC ?_ | refine WE_call ?_ | refine WE_callK ?_ | refine WE_lst ?_ | refine WE_tup ?_ | refine WE_chain ?_ | refine WE_andV ?_ | refine WE_orV ?_ | refine WE_notV ?_ | refine WE_andC ?_ | refine WE_orC ?_ | refine WE_if ?_ | refine WS_par2 ?_ | refine WS_par3 ?_ | refine WE_rg1 ?_ | refine WE_rg2 ?_ | refine WE_items ?_ | refine WE_enum ?_ | refine WE_zip ?_ | refine WE_revd ?_ | refine WE_callG ?_ | refine WS_put ?_ | refine WS_app ?_ | refine WE_pix ?_ | refine WE_sl ?_ | refine WE_p0 ?_ | refine WE_p1 ?_ | refine WE_true ?_ | refine WS_asg ?_) | ((with_reducible apply WE_var); (case h => exact rfl))
      | ((with_reducible refine And.intro ?_ ?_); (with_reducible first | exact ff1 | exact ff2 | exact ff3 | exact ff4 | exact ff5 | fail); (intro _))
      | ((with_reducible refine And.intro ?_ ?_); rotate_left; (with_reducible first | exact tt1 | exact tt2 | exact tt3 | exact tt4 | exact tt5 | fail); (intro _))
      | ((with_reducible apply Exists.intro); (with_reducible apply And.intro); first | ((with_reducible (first | show addT (.int _) (.int _) = some _ | show subT (.int _) (.int _) = some _ | show negT (.int _) = some _ | show ltT (.int _) (.int _) = some _ | show leT (.int _) (.int _) = some _ | show gtT (.int _) (.int _) = some _ | show geT (.int _) (.int _) = some _ | show intT [.int _] = some _ | show max2T [.int _, .int _] = some _ | show min2T [.int _, .int _] = some _ | show absT [.int _] = some _ | show eqT (.int _) (.int _) = some _ | show neT (.int _) (.int _) = some _ | show T.bl _ = T.bl _)); exact rfl) | ((with_reducible (first | show isiT _ _ = some _ | show isT _ _ = some _ | show isNT _ _ = some _ | show isisT _ _ = some _)); first | exact (rfl : _ = some (T.bl true)) | exact (rfl : _ = some (T.bl false)) | exact rfl) | fail)
      | fail)
    rw [ih _ (List.getElem_mem _)]
    exact ⟨true, rfl, rfl, fun _ => rfl, fun h => nomatch h⟩
  · have hf : ∀ l : List T, List.map (fun t => t) (List.filter (fun _ => false) l) = [] := fun l => by simp
    rw [hf]
    repeat' (first
      | with_reducible (first | refine WS_seq ?_ | refine WS_set ?_ | refine WS_ret ?_ | refine WS_if ?_ | refine WS_drop ?_ | refine WS_nx ?_ | refine WE_bin ?_ | refine WE_cons ?_ | refine WE_nil ?_ | refine WE_k ?_ | refine WE_app ?_ | refine WE_un ?_ | refine WE_B ?_ | refine WE_notC ?_ | refine WE_call ?_ | refine WE_callK ?_ | refine WE_lst ?_ | refine WE_tup ?_ | refine WE_chain ?_ | refine WE_andV ?_ | refine WE_orV ?_ | refine WE_notV ?_ | refine WE_andC ?_ | refine WE_orC ?_ | refine WE_if ?_ | refine WS_par2 ?_ | refine WS_par3 ?_ | refine WE_rg1 ?_ | refine WE_rg2 ?_ | refine WE_items ?_ | refine WE_enum ?_ | refine WE_zip ?_ | refine WE_revd ?_ | refine WE_callG ?_ | refine WS_put ?_ | refine WS_app ?_ | refine WE_pix ?_ | refine WE_sl ?_ | refine WE_p0 ?_ | refine WE_p1 ?_ | refine WE_true ?_ | refine WS_asg ?_) | ((with_reducible apply WE_var); (case h => exact rfl))
      | ((with_reducible refine And.intro ?_ ?_); (with_reducible first | exact ff1 | exact ff2 | exact ff3 | exact ff4 | exact ff5 | fail); (intro _))
      | ((with_reducible refine And.intro ?_ ?_); rotate_left; (with_reducible first | exact tt1 | exact tt2 | exact tt3 | exact tt4 | exact tt5 | fail); (intro _))
      | ((with_reducible apply Exists.intro); (with_reducible apply And.intro); first | ((with_reducible (first | show addT (.int _) (.int _) = some _ | show subT (.int _) (.int _) = some _ | show negT (.int _) = some _ | show ltT (.int _) (.int _) = some _ | show leT (.int _) (.int _) = some _ | show gtT (.int _) (.int _) = some _ | show geT (.int _) (.int _) = some _ | show intT [.int _] = some _ | show max2T [.int _, .int _] = some _ | show min2T [.int _, .int _] = some _ | show absT [.int _] = some _ | show eqT (.int _) (.int _) = some _ | show neT (.int _) (.int _) = some _ | show T.bl _ = T.bl _)); exact rfl) | ((with_reducible (first | show isiT _ _ = some _ | show isT _ _ = some _ | show isNT _ _ = some _ | show isisT _ _ = some _)); first | exact (rfl : _ = some (T.bl true)) | exact (rfl : _ = some (T.bl false)) | exact rfl) | fail)
      | fail)
    exact ⟨by show 0 ≤ LIM; decide, _, rfl, rfl, trivial⟩
theorem same_refl : ∀ (n : Nat) (t : T), pl n t = true → cm_law_same (n + 1) [t, t] = .ok (.bl true) []
  | n, .non, _ => by
    refine WR.eq (WR_fn ?_)
    try simp only [List.map_cons, List.map_nil, List.cons_append, List.nil_append, List.length_cons, List.length_nil, Nat.zero_add, Nat.reduceAdd, Nat.reduceSub, Nat.sub_self, List.replicate_zero, List.replicate_succ, List.append_nil, List.set_cons_zero, List.set_cons_succ]
    repeat' (first
      | with_reducible (first | refine WS_seq ?_ | refine WS_set ?_ | refine WS_ret ?_ | refine WS_if ?_ | refine WS_drop ?_ | refine WS_nx ?_ | refine WE_bin ?_ | refine WE_cons ?_ | refine WE_nil ?_ | refine WE_k ?_ | refine WE_app ?_ | refine WE_un ?_ | refine WE_B ?_ | refine WE_notC ?_ | refine WE_call ?_ | refine WE_callK ?_ | refine WE_lst ?_ | refine WE_tup ?_ | refine WE_chain ?_ | refine WE_andV ?_ | refine WE_orV ?_ | refine WE_notV ?_ | refine WE_andC ?_ | refine WE_orC ?_ | refine WE_if ?_ | refine WS_par2 ?_ | refine WS_par3 ?_ | refine WE_rg1 ?_ | refine WE_rg2 ?_ | refine WE_items ?_ | refine WE_enum ?_ | refine WE_zip ?_ | refine WE_revd ?_ | refine WE_callG ?_ | refine WS_put ?_ | refine WS_app ?_ | refine WE_pix ?_ | refine WE_sl ?_ | refine WE_p0 ?_ | refine WE_p1 ?_ | refine WE_true ?_ | refine WS_asg ?_) | ((with_reducible apply WE_var); (case h => exact rfl))
      | ((with_reducible refine And.intro ?_ ?_); (with_reducible first | exact ff1 | exact ff2 | exact ff3 | exact ff4 | exact ff5 | fail); (intro _))
      | ((with_reducible refine And.intro ?_ ?_); rotate_left; (with_reducible first | exact tt1 | exact tt2 | exact tt3 | exact tt4 | exact tt5 | fail); (intro _))
      | ((with_reducible apply Exists.intro); (with_reducible apply And.intro); first | ((with_reducible (first | show addT (.int _) (.int _) = some _ | show subT (.int _) (.int _) = some _ | show negT (.int _) = some _ | show ltT (.int _) (.int _) = some _ | show leT (.int _) (.int _) = some _ | show gtT (.int _) (.int _) = some _ | show geT (.int _) (.int _) = some _ | show intT [.int _] = some _ | show max2T [.int _, .int _] = some _ | show min2T [.int _, .int _] = some _ | show absT [.int _] = some _ | show eqT (.int _) (.int _) = some _ | show neT (.int _) (.int _) = some _ | show T.bl _ = T.bl _)); exact rfl) | ((with_reducible (first | show isiT _ _ = some _ | show isT _ _ = some _ | show isNT _ _ = some _ | show isisT _ _ = some _)); first | exact (rfl : _ = some (T.bl true)) | exact (rfl : _ = some (T.bl false)) | exact rfl) | fail)
      | fail)
    exact ⟨rfl, trivial⟩
  | n, .bl b, _ => by
    refine WR.eq (WR_fn ?_)
    try simp only [List.map_cons, List.map_nil, List.cons_append, List.nil_append, List.length_cons, List.length_nil, Nat.zero_add, Nat.reduceAdd, Nat.reduceSub, Nat.sub_self, List.replicate_zero, List.replicate_succ, List.append_nil, List.set_cons_zero, List.set_cons_succ]
    cases b
    · repeat' (first
      | with_reducible (first | refine WS_seq ?_ | refine WS_set ?_ | refine WS_ret ?_ | refine WS_if ?_ | refine WS_drop ?_ | refine WS_nx ?_ | refine WE_bin ?_ | refine WE_cons ?_ | refine WE_nil ?_ | refine WE_k ?_ | refine WE_app ?_ | refine WE_un ?_ | refine WE_B ?_ | refine WE_notC ?_ | refine WE_call ?_ | refine WE_callK ?_ | refine WE_lst ?_ | refine WE_tup ?_ | refine WE_chain ?_ | refine WE_andV ?_ | refine WE_orV ?_ | refine WE_notV ?_ | refine WE_andC ?_ | refine WE_orC ?_ | refine WE_if ?_ | refine WS_par2 ?_ | refine WS_par3 ?_ | refine WE_rg1 ?_ | refine WE_rg2 ?_ | refine WE_items ?_ | refine WE_enum ?_ | refine WE_zip ?_ | refine WE_revd ?_ | refine WE_callG ?_ | refine WS_put ?_ | refine WS_app ?_ | refine WE_pix ?_ | refine WE_sl ?_ | refine WE_p0 ?_ | refine WE_p1 ?_ | refine WE_true ?_ | refine WS_asg ?_) | ((with_reducible apply WE_var); (case h => exact rfl))
      | ((with_reducible refine And.intro ?_ ?_); (with_reducible first | exact ff1 | exact ff2 | exact ff3 | exact ff4 | exact ff5 | fail); (intro _))
      | ((with_reducible refine And.intro ?_ ?_); rotate_left; (with_reducible first | exact tt1 | exact tt2 | exact tt3 | exact tt4 | exact tt5 | fail); (intro _))
      | ((with_reducible apply Exists.intro); (with_reducible apply And.intro); first | ((with_reducible (first | show addT (.int _) (.int _) = some _ | show subT (.int _) (.int _) = some _ | show negT (.int _) = some _ | show ltT (.int _) (.int _) = some _ | show leT (.int _) (.int _) = some _ | show gtT (.int _) (.int _) = some _ | show geT (.int _) (.int _) = some _ | show intT [.int _] = some _ | show max2T [.int _, .int _] = some _ | show min2T [.int _, .int _] = some _ | show absT [.int _] = some _ | show eqT (.int _) (.int _) = some _ | show neT (.int _) (.int _) = some _ | show T.bl _ = T.bl _)); exact rfl) | ((with_reducible (first | show isiT _ _ = some _ | show isT _ _ = some _ | show isNT _ _ = some _ | show isisT _ _ = some _)); first | exact (rfl : _ = some (T.bl true)) | exact (rfl : _ = some (T.bl false)) | exact rfl) | fail)
      | fail)
      exact ⟨rfl, trivial⟩
    · repeat' (first
      | with_reducible (first | refine WS_seq ?_ | refine WS_set ?_ | refine WS_ret ?_ | refine WS_if ?_ | refine WS_drop ?_ | refine WS_nx ?_ | refine WE_bin ?_ | refine WE_cons ?_ | refine WE_nil ?_ | refine WE_k ?_ | refine WE_app ?_ | refine WE_un ?_ | refine WE_B ?_ | refine WE_notC ?_ | refine WE_call ?_ | refine WE_callK ?_ | refine WE_lst ?_ | refine WE_tup ?_ | refine WE_chain ?_ | refine WE_andV ?_ | refine WE_orV ?_ | refine WE_notV ?_ | refine WE_andC ?_ | refine WE_orC ?_ | refine WE_if ?_ | refine WS_par2 ?_ | refine WS_par3 ?_ | refine WE_rg1 ?_ | refine WE_rg2 ?_ | refine WE_items ?_ | refine WE_enum ?_ | refine WE_zip ?_ | refine WE_revd ?_ | refine WE_callG ?_ | refine WS_put ?_ | refine WS_app ?_ | refine WE_pix ?_ | refine WE_sl ?_ | refine WE_p0 ?_ | refine WE_p1 ?_ | refine WE_true ?_ | refine WS_asg ?_) | ((with_reducible apply WE_var); (case h => exact rfl))
      | ((with_reducible refine And.intro ?_ ?_); (with_reducible first | exact ff1 | exact ff2 | exact ff3 | exact ff4 | exact ff5 | fail); (intro _))
      | ((with_reducible refine And.intro ?_ ?_); rotate_left; (with_reducible first | exact tt1 | exact tt2 | exact tt3 | exact tt4 | exact tt5 | fail); (intro _))
      | ((with_reducible apply Exists.intro); (with_reducible apply And.intro); first | ((with_reducible (first | show addT (.int _) (.int _) = some _ | show subT (.int _) (.int _) = some _ | show negT (.int _) = some _ | show ltT (.int _) (.int _) = some _ | show leT (.int _) (.int _) = some _ | show gtT (.int _) (.int _) = some _ | show geT (.int _) (.int _) = some _ | show intT [.int _] = some _ | show max2T [.int _, .int _] = some _ | show min2T [.int _, .int _] = some _ | show absT [.int _] = some _ | show eqT (.int _) (.int _) = some _ | show neT (.int _) (.int _) = some _ | show T.bl _ = T.bl _)); exact rfl) | ((with_reducible (first | show isiT _ _ = some _ | show isT _ _ = some _ | show isNT _ _ = some _ | show isisT _ _ = some _)); first | exact (rfl : _ = some (T.bl true)) | exact (rfl : _ = some (T.bl false)) | exact rfl) | fail)
      | fail)
      exact ⟨rfl, trivial⟩
  | n, .int i, _ => by
    refine WR.eq (WR_fn ?_)
    try simp only [List.map_cons, List.map_nil, List.cons_append, List.nil_append, List.length_cons, List.length_nil, Nat.zero_add, Nat.reduceAdd, Nat.reduceSub, Nat.sub_self, List.replicate_zero, List.replicate_succ, List.append_nil, List.set_cons_zero, List.set_cons_succ]
    repeat' (first
      | with_reducible (first | refine WS_seq ?_ | refine WS_set ?_ | refine WS_ret ?_ | refine WS_if ?_ | refine WS_drop ?_ | refine WS_nx ?_ | refine WE_bin ?_ | refine WE_cons ?_ | refine WE_nil ?_ | refine WE_k ?_ | refine WE_app ?_ | refine WE_un ?_ | refine WE_B ?_ | refine WE_notC ?_ | refine WE_call ?_ | refine WE_callK ?_ | refine WE_lst ?_ | refine WE_tup ?_ | refine WE_chain ?_ | refine WE_andV ?_ | refine WE_orV ?_ | refine WE_notV ?_ | refine WE_andC ?_ | refine WE_orC ?_ | refine WE_if ?_ | refine WS_par2 ?_ | refine WS_par3 ?_ | refine WE_rg1 ?_ | refine WE_rg2 ?_ | refine WE_items ?_ | refine WE_enum ?_ | refine WE_zip ?_ | refine WE_revd ?_ | refine WE_callG ?_ | refine WS_put ?_ | refine WS_app ?_ | refine WE_pix ?_ | refine WE_sl ?_ | refine WE_p0 ?_ | refine WE_p1 ?_ | refine WE_true ?_ | refine WS_asg ?_) | ((with_reducible apply WE_var); (case h => exact rfl))
      | ((with_reducible refine And.intro ?_ ?_); (with_reducible first | exact ff1 | exact ff2 | exact ff3 | exact ff4 | exact ff5 | fail); (intro _))
      | ((with_reducible refine And.intro ?_ ?_); rotate_left; (with_reducible first | exact tt1 | exact tt2 | exact tt3 | exact tt4 | exact tt5 | fail); (intro _))
      | ((with_reducible apply Exists.intro); (with_reducible apply And.intro); first | ((with_reducible (first | show addT (.int _) (.int _) = some _ | show subT (.int _) (.int _) = some _ | show negT (.int _) = some _ | show ltT (.int _) (.int _) = some _ | show leT (.int _) (.int _) = some _ | show gtT (.int _) (.int _) = some _ | show geT (.int _) (.int _) = some _ | show intT [.int _] = some _ | show max2T [.int _, .int _] = some _ | show min2T [.int _, .int _] = some _ | show absT [.int _] = some _ | show eqT (.int _) (.int _) = some _ | show neT (.int _) (.int _) = some _ | show T.bl _ = T.bl _)); exact rfl) | ((with_reducible (first | show isiT _ _ = some _ | show isT _ _ = some _ | show isNT _ _ = some _ | show isisT _ _ = some _)); first | exact (rfl : _ = some (T.bl true)) | exact (rfl : _ = some (T.bl false)) | exact rfl) | fail)
      | fail)
    exact ⟨by simp [eqB], trivial⟩
  | n, .str x, h => by
    have hx : ∀ m, dOk m (.str x) = true := fun m => by
      have : x.cps.all (· < 0x110000) = true := by cases n <;> exact h
      cases m <;> exact this
    refine WR.eq (WR_fn ?_)
    try simp only [List.map_cons, List.map_nil, List.cons_append, List.nil_append, List.length_cons, List.length_nil, Nat.zero_add, Nat.reduceAdd, Nat.reduceSub, Nat.sub_self, List.replicate_zero, List.replicate_succ, List.append_nil, List.set_cons_zero, List.set_cons_succ]
    repeat' (first
      | with_reducible (first | refine WS_seq ?_ | refine WS_set ?_ | refine WS_ret ?_ | refine WS_if ?_ | refine WS_drop ?_ | refine WS_nx ?_ | refine WE_bin ?_ | refine WE_cons ?_ | refine WE_nil ?_ | refine WE_k ?_ | refine WE_app ?_ | refine WE_un ?_ | refine WE_B ?_ | refine WE_notC ?_ | refine WE_call ?_ | refine WE_callK ?_ | refine WE_lst ?_ | refine WE_tup ?_ | refine WE_chain ?_ | refine WE_andV ?_ | refine WE_orV ?_ | refine WE_notV ?_ | refine WE_andC ?_ | refine WE_orC ?_ | refine WE_if ?_ | refine WS_par2 ?_ | refine WS_par3 ?_ | refine WE_rg1 ?_ | refine WE_rg2 ?_ | refine WE_items ?_ | refine WE_enum ?_ | refine WE_zip ?_ | refine WE_revd ?_ | refine WE_callG ?_ | refine WS_put ?_ | refine WS_app ?_ | refine WE_pix ?_ | refine WE_sl ?_ | refine WE_p0 ?_ | refine WE_p1 ?_ | refine WE_true ?_ | refine WS_asg ?_) | ((with_reducible apply WE_var); (case h => exact rfl))
      | ((with_reducible refine And.intro ?_ ?_); (with_reducible first | exact ff1 | exact ff2 | exact ff3 | exact ff4 | exact ff5 | fail); (intro _))
      | ((with_reducible refine And.intro ?_ ?_); rotate_left; (with_reducible first | exact tt1 | exact tt2 | exact tt3 | exact tt4 | exact tt5 | fail); (intro _))
      | ((with_reducible apply Exists.intro); (with_reducible apply And.intro); first | ((with_reducible (first | show addT (.int _) (.int _) = some _ | show subT (.int _) (.int _) = some _ | show negT (.int _) = some _ | show ltT (.int _) (.int _) = some _ | show leT (.int _) (.int _) = some _ | show gtT (.int _) (.int _) = some _ | show geT (.int _) (.int _) = some _ | show intT [.int _] = some _ | show max2T [.int _, .int _] = some _ | show min2T [.int _, .int _] = some _ | show absT [.int _] = some _ | show eqT (.int _) (.int _) = some _ | show neT (.int _) (.int _) = some _ | show T.bl _ = T.bl _)); exact rfl) | ((with_reducible (first | show isiT _ _ = some _ | show isT _ _ = some _ | show isNT _ _ = some _ | show isisT _ _ = some _)); first | exact (rfl : _ = some (T.bl true)) | exact (rfl : _ = some (T.bl false)) | exact rfl) | fail)
      | fail)
    refine ⟨.bl true, ?_, ?_⟩
    · simp only [eqT, hx, Bool.and_true, if_true, eqB, beq_self_eq_true]
    · exact ⟨rfl, trivial⟩
  | n + 1, .lst xs, h => by
    obtain ⟨h1, h2⟩ := Bool.and_eq_true_iff.mp (show (decide (xs.length < 1000000) && xs.all (pl n)) = true from h)
    exact sameq_lst (of_decide_eq_true h1) fun x hx => same_refl n x (List.all_eq_true.mp h2 x hx)
  | n + 1, .tup xs, h => by
    obtain ⟨h1, h2⟩ := Bool.and_eq_true_iff.mp (show (decide (xs.length < 1000000) && xs.all (pl n)) = true from h)
    exact sameq_tup (of_decide_eq_true h1) fun x hx => same_refl n x (List.all_eq_true.mp h2 x hx)
  | 0, .lst xs, h => nomatch h
  | 0, .tup xs, h => nomatch h
  | 0, .emp, h => nomatch h
  | _ + 1, .emp, h => nomatch h
  | 0, .exc _ _, h => nomatch h
  | _ + 1, .exc _ _, h => nomatch h
  | 0, .clo _ _, h => nomatch h
  | _ + 1, .clo _ _, h => nomatch h
  | 0, .ty _, h => nomatch h
  | _ + 1, .ty _, h => nomatch h
  | 0, .cls _, h => nomatch h
  | _ + 1, .cls _, h => nomatch h
/-! ### kinds of numbers -/
theorem whole_ok {i : Int} : cm_is_whole [.int i] = .ok (.bl true) [] := by
  refine WR.eq (WR_fn ?_)
  try simp only [List.map_cons, List.map_nil, List.cons_append, List.nil_append, List.length_cons, List.length_nil, Nat.zero_add, Nat.reduceAdd, Nat.reduceSub, Nat.sub_self, List.replicate_zero, List.replicate_succ, List.append_nil, List.set_cons_zero, List.set_cons_succ]
  repeat' (first
      | with_reducible (first | refine WS_seq ?_ | refine WS_set ?_ | refine WS_ret ?_ | refine WS_if ?_ | refine WS_drop ?_ | refine WS_nx ?_ | refine WE_bin ?_ | refine WE_cons ?_ | refine WE_nil ?_ | refine WE_k ?_ | refine WE_app ?_ | refine WE_un ?_ | refine WE_B ?_ | refine WE_notC ?_ | refine WE_call ?_ | refine WE_callK ?_ | refine WE_lst ?_ | refine WE_tup ?_ | refine WE_chain ?_ | refine WE_andV ?_ | refine WE_orV ?_ | refine WE_notV ?_ | refine WE_andC ?_ | refine WE_orC ?_ | refine WE_if ?_ | refine WS_par2 ?_ | refine WS_par3 ?_ | refine WE_rg1 ?_ | refine WE_rg2 ?_ | refine WE_items ?_ | refine WE_enum ?_ | refine WE_zip ?_ | refine WE_revd ?_ | refine WE_callG ?_ | refine WS_put ?_ | refine WS_app ?_ | refine WE_pix ?_ | refine WE_sl ?_ | refine WE_p0 ?_ | refine WE_p1 ?_ | refine WE_true ?_ | refine WS_asg ?_) | ((with_reducible apply WE_var); (case h => exact rfl))
      | ((with_reducible refine And.intro ?_ ?_); (with_reducible first | exact ff1 | exact ff2 | exact ff3 | exact ff4 | exact ff5 | fail); (intro _))
      | ((with_reducible refine And.intro ?_ ?_); rotate_left; (with_reducible first | exact tt1 | exact tt2 | exact tt3 | exact tt4 | exact tt5 | fail); (intro _))
      | ((with_reducible apply Exists.intro); (with_reducible apply And.intro); first | ((with_reducible (first | show addT (.int _) (.int _) = some _ | show subT (.int _) (.int _) = some _ | show negT (.int _) = some _ | show ltT (.int _) (.int _) = some _ | show leT (.int _) (.int _) = some _ | show gtT (.int _) (.int _) = some _ | show geT (.int _) (.int _) = some _ | show intT [.int _] = some _ | show max2T [.int _, .int _] = some _ | show min2T [.int _, .int _] = some _ | show absT [.int _] = some _ | show eqT (.int _) (.int _) = some _ | show neT (.int _) (.int _) = some _ | show T.bl _ = T.bl _)); exact rfl) | ((with_reducible (first | show isiT _ _ = some _ | show isT _ _ = some _ | show isNT _ _ = some _ | show isisT _ _ = some _)); first | exact (rfl : _ = some (T.bl true)) | exact (rfl : _ = some (T.bl false)) | exact rfl) | fail)
      | fail)
  exact ⟨rfl, trivial⟩
theorem count_ok {i : Int} : cm_is_count [.int i] = .ok (.bl (decide (0 ≤ i))) [] := by
  refine WR.eq (WR_fn ?_)
  try simp only [List.map_cons, List.map_nil, List.cons_append, List.nil_append, List.length_cons, List.length_nil, Nat.zero_add, Nat.reduceAdd, Nat.reduceSub, Nat.sub_self, List.replicate_zero, List.replicate_succ, List.append_nil, List.set_cons_zero, List.set_cons_succ]
  repeat' (first
      | with_reducible (first | refine WS_seq ?_ | refine WS_set ?_ | refine WS_ret ?_ | refine WS_if ?_ | refine WS_drop ?_ | refine WS_nx ?_ | refine WE_bin ?_ | refine WE_cons ?_ | refine WE_nil ?_ | refine WE_k ?_ | refine WE_app ?_ | refine WE_un ?_ | refine WE_B ?_ | refine WE_notC ?_ | refine WE_call ?_ | refine WE_callK ?_ | refine WE_lst ?_ | refine WE_tup ?_ | refine WE_chain ?_ | refine WE_andV ?_ | refine WE_orV ?_ | refine WE_notV ?_ | refine WE_andC ?_ | refine WE_orC ?_ | refine WE_if ?_ | refine WS_par2 ?_ | refine WS_par3 ?_ | refine WE_rg1 ?_ | refine WE_rg2 ?_ | refine WE_items ?_ | refine WE_enum ?_ | refine WE_zip ?_ | refine WE_revd ?_ | refine WE_callG ?_ | refine WS_put ?_ | refine WS_app ?_ | refine WE_pix ?_ | refine WE_sl ?_ | refine WE_p0 ?_ | refine WE_p1 ?_ | refine WE_true ?_ | refine WS_asg ?_) | ((with_reducible apply WE_var); (case h => exact rfl))
      | ((with_reducible refine And.intro ?_ ?_); (with_reducible first | exact ff1 | exact ff2 | exact ff3 | exact ff4 | exact ff5 | fail); (intro _))
      | ((with_reducible refine And.intro ?_ ?_); rotate_left; (with_reducible first | exact tt1 | exact tt2 | exact tt3 | exact tt4 | exact tt5 | fail); (intro _))
      | ((with_reducible apply Exists.intro); (with_reducible apply And.intro); first | ((with_reducible (first | show addT (.int _) (.int _) = some _ | show subT (.int _) (.int _) = some _ | show negT (.int _) = some _ | show ltT (.int _) (.int _) = some _ | show leT (.int _) (.int _) = some _ | show gtT (.int _) (.int _) = some _ | show geT (.int _) (.int _) = some _ | show intT [.int _] = some _ | show max2T [.int _, .int _] = some _ | show min2T [.int _, .int _] = some _ | show absT [.int _] = some _ | show eqT (.int _) (.int _) = some _ | show neT (.int _) (.int _) = some _ | show T.bl _ = T.bl _)); exact rfl) | ((with_reducible (first | show isiT _ _ = some _ | show isT _ _ = some _ | show isNT _ _ = some _ | show isisT _ _ = some _)); first | exact (rfl : _ = some (T.bl true)) | exact (rfl : _ = some (T.bl false)) | exact rfl) | fail)
      | fail)
  rw [whole_ok]
  refine ⟨true, rfl, fun _ => ?_, fun h => nomatch h⟩
  repeat' (first
      | with_reducible (first | refine WS_seq ?_ | refine WS_set ?_ | refine WS_ret ?_ | refine WS_if ?_ | refine WS_drop ?_ | refine WS_nx ?_ | refine WE_bin ?_ | refine WE_cons ?_ | refine WE_nil ?_ | refine WE_k ?_ | refine WE_app ?_ | refine WE_un ?_ | refine WE_B ?_ | refine WE_notC ?_ | refine WE_call ?_ | refine WE_callK ?_ | refine WE_lst ?_ | refine WE_tup ?_ | refine WE_chain ?_ | refine WE_andV ?_ | refine WE_orV ?_ | refine WE_notV ?_ | refine WE_andC ?_ | refine WE_orC ?_ | refine WE_if ?_ | refine WS_par2 ?_ | refine WS_par3 ?_ | refine WE_rg1 ?_ | refine WE_rg2 ?_ | refine WE_items ?_ | refine WE_enum ?_ | refine WE_zip ?_ | refine WE_revd ?_ | refine WE_callG ?_ | refine WS_put ?_ | refine WS_app ?_ | refine WE_pix ?_ | refine WE_sl ?_ | refine WE_p0 ?_ | refine WE_p1 ?_ | refine WE_true ?_ | refine WS_asg ?_) | ((with_reducible apply WE_var); (case h => exact rfl))
      | ((with_reducible refine And.intro ?_ ?_); (with_reducible first | exact ff1 | exact ff2 | exact ff3 | exact ff4 | exact ff5 | fail); (intro _))
      | ((with_reducible refine And.intro ?_ ?_); rotate_left; (with_reducible first | exact tt1 | exact tt2 | exact tt3 | exact tt4 | exact tt5 | fail); (intro _))
      | ((with_reducible apply Exists.intro); (with_reducible apply And.intro); first | ((with_reducible (first | show addT (.int _) (.int _) = some _ | show subT (.int _) (.int _) = some _ | show negT (.int _) = some _ | show ltT (.int _) (.int _) = some _ | show leT (.int _) (.int _) = some _ | show gtT (.int _) (.int _) = some _ | show geT (.int _) (.int _) = some _ | show intT [.int _] = some _ | show max2T [.int _, .int _] = some _ | show min2T [.int _, .int _] = some _ | show absT [.int _] = some _ | show eqT (.int _) (.int _) = some _ | show neT (.int _) (.int _) = some _ | show T.bl _ = T.bl _)); exact rfl) | ((with_reducible (first | show isiT _ _ = some _ | show isT _ _ = some _ | show isNT _ _ = some _ | show isisT _ _ = some _)); first | exact (rfl : _ = some (T.bl true)) | exact (rfl : _ = some (T.bl false)) | exact rfl) | fail)
      | fail)
  exact ⟨rfl, trivial⟩
theorem below_ok {i j : Int} : cm_is_below [.int i, .int j] = .ok (.bl (decide (0 ≤ i ∧ i < j))) [] := by
  refine WR.eq (WR_fn ?_)
  try simp only [List.map_cons, List.map_nil, List.cons_append, List.nil_append, List.length_cons, List.length_nil, Nat.zero_add, Nat.reduceAdd, Nat.reduceSub, Nat.sub_self, List.replicate_zero, List.replicate_succ, List.append_nil, List.set_cons_zero, List.set_cons_succ]
  repeat' (first
      | with_reducible (first | refine WS_seq ?_ | refine WS_set ?_ | refine WS_ret ?_ | refine WS_if ?_ | refine WS_drop ?_ | refine WS_nx ?_ | refine WE_bin ?_ | refine WE_cons ?_ | refine WE_nil ?_ | refine WE_k ?_ | refine WE_app ?_ | refine WE_un ?_ | refine WE_B ?_ | refine WE_notC ?_ | refine WE_call ?_ | refine WE_callK ?_ | refine WE_lst ?_ | refine WE_tup ?_ | refine WE_chain ?_ | refine WE_andV ?_ | refine WE_orV ?_ | refine WE_notV ?_ | refine WE_andC ?_ | refine WE_orC ?_ | refine WE_if ?_ | refine WS_par2 ?_ | refine WS_par3 ?_ | refine WE_rg1 ?_ | refine WE_rg2 ?_ | refine WE_items ?_ | refine WE_enum ?_ | refine WE_zip ?_ | refine WE_revd ?_ | refine WE_callG ?_ | refine WS_put ?_ | refine WS_app ?_ | refine WE_pix ?_ | refine WE_sl ?_ | refine WE_p0 ?_ | refine WE_p1 ?_ | refine WE_true ?_ | refine WS_asg ?_) | ((with_reducible apply WE_var); (case h => exact rfl))
      | ((with_reducible refine And.intro ?_ ?_); (with_reducible first | exact ff1 | exact ff2 | exact ff3 | exact ff4 | exact ff5 | fail); (intro _))
      | ((with_reducible refine And.intro ?_ ?_); rotate_left; (with_reducible first | exact tt1 | exact tt2 | exact tt3 | exact tt4 | exact tt5 | fail); (intro _))
      | ((with_reducible apply Exists.intro); (with_reducible apply And.intro); first | ((with_reducible (first | show addT (.int _) (.int _) = some _ | show subT (.int _) (.int _) = some _ | show negT (.int _) = some _ | show ltT (.int _) (.int _) = some _ | show leT (.int _) (.int _) = some _ | show gtT (.int _) (.int _) = some _ | show geT (.int _) (.int _) = some _ | show intT [.int _] = some _ | show max2T [.int _, .int _] = some _ | show min2T [.int _, .int _] = some _ | show absT [.int _] = some _ | show eqT (.int _) (.int _) = some _ | show neT (.int _) (.int _) = some _ | show T.bl _ = T.bl _)); exact rfl) | ((with_reducible (first | show isiT _ _ = some _ | show isT _ _ = some _ | show isNT _ _ = some _ | show isisT _ _ = some _)); first | exact (rfl : _ = some (T.bl true)) | exact (rfl : _ = some (T.bl false)) | exact rfl) | fail)
      | fail)
  rw [count_ok]
  refine ⟨_, rfl, fun h => ?_, fun h => ?_⟩
  · have h : 0 ≤ i := of_decide_eq_true h
    repeat' (first
      | with_reducible (first | refine WS_seq ?_ | refine WS_set ?_ | refine WS_ret ?_ | refine WS_if ?_ | refine WS_drop ?_ | refine WS_nx ?_ | refine WE_bin ?_ | refine WE_cons ?_ | refine WE_nil ?_ | refine WE_k ?_ | refine WE_app ?_ | refine WE_un ?_ | refine WE_B ?_ | refine WE_notC ?_ | refine WE_call ?_ | refine WE_callK ?_ | refine WE_lst ?_ | refine WE_tup ?_ | refine WE_chain ?_ | refine WE_andV ?_ | refine WE_orV ?_ | refine WE_notV ?_ | refine WE_andC ?_ | refine WE_orC ?_ | refine WE_if ?_ | refine WS_par2 ?_ | refine WS_par3 ?_ | refine WE_rg1 ?_ | refine WE_rg2 ?_ | refine WE_items ?_ | refine WE_enum ?_ | refine WE_zip ?_ | refine WE_revd ?_ | refine WE_callG ?_ | refine WS_put ?_ | refine WS_app ?_ | refine WE_pix ?_ | refine WE_sl ?_ | refine WE_p0 ?_ | refine WE_p1 ?_ | refine WE_true ?_ | refine WS_asg ?_) | ((with_reducible apply WE_var); (case h => exact rfl))
      | ((with_reducible refine And.intro ?_ ?_); (with_reducible first | exact ff1 | exact ff2 | exact ff3 | exact ff4 | exact ff5 | fail); (intro _))
      | ((with_reducible refine And.intro ?_ ?_); rotate_left; (with_reducible first | exact tt1 | exact tt2 | exact tt3 | exact tt4 | exact tt5 | fail); (intro _))
      | ((with_reducible apply Exists.intro); (with_reducible apply And.intro); first | ((with_reducible (first | show addT (.int _) (.int _) = some _ | show subT (.int _) (.int _) = some _ | show negT (.int _) = some _ | show ltT (.int _) (.int _) = some _ | show leT (.int _) (.int _) = some _ | show gtT (.int _) (.int _) = some _ | show geT (.int _) (.int _) = some _ | show intT [.int _] = some _ | show max2T [.int _, .int _] = some _ | show min2T [.int _, .int _] = some _ | show absT [.int _] = some _ | show eqT (.int _) (.int _) = some _ | show neT (.int _) (.int _) = some _ | show T.bl _ = T.bl _)); exact rfl) | ((with_reducible (first | show isiT _ _ = some _ | show isT _ _ = some _ | show isNT _ _ = some _ | show isisT _ _ = some _)); first | exact (rfl : _ = some (T.bl true)) | exact (rfl : _ = some (T.bl false)) | exact rfl) | fail)
      | fail)
    exact ⟨by simp [h], trivial⟩
  · have h : ¬ 0 ≤ i := of_decide_eq_false h
    exact ⟨by simp [h], trivial⟩
end
end Tc

/-! Tc: repr, gcd, places in lists, sums of lists, constants. -/
namespace Tc
open PySem PySem.Spec L2

section
variable {c : SC} {P : List Nat} {a b d e : Expr} {es : List Expr} {Fa Fb F : Ec} {A : Ac} {pos p q : Pos} {K : PySem.W.Frag}
/-! ### repr -/
/-- the text that repr gives, of what is data and not too long -/
def reprT : List T → Option T
  | [t] => if (dOk 30 t && (toD t).showable && decide ((toD t).shown.length ≤ LIM)) = true then some (.str (toD t).shown) else none
  | _ => none
def rRepr (K : PySem.W.Frag) : List V → Hp → VK → Prop := fun xs H Q => ∃ (v : V) (d : PyData), xs = [v] ∧ Dp K H v d ∧ d.canLay0 = true ∧ d.depth ≤ 30 ∧ d.showable = true ∧ d.shown.length ≤ sizeLine ∧ Q (.str d.shown) H
theorem cl_repr : ∀ X, c.Is X → CallR X (.builtin "repr") (rRepr c.K) := by
  intro X hX pins s σ H xs us Q I r h
  obtain ⟨v, d, rfl, hd, hl, hdp, hs, hz, q⟩ := h
  obtain ⟨u, rfl, ru⟩ := vals1 r
  have hu := hX.room.units
  cases d with
  | none => cases hd; cases ru; exact PySem.P.repr_of_none ⟨.str _, H, I.tok _, ⟨_, rfl⟩, q⟩
  | bool b => cases hd; cases ru; exact PySem.P.repr_of_bool ⟨.str _, H, I.tok _, ⟨_, rfl⟩, q⟩
  | int i =>
    cases hd
    obtain ⟨t, rfl⟩ := ru
    refine PySem.P.repr_of_int (of_decide_eq_true hs) ⟨.str (toString i : String), H, I.tok _, ⟨_, rfl⟩, ?_⟩
    simp only [PyData.shown] at q
    exact q
  | str x =>
    cases hd
    obtain ⟨t, rfl⟩ := ru
    simp only [PyData.shown] at hz q
    exact PySem.P.repr_of_str ⟨.str (reprText x), H, I.tok _, ⟨_, rfl⟩, q⟩ hz
  | list ds =>
    rw [← hX.K] at hd
    cases hd with
    | lst h1 h2 =>
      cases ru
      obtain ⟨as, r1⟩ := Dp.reads I (.list ds) _ _ (.lst h1 h2) rfl
      exact repr_of_reads' r1 hs (PyData.noDict_hsm (PyData.hasDict_of_canLay _ hl)) hX.grd (by omega) (fun _ _ e => e) (fun h' u tk hk => ⟨.str _, H, I.kept hk, ⟨_, rfl⟩, q⟩) hz
  | tuple ds =>
    rw [← hX.K] at hd
    cases hd with
    | tup h1 h2 =>
      cases ru
      obtain ⟨as, r1⟩ := Dp.reads I (.tuple ds) _ _ (.tup h1 h2) rfl
      exact repr_of_reads' r1 hs (PyData.noDict_hsm (PyData.hasDict_of_canLay _ hl)) hX.grd (by omega) (fun _ _ e => e) (fun h' u tk hk => ⟨.str _, H, I.kept hk, ⟨_, rfl⟩, q⟩) hz
  | dict kvs => cases hd
theorem sd_repr : SdA K (rRepr K) reprT := by
  intro H B xs ts z Q sB rx e q
  unfold reprT at e
  split at e
  · obtain ⟨x, rfl, r⟩ := rx.one_inv
    split at e
    · rename_i h
      cases e
      obtain ⟨h12, h3⟩ := Bool.and_eq_true_iff.mp h
      obtain ⟨h1, h2⟩ := Bool.and_eq_true_iff.mp h12
      obtain ⟨l1, l2⟩ := toD_lay 30 _ h1
      exact ⟨x, _, rfl, dp_of 30 (r.mono sB) h1, l1, l2, h2, lim_line (of_decide_eq_true h3), q _ H B (.refl sB) (.str _)⟩
    · cases e
  · cases e

/-! ### gcd, a built-in under a name of the module -/
def gcdT : List T → Option T
  | [.int i, .int j] => some (.int ((Nat.gcd i.natAbs j.natAbs : Nat) : Int))
  | _ => none
theorem cl_gcd : ∀ X, c.Is X → CallR X (.builtin "math.gcd") rGcd := fun X h => cr_gcd
theorem sd_gcd : SdA K rGcd gcdT := by
  intro H B xs ts z Q sB rx e q
  unfold gcdT at e
  split at e
  · cases e
    obtain ⟨x, y, rfl, r1, r2⟩ := rx.two_inv
    cases r1
    cases r2
    exact ⟨_, _, rfl, q _ H B (.refl sB) (.int _)⟩
  · cases e
theorem ej_callN {x : Str} {id : String} {rr : List V → Hp → VK → Prop} {f : List T → Option T} (hc : ∀ X, c.Is X → CallR X (.builtin id) rr) (hf : SdA c.K rr f) (ha : AJ c P (e :: es) A) (hm : c.mg x = some (.builtin id)) (hg : c.sc.names.lookup x = some .globalImplicit := by rfl)
    (hdb : (x == ("__debug__" : Str)) = false := by decide) (he : ∀ env, starEach (e :: es) env = (false, eval e env) :: starEach es env := by intro _; rfl) (hpl : ∀ env, (backTo pos (starEach es env)).any (·.1) = false := by intro _; rfl) :
    EJ c P (.Call (.Name x p) (e :: es) [] pos) (cApp f A) := by
  obtain ⟨t, pt, rt⟩ := ha.ex
  refine ⟨tCB rr t, fun X h => pe_callBfun (hc X h) (by show X.env.scope.names.lookup x = _; rw [h.sc]; exact hg) (by rw [h.mg]; exact hm) (pt X h) hdb (he _) (hpl _), fun r σ O H B Q fr q => ?_⟩
  refine rt r σ O H B _ fr ((PK.bind q).imp fun ts r1 O1 H1 B1 f1 g1 q1 vs rv => ?_)
  obtain ⟨z, ez, q3⟩ := PK.opt q1
  exact hf H1 B1 vs ts z Q f1.sub rv ez fun v' H' B' p rp => q3.pu f1 p v' rp

/-! ### constants of the module -/
theorem ej_gval {x : Str} {t : T} (h : ∃ v u, c.mg x = some u ∧ RelV v u ∧ ∀ B, Rep c.K B v t) (hg : c.sc.names.lookup x = some .globalImplicit := by rfl) (hd : (x == ("__debug__" : Str)) = false := by decide) : EJ c P (.Name x pos) (cK t) := by
  obtain ⟨v, u, hm, hr, ht⟩ := h
  exact ⟨tC v, fun X h => pe_glob (by show X.env.scope.names.lookup x = _; rw [h.sc]; exact hg) (by rw [h.mg]; exact hm) hr hd, fun r σ O H B Q f q => PK.at (show PK _ _ _ _ _ _ _ (.ok _ _) from q) f _ (ht _)⟩
end
/-- a value of the written part as a tree -/
def valIn (K : PySem.W.Frag) : Nat → Value → T → Bool
  | _, .none, .non => true
  | _, .bool a, .bl b => a == b
  | _, .int i _, .int j => i == j
  | _, .str x _, .str y => decide (x = y)
  | n + 1, .ref a, .tup ts => (match K.lookup a with
    | some ⟨.type ty, none, .seq its _, _⟩ => ty == "tuple" && decide (its.size ≤ LIM) && go K n its.toList ts
    | _ => false)
  | n + 1, .ref a, .lst ts => (match K.lookup a with
    | some ⟨.type ty, none, .seq its _, sl⟩ => ty == "list" && sl.isEmpty && decide (its.size ≤ LIM) && go K n its.toList ts
    | _ => false)
  | _, _, _ => false
where go (K : PySem.W.Frag) (n : Nat) : List Value → List T → Bool
  | [], [] => true
  | u :: us, t :: ts => valIn K n u t && go K n us ts
  | _, _ => false
def VT (K : PySem.W.Frag) (u : Value) (t : T) : Prop := ∃ v, RelV v u ∧ ∀ B, Rep K B v t
theorem valsIn_ok {K : PySem.W.Frag} {n : Nat} (ih : ∀ u t, valIn K n u t = true → VT K u t) : ∀ (us : List Value) (ts : List T), valIn.go K n us ts = true → ∃ vs, Vals vs us ∧ ∀ B, Reps K B vs ts
  | [], [], _ => ⟨[], .nil, fun _ => .nil⟩
  | u :: us, t :: ts, h => by
    unfold valIn.go at h
    obtain ⟨h1, h2⟩ := Bool.and_eq_true_iff.mp h
    obtain ⟨v, r1, r2⟩ := ih u t h1
    obtain ⟨vs, r3, r4⟩ := valsIn_ok ih us ts h2
    exact ⟨v :: vs, .cons r1 r3, fun B => .cons (r2 B) (r4 B)⟩
  | [], _ :: _, h => by unfold valIn.go at h; cases h
  | _ :: _, [], h => by unfold valIn.go at h; cases h
theorem valIn_ok {K : PySem.W.Frag} : ∀ (n : Nat) (u : Value) (t : T), valIn K n u t = true → VT K u t := by
  intro n
  induction n with
  | zero =>
    intro u t h
    unfold valIn at h
    split at h
    · exact ⟨.non, rfl, fun _ => .non⟩
    · rw [eq_of_beq h]; exact ⟨.bl _, rfl, fun _ => .bl _⟩
    · rw [eq_of_beq h]; exact ⟨.int _, ⟨_, rfl⟩, fun _ => .int _⟩
    · rw [of_decide_eq_true h]; exact ⟨.str _, ⟨_, rfl⟩, fun _ => .str _⟩
    · rename_i e
      cases e
    · rename_i e
      cases e
    · cases h
  | succ n ih =>
    intro u t h
    unfold valIn at h
    split at h
    · exact ⟨.non, rfl, fun _ => .non⟩
    · rw [eq_of_beq h]; exact ⟨.bl _, rfl, fun _ => .bl _⟩
    · rw [eq_of_beq h]; exact ⟨.int _, ⟨_, rfl⟩, fun _ => .int _⟩
    · rw [of_decide_eq_true h]; exact ⟨.str _, ⟨_, rfl⟩, fun _ => .str _⟩
    · rename_i m a ts e
      cases e
      split at h
      · rename_i ty its ep sl hk
        simp only [Bool.and_eq_true, beq_iff_eq, decide_eq_true_eq] at h
        obtain ⟨⟨h1, h2⟩, h3⟩ := h
        subst h1
        obtain ⟨vs, r1, r2⟩ := valsIn_ok ih its.toList ts h3
        exact ⟨.ref a, rfl, fun B => .tup (.inr ⟨_, its, ep, hk, rfl, rfl, lim_line h2, r1⟩) (r2 B)⟩
      · cases h
    · rename_i m a ts e
      cases e
      split at h
      · rename_i ty its ep sl hk
        simp only [Bool.and_eq_true, beq_iff_eq, decide_eq_true_eq] at h
        obtain ⟨⟨⟨h1, h0⟩, h2⟩, h3⟩ := h
        subst h1
        have hs : sl = #[] := Array.isEmpty_iff.mp h0
        subst hs
        obtain ⟨vs, r1, r2⟩ := valsIn_ok ih its.toList ts h3
        refine ⟨.ref a, rfl, fun B => .lst (.inr ⟨its.toList, ep, ?_, ?_, r1⟩) (r2 B)⟩
        · exact hk
        · rw [Array.length_toList]; exact lim_line h2
      · cases h
    · cases h
end Tc

/-! Tc: owned lists are read for a while; places and counts in lists. -/
namespace Tc
open PySem PySem.Spec L2 PyProof.Rows

/-- where nothing is lent, nothing may be raised -/
def SC.nog (c : SC) : SC := { c with G := ⟨none, c.G.n⟩, W := fun _ _ _ _ => False }
theorem nog_is {c : SC} {X : Cx} (h : c.Is X) : c.nog.Is X :=
  ⟨h.prog, h.w, h.K, h.mg, h.base, h.N, h.nd, h.sc, h.calm, h.room, h.grd, takes0, h.po, h.fn⟩
def scal : T → Bool
  | .non => true
  | .bl _ => true
  | .int _ => true
  | .str _ => true
  | _ => false
theorem scal_rep {K : PySem.W.Frag} {B B' : Hp} {v : V} {t : T} (h : scal t = true) (r : Rep K B v t) : Rep K B' v t := by
  cases r with
  | non => exact .non
  | bl b => exact .bl b
  | int i => exact .int i
  | str x => exact .str x
  | _ => cases h
/-- a value that is no container, read while all lists are seen -/
def cBor (F : Ec) : Ec := fun r => match F r with
  | .ok t _ => if scal t = true then .ok t r else .no
  | _ => .no
def cBorC (C : Cc) : Cc := fun r => match C r with
  | .ok b _ => .ok b r
  | _ => .no
section
variable {c : SC} {P : List Nat} {a b e : Expr} {F Fa Fb : Ec} {C : Cc} {pos : Pos} {K : PySem.W.Frag} {G : GI} {r : Sl} {σ : L2.St} {O : Addr → Prop} {H B : Hp}
/-- all that is tracked is seen -/
theorem Frm.all (f : Frm K G P r σ O H B) : Frm K ⟨none, G.n⟩ [] r σ (fun _ => False) H H := by
  refine ⟨.refl _, fun _ h => h.elim, fun _ h => h.elim, fun i t e _ => ?_, (fun i h => nomatch h), (fun i _ _ h => nomatch h), f.len, f.siz, (fun g h => nomatch h)⟩
  by_cases hi : i ∈ P
  · obtain ⟨p, vs, ts, h1, h2, _, h4, h5⟩ := f.prv i hi
    rw [h1] at e
    cases e
    exact ⟨_, h2, .lst (.of h4) (h5.mono f.sub)⟩
  · obtain ⟨v, h1, h2⟩ := f.var i t e hi
    exact ⟨v, h1, h2.mono f.sub⟩
theorem Grow.clean {O' : Addr → Prop} {H' B' : Hp} (g : Grow (fun _ => False) H H O' H' B') (sB : Same B H) : Pu H B H' B :=
  have hh : Same H H' := fun a o e => g.hh a o e fun z => z
  ⟨.refl _, sB.trans hh, fun _ _ e => .inl e, hh⟩
theorem ej_bor (h : EJ c.nog [] e F) : EJ c P e (cBor F) := by
  obtain ⟨t, pt, rt⟩ := h.ex
  refine ⟨t, fun X hX => pt X (nog_is hX), fun r σ O H B Q f q => rt r σ _ H H Q f.all ?_⟩
  unfold cBor at q
  cases z : F r with
  | ok u r1 =>
    rw [z] at q
    intro O' H' B' f' g' v rv
    by_cases hs : scal u = true
    · simp only [hs, if_true] at q
      exact q.pu f (g'.clean f.sub) v (scal_rep hs rv)
    · simp only [hs] at q
      exact (show False from q).elim
  | ex n w r1 => rw [z] at q; exact (show False from q).elim
  | no => rw [z] at q; exact (show False from q).elim
theorem cj_bor (h : CJ c.nog [] e C) : CJ c P e (cBorC C) := by
  obtain ⟨t, pt, rt⟩ := h.ex
  refine ⟨t, fun X hX => pt X (nog_is hX), fun r σ O H B Q f q => rt r σ _ H H Q f.all ?_⟩
  unfold cBorC at q
  cases z : C r with
  | ok u r1 =>
    rw [z] at q
    intro O' H' B' f' g'
    exact q.pu f (g'.clean f.sub)
  | ex n w r1 => rw [z] at q; exact (show False from q).elim
  | no => rw [z] at q; exact (show False from q).elim

/-! ### x.index(y), x.count(y) -/
def indexT (xs : List T) (y : T) : Option T := if (dOk 30 (.lst xs) && dOk 30 y) = true then (xs.findIdx? fun x => eqB x y).map fun j => .int (j : Nat) else none
def countT (xs : List T) (y : T) : Option T := if (dOk 30 (.lst xs) && dOk 30 y) = true then some (.int ((xs.countP fun x => eqB x y : Nat) : Int)) else none
/-- a method of a list -/
def cMt (f : List T → T → Option T) (a b : Ec) : Ec := fun r => (a r).bind fun x r1 => match x with
  | .lst xs => (b r1).bind fun y r2 => Out.opt r2 (f xs y)
  | _ => .no
theorem toDs_map : ∀ ts : List T, toDs ts = ts.map toD
  | [] => rfl
  | t :: ts => by rw [List.map_cons, ← toDs_map ts]; rfl
theorem dOks_all : ∀ {n : Nat} {ts : List T}, dOks n ts = true → ∀ t ∈ ts, dOk n t = true
  | _, [], _, _, h => nomatch h
  | n, t :: ts, h, u, hu => by
    obtain ⟨h1, h2⟩ := Bool.and_eq_true_iff.mp (show (dOk n t && dOks n ts) = true from h)
    rcases List.mem_cons.mp hu with e | e
    · rw [e]; exact h1
    · exact dOks_all h2 u e
def rCountD (K : PySem.W.Frag) : V → List V → Hp → VK → Prop := fun x xs H Q => ∃ (a : Addr) (y : V) (d : PyData) (ds : List PyData), x = V.ref a ∧ xs = [y] ∧ Dp K H (V.ref a) (.list ds) ∧ Dp K H y d ∧
  SeqAt.shaped (.list ds) = true ∧ SeqAt.shaped d = true ∧ Q (.int ((ds.countP fun z => PyData.eqv z d : Nat) : Int)) H
theorem mt_countD {X : Cx} (hu : X.A.units + 65 < cLine) : MtR X "list.count" (rCountD X.K) := by
  intro pins s σ H x xs v us Q I rx rxs h
  obtain ⟨l, y, d, ds, rfl, rfl, hl, hy, sl, sd, q⟩ := h
  cases rx
  obtain ⟨uy, rfl, ry⟩ := vals1 rxs
  obtain ⟨bs, rd⟩ := Dp.reads I d y uy hy ry
  have lay : PyData.canLayAll0 ds = true := SeqAt.canLay_of_shaped sl
  cases hl with
  | lst hs ha =>
    obtain ⟨its, rv, ⟨⟨cls, dd, data, sls⟩, n, ho, hc, hdn, hdt⟩, hlen⟩ := I.list hs
    simp only at hc hdt
    subst hc hdt
    obtain ⟨as, ra⟩ := Dp.readsAll I ds _ its ha rv
    have hmap : its.map (SeqAt.readOf s.heap) = ds := SeqAt.readsAll_map ds its as lay ra
    refine call_meets PySem.F.slot_list_count ⟨_, ho, rfl⟩ PySem.F.entry_list_count (PySem.F.args_list_count_2 _ _)
      (SeqAt.list_countAt l its.toArray n dd sls uy (fun u => PyData.eqv (SeqAt.readOf s.heap u) d))
      ⟨ho, SeqAt.items_eqAt (vs := its.toArray) (by simpa using ra) rd lay (SeqAt.canLay_of_shaped sd) (room_in_shaped sd hu), ?_⟩
    have e : its.toArray.toList.countP (fun u => PyData.eqv (SeqAt.readOf s.heap u) d) = ds.countP (fun z => PyData.eqv z d) := by
      rw [← hmap, List.countP_map] <;> rfl
    refine ⟨.int _, H, I.tok _, ⟨s.toks, ?_⟩, q⟩
    show Value.int ((its.toArray.toList.countP _ : Nat) : Int) s.toks = _
    rw [e]
theorem countP_toD {n m : Nat} {y : T} (hy : dOk m y = true) : ∀ {ts : List T}, dOks n ts = true → (toDs ts).countP (fun z => PyData.eqv z (toD y)) = ts.countP (fun x => eqB x y)
  | [], _ => rfl
  | t :: ts, h => by
    obtain ⟨h1, h2⟩ := Bool.and_eq_true_iff.mp (show (dOk n t && dOks n ts) = true from h)
    show (toD t :: toDs ts).countP _ = _
    rw [List.countP_cons, List.countP_cons, countP_toD hy h2, eqv_eq n m t y h1 hy]
theorem find_toD {n m : Nat} {y : T} (hy : dOk m y = true) {ts : List T} (h : dOks n ts = true) {j : Nat} (hj : ts.findIdx? (fun x => eqB x y) = some j) :
    ∃ z, (toDs ts)[j]? = some z ∧ PyData.eqv z (toD y) = true ∧ ∀ (k : Nat) (z' : PyData), k < j → (toDs ts)[k]? = some z' → PyData.eqv z' (toD y) = false := by
  obtain ⟨h1, h2, h3⟩ := List.findIdx?_eq_some_iff_getElem.mp hj
  have ok : ∀ k (hk : k < ts.length), PyData.eqv (toD ts[k]) (toD y) = eqB ts[k] y := fun k hk => eqv_eq n m _ y (dOks_all h _ (List.getElem_mem hk)) hy
  refine ⟨toD ts[j], ?_, ?_, fun k z' hk hz => ?_⟩
  · rw [toDs_map, List.getElem?_map, List.getElem?_eq_getElem h1]; rfl
  · rw [ok j h1]; exact h2
  · rw [toDs_map, List.getElem?_map, List.getElem?_eq_getElem (by omega)] at hz
    cases hz
    rw [ok k (by omega)]
    have := h3 k hk
    simpa using this
/-- the ones that a method of a list asks -/
theorem Rep.tyL {B H : Hp} {v : V} {ts : List T} (sB : Same B H) (r : Rep K B v (.lst ts)) : tyV K "list" v H := by
  cases r with
  | lst s rs => exact .inl ⟨rfl, _, (s.mono sB).sq⟩
theorem ej_index {apos : Pos} (hk : Nat.ble 2 c.k = true) (ha : EJ c P a Fa) (hb : EJ c P b Fb) (hbase : ∀ env, attributeBase a "index" env (eval a env) = eval a env := by intro _; rfl) (hst : ∀ env, starEach [b] env = [(false, eval b env)] := by intro _; rfl) (hline : (apos.endLine == pos.line) = true := by rfl) :
    EJ c P (.Call (.Attribute a "index" apos) [b] [] pos) (cMt indexT Fa Fb) := by
  obtain ⟨ta, pa, ra⟩ := ha.ex
  obtain ⟨tb, pb, rb⟩ := hb.ex
  refine ⟨tBM c.K "list" (rIndexD c.K) ta (tCons tb tNil), fun X h => ?_, fun r σ O H B Q fr q => ?_⟩
  · have hu : X.A.units + 65 < cLine := by
      have h1 := h.room.un
      have h2 := Nat.le_of_ble_eq_true hk
      omega
    have z := pe_bm (X := X) (cpos := pos) (apos := apos) PySem.F.plainAttrs_list PySem.F.slot_list_index PySem.F.type_list_index (mt_indexD hu) (pa X h) (pa_cons (pb X h) pa_nil (by rw [hst]; rfl)) (hbase _)
      (by rw [hst]; rfl) hline (by rw [hst]; rfl) rfl
    rw [h.K] at z
    exact z
  · refine ra r σ O H B _ fr ((PK.bind q).imp fun t r1 O1 H1 B1 f1 g1 q1 v rv => ?_)
    cases t with
    | lst xs =>
      refine ⟨rv.tyL f1.sub, rb r1 σ O1 H1 B1 _ f1 ((PK.bind q1).imp fun u r2 O2 H2 B2 f2 g2 q2 w rw' => ?_)⟩
      obtain ⟨z, ez, q3⟩ := PK.opt q2
      simp only [indexT] at ez
      split at ez
      · rename_i hd
        obtain ⟨h1, h2⟩ := Bool.and_eq_true_iff.mp hd
        cases hj : xs.findIdx? (fun x => eqB x u) with
        | none => rw [hj] at ez; cases ez
        | some j =>
          rw [hj] at ez
          cases ez
          obtain ⟨z, e1, e2, e3⟩ := find_toD (n := 29) (m := 30) h2 h1 hj
          have rv2 := (rv.mono g2.bb).mono f2.sub
          have d1 := dp_of 30 rv2 h1
          cases rv2 with
          | lst s rs => exact ⟨_, w, toD u, toDs xs, j, z, rfl, rfl, d1, dp_of 30 (rw'.mono f2.sub) h2, shaped_of h1 (by decide), shaped_of h2 (by decide), e1, e2, e3, PK.at q3 f2 _ (.int _)⟩
      · cases ez
    | _ => exact (show False from q1).elim
theorem ej_count {apos : Pos} (hk : Nat.ble 2 c.k = true) (ha : EJ c P a Fa) (hb : EJ c P b Fb) (hbase : ∀ env, attributeBase a "count" env (eval a env) = eval a env := by intro _; rfl) (hst : ∀ env, starEach [b] env = [(false, eval b env)] := by intro _; rfl) (hline : (apos.endLine == pos.line) = true := by rfl) :
    EJ c P (.Call (.Attribute a "count" apos) [b] [] pos) (cMt countT Fa Fb) := by
  obtain ⟨ta, pa, ra⟩ := ha.ex
  obtain ⟨tb, pb, rb⟩ := hb.ex
  refine ⟨tBM c.K "list" (rCountD c.K) ta (tCons tb tNil), fun X h => ?_, fun r σ O H B Q fr q => ?_⟩
  · have hu : X.A.units + 65 < cLine := by
      have h1 := h.room.un
      have h2 := Nat.le_of_ble_eq_true hk
      omega
    have z := pe_bm (X := X) (cpos := pos) (apos := apos) PySem.F.plainAttrs_list PySem.F.slot_list_count PySem.F.type_list_count (mt_countD hu) (pa X h) (pa_cons (pb X h) pa_nil (by rw [hst]; rfl)) (hbase _)
      (by rw [hst]; rfl) hline (by rw [hst]; rfl) rfl
    rw [h.K] at z
    exact z
  · refine ra r σ O H B _ fr ((PK.bind q).imp fun t r1 O1 H1 B1 f1 g1 q1 v rv => ?_)
    cases t with
    | lst xs =>
      refine ⟨rv.tyL f1.sub, rb r1 σ O1 H1 B1 _ f1 ((PK.bind q1).imp fun u r2 O2 H2 B2 f2 g2 q2 w rw' => ?_)⟩
      obtain ⟨z, ez, q3⟩ := PK.opt q2
      simp only [countT] at ez
      split at ez
      · rename_i hd
        obtain ⟨h1, h2⟩ := Bool.and_eq_true_iff.mp hd
        cases ez
        have rv2 := (rv.mono g2.bb).mono f2.sub
        have d1 := dp_of 30 rv2 h1
        cases rv2 with
        | lst s rs =>
          refine ⟨_, w, toD u, toDs xs, rfl, rfl, d1, dp_of 30 (rw'.mono f2.sub) h2, shaped_of h1 (by decide), shaped_of h2 (by decide), ?_⟩
          rw [countP_toD (n := 29) (m := 30) h2 h1]
          exact PK.at q3 f2 _ (.int _)
      · cases ez
    | _ => exact (show False from q1).elim
end
end Tc

/-! Tc: facts of the top about constants that are containers, names for built-ins. -/
namespace Tc
open PySem PySem.Spec L2
/-- a constant's tree, a built-in's id -/
inductive Cf where
  | con (x : Str) (t : T)
  | blt (x : Str) (id : String)
def Cf.ok (K : PySem.W.Frag) : Cf → Bool
  | .con x t => (match PySem.W.nsIn K mainGlobals x with
    | some (some u) => valIn K 9 u t
    | _ => false)
  | .blt x id => He.eqO (PySem.W.nsIn K mainGlobals x) (some (some (.builtin id)))
def Cf.all (cs : List Cf) (K : PySem.W.Frag) : Bool := cs.all fun f => f.ok K
section
variable {K : PySem.W.Frag} {h : Heap} {mg : Str → Option Value}
theorem Cf.at_ {cs : List Cf} (e : Cf.all cs K = true) (i : Nat) {f : Cf} (hi : cs[i]? = some f := by rfl) : f.ok K = true := List.all_eq_true.mp e f (List.mem_of_getElem? hi)
theorem con_ok (X : K.In h) (G : h.Ns mainGlobals mg) {x : Str} {t : T} (c : (Cf.con x t).ok K = true) : ∃ v u, mg x = some u ∧ RelV v u ∧ ∀ B, Rep K B v t := by
  have c2 : (match PySem.W.nsIn K mainGlobals x with
    | some (some u) => valIn K 9 u t
    | _ => false) = true := c
  cases e : PySem.W.nsIn K mainGlobals x with
  | none => rw [e] at c2; cases c2
  | some o =>
    rw [e] at c2
    cases o with
    | none => cases c2
    | some u =>
      obtain ⟨v, r1, r2⟩ := valIn_ok 9 u t c2
      exact ⟨v, u, PySem.W.mg_of X G e, r1, r2⟩
theorem blt_ok (X : K.In h) (G : h.Ns mainGlobals mg) {x : Str} {id : String} (c : (Cf.blt x id).ok K = true) : mg x = some (.builtin id) := PySem.W.mg_of X G (He.eqO_ok c)
end
end Tc

/-! Tc: list(x), sorted(x), tuple(x), {}. -/
namespace Tc
open PySem PySem.Spec L2 PyProof.Rows
section
variable {c : SC} {P : List Nat} {a b e : Expr} {es : List Expr} {F Fa Fb : Ec} {A : Ac} {pos p : Pos} {K : PySem.W.Frag}
/-- a new list, of a built-in type -/
theorem fj_callTy {x : Str} {T' : String} {rr : List V → Hp → VK → Prop} {f : List T → Option T} (hc : ∀ X, c.Is X → CallR X (.type T') rr) (hf : SfA c.K rr f) (ha : AJ c P (e :: es) A) (hg : c.sc.names.lookup x = some .globalImplicit := by rfl) (hm : c.mg x = none := by rfl) (hv : bootBuiltins x = some (.type T') := by rfl)
    (hn : x ≠ "__name__" := by decide) (hdb : (x == ("__debug__" : Str)) = false := by decide) (he : ∀ env, starEach (e :: es) env = (false, eval e env) :: starEach es env := by intro _; rfl) (hpl : ∀ env, (backTo pos (starEach es env)).any (·.1) = false := by intro _; rfl) :
    FJ c P (.Call (.Name x p) (e :: es) [] pos) (cApp f A) := by
  obtain ⟨t, pt, rt⟩ := ha.ex
  refine ⟨tCB rr t, fun X h => pe_callTy (hc X h) (by show X.env.scope.names.lookup x = _; rw [h.sc]; exact hg) (by rw [h.mg]; exact hm) hv (pt X h) hn hdb (he _) (hpl _), fun r σ O H B Q fr q => ?_⟩
  refine rt r σ O H B _ fr ((PK.bind q).imp fun ts r1 O1 H1 B1 f1 g1 q1 vs rv => ?_)
  obtain ⟨z, ez, q3⟩ := PK.opt q1
  refine hf H1 B1 vs ts z Q f1.sub rv ez fun p ws us H' e pu n hp rp => ?_
  refine q3 _ H' B1 (f1.own pu n ⟨_, hp⟩) (.own pu n) p ws us e (.inr rfl) (fun i hi z => ?_) hp rp
  obtain ⟨p', _, _, _, h2, _, h4, _⟩ := f1.prv i hi
  rw [h2] at z
  cases z
  rw [n] at h4; cases h4
/-- list(x) of a list, of a tuple -/
def listT : List T → Option T
  | [.lst xs] => some (.lst xs)
  | [.tup xs] => some (.lst xs)
  | _ => none
def rListOf (K : PySem.W.Frag) : List V → Hp → VK → Prop := fun xs H Q => ∃ p ys, xs = [.ref p] ∧ (SqL K H p ys ∨ SqT K H p ys) ∧ ∀ l, H l = none → Q (.ref l) (upd H l (.lst ys))
theorem cl_listOf : ∀ X, c.Is X → CallR X (.type "list") (rListOf c.K) := fun X h => by
  have z := call_list_of (X := X)
  rw [h.K] at z; exact z
theorem sf_listOf : SfA K (rListOf K) listT := by
  intro H B xs ts z Q sB rx e q
  unfold listT at e
  split at e
  · obtain ⟨x, rfl, r⟩ := rx.one_inv
    cases e
    cases r with
    | lst s rs => exact ⟨_, _, rfl, .inl (s.mono sB).sq, fun l hl => q l _ _ _ rfl (.hid sB hl) hl upd_same rs⟩
  · obtain ⟨x, rfl, r⟩ := rx.one_inv
    cases e
    cases r with
    | tup s rs => exact ⟨_, _, rfl, .inr (same_tup sB s), fun l hl => q l _ _ _ rfl (.hid sB hl) hl upd_same rs⟩
  · cases e
/-- sorted(x) of a list of ints -/
def insI (n : Int) : List Int → List Int
  | [] => [n]
  | m :: ms => if n ≤ m then n :: m :: ms else m :: insI n ms
def sortI : List Int → List Int
  | [] => []
  | n :: ns => insI n (sortI ns)
theorem insI_perm (n : Int) : ∀ ms : List Int, (insI n ms).Perm (n :: ms)
  | [] => .refl _
  | m :: ms => by
    unfold insI
    split
    · exact .refl _
    · exact ((insI_perm n ms).cons m).trans (.swap n m ms)
theorem sortI_perm : ∀ ns : List Int, (sortI ns).Perm ns
  | [] => .refl _
  | n :: ns => (insI_perm n _).trans ((sortI_perm ns).cons n)
theorem insI_sorted {n : Int} : ∀ {ms : List Int}, ms.Pairwise (· ≤ ·) → (insI n ms).Pairwise (· ≤ ·)
  | [], _ => List.pairwise_singleton _ _
  | m :: ms, h => by
    obtain ⟨h1, h2⟩ := List.pairwise_cons.mp h
    unfold insI
    split
    · rename_i hn
      exact List.pairwise_cons.mpr ⟨fun a ha => by
        rcases List.mem_cons.mp ha with e | e
        · rw [e]; exact hn
        · exact Int.le_trans hn (h1 a e), h⟩
    · rename_i hn
      refine List.pairwise_cons.mpr ⟨fun a ha => ?_, insI_sorted h2⟩
      rcases List.mem_cons.mp ((insI_perm n ms).mem_iff.mp ha) with e | e
      · rw [e]; omega
      · exact h1 a e
theorem sortI_sorted : ∀ ns : List Int, (sortI ns).Pairwise (· ≤ ·)
  | [] => List.Pairwise.nil
  | n :: ns => insI_sorted (sortI_sorted ns)
def sortedT : List T → Option T
  | [.lst xs] => (intsT xs).map fun ns => .lst ((sortI ns).map .int)
  | _ => none
theorem cl_sorted : ∀ X, c.Is X → CallR X (.builtin "sorted") (rSortedI c.K) := fun X h => by
  have z := cr_sortedI (X := X)
  rw [h.K] at z; exact z
theorem perm_sorted_eq {xs ys : List Int} (h : xs.Perm ys) (h1 : xs.Pairwise (· ≤ ·)) (h2 : ys.Pairwise (· ≤ ·)) : xs = ys :=
  h.eq_of_pairwise (fun _ _ _ _ a b => Int.le_antisymm a b) h1 h2
theorem sf_sorted : SfA K (rSortedI K) sortedT := by
  intro H B xs ts z Q sB rx e q
  unfold sortedT at e
  split at e
  · rename_i ys
    obtain ⟨x, rfl, r⟩ := rx.one_inv
    cases hi : intsT ys with
    | none => rw [hi] at e; cases e
    | some ns =>
      rw [hi] at e
      cases e
      cases r with
      | lst s rs =>
        obtain ⟨h1, h2⟩ := intsT_reps rs hi
        subst h1
        refine ⟨_, ns, rfl, (s.mono sB).sq, fun ns' p hp hs hn => ?_⟩
        have e : ns' = sortI ns := perm_sorted_eq (hp.trans (sortI_perm ns).symm) hs (sortI_sorted ns)
        subst e
        exact q p _ _ _ rfl (.hid sB hn) hn upd_same (Reps.ints _)
  · cases e
/-- {} -/
theorem ej_emp : EJ c P (.Dict [] [] pos) (cK .emp) := by
  refine ⟨tDNewK, fun X h => pe_dnewK, fun r σ O H B Q f q p hp => ?_⟩
  have pu : Pu H B (upd H p (.dK [])) (upd B p (.dK [])) := .new f.sub hp
  exact (show PK c P σ O H B (GoodT c Q) (.ok .emp r) from q).pu f pu _ (.emp upd_same)
end
end Tc

/-! Tc: tuples of ints in order. -/
namespace Tc
open PySem PySem.Spec L2 PyProof.Rows
/-- the first pair that differs tells, else the lengths -/
def lexC (r : Int → Int → Bool) (z : Int → Bool) : List Int → List Int → Bool
  | x :: xs, y :: ys => if x = y then lexC r z xs ys else r x y
  | xs, ys => z ((xs.length : Int) - ys.length)
theorem lexC_at {r : Int → Int → Bool} {z : Int → Bool} {ns ms : List Int} : ∀ (k i : Nat), k = min (ns.length - i) (ms.length - i) → i ≤ ns.length → i ≤ ms.length →
    Ob.lexAt (fun j => decide (ns.getD j 0 = ms.getD j 0)) (fun j => r (ns.getD j 0) (ms.getD j 0)) (z ((ns.length : Int) - ms.length)) i k = lexC r z (ns.drop i) (ms.drop i)
  | 0, i, h, h1, h2 => by
    have e : (ns.length : Int) - ms.length = ((ns.drop i).length : Int) - (ms.drop i).length := by rw [List.length_drop, List.length_drop]; omega
    have hz : (ns.drop i).length = 0 ∨ (ms.drop i).length = 0 := by rw [List.length_drop, List.length_drop]; omega
    rw [Ob.lexAt_zero, e]
    cases hx : ns.drop i with
    | nil => unfold lexC; rfl
    | cons x xs =>
      cases hy : ms.drop i with
      | nil => unfold lexC; rfl
      | cons y ys => rw [hx, hy] at hz; simp at hz
  | k + 1, i, h, h1, h2 => by
    have i1 : i < ns.length := by omega
    have i2 : i < ms.length := by omega
    rw [Ob.lexAt_succ, List.drop_eq_getElem_cons i1, List.drop_eq_getElem_cons i2]
    have g1 : ns.getD i 0 = ns[i] := by simp [i1]
    have g2 : ms.getD i 0 = ms[i] := by simp [i2]
    show (if decide (ns.getD i 0 = ms.getD i 0) = true then _ else r (ns.getD i 0) (ms.getD i 0)) = lexC r z (ns[i] :: ns.drop (i + 1)) (ms[i] :: ms.drop (i + 1))
    have ec : ∀ (x y : Int) (xs ys : List Int), lexC r z (x :: xs) (y :: ys) = if x = y then lexC r z xs ys else r x y := fun _ _ _ _ => rfl
    rw [g1, g2, lexC_at k (i + 1) (by omega) (by omega) (by omega), ec]
    by_cases e : ns[i] = ms[i]
    · rw [if_pos e, if_pos (decide_eq_true e)]
    · rw [if_neg e, if_neg (by rw [decide_eq_false e]; exact Bool.false_ne_true)]
def rTup (K : PySem.W.Frag) (r : Int → Int → Bool) (z : Int → Bool) : R2 := fun x y H Q => ∃ (a b : Addr) (ns ms : List Int), x = .ref a ∧ y = .ref b ∧ SqT K H a (ns.map V.int) ∧ SqT K H b (ms.map V.int) ∧ Q (.bl (lexC r z ns ms)) H
section
variable {c : SC} {K : PySem.W.Frag}
theorem tup_parts {X : Cx} {pins : List (Addr × Obj)} {s : Shared} {σ : L2.St} {H : Hp} {a b : Addr} {ns ms : List Int} (I : Inv X pins σ H s) (ha : SqT X.K H a (ns.map V.int)) (hb : SqT X.K H b (ms.map V.int)) :
    ∃ its its2 : Array Value, s.heap.IsTuple a its ∧ s.heap.IsTuple b its2 ∧ its.size = ns.length ∧ its2.size = ms.length ∧ (∀ j (h : j < its.size), ∃ t, its[j] = .int (ns.getD j 0) t) ∧ (∀ j (h : j < its2.size), ∃ t, its2[j] = .int (ms.getD j 0) t) := by
  obtain ⟨its, r1, p1, _⟩ := I.tuple ha
  obtain ⟨its2, r2, p2, _⟩ := I.tuple hb
  have i1 : IntsAre its ns := Vals.ints r1
  have i2 : IntsAre its2 ms := Vals.ints r2
  exact ⟨its.toArray, its2.toArray, p1, p2, by rw [List.size_toArray]; exact i1.length, by rw [List.size_toArray]; exact i2.length,
    fun j h => PyProof.Rows.IntsAre.int_at i1 _ _ (by simp at h; simp [h]), fun j h => PyProof.Rows.IntsAre.int_at i2 _ _ (by simp at h; simp [h])⟩
theorem eq_parts {A : Around} {s : Shared} {v u : Value} {i j : Int} (h1 : ∃ t, v = .int i t) (h2 : ∃ t, u = .int j t) : SeqAt.EqAt A s v u (decide (i = j)) := by
  obtain ⟨t, e⟩ := h1
  obtain ⟨t', e'⟩ := h2
  rw [e, e']
  have z : (i == j) = decide (i = j) := by
    by_cases q : i = j
    · rw [decide_eq_true q]; exact beq_iff_eq.mpr q
    · rw [decide_eq_false q]; exact beq_eq_false_iff_ne.mpr q
  rw [← z]
  exact SeqAt.EqAt.int_int _ _ _ _
theorem op_tupLt : ∀ X, c.Is X → OpR X (compareOp .Lt) (rTup c.K (fun a b => decide (a < b)) (fun d => decide (d < 0))) := fun X hX pins s σ H x y v u Q I rx ry h => by
  obtain ⟨a, b, ns, ms, rfl, rfl, ha, hb, q⟩ := h
  cases rx; cases ry
  rw [← hX.K] at ha hb
  obtain ⟨its, its2, p1, p2, z1, z2, g1, g2⟩ := tup_parts I ha hb
  have R := Ob.RcOp.tuples_lt (A := X.A) (s := s) (e := fun j => decide (ns.getD j 0 = ms.getD j 0)) (r := fun j => decide (ns.getD j 0 < ms.getD j 0)) p1 p2 hX.room.units0
    (fun j h1 h2 => eq_parts (g1 j h1) (g2 j h2)) (fun j h1 h2 _ => by
      obtain ⟨t, et⟩ := g1 j h1
      obtain ⟨t', et'⟩ := g2 j h2
      rw [et, et']; exact Ob.RcOp.lt_int _ _ _ _)
  rw [z1, z2, show decide (ns.length < ms.length) = (fun d : Int => decide (d < 0)) ((ns.length : Int) - ms.length) from by simp only [decide_eq_decide]; omega] at R
  rw [lexC_at (r := fun a b => decide (a < b)) (z := fun d => decide (d < 0)) _ 0 (by simp) (Nat.zero_le _) (Nat.zero_le _), List.drop_zero, List.drop_zero] at R
  exact R X.prog X.w X.xe (EP X pins σ Q) ⟨.bl _, H, I, rfl, q⟩
theorem op_tupGe : ∀ X, c.Is X → OpR X (compareOp .GtE) (rTup c.K (fun a b => decide (b ≤ a)) (fun d => decide (0 ≤ d))) := fun X hX pins s σ H x y v u Q I rx ry h => by
  obtain ⟨a, b, ns, ms, rfl, rfl, ha, hb, q⟩ := h
  cases rx; cases ry
  rw [← hX.K] at ha hb
  obtain ⟨its, its2, p1, p2, z1, z2, g1, g2⟩ := tup_parts I ha hb
  have R := Ob.RcOp.tuples_ge (A := X.A) (s := s) (e := fun j => decide (ns.getD j 0 = ms.getD j 0)) (r := fun j => decide (ms.getD j 0 ≤ ns.getD j 0)) p1 p2 hX.room.units0
    (fun j h1 h2 => eq_parts (g1 j h1) (g2 j h2)) (fun j h1 h2 _ => by
      obtain ⟨t, et⟩ := g1 j h1
      obtain ⟨t', et'⟩ := g2 j h2
      rw [et, et']; exact Ob.RcOp.ge_int _ _ _ _)
  rw [z1, z2, show decide (ns.length ≥ ms.length) = (fun d : Int => decide (0 ≤ d)) ((ns.length : Int) - ms.length) from by simp only [decide_eq_decide]; omega] at R
  rw [lexC_at (r := fun a b => decide (b ≤ a)) (z := fun d => decide (0 ≤ d)) _ 0 (by simp) (Nat.zero_le _) (Nat.zero_le _), List.drop_zero, List.drop_zero] at R
  exact R X.prog X.w X.xe (EP X pins σ Q) ⟨.bl _, H, I, rfl, q⟩
/-- tuples of ints -/
def tupT (r : Int → Int → Bool) (z : Int → Bool) : T → T → Option T
  | .tup xs, .tup ys => (intsT xs).bind fun ns => (intsT ys).map fun ms => .bl (lexC r z ns ms)
  | _, _ => none
theorem sd_tup {r : Int → Int → Bool} {z : Int → Bool} : Sd2 K (rTup K r z) (tupT r z) := by
  intro H B x y t u w Q sB rx ry e q
  cases rx with
  | tup s rs =>
    cases ry with
    | tup s2 rs2 =>
      rename_i a1 v1 xs a2 v2 ys
      simp only [tupT] at e
      cases h1 : intsT xs with
      | none => rw [h1] at e; cases e
      | some ns =>
        cases h2 : intsT ys with
        | none => rw [h1, h2] at e; cases e
        | some ms =>
          rw [h1, h2] at e
          cases e
          obtain ⟨e1, _⟩ := intsT_reps rs h1
          obtain ⟨e2, _⟩ := intsT_reps rs2 h2
          subst e1 e2
          exact ⟨_, _, ns, ms, rfl, rfl, same_tup sB s, same_tup sB s2, q _ H B (.refl sB) (.bl _)⟩
    | _ => cases e
  | _ => cases e
def ltQ : T → T → Option T := tupT (fun a b => decide (a < b)) (fun d => decide (d < 0))
def geQ : T → T → Option T := tupT (fun a b => decide (b ≤ a)) (fun d => decide (0 ≤ d))
end
end Tc

/-! Tc: sum(lists, list). -/
namespace Tc
open PySem PySem.Spec L2 PyProof.Rows

abbrev lsO (us : List Value) (n : Nat) : Obj := { cls := .type "list", data := .seq us.toArray n }
/-- what stands in the first lists -/
def preL (st : List Value) (f : Nat → List Value) : Nat → List Value
  | 0 => st
  | i + 1 => preL st f i ++ f i
section
variable {prog : Program} {w : World} {A : Around} {R : Result → Shared → Prop}
theorem sumL_go (hh : A.in1.handled = none) {l I S : Addr} {its : Array Value} (hI : l ≠ I) (hSI : S ≠ I) (hSl : S ≠ l) {st : List Value} {f : Nat → List Value} {base : Heap}
    (hf : ∀ j (h : j < its.size), ∃ a n, its[j] = .ref a ∧ base.get? a = some (lsO (f j) n)) (fr : ∀ b o, base.get? b = some o → b ≠ I ∧ b ≠ S) (hz : ∀ j, j ≤ its.size → (preL st f j).length ≤ sizeLine) :
    ∀ (k i : Nat) (s : Shared) (acc : Addr) (n c : Nat), its.size - i = k → i ≤ its.size → (∀ b o, base.get? b = some o → s.heap.get? b = some o) → s.heap.IsListIter I l i → s.heap.IsList l its →
      s.heap.get? acc = some (lsO (preL st f i) n) → acc ≠ I → acc ≠ S → s.heap.get? S = some { cls := .type "list", data := .seq #[.ref acc] c } →
      (∀ h' acc' n' tk, (∀ b o, base.get? b = some o → h'.get? b = some o) → h'.get? acc' = some (lsO (preL st f its.size) n') → (i = its.size → acc' = acc) → (i < its.size → s.heap.objs.size ≤ acc') →
        R (.ok (.ret (.ref acc'))) { s with heap := h', toks := tk }) →
      codeAny (model prog w) A (.builtin "sum.loop" ⟨[.ref I, .ref S, rawInt 2, rawInt 0], []⟩) R s := by
  have W := Walks.list (prog := prog) (w := w) (A := A.in1) hh I l hI its
  intro k
  induction k with
  | zero =>
    intro i s acc n c hk hi hb hit hl hacc nI nS hS hR
    have hin : i = its.size := by omega
    refine codeAny_builtin PySem.F.entry_sum_loop ?_
    rw [Around.under_plainId PySem.F.plain_sum_loop _]
    show wpAny _ A.in1 (seqItems? (.ref S) >>= _) _ _ s
    refine wpAny_bind (wpAny_seqItems hS rfl ?_)
    show wpAny _ A.in1 (tryCatch (pyNext (.ref I)) _ >>= _) _ _ s
    refine wpAny_bind (wpAny_tryCatch (W.done s _ _ (by rw [← hin]; exact ⟨hit, hl⟩) fun h' tk hk' => ?_))
    refine wpAny_pure (hR h' acc n tk (fun b o e => hk' b o (fun hm => (fr b o e).1 (by simpa using hm)) (hb b o e)) ?_ (fun _ => rfl) fun z => absurd z (by omega))
    rw [← hin]
    exact hk' acc _ (fun hm => nI (by simpa using hm)) hacc
  | succ k ih =>
    intro i s acc n c hk hi hb hit hl hacc nI nS hS hR
    have hlt : i < its.size := by omega
    refine codeAny_builtin PySem.F.entry_sum_loop ?_
    rw [Around.under_plainId PySem.F.plain_sum_loop _]
    show wpAny _ A.in1 (seqItems? (.ref S) >>= _) _ _ s
    refine wpAny_bind (wpAny_seqItems hS rfl ?_)
    show wpAny _ A.in1 (tryCatch (pyNext (.ref I)) _ >>= _) _ _ s
    refine wpAny_bind (wpAny_tryCatch (wpAny_pyNext_list_item hit hl (x := its[i]) (by simp [hlt]) fun h' hit' hs' => ?_))
    have hk' : ∀ b o, b ∉ [I] → s.heap.get? b = some o → h'.get? b = some o := fun b o hb e => hs'.extBut b o (fun h => hb (by simp [h])) e
    have hl' : h'.IsList l its := hl.extBut hs'.extBut hI
    have szeq : h'.objs.size = s.heap.objs.size := hs'.1
    have nm : ∀ b, b ≠ I → b ∉ [I] := fun b h hm => h (by simpa using hm)
    obtain ⟨a, m, ea, ga⟩ := hf i hlt
    rw [ea]
    have ga' : h'.get? a = some (lsO (f i) m) := hk' a _ (nm a (fr a _ ga).1) (hb a _ ga)
    have hacc' := hk' acc _ (nm acc nI) hacc
    have hS' := hk' S _ (nm S hSI) hS
    have hlen : (preL st f i).toArray.size + (f i).toArray.size ≤ sizeLine := by
      have := hz (i + 1) hlt
      unfold preL at this
      rw [List.length_append] at this
      rw [List.size_toArray, List.size_toArray]; exact this
    show wpAny _ A.in1 ((holding [Value.ref a] (binaryOp .Add (.ref acc) (.ref a))).attempt >>= _) _ _ _
    refine wpAny_bind (wpAny_attempt (wpAny_holding (PySem.P.add_list hacc' ga' ?_ hlen)))
    show wpAny _ A.in1 (updateSeq S (fun _ => #[.ref h'.objs.size]) >>= _) _ _ _
    have hS2 : (h'.push (lsO (preL st f i ++ f i) 0)).get? S = some { cls := .type "list", data := .seq #[.ref acc] c } := Heap.get?_push_of_some _ hS'
    have epush : h'.push { cls := .type "list", data := .seq ((preL st f i).toArray ++ (f i).toArray) } = h'.push (lsO (preL st f i ++ f i) 0) := by simp [lsO]
    rw [epush]
    refine wpAny_bind (wpAny_updateSeq hS2 rfl ?_)
    have hS3 := Heap.get?_update_self (Obj.mapSeq fun _ => #[Value.ref h'.objs.size]) hS2 rfl
    refine wpAny_bind (wpAny_letGo ?_)
    refine wpAny_bind ?_
    have sp : (h'.push (lsO (preL st f i ++ f i) 0)).objs.size = h'.objs.size + 1 := Heap.size_push ..
    have lt : ∀ b o, h'.get? b = some o → b ≠ h'.objs.size := fun b o e z => Nat.lt_irrefl _ (z ▸ Heap.lt_size e)
    have up : ∀ b, b ≠ S → ∀ {g1 g2 : Obj → Obj}, (((h'.push (lsO (preL st f i ++ f i) 0)).update S g1).update S g2).get? b = (h'.push (lsO (preL st f i ++ f i) 0)).get? b := fun b hb {g1 g2} =>
      (Heap.get?_update_other _ _ (Ne.symm hb)).trans (Heap.get?_update_other _ _ (Ne.symm hb))
    refine wpAny_updateSeq hS3 rfl (wpAny_pure ⟨plainId_quiet PySem.F.plain_sum_loop _, ih (i + 1) _ h'.objs.size 0 _ (by omega) hlt (fun b o e => ?_) ?_ ?_ ?_ ?_ ?_ (Heap.get?_update_self _ hS3 rfl) fun h'' acc' n' tk'' kb ga0 e1 e2 => ?_⟩)
    · exact (up b (fr b o e).2).trans (Heap.get?_push_of_some _ (hk' b o (nm b (fr b o e).1) (hb b o e)))
    · exact hit'.at fun o e => (up I (Ne.symm hSI)).trans (Heap.get?_push_of_some _ e)
    · exact hl'.at fun o e => (up l (Ne.symm hSl)).trans (Heap.get?_push_of_some _ e)
    · exact (up _ (Ne.symm (lt S _ hS'))).trans (Heap.get?_push_size _ rfl)
    · obtain ⟨o, ho, _⟩ := id hit'
      exact Ne.symm (lt I o ho)
    · exact Ne.symm (lt S _ hS')
    · refine hR h'' acc' n' tk'' kb ga0 (fun z => absurd z (by omega)) fun _ => ?_
      by_cases z : i + 1 = its.size
      · rw [e1 z, szeq]; exact Nat.le_refl _
      · have := e2 (by omega)
        simp only [Heap.size_after_update, sp] at this
        omega
theorem args_sumL (a b : Value) : argsOk "sum" ⟨[a, b], []⟩ := by unfold argsOk; kernel_rfl
theorem call_sumL {E : Value → Shared → Prop} {s : Shared} {Q : Value → Shared → Prop} (hh : A.handled = none) {l a0 : Addr} {its : Array Value} {st : List Value} {n0 : Nat} {f : Nat → List Value} (hl : s.heap.IsList l its) (hst : s.heap.get? a0 = some (lsO st n0))
    (hf : ∀ j (h : j < its.size), ∃ a n, its[j] = .ref a ∧ s.heap.get? a = some (lsO (f j) n)) (hz : ∀ j, j ≤ its.size → (preL st f j).length ≤ sizeLine)
    (h : ∀ h' acc' n' tk, (∀ b o, s.heap.get? b = some o → h'.get? b = some o) → h'.get? acc' = some (lsO (preL st f its.size) n') → (its.size = 0 → acc' = a0) → (0 < its.size → s.heap.objs.size ≤ acc') → Q (.ref acc') { s with heap := h', toks := tk }) :
    wpAny (model prog w) A (call (.builtin "sum") [.ref l, .ref a0]) Q E s := by
  have hlt : l < s.heap.objs.size := by obtain ⟨_, e, _⟩ := id hl; exact Heap.lt_size e
  have ha0 : a0 < s.heap.objs.size := Heap.lt_size hst
  refine call_function_tree PySem.F.kind_sum PySem.F.plain_sum PySem.F.entry_sum (args_sumL _ _) ?_
  unfold Builtin.«sum»
  simp only [List.length_cons, List.length_nil]
  rw [if_neg (by decide)]
  refine wpAny_bind (wpAny_of_eq (show Builtin.Builtins.bindParams "sum" ["start"] 0 ⟨[.ref a0], []⟩ = pure [some (.ref a0)] from rfl) ?_)
  refine wpAny_bind (wpAny_pyIter_list hl ?_)
  refine wpAny_bind (wpAny_pure ?_)
  have ty : ∀ s2 : Shared, s2.heap.get? a0 = some (lsO st n0) → s2.TypeIs (.ref a0) "list" := fun s2 e => ⟨_, e, rfl⟩
  have g1 : (s.heap.push { cls := .type "list_iterator", data := .fields #[.ref l, .int 0 0] }).get? a0 = some (lsO st n0) := Heap.get?_push_of_some _ hst
  simp only [List.forIn_cons, List.forIn_nil]
  refine wpAny_bind (wpAny_bind (wpAny_bind (wpAny_isInstance (T := "list") (b := false) (ty _ g1) PySem.F.sub_list_str ?_)))
  simp only [Bool.false_eq_true, if_false]
  refine wpAny_pure (wpAny_bind (wpAny_bind (wpAny_isInstance (T := "list") (b := false) (ty _ g1) PySem.F.sub_list_bytes ?_)))
  simp only [Bool.false_eq_true, if_false]
  refine wpAny_pure (wpAny_bind (wpAny_bind (wpAny_isInstance (T := "list") (b := false) (ty _ g1) PySem.F.sub_list_bytearray ?_)))
  simp only [Bool.false_eq_true, if_false]
  refine wpAny_pure (wpAny_pure ?_)
  refine wpAny_bind (wpAny_newObj_type ?_)
  have z1 : (s.heap.push { cls := .type "list_iterator", data := .fields #[.ref l, .int 0 0] }).objs.size = s.heap.objs.size + 1 := Heap.size_push ..
  refine wpAny_pure ⟨plainId_quiet PySem.F.plain_sum_loop _, ?_⟩
  have k1 : ∀ b o, s.heap.get? b = some o → ((s.heap.push { cls := .type "list_iterator", data := .fields #[.ref l, .int 0 0] }).push { cls := .type "list", data := .seq #[.ref a0] }).get? b = some o := fun b o e => Heap.get?_push_of_some _ (Heap.get?_push_of_some _ e)
  refine sumL_go (A := A) hh (l := l) (I := s.heap.objs.size) (S := (s.heap.push { cls := .type "list_iterator", data := .fields #[.ref l, .int 0 0] }).objs.size) (its := its) (st := st) (f := f) (base := s.heap) (Nat.ne_of_lt hlt) (by rw [z1]; exact Nat.succ_ne_self _) (by rw [z1]; exact Ne.symm (Nat.ne_of_lt (Nat.lt_succ_of_lt hlt))) hf
    (fun b o e => ⟨Nat.ne_of_lt (Heap.lt_size e), by rw [z1]; exact Nat.ne_of_lt (Nat.lt_succ_of_lt (Heap.lt_size e))⟩) hz its.size 0 _ a0 n0 0 rfl (Nat.zero_le _) k1 ?_ ?_ (k1 _ _ hst) (Nat.ne_of_lt ha0) (by rw [z1]; exact Nat.ne_of_lt (Nat.lt_succ_of_lt ha0)) (Heap.get?_push_size _ rfl) fun h' acc' n' tk kb ga e1 e2 => ?_
  · exact ⟨_, Heap.get?_push_of_some _ (Heap.get?_push_size _ rfl), rfl, rfl⟩
  · exact (hl.push _).push _
  · refine h h' acc' n' tk kb ga (fun z => e1 z.symm) fun z => ?_
    have := e2 z
    have z2 : ((s.heap.push { cls := .type "list_iterator", data := .fields #[.ref l, .int 0 0] }).push { cls := .type "list", data := .seq #[.ref a0] }).objs.size = s.heap.objs.size + 2 := by rw [Heap.size_push, z1]
    have t : ((s.heap.push { cls := .type "list_iterator", data := .fields #[.ref l, .int 0 0] }).push { cls := .type "list", data := .seq #[.ref a0] }).objs.size ≤ acc' := this
    omega
end
end Tc

/-! Tc: sum(lists, list) on trees. -/
namespace Tc
open PySem PySem.Spec L2 PyProof.Rows
/-- lists, their items -/
def listsT : List T → Option (List (List T))
  | [] => some []
  | .lst x :: xs => (listsT xs).map (x :: ·)
  | _ => none
def sumLT : List T → Option T
  | [.lst xs, .lst ws] => (listsT xs).bind fun ls => if ws.length + ls.flatten.length ≤ LIM then some (.lst (ws ++ ls.flatten)) else none
  | _ => none
inductive LsAll (K : PySem.W.Frag) (H : Hp) : List V → List (List V) → Prop
  | nil : LsAll K H [] []
  | cons {a : Addr} {v : List V} {vs : List V} {ls : List (List V)} : LsAt K H a v → LsAll K H vs ls → LsAll K H (.ref a :: vs) (v :: ls)
def rSumLs (K : PySem.W.Frag) : List V → Hp → VK → Prop := fun zs H Q => ∃ (a b : Addr) (vs ws : List V) (ls : List (List V)), zs = [.ref a, .ref b] ∧ LsAt K H a vs ∧ LsAt K H b ws ∧ LsAll K H vs ls ∧ ws.length + ls.flatten.length ≤ sizeLine ∧
  (ls = [] → Q (.ref b) H) ∧ (ls ≠ [] → ∀ p, H p = none → Q (.ref p) (upd H p (.lst (ws ++ ls.flatten))))
theorem listsT_reps {K : PySem.W.Frag} {B : Hp} : ∀ {ts : List T} {vs : List V} {lt : List (List T)}, Reps K B vs ts → listsT ts = some lt → ∃ ls, LsAll K B vs ls ∧ Reps K B ls.flatten lt.flatten ∧ ls.length = lt.length
  | [], _, _, .nil, e => by cases e; exact ⟨[], .nil, .nil, rfl⟩
  | t :: ts, _, lt, .cons r rs, e => by
    cases r with
    | @lst a v us s r2 =>
      unfold listsT at e
      cases h : listsT ts with
      | none => rw [h] at e; cases e
      | some l2 =>
        rw [h] at e
        cases e
        obtain ⟨ls, h1, h2, h3⟩ := listsT_reps rs h
        exact ⟨v :: ls, .cons s h1, by rw [List.flatten_cons, List.flatten_cons]; exact r2.append h2, congrArg (· + 1) h3⟩
    | _ => cases e
theorem LsAll.mono {K : PySem.W.Frag} {B H : Hp} (e : Same B H) : ∀ {vs : List V} {ls : List (List V)}, LsAll K B vs ls → LsAll K H vs ls
  | _, _, .nil => .nil
  | _, _, .cons s r => .cons (s.mono e) (LsAll.mono e r)
theorem sd_sumL {K : PySem.W.Frag} : SdA K (rSumLs K) sumLT := by
  intro H B xs ts z Q sB rx e q
  unfold sumLT at e
  split at e
  · rename_i xs0 ws0
    obtain ⟨x, y, rfl, r1, r2⟩ := rx.two_inv
    cases h : listsT xs0 with
    | none => rw [h] at e; cases e
    | some lt =>
      rw [h] at e
      simp only [Option.bind_some] at e
      split at e
      · rename_i hz
        cases e
        cases r1 with
        | lst s1 rs1 =>
          cases r2 with
          | lst s2 rs2 =>
            obtain ⟨ls, h1, h2, h3⟩ := listsT_reps rs1 h
            refine ⟨_, _, _, _, ls, rfl, s1.mono sB, s2.mono sB, h1.mono sB, by rw [rs2.length, h2.length]; exact lim_line hz, fun z => ?_, fun _ p hp => ?_⟩
            · subst z
              have : lt = [] := List.eq_nil_of_length_eq_zero h3.symm
              subst this
              rw [List.flatten_nil, List.append_nil] at q
              exact q _ H B (.refl sB) (.lst s2 rs2)
            · obtain ⟨pu, rp⟩ := Rep.newL sB (rs2.append h2) hp
              exact q _ _ _ pu rp
      · cases e
  · cases e
theorem LsAll.at_ {K : PySem.W.Frag} {H : Hp} : ∀ {vs : List V} {ls : List (List V)}, LsAll K H vs ls → vs.length = ls.length ∧ ∀ j (h : j < ls.length), ∃ a, vs[j]? = some (.ref a) ∧ LsAt K H a ls[j]
  | _, _, .nil => ⟨rfl, fun j h => nomatch h⟩
  | _, _, .cons s r => ⟨congrArg (· + 1) (LsAll.at_ r).1, fun j h => by
    cases j with
    | zero => exact ⟨_, rfl, s⟩
    | succ j => obtain ⟨a, h1, h2⟩ := (LsAll.at_ r).2 j (Nat.lt_of_succ_lt_succ h); exact ⟨a, h1, h2⟩⟩
theorem preL_vals {ws : List V} {ls : List (List V)} {st : List Value} {f : Nat → List Value} (h0 : Vals ws st) (hf : ∀ j (h : j < ls.length), Vals ls[j] (f j)) : ∀ j, j ≤ ls.length → Vals (ws ++ (ls.take j).flatten) (preL st f j)
  | 0, _ => by rw [List.take_zero, List.flatten_nil, List.append_nil]; exact h0
  | j + 1, h => by
    have ih := preL_vals h0 hf j (by omega)
    rw [List.take_succ_eq_append_getElem (by omega), List.flatten_append, ← List.append_assoc]
    unfold preL
    refine ih.append ?_
    rw [List.flatten_cons, List.flatten_nil, List.append_nil]
    exact hf j (by omega)
theorem cl_sumLs {c : SC} : ∀ X, c.Is X → CallR X (.builtin "sum") (rSumLs c.K) := by
  intro X hX pins s σ H zs us Q I r h
  rw [← hX.K] at h
  obtain ⟨a, b, vs, ws, ls, rfl, ha, hb, hall, hz, q0, q1⟩ := h
  obtain ⟨u1, u2, rfl, e1, e2⟩ := vals2 r
  cases e1
  cases e2
  obtain ⟨its, n, r1, _, g1⟩ := ha.obj I
  obtain ⟨itb, nb, r2, _, g2⟩ := hb.obj I
  obtain ⟨hl, hat⟩ := hall.at_
  have hn : its.length = ls.length := by rw [← r1.length, hl]
  have hex : ∀ j, ∃ w : List Value, ∀ h : j < ls.length, Vals ls[j] w ∧ ∃ p m, its[j]? = some (.ref p) ∧ s.heap.get? p = some (lsO w m) := fun j => by
    by_cases h : j < ls.length
    · obtain ⟨p, h1, h2⟩ := hat j h
      obtain ⟨w, m, r3, _, g3⟩ := h2.obj I
      obtain ⟨u, e, ru⟩ := r1.get h1
      cases ru
      exact ⟨w, fun _ => ⟨r3, p, m, e, g3⟩⟩
    · exact ⟨[], fun h' => absurd h' h⟩
  have hf := fun j => Classical.choose_spec (hex j)
  have pv := preL_vals (f := fun j => Classical.choose (hex j)) r2 fun j h => (hf j h).1
  refine call_sumL (its := its.toArray) (st := itb) (f := fun j => Classical.choose (hex j)) (I.ok.hd hX.calm) ⟨_, g1, rfl, _, rfl⟩ g2 (fun j h => ?_) (fun j h => ?_) fun h' acc' n' tk kb ga e1 e2 => ?_
  · have h' : j < ls.length := by rw [← hn]; simpa using h
    obtain ⟨p, m, e, g⟩ := (hf j h').2
    refine ⟨p, m, ?_, g⟩
    have hj : j < its.length := by rw [hn]; exact h'
    rw [List.getElem?_eq_getElem hj] at e
    simpa using e
  · have h' : j ≤ ls.length := by rw [← hn]; simpa using h
    rw [← (pv j h').length, List.length_append]
    refine Nat.le_trans (Nat.add_le_add_left ?_ _) hz
    have : ls.flatten = (ls.take j).flatten ++ (ls.drop j).flatten := by rw [← List.flatten_append, List.take_append_drop]
    rw [this, List.length_append]; omega
  · have hs : its.toArray.size = ls.length := by rw [List.size_toArray, hn]
    by_cases z : ls = []
    · have e := e1 (by rw [hs, z]; rfl)
      subst e
      exact ⟨.ref _, H, I.kept kb, rfl, q0 z⟩
    · have hp : 0 < ls.length := List.length_pos_iff.mpr z
      have sz := e2 (by rw [hs]; exact hp)
      rw [hs] at ga
      have v := pv ls.length (Nat.le_refl _)
      rw [List.take_length] at v
      exact ⟨.ref acc', _, I.laid (t' := tk) (o := .lst (ws ++ ls.flatten)) kb sz ⟨by rw [List.length_append]; exact hz, _, n', v, ga⟩, rfl, q1 z _ (I.hok.fresh sz)⟩
end Tc

/-! Tc: sorted, min, max of rows and other data. -/
namespace Tc
open PySem PySem.Spec L2 PyProof.Rows
/-- every two alike -/
def alB (ds : List PyData) : Bool := ds.all fun d => ds.all fun e => PySem.W.alike d e
/-- no tuple, not None -/
def nnT : T → Bool
  | .lst _ => true
  | .int _ => true
  | .str _ => true
  | .bl _ => true
  | _ => false
def ltD (t u : T) : Bool := PySem.W.dataLt (toD t) (toD u)
def sortDT : List T → Option T
  | [.lst xs] => if (dOks 30 xs && alB (toDs xs) && xs.all nnT) = true then some (.lst (xs.mergeSort fun a b => !ltD b a)) else none
  | _ => none
def minDT : List T → Option T
  | [.lst (x :: xs)] => if (dOks 30 (x :: xs) && alB (toDs (x :: xs)) && (x :: xs).all nnT) = true then some (xs.foldl (fun a y => if ltD y a then y else a) x) else none
  | _ => none
def maxDT : List T → Option T
  | [.lst (x :: xs)] => if (dOks 30 (x :: xs) && alB (toDs (x :: xs)) && (x :: xs).all nnT) = true then some (xs.foldl (fun a y => if ltD a y then y else a) x) else none
  | _ => none
theorem alB_all {ds : List PyData} (h : alB ds = true) : PySem.W.AllAlike ds := fun d hd e he => List.all_eq_true.mp (List.all_eq_true.mp h d hd) e he
theorem dOks_mem : ∀ {n : Nat} {ts : List T}, dOks n ts = true → ∀ t ∈ ts, dOk n t = true
  | n, t :: ts, h, u, hu => by
    obtain ⟨h1, h2⟩ := Bool.and_eq_true_iff.mp (show (dOk n t && dOks n ts) = true from h)
    rcases List.mem_cons.mp hu with e | e
    · rw [e]; exact h1
    · exact dOks_mem h2 u e
theorem nnT_ne {t : T} (h : nnT t = true) : toD t ≠ .none ∧ ∀ xs, toD t ≠ .tuple xs := by
  cases t <;> first | (simp [nnT] at h; done) | exact ⟨by simp [toD], fun _ => by simp [toD]⟩
mutual
theorem toD_inj : ∀ (n : Nat) {t u : T}, dOk n t = true → dOk n u = true → toD t = toD u → t = u
  | n, .lst xs, u, h, h', e => by
    cases n with
    | zero => cases h
    | succ n =>
      cases u with
      | lst ys => rw [toDs_inj n h h' (PyData.list.inj e)]
      | _ => cases e
  | n, .tup xs, u, h, h', e => by
    cases n with
    | zero => cases h
    | succ n =>
      cases u with
      | tup ys => rw [toDs_inj n h h' (PyData.tuple.inj e)]
      | _ => cases e
  | n, .non, u, h, h', e => by
    cases u <;> first | rfl | (simp [toD] at e; done) | (cases n <;> simp [dOk] at h')
  | n, .bl b, u, h, h', e => by
    cases u <;> first | ((simp only [toD] at e); (cases e); done) | (cases n <;> simp [dOk] at h'; done) | (rw [PyData.bool.inj e])
  | n, .int b, u, h, h', e => by
    cases u <;> first | ((simp only [toD] at e); (cases e); done) | (cases n <;> simp [dOk] at h'; done) | (rw [PyData.int.inj e])
  | n, .str b, u, h, h', e => by
    cases u <;> first | ((simp only [toD] at e); (cases e); done) | (cases n <;> simp [dOk] at h'; done) | (rw [PyData.str.inj e])
  | n, .emp, _, h, _, _ => by cases n <;> cases h
  | n, .exc _ _, _, h, _, _ => by cases n <;> cases h
  | n, .clo _ _, _, h, _, _ => by cases n <;> cases h
  | n, .ty _, _, h, _, _ => by cases n <;> cases h
  | n, .cls _, _, h, _, _ => by cases n <;> cases h
theorem toDs_inj : ∀ (n : Nat) {t u : List T}, dOks n t = true → dOks n u = true → toDs t = toDs u → t = u
  | _, [], [], _, _, _ => rfl
  | _, [], _ :: _, _, _, e => nomatch e
  | _, _ :: _, [], _, _, e => nomatch e
  | n, t :: ts, u :: us, h, h', e => by
    obtain ⟨h1, h2⟩ := Bool.and_eq_true_iff.mp (show (dOk n t && dOks n ts) = true from h)
    obtain ⟨k1, k2⟩ := Bool.and_eq_true_iff.mp (show (dOk n u && dOks n us) = true from h')
    obtain ⟨e1, e2⟩ := List.cons.inj (show toD t :: toDs ts = toD u :: toDs us from e)
    rw [toD_inj n h1 k1 e1, toDs_inj n h2 k2 e2]
end
/-- a list of data, item by item: the value, the tree -/
def DaL (K : PySem.W.Frag) (H : Hp) (a : Addr) (ps : List (V × T)) : Prop := SqL K H a (ps.map Prod.fst) ∧ DpAll K H (ps.map Prod.fst) (toDs (ps.map Prod.snd)) ∧ dOks 30 (ps.map Prod.snd) = true ∧ alB (toDs (ps.map Prod.snd)) = true ∧ (ps.map Prod.snd).all nnT = true
def rSortD (K : PySem.W.Frag) : List V → Hp → VK → Prop := fun vs H Q => ∃ (a : Addr) (ps : List (V × T)), vs = [V.ref a] ∧ DaL K H a ps ∧
  ∀ p, H p = none → Q (.ref p) (upd H p (.lst ((ps.mergeSort fun a b => !ltD b.2 a.2).map Prod.fst)))
def rMinD (K : PySem.W.Frag) : List V → Hp → VK → Prop := fun vs H Q => ∃ (a : Addr) (q : V × T) (ps : List (V × T)), vs = [V.ref a] ∧ DaL K H a (q :: ps) ∧
  ∀ v t, (v, t) ∈ q :: ps → toD t = PySem.W.minD (toD q.2) (toDs (ps.map Prod.snd)) → Q v H
def rMaxD (K : PySem.W.Frag) : List V → Hp → VK → Prop := fun vs H Q => ∃ (a : Addr) (q : V × T) (ps : List (V × T)), vs = [V.ref a] ∧ DaL K H a (q :: ps) ∧
  ∀ v t, (v, t) ∈ q :: ps → toD t = PySem.W.maxD (toD q.2) (toDs (ps.map Prod.snd)) → Q v H
section
variable {X : Cx}
theorem vals_each : ∀ {ps : List (V × T)} {us : List Value}, Vals (ps.map Prod.fst) us → PySem.W.EachIs (fun u (p : V × T) => RelV p.1 u) us ps
  | [], _, h => by
    have h' : Vals [] _ := h
    cases h'
    exact .nil
  | p :: ps, _, h => by
    have h' : Vals (p.1 :: ps.map Prod.fst) _ := h
    cases h' with
    | cons r rs => exact .cons r (vals_each rs)
theorem each_vals : ∀ {ps : List (V × T)} {us : List Value}, PySem.W.EachIs (fun u (p : V × T) => RelV p.1 u) us ps → Vals (ps.map Prod.fst) us
  | _, _, .nil => .nil
  | _, _, .cons r rs => .cons r (each_vals rs)
theorem cr_sortD (hu : X.A.units + 64 < cLine) : CallR X (.builtin "sorted") (rSortD X.K) := by
  intro pins s σ H vs us Q I r h
  obtain ⟨a, ps, rfl, ⟨hs, hd, h1, h2, h3⟩, q⟩ := h
  obtain ⟨its, rv, hl, hz⟩ := I.list hs
  rw [Vals.ref1 r]
  obtain ⟨as, hr⟩ := Dp.readsAll I _ _ _ hd rv
  have e0 : toDs (ps.map Prod.snd) = ps.map fun p => toD p.2 := by rw [toDs_map, List.map_map]; rfl
  rw [e0] at hr h2
  have er := PySem.W.readsAll_each (fun p : V × T => toD p.2) hr
  have hdep : ∀ b, b ∈ ps → X.A.units + 2 + (toD b.2).depth < cLine := fun b hb => by
    have := (toD_lay 30 b.2 (dOks_mem h1 b.2 (List.mem_map.mpr ⟨b, hb, rfl⟩))).2
    omega
  refine PySem.W.sorted_data (enc := fun p : V × T => toD p.2) hl.isList (vals_each rv) er (alB_all h2) (.inr fun d hd' => ?_) (by rw [List.length_map] at hz; exact hz) hdep fun out ho eo => ?_
  · obtain ⟨b, hb, rfl⟩ := List.mem_map.mp hd'
    exact nnT_ne (List.all_eq_true.mp h3 b.2 (List.mem_map.mpr ⟨b, hb, rfl⟩))
  · obtain ⟨ep, he'⟩ := PyProof.Rows.sortedAll_at s.heap its out.toArray
    have em : ps.mergeSort (PySem.W.dataLe false fun p : V × T => toD p.2) = ps.mergeSort fun a b => !ltD b.2 a.2 := rfl
    rw [em] at eo
    have hlen : ((ps.mergeSort fun a b => !ltD b.2 a.2).map Prod.fst).length ≤ sizeLine := by
      rw [List.length_map, (List.mergeSort_perm ..).length_eq]
      rw [List.length_map] at hz
      exact hz
    exact ⟨.ref _, upd H (s.heap.objs.size + 1) (.lst ((ps.mergeSort fun a b => !ltD b.2 a.2).map Prod.fst)), I.laid (t' := s.toks) (fun _ _ => PyProof.Rows.sortedAll_old) (Nat.le_succ _) ⟨hlen, out, ep, each_vals eo, he'⟩, rfl, q _ (I.hok.fresh (Nat.le_succ _))⟩
theorem al_of {ds : List PyData} {ts : List T} (e : ds = toDs ts) (h2 : alB ds = true) (h3 : ts.all nnT = true) : PySem.W.AlikeAll ds := by
  refine ⟨alB_all h2, fun d hd => ?_⟩
  rw [e, toDs_map] at hd
  obtain ⟨t, ht, rfl⟩ := List.mem_map.mp hd
  exact (nnT_ne (List.all_eq_true.mp h3 t ht)).1
theorem vals_at : ∀ {ps : List (V × T)} {us : List Value} {i : Nat} {u : Value}, Vals (ps.map Prod.fst) us → us[i]? = some u → ∃ p, ps[i]? = some p ∧ RelV p.1 u
  | [], _, _, _, h, hi => by
    have h' : Vals [] _ := h
    cases h'
    cases hi
  | p :: ps, _, i, _, h, hi => by
    have h' : Vals (p.1 :: ps.map Prod.fst) _ := h
    cases h' with
    | cons r rs =>
      cases i with
      | zero => exact ⟨p, rfl, by cases hi; exact r⟩
      | succ i => exact vals_at (ps := ps) rs hi
theorem dp_mem {K : PySem.W.Frag} {H : Hp} : ∀ {ps : List (V × T)}, DpAll K H (ps.map Prod.fst) (toDs (ps.map Prod.snd)) → ∀ p ∈ ps, Dp K H p.1 (toD p.2)
  | [], _, p, h => nomatch h
  | q :: ps, hd, p, h => by
    have hd' : DpAll K H (q.1 :: ps.map Prod.fst) (toD q.2 :: toDs (ps.map Prod.snd)) := hd
    cases hd' with
    | cons h1 h2 =>
      rcases List.mem_cons.mp h with e | e
      · rw [e]; exact h1
      · exact dp_mem h2 p e
theorem cr_minD (hc : X.calm = true) (hu : X.A.units + 64 < cLine) : CallR X (.builtin "min") (rMinD X.K) := by
  intro pins s σ H vs us Q I r h
  obtain ⟨a, p0, ps, rfl, ⟨hs, hd, h1, h2, h3⟩, q⟩ := h
  obtain ⟨its, rv, hl, hz⟩ := I.list hs
  rw [Vals.ref1 r]
  obtain ⟨as, hr⟩ := Dp.readsAll I _ _ _ hd rv
  have hdep := (toDs_lay 30 _ h1).2
  refine PySem.W.min_list_data (x := toD p0.2) (xs := toDs (ps.map Prod.snd)) (I.ok.hd hc) hl.isList (by rw [List.toList_toArray]; exact hr) (al_of rfl h2 h3) (by
    show X.A.units + 1 + PyData.depthAll (toDs (p0.2 :: ps.map Prod.snd)) < cLine
    have : PyData.depthAll (toDs (p0.2 :: ps.map Prod.snd)) ≤ 30 := hdep
    omega) fun i v h' tk bs hv hr' hk => ?_
  obtain ⟨p, hp, rp⟩ := vals_at rv (by rw [List.getElem?_toArray] at hv; exact hv)
  have hm := List.mem_of_getElem? hp
  obtain ⟨cs, hr0⟩ := Dp.reads I _ _ _ (dp_mem hd p hm) rp
  have e := (PyProof.Rows.reads_det (fun b o h _ => hk b o h) hr0 hr').1
  exact ⟨p.1, H, I.kept hk, rp, q p.1 p.2 hm e.symm⟩
theorem cr_maxD (hc : X.calm = true) (hu : X.A.units + 64 < cLine) : CallR X (.builtin "max") (rMaxD X.K) := by
  intro pins s σ H vs us Q I r h
  obtain ⟨a, p0, ps, rfl, ⟨hs, hd, h1, h2, h3⟩, q⟩ := h
  obtain ⟨its, rv, hl, hz⟩ := I.list hs
  rw [Vals.ref1 r]
  obtain ⟨as, hr⟩ := Dp.readsAll I _ _ _ hd rv
  have hdep := (toDs_lay 30 _ h1).2
  refine PySem.W.max_list_data (x := toD p0.2) (xs := toDs (ps.map Prod.snd)) (I.ok.hd hc) hl.isList (by rw [List.toList_toArray]; exact hr) (al_of rfl h2 h3) (by
    show X.A.units + 1 + PyData.depthAll (toDs (p0.2 :: ps.map Prod.snd)) < cLine
    have : PyData.depthAll (toDs (p0.2 :: ps.map Prod.snd)) ≤ 30 := hdep
    omega) fun i v h' tk bs hv hr' hk => ?_
  obtain ⟨p, hp, rp⟩ := vals_at rv (by rw [List.getElem?_toArray] at hv; exact hv)
  have hm := List.mem_of_getElem? hp
  obtain ⟨cs, hr0⟩ := Dp.reads I _ _ _ (dp_mem hd p hm) rp
  have e := (PyProof.Rows.reads_det (fun b o h _ => hk b o h) hr0 hr').1
  exact ⟨p.1, H, I.kept hk, rp, q p.1 p.2 hm e.symm⟩
end
section
variable {c : SC} {K : PySem.W.Frag}
theorem cl_sortD : ∀ X, c.Is X → CallR X (.builtin "sorted") (rSortD c.K) := fun X h => by
  have z := cr_sortD (X := X) h.room.units
  rw [h.K] at z; exact z
theorem cl_minD : ∀ X, c.Is X → CallR X (.builtin "min") (rMinD c.K) := fun X h => by
  have z := cr_minD (X := X) h.calm h.room.units
  rw [h.K] at z; exact z
theorem cl_maxD : ∀ X, c.Is X → CallR X (.builtin "max") (rMaxD c.K) := fun X h => by
  have z := cr_maxD (X := X) h.calm h.room.units
  rw [h.K] at z; exact z
theorem zip_reps {B : Hp} : ∀ {vs : List V} {ts : List T}, Reps K B vs ts → (vs.zip ts).map Prod.fst = vs ∧ (vs.zip ts).map Prod.snd = ts ∧ ∀ p ∈ vs.zip ts, Rep K B p.1 p.2
  | _, _, .nil => ⟨rfl, rfl, fun p h => nomatch h⟩
  | _, _, .cons r rs => by
    obtain ⟨h1, h2, h3⟩ := zip_reps rs
    refine ⟨congrArg (_ :: ·) h1, congrArg (_ :: ·) h2, fun p h => ?_⟩
    rcases List.mem_cons.mp h with e | e
    · rw [e]; exact r
    · exact h3 p e
theorem reps_zip {B : Hp} : ∀ {ps : List (V × T)}, (∀ p ∈ ps, Rep K B p.1 p.2) → Reps K B (ps.map Prod.fst) (ps.map Prod.snd)
  | [], _ => .nil
  | p :: ps, h => .cons (h p (List.mem_cons_self ..)) (reps_zip fun q hq => h q (List.mem_cons_of_mem _ hq))
theorem sf_sortD : SfA K (rSortD K) sortDT := by
  intro H B xs ts z Q sB rx e q
  unfold sortDT at e
  split at e
  · rename_i ys
    obtain ⟨x, rfl, r⟩ := rx.one_inv
    split at e
    · rename_i hc
      cases e
      obtain ⟨hc, h3⟩ := Bool.and_eq_true_iff.mp hc
      obtain ⟨h1, h2⟩ := Bool.and_eq_true_iff.mp hc
      cases r with
      | @lst a vs _ s rs =>
        obtain ⟨z1, z2, z3⟩ := zip_reps rs
        refine ⟨_, vs.zip ys, rfl, ⟨by rw [z1]; exact (s.mono sB).sq, by rw [z1, z2]; exact dps_of 30 (rs.mono sB) h1, by rw [z2]; exact h1, by rw [z2]; exact h2, by rw [z2]; exact h3⟩, fun p hp => q p _ _ _ rfl (.hid sB hp) hp upd_same ?_⟩
        have em : ((vs.zip ys).mergeSort fun a b => !ltD b.2 a.2).map Prod.snd = ys.mergeSort fun a b => !ltD b a := by
          rw [List.map_mergeSort (f := Prod.snd) (s := fun a b => !ltD b a) (fun _ _ _ _ => rfl), z2]
        rw [← em]
        exact reps_zip fun p hp => z3 p ((List.mergeSort_perm ..).mem_iff.mp hp)
    · cases e
  · cases e
theorem foldD_min : ∀ (xs : List T) (x : T), toD (xs.foldl (fun a y => if ltD y a then y else a) x) = PySem.W.minD (toD x) (toDs xs)
  | [], x => rfl
  | y :: ys, x => by
    show toD (ys.foldl _ (if ltD y x then y else x)) = PySem.W.minD (toD x) (toD y :: toDs ys)
    rw [foldD_min ys]
    unfold PySem.W.minD
    rw [List.foldl_cons]
    congr 1
    unfold ltD
    split <;> rfl
theorem foldD_max : ∀ (xs : List T) (x : T), toD (xs.foldl (fun a y => if ltD a y then y else a) x) = PySem.W.maxD (toD x) (toDs xs)
  | [], x => rfl
  | y :: ys, x => by
    show toD (ys.foldl _ (if ltD x y then y else x)) = PySem.W.maxD (toD x) (toD y :: toDs ys)
    rw [foldD_max ys]
    unfold PySem.W.maxD
    rw [List.foldl_cons]
    congr 1
    unfold ltD
    split <;> rfl
theorem foldl_mem {f : T → T → T} (hf : ∀ a y, f a y = a ∨ f a y = y) : ∀ (xs : List T) (x : T), xs.foldl f x ∈ x :: xs
  | [], x => List.mem_singleton.mpr rfl
  | y :: ys, x => by
    rw [List.foldl_cons]
    have h := foldl_mem hf ys (f x y)
    rcases List.mem_cons.mp h with e | e
    · rw [e]
      rcases hf x y with e | e
      · rw [e]; exact List.mem_cons_self ..
      · rw [e]; exact List.mem_cons_of_mem _ (List.mem_cons_self ..)
    · exact List.mem_cons_of_mem _ (List.mem_cons_of_mem _ e)
theorem sd_minD : SdA K (rMinD K) minDT := by
  intro H B xs ts z Q sB rx e q
  unfold minDT at e
  split at e
  · rename_i y ys
    obtain ⟨x, rfl, r⟩ := rx.one_inv
    split at e
    · rename_i hc
      cases e
      obtain ⟨hc, h3⟩ := Bool.and_eq_true_iff.mp hc
      obtain ⟨h1, h2⟩ := Bool.and_eq_true_iff.mp hc
      cases r with
      | @lst a vs0 _ s rs0 =>
        cases rs0 with
        | @cons v vs _ _ r0 rs =>
        obtain ⟨z1, z2, z3⟩ := zip_reps (Reps.cons r0 rs)
        obtain ⟨y1, y2, _⟩ := zip_reps rs
        refine ⟨_, (v, y), vs.zip ys, rfl, ⟨by show SqL K H a (((v :: vs).zip (y :: ys)).map Prod.fst); rw [z1]; exact (s.mono sB).sq, by
          show DpAll K H (((v :: vs).zip (y :: ys)).map Prod.fst) (toDs (((v :: vs).zip (y :: ys)).map Prod.snd))
          rw [z1, z2]; exact dps_of 30 ((Reps.cons r0 rs).mono sB) h1, by
          show dOks 30 (((v :: vs).zip (y :: ys)).map Prod.snd) = true
          rw [z2]; exact h1, by
          show alB (toDs (((v :: vs).zip (y :: ys)).map Prod.snd)) = true
          rw [z2]; exact h2, by
          show (((v :: vs).zip (y :: ys)).map Prod.snd).all nnT = true
          rw [z2]; exact h3⟩, fun w t hm ht => ?_⟩
        rw [y2] at ht
        have hf := foldD_min ys y
        have hmem : ys.foldl (fun a y => if ltD y a then y else a) y ∈ y :: ys := foldl_mem (fun a y => by split; exact .inr rfl; exact .inl rfl) ys y
        have hw := z3 (w, t) hm
        have ht2 : t ∈ y :: ys := by rw [← z2]; exact List.mem_map.mpr ⟨(w, t), hm, rfl⟩
        have e := toD_inj 30 (dOks_mem h1 t ht2) (dOks_mem h1 _ hmem) (ht.trans hf.symm)
        rw [e] at hw
        exact q w H B (.refl sB) hw
    · cases e
  · cases e
theorem sd_maxD : SdA K (rMaxD K) maxDT := by
  intro H B xs ts z Q sB rx e q
  unfold maxDT at e
  split at e
  · rename_i y ys
    obtain ⟨x, rfl, r⟩ := rx.one_inv
    split at e
    · rename_i hc
      cases e
      obtain ⟨hc, h3⟩ := Bool.and_eq_true_iff.mp hc
      obtain ⟨h1, h2⟩ := Bool.and_eq_true_iff.mp hc
      cases r with
      | @lst a vs0 _ s rs0 =>
        cases rs0 with
        | @cons v vs _ _ r0 rs =>
        obtain ⟨z1, z2, z3⟩ := zip_reps (Reps.cons r0 rs)
        obtain ⟨y1, y2, _⟩ := zip_reps rs
        refine ⟨_, (v, y), vs.zip ys, rfl, ⟨by show SqL K H a (((v :: vs).zip (y :: ys)).map Prod.fst); rw [z1]; exact (s.mono sB).sq, by
          show DpAll K H (((v :: vs).zip (y :: ys)).map Prod.fst) (toDs (((v :: vs).zip (y :: ys)).map Prod.snd))
          rw [z1, z2]; exact dps_of 30 ((Reps.cons r0 rs).mono sB) h1, by
          show dOks 30 (((v :: vs).zip (y :: ys)).map Prod.snd) = true
          rw [z2]; exact h1, by
          show alB (toDs (((v :: vs).zip (y :: ys)).map Prod.snd)) = true
          rw [z2]; exact h2, by
          show (((v :: vs).zip (y :: ys)).map Prod.snd).all nnT = true
          rw [z2]; exact h3⟩, fun w t hm ht => ?_⟩
        rw [y2] at ht
        have hf := foldD_max ys y
        have hmem : ys.foldl (fun a y => if ltD a y then y else a) y ∈ y :: ys := foldl_mem (fun a y => by split; exact .inr rfl; exact .inl rfl) ys y
        have hw := z3 (w, t) hm
        have ht2 : t ∈ y :: ys := by rw [← z2]; exact List.mem_map.mpr ⟨(w, t), hm, rfl⟩
        have e := toD_inj 30 (dOks_mem h1 t ht2) (dOks_mem h1 _ hmem) (ht.trans hf.symm)
        rw [e] at hw
        exact q w H B (.refl sB) hw
    · cases e
  · cases e
end
/-! ### rows of ints -/
def rowT (r : List Int) : T := .lst (r.map .int)
/-- rows in order -/
def leR : List Int → List Int → Bool
  | [], _ => true
  | _ :: _, [] => false
  | x :: xs, y :: ys => if x = y then leR xs ys else decide (x < y)
def insR (n : List Int) : List (List Int) → List (List Int)
  | [] => [n]
  | m :: ms => if leR n m then n :: m :: ms else m :: insR n ms
def sortR : List (List Int) → List (List Int)
  | [] => []
  | n :: ns => insR n (sortR ns)
theorem dOks_ints (n : Nat) : ∀ r : List Int, dOks n (r.map .int) = true
  | [] => by cases n <;> rfl
  | x :: r => by
    show (dOk n (.int x) && dOks n (r.map .int)) = true
    rw [dOks_ints n r]
    cases n <;> rfl
theorem toDs_ints (r : List Int) : toDs (r.map T.int) = r.map PyData.int := by
  rw [toDs_map, List.map_map]; rfl
theorem toD_row (r : List Int) : toD (rowT r) = .list (r.map .int) := by
  show PyData.list (toDs (r.map .int)) = _
  rw [toDs_ints]
theorem dOks_rows (n : Nat) : ∀ rs : List (List Int), dOks (n + 1) (rs.map rowT) = true
  | [] => rfl
  | r :: rs => by
    show (dOks n (r.map .int) && dOks (n + 1) (rs.map rowT)) = true
    rw [dOks_ints, dOks_rows]; rfl
theorem alB_rows (rs : List (List Int)) : alB (toDs (rs.map rowT)) = true := by
  rw [toDs_map, List.map_map]
  refine List.all_eq_true.mpr fun d hd => List.all_eq_true.mpr fun e he => ?_
  obtain ⟨a, _, rfl⟩ := List.mem_map.mp hd
  obtain ⟨b, _, rfl⟩ := List.mem_map.mp he
  show PySem.W.alike (toD (rowT a)) (toD (rowT b)) = true
  rw [toD_row, toD_row]
  simp only [PySem.W.alike]
  exact PySem.W.alike_ints a b
theorem nnT_rows (rs : List (List Int)) : (rs.map rowT).all nnT = true := by
  refine List.all_eq_true.mpr fun d hd => ?_
  obtain ⟨a, _, rfl⟩ := List.mem_map.mp hd
  rfl
theorem leR_le : ∀ a b : List Int, leR a b = !(decide (b < a))
  | [], b => by simp [leR]
  | x :: xs, [] => by simp [leR]
  | x :: xs, y :: ys => by
    unfold leR
    split
    · rename_i h
      subst h
      rw [leR_le xs ys]
      simp
    · rename_i h
      by_cases h2 : x < y
      · have : ¬ y < x := by omega
        simp [h2, this, List.cons_lt_cons_iff, Ne.symm h]
      · have : y < x := by omega
        simp [h2, this, List.cons_lt_cons_iff]
theorem ltD_rows (a b : List Int) : ltD (rowT a) (rowT b) = !leR b a := by
  unfold ltD
  rw [toD_row, toD_row, PySem.W.dataLt_list, leR_le, Bool.not_not]
  exact PySem.W.dataLt_ints a b
theorem leR_total (a b : List Int) : (leR a b || leR b a) = true := by
  rw [leR_le, leR_le]
  by_cases h : b < a
  · simp [h, List.lt_asymm h]
  · simp [h]
theorem leR_anti {a b : List Int} (h1 : leR a b = true) (h2 : leR b a = true) : a = b := by
  rw [leR_le] at h1 h2
  simp at h1 h2
  exact List.le_antisymm h1 h2
theorem leR_trans {a b d : List Int} (h1 : leR a b = true) (h2 : leR b d = true) : leR a d = true := by
  rw [leR_le] at *
  simp at *
  exact List.le_trans h1 h2
theorem insR_perm (n : List Int) : ∀ ms, (insR n ms).Perm (n :: ms)
  | [] => .refl _
  | m :: ms => by
    unfold insR
    split
    · exact .refl _
    · exact ((insR_perm n ms).cons m).trans (.swap n m ms)
theorem sortR_perm : ∀ ns, (sortR ns).Perm ns
  | [] => .refl _
  | n :: ns => (insR_perm n _).trans ((sortR_perm ns).cons n)
theorem insR_sorted {n : List Int} : ∀ {ms : List (List Int)}, ms.Pairwise (fun a b => leR a b = true) → (insR n ms).Pairwise (fun a b => leR a b = true)
  | [], _ => List.pairwise_singleton _ _
  | m :: ms, h => by
    obtain ⟨h1, h2⟩ := List.pairwise_cons.mp h
    unfold insR
    split
    · rename_i hn
      exact List.pairwise_cons.mpr ⟨fun a ha => by
        rcases List.mem_cons.mp ha with e | e
        · rw [e]; exact hn
        · exact leR_trans hn (h1 a e), h⟩
    · rename_i hn
      refine List.pairwise_cons.mpr ⟨fun a ha => ?_, insR_sorted h2⟩
      rcases List.mem_cons.mp ((insR_perm n ms).mem_iff.mp ha) with e | e
      · rw [e]
        have := leR_total n m
        simp [hn] at this
        exact this
      · exact h1 a e
theorem sortR_sorted : ∀ ns, (sortR ns).Pairwise (fun a b => leR a b = true)
  | [] => List.Pairwise.nil
  | n :: ns => insR_sorted (sortR_sorted ns)
theorem sortDT_rows (rs : List (List Int)) : sortDT [.lst (rs.map rowT)] = some (.lst ((sortR rs).map rowT)) := by
  have e1 : (dOks 30 (rs.map rowT) && alB (toDs (rs.map rowT)) && (rs.map rowT).all nnT) = true := by rw [dOks_rows, alB_rows, nnT_rows]; rfl
  unfold sortDT
  simp only [e1, if_true]
  have e2 : (rs.map rowT).mergeSort (fun a b => !ltD b a) = (rs.mergeSort leR).map rowT := by
    refine (List.map_mergeSort (f := rowT) (r := leR) (s := fun a b => !ltD b a) fun a _ b _ => ?_).symm
    rw [ltD_rows, Bool.not_not]
  rw [e2]
  have e3 : rs.mergeSort leR = sortR rs := by
    refine List.Perm.eq_of_pairwise (le := fun a b => leR a b = true) (fun _ _ _ _ a b => leR_anti a b) ?_ (sortR_sorted rs) ((List.mergeSort_perm ..).trans (sortR_perm rs).symm)
    exact List.pairwise_mergeSort (le := leR) (fun _ _ _ => leR_trans) leR_total rs
  rw [e3]
def minR (r : List Int) (rs : List (List Int)) : List Int := rs.foldl (fun a y => if leR a y then a else y) r
theorem minR_rows : ∀ (rs : List (List Int)) (r : List Int), (rs.map rowT).foldl (fun a y => if ltD y a then y else a) (rowT r) = rowT (minR r rs)
  | [], r => rfl
  | s :: rs, r => by
    rw [List.map_cons, List.foldl_cons, ltD_rows]
    unfold minR
    rw [List.foldl_cons]
    cases h : leR r s with
    | true => exact minR_rows rs r
    | false => exact minR_rows rs s
theorem minDT_rows (r : List Int) (rs : List (List Int)) : minDT [.lst ((r :: rs).map rowT)] = some (rowT (minR r rs)) := by
  have e1 : (dOks 30 ((r :: rs).map rowT) && alB (toDs ((r :: rs).map rowT)) && ((r :: rs).map rowT).all nnT) = true := by rw [dOks_rows, alB_rows, nnT_rows]; rfl
  show (if (dOks 30 ((r :: rs).map rowT) && alB (toDs ((r :: rs).map rowT)) && ((r :: rs).map rowT).all nnT) = true then some _ else none) = _
  rw [if_pos e1]
  exact congrArg some (minR_rows rs r)
theorem minR_least : ∀ (rs : List (List Int)) (r : List Int), (∀ s ∈ rs, leR r s = true) → minR r rs = r
  | [], r, _ => rfl
  | s :: rs, r, h => by
    unfold minR
    rw [List.foldl_cons, h s (List.mem_cons_self ..), if_pos rfl]
    exact minR_least rs r fun t ht => h t (List.mem_cons_of_mem _ ht)
end Tc

/-! Tc: backward reading, more rules; rows of ints. -/
namespace Tc
open PySem PySem.Spec L2
section
variable {r : Sl} {ξ : Xp} {ψ : T → Sl → Prop} {a b : Ec}
theorem WE_bor (h : WE (a r) (fun t _ => scal t = true ∧ ψ t r) noX) : WE (cBor a r) ψ ξ := by
  unfold cBor
  cases z : a r with
  | ok t r1 => rw [z] at h; simp only [h.go.1, if_true]; exact ⟨h.go.2⟩
  | ex c w r => rw [z] at h; exact h.go.elim
  | no => rw [z] at h; exact h.go.elim
theorem WE_borC {ψ : Bool → Sl → Prop} {c : Cc} (h : WE (c r) (fun t _ => ψ t r) noX) : WE (cBorC c r) ψ ξ := by
  unfold cBorC
  cases z : c r with
  | ok t r1 => rw [z] at h; exact ⟨h.go⟩
  | ex c w r => rw [z] at h; exact h.go.elim
  | no => rw [z] at h; exact h.go.elim
theorem WE_mt {f : List T → T → Option T} (h : WE (a r) (fun x r1 => ∃ xs, x = .lst xs ∧ WE (b r1) (fun y r2 => ∃ z, f xs y = some z ∧ ψ z r2) ξ) ξ) : WE (cMt f a b r) ψ ξ :=
  WE_bind (h.imp fun x r1 ⟨xs, e, h1⟩ => by
    subst e
    exact WE_bind (h1.imp fun y r2 ⟨z, e, q⟩ => by rw [e]; exact ⟨q⟩))
/-- a comprehension, with an invariant -/
theorem WE_lcJ {own : List Nat} {I : Ac} {g : Gc} {C : Cc} {E : Ec} (J : List T → Nat → List T → Sl → Prop) (h : WE (I r) (fun ts r1 => ts.length < 1000000 ∧ J ts 0 [] (wipeT r1 own) ∧
    (∀ i t acc r, ts[i]? = some t → J ts i acc r → ∃ s, g t r = some s ∧ WE (C s) (fun z r2 => (z = true → WE (E r2) (fun y r3 => J ts (i + 1) (acc ++ [y]) (wipeT r3 own)) noX) ∧ (z = false → J ts (i + 1) acc (wipeT r2 own))) noX) ∧
    ∀ acc r, J ts ts.length acc r → ψ (.lst acc) (backT r1 r own)) ξ) : WE (cLc own I g C E r) ψ ξ := by
  refine WE_bind (h.imp fun ts r1 ⟨hl, h0, hs, q⟩ => WE_bind ?_)
  have key : ∀ (us pre acc : List T) (r : Sl), pre ++ us = ts → acc.length ≤ pre.length → J ts pre.length acc r → WE (lcGo own g C E us acc r) (fun acc r => J ts ts.length acc r) noX := by
    intro us
    induction us with
    | nil =>
      intro pre acc r e _ hJ
      rw [List.append_nil] at e
      subst e
      exact ⟨hJ⟩
    | cons u us ih =>
      intro pre acc r e ha hJ
      have hu : ts[pre.length]? = some u := by rw [← e]; simp
      obtain ⟨s, e1, w⟩ := hs _ u acc r hu hJ
      have e2 : (pre ++ [u]) ++ us = ts := by rw [← e]; simp
      have e3 : (pre ++ [u]).length = pre.length + 1 := by simp
      unfold lcGo
      simp only [e1]
      cases z : C s with
      | ok b s2 =>
        rw [z] at w
        obtain ⟨w1, w2⟩ := w.go
        cases b with
        | false =>
          simp only
          exact ih (pre ++ [u]) acc _ e2 (by omega) (by rw [e3]; exact w2 rfl)
        | true =>
          have w3 := w1 rfl
          simp only
          cases y : E s2 with
          | ok t s3 =>
            rw [y] at w3
            have hlen : acc.length < 1000000 := by
              have : pre.length ≤ ts.length := by rw [← e]; simp
              omega
            simp only [hlen, if_true]
            exact ih (pre ++ [u]) (acc ++ [t]) _ e2 (by simp; omega) (by rw [e3]; exact w3.go)
          | ex n w s3 => rw [y] at w3; exact w3.go.elim
          | no => rw [y] at w3; exact w3.go.elim
      | ex n v s2 => rw [z] at w; exact w.go.elim
      | no => rw [z] at w; exact w.go.elim
  have k := key ts [] [] (wipeT r1 own) rfl (Nat.le_refl _) h0
  cases z : lcGo own g C E ts [] (wipeT r1 own) with
  | ok acc r2 => rw [z] at k; exact ⟨⟨q acc r2 k.go⟩⟩
  | ex n v s2 => rw [z] at k; exact k.go.elim
  | no => rw [z] at k; exact k.go.elim
/-- a comprehension over written-down items whose parts change nothing -/
theorem WE_lcM {α : Type} {own : List Nat} {I : Ac} {g : Gc} {C : Cc} {E : Ec} (enc : α → T) (xs : List α) (p : α → Bool) (f : α → T) (h : WE (I r) (fun ts r1 => ts = xs.map enc ∧ xs.length < 1000000 ∧ (∀ k ∈ own, k < r1.length) ∧
    (∀ x ∈ xs, ∃ q, g (enc x) (wipeT r1 own) = some q ∧ WE (C q) (fun z r2 => z = p x ∧ (p x = false → wipeT r2 own = wipeT r1 own) ∧ (p x = true → WE (E r2) (fun y r3 => y = f x ∧ wipeT r3 own = wipeT r1 own) noX)) noX) ∧ ψ (.lst ((xs.filter p).map f)) r1) ξ) : WE (cLc own I g C E r) ψ ξ := by
  refine WE_bind (h.imp fun ts r1 ⟨e, hl, hw, ht, q⟩ => WE_bind ?_)
  subst e
  have key : ∀ (us : List α) (acc : List T), (∀ t ∈ us, t ∈ xs) → acc.length + us.length < 1000000 → lcGo own g C E (us.map enc) acc (wipeT r1 own) = .ok (acc ++ (us.filter p).map f) (wipeT r1 own) := by
    intro us
    induction us with
    | nil => intro acc _ _; simp [lcGo]
    | cons u us ih =>
      intro acc hm hn
      rw [List.length_cons] at hn
      obtain ⟨s, e1, w⟩ := ht u (hm u (List.mem_cons_self ..))
      rw [List.map_cons]
      unfold lcGo
      simp only [e1]
      cases z : C s with
      | ok b s2 =>
        rw [z] at w
        obtain ⟨w1, w2, w3⟩ := w.go
        subst w1
        cases hp : p u with
        | false =>
          simp only [hp]
          rw [w2 hp, ih acc (fun t h => hm t (List.mem_cons_of_mem _ h)) (by omega)]
          simp [hp]
        | true =>
          simp only [hp]
          have w4 := w3 hp
          cases y : E s2 with
          | ok t s3 =>
            rw [y] at w4
            obtain ⟨w5, w6⟩ := w4.go
            subst w5
            simp only [show acc.length < 1000000 by omega, if_true]
            rw [w6, ih (acc ++ [f u]) (fun t h => hm t (List.mem_cons_of_mem _ h)) (by rw [List.length_append, List.length_singleton]; omega)]
            simp [hp]
          | ex n w s3 => rw [y] at w4; exact w4.go.elim
          | no => rw [y] at w4; exact w4.go.elim
      | ex n v s2 => rw [z] at w; exact w.go.elim
      | no => rw [z] at w; exact w.go.elim
  rw [key xs [] (fun _ h => h) (by simpa using hl)]
  refine ⟨⟨?_⟩⟩
  show ψ (.lst _) (backT r1 (wipeT r1 own) own)
  rw [wipe_back own r1 hw]
  exact q
end
/-! ### rows of ints -/
def rangeI (lo hi : Int) : List Int := (List.range (hi - lo).toNat).map fun (k : Nat) => lo + (k : Int)
theorem rangeT_I (lo hi : Int) : rangeT lo hi = (rangeI lo hi).map T.int := by unfold rangeT rangeI; rw [List.map_map]; rfl
theorem rangeI_mem {lo hi x : Int} : x ∈ rangeI lo hi ↔ lo ≤ x ∧ x < hi := by
  unfold rangeI
  constructor
  · intro h
    obtain ⟨k, hk, rfl⟩ := List.mem_map.mp h
    have := List.mem_range.mp hk
    omega
  · intro h
    exact List.mem_map.mpr ⟨(x - lo).toNat, List.mem_range.mpr (by omega), by show lo + ((x - lo).toNat : Int) = x; omega⟩
theorem rangeI_len (lo hi : Int) : (rangeI lo hi).length = (hi - lo).toNat := by unfold rangeI; rw [List.length_map, List.length_range]
theorem rangeI_map {α : Type} {n : Nat} {hi : Int} (h : hi = n) (f : Int → α) : (rangeI 0 hi).map f = (List.range n).map fun (k : Nat) => f k := by
  subst h
  unfold rangeI
  rw [List.map_map, show ((n : Int) - 0).toNat = n by omega]
  exact List.map_congr_left fun k _ => by show f (0 + (k : Int)) = f k; rw [Int.zero_add]
theorem addT_row {x y : List Int} (h : x.length + y.length ≤ LIM) : addT (rowT x) (rowT y) = some (rowT (x ++ y)) := by
  unfold rowT
  simp only [addT, List.length_map, h, if_true, List.map_append]
theorem lenT_row {x : List Int} (h : x.length ≤ LIM) : lenT [rowT x] = some (.int x.length) := by
  unfold rowT
  simp only [lenT, List.length_map, h, if_true]
theorem sumT_row (x : List Int) : sumT [rowT x] = some (.int x.sum) := by
  show (intsT (x.map T.int)).map _ = _
  rw [intsT_map]; rfl
theorem maxT_row (x : List Int) : maxT [rowT x] = (maxI x).map .int := by
  show ((intsT (x.map T.int)).bind maxI).map T.int = _
  rw [intsT_map]; rfl
theorem minT_row (x : List Int) : minT [rowT x] = (minI x).map .int := by
  show ((intsT (x.map T.int)).bind minI).map T.int = _
  rw [intsT_map]; rfl
theorem ixT_row {x : List Int} {i : Int} {k : Nat} (e : i = k) (h : k < x.length) : ixT (rowT x) (.int i) = some (.int x[k]) := by
  subst e
  show atI (x.map T.int) k = _
  exact atI_nat (by rw [List.getElem?_map, List.getElem?_eq_getElem h]; rfl)
theorem ixT_rows {x : List (List Int)} {i : Int} {k : Nat} (e : i = k) (h : k < x.length) : ixT (.lst (x.map rowT)) (.int i) = some (rowT x[k]) := by
  subst e
  show atI (x.map rowT) k = _
  exact atI_nat (by rw [List.getElem?_map, List.getElem?_eq_getElem h]; rfl)
theorem sIx_int {n : Nat} {d : Nat} {i : Int} {k : Nat} (e : i = k) (h : k ≤ n) : HT.sIx n d (some i) = k := by
  subst e
  rw [HT.sIx_nat]
  omega
theorem slT_row (x : List Int) {lo hi : Option Int} {a b : Nat} (h1 : HT.sIx x.length 0 lo = a) (h2 : HT.sIx x.length x.length hi = b) : slT (rowT x) lo hi = some (rowT ((x.drop a).take (b - a))) := by
  unfold rowT
  simp only [slT, cutT, List.length_map, h1, h2]
  rw [← List.map_drop, ← List.map_take]
theorem eqBs_refl_ints : ∀ x : List Int, eqBs (x.map T.int) (x.map T.int) = true
  | [] => rfl
  | n :: ns => by
    show (eqB (T.int n) (T.int n) && eqBs (ns.map T.int) (ns.map T.int)) = true
    rw [eqBs_refl_ints ns]
    show ((n == n) && true) = true
    simp
theorem eqBs_ints : ∀ x y : List Int, eqBs (x.map T.int) (y.map T.int) = decide (x = y)
  | [], [] => rfl
  | [], _ :: _ => rfl
  | _ :: _, [] => rfl
  | n :: ns, m :: ms => by
    show (eqB (T.int n) (T.int m) && eqBs (ns.map T.int) (ms.map T.int)) = _
    rw [eqBs_ints ns ms]
    show ((n == m) && _) = _
    by_cases h : n = m <;> by_cases h2 : ns = ms <;> simp [h, h2]
theorem dOk_row (r : List Int) : dOk 30 (rowT r) = true := dOks_ints 29 r
theorem eqT_row (x y : List Int) : eqT (rowT x) (rowT y) = some (.bl (decide (x = y))) := by
  unfold eqT
  rw [dOk_row, dOk_row]
  show some (T.bl (eqBs (x.map T.int) (y.map T.int))) = _
  rw [eqBs_ints]
theorem neT_row (x y : List Int) : neT (rowT x) (rowT y) = some (.bl (!decide (x = y))) := by
  unfold neT
  rw [dOk_row, dOk_row]
  show some (T.bl (!eqBs (x.map T.int) (y.map T.int))) = _
  rw [eqBs_ints]
theorem indexT_row {x : List Int} {n : Int} (h : n ∈ x) : ∃ k : Int, indexT (x.map T.int) (.int n) = some (.int k) := by
  unfold indexT
  have e : (dOk 30 (.lst (x.map T.int)) && dOk 30 (.int n)) = true := by
    have := dOk_row x
    rw [show dOk 30 (T.lst (x.map T.int)) = true from this]; rfl
  rw [if_pos e]
  have hs : ((x.map T.int).findIdx? fun y => eqB y (.int n)).isSome = true := by
    rw [List.findIdx?_isSome]
    exact List.any_eq_true.mpr ⟨.int n, List.mem_map.mpr ⟨n, h, rfl⟩, by show (n == n) = true; simp⟩
  obtain ⟨j, hj⟩ := Option.isSome_iff_exists.mp hs
  rw [hj]
  exact ⟨j, rfl⟩
theorem maxI_some {x : List Int} (h : 0 < x.length) : ∃ a, maxI x = some a ∧ a ∈ x ∧ ∀ y ∈ x, y ≤ a := by
  cases x with
  | nil => simp at h
  | cons n ns => exact ⟨_, rfl, (foldl_max ns n).1, (foldl_max ns n).2⟩
theorem minI_some {x : List Int} (h : 0 < x.length) : ∃ a, minI x = some a ∧ a ∈ x ∧ ∀ y ∈ x, a ≤ y := by
  cases x with
  | nil => simp at h
  | cons n ns => exact ⟨_, rfl, (foldl_min ns n).1, (foldl_min ns n).2⟩
theorem pl_row {x : List Int} (n : Nat) (h : x.length < 1000000) : pl (n + 2) (rowT x) = true := by
  unfold rowT
  unfold pl
  rw [List.length_map]
  refine Bool.and_eq_true_iff.mpr ⟨decide_eq_true h, List.all_eq_true.mpr fun t ht => ?_⟩
  obtain ⟨i, _, rfl⟩ := List.mem_map.mp ht
  unfold pl
  rfl
theorem pl_rows {x : List (List Int)} (n : Nat) (h : x.length < 1000000) (h2 : ∀ r ∈ x, r.length < 1000000) : pl (n + 3) (.lst (x.map rowT)) = true := by
  unfold pl
  rw [List.length_map]
  refine Bool.and_eq_true_iff.mpr ⟨decide_eq_true h, List.all_eq_true.mpr fun t ht => ?_⟩
  obtain ⟨i, hi, rfl⟩ := List.mem_map.mp ht
  exact pl_row n (h2 i hi)
end Tc

set_option maxHeartbeats 0
namespace G
open PySem PySem.Spec L2 Tc
/-! what each def computes -/
def m_law_all : Fc := fnM false 6 (cSeq (cSet 2 (cLst (cCons (cLst cNil) cNil)))
 (cSeq (cFor (cRange1 (cCons (cVar 0) cNil)) (gSet 3)
 (cSet 2 (cApp sumLT (cCons (cLc [4] (cItems (cVar 2)) (gSet 4) cTrue (cLc [5] (cItems (cTup (cCons (cK (.int 0)) (cCons (cK (.int 1)) cNil)))) (gSet 5) (cAndC (cB (cBin leT (cBin addT (cApp sumT (cCons (cVar 4) cNil)) (cVar 5)) (cVar 1))) (cB (cBin geT (cBin subT (cBin subT (cBin addT (cBin addT (cApp sumT (cCons (cVar 4) cNil)) (cVar 5)) (cVar 0)) (cVar 3)) (cK (.int 1))) (cVar 1)))) (cBin addT (cVar 4) (cLst (cCons (cVar 5) cNil))))) (cCons (cLst cNil) cNil)))))
 (cRet (cVar 2))))
abbrev m_law_cell := Tc.cm_law_cell
abbrev m_law_generator := Tc.cm_law_generator
abbrev m_law_hash := Tc.cm_law_hash
abbrev m_law_random := Tc.cm_law_random
def m_law_round_uneven : Fc := fnM false 5 (cSeq (cSet 1 (cBin addT (cVar 0) (cVar 0)))
 (cSeq (cFor (cRange2 (cCons (cK (.int 1)) (cCons (cApp lenT (cCons (cVar 0) cNil)) cNil))) (gSet 2)
 (cSeq (cSet 3 (cLc [4] (cRange1 (cCons (cApp lenT (cCons (cVar 0) cNil)) cNil)) (gSet 4) cTrue (cApp sumT (cCons (cSl slT (cVar 1) (cP1 (cVar 4)) (cP1 (cBin addT (cVar 4) (cVar 2)))) cNil))))
 (cIfS (cB (cBin gtT (cBin subT (cApp maxT (cCons (cVar 3) cNil)) (cApp minT (cCons (cVar 3) cNil))) (cK (.int 1))))
 (cRet (cTup (cCons (cMt indexT (cVar 3) (cApp minT (cCons (cVar 3) cNil))) (cCons (cMt indexT (cVar 3) (cApp maxT (cCons (cVar 3) cNil))) (cCons (cVar 2) cNil)))))
 cNx)))
 (cRet (cK .non))))
abbrev m_law_same := Tc.cm_law_same
def m_law_turns : Fc := fnM false 2 (cRet (cLc [1] (cRange1 (cCons (cApp lenT (cCons (cVar 0) cNil)) cNil)) (gSet 1) cTrue (cBin addT (cSl slT (cVar 0) (cP1 (cVar 1)) cP0) (cSl slT (cVar 0) cP0 (cP1 (cVar 1))))))
abbrev m_is_whole := Tc.cm_is_whole
abbrev m_is_count := Tc.cm_is_count
abbrev m_is_below := Tc.cm_is_below
def m_is_row : Fc := fnM false 2 (cSeq (cIfS (cOrC (cNotC (cB (cUn (isiT .list) (cVar 0)))) (cB (cBin gtT (cApp lenT (cCons (cVar 0) cNil)) (cK (.int 60)))))
 (cRet (cK (.bl false)))
 cNx)
 (cRet (cBin eqT (cLc [1] (cItems (cVar 0)) (gSet 1) (cNotC (cB (cCall m_is_below (cCons (cVar 1) (cCons (cK (.int 2)) cNil))))) (cVar 1)) (cLst cNil))))
def m_check_round : Fc := fnM false 1 (cIfS (cOrC (cNotC (cB (cCall m_is_row (cCons (cVar 0) cNil)))) (cB (cBin eqT (cVar 0) (cLst cNil))))
 cNo
 cNx)
def m_heights : Fc := fnM false 3 (cSeq (cSet 1 (cLst (cCons (cK (.int 0)) cNil)))
 (cSeq (cFor (cItems (cVar 0)) (gSet 2)
 (cApnd 1 (cBin addT (cPix 1 (cUn negT (cK (.int 1)))) (cVar 2))))
 (cRet (cVar 1))))
def m_round_sums : Fc := fnM false 4 (cSeq (cSet 2 (cCall m_heights (cCons (cBin addT (cVar 0) (cVar 0)) cNil)))
 (cRet (cLc [3] (cRange1 (cCons (cApp lenT (cCons (cVar 0) cNil)) cNil)) (gSet 3) cTrue (cBin subT (cBin ixT (cVar 2) (cBin addT (cVar 3) (cVar 1))) (cBin ixT (cVar 2) (cVar 3))))))
def m_found_stretches : Fc := fnM false 3 (cSeq (cFor (cRange2 (cCons (cK (.int 1)) (cCons (cApp lenT (cCons (cVar 0) cNil)) cNil))) (gSet 1)
 (cSeq (cSet 2 (cCall m_round_sums (cCons (cVar 0) (cCons (cVar 1) cNil))))
 (cIfS (cB (cBin gtT (cBin subT (cApp maxT (cCons (cVar 2) cNil)) (cApp minT (cCons (cVar 2) cNil))) (cK (.int 1))))
 (cRet (cTup (cCons (cMt indexT (cVar 2) (cApp minT (cCons (cVar 2) cNil))) (cCons (cMt indexT (cVar 2) (cApp maxT (cCons (cVar 2) cNil))) (cCons (cVar 1) cNil)))))
 cNx)))
 (cRet (cK .non)))
def m_is_even_round : Fc := fnM false 1 (cSeq (cDrop (cCall m_check_round (cCons (cVar 0) cNil)))
 (cRet (cBin isT (cCall m_found_stretches (cCons (cVar 0) cNil)) (cK .non))))
def m_check_counts : Fc := fnM false 2 (cSeq (cIfS (cOrC (cNotC (cB (cCall m_is_whole (cCons (cVar 0) cNil)))) (cNotC (cB (cChain leT leT (cK (.int 1)) (cVar 0) (cK (.int 60))))))
 cNo
 cNx)
 (cIfS (cOrC (cNotC (cB (cCall m_is_count (cCons (cVar 1) cNil)))) (cB (cBin gtT (cVar 1) (cVar 0))))
 cNo
 cNx))
def m_spread : Fc := fnM false 3 (cRet (cLc [2] (cRange1 (cCons (cVar 0) cNil)) (gSet 2) cTrue (cBin subT (cBin fdivT (cBin mulT (cVar 1) (cBin addT (cVar 2) (cK (.int 1)))) (cVar 0)) (cBin fdivT (cBin mulT (cVar 1) (cVar 2)) (cVar 0)))))
def m_round_row : Fc := fnM false 2 (cSeq (cDrop (cCall m_check_counts (cCons (cVar 0) (cCons (cVar 1) cNil))))
 (cRet (cCall m_spread (cCons (cVar 0) (cCons (cVar 1) cNil)))))
def m_law : Fc := fnM false 12 (cSeq (cPar2 8 9 (cCons (cCall m_law_generator (cCons (cVar 0) (cCons (cK (.int 0)) cNil))) (cCons (cCall m_law_generator (cCons (cVar 0) (cCons (cK (.int 1)) cNil))) cNil)))
 (cSeq (cSet 1 (cBin addT (cK (.int 1)) (cCallG m_law_random 8 (cCons (cK (.int 11)) cNil))))
 (cSeq (cSet 2 (cCallG m_law_random 8 (cCons (cBin addT (cVar 1) (cK (.int 1))) cNil)))
 (cSeq (cSet 3 (cCall m_round_row (cCons (cVar 1) (cCons (cVar 2) cNil))))
 (cSeq (cSet 4 (cLc [7] (cItems (cCall m_law_all (cCons (cVar 1) (cCons (cVar 2) cNil)))) (gSet 7) (cB (cBin isT (cCall m_law_round_uneven (cCons (cVar 7) cNil)) (cK .non))) (cVar 7)))
 (cSeq (cIfS (cOrC (cNotC (cB (cBor (cCall (m_law_same 12) (cCons (cVar 3) (cCons (cBin ixT (cVar 4) (cK (.int 0))) cNil)))))) (cNotC (cB (cBor (cCall (m_law_same 12) (cCons (cApp sortDT (cCons (cVar 4) cNil)) (cCons (cLc [10, 11] (cEnum (cCons (cApp sortDT (cCons (cCall m_law_turns (cCons (cVar 3) cNil)) cNil)) cNil)) (gTupT (gConsT (gSet 10) (gConsT (gSet 11) gNilT))) (cOrC (cB (cBin eqT (cVar 10) (cK (.int 0)))) (cB (cBin neT (cBin ixT (cApp sortDT (cCons (cCall m_law_turns (cCons (cVar 3) cNil)) cNil)) (cBin subT (cVar 10) (cK (.int 1)))) (cVar 11)))) (cVar 11)) cNil)))))))
 (cRet (cK (.bl false)))
 cNx)
 (cSeq (cApnd 3 (cK (.int 7)))
 (cSeq (cIfS (cNotC (cB (cCall (m_law_same 12) (cCons (cCallK m_round_row [1, 0] (cCons (cVar 2) (cCons (cVar 1) cNil))) (cCons (cBin ixT (cVar 4) (cK (.int 0))) cNil)))))
 (cRet (cK (.bl false)))
 cNx)
 (cSeq (cSet 5 (cBin addT (cK (.int 1)) (cCallG m_law_random 9 (cCons (cK (.int 60)) cNil))))
 (cSeq (cSet 6 (cCallG m_law_random 9 (cCons (cBin addT (cVar 5) (cK (.int 1))) cNil)))
 (cSeq (cSet 7 (cCall m_round_row (cCons (cVar 5) (cCons (cVar 6) cNil))))
 (cSeq (cIfS (cOrC (cB (cBin neT (cApp lenT (cCons (cVar 7) cNil)) (cVar 5))) (cOrC (cB (cBin neT (cApp sumT (cCons (cVar 7) cNil)) (cVar 6))) (cOrC (cB (cBin isNT (cCall m_law_round_uneven (cCons (cVar 7) cNil)) (cK .non))) (cOrC (cB (cBin neT (cVar 7) (cApp minDT (cCons (cCall m_law_turns (cCons (cVar 7) cNil)) cNil)))) (cB (cBin isNT (cCall m_is_even_round (cCons (cVar 7) cNil)) (cK (.bl true))))))))
 (cRet (cK (.bl false)))
 cNx)
 (cRet (cCall (m_law_same 12) (cCons (cLst (cCons (cCall m_round_row (cCons (cK (.int 8)) (cCons (cK (.int 3)) cNil))) (cCons (cCall m_round_row (cCons (cK (.int 6)) (cCons (cK (.int 4)) cNil))) (cCons (cCall m_round_row (cCons (cK (.int 5)) (cCons (cK (.int 0)) cNil))) (cCons (cCall m_round_row (cCons (cK (.int 1)) (cCons (cK (.int 1)) cNil))) cNil))))) (cCons (cLst (cCons (cLst (cCons (cK (.int 0)) (cCons (cK (.int 0)) (cCons (cK (.int 1)) (cCons (cK (.int 0)) (cCons (cK (.int 0)) (cCons (cK (.int 1)) (cCons (cK (.int 0)) (cCons (cK (.int 1)) cNil))))))))) (cCons (cLst (cCons (cK (.int 0)) (cCons (cK (.int 1)) (cCons (cK (.int 1)) (cCons (cK (.int 0)) (cCons (cK (.int 1)) (cCons (cK (.int 1)) cNil))))))) (cCons (cBin mulT (cLst (cCons (cK (.int 0)) cNil)) (cK (.int 5))) (cCons (cLst (cCons (cK (.int 1)) cNil)) cNil))))) cNil))))))))))))))))
end G
namespace G
open PySem PySem.Spec L2 Tc
/-! the text -/
def top (i : Nat) : Stmt := PySem.Challenge.pw_spreadline_k43_whole_one_even_round_row.main.body.getD i (.Pass ⟨0, 0, 0, 0⟩)
structure Tp (K : PySem.W.Frag) (mg : Str → Option Value) : Type where
  a_law_all : Addr
  d_law_all : FuncData
  t_law_all : TopD K mg "_law_all" (top 28) a_law_all d_law_all
  a_law_cell : Addr
  d_law_cell : FuncData
  t_law_cell : TopD K mg "_law_cell" (top 23) a_law_cell d_law_cell
  a_law_generator : Addr
  d_law_generator : FuncData
  t_law_generator : TopD K mg "_law_generator" (top 24) a_law_generator d_law_generator
  a_law_hash : Addr
  d_law_hash : FuncData
  t_law_hash : TopD K mg "_law_hash" (top 21) a_law_hash d_law_hash
  a_law_random : Addr
  d_law_random : FuncData
  t_law_random : TopD K mg "_law_random" (top 22) a_law_random d_law_random
  a_law_round_uneven : Addr
  d_law_round_uneven : FuncData
  t_law_round_uneven : TopD K mg "_law_round_uneven" (top 27) a_law_round_uneven d_law_round_uneven
  a_law_same : Addr
  d_law_same : FuncData
  t_law_same : TopD K mg "_law_same" (top 25) a_law_same d_law_same
  a_law_turns : Addr
  d_law_turns : FuncData
  t_law_turns : TopD K mg "_law_turns" (top 26) a_law_turns d_law_turns
  a_is_whole : Addr
  d_is_whole : FuncData
  t_is_whole : TopD K mg "is_whole" (top 5) a_is_whole d_is_whole
  a_is_count : Addr
  d_is_count : FuncData
  t_is_count : TopD K mg "is_count" (top 8) a_is_count d_is_count
  a_is_below : Addr
  d_is_below : FuncData
  t_is_below : TopD K mg "is_below" (top 9) a_is_below d_is_below
  a_is_row : Addr
  d_is_row : FuncData
  t_is_row : TopD K mg "is_row" (top 10) a_is_row d_is_row
  a_check_round : Addr
  d_check_round : FuncData
  t_check_round : TopD K mg "check_round" (top 13) a_check_round d_check_round
  a_heights : Addr
  d_heights : FuncData
  t_heights : TopD K mg "heights" (top 11) a_heights d_heights
  a_round_sums : Addr
  d_round_sums : FuncData
  t_round_sums : TopD K mg "round_sums" (top 14) a_round_sums d_round_sums
  a_found_stretches : Addr
  d_found_stretches : FuncData
  t_found_stretches : TopD K mg "found_stretches" (top 15) a_found_stretches d_found_stretches
  a_is_even_round : Addr
  d_is_even_round : FuncData
  t_is_even_round : TopD K mg "is_even_round" (top 16) a_is_even_round d_is_even_round
  a_check_counts : Addr
  d_check_counts : FuncData
  t_check_counts : TopD K mg "check_counts" (top 17) a_check_counts d_check_counts
  a_spread : Addr
  d_spread : FuncData
  t_spread : TopD K mg "spread" (top 18) a_spread d_spread
  a_round_row : Addr
  d_round_row : FuncData
  t_round_row : TopD K mg "round_row" (top 19) a_round_row d_round_row
  a_law : Addr
  d_law : FuncData
  t_law : TopD K mg "law" (top 29) a_law d_law
  b_bool : mg "bool" = none
  b_enumerate : mg "enumerate" = none
  b_int : mg "int" = none
  b_isinstance : mg "isinstance" = none
  b_len : mg "len" = none
  b_list : mg "list" = none
  b_max : mg "max" = none
  b_min : mg "min" = none
  b_range : mg "range" = none
  b_sorted : mg "sorted" = none
  b_str : mg "str" = none
  b_sum : mg "sum" = none
  b_tuple : mg "tuple" = none
  c_MOST_ROW : ∃ t, mg "MOST_ROW" = some (.int 60 t)
theorem bo_law_all : BindOk "_law_all" (top 28) ["number", "ones"] := fun kV doc pm an cdv ct us hl => match us, hl with | [_, _], _ => rfl
theorem sc_law_all : FnScope ["number", "ones", "rows", "place", "row", "letter"] ["number", "ones"] (defScope (top 28)) := ⟨rfl, rfl, rfl, by decide +kernel, rfl, by decide +kernel, by decide +kernel⟩
theorem bo_law_cell : BindOk "_law_cell" (top 23) ["script", "index"] := fun kV doc pm an cdv ct us hl => match us, hl with | [_, _], _ => rfl
theorem sc_law_cell : FnScope ["script", "index"] ["script", "index"] (defScope (top 23)) := ⟨rfl, rfl, rfl, by decide +kernel, rfl, by decide +kernel, by decide +kernel⟩
theorem bo_law_generator : BindOk "_law_generator" (top 24) ["script", "index"] := fun kV doc pm an cdv ct us hl => match us, hl with | [_, _], _ => rfl
theorem sc_law_generator : FnScope ["script", "index", "seed"] ["script", "index"] (defScope (top 24)) := ⟨rfl, rfl, rfl, by decide +kernel, rfl, by decide +kernel, by decide +kernel⟩
theorem bo_law_hash : BindOk "_law_hash" (top 21) ["seed", "index"] := fun kV doc pm an cdv ct us hl => match us, hl with | [_, _], _ => rfl
theorem sc_law_hash : FnScope ["seed", "index", "mixed"] ["seed", "index"] (defScope (top 21)) := ⟨rfl, rfl, rfl, by decide +kernel, rfl, by decide +kernel, by decide +kernel⟩
theorem bo_law_random : BindOk "_law_random" (top 22) ["generator", "bound"] := fun kV doc pm an cdv ct us hl => match us, hl with | [_, _], _ => rfl
theorem sc_law_random : FnScope ["generator", "bound", "drawn", "turn"] ["generator", "bound"] (defScope (top 22)) := ⟨rfl, rfl, rfl, by decide +kernel, rfl, by decide +kernel, by decide +kernel⟩
theorem bo_law_round_uneven : BindOk "_law_round_uneven" (top 27) ["row"] := fun kV doc pm an cdv ct us hl => match us, hl with | [_], _ => rfl
theorem sc_law_round_uneven : FnScope ["row", "both", "length", "told", "start"] ["row"] (defScope (top 27)) := ⟨rfl, rfl, rfl, by decide +kernel, rfl, by decide +kernel, by decide +kernel⟩
theorem bo_law_same : BindOk "_law_same" (top 25) ["told", "due"] := fun kV doc pm an cdv ct us hl => match us, hl with | [_, _], _ => rfl
theorem sc_law_same : FnScope ["told", "due", "at"] ["told", "due"] (defScope (top 25)) := ⟨rfl, rfl, rfl, by decide +kernel, rfl, by decide +kernel, by decide +kernel⟩
theorem bo_law_turns : BindOk "_law_turns" (top 26) ["row"] := fun kV doc pm an cdv ct us hl => match us, hl with | [_], _ => rfl
theorem sc_law_turns : FnScope ["row", "at"] ["row"] (defScope (top 26)) := ⟨rfl, rfl, rfl, by decide +kernel, rfl, by decide +kernel, by decide +kernel⟩
theorem bo_is_whole : BindOk "is_whole" (top 5) ["value"] := fun kV doc pm an cdv ct us hl => match us, hl with | [_], _ => rfl
theorem sc_is_whole : FnScope ["value"] ["value"] (defScope (top 5)) := ⟨rfl, rfl, rfl, by decide +kernel, rfl, by decide +kernel, by decide +kernel⟩
theorem bo_is_count : BindOk "is_count" (top 8) ["value"] := fun kV doc pm an cdv ct us hl => match us, hl with | [_], _ => rfl
theorem sc_is_count : FnScope ["value"] ["value"] (defScope (top 8)) := ⟨rfl, rfl, rfl, by decide +kernel, rfl, by decide +kernel, by decide +kernel⟩
theorem bo_is_below : BindOk "is_below" (top 9) ["value", "bound"] := fun kV doc pm an cdv ct us hl => match us, hl with | [_, _], _ => rfl
theorem sc_is_below : FnScope ["value", "bound"] ["value", "bound"] (defScope (top 9)) := ⟨rfl, rfl, rfl, by decide +kernel, rfl, by decide +kernel, by decide +kernel⟩
theorem bo_is_row : BindOk "is_row" (top 10) ["value"] := fun kV doc pm an cdv ct us hl => match us, hl with | [_], _ => rfl
theorem sc_is_row : FnScope ["value", "letter"] ["value"] (defScope (top 10)) := ⟨rfl, rfl, rfl, by decide +kernel, rfl, by decide +kernel, by decide +kernel⟩
theorem bo_check_round : BindOk "check_round" (top 13) ["row"] := fun kV doc pm an cdv ct us hl => match us, hl with | [_], _ => rfl
theorem sc_check_round : FnScope ["row"] ["row"] (defScope (top 13)) := ⟨rfl, rfl, rfl, by decide +kernel, rfl, by decide +kernel, by decide +kernel⟩
theorem bo_heights : BindOk "heights" (top 11) ["row"] := fun kV doc pm an cdv ct us hl => match us, hl with | [_], _ => rfl
theorem sc_heights : FnScope ["row", "told", "letter"] ["row"] (defScope (top 11)) := ⟨rfl, rfl, rfl, by decide +kernel, rfl, by decide +kernel, by decide +kernel⟩
theorem bo_round_sums : BindOk "round_sums" (top 14) ["row", "length"] := fun kV doc pm an cdv ct us hl => match us, hl with | [_, _], _ => rfl
theorem sc_round_sums : FnScope ["row", "length", "ahead", "start"] ["row", "length"] (defScope (top 14)) := ⟨rfl, rfl, rfl, by decide +kernel, rfl, by decide +kernel, by decide +kernel⟩
theorem bo_found_stretches : BindOk "found_stretches" (top 15) ["row"] := fun kV doc pm an cdv ct us hl => match us, hl with | [_], _ => rfl
theorem sc_found_stretches : FnScope ["row", "length", "sums"] ["row"] (defScope (top 15)) := ⟨rfl, rfl, rfl, by decide +kernel, rfl, by decide +kernel, by decide +kernel⟩
theorem bo_is_even_round : BindOk "is_even_round" (top 16) ["row"] := fun kV doc pm an cdv ct us hl => match us, hl with | [_], _ => rfl
theorem sc_is_even_round : FnScope ["row"] ["row"] (defScope (top 16)) := ⟨rfl, rfl, rfl, by decide +kernel, rfl, by decide +kernel, by decide +kernel⟩
theorem bo_check_counts : BindOk "check_counts" (top 17) ["number", "other_number"] := fun kV doc pm an cdv ct us hl => match us, hl with | [_, _], _ => rfl
theorem sc_check_counts : FnScope ["number", "other_number"] ["number", "other_number"] (defScope (top 17)) := ⟨rfl, rfl, rfl, by decide +kernel, rfl, by decide +kernel, by decide +kernel⟩
theorem bo_spread : BindOk "spread" (top 18) ["number", "ones"] := fun kV doc pm an cdv ct us hl => match us, hl with | [_, _], _ => rfl
theorem sc_spread : FnScope ["number", "ones", "place"] ["number", "ones"] (defScope (top 18)) := ⟨rfl, rfl, rfl, by decide +kernel, rfl, by decide +kernel, by decide +kernel⟩
theorem bo_round_row : BindOk "round_row" (top 19) ["number", "other_number"] := fun kV doc pm an cdv ct us hl => match us, hl with | [_, _], _ => rfl
theorem sc_round_row : FnScope ["number", "other_number"] ["number", "other_number"] (defScope (top 19)) := ⟨rfl, rfl, rfl, by decide +kernel, rfl, by decide +kernel, by decide +kernel⟩
theorem bo_law : BindOk "law" (top 29) ["script"] := fun kV doc pm an cdv ct us hl => match us, hl with | [_], _ => rfl
theorem sc_law : FnScope ["script", "number", "ones", "told", "even", "wide", "many", "row", "generator", "other", "at", "turn"] ["script"] (defScope (top 29)) := ⟨rfl, rfl, rfl, by decide +kernel, rfl, by decide +kernel, by decide +kernel⟩
theorem kw_round_row_1_0 : ∀ (kV doc pm : Value) (an : Option Addr) (cdv ct : Value) (ws : List Value), ws.length = [("other_number" : Str), ("number" : Str)].length → bindArgs (PySem.W.fnOf "round_row" "round_row" (defArgs (top 19)) (defBody (top 19)) (defScope (top 19)) .none kV doc pm an cdv ct) ⟨[], (["other_number", "number"] : List Str).zip ws⟩ = pure ((["number", "other_number"] : List Str).zip (pick [1, 0] ws)) := fun kV doc pm an cdv ct ws hl => match ws, hl with | [_, _], _ => rfl
section
variable {P : Program} {w : World} {K : PySem.W.Frag} {mg : Str → Option Value} {base : Heap}
theorem g_law_all (T : Tp K mg) : FnG P w K mg base 4 T.a_law_all T.d_law_all ["number", "ones"] (spX K false false 2 m_law_all) :=
  FnG.of (N := ["number", "ones", "rows", "place", "row", "letter"]) (F := cSeq (cSet 2 (cLst (cCons (cLst cNil) cNil)))
 (cSeq (cFor (cRange1 (cCons (cVar 0) cNil)) (gSet 3)
 (cSet 2 (cApp sumLT (cCons (cLc [4] (cItems (cVar 2)) (gSet 4) cTrue (cLc [5] (cItems (cTup (cCons (cK (.int 0)) (cCons (cK (.int 1)) cNil)))) (gSet 5) (cAndC (cB (cBin leT (cBin addT (cApp sumT (cCons (cVar 4) cNil)) (cVar 5)) (cVar 1))) (cB (cBin geT (cBin subT (cBin subT (cBin addT (cBin addT (cApp sumT (cCons (cVar 4) cNil)) (cVar 5)) (cVar 0)) (cVar 3)) (cK (.int 1))) (cVar 1)))) (cBin addT (cVar 4) (cLst (cCons (cVar 5) cNil))))) (cCons (cLst cNil) cNil)))))
 (cRet (cVar 2)))) T.t_law_all.fd sc_law_all (fun _ => by decide) (P' := []) (fun h => nomatch h) (fun E g hg => by
  obtain rfl : g = none := hg rfl
  exact (bj_cons (sj_set (P' := []) 2 (ej_lst (aj_cons (ej_lst aj_nil) aj_nil)))
 (bj_cons (sj_for (ij_range1 (aj_cons (ej_var 0) aj_nil) (hm := by exact T.b_range)) (gj_name 3)
 (bj_one (sj_set (P' := []) 2 (ej_callB cl_sumLs sd_sumL (aj_cons (FJ.ej (fj_lc (on := [("row", 4)]) (ij_seq (ej_var 2)) (by rfl) (gj_name 4) ifj_nil (FJ.ej (fj_lc (on := [("letter", 5)]) (ij_seq (ej_tup (aj_cons ej_int (aj_cons ej_int aj_nil)))) (by rfl) (gj_name 5) (ifj_one (WJ.cj (wj_and (cj_cmp (fun X h => op_le) sd_le (ej_bin op_add4 sd_add (ej_callB cl_sum sd_sum (aj_cons (ej_var 4) aj_nil) (hm := by exact T.b_sum)) (ej_var 5)) (ej_var 1) (by rfl)) (wj_and1 (cj_cmp (fun X h => op_ge) sd_ge (ej_bin (fun X h => op_sub) sd_sub (ej_bin (fun X h => op_sub) sd_sub (ej_bin op_add4 sd_add (ej_bin op_add4 sd_add (ej_callB cl_sum sd_sum (aj_cons (ej_var 4) aj_nil) (hm := by exact T.b_sum)) (ej_var 5)) (ej_var 0)) (ej_var 3)) ej_int) (ej_var 1) (by rfl)))))) (ej_bin op_add4 sd_add (ej_var 4) (ej_lst (aj_cons (ej_var 5) aj_nil))))))) (aj_cons (ej_lst aj_nil) aj_nil)) (hm := by exact T.b_sum)))))
 (bj_one (sj_ret (P' := []) (ej_var 2)))))) (fun h => nomatch h)
theorem g_law_cell (T : Tp K mg) : FnG P w K mg base 4 T.a_law_cell T.d_law_cell ["script", "index"] (spX K false false 2 m_law_cell) :=
  FnG.of (N := ["script", "index"]) (F := cSeq (cIfS (cB (cBin ltT (cVar 1) (cApp lenT (cCons (cVar 0) cNil))))
 (cRet (cBin ixT (cVar 0) (cVar 1)))
 cNx)
 (cRet (cBin modT (cApp sumT (cCons (cSl slT (cVar 0) cP0 (cP1 (cK (.int 1)))) cNil)) (cK (.int 1000003))))) T.t_law_cell.fd sc_law_cell (fun _ => by decide) (P' := []) (fun h => nomatch h) (fun E g hg => by
  obtain rfl : g = none := hg rfl
  exact (bj_cons (sj_if (cj_cmp (fun X h => op_lt) sd_lt (ej_var 1) (ej_callB cl_len sd_len (aj_cons (ej_var 0) aj_nil) (hm := by exact T.b_len)) (by rfl))
 (bj_one (sj_ret (P' := []) (ej_ix (ej_var 0) (ej_var 1))))
 bj_nil)
 (bj_one (sj_ret (P' := []) (ej_bin (fun X h => op_mod) sd_mod (ej_callB cl_sum sd_sum (aj_cons (ej_sl (ej_var 0) oj_none (oj_some ej_int)) aj_nil) (hm := by exact T.b_sum)) ej_int))))) (fun h => nomatch h)
theorem g_law_generator (T : Tp K mg) : FnG P w K mg base 5 T.a_law_generator T.d_law_generator ["script", "index"] (spX K false true 2 m_law_generator) :=
  FnG.of (N := ["script", "index", "seed"]) (F := cSeq (cSet 2 (cCall m_law_cell (cCons (cVar 0) (cCons (cVar 1) cNil))))
 (cRet (cLst (cCons (cBin modT (cApp intT (cCons (cApp max2T (cCons (cBin subT (cVar 2) (cBin powT (cK (.int 10)) (cK (.int 18)))) (cCons (cK (.int 0)) cNil))) cNil)) (cBin powT (cBin powT (cK (.int 10)) (cK (.int 60))) (cK (.int 10)))) (cCons (cBin modT (cApp intT (cCons (cVar 2) cNil)) (cK (.int 2147483647))) (cCons (cBin mulT (cK (.int 1000)) (cVar 1)) cNil)))))) T.t_law_generator.fd sc_law_generator (fun _ => by decide) (P' := []) (fun h => nomatch h) (fun E g hg => by
  obtain rfl : g = none := hg rfl
  exact (bj_cons (sj_set (P' := []) 2 (ej_call (T.t_law_cell.callee bo_law_cell (g_law_cell T) _) (aj_cons (ej_var 0) (aj_cons (ej_var 1) aj_nil))))
 (bj_one (sj_retF (P' := []) (fj_lst (aj_cons (ej_bin (fun X h => op_mod) sd_mod (ej_callTy cl_int sd_intF (aj_cons (ej_callB cl_max2 sd_max2 (aj_cons (ej_bin (fun X h => op_sub) sd_sub (ej_var 2) (ej_bin (fun X h => op_powW) sd_pow ej_int ej_int)) (aj_cons ej_int aj_nil)) (hm := by exact T.b_max)) aj_nil) (hm := by exact T.b_int)) (ej_bin (fun X h => op_powW) sd_pow (ej_bin (fun X h => op_powW) sd_pow ej_int ej_int) ej_int)) (aj_cons (ej_bin (fun X h => op_mod) sd_mod (ej_callTy cl_int sd_intF (aj_cons (ej_var 2) aj_nil) (hm := by exact T.b_int)) ej_int) (aj_cons (ej_bin op_mul2 sd_mul ej_int (ej_var 1)) aj_nil)))))))) (fun _ => (cSeq_nn cRet_nn))
theorem g_law_hash (T : Tp K mg) : FnG P w K mg base 4 T.a_law_hash T.d_law_hash ["seed", "index"] (spX K false false 2 m_law_hash) :=
  FnG.of (N := ["seed", "index", "mixed"]) (F := cSeq (cSet 2 (cBin modT (cApp intT (cCons (cBin addT (cBin addT (cBin addT (cBin mulT (cVar 0) (cK (.int 1140671))) (cBin mulT (cBin mulT (cK (.int 27644437)) (cVar 1)) (cVar 1))) (cBin mulT (cK (.int 131)) (cVar 1))) (cK (.int 19))) cNil)) (cK (.int 2147483629))))
 (cSeq (cSet 2 (cBin modT (cApp intT (cCons (cBin addT (cBin addT (cBin mulT (cVar 2) (cVar 2)) (cBin mulT (cK (.int 62089)) (cVar 1))) (cK (.int 32416187))) cNil)) (cK (.int 2147483587))))
 (cRet (cBin modT (cApp intT (cCons (cBin mulT (cVar 2) (cK (.int 48271))) cNil)) (cK (.int 2147483647)))))) T.t_law_hash.fd sc_law_hash (fun _ => by decide) (P' := []) (fun h => nomatch h) (fun E g hg => by
  obtain rfl : g = none := hg rfl
  exact (bj_cons (sj_set (P' := []) 2 (ej_bin (fun X h => op_mod) sd_mod (ej_callTy cl_int sd_intF (aj_cons (ej_bin op_add4 sd_add (ej_bin op_add4 sd_add (ej_bin op_add4 sd_add (ej_bin op_mul2 sd_mul (ej_var 0) ej_int) (ej_bin op_mul2 sd_mul (ej_bin op_mul2 sd_mul ej_int (ej_var 1)) (ej_var 1))) (ej_bin op_mul2 sd_mul ej_int (ej_var 1))) ej_int) aj_nil) (hm := by exact T.b_int)) ej_int))
 (bj_cons (sj_set (P' := []) 2 (ej_bin (fun X h => op_mod) sd_mod (ej_callTy cl_int sd_intF (aj_cons (ej_bin op_add4 sd_add (ej_bin op_add4 sd_add (ej_bin op_mul2 sd_mul (ej_var 2) (ej_var 2)) (ej_bin op_mul2 sd_mul ej_int (ej_var 1))) ej_int) aj_nil) (hm := by exact T.b_int)) ej_int))
 (bj_one (sj_ret (P' := []) (ej_bin (fun X h => op_mod) sd_mod (ej_callTy cl_int sd_intF (aj_cons (ej_bin op_mul2 sd_mul (ej_var 2) ej_int) aj_nil) (hm := by exact T.b_int)) ej_int)))))) (fun h => nomatch h)
theorem g_law_random (T : Tp K mg) : FnG P w K mg base 5 T.a_law_random T.d_law_random ["generator", "bound"] (spX K true false 2 m_law_random) :=
  FnG.of (N := ["generator", "bound", "drawn", "turn"]) (F := cSeq (cIfS (cB (cBin gtT (cPix 0 (cK (.int 0))) (cK (.int 0))))
 (cSeq (cSet 2 (cBin modT (cApp intT (cCons (cPix 0 (cK (.int 0))) cNil)) (cVar 1)))
 (cSeq (cPut 0 (cK (.int 0)) (cBin fdivT (cPix 0 (cK (.int 0))) (cVar 1)))
 (cRet (cVar 2))))
 cNx)
 (cSeq (cSet 2 (cK (.int 0)))
 (cSeq (cFor (cRange1 (cCons (cBin addT (cK (.int 1)) (cBin fdivT (cUn bitsT (cVar 1)) (cK (.int 30)))) cNil)) (gSet 3)
 (cSeq (cPut 0 (cK (.int 2)) (cBin addT (cPix 0 (cK (.int 2))) (cK (.int 1))))
 (cSet 2 (cBin addT (cBin mulT (cVar 2) (cK (.int 2147483587))) (cCall m_law_hash (cCons (cPix 0 (cK (.int 1))) (cCons (cPix 0 (cK (.int 2))) cNil)))))))
 (cRet (cBin modT (cApp intT (cCons (cVar 2) cNil)) (cVar 1)))))) T.t_law_random.fd sc_law_random (fun _ => by decide) (P' := [0]) (fun _ => by decide) (fun E g hg => by
  exact (bj_cons (sj_if (cj_cmp (fun X h => op_gt) sd_gt (ej_pix 0 ej_int) ej_int (by rfl))
 (bj_cons (sj_set (P' := [0]) 2 (ej_bin (fun X h => op_mod) sd_mod (ej_callTy cl_int sd_intF (aj_cons (ej_pix 0 ej_int) aj_nil) (hm := by exact T.b_int)) (ej_var 1)))
 (bj_cons (sj_put 0 (ej_bin (fun X h => op_fdivW) sd_fdiv (ej_pix 0 ej_int) (ej_var 1)) ej_int)
 (bj_one (sj_ret (P' := [0]) (ej_var 2)))))
 bj_nil)
 (bj_cons (sj_set (P' := [0]) 2 ej_int)
 (bj_cons (sj_for (ij_range1 (aj_cons (ej_bin op_add4 sd_add ej_int (ej_bin (fun X h => op_fdivW) sd_fdiv (ej_bits (ej_var 1)) ej_int)) aj_nil) (hm := by exact T.b_range)) (gj_name 3)
 (bj_cons (sj_put 0 (ej_bin op_add4 sd_add (ej_pix 0 ej_int) ej_int) ej_int)
 (bj_one (sj_set (P' := [0]) 2 (ej_bin op_add4 sd_add (ej_bin op_mul2 sd_mul (ej_var 2) ej_int) (ej_call (T.t_law_hash.callee bo_law_hash (g_law_hash T) _) (aj_cons (ej_pix 0 ej_int) (aj_cons (ej_pix 0 ej_int) aj_nil))))))))
 (bj_one (sj_ret (P' := [0]) (ej_bin (fun X h => op_mod) sd_mod (ej_callTy cl_int sd_intF (aj_cons (ej_var 2) aj_nil) (hm := by exact T.b_int)) (ej_var 1)))))))) (fun h => nomatch h)
theorem g_law_round_uneven (T : Tp K mg) : FnG P w K mg base 4 T.a_law_round_uneven T.d_law_round_uneven ["row"] (spX K false false 1 m_law_round_uneven) :=
  FnG.of (N := ["row", "both", "length", "told", "start"]) (F := cSeq (cSet 1 (cBin addT (cVar 0) (cVar 0)))
 (cSeq (cFor (cRange2 (cCons (cK (.int 1)) (cCons (cApp lenT (cCons (cVar 0) cNil)) cNil))) (gSet 2)
 (cSeq (cSet 3 (cLc [4] (cRange1 (cCons (cApp lenT (cCons (cVar 0) cNil)) cNil)) (gSet 4) cTrue (cApp sumT (cCons (cSl slT (cVar 1) (cP1 (cVar 4)) (cP1 (cBin addT (cVar 4) (cVar 2)))) cNil))))
 (cIfS (cB (cBin gtT (cBin subT (cApp maxT (cCons (cVar 3) cNil)) (cApp minT (cCons (cVar 3) cNil))) (cK (.int 1))))
 (cRet (cTup (cCons (cMt indexT (cVar 3) (cApp minT (cCons (cVar 3) cNil))) (cCons (cMt indexT (cVar 3) (cApp maxT (cCons (cVar 3) cNil))) (cCons (cVar 2) cNil)))))
 cNx)))
 (cRet (cK .non)))) T.t_law_round_uneven.fd sc_law_round_uneven (fun _ => by decide) (P' := []) (fun h => nomatch h) (fun E g hg => by
  obtain rfl : g = none := hg rfl
  exact (bj_cons (sj_set (P' := []) 1 (ej_bin op_add4 sd_add (ej_var 0) (ej_var 0)))
 (bj_cons (sj_for (ij_range2 (aj_cons ej_int (aj_cons (ej_callB cl_len sd_len (aj_cons (ej_var 0) aj_nil) (hm := by exact T.b_len)) aj_nil)) (hm := by exact T.b_range)) (gj_name 2)
 (bj_cons (sj_setLc (P' := []) 3 (on := [("start", 4)]) (ij_range1 (aj_cons (ej_callB cl_len sd_len (aj_cons (ej_var 0) aj_nil) (hm := by exact T.b_len)) aj_nil) (hm := by exact T.b_range)) (by rfl) (gj_name 4) ifj_nil (ej_callB cl_sum sd_sum (aj_cons (ej_sl (ej_var 1) (oj_some (ej_var 4)) (oj_some (ej_bin op_add4 sd_add (ej_var 4) (ej_var 2)))) aj_nil) (hm := by exact T.b_sum)) (fun env h => sw_lc h rfl rfl rfl rfl))
 (bj_one (sj_if (cj_cmp (fun X h => op_gt) sd_gt (ej_bin (fun X h => op_sub) sd_sub (ej_callB cl_max sd_max (aj_cons (ej_var 3) aj_nil) (hm := by exact T.b_max)) (ej_callB cl_min sd_min (aj_cons (ej_var 3) aj_nil) (hm := by exact T.b_min))) ej_int (by rfl))
 (bj_one (sj_ret (P' := []) (ej_tup (aj_cons (ej_index (by rfl) (ej_var 3) (ej_callB cl_min sd_min (aj_cons (ej_var 3) aj_nil) (hm := by exact T.b_min))) (aj_cons (ej_index (by rfl) (ej_var 3) (ej_callB cl_max sd_max (aj_cons (ej_var 3) aj_nil) (hm := by exact T.b_max))) (aj_cons (ej_var 2) aj_nil))))))
 bj_nil))))
 (bj_one (sj_ret (P' := []) ej_non))))) (fun h => nomatch h)
theorem g_law_same (T : Tp K mg) : ∀ n, FnG P w K mg base (3 + n) T.a_law_same T.d_law_same ["told", "due"] (spX K false false 2 (m_law_same n))
  | 0 => FnG.never
  | n + 1 => by
    have ih := g_law_same T n
    exact FnG.of (N := ["told", "due", "at"]) (F := cSeq (cIfS (cOrC (cB (cBin isT (cVar 1) (cK .non))) (cOrC (cB (cBin isT (cVar 1) (cK (.bl true)))) (cB (cBin isT (cVar 1) (cK (.bl false))))))
 (cRet (cIf (cB (cBin isT (cVar 1) (cK .non))) (cBin isT (cVar 0) (cK .non)) (cIf (cB (cBin isT (cVar 1) (cK (.bl true)))) (cBin isT (cVar 0) (cK (.bl true))) (cBin isT (cVar 0) (cK (.bl false))))))
 cNx)
 (cSeq (cIfS (cB (cUn (isisT [.list, .tuple]) (cVar 1)))
 (cSeq (cIfS (cOrC (cAndC (cNotC (cB (cUn (isiT .list) (cVar 0)))) (cB (cUn (isiT .list) (cVar 1)))) (cAndC (cNotC (cB (cUn (isiT .tuple) (cVar 0)))) (cB (cUn (isiT .tuple) (cVar 1)))))
 (cRet (cK (.bl false)))
 cNx)
 (cRet (cAndV (cBin eqT (cApp lenT (cCons (cVar 0) cNil)) (cApp lenT (cCons (cVar 1) cNil))) (cBin eqT (cLc [2] (cRange1 (cCons (cApp lenT (cCons (cVar 1) cNil)) cNil)) (gSet 2) (cNotC (cB (cCall (m_law_same n) (cCons (cBin ixT (cVar 0) (cVar 2)) (cCons (cBin ixT (cVar 1) (cVar 2)) cNil))))) (cVar 2)) (cLst cNil)))))
 cNx)
 (cSeq (cIfS (cB (cUn (isiT .int) (cVar 1)))
 (cRet (cAndV (cUn (isiT .int) (cVar 0)) (cAndV (cNotV (cUn (isiT .bool) (cVar 0))) (cBin eqT (cVar 0) (cVar 1)))))
 cNx)
 (cRet (cAndV (cUn (isiT .str) (cVar 0)) (cBin eqT (cVar 0) (cVar 1))))))) T.t_law_same.fd sc_law_same (fun _ => by decide) (P' := []) (fun h => nomatch h) (fun E g hg => by
  obtain rfl : g = none := hg rfl
  exact (bj_cons (sj_if (WJ.cj (wj_or (cj_cmp (fun X h => op_isC) sd_is (ej_var 1) ej_non (by rfl)) (wj_or (cj_cmp (fun X h => op_isC) sd_is (ej_var 1) ej_bl (by rfl)) (wj_or1 (cj_cmp (fun X h => op_isC) sd_is (ej_var 1) ej_bl (by rfl))))))
 (bj_one (sj_ret (P' := []) (ej_if (cj_cmp (fun X h => op_isC) sd_is (ej_var 1) ej_non (by rfl)) (ej_cmp (fun X h => op_isC) sd_is (ej_var 0) ej_non (by rfl)) (ej_if (cj_cmp (fun X h => op_isC) sd_is (ej_var 1) ej_bl (by rfl)) (ej_cmp (fun X h => op_isC) sd_is (ej_var 0) ej_bl (by rfl)) (ej_cmp (fun X h => op_isC) sd_is (ej_var 0) ej_bl (by rfl))))))
 bj_nil)
 (bj_cons (sj_if (cj_of (ej_isi2 .list .tuple (ej_var 1) (hm := by exact T.b_isinstance) (hm2 := by exact T.b_list) (hm3 := by exact T.b_tuple)))
 (bj_cons (sj_if (WJ.cj (wj_or (WJ.cj (wj_and (cj_not (cj_of (ej_isi .list (ej_var 0) (hm := by exact T.b_isinstance) (hm2 := by exact T.b_list)))) (wj_and1 (cj_of (ej_isi .list (ej_var 1) (hm := by exact T.b_isinstance) (hm2 := by exact T.b_list)))))) (wj_or1 (WJ.cj (wj_and (cj_not (cj_of (ej_isi .tuple (ej_var 0) (hm := by exact T.b_isinstance) (hm2 := by exact T.b_tuple)))) (wj_and1 (cj_of (ej_isi .tuple (ej_var 1) (hm := by exact T.b_isinstance) (hm2 := by exact T.b_tuple)))))))))
 (bj_one (sj_ret (P' := []) ej_bl))
 bj_nil)
 (bj_one (sj_ret (P' := []) (ej_and (ej_cmp op_eqK sd_eq (ej_callB cl_len sd_len (aj_cons (ej_var 0) aj_nil) (hm := by exact T.b_len)) (ej_callB cl_len sd_len (aj_cons (ej_var 1) aj_nil) (hm := by exact T.b_len)) (by rfl)) (ej_one (ej_cmp op_eqK sd_eq (FJ.ej (fj_lc (on := [("at", 2)]) (ij_range1 (aj_cons (ej_callB cl_len sd_len (aj_cons (ej_var 1) aj_nil) (hm := by exact T.b_len)) aj_nil) (hm := by exact T.b_range)) (by rfl) (gj_name 2) (ifj_one (cj_not (cj_of (ej_call (T.t_law_same.callee bo_law_same ih _) (aj_cons (ej_ix (ej_var 0) (ej_var 2)) (aj_cons (ej_ix (ej_var 1) (ej_var 2)) aj_nil)) (hk := by exact Nat.ble_eq_true_of_le (show 3 + n ≤ 3 + n by omega)))))) (ej_var 2))) (ej_lst aj_nil) (by rfl)))))))
 bj_nil)
 (bj_cons (sj_if (cj_of (ej_isi .int (ej_var 1) (hm := by exact T.b_isinstance) (hm2 := by exact T.b_int)))
 (bj_one (sj_ret (P' := []) (ej_and (ej_isi .int (ej_var 0) (hm := by exact T.b_isinstance) (hm2 := by exact T.b_int)) (ej_and (ej_not (ej_isi .bool (ej_var 0) (hm := by exact T.b_isinstance) (hm2 := by exact T.b_bool))) (ej_one (ej_cmp op_eqK sd_eq (ej_var 0) (ej_var 1) (by rfl)))))))
 bj_nil)
 (bj_one (sj_ret (P' := []) (ej_and (ej_isi .str (ej_var 0) (hm := by exact T.b_isinstance) (hm2 := by exact T.b_str)) (ej_one (ej_cmp op_eqK sd_eq (ej_var 0) (ej_var 1) (by rfl)))))))))) (fun h => nomatch h)
theorem g_law_turns (T : Tp K mg) : FnG P w K mg base 4 T.a_law_turns T.d_law_turns ["row"] (spX K false false 1 m_law_turns) :=
  FnG.of (N := ["row", "at"]) (F := cRet (cLc [1] (cRange1 (cCons (cApp lenT (cCons (cVar 0) cNil)) cNil)) (gSet 1) cTrue (cBin addT (cSl slT (cVar 0) (cP1 (cVar 1)) cP0) (cSl slT (cVar 0) cP0 (cP1 (cVar 1)))))) T.t_law_turns.fd sc_law_turns (fun _ => by decide) (P' := []) (fun h => nomatch h) (fun E g hg => by
  obtain rfl : g = none := hg rfl
  exact (bj_one (sj_ret (P' := []) (FJ.ej (fj_lc (on := [("at", 1)]) (ij_range1 (aj_cons (ej_callB cl_len sd_len (aj_cons (ej_var 0) aj_nil) (hm := by exact T.b_len)) aj_nil) (hm := by exact T.b_range)) (by rfl) (gj_name 1) ifj_nil (ej_bin op_add4 sd_add (ej_sl (ej_var 0) (oj_some (ej_var 1)) oj_none) (ej_sl (ej_var 0) oj_none (oj_some (ej_var 1))))))))) (fun h => nomatch h)
theorem g_is_whole (T : Tp K mg) : FnG P w K mg base 4 T.a_is_whole T.d_is_whole ["value"] (spX K false false 1 m_is_whole) :=
  FnG.of (N := ["value"]) (F := cRet (cAndV (cUn (isiT .int) (cVar 0)) (cNotV (cUn (isiT .bool) (cVar 0))))) T.t_is_whole.fd sc_is_whole (fun _ => by decide) (P' := []) (fun h => nomatch h) (fun E g hg => by
  obtain rfl : g = none := hg rfl
  exact (bj_one (sj_ret (P' := []) (ej_and (ej_isi .int (ej_var 0) (hm := by exact T.b_isinstance) (hm2 := by exact T.b_int)) (ej_one (ej_not (ej_isi .bool (ej_var 0) (hm := by exact T.b_isinstance) (hm2 := by exact T.b_bool)))))))) (fun h => nomatch h)
theorem g_is_count (T : Tp K mg) : FnG P w K mg base 5 T.a_is_count T.d_is_count ["value"] (spX K false false 1 m_is_count) :=
  FnG.of (N := ["value"]) (F := cRet (cAndV (cCall m_is_whole (cCons (cVar 0) cNil)) (cBin geT (cVar 0) (cK (.int 0))))) T.t_is_count.fd sc_is_count (fun _ => by decide) (P' := []) (fun h => nomatch h) (fun E g hg => by
  obtain rfl : g = none := hg rfl
  exact (bj_one (sj_ret (P' := []) (ej_and (ej_call (T.t_is_whole.callee bo_is_whole (g_is_whole T) _) (aj_cons (ej_var 0) aj_nil)) (ej_one (ej_cmp (fun X h => op_ge) sd_ge (ej_var 0) ej_int (by rfl))))))) (fun h => nomatch h)
theorem g_is_below (T : Tp K mg) : FnG P w K mg base 6 T.a_is_below T.d_is_below ["value", "bound"] (spX K false false 2 m_is_below) :=
  FnG.of (N := ["value", "bound"]) (F := cRet (cAndV (cCall m_is_count (cCons (cVar 0) cNil)) (cBin ltT (cVar 0) (cVar 1)))) T.t_is_below.fd sc_is_below (fun _ => by decide) (P' := []) (fun h => nomatch h) (fun E g hg => by
  obtain rfl : g = none := hg rfl
  exact (bj_one (sj_ret (P' := []) (ej_and (ej_call (T.t_is_count.callee bo_is_count (g_is_count T) _) (aj_cons (ej_var 0) aj_nil)) (ej_one (ej_cmp (fun X h => op_lt) sd_lt (ej_var 0) (ej_var 1) (by rfl))))))) (fun h => nomatch h)
theorem g_is_row (T : Tp K mg) : FnG P w K mg base 7 T.a_is_row T.d_is_row ["value"] (spX K false false 1 m_is_row) :=
  FnG.of (N := ["value", "letter"]) (F := cSeq (cIfS (cOrC (cNotC (cB (cUn (isiT .list) (cVar 0)))) (cB (cBin gtT (cApp lenT (cCons (cVar 0) cNil)) (cK (.int 60)))))
 (cRet (cK (.bl false)))
 cNx)
 (cRet (cBin eqT (cLc [1] (cItems (cVar 0)) (gSet 1) (cNotC (cB (cCall m_is_below (cCons (cVar 1) (cCons (cK (.int 2)) cNil))))) (cVar 1)) (cLst cNil)))) T.t_is_row.fd sc_is_row (fun _ => by decide) (P' := []) (fun h => nomatch h) (fun E g hg => by
  obtain rfl : g = none := hg rfl
  exact (bj_cons (sj_if (WJ.cj (wj_or (cj_not (cj_of (ej_isi .list (ej_var 0) (hm := by exact T.b_isinstance) (hm2 := by exact T.b_list)))) (wj_or1 (cj_cmp (fun X h => op_gt) sd_gt (ej_callB cl_len sd_len (aj_cons (ej_var 0) aj_nil) (hm := by exact T.b_len)) (ej_gint (by exact T.c_MOST_ROW)) (by rfl)))))
 (bj_one (sj_ret (P' := []) ej_bl))
 bj_nil)
 (bj_one (sj_ret (P' := []) (ej_cmp op_eqK sd_eq (FJ.ej (fj_lc (on := [("letter", 1)]) (ij_seq (ej_var 0)) (by rfl) (gj_name 1) (ifj_one (cj_not (cj_of (ej_call (T.t_is_below.callee bo_is_below (g_is_below T) _) (aj_cons (ej_var 1) (aj_cons ej_int aj_nil)))))) (ej_var 1))) (ej_lst aj_nil) (by rfl)))))) (fun h => nomatch h)
theorem g_check_round (T : Tp K mg) : FnG P w K mg base 8 T.a_check_round T.d_check_round ["row"] (spX K false false 1 m_check_round) :=
  FnG.of (N := ["row"]) (F := cIfS (cOrC (cNotC (cB (cCall m_is_row (cCons (cVar 0) cNil)))) (cB (cBin eqT (cVar 0) (cLst cNil))))
 cNo
 cNx) T.t_check_round.fd sc_check_round (fun _ => by decide) (P' := []) (fun h => nomatch h) (fun E g hg => by
  obtain rfl : g = none := hg rfl
  exact (bj_one (sj_if (WJ.cj (wj_or (cj_not (cj_of (ej_call (T.t_is_row.callee bo_is_row (g_is_row T) _) (aj_cons (ej_var 0) aj_nil)))) (wj_or1 (cj_cmp op_eqK sd_eq (ej_var 0) (ej_lst aj_nil) (by rfl)))))
 (bj_one (sj_no (P' := [])))
 bj_nil))) (fun h => nomatch h)
theorem g_heights (T : Tp K mg) : FnG P w K mg base 4 T.a_heights T.d_heights ["row"] (spX K false false 1 m_heights) :=
  FnG.of (N := ["row", "told", "letter"]) (F := cSeq (cSet 1 (cLst (cCons (cK (.int 0)) cNil)))
 (cSeq (cFor (cItems (cVar 0)) (gSet 2)
 (cApnd 1 (cBin addT (cPix 1 (cUn negT (cK (.int 1)))) (cVar 2))))
 (cRet (cVar 1)))) T.t_heights.fd sc_heights (fun _ => by decide) (P' := []) (fun h => nomatch h) (fun E g hg => by
  obtain rfl : g = none := hg rfl
  exact (bj_cons (sj_setF (P' := [1]) 1 (fj_lst (aj_cons ej_int aj_nil)))
 (bj_cons (sj_for (ij_seq (ej_var 0)) (gj_name 2)
 (bj_one (sj_app 1 (ej_bin op_add4 sd_add (ej_pix 1 (ej_un (fun X h => un_neg) sd_neg ej_int)) (ej_var 2)))))
 (bj_frz [] (bj_one (sj_ret (P' := []) (ej_var 1))))))) (fun h => nomatch h)
theorem g_round_sums (T : Tp K mg) : FnG P w K mg base 5 T.a_round_sums T.d_round_sums ["row", "length"] (spX K false false 2 m_round_sums) :=
  FnG.of (N := ["row", "length", "ahead", "start"]) (F := cSeq (cSet 2 (cCall m_heights (cCons (cBin addT (cVar 0) (cVar 0)) cNil)))
 (cRet (cLc [3] (cRange1 (cCons (cApp lenT (cCons (cVar 0) cNil)) cNil)) (gSet 3) cTrue (cBin subT (cBin ixT (cVar 2) (cBin addT (cVar 3) (cVar 1))) (cBin ixT (cVar 2) (cVar 3)))))) T.t_round_sums.fd sc_round_sums (fun _ => by decide) (P' := []) (fun h => nomatch h) (fun E g hg => by
  obtain rfl : g = none := hg rfl
  exact (bj_cons (sj_set (P' := []) 2 (ej_call (T.t_heights.callee bo_heights (g_heights T) _) (aj_cons (ej_bin op_add4 sd_add (ej_var 0) (ej_var 0)) aj_nil)))
 (bj_one (sj_ret (P' := []) (FJ.ej (fj_lc (on := [("start", 3)]) (ij_range1 (aj_cons (ej_callB cl_len sd_len (aj_cons (ej_var 0) aj_nil) (hm := by exact T.b_len)) aj_nil) (hm := by exact T.b_range)) (by rfl) (gj_name 3) ifj_nil (ej_bin (fun X h => op_sub) sd_sub (ej_ix (ej_var 2) (ej_bin op_add4 sd_add (ej_var 3) (ej_var 1))) (ej_ix (ej_var 2) (ej_var 3))))))))) (fun h => nomatch h)
theorem g_found_stretches (T : Tp K mg) : FnG P w K mg base 6 T.a_found_stretches T.d_found_stretches ["row"] (spX K false false 1 m_found_stretches) :=
  FnG.of (N := ["row", "length", "sums"]) (F := cSeq (cFor (cRange2 (cCons (cK (.int 1)) (cCons (cApp lenT (cCons (cVar 0) cNil)) cNil))) (gSet 1)
 (cSeq (cSet 2 (cCall m_round_sums (cCons (cVar 0) (cCons (cVar 1) cNil))))
 (cIfS (cB (cBin gtT (cBin subT (cApp maxT (cCons (cVar 2) cNil)) (cApp minT (cCons (cVar 2) cNil))) (cK (.int 1))))
 (cRet (cTup (cCons (cMt indexT (cVar 2) (cApp minT (cCons (cVar 2) cNil))) (cCons (cMt indexT (cVar 2) (cApp maxT (cCons (cVar 2) cNil))) (cCons (cVar 1) cNil)))))
 cNx)))
 (cRet (cK .non))) T.t_found_stretches.fd sc_found_stretches (fun _ => by decide) (P' := []) (fun h => nomatch h) (fun E g hg => by
  obtain rfl : g = none := hg rfl
  exact (bj_cons (sj_for (ij_range2 (aj_cons ej_int (aj_cons (ej_callB cl_len sd_len (aj_cons (ej_var 0) aj_nil) (hm := by exact T.b_len)) aj_nil)) (hm := by exact T.b_range)) (gj_name 1)
 (bj_cons (sj_set (P' := []) 2 (ej_call (T.t_round_sums.callee bo_round_sums (g_round_sums T) _) (aj_cons (ej_var 0) (aj_cons (ej_var 1) aj_nil))))
 (bj_one (sj_if (cj_cmp (fun X h => op_gt) sd_gt (ej_bin (fun X h => op_sub) sd_sub (ej_callB cl_max sd_max (aj_cons (ej_var 2) aj_nil) (hm := by exact T.b_max)) (ej_callB cl_min sd_min (aj_cons (ej_var 2) aj_nil) (hm := by exact T.b_min))) ej_int (by rfl))
 (bj_one (sj_ret (P' := []) (ej_tup (aj_cons (ej_index (by rfl) (ej_var 2) (ej_callB cl_min sd_min (aj_cons (ej_var 2) aj_nil) (hm := by exact T.b_min))) (aj_cons (ej_index (by rfl) (ej_var 2) (ej_callB cl_max sd_max (aj_cons (ej_var 2) aj_nil) (hm := by exact T.b_max))) (aj_cons (ej_var 1) aj_nil))))))
 bj_nil))))
 (bj_one (sj_ret (P' := []) ej_non)))) (fun h => nomatch h)
theorem g_is_even_round (T : Tp K mg) : FnG P w K mg base 9 T.a_is_even_round T.d_is_even_round ["row"] (spX K false false 1 m_is_even_round) :=
  FnG.of (N := ["row"]) (F := cSeq (cDrop (cCall m_check_round (cCons (cVar 0) cNil)))
 (cRet (cBin isT (cCall m_found_stretches (cCons (cVar 0) cNil)) (cK .non)))) T.t_is_even_round.fd sc_is_even_round (fun _ => by decide) (P' := []) (fun h => nomatch h) (fun E g hg => by
  obtain rfl : g = none := hg rfl
  exact (bj_cons (sj_drop (ej_call (T.t_check_round.callee bo_check_round (g_check_round T) _) (aj_cons (ej_var 0) aj_nil)))
 (bj_one (sj_ret (P' := []) (ej_cmp (fun X h => op_isC) sd_is (ej_call (T.t_found_stretches.callee bo_found_stretches (g_found_stretches T) _) (aj_cons (ej_var 0) aj_nil)) ej_non (by rfl)))))) (fun h => nomatch h)
theorem g_check_counts (T : Tp K mg) : FnG P w K mg base 6 T.a_check_counts T.d_check_counts ["number", "other_number"] (spX K false false 2 m_check_counts) :=
  FnG.of (N := ["number", "other_number"]) (F := cSeq (cIfS (cOrC (cNotC (cB (cCall m_is_whole (cCons (cVar 0) cNil)))) (cNotC (cB (cChain leT leT (cK (.int 1)) (cVar 0) (cK (.int 60))))))
 cNo
 cNx)
 (cIfS (cOrC (cNotC (cB (cCall m_is_count (cCons (cVar 1) cNil)))) (cB (cBin gtT (cVar 1) (cVar 0))))
 cNo
 cNx)) T.t_check_counts.fd sc_check_counts (fun _ => by decide) (P' := []) (fun h => nomatch h) (fun E g hg => by
  obtain rfl : g = none := hg rfl
  exact (bj_cons (sj_if (WJ.cj (wj_or (cj_not (cj_of (ej_call (T.t_is_whole.callee bo_is_whole (g_is_whole T) _) (aj_cons (ej_var 0) aj_nil)))) (wj_or1 (cj_not (cj_chain (fun X h => op_le) sd_le (fun X h => op_le) sd_le ej_int (ej_var 0) (ej_gint (by exact T.c_MOST_ROW)))))))
 (bj_one (sj_no (P' := [])))
 bj_nil)
 (bj_one (sj_if (WJ.cj (wj_or (cj_not (cj_of (ej_call (T.t_is_count.callee bo_is_count (g_is_count T) _) (aj_cons (ej_var 1) aj_nil)))) (wj_or1 (cj_cmp (fun X h => op_gt) sd_gt (ej_var 1) (ej_var 0) (by rfl)))))
 (bj_one (sj_no (P' := [])))
 bj_nil)))) (fun h => nomatch h)
theorem g_spread (T : Tp K mg) : FnG P w K mg base 4 T.a_spread T.d_spread ["number", "ones"] (spX K false true 2 m_spread) :=
  FnG.of (N := ["number", "ones", "place"]) (F := cRet (cLc [2] (cRange1 (cCons (cVar 0) cNil)) (gSet 2) cTrue (cBin subT (cBin fdivT (cBin mulT (cVar 1) (cBin addT (cVar 2) (cK (.int 1)))) (cVar 0)) (cBin fdivT (cBin mulT (cVar 1) (cVar 2)) (cVar 0))))) T.t_spread.fd sc_spread (fun _ => by decide) (P' := []) (fun h => nomatch h) (fun E g hg => by
  obtain rfl : g = none := hg rfl
  exact (bj_one (sj_retF (P' := []) (fj_lc (on := [("place", 2)]) (ij_range1 (aj_cons (ej_var 0) aj_nil) (hm := by exact T.b_range)) (by rfl) (gj_name 2) ifj_nil (ej_bin (fun X h => op_sub) sd_sub (ej_bin (fun X h => op_fdivW) sd_fdiv (ej_bin op_mul2 sd_mul (ej_var 1) (ej_bin op_add4 sd_add (ej_var 2) ej_int)) (ej_var 0)) (ej_bin (fun X h => op_fdivW) sd_fdiv (ej_bin op_mul2 sd_mul (ej_var 1) (ej_var 2)) (ej_var 0))))))) (fun _ => cRet_nn)
theorem g_round_row (T : Tp K mg) : FnG P w K mg base 7 T.a_round_row T.d_round_row ["number", "other_number"] (spX K false true 2 m_round_row) :=
  FnG.of (N := ["number", "other_number"]) (F := cSeq (cDrop (cCall m_check_counts (cCons (cVar 0) (cCons (cVar 1) cNil))))
 (cRet (cCall m_spread (cCons (cVar 0) (cCons (cVar 1) cNil))))) T.t_round_row.fd sc_round_row (fun _ => by decide) (P' := []) (fun h => nomatch h) (fun E g hg => by
  obtain rfl : g = none := hg rfl
  exact (bj_cons (sj_drop (ej_call (T.t_check_counts.callee bo_check_counts (g_check_counts T) _) (aj_cons (ej_var 0) (aj_cons (ej_var 1) aj_nil))))
 (bj_one (sj_retF (P' := []) (fj_call (T.t_spread.callee bo_spread (g_spread T) _) (aj_cons (ej_var 0) (aj_cons (ej_var 1) aj_nil))))))) (fun _ => (cSeq_nn cRet_nn))
theorem g_law (T : Tp K mg) : FnG P w K mg base 17 T.a_law T.d_law ["script"] (spX K false false 1 m_law) :=
  FnG.of (N := ["script", "number", "ones", "told", "even", "wide", "many", "row", "generator", "other", "at", "turn"]) (F := cSeq (cPar2 8 9 (cCons (cCall m_law_generator (cCons (cVar 0) (cCons (cK (.int 0)) cNil))) (cCons (cCall m_law_generator (cCons (cVar 0) (cCons (cK (.int 1)) cNil))) cNil)))
 (cSeq (cSet 1 (cBin addT (cK (.int 1)) (cCallG m_law_random 8 (cCons (cK (.int 11)) cNil))))
 (cSeq (cSet 2 (cCallG m_law_random 8 (cCons (cBin addT (cVar 1) (cK (.int 1))) cNil)))
 (cSeq (cSet 3 (cCall m_round_row (cCons (cVar 1) (cCons (cVar 2) cNil))))
 (cSeq (cSet 4 (cLc [7] (cItems (cCall m_law_all (cCons (cVar 1) (cCons (cVar 2) cNil)))) (gSet 7) (cB (cBin isT (cCall m_law_round_uneven (cCons (cVar 7) cNil)) (cK .non))) (cVar 7)))
 (cSeq (cIfS (cOrC (cNotC (cB (cBor (cCall (m_law_same 12) (cCons (cVar 3) (cCons (cBin ixT (cVar 4) (cK (.int 0))) cNil)))))) (cNotC (cB (cBor (cCall (m_law_same 12) (cCons (cApp sortDT (cCons (cVar 4) cNil)) (cCons (cLc [10, 11] (cEnum (cCons (cApp sortDT (cCons (cCall m_law_turns (cCons (cVar 3) cNil)) cNil)) cNil)) (gTupT (gConsT (gSet 10) (gConsT (gSet 11) gNilT))) (cOrC (cB (cBin eqT (cVar 10) (cK (.int 0)))) (cB (cBin neT (cBin ixT (cApp sortDT (cCons (cCall m_law_turns (cCons (cVar 3) cNil)) cNil)) (cBin subT (cVar 10) (cK (.int 1)))) (cVar 11)))) (cVar 11)) cNil)))))))
 (cRet (cK (.bl false)))
 cNx)
 (cSeq (cApnd 3 (cK (.int 7)))
 (cSeq (cIfS (cNotC (cB (cCall (m_law_same 12) (cCons (cCallK m_round_row [1, 0] (cCons (cVar 2) (cCons (cVar 1) cNil))) (cCons (cBin ixT (cVar 4) (cK (.int 0))) cNil)))))
 (cRet (cK (.bl false)))
 cNx)
 (cSeq (cSet 5 (cBin addT (cK (.int 1)) (cCallG m_law_random 9 (cCons (cK (.int 60)) cNil))))
 (cSeq (cSet 6 (cCallG m_law_random 9 (cCons (cBin addT (cVar 5) (cK (.int 1))) cNil)))
 (cSeq (cSet 7 (cCall m_round_row (cCons (cVar 5) (cCons (cVar 6) cNil))))
 (cSeq (cIfS (cOrC (cB (cBin neT (cApp lenT (cCons (cVar 7) cNil)) (cVar 5))) (cOrC (cB (cBin neT (cApp sumT (cCons (cVar 7) cNil)) (cVar 6))) (cOrC (cB (cBin isNT (cCall m_law_round_uneven (cCons (cVar 7) cNil)) (cK .non))) (cOrC (cB (cBin neT (cVar 7) (cApp minDT (cCons (cCall m_law_turns (cCons (cVar 7) cNil)) cNil)))) (cB (cBin isNT (cCall m_is_even_round (cCons (cVar 7) cNil)) (cK (.bl true))))))))
 (cRet (cK (.bl false)))
 cNx)
 (cRet (cCall (m_law_same 12) (cCons (cLst (cCons (cCall m_round_row (cCons (cK (.int 8)) (cCons (cK (.int 3)) cNil))) (cCons (cCall m_round_row (cCons (cK (.int 6)) (cCons (cK (.int 4)) cNil))) (cCons (cCall m_round_row (cCons (cK (.int 5)) (cCons (cK (.int 0)) cNil))) (cCons (cCall m_round_row (cCons (cK (.int 1)) (cCons (cK (.int 1)) cNil))) cNil))))) (cCons (cLst (cCons (cLst (cCons (cK (.int 0)) (cCons (cK (.int 0)) (cCons (cK (.int 1)) (cCons (cK (.int 0)) (cCons (cK (.int 0)) (cCons (cK (.int 1)) (cCons (cK (.int 0)) (cCons (cK (.int 1)) cNil))))))))) (cCons (cLst (cCons (cK (.int 0)) (cCons (cK (.int 1)) (cCons (cK (.int 1)) (cCons (cK (.int 0)) (cCons (cK (.int 1)) (cCons (cK (.int 1)) cNil))))))) (cCons (cBin mulT (cLst (cCons (cK (.int 0)) cNil)) (cK (.int 5))) (cCons (cLst (cCons (cK (.int 1)) cNil)) cNil))))) cNil)))))))))))))))) T.t_law.fd sc_law (fun _ => by decide) (P' := []) (fun h => nomatch h) (fun E g hg => by
  obtain rfl : g = none := hg rfl
  exact (bj_cons (sj_par2 (P' := [8, 9]) 8 9 [8] (mj_f (fj_call (T.t_law_generator.callee bo_law_generator (g_law_generator T) _) (aj_cons (ej_var 0) (aj_cons ej_int aj_nil))) (mj_f (fj_call (T.t_law_generator.callee bo_law_generator (g_law_generator T) _) (aj_cons (ej_var 0) (aj_cons ej_int aj_nil))) mj_nil)))
 (bj_cons (sj_set (P' := [8, 9]) 1 (ej_bin op_add4 sd_add ej_int (ej_callG 8 (T.t_law_random.callee bo_law_random (g_law_random T) _) (aj_cons ej_int aj_nil))))
 (bj_cons (sj_set (P' := [8, 9]) 2 (ej_callG 8 (T.t_law_random.callee bo_law_random (g_law_random T) _) (aj_cons (ej_bin op_add4 sd_add (ej_var 1) ej_int) aj_nil)))
 (bj_frz [9] (bj_cons (sj_setF (P' := [3, 9]) 3 (fj_call (T.t_round_row.callee bo_round_row (g_round_row T) _) (aj_cons (ej_var 1) (aj_cons (ej_var 2) aj_nil))))
 (bj_cons (sj_setLc (P' := [3, 9]) 4 (on := [("row", 7)]) (ij_seq (ej_call (T.t_law_all.callee bo_law_all (g_law_all T) _) (aj_cons (ej_var 1) (aj_cons (ej_var 2) aj_nil)))) (by rfl) (gj_name 7) (ifj_one (cj_cmp (fun X h => op_isC) sd_is (ej_call (T.t_law_round_uneven.callee bo_law_round_uneven (g_law_round_uneven T) _) (aj_cons (ej_var 7) aj_nil)) ej_non (by rfl))) (ej_var 7) (fun env h => sw_lc h rfl rfl rfl rfl))
 (bj_cons (sj_if (WJ.cj (wj_or (cj_not (cj_of (ej_bor (ej_call (T.t_law_same.callee bo_law_same (g_law_same T 12) _) (aj_cons (ej_var 3) (aj_cons (ej_ix (ej_var 4) ej_int) aj_nil)))))) (wj_or1 (cj_not (cj_of (ej_bor (ej_call (T.t_law_same.callee bo_law_same (g_law_same T 12) _) (aj_cons (FJ.ej (fj_callB cl_sortD sf_sortD (aj_cons (ej_var 4) aj_nil) (hm := by exact T.b_sorted))) (aj_cons (FJ.ej (fj_lc (on := [("at", 10), ("turn", 11)]) (ij_enum (aj_cons (FJ.ej (fj_callB cl_sortD sf_sortD (aj_cons (ej_call (T.t_law_turns.callee bo_law_turns (g_law_turns T) _) (aj_cons (ej_var 3) aj_nil)) aj_nil) (hm := by exact T.b_sorted))) aj_nil) (hm := by exact T.b_enumerate)) (by rfl) (gj_tup (gsj_cons (gj_name 10) (gsj_cons (gj_name 11) gsj_nil)) (hl := (gCons_len (gCons_len gNil_len)))) (ifj_one (WJ.cj (wj_or (cj_cmp op_eqK sd_eq (ej_var 10) ej_int (by rfl)) (wj_or1 (cj_cmp op_neK sd_ne (ej_ix (FJ.ej (fj_callB cl_sortD sf_sortD (aj_cons (ej_call (T.t_law_turns.callee bo_law_turns (g_law_turns T) _) (aj_cons (ej_var 3) aj_nil)) aj_nil) (hm := by exact T.b_sorted))) (ej_bin (fun X h => op_sub) sd_sub (ej_var 10) ej_int)) (ej_var 11) (by rfl)))))) (ej_var 11))) aj_nil)))))))))
 (bj_frz [] (bj_one (sj_ret (P' := [3, 9]) ej_bl)))
 bj_nil)
 (bj_cons (sj_app 3 ej_int)
 (bj_frz [9] (bj_cons (sj_if (cj_not (cj_of (ej_call (T.t_law_same.callee bo_law_same (g_law_same T 12) _) (aj_cons (FJ.ej (fj_callKw [1, 0] (T.t_round_row.callee bo_round_row (g_round_row T) _) (kj_cons (ej_var 2) (kj_cons (ej_var 1) kj_nil)) (T.t_round_row.kw kw_round_row_1_0))) (aj_cons (ej_ix (ej_var 4) ej_int) aj_nil)))))
 (bj_frz [] (bj_one (sj_ret (P' := [9]) ej_bl)))
 bj_nil)
 (bj_cons (sj_set (P' := [9]) 5 (ej_bin op_add4 sd_add ej_int (ej_callG 9 (T.t_law_random.callee bo_law_random (g_law_random T) _) (aj_cons ej_int aj_nil))))
 (bj_cons (sj_set (P' := [9]) 6 (ej_callG 9 (T.t_law_random.callee bo_law_random (g_law_random T) _) (aj_cons (ej_bin op_add4 sd_add (ej_var 5) ej_int) aj_nil)))
 (bj_frz [] (bj_cons (sj_set (P' := []) 7 (FJ.ej (fj_call (T.t_round_row.callee bo_round_row (g_round_row T) _) (aj_cons (ej_var 5) (aj_cons (ej_var 6) aj_nil)))))
 (bj_cons (sj_if (WJ.cj (wj_or (cj_cmp op_neK sd_ne (ej_callB cl_len sd_len (aj_cons (ej_var 7) aj_nil) (hm := by exact T.b_len)) (ej_var 5) (by rfl)) (wj_or (cj_cmp op_neK sd_ne (ej_callB cl_sum sd_sum (aj_cons (ej_var 7) aj_nil) (hm := by exact T.b_sum)) (ej_var 6) (by rfl)) (wj_or (cj_cmp (fun X h => op_isnotC) sd_isnot (ej_call (T.t_law_round_uneven.callee bo_law_round_uneven (g_law_round_uneven T) _) (aj_cons (ej_var 7) aj_nil)) ej_non (by rfl)) (wj_or (cj_cmp op_neK sd_ne (ej_var 7) (ej_callB cl_minD sd_minD (aj_cons (ej_call (T.t_law_turns.callee bo_law_turns (g_law_turns T) _) (aj_cons (ej_var 7) aj_nil)) aj_nil) (hm := by exact T.b_min)) (by rfl)) (wj_or1 (cj_cmp (fun X h => op_isnotC) sd_isnot (ej_call (T.t_is_even_round.callee bo_is_even_round (g_is_even_round T) _) (aj_cons (ej_var 7) aj_nil)) ej_bl (by rfl))))))))
 (bj_one (sj_ret (P' := []) ej_bl))
 bj_nil)
 (bj_one (sj_ret (P' := []) (ej_call (T.t_law_same.callee bo_law_same (g_law_same T 12) _) (aj_cons (ej_lst (aj_cons (FJ.ej (fj_call (T.t_round_row.callee bo_round_row (g_round_row T) _) (aj_cons ej_int (aj_cons ej_int aj_nil)))) (aj_cons (FJ.ej (fj_call (T.t_round_row.callee bo_round_row (g_round_row T) _) (aj_cons ej_int (aj_cons ej_int aj_nil)))) (aj_cons (FJ.ej (fj_call (T.t_round_row.callee bo_round_row (g_round_row T) _) (aj_cons ej_int (aj_cons ej_int aj_nil)))) (aj_cons (FJ.ej (fj_call (T.t_round_row.callee bo_round_row (g_round_row T) _) (aj_cons ej_int (aj_cons ej_int aj_nil)))) aj_nil))))) (aj_cons (ej_lst (aj_cons (ej_lst (aj_cons ej_int (aj_cons ej_int (aj_cons ej_int (aj_cons ej_int (aj_cons ej_int (aj_cons ej_int (aj_cons ej_int (aj_cons ej_int aj_nil))))))))) (aj_cons (ej_lst (aj_cons ej_int (aj_cons ej_int (aj_cons ej_int (aj_cons ej_int (aj_cons ej_int (aj_cons ej_int aj_nil))))))) (aj_cons (ej_bin op_mul2 sd_mul (ej_lst (aj_cons ej_int aj_nil)) ej_int) (aj_cons (ej_lst (aj_cons ej_int aj_nil)) aj_nil))))) aj_nil))))))))))))))))))))) (fun h => nomatch h)
end
end G
namespace G
/-! the head -/
open PySem PySem.Spec L2 Tc
def dd_law_all : He.DefD := ⟨("_law_all", none), "_law_all", "_law_all", defArgs (top 28), defBody (top 28), defScope (top 28), [], []⟩
def dd_law_cell : He.DefD := ⟨("_law_cell", none), "_law_cell", "_law_cell", defArgs (top 23), defBody (top 23), defScope (top 23), [], []⟩
def dd_law_generator : He.DefD := ⟨("_law_generator", none), "_law_generator", "_law_generator", defArgs (top 24), defBody (top 24), defScope (top 24), [], []⟩
def dd_law_hash : He.DefD := ⟨("_law_hash", none), "_law_hash", "_law_hash", defArgs (top 21), defBody (top 21), defScope (top 21), [], []⟩
def dd_law_random : He.DefD := ⟨("_law_random", none), "_law_random", "_law_random", defArgs (top 22), defBody (top 22), defScope (top 22), [], []⟩
def dd_law_round_uneven : He.DefD := ⟨("_law_round_uneven", none), "_law_round_uneven", "_law_round_uneven", defArgs (top 27), defBody (top 27), defScope (top 27), [], []⟩
def dd_law_same : He.DefD := ⟨("_law_same", none), "_law_same", "_law_same", defArgs (top 25), defBody (top 25), defScope (top 25), [], []⟩
def dd_law_turns : He.DefD := ⟨("_law_turns", none), "_law_turns", "_law_turns", defArgs (top 26), defBody (top 26), defScope (top 26), [], []⟩
def dd_is_whole : He.DefD := ⟨("is_whole", none), "is_whole", "is_whole", defArgs (top 5), defBody (top 5), defScope (top 5), [], []⟩
def dd_is_count : He.DefD := ⟨("is_count", none), "is_count", "is_count", defArgs (top 8), defBody (top 8), defScope (top 8), [], []⟩
def dd_is_below : He.DefD := ⟨("is_below", none), "is_below", "is_below", defArgs (top 9), defBody (top 9), defScope (top 9), [], []⟩
def dd_is_row : He.DefD := ⟨("is_row", none), "is_row", "is_row", defArgs (top 10), defBody (top 10), defScope (top 10), [], []⟩
def dd_check_round : He.DefD := ⟨("check_round", none), "check_round", "check_round", defArgs (top 13), defBody (top 13), defScope (top 13), [], []⟩
def dd_heights : He.DefD := ⟨("heights", none), "heights", "heights", defArgs (top 11), defBody (top 11), defScope (top 11), [], []⟩
def dd_round_sums : He.DefD := ⟨("round_sums", none), "round_sums", "round_sums", defArgs (top 14), defBody (top 14), defScope (top 14), [], []⟩
def dd_found_stretches : He.DefD := ⟨("found_stretches", none), "found_stretches", "found_stretches", defArgs (top 15), defBody (top 15), defScope (top 15), [], []⟩
def dd_is_even_round : He.DefD := ⟨("is_even_round", none), "is_even_round", "is_even_round", defArgs (top 16), defBody (top 16), defScope (top 16), [], []⟩
def dd_check_counts : He.DefD := ⟨("check_counts", none), "check_counts", "check_counts", defArgs (top 17), defBody (top 17), defScope (top 17), [], []⟩
def dd_spread : He.DefD := ⟨("spread", none), "spread", "spread", defArgs (top 18), defBody (top 18), defScope (top 18), [], []⟩
def dd_round_row : He.DefD := ⟨("round_row", none), "round_row", "round_row", defArgs (top 19), defBody (top 19), defScope (top 19), [], []⟩
def dd_law : He.DefD := ⟨("law", none), "law", "law", defArgs (top 29), defBody (top 29), defScope (top 29), [], []⟩
def fns : List He.DefD := [dd_law_all, dd_law_cell, dd_law_generator, dd_law_hash, dd_law_random, dd_law_round_uneven, dd_law_same, dd_law_turns, dd_is_whole, dd_is_count, dd_is_below, dd_is_row, dd_check_round, dd_heights, dd_round_sums, dd_found_stretches, dd_is_even_round, dd_check_counts, dd_spread, dd_round_row, dd_law]
def fas : List He.Fa := [.glo "_law_all", .glo "_law_cell", .glo "_law_generator", .glo "_law_hash", .glo "_law_random", .glo "_law_round_uneven", .glo "_law_same", .glo "_law_turns", .glo "is_whole", .glo "is_count", .glo "is_below", .glo "is_row", .glo "check_round", .glo "heights", .glo "round_sums", .glo "found_stretches", .glo "is_even_round", .glo "check_counts", .glo "spread", .glo "round_row", .glo "law", .free "bool", .free "enumerate", .free "int", .free "isinstance", .free "len", .free "list", .free "max", .free "min", .free "range", .free "sorted", .free "str", .free "sum", .free "tuple", .int "MOST_ROW" 60]
def nms : List Str := [Str.ofString "SpreadError", Str.ofString "InvalidRow", Str.ofString "InvalidNumber", Str.ofString "is_whole", Str.ofString "MOST_ROW", Str.ofString "is_count", Str.ofString "is_below", Str.ofString "is_row", Str.ofString "heights", Str.ofString "check_round", Str.ofString "round_sums", Str.ofString "found_stretches", Str.ofString "is_even_round", Str.ofString "check_counts", Str.ofString "spread", Str.ofString "round_row", Str.ofString "_law_hash", Str.ofString "_law_random", Str.ofString "_law_cell", Str.ofString "_law_generator", Str.ofString "_law_same", Str.ofString "_law_turns", Str.ofString "_law_round_uneven", Str.ofString "_law_all"]
abbrev rw_ : PySem.W.OpenRow := PySem.W.OpenLaw.row PySem.Challenge.rw_spreadline_k43_whole_one_even_round_row
abbrev hook : PySem.W.Hook := He.hookD 4 fas fns
def seen (s : PySem.W.SharedT) : He.AlD := He.obsDG 4 fas fns (HandSHeadRun.getT s)
theorem seen_eq (s : PySem.W.SharedT) : seen s = hook.obs s.abs := He.obsDG_eq (HandSHeadRun.getT_eq s)
theorem runs (w : World) : HandSHeadRun.RunEq rw_ (PySem.W.view rw_.prog [29]) hook seen 20000 nms w := by
  intro os
  kernel_rfl
theorem tops {K : PySem.W.Frag} {h : Heap} {mg : Str → Option Value} (X : K.In h) (G : h.Ns mainGlobals mg) (c : He.SaysD fas fns K) : Nonempty (Tp K mg) := by
  obtain ⟨x_law_all, y_law_all⟩ := c.def_ 0 (d := dd_law_all) rfl
  obtain ⟨x_law_cell, y_law_cell⟩ := c.def_ 1 (d := dd_law_cell) rfl
  obtain ⟨x_law_generator, y_law_generator⟩ := c.def_ 2 (d := dd_law_generator) rfl
  obtain ⟨x_law_hash, y_law_hash⟩ := c.def_ 3 (d := dd_law_hash) rfl
  obtain ⟨x_law_random, y_law_random⟩ := c.def_ 4 (d := dd_law_random) rfl
  obtain ⟨x_law_round_uneven, y_law_round_uneven⟩ := c.def_ 5 (d := dd_law_round_uneven) rfl
  obtain ⟨x_law_same, y_law_same⟩ := c.def_ 6 (d := dd_law_same) rfl
  obtain ⟨x_law_turns, y_law_turns⟩ := c.def_ 7 (d := dd_law_turns) rfl
  obtain ⟨x_is_whole, y_is_whole⟩ := c.def_ 8 (d := dd_is_whole) rfl
  obtain ⟨x_is_count, y_is_count⟩ := c.def_ 9 (d := dd_is_count) rfl
  obtain ⟨x_is_below, y_is_below⟩ := c.def_ 10 (d := dd_is_below) rfl
  obtain ⟨x_is_row, y_is_row⟩ := c.def_ 11 (d := dd_is_row) rfl
  obtain ⟨x_check_round, y_check_round⟩ := c.def_ 12 (d := dd_check_round) rfl
  obtain ⟨x_heights, y_heights⟩ := c.def_ 13 (d := dd_heights) rfl
  obtain ⟨x_round_sums, y_round_sums⟩ := c.def_ 14 (d := dd_round_sums) rfl
  obtain ⟨x_found_stretches, y_found_stretches⟩ := c.def_ 15 (d := dd_found_stretches) rfl
  obtain ⟨x_is_even_round, y_is_even_round⟩ := c.def_ 16 (d := dd_is_even_round) rfl
  obtain ⟨x_check_counts, y_check_counts⟩ := c.def_ 17 (d := dd_check_counts) rfl
  obtain ⟨x_spread, y_spread⟩ := c.def_ 18 (d := dd_spread) rfl
  obtain ⟨x_round_row, y_round_row⟩ := c.def_ 19 (d := dd_round_row) rfl
  obtain ⟨x_law, y_law⟩ := c.def_ 20 (d := dd_law) rfl
  exact ⟨⟨_,
    x_law_all,
    ⟨y_law_all, He.glo_ok X G (c.fact 0 (f := .glo "_law_all") rfl)⟩,
    _,
    x_law_cell,
    ⟨y_law_cell, He.glo_ok X G (c.fact 1 (f := .glo "_law_cell") rfl)⟩,
    _,
    x_law_generator,
    ⟨y_law_generator, He.glo_ok X G (c.fact 2 (f := .glo "_law_generator") rfl)⟩,
    _,
    x_law_hash,
    ⟨y_law_hash, He.glo_ok X G (c.fact 3 (f := .glo "_law_hash") rfl)⟩,
    _,
    x_law_random,
    ⟨y_law_random, He.glo_ok X G (c.fact 4 (f := .glo "_law_random") rfl)⟩,
    _,
    x_law_round_uneven,
    ⟨y_law_round_uneven, He.glo_ok X G (c.fact 5 (f := .glo "_law_round_uneven") rfl)⟩,
    _,
    x_law_same,
    ⟨y_law_same, He.glo_ok X G (c.fact 6 (f := .glo "_law_same") rfl)⟩,
    _,
    x_law_turns,
    ⟨y_law_turns, He.glo_ok X G (c.fact 7 (f := .glo "_law_turns") rfl)⟩,
    _,
    x_is_whole,
    ⟨y_is_whole, He.glo_ok X G (c.fact 8 (f := .glo "is_whole") rfl)⟩,
    _,
    x_is_count,
    ⟨y_is_count, He.glo_ok X G (c.fact 9 (f := .glo "is_count") rfl)⟩,
    _,
    x_is_below,
    ⟨y_is_below, He.glo_ok X G (c.fact 10 (f := .glo "is_below") rfl)⟩,
    _,
    x_is_row,
    ⟨y_is_row, He.glo_ok X G (c.fact 11 (f := .glo "is_row") rfl)⟩,
    _,
    x_check_round,
    ⟨y_check_round, He.glo_ok X G (c.fact 12 (f := .glo "check_round") rfl)⟩,
    _,
    x_heights,
    ⟨y_heights, He.glo_ok X G (c.fact 13 (f := .glo "heights") rfl)⟩,
    _,
    x_round_sums,
    ⟨y_round_sums, He.glo_ok X G (c.fact 14 (f := .glo "round_sums") rfl)⟩,
    _,
    x_found_stretches,
    ⟨y_found_stretches, He.glo_ok X G (c.fact 15 (f := .glo "found_stretches") rfl)⟩,
    _,
    x_is_even_round,
    ⟨y_is_even_round, He.glo_ok X G (c.fact 16 (f := .glo "is_even_round") rfl)⟩,
    _,
    x_check_counts,
    ⟨y_check_counts, He.glo_ok X G (c.fact 17 (f := .glo "check_counts") rfl)⟩,
    _,
    x_spread,
    ⟨y_spread, He.glo_ok X G (c.fact 18 (f := .glo "spread") rfl)⟩,
    _,
    x_round_row,
    ⟨y_round_row, He.glo_ok X G (c.fact 19 (f := .glo "round_row") rfl)⟩,
    _,
    x_law,
    ⟨y_law, He.glo_ok X G (c.fact 20 (f := .glo "law") rfl)⟩,
    He.free_ok X G (c.fact 21 (f := .free "bool") rfl),
    He.free_ok X G (c.fact 22 (f := .free "enumerate") rfl),
    He.free_ok X G (c.fact 23 (f := .free "int") rfl),
    He.free_ok X G (c.fact 24 (f := .free "isinstance") rfl),
    He.free_ok X G (c.fact 25 (f := .free "len") rfl),
    He.free_ok X G (c.fact 26 (f := .free "list") rfl),
    He.free_ok X G (c.fact 27 (f := .free "max") rfl),
    He.free_ok X G (c.fact 28 (f := .free "min") rfl),
    He.free_ok X G (c.fact 29 (f := .free "range") rfl),
    He.free_ok X G (c.fact 30 (f := .free "sorted") rfl),
    He.free_ok X G (c.fact 31 (f := .free "str") rfl),
    He.free_ok X G (c.fact 32 (f := .free "sum") rfl),
    He.free_ok X G (c.fact 33 (f := .free "tuple") rfl),
    He.int_ok X G (c.fact 34 (f := .int "MOST_ROW" 60) rfl)⟩⟩
end G
namespace G
open PySem Tc
/-! K43a: round rows, plain -/
/-- the sum of a round stretch -/
def W (r : List Int) (i l : Nat) : Int := (((r ++ r).drop i).take l).sum
def told (r : List Int) (l : Nat) : List Int := (List.range r.length).map fun i => W r i l
def gapO : Option Int → Option Int → Bool
  | some a, some b => decide (a - b ≤ 1)
  | _, _ => true
def evl (r : List Int) (l : Nat) : Bool := gapO (maxI (told r l)) (minI (told r l))
def evenB (r : List Int) : Bool := (List.range' 1 (r.length - 1)).all (evl r)
/-- the same, by sliding sums -/
def evS (b : List Int) (n : Nat) : Nat → Nat → List Int → Bool
  | 0, _, _ => true
  | k + 1, l, s => gapO (maxI s) (minI s) && evS b n k (l + 1) (List.zipWith (· + ·) s ((b.drop l).take n))
theorem W_succ (r : List Int) {i l : Nat} (h : i + l < (r ++ r).length) : W r i (l + 1) = W r i l + (r ++ r)[i + l] := by
  unfold W
  have h2 : l < ((r ++ r).drop i).length := by rw [List.length_drop]; omega
  rw [List.take_succ_eq_append_getElem h2, List.sum_append, List.getElem_drop]
  simp
theorem told_len (r : List Int) (l : Nat) : (told r l).length = r.length := by simp [told]
theorem told_get {r : List Int} {l i : Nat} (h : i < (told r l).length) : (told r l)[i] = W r i l := by simp [told]
theorem told_succ {r : List Int} {l : Nat} (h : l < r.length) : List.zipWith (· + ·) (told r l) (((r ++ r).drop l).take r.length) = told r (l + 1) := by
  refine List.ext_getElem ?_ fun i h1 h2 => ?_
  · simp [told_len]
    omega
  · have hi : i < r.length := by rw [told_len] at h2; exact h2
    have := W_succ r (i := i) (l := l) (by rw [List.length_append]; omega)
    rw [told_get, this, List.getElem_zipWith, told_get, List.getElem_take, List.getElem_drop]
    simp only [Nat.add_comm]
theorem evS_eq {r : List Int} : ∀ (k l : Nat), l + k = r.length → evS (r ++ r) r.length k l (told r l) = (List.range' l k).all (evl r)
  | 0, _, _ => rfl
  | k + 1, l, h => by
    unfold evS
    rw [told_succ (by omega), evS_eq k (l + 1) (by omega)]
    rfl
theorem told_one {r : List Int} : told r 1 = r := by
  refine List.ext_getElem (told_len r 1) fun i h1 h2 => ?_
  rw [told_get]
  have := W_succ r (i := i) (l := 0) (by rw [List.length_append]; omega)
  rw [this]
  simp [W, List.getElem_append_left h2]
theorem even_eq (r : List Int) : evenB r = evS (r ++ r) r.length (r.length - 1) 1 r := by
  cases hr : r with
  | nil => rfl
  | cons x xs =>
    rw [← hr]
    have h := evS_eq (r := r) (r.length - 1) 1 (by rw [hr]; simp; omega)
    rw [told_one] at h
    exact h.symm
/-- the least turn of the even round row -/
def gq (n k : Int) (i : Int) : Int := k * i / n
def rnd (n k : Int) : List Int := (List.range n.toNat).map fun (i : Nat) => k * ((i : Int) + 1) / n - k * (i : Int) / n
/-- what all rows are made of, place by place -/
def nextR (n k : Int) (p : Int) (row : List Int) : List (List Int) := ([0, 1].filter fun (l : Int) => decide (row.sum + l ≤ k) && decide (row.sum + l + n - p - 1 ≥ k)).map fun l => row ++ [l]
def lvl (n k : Int) : Nat → List (List Int)
  | 0 => [[]]
  | p + 1 => ((lvl n k p).map (nextR n k p)).flatten
def turnsR (r : List Int) : List (List Int) := (List.range r.length).map fun i => r.drop i ++ r.take i
/-- the first of each lot of equals -/
def firsts : List Int → List (List Int) → List (List Int)
  | _, [] => []
  | p, r :: rs => if p == r then firsts r rs else r :: firsts r rs
def uniq : List (List Int) → List (List Int)
  | [] => []
  | r :: rs => r :: firsts r rs
def evF (r : List Int) : Bool := evS (r ++ r) r.length (r.length - 1) 1 r
def chk (n k : Nat) : Bool :=
  let e := (lvl n k n).filter evF
  let t := rnd n k
  e.head? == some t && sortR e == uniq (sortR (turnsR t))
def chks (n : Nat) : Bool := (List.range (n + 1)).all (chk n)
/-! ### the great one -/
section
variable {n k : Int}
theorem rnd_len : (rnd n k).length = n.toNat := by simp [rnd]
theorem rnd_get {i : Nat} (h : i < (rnd n k).length) : (rnd n k)[i] = gq n k (i + 1) - gq n k i := by simp [rnd, gq]
theorem gq_round (h : 0 < n) (i : Int) : gq n k (i + n) = gq n k i + k := by
  unfold gq
  rw [Int.mul_add, Int.add_mul_ediv_right _ _ (by omega)]
theorem both_get (h : 0 < n) {i : Nat} (hi : i < (rnd n k ++ rnd n k).length) : (rnd n k ++ rnd n k)[i] = gq n k (i + 1) - gq n k i := by
  by_cases z : i < (rnd n k).length
  · rw [List.getElem_append_left z, rnd_get]
  · rw [List.getElem_append_right (by omega), rnd_get]
    rw [rnd_len] at *
    have e : ((i - n.toNat : Nat) : Int) = i - n := by omega
    rw [e]
    have h1 := gq_round (k := k) h (i - n)
    have h2 := gq_round (k := k) h (i - n + 1)
    rw [show (i : Int) - n + n = i by omega] at h1
    rw [show (i : Int) - n + 1 + n = i + 1 by omega] at h2
    omega
theorem W_rnd (h : 0 < n) (i : Nat) : ∀ l : Nat, i + l ≤ 2 * n.toNat → W (rnd n k) i l = gq n k (i + l) - gq n k i
  | 0, _ => by simp [W]
  | l + 1, hl => by
    have hl' : (rnd n k ++ rnd n k).length = 2 * n.toNat := by rw [List.length_append, rnd_len]; omega
    rw [W_succ _ (by omega), W_rnd h i l (by omega), both_get h]
    rw [show (((i + l : Nat) : Int)) = i + l by omega, show ((i : Int) + ((l + 1 : Nat) : Int)) = i + l + 1 by omega]
    omega
theorem gq_gap (h : 0 < n) (i l : Int) : gq n k l ≤ gq n k (i + l) - gq n k i ∧ gq n k (i + l) - gq n k i ≤ gq n k l + 1 := by
  unfold gq
  have a1 := Int.ediv_mul_le (k * i) (b := n) (by omega)
  have a2 := Int.lt_ediv_add_one_mul_self (k * i) h
  have b1 := Int.ediv_mul_le (k * l) (b := n) (by omega)
  have b2 := Int.lt_ediv_add_one_mul_self (k * l) h
  have c1 := Int.ediv_mul_le (k * (i + l)) (b := n) (by omega)
  have c2 := Int.lt_ediv_add_one_mul_self (k * (i + l)) h
  rw [Int.mul_add] at *
  generalize k * i / n = x at *
  generalize k * l / n = y at *
  generalize (k * i + k * l) / n = z at *
  have d1 : (x + y) * n < (z + 1) * n := by rw [Int.add_mul]; omega
  have d2 : z * n < (x + 1 + (y + 1)) * n := by rw [Int.add_mul (x + 1)]; omega
  have e1 := Int.lt_of_mul_lt_mul_right d1 (by omega)
  have e2 := Int.lt_of_mul_lt_mul_right d2 (by omega)
  omega
theorem gap_of {xs : List Int} {c : Int} (h : ∀ x ∈ xs, c ≤ x ∧ x ≤ c + 1) : gapO (maxI xs) (minI xs) = true := by
  cases xs with
  | nil => rfl
  | cons x xs =>
    have h1 := h _ (foldl_max xs x).1
    have h2 := h _ (foldl_min xs x).1
    show decide (_ ≤ (1 : Int)) = true
    refine decide_eq_true ?_
    omega
theorem rnd_even (h : 0 < n) : evenB (rnd n k) = true := by
  refine List.all_eq_true.mpr fun l hl => ?_
  have hl := List.mem_range'_1.mp hl
  rw [rnd_len] at hl
  refine gap_of (c := gq n k l) fun x hx => ?_
  obtain ⟨i, hi, rfl⟩ := List.mem_map.mp hx
  have hi := List.mem_range.mp hi
  rw [rnd_len] at hi
  rw [W_rnd h i l (by omega)]
  exact gq_gap h i l
/-- what is never behind comes first -/
theorem leR_of : ∀ {a b : List Int}, a.length = b.length → (∀ j, j ≤ a.length → (a.take j).sum ≤ (b.take j).sum) → leR a b = true
  | [], _, _, _ => by simp [leR]
  | x :: xs, [], h, _ => by simp at h
  | x :: xs, y :: ys, h, hj => by
    unfold leR
    have h1 := hj 1 (by simp)
    simp at h1
    split
    · rename_i e
      refine leR_of (by simpa using h) fun j hl => ?_
      have := hj (j + 1) (by simp; omega)
      simp only [List.take_succ_cons, List.sum_cons] at this
      omega
    · exact decide_eq_true (by omega)
theorem turn_eq (r : List Int) {i : Nat} (h : i ≤ r.length) : r.drop i ++ r.take i = ((r ++ r).drop i).take r.length := by
  rw [List.drop_append_of_le_length h, List.take_append, List.take_of_length_le (l := r.drop i) (by rw [List.length_drop]; omega), List.length_drop]
  rw [show r.length - (r.length - i) = i by omega]
theorem turn_W (r : List Int) {i j : Nat} (h : i ≤ r.length) (hj : j ≤ r.length) : ((r.drop i ++ r.take i).take j).sum = W r i j := by
  rw [turn_eq r h, List.take_take, Nat.min_eq_left hj]
  rfl
theorem rnd_least (h : 0 < n) {t : List Int} (ht : t ∈ turnsR (rnd n k)) : leR (rnd n k) t = true := by
  obtain ⟨i, hi, rfl⟩ := List.mem_map.mp ht
  have hi := List.mem_range.mp hi
  refine leR_of (by simp; omega) fun j hj => ?_
  have e0 := turn_W (rnd n k) (i := 0) (j := j) (Nat.zero_le _) hj
  rw [List.drop_zero, List.take_zero, List.append_nil] at e0
  rw [e0, turn_W _ (by omega) hj]
  rw [rnd_len] at *
  rw [W_rnd h 0 j (by omega), W_rnd h i j (by omega)]
  have := (gq_gap (k := k) h i j).1
  have z : gq n k ((0 : Nat) : Int) = 0 := by unfold gq; simp
  rw [z]
  rw [show (((0 : Nat) : Int) + (j : Int)) = j by omega]
  omega
theorem rnd_sum (h : 0 < n) : (rnd n k).sum = k := by
  have e0 := turn_W (rnd n k) (i := 0) (j := (rnd n k).length) (Nat.zero_le _) (Nat.le_refl _)
  rw [List.drop_zero, List.take_zero, List.append_nil, List.take_length] at e0
  rw [e0, rnd_len, W_rnd h 0 _ (by omega)]
  have z : gq n k ((0 : Nat) : Int) = 0 := by unfold gq; simp
  have z2 := gq_round (k := k) h 0
  rw [show (0 : Int) + n = n by omega, show gq n k 0 = 0 from z] at z2
  rw [z, show (((0 : Nat) : Int) + (n.toNat : Int)) = n by omega]
  omega
end
end G
namespace G
open PySem Tc
theorem chk_all : (List.range' 1 11).all chks = true := by decide +kernel
end G
namespace G
open PySem L2 Tc
section
variable {χ : T → List T → Prop} {ζ : Str → T → Prop}
theorem all_true {α : Type} (xs : List α) : xs.filter (fun _ => true) = xs := by simp
theorem told_T (r : List Int) (l : Nat) {n : Int} (h : n = r.length) : T.lst (((rangeI 0 n).filter fun _ => true).map fun a => T.int (W r a.toNat l)) = rowT (told r l) := by
  unfold rowT told
  rw [all_true, rangeI_map h (fun a => T.int (W r a.toNat l)), List.map_map]
  rfl
theorem uneven_ok {r : List Int} (h1 : 1 ≤ r.length) (h2 : r.length ≤ 60) (q1 : evenB r = true → χ .non []) (q2 : evenB r = false → ∀ ts, χ (.tup ts) []) : WR (m_law_round_uneven [rowT r]) χ ζ := by
  refine WR_fn ?_
  try simp only [List.map_cons, List.map_nil, List.cons_append, List.nil_append, List.length_cons, List.length_nil, Nat.zero_add, Nat.reduceAdd, Nat.reduceSub, Nat.sub_self, List.replicate_zero, List.replicate_succ, List.append_nil, List.set_cons_zero, List.set_cons_succ]
  repeat' (first
      | with_reducible (first | refine WS_seq ?_ | refine WS_set ?_ | refine WS_ret ?_ | refine WS_if ?_ | refine WS_drop ?_ | refine WS_nx ?_ | refine WE_bin ?_ | refine WE_cons ?_ | refine WE_nil ?_ | refine WE_k ?_ | refine WE_app ?_ | refine WE_un ?_ | refine WE_B ?_ | refine WE_notC ?_ | refine WE_call ?_ | refine WE_callK ?_ | refine WE_lst ?_ | refine WE_tup ?_ | refine WE_chain ?_ | refine WE_andV ?_ | refine WE_orV ?_ | refine WE_notV ?_ | refine WE_andC ?_ | refine WE_orC ?_ | refine WE_if ?_ | refine WS_par2 ?_ | refine WS_par3 ?_ | refine WE_rg1 ?_ | refine WE_rg2 ?_ | refine WE_items ?_ | refine WE_enum ?_ | refine WE_zip ?_ | refine WE_revd ?_ | refine WE_callG ?_ | refine WS_put ?_ | refine WS_app ?_ | refine WE_pix ?_ | refine WE_sl ?_ | refine WE_p0 ?_ | refine WE_p1 ?_ | refine WE_true ?_ | refine WE_bor ?_ | refine WE_borC ?_ | refine WE_mt ?_ | refine WS_asg ?_) | ((with_reducible apply WE_var); (case h => exact rfl))
      | ((with_reducible refine And.intro ?_ ?_); (with_reducible first | exact ff1 | exact ff2 | exact ff3 | exact ff4 | exact ff5 | fail); (intro _))
      | ((with_reducible refine And.intro ?_ ?_); rotate_left; (with_reducible first | exact tt1 | exact tt2 | exact tt3 | exact tt4 | exact tt5 | fail); (intro _))
      | ((with_reducible apply Exists.intro); (with_reducible apply And.intro); first | ((with_reducible (first | show addT (.int _) (.int _) = some _ | show subT (.int _) (.int _) = some _ | show negT (.int _) = some _ | show ltT (.int _) (.int _) = some _ | show leT (.int _) (.int _) = some _ | show gtT (.int _) (.int _) = some _ | show geT (.int _) (.int _) = some _ | show intT [.int _] = some _ | show max2T [.int _, .int _] = some _ | show min2T [.int _, .int _] = some _ | show absT [.int _] = some _ | show eqT (.int _) (.int _) = some _ | show neT (.int _) (.int _) = some _ | show T.bl _ = T.bl _ | show T.int _ = T.int _)); exact rfl) | ((with_reducible (first | show isiT _ _ = some _ | show isT _ _ = some _ | show isNT _ _ = some _ | show isisT _ _ = some _)); first | exact (rfl : _ = some (T.bl true)) | exact (rfl : _ = some (T.bl false)) | exact rfl) | fail)
      | fail)
  refine ⟨_, addT_row (by simp only [LIM]; omega), ?_⟩
  repeat' (first
      | with_reducible (first | refine WS_seq ?_ | refine WS_set ?_ | refine WS_ret ?_ | refine WS_if ?_ | refine WS_drop ?_ | refine WS_nx ?_ | refine WE_bin ?_ | refine WE_cons ?_ | refine WE_nil ?_ | refine WE_k ?_ | refine WE_app ?_ | refine WE_un ?_ | refine WE_B ?_ | refine WE_notC ?_ | refine WE_call ?_ | refine WE_callK ?_ | refine WE_lst ?_ | refine WE_tup ?_ | refine WE_chain ?_ | refine WE_andV ?_ | refine WE_orV ?_ | refine WE_notV ?_ | refine WE_andC ?_ | refine WE_orC ?_ | refine WE_if ?_ | refine WS_par2 ?_ | refine WS_par3 ?_ | refine WE_rg1 ?_ | refine WE_rg2 ?_ | refine WE_items ?_ | refine WE_enum ?_ | refine WE_zip ?_ | refine WE_revd ?_ | refine WE_callG ?_ | refine WS_put ?_ | refine WS_app ?_ | refine WE_pix ?_ | refine WE_sl ?_ | refine WE_p0 ?_ | refine WE_p1 ?_ | refine WE_true ?_ | refine WE_bor ?_ | refine WE_borC ?_ | refine WE_mt ?_ | refine WS_asg ?_) | ((with_reducible apply WE_var); (case h => exact rfl))
      | ((with_reducible refine And.intro ?_ ?_); (with_reducible first | exact ff1 | exact ff2 | exact ff3 | exact ff4 | exact ff5 | fail); (intro _))
      | ((with_reducible refine And.intro ?_ ?_); rotate_left; (with_reducible first | exact tt1 | exact tt2 | exact tt3 | exact tt4 | exact tt5 | fail); (intro _))
      | ((with_reducible apply Exists.intro); (with_reducible apply And.intro); first | ((with_reducible (first | show addT (.int _) (.int _) = some _ | show subT (.int _) (.int _) = some _ | show negT (.int _) = some _ | show ltT (.int _) (.int _) = some _ | show leT (.int _) (.int _) = some _ | show gtT (.int _) (.int _) = some _ | show geT (.int _) (.int _) = some _ | show intT [.int _] = some _ | show max2T [.int _, .int _] = some _ | show min2T [.int _, .int _] = some _ | show absT [.int _] = some _ | show eqT (.int _) (.int _) = some _ | show neT (.int _) (.int _) = some _ | show T.bl _ = T.bl _ | show T.int _ = T.int _)); exact rfl) | ((with_reducible (first | show isiT _ _ = some _ | show isT _ _ = some _ | show isNT _ _ = some _ | show isisT _ _ = some _)); first | exact (rfl : _ = some (T.bl true)) | exact (rfl : _ = some (T.bl false)) | exact rfl) | fail)
      | fail)
  refine WS_for (fun ts i s => ∃ x y z, s = [some (rowT r), some (rowT (r ++ r)), x, y, z] ∧ ts = rangeT 1 r.length ∧ ∀ l, 1 ≤ l → l < 1 + i → evl r l = true) ?_
  repeat' (first
      | with_reducible (first | refine WS_seq ?_ | refine WS_set ?_ | refine WS_ret ?_ | refine WS_if ?_ | refine WS_drop ?_ | refine WS_nx ?_ | refine WE_bin ?_ | refine WE_cons ?_ | refine WE_nil ?_ | refine WE_k ?_ | refine WE_app ?_ | refine WE_un ?_ | refine WE_B ?_ | refine WE_notC ?_ | refine WE_call ?_ | refine WE_callK ?_ | refine WE_lst ?_ | refine WE_tup ?_ | refine WE_chain ?_ | refine WE_andV ?_ | refine WE_orV ?_ | refine WE_notV ?_ | refine WE_andC ?_ | refine WE_orC ?_ | refine WE_if ?_ | refine WS_par2 ?_ | refine WS_par3 ?_ | refine WE_rg1 ?_ | refine WE_rg2 ?_ | refine WE_items ?_ | refine WE_enum ?_ | refine WE_zip ?_ | refine WE_revd ?_ | refine WE_callG ?_ | refine WS_put ?_ | refine WS_app ?_ | refine WE_pix ?_ | refine WE_sl ?_ | refine WE_p0 ?_ | refine WE_p1 ?_ | refine WE_true ?_ | refine WE_bor ?_ | refine WE_borC ?_ | refine WE_mt ?_ | refine WS_asg ?_) | ((with_reducible apply WE_var); (case h => exact rfl))
      | ((with_reducible refine And.intro ?_ ?_); (with_reducible first | exact ff1 | exact ff2 | exact ff3 | exact ff4 | exact ff5 | fail); (intro _))
      | ((with_reducible refine And.intro ?_ ?_); rotate_left; (with_reducible first | exact tt1 | exact tt2 | exact tt3 | exact tt4 | exact tt5 | fail); (intro _))
      | ((with_reducible apply Exists.intro); (with_reducible apply And.intro); first | ((with_reducible (first | show addT (.int _) (.int _) = some _ | show subT (.int _) (.int _) = some _ | show negT (.int _) = some _ | show ltT (.int _) (.int _) = some _ | show leT (.int _) (.int _) = some _ | show gtT (.int _) (.int _) = some _ | show geT (.int _) (.int _) = some _ | show intT [.int _] = some _ | show max2T [.int _, .int _] = some _ | show min2T [.int _, .int _] = some _ | show absT [.int _] = some _ | show eqT (.int _) (.int _) = some _ | show neT (.int _) (.int _) = some _ | show T.bl _ = T.bl _ | show T.int _ = T.int _)); exact rfl) | ((with_reducible (first | show isiT _ _ = some _ | show isT _ _ = some _ | show isNT _ _ = some _ | show isisT _ _ = some _)); first | exact (rfl : _ = some (T.bl true)) | exact (rfl : _ = some (T.bl false)) | exact rfl) | fail)
      | fail)
  refine ⟨_, lenT_row (by simp only [LIM]; omega), ?_⟩
  repeat' (first
      | with_reducible (first | refine WS_seq ?_ | refine WS_set ?_ | refine WS_ret ?_ | refine WS_if ?_ | refine WS_drop ?_ | refine WS_nx ?_ | refine WE_bin ?_ | refine WE_cons ?_ | refine WE_nil ?_ | refine WE_k ?_ | refine WE_app ?_ | refine WE_un ?_ | refine WE_B ?_ | refine WE_notC ?_ | refine WE_call ?_ | refine WE_callK ?_ | refine WE_lst ?_ | refine WE_tup ?_ | refine WE_chain ?_ | refine WE_andV ?_ | refine WE_orV ?_ | refine WE_notV ?_ | refine WE_andC ?_ | refine WE_orC ?_ | refine WE_if ?_ | refine WS_par2 ?_ | refine WS_par3 ?_ | refine WE_rg1 ?_ | refine WE_rg2 ?_ | refine WE_items ?_ | refine WE_enum ?_ | refine WE_zip ?_ | refine WE_revd ?_ | refine WE_callG ?_ | refine WS_put ?_ | refine WS_app ?_ | refine WE_pix ?_ | refine WE_sl ?_ | refine WE_p0 ?_ | refine WE_p1 ?_ | refine WE_true ?_ | refine WE_bor ?_ | refine WE_borC ?_ | refine WE_mt ?_ | refine WS_asg ?_) | ((with_reducible apply WE_var); (case h => exact rfl))
      | ((with_reducible refine And.intro ?_ ?_); (with_reducible first | exact ff1 | exact ff2 | exact ff3 | exact ff4 | exact ff5 | fail); (intro _))
      | ((with_reducible refine And.intro ?_ ?_); rotate_left; (with_reducible first | exact tt1 | exact tt2 | exact tt3 | exact tt4 | exact tt5 | fail); (intro _))
      | ((with_reducible apply Exists.intro); (with_reducible apply And.intro); first | ((with_reducible (first | show addT (.int _) (.int _) = some _ | show subT (.int _) (.int _) = some _ | show negT (.int _) = some _ | show ltT (.int _) (.int _) = some _ | show leT (.int _) (.int _) = some _ | show gtT (.int _) (.int _) = some _ | show geT (.int _) (.int _) = some _ | show intT [.int _] = some _ | show max2T [.int _, .int _] = some _ | show min2T [.int _, .int _] = some _ | show absT [.int _] = some _ | show eqT (.int _) (.int _) = some _ | show neT (.int _) (.int _) = some _ | show T.bl _ = T.bl _ | show T.int _ = T.int _)); exact rfl) | ((with_reducible (first | show isiT _ _ = some _ | show isT _ _ = some _ | show isNT _ _ = some _ | show isisT _ _ = some _)); first | exact (rfl : _ = some (T.bl true)) | exact (rfl : _ = some (T.bl false)) | exact rfl) | fail)
      | fail)
  refine ⟨_, _, rfl, lim62_of (by omega) (by omega), lim62_of (by omega) (by omega), ⟨none, none, none, rfl, rfl, fun l a b => by omega⟩, fun i t s ht hs => ?_, fun s hs => ?_⟩
  · obtain ⟨x, y, z, rfl, -, he⟩ := hs
    obtain ⟨rfl, hi⟩ := rangeT_get ht
    refine ⟨_, rfl, ?_⟩
    try simp only [List.map_cons, List.map_nil, List.cons_append, List.nil_append, List.length_cons, List.length_nil, Nat.zero_add, Nat.reduceAdd, Nat.reduceSub, Nat.sub_self, List.replicate_zero, List.replicate_succ, List.append_nil, List.set_cons_zero, List.set_cons_succ]
    repeat' (first
      | with_reducible (first | refine WS_seq ?_ | refine WS_set ?_ | refine WS_ret ?_ | refine WS_if ?_ | refine WS_drop ?_ | refine WS_nx ?_ | refine WE_bin ?_ | refine WE_cons ?_ | refine WE_nil ?_ | refine WE_k ?_ | refine WE_app ?_ | refine WE_un ?_ | refine WE_B ?_ | refine WE_notC ?_ | refine WE_call ?_ | refine WE_callK ?_ | refine WE_lst ?_ | refine WE_tup ?_ | refine WE_chain ?_ | refine WE_andV ?_ | refine WE_orV ?_ | refine WE_notV ?_ | refine WE_andC ?_ | refine WE_orC ?_ | refine WE_if ?_ | refine WS_par2 ?_ | refine WS_par3 ?_ | refine WE_rg1 ?_ | refine WE_rg2 ?_ | refine WE_items ?_ | refine WE_enum ?_ | refine WE_zip ?_ | refine WE_revd ?_ | refine WE_callG ?_ | refine WS_put ?_ | refine WS_app ?_ | refine WE_pix ?_ | refine WE_sl ?_ | refine WE_p0 ?_ | refine WE_p1 ?_ | refine WE_true ?_ | refine WE_bor ?_ | refine WE_borC ?_ | refine WE_mt ?_ | refine WS_asg ?_) | ((with_reducible apply WE_var); (case h => exact rfl))
      | ((with_reducible refine And.intro ?_ ?_); (with_reducible first | exact ff1 | exact ff2 | exact ff3 | exact ff4 | exact ff5 | fail); (intro _))
      | ((with_reducible refine And.intro ?_ ?_); rotate_left; (with_reducible first | exact tt1 | exact tt2 | exact tt3 | exact tt4 | exact tt5 | fail); (intro _))
      | ((with_reducible apply Exists.intro); (with_reducible apply And.intro); first | ((with_reducible (first | show addT (.int _) (.int _) = some _ | show subT (.int _) (.int _) = some _ | show negT (.int _) = some _ | show ltT (.int _) (.int _) = some _ | show leT (.int _) (.int _) = some _ | show gtT (.int _) (.int _) = some _ | show geT (.int _) (.int _) = some _ | show intT [.int _] = some _ | show max2T [.int _, .int _] = some _ | show min2T [.int _, .int _] = some _ | show absT [.int _] = some _ | show eqT (.int _) (.int _) = some _ | show neT (.int _) (.int _) = some _ | show T.bl _ = T.bl _ | show T.int _ = T.int _)); exact rfl) | ((with_reducible (first | show isiT _ _ = some _ | show isT _ _ = some _ | show isNT _ _ = some _ | show isisT _ _ = some _)); first | exact (rfl : _ = some (T.bl true)) | exact (rfl : _ = some (T.bl false)) | exact rfl) | fail)
      | fail)
    refine WE_lcM .int (rangeI 0 r.length) (fun _ => true) (fun a => .int (W r a.toNat (1 + i))) ?_
    repeat' (first
      | with_reducible (first | refine WS_seq ?_ | refine WS_set ?_ | refine WS_ret ?_ | refine WS_if ?_ | refine WS_drop ?_ | refine WS_nx ?_ | refine WE_bin ?_ | refine WE_cons ?_ | refine WE_nil ?_ | refine WE_k ?_ | refine WE_app ?_ | refine WE_un ?_ | refine WE_B ?_ | refine WE_notC ?_ | refine WE_call ?_ | refine WE_callK ?_ | refine WE_lst ?_ | refine WE_tup ?_ | refine WE_chain ?_ | refine WE_andV ?_ | refine WE_orV ?_ | refine WE_notV ?_ | refine WE_andC ?_ | refine WE_orC ?_ | refine WE_if ?_ | refine WS_par2 ?_ | refine WS_par3 ?_ | refine WE_rg1 ?_ | refine WE_rg2 ?_ | refine WE_items ?_ | refine WE_enum ?_ | refine WE_zip ?_ | refine WE_revd ?_ | refine WE_callG ?_ | refine WS_put ?_ | refine WS_app ?_ | refine WE_pix ?_ | refine WE_sl ?_ | refine WE_p0 ?_ | refine WE_p1 ?_ | refine WE_true ?_ | refine WE_bor ?_ | refine WE_borC ?_ | refine WE_mt ?_ | refine WS_asg ?_) | ((with_reducible apply WE_var); (case h => exact rfl))
      | ((with_reducible refine And.intro ?_ ?_); (with_reducible first | exact ff1 | exact ff2 | exact ff3 | exact ff4 | exact ff5 | fail); (intro _))
      | ((with_reducible refine And.intro ?_ ?_); rotate_left; (with_reducible first | exact tt1 | exact tt2 | exact tt3 | exact tt4 | exact tt5 | fail); (intro _))
      | ((with_reducible apply Exists.intro); (with_reducible apply And.intro); first | ((with_reducible (first | show addT (.int _) (.int _) = some _ | show subT (.int _) (.int _) = some _ | show negT (.int _) = some _ | show ltT (.int _) (.int _) = some _ | show leT (.int _) (.int _) = some _ | show gtT (.int _) (.int _) = some _ | show geT (.int _) (.int _) = some _ | show intT [.int _] = some _ | show max2T [.int _, .int _] = some _ | show min2T [.int _, .int _] = some _ | show absT [.int _] = some _ | show eqT (.int _) (.int _) = some _ | show neT (.int _) (.int _) = some _ | show T.bl _ = T.bl _ | show T.int _ = T.int _)); exact rfl) | ((with_reducible (first | show isiT _ _ = some _ | show isT _ _ = some _ | show isNT _ _ = some _ | show isisT _ _ = some _)); first | exact (rfl : _ = some (T.bl true)) | exact (rfl : _ = some (T.bl false)) | exact rfl) | fail)
      | fail)
    refine ⟨_, lenT_row (by simp only [LIM]; omega), ?_⟩
    repeat' (first
      | with_reducible (first | refine WS_seq ?_ | refine WS_set ?_ | refine WS_ret ?_ | refine WS_if ?_ | refine WS_drop ?_ | refine WS_nx ?_ | refine WE_bin ?_ | refine WE_cons ?_ | refine WE_nil ?_ | refine WE_k ?_ | refine WE_app ?_ | refine WE_un ?_ | refine WE_B ?_ | refine WE_notC ?_ | refine WE_call ?_ | refine WE_callK ?_ | refine WE_lst ?_ | refine WE_tup ?_ | refine WE_chain ?_ | refine WE_andV ?_ | refine WE_orV ?_ | refine WE_notV ?_ | refine WE_andC ?_ | refine WE_orC ?_ | refine WE_if ?_ | refine WS_par2 ?_ | refine WS_par3 ?_ | refine WE_rg1 ?_ | refine WE_rg2 ?_ | refine WE_items ?_ | refine WE_enum ?_ | refine WE_zip ?_ | refine WE_revd ?_ | refine WE_callG ?_ | refine WS_put ?_ | refine WS_app ?_ | refine WE_pix ?_ | refine WE_sl ?_ | refine WE_p0 ?_ | refine WE_p1 ?_ | refine WE_true ?_ | refine WE_bor ?_ | refine WE_borC ?_ | refine WE_mt ?_ | refine WS_asg ?_) | ((with_reducible apply WE_var); (case h => exact rfl))
      | ((with_reducible refine And.intro ?_ ?_); (with_reducible first | exact ff1 | exact ff2 | exact ff3 | exact ff4 | exact ff5 | fail); (intro _))
      | ((with_reducible refine And.intro ?_ ?_); rotate_left; (with_reducible first | exact tt1 | exact tt2 | exact tt3 | exact tt4 | exact tt5 | fail); (intro _))
      | ((with_reducible apply Exists.intro); (with_reducible apply And.intro); first | ((with_reducible (first | show addT (.int _) (.int _) = some _ | show subT (.int _) (.int _) = some _ | show negT (.int _) = some _ | show ltT (.int _) (.int _) = some _ | show leT (.int _) (.int _) = some _ | show gtT (.int _) (.int _) = some _ | show geT (.int _) (.int _) = some _ | show intT [.int _] = some _ | show max2T [.int _, .int _] = some _ | show min2T [.int _, .int _] = some _ | show absT [.int _] = some _ | show eqT (.int _) (.int _) = some _ | show neT (.int _) (.int _) = some _ | show T.bl _ = T.bl _ | show T.int _ = T.int _)); exact rfl) | ((with_reducible (first | show isiT _ _ = some _ | show isT _ _ = some _ | show isNT _ _ = some _ | show isisT _ _ = some _)); first | exact (rfl : _ = some (T.bl true)) | exact (rfl : _ = some (T.bl false)) | exact rfl) | fail)
      | fail)
    refine ⟨_, rfl, lim62_of (by omega) (by omega), rangeT_I _ _, by rw [rangeI_len]; omega, (fun k hk => by rw [List.mem_singleton.mp hk]; show 4 < 5; decide), fun a ha => ?_, ?_⟩
    · obtain ⟨h3, h4⟩ := rangeI_mem.mp ha
      refine ⟨_, rfl, WE_true ⟨rfl, (fun h => nomatch h), fun _ => ?_⟩⟩
      repeat' (first
      | with_reducible (first | refine WS_seq ?_ | refine WS_set ?_ | refine WS_ret ?_ | refine WS_if ?_ | refine WS_drop ?_ | refine WS_nx ?_ | refine WE_bin ?_ | refine WE_cons ?_ | refine WE_nil ?_ | refine WE_k ?_ | refine WE_app ?_ | refine WE_un ?_ | refine WE_B ?_ | refine WE_notC ?_ | refine WE_call ?_ | refine WE_callK ?_ | refine WE_lst ?_ | refine WE_tup ?_ | refine WE_chain ?_ | refine WE_andV ?_ | refine WE_orV ?_ | refine WE_notV ?_ | refine WE_andC ?_ | refine WE_orC ?_ | refine WE_if ?_ | refine WS_par2 ?_ | refine WS_par3 ?_ | refine WE_rg1 ?_ | refine WE_rg2 ?_ | refine WE_items ?_ | refine WE_enum ?_ | refine WE_zip ?_ | refine WE_revd ?_ | refine WE_callG ?_ | refine WS_put ?_ | refine WS_app ?_ | refine WE_pix ?_ | refine WE_sl ?_ | refine WE_p0 ?_ | refine WE_p1 ?_ | refine WE_true ?_ | refine WE_bor ?_ | refine WE_borC ?_ | refine WE_mt ?_ | refine WS_asg ?_) | ((with_reducible apply WE_var); (case h => exact rfl))
      | ((with_reducible refine And.intro ?_ ?_); (with_reducible first | exact ff1 | exact ff2 | exact ff3 | exact ff4 | exact ff5 | fail); (intro _))
      | ((with_reducible refine And.intro ?_ ?_); rotate_left; (with_reducible first | exact tt1 | exact tt2 | exact tt3 | exact tt4 | exact tt5 | fail); (intro _))
      | ((with_reducible apply Exists.intro); (with_reducible apply And.intro); first | ((with_reducible (first | show addT (.int _) (.int _) = some _ | show subT (.int _) (.int _) = some _ | show negT (.int _) = some _ | show ltT (.int _) (.int _) = some _ | show leT (.int _) (.int _) = some _ | show gtT (.int _) (.int _) = some _ | show geT (.int _) (.int _) = some _ | show intT [.int _] = some _ | show max2T [.int _, .int _] = some _ | show min2T [.int _, .int _] = some _ | show absT [.int _] = some _ | show eqT (.int _) (.int _) = some _ | show neT (.int _) (.int _) = some _ | show T.bl _ = T.bl _ | show T.int _ = T.int _)); exact rfl) | ((with_reducible (first | show isiT _ _ = some _ | show isT _ _ = some _ | show isNT _ _ = some _ | show isisT _ _ = some _)); first | exact (rfl : _ = some (T.bl true)) | exact (rfl : _ = some (T.bl false)) | exact rfl) | fail)
      | fail)
      refine ⟨_, slT_row (a := a.toNat) (b := a.toNat + (1 + i)) _ (sIx_int (by omega) (by rw [List.length_append]; omega)) (sIx_int (by omega) (by rw [List.length_append]; omega)), ?_⟩
      repeat' (first
      | with_reducible (first | refine WS_seq ?_ | refine WS_set ?_ | refine WS_ret ?_ | refine WS_if ?_ | refine WS_drop ?_ | refine WS_nx ?_ | refine WE_bin ?_ | refine WE_cons ?_ | refine WE_nil ?_ | refine WE_k ?_ | refine WE_app ?_ | refine WE_un ?_ | refine WE_B ?_ | refine WE_notC ?_ | refine WE_call ?_ | refine WE_callK ?_ | refine WE_lst ?_ | refine WE_tup ?_ | refine WE_chain ?_ | refine WE_andV ?_ | refine WE_orV ?_ | refine WE_notV ?_ | refine WE_andC ?_ | refine WE_orC ?_ | refine WE_if ?_ | refine WS_par2 ?_ | refine WS_par3 ?_ | refine WE_rg1 ?_ | refine WE_rg2 ?_ | refine WE_items ?_ | refine WE_enum ?_ | refine WE_zip ?_ | refine WE_revd ?_ | refine WE_callG ?_ | refine WS_put ?_ | refine WS_app ?_ | refine WE_pix ?_ | refine WE_sl ?_ | refine WE_p0 ?_ | refine WE_p1 ?_ | refine WE_true ?_ | refine WE_bor ?_ | refine WE_borC ?_ | refine WE_mt ?_ | refine WS_asg ?_) | ((with_reducible apply WE_var); (case h => exact rfl))
      | ((with_reducible refine And.intro ?_ ?_); (with_reducible first | exact ff1 | exact ff2 | exact ff3 | exact ff4 | exact ff5 | fail); (intro _))
      | ((with_reducible refine And.intro ?_ ?_); rotate_left; (with_reducible first | exact tt1 | exact tt2 | exact tt3 | exact tt4 | exact tt5 | fail); (intro _))
      | ((with_reducible apply Exists.intro); (with_reducible apply And.intro); first | ((with_reducible (first | show addT (.int _) (.int _) = some _ | show subT (.int _) (.int _) = some _ | show negT (.int _) = some _ | show ltT (.int _) (.int _) = some _ | show leT (.int _) (.int _) = some _ | show gtT (.int _) (.int _) = some _ | show geT (.int _) (.int _) = some _ | show intT [.int _] = some _ | show max2T [.int _, .int _] = some _ | show min2T [.int _, .int _] = some _ | show absT [.int _] = some _ | show eqT (.int _) (.int _) = some _ | show neT (.int _) (.int _) = some _ | show T.bl _ = T.bl _ | show T.int _ = T.int _)); exact rfl) | ((with_reducible (first | show isiT _ _ = some _ | show isT _ _ = some _ | show isNT _ _ = some _ | show isisT _ _ = some _)); first | exact (rfl : _ = some (T.bl true)) | exact (rfl : _ = some (T.bl false)) | exact rfl) | fail)
      | fail)
      refine ⟨_, sumT_row _, ?_, rfl⟩
      rw [show a.toNat + (1 + i) - a.toNat = 1 + i by omega]
      rfl
    · rw [told_T r (1 + i) rfl]
      obtain ⟨a, ha, ha2, _⟩ := maxI_some (x := told r (1 + i)) (by rw [told_len]; omega)
      obtain ⟨b, hb, hb2, _⟩ := minI_some (x := told r (1 + i)) (by rw [told_len]; omega)
      have hev : evl r (1 + i) = decide (a - b ≤ 1) := by unfold evl; rw [ha, hb]; rfl
      have ma : maxT [rowT (told r (1 + i))] = some (.int a) := by rw [maxT_row, ha]; rfl
      have mb : minT [rowT (told r (1 + i))] = some (.int b) := by rw [minT_row, hb]; rfl
      try simp only [List.map_cons, List.map_nil, List.cons_append, List.nil_append, List.length_cons, List.length_nil, Nat.zero_add, Nat.reduceAdd, Nat.reduceSub, Nat.sub_self, List.replicate_zero, List.replicate_succ, List.append_nil, List.set_cons_zero, List.set_cons_succ]
      repeat' (first
      | with_reducible (first | refine WS_seq ?_ | refine WS_set ?_ | refine WS_ret ?_ | refine WS_if ?_ | refine WS_drop ?_ | refine WS_nx ?_ | refine WE_bin ?_ | refine WE_cons ?_ | refine WE_nil ?_ | refine WE_k ?_ | refine WE_app ?_ | refine WE_un ?_ | refine WE_B ?_ | refine WE_notC ?_ | refine WE_call ?_ | refine WE_callK ?_ | refine WE_lst ?_ | refine WE_tup ?_ | refine WE_chain ?_ | refine WE_andV ?_ | refine WE_orV ?_ | refine WE_notV ?_ | refine WE_andC ?_ | refine WE_orC ?_ | refine WE_if ?_ | refine WS_par2 ?_ | refine WS_par3 ?_ | refine WE_rg1 ?_ | refine WE_rg2 ?_ | refine WE_items ?_ | refine WE_enum ?_ | refine WE_zip ?_ | refine WE_revd ?_ | refine WE_callG ?_ | refine WS_put ?_ | refine WS_app ?_ | refine WE_pix ?_ | refine WE_sl ?_ | refine WE_p0 ?_ | refine WE_p1 ?_ | refine WE_true ?_ | refine WE_bor ?_ | refine WE_borC ?_ | refine WE_mt ?_ | refine WS_asg ?_) | ((with_reducible apply WE_var); (case h => exact rfl))
      | ((with_reducible refine And.intro ?_ ?_); (with_reducible first | exact ff1 | exact ff2 | exact ff3 | exact ff4 | exact ff5 | fail); (intro _))
      | ((with_reducible refine And.intro ?_ ?_); rotate_left; (with_reducible first | exact tt1 | exact tt2 | exact tt3 | exact tt4 | exact tt5 | fail); (intro _))
      | ((with_reducible apply Exists.intro); (with_reducible apply And.intro); first | ((with_reducible (first | show addT (.int _) (.int _) = some _ | show subT (.int _) (.int _) = some _ | show negT (.int _) = some _ | show ltT (.int _) (.int _) = some _ | show leT (.int _) (.int _) = some _ | show gtT (.int _) (.int _) = some _ | show geT (.int _) (.int _) = some _ | show intT [.int _] = some _ | show max2T [.int _, .int _] = some _ | show min2T [.int _, .int _] = some _ | show absT [.int _] = some _ | show eqT (.int _) (.int _) = some _ | show neT (.int _) (.int _) = some _ | show T.bl _ = T.bl _ | show T.int _ = T.int _)); exact rfl) | ((with_reducible (first | show isiT _ _ = some _ | show isT _ _ = some _ | show isNT _ _ = some _ | show isisT _ _ = some _)); first | exact (rfl : _ = some (T.bl true)) | exact (rfl : _ = some (T.bl false)) | exact rfl) | fail)
      | fail)
      refine ⟨_, ma, ?_⟩
      repeat' (first
      | with_reducible (first | refine WS_seq ?_ | refine WS_set ?_ | refine WS_ret ?_ | refine WS_if ?_ | refine WS_drop ?_ | refine WS_nx ?_ | refine WE_bin ?_ | refine WE_cons ?_ | refine WE_nil ?_ | refine WE_k ?_ | refine WE_app ?_ | refine WE_un ?_ | refine WE_B ?_ | refine WE_notC ?_ | refine WE_call ?_ | refine WE_callK ?_ | refine WE_lst ?_ | refine WE_tup ?_ | refine WE_chain ?_ | refine WE_andV ?_ | refine WE_orV ?_ | refine WE_notV ?_ | refine WE_andC ?_ | refine WE_orC ?_ | refine WE_if ?_ | refine WS_par2 ?_ | refine WS_par3 ?_ | refine WE_rg1 ?_ | refine WE_rg2 ?_ | refine WE_items ?_ | refine WE_enum ?_ | refine WE_zip ?_ | refine WE_revd ?_ | refine WE_callG ?_ | refine WS_put ?_ | refine WS_app ?_ | refine WE_pix ?_ | refine WE_sl ?_ | refine WE_p0 ?_ | refine WE_p1 ?_ | refine WE_true ?_ | refine WE_bor ?_ | refine WE_borC ?_ | refine WE_mt ?_ | refine WS_asg ?_) | ((with_reducible apply WE_var); (case h => exact rfl))
      | ((with_reducible refine And.intro ?_ ?_); (with_reducible first | exact ff1 | exact ff2 | exact ff3 | exact ff4 | exact ff5 | fail); (intro _))
      | ((with_reducible refine And.intro ?_ ?_); rotate_left; (with_reducible first | exact tt1 | exact tt2 | exact tt3 | exact tt4 | exact tt5 | fail); (intro _))
      | ((with_reducible apply Exists.intro); (with_reducible apply And.intro); first | ((with_reducible (first | show addT (.int _) (.int _) = some _ | show subT (.int _) (.int _) = some _ | show negT (.int _) = some _ | show ltT (.int _) (.int _) = some _ | show leT (.int _) (.int _) = some _ | show gtT (.int _) (.int _) = some _ | show geT (.int _) (.int _) = some _ | show intT [.int _] = some _ | show max2T [.int _, .int _] = some _ | show min2T [.int _, .int _] = some _ | show absT [.int _] = some _ | show eqT (.int _) (.int _) = some _ | show neT (.int _) (.int _) = some _ | show T.bl _ = T.bl _ | show T.int _ = T.int _)); exact rfl) | ((with_reducible (first | show isiT _ _ = some _ | show isT _ _ = some _ | show isNT _ _ = some _ | show isisT _ _ = some _)); first | exact (rfl : _ = some (T.bl true)) | exact (rfl : _ = some (T.bl false)) | exact rfl) | fail)
      | fail)
      refine ⟨_, mb, ?_⟩
      repeat' (first
      | with_reducible (first | refine WS_seq ?_ | refine WS_set ?_ | refine WS_ret ?_ | refine WS_if ?_ | refine WS_drop ?_ | refine WS_nx ?_ | refine WE_bin ?_ | refine WE_cons ?_ | refine WE_nil ?_ | refine WE_k ?_ | refine WE_app ?_ | refine WE_un ?_ | refine WE_B ?_ | refine WE_notC ?_ | refine WE_call ?_ | refine WE_callK ?_ | refine WE_lst ?_ | refine WE_tup ?_ | refine WE_chain ?_ | refine WE_andV ?_ | refine WE_orV ?_ | refine WE_notV ?_ | refine WE_andC ?_ | refine WE_orC ?_ | refine WE_if ?_ | refine WS_par2 ?_ | refine WS_par3 ?_ | refine WE_rg1 ?_ | refine WE_rg2 ?_ | refine WE_items ?_ | refine WE_enum ?_ | refine WE_zip ?_ | refine WE_revd ?_ | refine WE_callG ?_ | refine WS_put ?_ | refine WS_app ?_ | refine WE_pix ?_ | refine WE_sl ?_ | refine WE_p0 ?_ | refine WE_p1 ?_ | refine WE_true ?_ | refine WE_bor ?_ | refine WE_borC ?_ | refine WE_mt ?_ | refine WS_asg ?_) | ((with_reducible apply WE_var); (case h => exact rfl))
      | ((with_reducible refine And.intro ?_ ?_); (with_reducible first | exact ff1 | exact ff2 | exact ff3 | exact ff4 | exact ff5 | fail); (intro _))
      | ((with_reducible refine And.intro ?_ ?_); rotate_left; (with_reducible first | exact tt1 | exact tt2 | exact tt3 | exact tt4 | exact tt5 | fail); (intro _))
      | ((with_reducible apply Exists.intro); (with_reducible apply And.intro); first | ((with_reducible (first | show addT (.int _) (.int _) = some _ | show subT (.int _) (.int _) = some _ | show negT (.int _) = some _ | show ltT (.int _) (.int _) = some _ | show leT (.int _) (.int _) = some _ | show gtT (.int _) (.int _) = some _ | show geT (.int _) (.int _) = some _ | show intT [.int _] = some _ | show max2T [.int _, .int _] = some _ | show min2T [.int _, .int _] = some _ | show absT [.int _] = some _ | show eqT (.int _) (.int _) = some _ | show neT (.int _) (.int _) = some _ | show T.bl _ = T.bl _ | show T.int _ = T.int _)); exact rfl) | ((with_reducible (first | show isiT _ _ = some _ | show isT _ _ = some _ | show isNT _ _ = some _ | show isisT _ _ = some _)); first | exact (rfl : _ = some (T.bl true)) | exact (rfl : _ = some (T.bl false)) | exact rfl) | fail)
      | fail)
      refine ⟨fun hz => ?_, fun hz => ?_⟩
      · have hz := of_decide_eq_true hz
        obtain ⟨k1, hk1⟩ := indexT_row hb2
        obtain ⟨k2, hk2⟩ := indexT_row ha2
        repeat' (first
      | with_reducible (first | refine WS_seq ?_ | refine WS_set ?_ | refine WS_ret ?_ | refine WS_if ?_ | refine WS_drop ?_ | refine WS_nx ?_ | refine WE_bin ?_ | refine WE_cons ?_ | refine WE_nil ?_ | refine WE_k ?_ | refine WE_app ?_ | refine WE_un ?_ | refine WE_B ?_ | refine WE_notC ?_ | refine WE_call ?_ | refine WE_callK ?_ | refine WE_lst ?_ | refine WE_tup ?_ | refine WE_chain ?_ | refine WE_andV ?_ | refine WE_orV ?_ | refine WE_notV ?_ | refine WE_andC ?_ | refine WE_orC ?_ | refine WE_if ?_ | refine WS_par2 ?_ | refine WS_par3 ?_ | refine WE_rg1 ?_ | refine WE_rg2 ?_ | refine WE_items ?_ | refine WE_enum ?_ | refine WE_zip ?_ | refine WE_revd ?_ | refine WE_callG ?_ | refine WS_put ?_ | refine WS_app ?_ | refine WE_pix ?_ | refine WE_sl ?_ | refine WE_p0 ?_ | refine WE_p1 ?_ | refine WE_true ?_ | refine WE_bor ?_ | refine WE_borC ?_ | refine WE_mt ?_ | refine WS_asg ?_) | ((with_reducible apply WE_var); (case h => exact rfl))
      | ((with_reducible refine And.intro ?_ ?_); (with_reducible first | exact ff1 | exact ff2 | exact ff3 | exact ff4 | exact ff5 | fail); (intro _))
      | ((with_reducible refine And.intro ?_ ?_); rotate_left; (with_reducible first | exact tt1 | exact tt2 | exact tt3 | exact tt4 | exact tt5 | fail); (intro _))
      | ((with_reducible apply Exists.intro); (with_reducible apply And.intro); first | ((with_reducible (first | show addT (.int _) (.int _) = some _ | show subT (.int _) (.int _) = some _ | show negT (.int _) = some _ | show ltT (.int _) (.int _) = some _ | show leT (.int _) (.int _) = some _ | show gtT (.int _) (.int _) = some _ | show geT (.int _) (.int _) = some _ | show intT [.int _] = some _ | show max2T [.int _, .int _] = some _ | show min2T [.int _, .int _] = some _ | show absT [.int _] = some _ | show eqT (.int _) (.int _) = some _ | show neT (.int _) (.int _) = some _ | show T.bl _ = T.bl _ | show T.int _ = T.int _)); exact rfl) | ((with_reducible (first | show isiT _ _ = some _ | show isT _ _ = some _ | show isNT _ _ = some _ | show isisT _ _ = some _)); first | exact (rfl : _ = some (T.bl true)) | exact (rfl : _ = some (T.bl false)) | exact rfl) | fail)
      | fail)
        refine ⟨_, rfl, ?_⟩
        repeat' (first
      | with_reducible (first | refine WS_seq ?_ | refine WS_set ?_ | refine WS_ret ?_ | refine WS_if ?_ | refine WS_drop ?_ | refine WS_nx ?_ | refine WE_bin ?_ | refine WE_cons ?_ | refine WE_nil ?_ | refine WE_k ?_ | refine WE_app ?_ | refine WE_un ?_ | refine WE_B ?_ | refine WE_notC ?_ | refine WE_call ?_ | refine WE_callK ?_ | refine WE_lst ?_ | refine WE_tup ?_ | refine WE_chain ?_ | refine WE_andV ?_ | refine WE_orV ?_ | refine WE_notV ?_ | refine WE_andC ?_ | refine WE_orC ?_ | refine WE_if ?_ | refine WS_par2 ?_ | refine WS_par3 ?_ | refine WE_rg1 ?_ | refine WE_rg2 ?_ | refine WE_items ?_ | refine WE_enum ?_ | refine WE_zip ?_ | refine WE_revd ?_ | refine WE_callG ?_ | refine WS_put ?_ | refine WS_app ?_ | refine WE_pix ?_ | refine WE_sl ?_ | refine WE_p0 ?_ | refine WE_p1 ?_ | refine WE_true ?_ | refine WE_bor ?_ | refine WE_borC ?_ | refine WE_mt ?_ | refine WS_asg ?_) | ((with_reducible apply WE_var); (case h => exact rfl))
      | ((with_reducible refine And.intro ?_ ?_); (with_reducible first | exact ff1 | exact ff2 | exact ff3 | exact ff4 | exact ff5 | fail); (intro _))
      | ((with_reducible refine And.intro ?_ ?_); rotate_left; (with_reducible first | exact tt1 | exact tt2 | exact tt3 | exact tt4 | exact tt5 | fail); (intro _))
      | ((with_reducible apply Exists.intro); (with_reducible apply And.intro); first | ((with_reducible (first | show addT (.int _) (.int _) = some _ | show subT (.int _) (.int _) = some _ | show negT (.int _) = some _ | show ltT (.int _) (.int _) = some _ | show leT (.int _) (.int _) = some _ | show gtT (.int _) (.int _) = some _ | show geT (.int _) (.int _) = some _ | show intT [.int _] = some _ | show max2T [.int _, .int _] = some _ | show min2T [.int _, .int _] = some _ | show absT [.int _] = some _ | show eqT (.int _) (.int _) = some _ | show neT (.int _) (.int _) = some _ | show T.bl _ = T.bl _ | show T.int _ = T.int _)); exact rfl) | ((with_reducible (first | show isiT _ _ = some _ | show isT _ _ = some _ | show isNT _ _ = some _ | show isisT _ _ = some _)); first | exact (rfl : _ = some (T.bl true)) | exact (rfl : _ = some (T.bl false)) | exact rfl) | fail)
      | fail)
        refine ⟨_, mb, ?_⟩
        repeat' (first
      | with_reducible (first | refine WS_seq ?_ | refine WS_set ?_ | refine WS_ret ?_ | refine WS_if ?_ | refine WS_drop ?_ | refine WS_nx ?_ | refine WE_bin ?_ | refine WE_cons ?_ | refine WE_nil ?_ | refine WE_k ?_ | refine WE_app ?_ | refine WE_un ?_ | refine WE_B ?_ | refine WE_notC ?_ | refine WE_call ?_ | refine WE_callK ?_ | refine WE_lst ?_ | refine WE_tup ?_ | refine WE_chain ?_ | refine WE_andV ?_ | refine WE_orV ?_ | refine WE_notV ?_ | refine WE_andC ?_ | refine WE_orC ?_ | refine WE_if ?_ | refine WS_par2 ?_ | refine WS_par3 ?_ | refine WE_rg1 ?_ | refine WE_rg2 ?_ | refine WE_items ?_ | refine WE_enum ?_ | refine WE_zip ?_ | refine WE_revd ?_ | refine WE_callG ?_ | refine WS_put ?_ | refine WS_app ?_ | refine WE_pix ?_ | refine WE_sl ?_ | refine WE_p0 ?_ | refine WE_p1 ?_ | refine WE_true ?_ | refine WE_bor ?_ | refine WE_borC ?_ | refine WE_mt ?_ | refine WS_asg ?_) | ((with_reducible apply WE_var); (case h => exact rfl))
      | ((with_reducible refine And.intro ?_ ?_); (with_reducible first | exact ff1 | exact ff2 | exact ff3 | exact ff4 | exact ff5 | fail); (intro _))
      | ((with_reducible refine And.intro ?_ ?_); rotate_left; (with_reducible first | exact tt1 | exact tt2 | exact tt3 | exact tt4 | exact tt5 | fail); (intro _))
      | ((with_reducible apply Exists.intro); (with_reducible apply And.intro); first | ((with_reducible (first | show addT (.int _) (.int _) = some _ | show subT (.int _) (.int _) = some _ | show negT (.int _) = some _ | show ltT (.int _) (.int _) = some _ | show leT (.int _) (.int _) = some _ | show gtT (.int _) (.int _) = some _ | show geT (.int _) (.int _) = some _ | show intT [.int _] = some _ | show max2T [.int _, .int _] = some _ | show min2T [.int _, .int _] = some _ | show absT [.int _] = some _ | show eqT (.int _) (.int _) = some _ | show neT (.int _) (.int _) = some _ | show T.bl _ = T.bl _ | show T.int _ = T.int _)); exact rfl) | ((with_reducible (first | show isiT _ _ = some _ | show isT _ _ = some _ | show isNT _ _ = some _ | show isisT _ _ = some _)); first | exact (rfl : _ = some (T.bl true)) | exact (rfl : _ = some (T.bl false)) | exact rfl) | fail)
      | fail)
        refine ⟨_, hk1, ?_⟩
        repeat' (first
      | with_reducible (first | refine WS_seq ?_ | refine WS_set ?_ | refine WS_ret ?_ | refine WS_if ?_ | refine WS_drop ?_ | refine WS_nx ?_ | refine WE_bin ?_ | refine WE_cons ?_ | refine WE_nil ?_ | refine WE_k ?_ | refine WE_app ?_ | refine WE_un ?_ | refine WE_B ?_ | refine WE_notC ?_ | refine WE_call ?_ | refine WE_callK ?_ | refine WE_lst ?_ | refine WE_tup ?_ | refine WE_chain ?_ | refine WE_andV ?_ | refine WE_orV ?_ | refine WE_notV ?_ | refine WE_andC ?_ | refine WE_orC ?_ | refine WE_if ?_ | refine WS_par2 ?_ | refine WS_par3 ?_ | refine WE_rg1 ?_ | refine WE_rg2 ?_ | refine WE_items ?_ | refine WE_enum ?_ | refine WE_zip ?_ | refine WE_revd ?_ | refine WE_callG ?_ | refine WS_put ?_ | refine WS_app ?_ | refine WE_pix ?_ | refine WE_sl ?_ | refine WE_p0 ?_ | refine WE_p1 ?_ | refine WE_true ?_ | refine WE_bor ?_ | refine WE_borC ?_ | refine WE_mt ?_ | refine WS_asg ?_) | ((with_reducible apply WE_var); (case h => exact rfl))
      | ((with_reducible refine And.intro ?_ ?_); (with_reducible first | exact ff1 | exact ff2 | exact ff3 | exact ff4 | exact ff5 | fail); (intro _))
      | ((with_reducible refine And.intro ?_ ?_); rotate_left; (with_reducible first | exact tt1 | exact tt2 | exact tt3 | exact tt4 | exact tt5 | fail); (intro _))
      | ((with_reducible apply Exists.intro); (with_reducible apply And.intro); first | ((with_reducible (first | show addT (.int _) (.int _) = some _ | show subT (.int _) (.int _) = some _ | show negT (.int _) = some _ | show ltT (.int _) (.int _) = some _ | show leT (.int _) (.int _) = some _ | show gtT (.int _) (.int _) = some _ | show geT (.int _) (.int _) = some _ | show intT [.int _] = some _ | show max2T [.int _, .int _] = some _ | show min2T [.int _, .int _] = some _ | show absT [.int _] = some _ | show eqT (.int _) (.int _) = some _ | show neT (.int _) (.int _) = some _ | show T.bl _ = T.bl _ | show T.int _ = T.int _)); exact rfl) | ((with_reducible (first | show isiT _ _ = some _ | show isT _ _ = some _ | show isNT _ _ = some _ | show isisT _ _ = some _)); first | exact (rfl : _ = some (T.bl true)) | exact (rfl : _ = some (T.bl false)) | exact rfl) | fail)
      | fail)
        refine ⟨_, rfl, ?_⟩
        repeat' (first
      | with_reducible (first | refine WS_seq ?_ | refine WS_set ?_ | refine WS_ret ?_ | refine WS_if ?_ | refine WS_drop ?_ | refine WS_nx ?_ | refine WE_bin ?_ | refine WE_cons ?_ | refine WE_nil ?_ | refine WE_k ?_ | refine WE_app ?_ | refine WE_un ?_ | refine WE_B ?_ | refine WE_notC ?_ | refine WE_call ?_ | refine WE_callK ?_ | refine WE_lst ?_ | refine WE_tup ?_ | refine WE_chain ?_ | refine WE_andV ?_ | refine WE_orV ?_ | refine WE_notV ?_ | refine WE_andC ?_ | refine WE_orC ?_ | refine WE_if ?_ | refine WS_par2 ?_ | refine WS_par3 ?_ | refine WE_rg1 ?_ | refine WE_rg2 ?_ | refine WE_items ?_ | refine WE_enum ?_ | refine WE_zip ?_ | refine WE_revd ?_ | refine WE_callG ?_ | refine WS_put ?_ | refine WS_app ?_ | refine WE_pix ?_ | refine WE_sl ?_ | refine WE_p0 ?_ | refine WE_p1 ?_ | refine WE_true ?_ | refine WE_bor ?_ | refine WE_borC ?_ | refine WE_mt ?_ | refine WS_asg ?_) | ((with_reducible apply WE_var); (case h => exact rfl))
      | ((with_reducible refine And.intro ?_ ?_); (with_reducible first | exact ff1 | exact ff2 | exact ff3 | exact ff4 | exact ff5 | fail); (intro _))
      | ((with_reducible refine And.intro ?_ ?_); rotate_left; (with_reducible first | exact tt1 | exact tt2 | exact tt3 | exact tt4 | exact tt5 | fail); (intro _))
      | ((with_reducible apply Exists.intro); (with_reducible apply And.intro); first | ((with_reducible (first | show addT (.int _) (.int _) = some _ | show subT (.int _) (.int _) = some _ | show negT (.int _) = some _ | show ltT (.int _) (.int _) = some _ | show leT (.int _) (.int _) = some _ | show gtT (.int _) (.int _) = some _ | show geT (.int _) (.int _) = some _ | show intT [.int _] = some _ | show max2T [.int _, .int _] = some _ | show min2T [.int _, .int _] = some _ | show absT [.int _] = some _ | show eqT (.int _) (.int _) = some _ | show neT (.int _) (.int _) = some _ | show T.bl _ = T.bl _ | show T.int _ = T.int _)); exact rfl) | ((with_reducible (first | show isiT _ _ = some _ | show isT _ _ = some _ | show isNT _ _ = some _ | show isisT _ _ = some _)); first | exact (rfl : _ = some (T.bl true)) | exact (rfl : _ = some (T.bl false)) | exact rfl) | fail)
      | fail)
        refine ⟨_, ma, ?_⟩
        repeat' (first
      | with_reducible (first | refine WS_seq ?_ | refine WS_set ?_ | refine WS_ret ?_ | refine WS_if ?_ | refine WS_drop ?_ | refine WS_nx ?_ | refine WE_bin ?_ | refine WE_cons ?_ | refine WE_nil ?_ | refine WE_k ?_ | refine WE_app ?_ | refine WE_un ?_ | refine WE_B ?_ | refine WE_notC ?_ | refine WE_call ?_ | refine WE_callK ?_ | refine WE_lst ?_ | refine WE_tup ?_ | refine WE_chain ?_ | refine WE_andV ?_ | refine WE_orV ?_ | refine WE_notV ?_ | refine WE_andC ?_ | refine WE_orC ?_ | refine WE_if ?_ | refine WS_par2 ?_ | refine WS_par3 ?_ | refine WE_rg1 ?_ | refine WE_rg2 ?_ | refine WE_items ?_ | refine WE_enum ?_ | refine WE_zip ?_ | refine WE_revd ?_ | refine WE_callG ?_ | refine WS_put ?_ | refine WS_app ?_ | refine WE_pix ?_ | refine WE_sl ?_ | refine WE_p0 ?_ | refine WE_p1 ?_ | refine WE_true ?_ | refine WE_bor ?_ | refine WE_borC ?_ | refine WE_mt ?_ | refine WS_asg ?_) | ((with_reducible apply WE_var); (case h => exact rfl))
      | ((with_reducible refine And.intro ?_ ?_); (with_reducible first | exact ff1 | exact ff2 | exact ff3 | exact ff4 | exact ff5 | fail); (intro _))
      | ((with_reducible refine And.intro ?_ ?_); rotate_left; (with_reducible first | exact tt1 | exact tt2 | exact tt3 | exact tt4 | exact tt5 | fail); (intro _))
      | ((with_reducible apply Exists.intro); (with_reducible apply And.intro); first | ((with_reducible (first | show addT (.int _) (.int _) = some _ | show subT (.int _) (.int _) = some _ | show negT (.int _) = some _ | show ltT (.int _) (.int _) = some _ | show leT (.int _) (.int _) = some _ | show gtT (.int _) (.int _) = some _ | show geT (.int _) (.int _) = some _ | show intT [.int _] = some _ | show max2T [.int _, .int _] = some _ | show min2T [.int _, .int _] = some _ | show absT [.int _] = some _ | show eqT (.int _) (.int _) = some _ | show neT (.int _) (.int _) = some _ | show T.bl _ = T.bl _ | show T.int _ = T.int _)); exact rfl) | ((with_reducible (first | show isiT _ _ = some _ | show isT _ _ = some _ | show isNT _ _ = some _ | show isisT _ _ = some _)); first | exact (rfl : _ = some (T.bl true)) | exact (rfl : _ = some (T.bl false)) | exact rfl) | fail)
      | fail)
        refine ⟨_, hk2, ?_⟩
        repeat' (first
      | with_reducible (first | refine WS_seq ?_ | refine WS_set ?_ | refine WS_ret ?_ | refine WS_if ?_ | refine WS_drop ?_ | refine WS_nx ?_ | refine WE_bin ?_ | refine WE_cons ?_ | refine WE_nil ?_ | refine WE_k ?_ | refine WE_app ?_ | refine WE_un ?_ | refine WE_B ?_ | refine WE_notC ?_ | refine WE_call ?_ | refine WE_callK ?_ | refine WE_lst ?_ | refine WE_tup ?_ | refine WE_chain ?_ | refine WE_andV ?_ | refine WE_orV ?_ | refine WE_notV ?_ | refine WE_andC ?_ | refine WE_orC ?_ | refine WE_if ?_ | refine WS_par2 ?_ | refine WS_par3 ?_ | refine WE_rg1 ?_ | refine WE_rg2 ?_ | refine WE_items ?_ | refine WE_enum ?_ | refine WE_zip ?_ | refine WE_revd ?_ | refine WE_callG ?_ | refine WS_put ?_ | refine WS_app ?_ | refine WE_pix ?_ | refine WE_sl ?_ | refine WE_p0 ?_ | refine WE_p1 ?_ | refine WE_true ?_ | refine WE_bor ?_ | refine WE_borC ?_ | refine WE_mt ?_ | refine WS_asg ?_) | ((with_reducible apply WE_var); (case h => exact rfl))
      | ((with_reducible refine And.intro ?_ ?_); (with_reducible first | exact ff1 | exact ff2 | exact ff3 | exact ff4 | exact ff5 | fail); (intro _))
      | ((with_reducible refine And.intro ?_ ?_); rotate_left; (with_reducible first | exact tt1 | exact tt2 | exact tt3 | exact tt4 | exact tt5 | fail); (intro _))
      | ((with_reducible apply Exists.intro); (with_reducible apply And.intro); first | ((with_reducible (first | show addT (.int _) (.int _) = some _ | show subT (.int _) (.int _) = some _ | show negT (.int _) = some _ | show ltT (.int _) (.int _) = some _ | show leT (.int _) (.int _) = some _ | show gtT (.int _) (.int _) = some _ | show geT (.int _) (.int _) = some _ | show intT [.int _] = some _ | show max2T [.int _, .int _] = some _ | show min2T [.int _, .int _] = some _ | show absT [.int _] = some _ | show eqT (.int _) (.int _) = some _ | show neT (.int _) (.int _) = some _ | show T.bl _ = T.bl _ | show T.int _ = T.int _)); exact rfl) | ((with_reducible (first | show isiT _ _ = some _ | show isT _ _ = some _ | show isNT _ _ = some _ | show isisT _ _ = some _)); first | exact (rfl : _ = some (T.bl true)) | exact (rfl : _ = some (T.bl false)) | exact rfl) | fail)
      | fail)
        refine ⟨by show 3 ≤ LIM; decide, q2 ?_ _⟩
        refine Bool.eq_false_iff.mpr fun e => ?_
        have := List.all_eq_true.mp e (1 + i) (List.mem_range'_1.mpr ⟨by omega, by omega⟩)
        rw [hev] at this
        have := of_decide_eq_true this
        omega
      · have hz := of_decide_eq_false hz
        repeat' (first
      | with_reducible (first | refine WS_seq ?_ | refine WS_set ?_ | refine WS_ret ?_ | refine WS_if ?_ | refine WS_drop ?_ | refine WS_nx ?_ | refine WE_bin ?_ | refine WE_cons ?_ | refine WE_nil ?_ | refine WE_k ?_ | refine WE_app ?_ | refine WE_un ?_ | refine WE_B ?_ | refine WE_notC ?_ | refine WE_call ?_ | refine WE_callK ?_ | refine WE_lst ?_ | refine WE_tup ?_ | refine WE_chain ?_ | refine WE_andV ?_ | refine WE_orV ?_ | refine WE_notV ?_ | refine WE_andC ?_ | refine WE_orC ?_ | refine WE_if ?_ | refine WS_par2 ?_ | refine WS_par3 ?_ | refine WE_rg1 ?_ | refine WE_rg2 ?_ | refine WE_items ?_ | refine WE_enum ?_ | refine WE_zip ?_ | refine WE_revd ?_ | refine WE_callG ?_ | refine WS_put ?_ | refine WS_app ?_ | refine WE_pix ?_ | refine WE_sl ?_ | refine WE_p0 ?_ | refine WE_p1 ?_ | refine WE_true ?_ | refine WE_bor ?_ | refine WE_borC ?_ | refine WE_mt ?_ | refine WS_asg ?_) | ((with_reducible apply WE_var); (case h => exact rfl))
      | ((with_reducible refine And.intro ?_ ?_); (with_reducible first | exact ff1 | exact ff2 | exact ff3 | exact ff4 | exact ff5 | fail); (intro _))
      | ((with_reducible refine And.intro ?_ ?_); rotate_left; (with_reducible first | exact tt1 | exact tt2 | exact tt3 | exact tt4 | exact tt5 | fail); (intro _))
      | ((with_reducible apply Exists.intro); (with_reducible apply And.intro); first | ((with_reducible (first | show addT (.int _) (.int _) = some _ | show subT (.int _) (.int _) = some _ | show negT (.int _) = some _ | show ltT (.int _) (.int _) = some _ | show leT (.int _) (.int _) = some _ | show gtT (.int _) (.int _) = some _ | show geT (.int _) (.int _) = some _ | show intT [.int _] = some _ | show max2T [.int _, .int _] = some _ | show min2T [.int _, .int _] = some _ | show absT [.int _] = some _ | show eqT (.int _) (.int _) = some _ | show neT (.int _) (.int _) = some _ | show T.bl _ = T.bl _ | show T.int _ = T.int _)); exact rfl) | ((with_reducible (first | show isiT _ _ = some _ | show isT _ _ = some _ | show isNT _ _ = some _ | show isisT _ _ = some _)); first | exact (rfl : _ = some (T.bl true)) | exact (rfl : _ = some (T.bl false)) | exact rfl) | fail)
      | fail)
        refine ⟨_, _, _, rfl, trivial, fun l h3 h4 => ?_⟩
        by_cases e : l = 1 + i
        · rw [e, hev]
          exact decide_eq_true (by omega)
        · exact he l h3 (by omega)
  · obtain ⟨x, y, z, rfl, -, he⟩ := hs
    repeat' (first
      | with_reducible (first | refine WS_seq ?_ | refine WS_set ?_ | refine WS_ret ?_ | refine WS_if ?_ | refine WS_drop ?_ | refine WS_nx ?_ | refine WE_bin ?_ | refine WE_cons ?_ | refine WE_nil ?_ | refine WE_k ?_ | refine WE_app ?_ | refine WE_un ?_ | refine WE_B ?_ | refine WE_notC ?_ | refine WE_call ?_ | refine WE_callK ?_ | refine WE_lst ?_ | refine WE_tup ?_ | refine WE_chain ?_ | refine WE_andV ?_ | refine WE_orV ?_ | refine WE_notV ?_ | refine WE_andC ?_ | refine WE_orC ?_ | refine WE_if ?_ | refine WS_par2 ?_ | refine WS_par3 ?_ | refine WE_rg1 ?_ | refine WE_rg2 ?_ | refine WE_items ?_ | refine WE_enum ?_ | refine WE_zip ?_ | refine WE_revd ?_ | refine WE_callG ?_ | refine WS_put ?_ | refine WS_app ?_ | refine WE_pix ?_ | refine WE_sl ?_ | refine WE_p0 ?_ | refine WE_p1 ?_ | refine WE_true ?_ | refine WE_bor ?_ | refine WE_borC ?_ | refine WE_mt ?_ | refine WS_asg ?_) | ((with_reducible apply WE_var); (case h => exact rfl))
      | ((with_reducible refine And.intro ?_ ?_); (with_reducible first | exact ff1 | exact ff2 | exact ff3 | exact ff4 | exact ff5 | fail); (intro _))
      | ((with_reducible refine And.intro ?_ ?_); rotate_left; (with_reducible first | exact tt1 | exact tt2 | exact tt3 | exact tt4 | exact tt5 | fail); (intro _))
      | ((with_reducible apply Exists.intro); (with_reducible apply And.intro); first | ((with_reducible (first | show addT (.int _) (.int _) = some _ | show subT (.int _) (.int _) = some _ | show negT (.int _) = some _ | show ltT (.int _) (.int _) = some _ | show leT (.int _) (.int _) = some _ | show gtT (.int _) (.int _) = some _ | show geT (.int _) (.int _) = some _ | show intT [.int _] = some _ | show max2T [.int _, .int _] = some _ | show min2T [.int _, .int _] = some _ | show absT [.int _] = some _ | show eqT (.int _) (.int _) = some _ | show neT (.int _) (.int _) = some _ | show T.bl _ = T.bl _ | show T.int _ = T.int _)); exact rfl) | ((with_reducible (first | show isiT _ _ = some _ | show isT _ _ = some _ | show isNT _ _ = some _ | show isisT _ _ = some _)); first | exact (rfl : _ = some (T.bl true)) | exact (rfl : _ = some (T.bl false)) | exact rfl) | fail)
      | fail)
    refine q1 (List.all_eq_true.mpr fun l hl => ?_)
    have hl := List.mem_range'_1.mp hl
    refine he l (by omega) ?_
    rw [rangeT_len]
    omega
/-- heights -/
def hts (r : List Int) (m : Nat) : List Int := (List.range (m + 1)).map fun j => (r.take j).sum
theorem atI_last (ts : List T) (t : T) : atI (ts ++ [t]) (-1) = some t := by
  have e : ixN (ts ++ [t]).length (-1) = some ts.length := by
    rw [List.length_append, List.length_singleton]
    unfold ixN
    first | (simp; done) | (simp; omega) | skip
  unfold atI
  rw [e]
  simp
theorem hts_succ {r : List Int} {i : Nat} (h : i < r.length) : hts r (i + 1) = hts r i ++ [(r.take i).sum + r[i]] := by
  unfold hts
  rw [List.range_succ, List.map_append]
  simp only [List.map_cons, List.map_nil]
  rw [List.take_succ_eq_append_getElem h, List.sum_append]
  simp
theorem hts_last (r : List Int) (i : Nat) : ∃ p, hts r i = p ++ [(r.take i).sum] := by
  unfold hts
  rw [List.range_succ, List.map_append]
  exact ⟨_, rfl⟩
theorem heights_ok {r : List Int} (h2 : r.length ≤ 1000) (q : χ (rowT (hts r r.length)) []) : WR (m_heights [rowT r]) χ ζ := by
  refine WR_fn ?_
  try simp only [List.map_cons, List.map_nil, List.cons_append, List.nil_append, List.length_cons, List.length_nil, Nat.zero_add, Nat.reduceAdd, Nat.reduceSub, Nat.sub_self, List.replicate_zero, List.replicate_succ, List.append_nil, List.set_cons_zero, List.set_cons_succ]
  repeat' (first
      | with_reducible (first | refine WS_seq ?_ | refine WS_set ?_ | refine WS_ret ?_ | refine WS_if ?_ | refine WS_drop ?_ | refine WS_nx ?_ | refine WE_bin ?_ | refine WE_cons ?_ | refine WE_nil ?_ | refine WE_k ?_ | refine WE_app ?_ | refine WE_un ?_ | refine WE_B ?_ | refine WE_notC ?_ | refine WE_call ?_ | refine WE_callK ?_ | refine WE_lst ?_ | refine WE_tup ?_ | refine WE_chain ?_ | refine WE_andV ?_ | refine WE_orV ?_ | refine WE_notV ?_ | refine WE_andC ?_ | refine WE_orC ?_ | refine WE_if ?_ | refine WS_par2 ?_ | refine WS_par3 ?_ | refine WE_rg1 ?_ | refine WE_rg2 ?_ | refine WE_items ?_ | refine WE_enum ?_ | refine WE_zip ?_ | refine WE_revd ?_ | refine WE_callG ?_ | refine WS_put ?_ | refine WS_app ?_ | refine WE_pix ?_ | refine WE_sl ?_ | refine WE_p0 ?_ | refine WE_p1 ?_ | refine WE_true ?_ | refine WE_bor ?_ | refine WE_borC ?_ | refine WE_mt ?_ | refine WS_asg ?_) | ((with_reducible apply WE_var); (case h => exact rfl))
      | ((with_reducible refine And.intro ?_ ?_); (with_reducible first | exact ff1 | exact ff2 | exact ff3 | exact ff4 | exact ff5 | fail); (intro _))
      | ((with_reducible refine And.intro ?_ ?_); rotate_left; (with_reducible first | exact tt1 | exact tt2 | exact tt3 | exact tt4 | exact tt5 | fail); (intro _))
      | ((with_reducible apply Exists.intro); (with_reducible apply And.intro); first | ((with_reducible (first | show addT (.int _) (.int _) = some _ | show subT (.int _) (.int _) = some _ | show negT (.int _) = some _ | show ltT (.int _) (.int _) = some _ | show leT (.int _) (.int _) = some _ | show gtT (.int _) (.int _) = some _ | show geT (.int _) (.int _) = some _ | show intT [.int _] = some _ | show max2T [.int _, .int _] = some _ | show min2T [.int _, .int _] = some _ | show absT [.int _] = some _ | show eqT (.int _) (.int _) = some _ | show neT (.int _) (.int _) = some _ | show T.bl _ = T.bl _ | show T.int _ = T.int _)); exact rfl) | ((with_reducible (first | show isiT _ _ = some _ | show isT _ _ = some _ | show isNT _ _ = some _ | show isisT _ _ = some _)); first | exact (rfl : _ = some (T.bl true)) | exact (rfl : _ = some (T.bl false)) | exact rfl) | fail)
      | fail)
  refine ⟨by show 1 ≤ LIM; decide, ?_⟩
  try simp only [List.map_cons, List.map_nil, List.cons_append, List.nil_append, List.length_cons, List.length_nil, Nat.zero_add, Nat.reduceAdd, Nat.reduceSub, Nat.sub_self, List.replicate_zero, List.replicate_succ, List.append_nil, List.set_cons_zero, List.set_cons_succ]
  repeat' (first
      | with_reducible (first | refine WS_seq ?_ | refine WS_set ?_ | refine WS_ret ?_ | refine WS_if ?_ | refine WS_drop ?_ | refine WS_nx ?_ | refine WE_bin ?_ | refine WE_cons ?_ | refine WE_nil ?_ | refine WE_k ?_ | refine WE_app ?_ | refine WE_un ?_ | refine WE_B ?_ | refine WE_notC ?_ | refine WE_call ?_ | refine WE_callK ?_ | refine WE_lst ?_ | refine WE_tup ?_ | refine WE_chain ?_ | refine WE_andV ?_ | refine WE_orV ?_ | refine WE_notV ?_ | refine WE_andC ?_ | refine WE_orC ?_ | refine WE_if ?_ | refine WS_par2 ?_ | refine WS_par3 ?_ | refine WE_rg1 ?_ | refine WE_rg2 ?_ | refine WE_items ?_ | refine WE_enum ?_ | refine WE_zip ?_ | refine WE_revd ?_ | refine WE_callG ?_ | refine WS_put ?_ | refine WS_app ?_ | refine WE_pix ?_ | refine WE_sl ?_ | refine WE_p0 ?_ | refine WE_p1 ?_ | refine WE_true ?_ | refine WE_bor ?_ | refine WE_borC ?_ | refine WE_mt ?_ | refine WS_asg ?_) | ((with_reducible apply WE_var); (case h => exact rfl))
      | ((with_reducible refine And.intro ?_ ?_); (with_reducible first | exact ff1 | exact ff2 | exact ff3 | exact ff4 | exact ff5 | fail); (intro _))
      | ((with_reducible refine And.intro ?_ ?_); rotate_left; (with_reducible first | exact tt1 | exact tt2 | exact tt3 | exact tt4 | exact tt5 | fail); (intro _))
      | ((with_reducible apply Exists.intro); (with_reducible apply And.intro); first | ((with_reducible (first | show addT (.int _) (.int _) = some _ | show subT (.int _) (.int _) = some _ | show negT (.int _) = some _ | show ltT (.int _) (.int _) = some _ | show leT (.int _) (.int _) = some _ | show gtT (.int _) (.int _) = some _ | show geT (.int _) (.int _) = some _ | show intT [.int _] = some _ | show max2T [.int _, .int _] = some _ | show min2T [.int _, .int _] = some _ | show absT [.int _] = some _ | show eqT (.int _) (.int _) = some _ | show neT (.int _) (.int _) = some _ | show T.bl _ = T.bl _ | show T.int _ = T.int _)); exact rfl) | ((with_reducible (first | show isiT _ _ = some _ | show isT _ _ = some _ | show isNT _ _ = some _ | show isisT _ _ = some _)); first | exact (rfl : _ = some (T.bl true)) | exact (rfl : _ = some (T.bl false)) | exact rfl) | fail)
      | fail)
  refine WS_for (fun ts i s => ∃ x, s = [some (rowT r), some (rowT (hts r i)), x] ∧ ts = r.map .int) ?_
  repeat' (first
      | with_reducible (first | refine WS_seq ?_ | refine WS_set ?_ | refine WS_ret ?_ | refine WS_if ?_ | refine WS_drop ?_ | refine WS_nx ?_ | refine WE_bin ?_ | refine WE_cons ?_ | refine WE_nil ?_ | refine WE_k ?_ | refine WE_app ?_ | refine WE_un ?_ | refine WE_B ?_ | refine WE_notC ?_ | refine WE_call ?_ | refine WE_callK ?_ | refine WE_lst ?_ | refine WE_tup ?_ | refine WE_chain ?_ | refine WE_andV ?_ | refine WE_orV ?_ | refine WE_notV ?_ | refine WE_andC ?_ | refine WE_orC ?_ | refine WE_if ?_ | refine WS_par2 ?_ | refine WS_par3 ?_ | refine WE_rg1 ?_ | refine WE_rg2 ?_ | refine WE_items ?_ | refine WE_enum ?_ | refine WE_zip ?_ | refine WE_revd ?_ | refine WE_callG ?_ | refine WS_put ?_ | refine WS_app ?_ | refine WE_pix ?_ | refine WE_sl ?_ | refine WE_p0 ?_ | refine WE_p1 ?_ | refine WE_true ?_ | refine WE_bor ?_ | refine WE_borC ?_ | refine WE_mt ?_ | refine WS_asg ?_) | ((with_reducible apply WE_var); (case h => exact rfl))
      | ((with_reducible refine And.intro ?_ ?_); (with_reducible first | exact ff1 | exact ff2 | exact ff3 | exact ff4 | exact ff5 | fail); (intro _))
      | ((with_reducible refine And.intro ?_ ?_); rotate_left; (with_reducible first | exact tt1 | exact tt2 | exact tt3 | exact tt4 | exact tt5 | fail); (intro _))
      | ((with_reducible apply Exists.intro); (with_reducible apply And.intro); first | ((with_reducible (first | show addT (.int _) (.int _) = some _ | show subT (.int _) (.int _) = some _ | show negT (.int _) = some _ | show ltT (.int _) (.int _) = some _ | show leT (.int _) (.int _) = some _ | show gtT (.int _) (.int _) = some _ | show geT (.int _) (.int _) = some _ | show intT [.int _] = some _ | show max2T [.int _, .int _] = some _ | show min2T [.int _, .int _] = some _ | show absT [.int _] = some _ | show eqT (.int _) (.int _) = some _ | show neT (.int _) (.int _) = some _ | show T.bl _ = T.bl _ | show T.int _ = T.int _)); exact rfl) | ((with_reducible (first | show isiT _ _ = some _ | show isT _ _ = some _ | show isNT _ _ = some _ | show isisT _ _ = some _)); first | exact (rfl : _ = some (T.bl true)) | exact (rfl : _ = some (T.bl false)) | exact rfl) | fail)
      | fail)
  refine ⟨_, .inl rfl, ⟨none, rfl, rfl⟩, fun i t s ht hs => ?_, fun s hs => ?_⟩
  · obtain ⟨x, rfl, -⟩ := hs
    rw [List.getElem?_map] at ht
    cases hx : r[i]? with
    | none => rw [hx] at ht; cases ht
    | some a =>
      rw [hx] at ht
      cases ht
      obtain ⟨hi, hx⟩ := List.getElem?_eq_some_iff.mp hx
      subst hx
      refine ⟨_, rfl, ?_⟩
      obtain ⟨p, hp⟩ := hts_last r i
      try simp only [List.map_cons, List.map_nil, List.cons_append, List.nil_append, List.length_cons, List.length_nil, Nat.zero_add, Nat.reduceAdd, Nat.reduceSub, Nat.sub_self, List.replicate_zero, List.replicate_succ, List.append_nil, List.set_cons_zero, List.set_cons_succ]
      repeat' (first
      | with_reducible (first | refine WS_seq ?_ | refine WS_set ?_ | refine WS_ret ?_ | refine WS_if ?_ | refine WS_drop ?_ | refine WS_nx ?_ | refine WE_bin ?_ | refine WE_cons ?_ | refine WE_nil ?_ | refine WE_k ?_ | refine WE_app ?_ | refine WE_un ?_ | refine WE_B ?_ | refine WE_notC ?_ | refine WE_call ?_ | refine WE_callK ?_ | refine WE_lst ?_ | refine WE_tup ?_ | refine WE_chain ?_ | refine WE_andV ?_ | refine WE_orV ?_ | refine WE_notV ?_ | refine WE_andC ?_ | refine WE_orC ?_ | refine WE_if ?_ | refine WS_par2 ?_ | refine WS_par3 ?_ | refine WE_rg1 ?_ | refine WE_rg2 ?_ | refine WE_items ?_ | refine WE_enum ?_ | refine WE_zip ?_ | refine WE_revd ?_ | refine WE_callG ?_ | refine WS_put ?_ | refine WS_app ?_ | refine WE_pix ?_ | refine WE_sl ?_ | refine WE_p0 ?_ | refine WE_p1 ?_ | refine WE_true ?_ | refine WE_bor ?_ | refine WE_borC ?_ | refine WE_mt ?_ | refine WS_asg ?_) | ((with_reducible apply WE_var); (case h => exact rfl))
      | ((with_reducible refine And.intro ?_ ?_); (with_reducible first | exact ff1 | exact ff2 | exact ff3 | exact ff4 | exact ff5 | fail); (intro _))
      | ((with_reducible refine And.intro ?_ ?_); rotate_left; (with_reducible first | exact tt1 | exact tt2 | exact tt3 | exact tt4 | exact tt5 | fail); (intro _))
      | ((with_reducible apply Exists.intro); (with_reducible apply And.intro); first | ((with_reducible (first | show addT (.int _) (.int _) = some _ | show subT (.int _) (.int _) = some _ | show negT (.int _) = some _ | show ltT (.int _) (.int _) = some _ | show leT (.int _) (.int _) = some _ | show gtT (.int _) (.int _) = some _ | show geT (.int _) (.int _) = some _ | show intT [.int _] = some _ | show max2T [.int _, .int _] = some _ | show min2T [.int _, .int _] = some _ | show absT [.int _] = some _ | show eqT (.int _) (.int _) = some _ | show neT (.int _) (.int _) = some _ | show T.bl _ = T.bl _ | show T.int _ = T.int _)); exact rfl) | ((with_reducible (first | show isiT _ _ = some _ | show isT _ _ = some _ | show isNT _ _ = some _ | show isisT _ _ = some _)); first | exact (rfl : _ = some (T.bl true)) | exact (rfl : _ = some (T.bl false)) | exact rfl) | fail)
      | fail)
      refine ⟨_, _, .int (r.take i).sum, rfl, rfl, ?_, ?_⟩
      · rw [hp, List.map_append]
        exact atI_last _ _
      · repeat' (first
      | with_reducible (first | refine WS_seq ?_ | refine WS_set ?_ | refine WS_ret ?_ | refine WS_if ?_ | refine WS_drop ?_ | refine WS_nx ?_ | refine WE_bin ?_ | refine WE_cons ?_ | refine WE_nil ?_ | refine WE_k ?_ | refine WE_app ?_ | refine WE_un ?_ | refine WE_B ?_ | refine WE_notC ?_ | refine WE_call ?_ | refine WE_callK ?_ | refine WE_lst ?_ | refine WE_tup ?_ | refine WE_chain ?_ | refine WE_andV ?_ | refine WE_orV ?_ | refine WE_notV ?_ | refine WE_andC ?_ | refine WE_orC ?_ | refine WE_if ?_ | refine WS_par2 ?_ | refine WS_par3 ?_ | refine WE_rg1 ?_ | refine WE_rg2 ?_ | refine WE_items ?_ | refine WE_enum ?_ | refine WE_zip ?_ | refine WE_revd ?_ | refine WE_callG ?_ | refine WS_put ?_ | refine WS_app ?_ | refine WE_pix ?_ | refine WE_sl ?_ | refine WE_p0 ?_ | refine WE_p1 ?_ | refine WE_true ?_ | refine WE_bor ?_ | refine WE_borC ?_ | refine WE_mt ?_ | refine WS_asg ?_) | ((with_reducible apply WE_var); (case h => exact rfl))
      | ((with_reducible refine And.intro ?_ ?_); (with_reducible first | exact ff1 | exact ff2 | exact ff3 | exact ff4 | exact ff5 | fail); (intro _))
      | ((with_reducible refine And.intro ?_ ?_); rotate_left; (with_reducible first | exact tt1 | exact tt2 | exact tt3 | exact tt4 | exact tt5 | fail); (intro _))
      | ((with_reducible apply Exists.intro); (with_reducible apply And.intro); first | ((with_reducible (first | show addT (.int _) (.int _) = some _ | show subT (.int _) (.int _) = some _ | show negT (.int _) = some _ | show ltT (.int _) (.int _) = some _ | show leT (.int _) (.int _) = some _ | show gtT (.int _) (.int _) = some _ | show geT (.int _) (.int _) = some _ | show intT [.int _] = some _ | show max2T [.int _, .int _] = some _ | show min2T [.int _, .int _] = some _ | show absT [.int _] = some _ | show eqT (.int _) (.int _) = some _ | show neT (.int _) (.int _) = some _ | show T.bl _ = T.bl _ | show T.int _ = T.int _)); exact rfl) | ((with_reducible (first | show isiT _ _ = some _ | show isT _ _ = some _ | show isNT _ _ = some _ | show isisT _ _ = some _)); first | exact (rfl : _ = some (T.bl true)) | exact (rfl : _ = some (T.bl false)) | exact rfl) | fail)
      | fail)
        refine ⟨_, rfl, ?_, ?_⟩
        · unfold hts; simp; omega
        · try simp only [List.map_cons, List.map_nil, List.cons_append, List.nil_append, List.length_cons, List.length_nil, Nat.zero_add, Nat.reduceAdd, Nat.reduceSub, Nat.sub_self, List.replicate_zero, List.replicate_succ, List.append_nil, List.set_cons_zero, List.set_cons_succ]
          refine ⟨some (.int r[i]), ?_, trivial⟩
          rw [hts_succ hi]
          unfold rowT
          rw [List.map_append]
          rfl
  · obtain ⟨x, rfl, -⟩ := hs
    repeat' (first
      | with_reducible (first | refine WS_seq ?_ | refine WS_set ?_ | refine WS_ret ?_ | refine WS_if ?_ | refine WS_drop ?_ | refine WS_nx ?_ | refine WE_bin ?_ | refine WE_cons ?_ | refine WE_nil ?_ | refine WE_k ?_ | refine WE_app ?_ | refine WE_un ?_ | refine WE_B ?_ | refine WE_notC ?_ | refine WE_call ?_ | refine WE_callK ?_ | refine WE_lst ?_ | refine WE_tup ?_ | refine WE_chain ?_ | refine WE_andV ?_ | refine WE_orV ?_ | refine WE_notV ?_ | refine WE_andC ?_ | refine WE_orC ?_ | refine WE_if ?_ | refine WS_par2 ?_ | refine WS_par3 ?_ | refine WE_rg1 ?_ | refine WE_rg2 ?_ | refine WE_items ?_ | refine WE_enum ?_ | refine WE_zip ?_ | refine WE_revd ?_ | refine WE_callG ?_ | refine WS_put ?_ | refine WS_app ?_ | refine WE_pix ?_ | refine WE_sl ?_ | refine WE_p0 ?_ | refine WE_p1 ?_ | refine WE_true ?_ | refine WE_bor ?_ | refine WE_borC ?_ | refine WE_mt ?_ | refine WS_asg ?_) | ((with_reducible apply WE_var); (case h => exact rfl))
      | ((with_reducible refine And.intro ?_ ?_); (with_reducible first | exact ff1 | exact ff2 | exact ff3 | exact ff4 | exact ff5 | fail); (intro _))
      | ((with_reducible refine And.intro ?_ ?_); rotate_left; (with_reducible first | exact tt1 | exact tt2 | exact tt3 | exact tt4 | exact tt5 | fail); (intro _))
      | ((with_reducible apply Exists.intro); (with_reducible apply And.intro); first | ((with_reducible (first | show addT (.int _) (.int _) = some _ | show subT (.int _) (.int _) = some _ | show negT (.int _) = some _ | show ltT (.int _) (.int _) = some _ | show leT (.int _) (.int _) = some _ | show gtT (.int _) (.int _) = some _ | show geT (.int _) (.int _) = some _ | show intT [.int _] = some _ | show max2T [.int _, .int _] = some _ | show min2T [.int _, .int _] = some _ | show absT [.int _] = some _ | show eqT (.int _) (.int _) = some _ | show neT (.int _) (.int _) = some _ | show T.bl _ = T.bl _ | show T.int _ = T.int _)); exact rfl) | ((with_reducible (first | show isiT _ _ = some _ | show isT _ _ = some _ | show isNT _ _ = some _ | show isisT _ _ = some _)); first | exact (rfl : _ = some (T.bl true)) | exact (rfl : _ = some (T.bl false)) | exact rfl) | fail)
      | fail)
    rw [List.length_map]
    exact q
theorem hts_get {r : List Int} {m j : Nat} (h : j < (hts r m).length) : (hts r m)[j] = (r.take j).sum := by simp [hts]
theorem hts_len (r : List Int) (m : Nat) : (hts r m).length = m + 1 := by simp [hts]
theorem W_hts (r : List Int) (i l : Nat) : ((r ++ r).take (i + l)).sum - ((r ++ r).take i).sum = W r i l := by
  unfold W
  rw [List.take_add, List.sum_append]
  omega
theorem sums_ok {r : List Int} {l : Nat} (h2 : r.length ≤ 60) (hl : l ≤ r.length) (q : χ (rowT (told r l)) []) : WR (m_round_sums [rowT r, .int l]) χ ζ := by
  refine WR_fn ?_
  try simp only [List.map_cons, List.map_nil, List.cons_append, List.nil_append, List.length_cons, List.length_nil, Nat.zero_add, Nat.reduceAdd, Nat.reduceSub, Nat.sub_self, List.replicate_zero, List.replicate_succ, List.append_nil, List.set_cons_zero, List.set_cons_succ]
  repeat' (first
      | with_reducible (first | refine WS_seq ?_ | refine WS_set ?_ | refine WS_ret ?_ | refine WS_if ?_ | refine WS_drop ?_ | refine WS_nx ?_ | refine WE_bin ?_ | refine WE_cons ?_ | refine WE_nil ?_ | refine WE_k ?_ | refine WE_app ?_ | refine WE_un ?_ | refine WE_B ?_ | refine WE_notC ?_ | refine WE_call ?_ | refine WE_callK ?_ | refine WE_lst ?_ | refine WE_tup ?_ | refine WE_chain ?_ | refine WE_andV ?_ | refine WE_orV ?_ | refine WE_notV ?_ | refine WE_andC ?_ | refine WE_orC ?_ | refine WE_if ?_ | refine WS_par2 ?_ | refine WS_par3 ?_ | refine WE_rg1 ?_ | refine WE_rg2 ?_ | refine WE_items ?_ | refine WE_enum ?_ | refine WE_zip ?_ | refine WE_revd ?_ | refine WE_callG ?_ | refine WS_put ?_ | refine WS_app ?_ | refine WE_pix ?_ | refine WE_sl ?_ | refine WE_p0 ?_ | refine WE_p1 ?_ | refine WE_true ?_ | refine WE_bor ?_ | refine WE_borC ?_ | refine WE_mt ?_ | refine WS_asg ?_) | ((with_reducible apply WE_var); (case h => exact rfl))
      | ((with_reducible refine And.intro ?_ ?_); (with_reducible first | exact ff1 | exact ff2 | exact ff3 | exact ff4 | exact ff5 | fail); (intro _))
      | ((with_reducible refine And.intro ?_ ?_); rotate_left; (with_reducible first | exact tt1 | exact tt2 | exact tt3 | exact tt4 | exact tt5 | fail); (intro _))
      | ((with_reducible apply Exists.intro); (with_reducible apply And.intro); first | ((with_reducible (first | show addT (.int _) (.int _) = some _ | show subT (.int _) (.int _) = some _ | show negT (.int _) = some _ | show ltT (.int _) (.int _) = some _ | show leT (.int _) (.int _) = some _ | show gtT (.int _) (.int _) = some _ | show geT (.int _) (.int _) = some _ | show intT [.int _] = some _ | show max2T [.int _, .int _] = some _ | show min2T [.int _, .int _] = some _ | show absT [.int _] = some _ | show eqT (.int _) (.int _) = some _ | show neT (.int _) (.int _) = some _ | show T.bl _ = T.bl _ | show T.int _ = T.int _)); exact rfl) | ((with_reducible (first | show isiT _ _ = some _ | show isT _ _ = some _ | show isNT _ _ = some _ | show isisT _ _ = some _)); first | exact (rfl : _ = some (T.bl true)) | exact (rfl : _ = some (T.bl false)) | exact rfl) | fail)
      | fail)
  refine ⟨_, addT_row (by simp only [LIM]; omega), ?_⟩
  repeat' (first
      | with_reducible (first | refine WS_seq ?_ | refine WS_set ?_ | refine WS_ret ?_ | refine WS_if ?_ | refine WS_drop ?_ | refine WS_nx ?_ | refine WE_bin ?_ | refine WE_cons ?_ | refine WE_nil ?_ | refine WE_k ?_ | refine WE_app ?_ | refine WE_un ?_ | refine WE_B ?_ | refine WE_notC ?_ | refine WE_call ?_ | refine WE_callK ?_ | refine WE_lst ?_ | refine WE_tup ?_ | refine WE_chain ?_ | refine WE_andV ?_ | refine WE_orV ?_ | refine WE_notV ?_ | refine WE_andC ?_ | refine WE_orC ?_ | refine WE_if ?_ | refine WS_par2 ?_ | refine WS_par3 ?_ | refine WE_rg1 ?_ | refine WE_rg2 ?_ | refine WE_items ?_ | refine WE_enum ?_ | refine WE_zip ?_ | refine WE_revd ?_ | refine WE_callG ?_ | refine WS_put ?_ | refine WS_app ?_ | refine WE_pix ?_ | refine WE_sl ?_ | refine WE_p0 ?_ | refine WE_p1 ?_ | refine WE_true ?_ | refine WE_bor ?_ | refine WE_borC ?_ | refine WE_mt ?_ | refine WS_asg ?_) | ((with_reducible apply WE_var); (case h => exact rfl))
      | ((with_reducible refine And.intro ?_ ?_); (with_reducible first | exact ff1 | exact ff2 | exact ff3 | exact ff4 | exact ff5 | fail); (intro _))
      | ((with_reducible refine And.intro ?_ ?_); rotate_left; (with_reducible first | exact tt1 | exact tt2 | exact tt3 | exact tt4 | exact tt5 | fail); (intro _))
      | ((with_reducible apply Exists.intro); (with_reducible apply And.intro); first | ((with_reducible (first | show addT (.int _) (.int _) = some _ | show subT (.int _) (.int _) = some _ | show negT (.int _) = some _ | show ltT (.int _) (.int _) = some _ | show leT (.int _) (.int _) = some _ | show gtT (.int _) (.int _) = some _ | show geT (.int _) (.int _) = some _ | show intT [.int _] = some _ | show max2T [.int _, .int _] = some _ | show min2T [.int _, .int _] = some _ | show absT [.int _] = some _ | show eqT (.int _) (.int _) = some _ | show neT (.int _) (.int _) = some _ | show T.bl _ = T.bl _ | show T.int _ = T.int _)); exact rfl) | ((with_reducible (first | show isiT _ _ = some _ | show isT _ _ = some _ | show isNT _ _ = some _ | show isisT _ _ = some _)); first | exact (rfl : _ = some (T.bl true)) | exact (rfl : _ = some (T.bl false)) | exact rfl) | fail)
      | fail)
  refine heights_ok (by rw [List.length_append]; omega) ?_
  repeat' (first
      | with_reducible (first | refine WS_seq ?_ | refine WS_set ?_ | refine WS_ret ?_ | refine WS_if ?_ | refine WS_drop ?_ | refine WS_nx ?_ | refine WE_bin ?_ | refine WE_cons ?_ | refine WE_nil ?_ | refine WE_k ?_ | refine WE_app ?_ | refine WE_un ?_ | refine WE_B ?_ | refine WE_notC ?_ | refine WE_call ?_ | refine WE_callK ?_ | refine WE_lst ?_ | refine WE_tup ?_ | refine WE_chain ?_ | refine WE_andV ?_ | refine WE_orV ?_ | refine WE_notV ?_ | refine WE_andC ?_ | refine WE_orC ?_ | refine WE_if ?_ | refine WS_par2 ?_ | refine WS_par3 ?_ | refine WE_rg1 ?_ | refine WE_rg2 ?_ | refine WE_items ?_ | refine WE_enum ?_ | refine WE_zip ?_ | refine WE_revd ?_ | refine WE_callG ?_ | refine WS_put ?_ | refine WS_app ?_ | refine WE_pix ?_ | refine WE_sl ?_ | refine WE_p0 ?_ | refine WE_p1 ?_ | refine WE_true ?_ | refine WE_bor ?_ | refine WE_borC ?_ | refine WE_mt ?_ | refine WS_asg ?_) | ((with_reducible apply WE_var); (case h => exact rfl))
      | ((with_reducible refine And.intro ?_ ?_); (with_reducible first | exact ff1 | exact ff2 | exact ff3 | exact ff4 | exact ff5 | fail); (intro _))
      | ((with_reducible refine And.intro ?_ ?_); rotate_left; (with_reducible first | exact tt1 | exact tt2 | exact tt3 | exact tt4 | exact tt5 | fail); (intro _))
      | ((with_reducible apply Exists.intro); (with_reducible apply And.intro); first | ((with_reducible (first | show addT (.int _) (.int _) = some _ | show subT (.int _) (.int _) = some _ | show negT (.int _) = some _ | show ltT (.int _) (.int _) = some _ | show leT (.int _) (.int _) = some _ | show gtT (.int _) (.int _) = some _ | show geT (.int _) (.int _) = some _ | show intT [.int _] = some _ | show max2T [.int _, .int _] = some _ | show min2T [.int _, .int _] = some _ | show absT [.int _] = some _ | show eqT (.int _) (.int _) = some _ | show neT (.int _) (.int _) = some _ | show T.bl _ = T.bl _ | show T.int _ = T.int _)); exact rfl) | ((with_reducible (first | show isiT _ _ = some _ | show isT _ _ = some _ | show isNT _ _ = some _ | show isisT _ _ = some _)); first | exact (rfl : _ = some (T.bl true)) | exact (rfl : _ = some (T.bl false)) | exact rfl) | fail)
      | fail)
  refine WE_lcM .int (rangeI 0 r.length) (fun _ => true) (fun a => .int (W r a.toNat l)) ?_
  repeat' (first
      | with_reducible (first | refine WS_seq ?_ | refine WS_set ?_ | refine WS_ret ?_ | refine WS_if ?_ | refine WS_drop ?_ | refine WS_nx ?_ | refine WE_bin ?_ | refine WE_cons ?_ | refine WE_nil ?_ | refine WE_k ?_ | refine WE_app ?_ | refine WE_un ?_ | refine WE_B ?_ | refine WE_notC ?_ | refine WE_call ?_ | refine WE_callK ?_ | refine WE_lst ?_ | refine WE_tup ?_ | refine WE_chain ?_ | refine WE_andV ?_ | refine WE_orV ?_ | refine WE_notV ?_ | refine WE_andC ?_ | refine WE_orC ?_ | refine WE_if ?_ | refine WS_par2 ?_ | refine WS_par3 ?_ | refine WE_rg1 ?_ | refine WE_rg2 ?_ | refine WE_items ?_ | refine WE_enum ?_ | refine WE_zip ?_ | refine WE_revd ?_ | refine WE_callG ?_ | refine WS_put ?_ | refine WS_app ?_ | refine WE_pix ?_ | refine WE_sl ?_ | refine WE_p0 ?_ | refine WE_p1 ?_ | refine WE_true ?_ | refine WE_bor ?_ | refine WE_borC ?_ | refine WE_mt ?_ | refine WS_asg ?_) | ((with_reducible apply WE_var); (case h => exact rfl))
      | ((with_reducible refine And.intro ?_ ?_); (with_reducible first | exact ff1 | exact ff2 | exact ff3 | exact ff4 | exact ff5 | fail); (intro _))
      | ((with_reducible refine And.intro ?_ ?_); rotate_left; (with_reducible first | exact tt1 | exact tt2 | exact tt3 | exact tt4 | exact tt5 | fail); (intro _))
      | ((with_reducible apply Exists.intro); (with_reducible apply And.intro); first | ((with_reducible (first | show addT (.int _) (.int _) = some _ | show subT (.int _) (.int _) = some _ | show negT (.int _) = some _ | show ltT (.int _) (.int _) = some _ | show leT (.int _) (.int _) = some _ | show gtT (.int _) (.int _) = some _ | show geT (.int _) (.int _) = some _ | show intT [.int _] = some _ | show max2T [.int _, .int _] = some _ | show min2T [.int _, .int _] = some _ | show absT [.int _] = some _ | show eqT (.int _) (.int _) = some _ | show neT (.int _) (.int _) = some _ | show T.bl _ = T.bl _ | show T.int _ = T.int _)); exact rfl) | ((with_reducible (first | show isiT _ _ = some _ | show isT _ _ = some _ | show isNT _ _ = some _ | show isisT _ _ = some _)); first | exact (rfl : _ = some (T.bl true)) | exact (rfl : _ = some (T.bl false)) | exact rfl) | fail)
      | fail)
  refine ⟨_, lenT_row (by simp only [LIM]; omega), ?_⟩
  repeat' (first
      | with_reducible (first | refine WS_seq ?_ | refine WS_set ?_ | refine WS_ret ?_ | refine WS_if ?_ | refine WS_drop ?_ | refine WS_nx ?_ | refine WE_bin ?_ | refine WE_cons ?_ | refine WE_nil ?_ | refine WE_k ?_ | refine WE_app ?_ | refine WE_un ?_ | refine WE_B ?_ | refine WE_notC ?_ | refine WE_call ?_ | refine WE_callK ?_ | refine WE_lst ?_ | refine WE_tup ?_ | refine WE_chain ?_ | refine WE_andV ?_ | refine WE_orV ?_ | refine WE_notV ?_ | refine WE_andC ?_ | refine WE_orC ?_ | refine WE_if ?_ | refine WS_par2 ?_ | refine WS_par3 ?_ | refine WE_rg1 ?_ | refine WE_rg2 ?_ | refine WE_items ?_ | refine WE_enum ?_ | refine WE_zip ?_ | refine WE_revd ?_ | refine WE_callG ?_ | refine WS_put ?_ | refine WS_app ?_ | refine WE_pix ?_ | refine WE_sl ?_ | refine WE_p0 ?_ | refine WE_p1 ?_ | refine WE_true ?_ | refine WE_bor ?_ | refine WE_borC ?_ | refine WE_mt ?_ | refine WS_asg ?_) | ((with_reducible apply WE_var); (case h => exact rfl))
      | ((with_reducible refine And.intro ?_ ?_); (with_reducible first | exact ff1 | exact ff2 | exact ff3 | exact ff4 | exact ff5 | fail); (intro _))
      | ((with_reducible refine And.intro ?_ ?_); rotate_left; (with_reducible first | exact tt1 | exact tt2 | exact tt3 | exact tt4 | exact tt5 | fail); (intro _))
      | ((with_reducible apply Exists.intro); (with_reducible apply And.intro); first | ((with_reducible (first | show addT (.int _) (.int _) = some _ | show subT (.int _) (.int _) = some _ | show negT (.int _) = some _ | show ltT (.int _) (.int _) = some _ | show leT (.int _) (.int _) = some _ | show gtT (.int _) (.int _) = some _ | show geT (.int _) (.int _) = some _ | show intT [.int _] = some _ | show max2T [.int _, .int _] = some _ | show min2T [.int _, .int _] = some _ | show absT [.int _] = some _ | show eqT (.int _) (.int _) = some _ | show neT (.int _) (.int _) = some _ | show T.bl _ = T.bl _ | show T.int _ = T.int _)); exact rfl) | ((with_reducible (first | show isiT _ _ = some _ | show isT _ _ = some _ | show isNT _ _ = some _ | show isisT _ _ = some _)); first | exact (rfl : _ = some (T.bl true)) | exact (rfl : _ = some (T.bl false)) | exact rfl) | fail)
      | fail)
  refine ⟨_, rfl, lim62_of (by omega) (by omega), rangeT_I _ _, by rw [rangeI_len]; omega, (fun k hk => by rw [List.mem_singleton.mp hk]; show 3 < 4; decide), fun a ha => ?_, ?_⟩
  · obtain ⟨h3, h4⟩ := rangeI_mem.mp ha
    refine ⟨_, rfl, WE_true ⟨rfl, (fun h => nomatch h), fun _ => ?_⟩⟩
    repeat' (first
      | with_reducible (first | refine WS_seq ?_ | refine WS_set ?_ | refine WS_ret ?_ | refine WS_if ?_ | refine WS_drop ?_ | refine WS_nx ?_ | refine WE_bin ?_ | refine WE_cons ?_ | refine WE_nil ?_ | refine WE_k ?_ | refine WE_app ?_ | refine WE_un ?_ | refine WE_B ?_ | refine WE_notC ?_ | refine WE_call ?_ | refine WE_callK ?_ | refine WE_lst ?_ | refine WE_tup ?_ | refine WE_chain ?_ | refine WE_andV ?_ | refine WE_orV ?_ | refine WE_notV ?_ | refine WE_andC ?_ | refine WE_orC ?_ | refine WE_if ?_ | refine WS_par2 ?_ | refine WS_par3 ?_ | refine WE_rg1 ?_ | refine WE_rg2 ?_ | refine WE_items ?_ | refine WE_enum ?_ | refine WE_zip ?_ | refine WE_revd ?_ | refine WE_callG ?_ | refine WS_put ?_ | refine WS_app ?_ | refine WE_pix ?_ | refine WE_sl ?_ | refine WE_p0 ?_ | refine WE_p1 ?_ | refine WE_true ?_ | refine WE_bor ?_ | refine WE_borC ?_ | refine WE_mt ?_ | refine WS_asg ?_) | ((with_reducible apply WE_var); (case h => exact rfl))
      | ((with_reducible refine And.intro ?_ ?_); (with_reducible first | exact ff1 | exact ff2 | exact ff3 | exact ff4 | exact ff5 | fail); (intro _))
      | ((with_reducible refine And.intro ?_ ?_); rotate_left; (with_reducible first | exact tt1 | exact tt2 | exact tt3 | exact tt4 | exact tt5 | fail); (intro _))
      | ((with_reducible apply Exists.intro); (with_reducible apply And.intro); first | ((with_reducible (first | show addT (.int _) (.int _) = some _ | show subT (.int _) (.int _) = some _ | show negT (.int _) = some _ | show ltT (.int _) (.int _) = some _ | show leT (.int _) (.int _) = some _ | show gtT (.int _) (.int _) = some _ | show geT (.int _) (.int _) = some _ | show intT [.int _] = some _ | show max2T [.int _, .int _] = some _ | show min2T [.int _, .int _] = some _ | show absT [.int _] = some _ | show eqT (.int _) (.int _) = some _ | show neT (.int _) (.int _) = some _ | show T.bl _ = T.bl _ | show T.int _ = T.int _)); exact rfl) | ((with_reducible (first | show isiT _ _ = some _ | show isT _ _ = some _ | show isNT _ _ = some _ | show isisT _ _ = some _)); first | exact (rfl : _ = some (T.bl true)) | exact (rfl : _ = some (T.bl false)) | exact rfl) | fail)
      | fail)
    have hlen := hts_len (r ++ r) (r ++ r).length
    rw [List.length_append] at hlen
    refine ⟨_, ixT_row (k := a.toNat + l) (by omega) (by rw [List.length_append]; omega), ?_⟩
    repeat' (first
      | with_reducible (first | refine WS_seq ?_ | refine WS_set ?_ | refine WS_ret ?_ | refine WS_if ?_ | refine WS_drop ?_ | refine WS_nx ?_ | refine WE_bin ?_ | refine WE_cons ?_ | refine WE_nil ?_ | refine WE_k ?_ | refine WE_app ?_ | refine WE_un ?_ | refine WE_B ?_ | refine WE_notC ?_ | refine WE_call ?_ | refine WE_callK ?_ | refine WE_lst ?_ | refine WE_tup ?_ | refine WE_chain ?_ | refine WE_andV ?_ | refine WE_orV ?_ | refine WE_notV ?_ | refine WE_andC ?_ | refine WE_orC ?_ | refine WE_if ?_ | refine WS_par2 ?_ | refine WS_par3 ?_ | refine WE_rg1 ?_ | refine WE_rg2 ?_ | refine WE_items ?_ | refine WE_enum ?_ | refine WE_zip ?_ | refine WE_revd ?_ | refine WE_callG ?_ | refine WS_put ?_ | refine WS_app ?_ | refine WE_pix ?_ | refine WE_sl ?_ | refine WE_p0 ?_ | refine WE_p1 ?_ | refine WE_true ?_ | refine WE_bor ?_ | refine WE_borC ?_ | refine WE_mt ?_ | refine WS_asg ?_) | ((with_reducible apply WE_var); (case h => exact rfl))
      | ((with_reducible refine And.intro ?_ ?_); (with_reducible first | exact ff1 | exact ff2 | exact ff3 | exact ff4 | exact ff5 | fail); (intro _))
      | ((with_reducible refine And.intro ?_ ?_); rotate_left; (with_reducible first | exact tt1 | exact tt2 | exact tt3 | exact tt4 | exact tt5 | fail); (intro _))
      | ((with_reducible apply Exists.intro); (with_reducible apply And.intro); first | ((with_reducible (first | show addT (.int _) (.int _) = some _ | show subT (.int _) (.int _) = some _ | show negT (.int _) = some _ | show ltT (.int _) (.int _) = some _ | show leT (.int _) (.int _) = some _ | show gtT (.int _) (.int _) = some _ | show geT (.int _) (.int _) = some _ | show intT [.int _] = some _ | show max2T [.int _, .int _] = some _ | show min2T [.int _, .int _] = some _ | show absT [.int _] = some _ | show eqT (.int _) (.int _) = some _ | show neT (.int _) (.int _) = some _ | show T.bl _ = T.bl _ | show T.int _ = T.int _)); exact rfl) | ((with_reducible (first | show isiT _ _ = some _ | show isT _ _ = some _ | show isNT _ _ = some _ | show isisT _ _ = some _)); first | exact (rfl : _ = some (T.bl true)) | exact (rfl : _ = some (T.bl false)) | exact rfl) | fail)
      | fail)
    refine ⟨_, ixT_row (k := a.toNat) (by omega) (by rw [List.length_append]; omega), ?_⟩
    repeat' (first
      | with_reducible (first | refine WS_seq ?_ | refine WS_set ?_ | refine WS_ret ?_ | refine WS_if ?_ | refine WS_drop ?_ | refine WS_nx ?_ | refine WE_bin ?_ | refine WE_cons ?_ | refine WE_nil ?_ | refine WE_k ?_ | refine WE_app ?_ | refine WE_un ?_ | refine WE_B ?_ | refine WE_notC ?_ | refine WE_call ?_ | refine WE_callK ?_ | refine WE_lst ?_ | refine WE_tup ?_ | refine WE_chain ?_ | refine WE_andV ?_ | refine WE_orV ?_ | refine WE_notV ?_ | refine WE_andC ?_ | refine WE_orC ?_ | refine WE_if ?_ | refine WS_par2 ?_ | refine WS_par3 ?_ | refine WE_rg1 ?_ | refine WE_rg2 ?_ | refine WE_items ?_ | refine WE_enum ?_ | refine WE_zip ?_ | refine WE_revd ?_ | refine WE_callG ?_ | refine WS_put ?_ | refine WS_app ?_ | refine WE_pix ?_ | refine WE_sl ?_ | refine WE_p0 ?_ | refine WE_p1 ?_ | refine WE_true ?_ | refine WE_bor ?_ | refine WE_borC ?_ | refine WE_mt ?_ | refine WS_asg ?_) | ((with_reducible apply WE_var); (case h => exact rfl))
      | ((with_reducible refine And.intro ?_ ?_); (with_reducible first | exact ff1 | exact ff2 | exact ff3 | exact ff4 | exact ff5 | fail); (intro _))
      | ((with_reducible refine And.intro ?_ ?_); rotate_left; (with_reducible first | exact tt1 | exact tt2 | exact tt3 | exact tt4 | exact tt5 | fail); (intro _))
      | ((with_reducible apply Exists.intro); (with_reducible apply And.intro); first | ((with_reducible (first | show addT (.int _) (.int _) = some _ | show subT (.int _) (.int _) = some _ | show negT (.int _) = some _ | show ltT (.int _) (.int _) = some _ | show leT (.int _) (.int _) = some _ | show gtT (.int _) (.int _) = some _ | show geT (.int _) (.int _) = some _ | show intT [.int _] = some _ | show max2T [.int _, .int _] = some _ | show min2T [.int _, .int _] = some _ | show absT [.int _] = some _ | show eqT (.int _) (.int _) = some _ | show neT (.int _) (.int _) = some _ | show T.bl _ = T.bl _ | show T.int _ = T.int _)); exact rfl) | ((with_reducible (first | show isiT _ _ = some _ | show isT _ _ = some _ | show isNT _ _ = some _ | show isisT _ _ = some _)); first | exact (rfl : _ = some (T.bl true)) | exact (rfl : _ = some (T.bl false)) | exact rfl) | fail)
      | fail)
    refine ⟨?_, rfl⟩
    rw [hts_get, hts_get, W_hts]
  · rw [told_T r l rfl]
    exact q
theorem found_ok {r : List Int} (h1 : 1 ≤ r.length) (h2 : r.length ≤ 60) (q1 : evenB r = true → χ .non []) (q2 : evenB r = false → ∀ ts, χ (.tup ts) []) : WR (m_found_stretches [rowT r]) χ ζ := by
  refine WR_fn ?_
  try simp only [List.map_cons, List.map_nil, List.cons_append, List.nil_append, List.length_cons, List.length_nil, Nat.zero_add, Nat.reduceAdd, Nat.reduceSub, Nat.sub_self, List.replicate_zero, List.replicate_succ, List.append_nil, List.set_cons_zero, List.set_cons_succ]
  repeat' (first
      | with_reducible (first | refine WS_seq ?_ | refine WS_set ?_ | refine WS_ret ?_ | refine WS_if ?_ | refine WS_drop ?_ | refine WS_nx ?_ | refine WE_bin ?_ | refine WE_cons ?_ | refine WE_nil ?_ | refine WE_k ?_ | refine WE_app ?_ | refine WE_un ?_ | refine WE_B ?_ | refine WE_notC ?_ | refine WE_call ?_ | refine WE_callK ?_ | refine WE_lst ?_ | refine WE_tup ?_ | refine WE_chain ?_ | refine WE_andV ?_ | refine WE_orV ?_ | refine WE_notV ?_ | refine WE_andC ?_ | refine WE_orC ?_ | refine WE_if ?_ | refine WS_par2 ?_ | refine WS_par3 ?_ | refine WE_rg1 ?_ | refine WE_rg2 ?_ | refine WE_items ?_ | refine WE_enum ?_ | refine WE_zip ?_ | refine WE_revd ?_ | refine WE_callG ?_ | refine WS_put ?_ | refine WS_app ?_ | refine WE_pix ?_ | refine WE_sl ?_ | refine WE_p0 ?_ | refine WE_p1 ?_ | refine WE_true ?_ | refine WE_bor ?_ | refine WE_borC ?_ | refine WE_mt ?_ | refine WS_asg ?_) | ((with_reducible apply WE_var); (case h => exact rfl))
      | ((with_reducible refine And.intro ?_ ?_); (with_reducible first | exact ff1 | exact ff2 | exact ff3 | exact ff4 | exact ff5 | fail); (intro _))
      | ((with_reducible refine And.intro ?_ ?_); rotate_left; (with_reducible first | exact tt1 | exact tt2 | exact tt3 | exact tt4 | exact tt5 | fail); (intro _))
      | ((with_reducible apply Exists.intro); (with_reducible apply And.intro); first | ((with_reducible (first | show addT (.int _) (.int _) = some _ | show subT (.int _) (.int _) = some _ | show negT (.int _) = some _ | show ltT (.int _) (.int _) = some _ | show leT (.int _) (.int _) = some _ | show gtT (.int _) (.int _) = some _ | show geT (.int _) (.int _) = some _ | show intT [.int _] = some _ | show max2T [.int _, .int _] = some _ | show min2T [.int _, .int _] = some _ | show absT [.int _] = some _ | show eqT (.int _) (.int _) = some _ | show neT (.int _) (.int _) = some _ | show T.bl _ = T.bl _ | show T.int _ = T.int _)); exact rfl) | ((with_reducible (first | show isiT _ _ = some _ | show isT _ _ = some _ | show isNT _ _ = some _ | show isisT _ _ = some _)); first | exact (rfl : _ = some (T.bl true)) | exact (rfl : _ = some (T.bl false)) | exact rfl) | fail)
      | fail)
  refine WS_for (fun ts i s => ∃ x y, s = [some (rowT r), x, y] ∧ ts = rangeT 1 r.length ∧ ∀ l, 1 ≤ l → l < 1 + i → evl r l = true) ?_
  repeat' (first
      | with_reducible (first | refine WS_seq ?_ | refine WS_set ?_ | refine WS_ret ?_ | refine WS_if ?_ | refine WS_drop ?_ | refine WS_nx ?_ | refine WE_bin ?_ | refine WE_cons ?_ | refine WE_nil ?_ | refine WE_k ?_ | refine WE_app ?_ | refine WE_un ?_ | refine WE_B ?_ | refine WE_notC ?_ | refine WE_call ?_ | refine WE_callK ?_ | refine WE_lst ?_ | refine WE_tup ?_ | refine WE_chain ?_ | refine WE_andV ?_ | refine WE_orV ?_ | refine WE_notV ?_ | refine WE_andC ?_ | refine WE_orC ?_ | refine WE_if ?_ | refine WS_par2 ?_ | refine WS_par3 ?_ | refine WE_rg1 ?_ | refine WE_rg2 ?_ | refine WE_items ?_ | refine WE_enum ?_ | refine WE_zip ?_ | refine WE_revd ?_ | refine WE_callG ?_ | refine WS_put ?_ | refine WS_app ?_ | refine WE_pix ?_ | refine WE_sl ?_ | refine WE_p0 ?_ | refine WE_p1 ?_ | refine WE_true ?_ | refine WE_bor ?_ | refine WE_borC ?_ | refine WE_mt ?_ | refine WS_asg ?_) | ((with_reducible apply WE_var); (case h => exact rfl))
      | ((with_reducible refine And.intro ?_ ?_); (with_reducible first | exact ff1 | exact ff2 | exact ff3 | exact ff4 | exact ff5 | fail); (intro _))
      | ((with_reducible refine And.intro ?_ ?_); rotate_left; (with_reducible first | exact tt1 | exact tt2 | exact tt3 | exact tt4 | exact tt5 | fail); (intro _))
      | ((with_reducible apply Exists.intro); (with_reducible apply And.intro); first | ((with_reducible (first | show addT (.int _) (.int _) = some _ | show subT (.int _) (.int _) = some _ | show negT (.int _) = some _ | show ltT (.int _) (.int _) = some _ | show leT (.int _) (.int _) = some _ | show gtT (.int _) (.int _) = some _ | show geT (.int _) (.int _) = some _ | show intT [.int _] = some _ | show max2T [.int _, .int _] = some _ | show min2T [.int _, .int _] = some _ | show absT [.int _] = some _ | show eqT (.int _) (.int _) = some _ | show neT (.int _) (.int _) = some _ | show T.bl _ = T.bl _ | show T.int _ = T.int _)); exact rfl) | ((with_reducible (first | show isiT _ _ = some _ | show isT _ _ = some _ | show isNT _ _ = some _ | show isisT _ _ = some _)); first | exact (rfl : _ = some (T.bl true)) | exact (rfl : _ = some (T.bl false)) | exact rfl) | fail)
      | fail)
  refine ⟨_, lenT_row (by simp only [LIM]; omega), ?_⟩
  repeat' (first
      | with_reducible (first | refine WS_seq ?_ | refine WS_set ?_ | refine WS_ret ?_ | refine WS_if ?_ | refine WS_drop ?_ | refine WS_nx ?_ | refine WE_bin ?_ | refine WE_cons ?_ | refine WE_nil ?_ | refine WE_k ?_ | refine WE_app ?_ | refine WE_un ?_ | refine WE_B ?_ | refine WE_notC ?_ | refine WE_call ?_ | refine WE_callK ?_ | refine WE_lst ?_ | refine WE_tup ?_ | refine WE_chain ?_ | refine WE_andV ?_ | refine WE_orV ?_ | refine WE_notV ?_ | refine WE_andC ?_ | refine WE_orC ?_ | refine WE_if ?_ | refine WS_par2 ?_ | refine WS_par3 ?_ | refine WE_rg1 ?_ | refine WE_rg2 ?_ | refine WE_items ?_ | refine WE_enum ?_ | refine WE_zip ?_ | refine WE_revd ?_ | refine WE_callG ?_ | refine WS_put ?_ | refine WS_app ?_ | refine WE_pix ?_ | refine WE_sl ?_ | refine WE_p0 ?_ | refine WE_p1 ?_ | refine WE_true ?_ | refine WE_bor ?_ | refine WE_borC ?_ | refine WE_mt ?_ | refine WS_asg ?_) | ((with_reducible apply WE_var); (case h => exact rfl))
      | ((with_reducible refine And.intro ?_ ?_); (with_reducible first | exact ff1 | exact ff2 | exact ff3 | exact ff4 | exact ff5 | fail); (intro _))
      | ((with_reducible refine And.intro ?_ ?_); rotate_left; (with_reducible first | exact tt1 | exact tt2 | exact tt3 | exact tt4 | exact tt5 | fail); (intro _))
      | ((with_reducible apply Exists.intro); (with_reducible apply And.intro); first | ((with_reducible (first | show addT (.int _) (.int _) = some _ | show subT (.int _) (.int _) = some _ | show negT (.int _) = some _ | show ltT (.int _) (.int _) = some _ | show leT (.int _) (.int _) = some _ | show gtT (.int _) (.int _) = some _ | show geT (.int _) (.int _) = some _ | show intT [.int _] = some _ | show max2T [.int _, .int _] = some _ | show min2T [.int _, .int _] = some _ | show absT [.int _] = some _ | show eqT (.int _) (.int _) = some _ | show neT (.int _) (.int _) = some _ | show T.bl _ = T.bl _ | show T.int _ = T.int _)); exact rfl) | ((with_reducible (first | show isiT _ _ = some _ | show isT _ _ = some _ | show isNT _ _ = some _ | show isisT _ _ = some _)); first | exact (rfl : _ = some (T.bl true)) | exact (rfl : _ = some (T.bl false)) | exact rfl) | fail)
      | fail)
  refine ⟨_, _, rfl, lim62_of (by omega) (by omega), lim62_of (by omega) (by omega), ⟨none, none, rfl, rfl, fun l a b => by omega⟩, fun i t s ht hs => ?_, fun s hs => ?_⟩
  · obtain ⟨x, y, rfl, -, he⟩ := hs
    obtain ⟨rfl, hi⟩ := rangeT_get ht
    refine ⟨_, rfl, ?_⟩
    try simp only [List.map_cons, List.map_nil, List.cons_append, List.nil_append, List.length_cons, List.length_nil, Nat.zero_add, Nat.reduceAdd, Nat.reduceSub, Nat.sub_self, List.replicate_zero, List.replicate_succ, List.append_nil, List.set_cons_zero, List.set_cons_succ]
    repeat' (first
      | with_reducible (first | refine WS_seq ?_ | refine WS_set ?_ | refine WS_ret ?_ | refine WS_if ?_ | refine WS_drop ?_ | refine WS_nx ?_ | refine WE_bin ?_ | refine WE_cons ?_ | refine WE_nil ?_ | refine WE_k ?_ | refine WE_app ?_ | refine WE_un ?_ | refine WE_B ?_ | refine WE_notC ?_ | refine WE_call ?_ | refine WE_callK ?_ | refine WE_lst ?_ | refine WE_tup ?_ | refine WE_chain ?_ | refine WE_andV ?_ | refine WE_orV ?_ | refine WE_notV ?_ | refine WE_andC ?_ | refine WE_orC ?_ | refine WE_if ?_ | refine WS_par2 ?_ | refine WS_par3 ?_ | refine WE_rg1 ?_ | refine WE_rg2 ?_ | refine WE_items ?_ | refine WE_enum ?_ | refine WE_zip ?_ | refine WE_revd ?_ | refine WE_callG ?_ | refine WS_put ?_ | refine WS_app ?_ | refine WE_pix ?_ | refine WE_sl ?_ | refine WE_p0 ?_ | refine WE_p1 ?_ | refine WE_true ?_ | refine WE_bor ?_ | refine WE_borC ?_ | refine WE_mt ?_ | refine WS_asg ?_) | ((with_reducible apply WE_var); (case h => exact rfl))
      | ((with_reducible refine And.intro ?_ ?_); (with_reducible first | exact ff1 | exact ff2 | exact ff3 | exact ff4 | exact ff5 | fail); (intro _))
      | ((with_reducible refine And.intro ?_ ?_); rotate_left; (with_reducible first | exact tt1 | exact tt2 | exact tt3 | exact tt4 | exact tt5 | fail); (intro _))
      | ((with_reducible apply Exists.intro); (with_reducible apply And.intro); first | ((with_reducible (first | show addT (.int _) (.int _) = some _ | show subT (.int _) (.int _) = some _ | show negT (.int _) = some _ | show ltT (.int _) (.int _) = some _ | show leT (.int _) (.int _) = some _ | show gtT (.int _) (.int _) = some _ | show geT (.int _) (.int _) = some _ | show intT [.int _] = some _ | show max2T [.int _, .int _] = some _ | show min2T [.int _, .int _] = some _ | show absT [.int _] = some _ | show eqT (.int _) (.int _) = some _ | show neT (.int _) (.int _) = some _ | show T.bl _ = T.bl _ | show T.int _ = T.int _)); exact rfl) | ((with_reducible (first | show isiT _ _ = some _ | show isT _ _ = some _ | show isNT _ _ = some _ | show isisT _ _ = some _)); first | exact (rfl : _ = some (T.bl true)) | exact (rfl : _ = some (T.bl false)) | exact rfl) | fail)
      | fail)
    rw [show (1 : Int) + (i : Int) = ((1 + i : Nat) : Int) by omega]
    refine sums_ok h2 (by omega) ?_
    obtain ⟨a, ha, ha2, _⟩ := maxI_some (x := told r (1 + i)) (by rw [told_len]; omega)
    obtain ⟨b, hb, hb2, _⟩ := minI_some (x := told r (1 + i)) (by rw [told_len]; omega)
    have hev : evl r (1 + i) = decide (a - b ≤ 1) := by unfold evl; rw [ha, hb]; rfl
    have ma : maxT [rowT (told r (1 + i))] = some (.int a) := by rw [maxT_row, ha]; rfl
    have mb : minT [rowT (told r (1 + i))] = some (.int b) := by rw [minT_row, hb]; rfl
    try simp only [List.map_cons, List.map_nil, List.cons_append, List.nil_append, List.length_cons, List.length_nil, Nat.zero_add, Nat.reduceAdd, Nat.reduceSub, Nat.sub_self, List.replicate_zero, List.replicate_succ, List.append_nil, List.set_cons_zero, List.set_cons_succ]
    repeat' (first
      | with_reducible (first | refine WS_seq ?_ | refine WS_set ?_ | refine WS_ret ?_ | refine WS_if ?_ | refine WS_drop ?_ | refine WS_nx ?_ | refine WE_bin ?_ | refine WE_cons ?_ | refine WE_nil ?_ | refine WE_k ?_ | refine WE_app ?_ | refine WE_un ?_ | refine WE_B ?_ | refine WE_notC ?_ | refine WE_call ?_ | refine WE_callK ?_ | refine WE_lst ?_ | refine WE_tup ?_ | refine WE_chain ?_ | refine WE_andV ?_ | refine WE_orV ?_ | refine WE_notV ?_ | refine WE_andC ?_ | refine WE_orC ?_ | refine WE_if ?_ | refine WS_par2 ?_ | refine WS_par3 ?_ | refine WE_rg1 ?_ | refine WE_rg2 ?_ | refine WE_items ?_ | refine WE_enum ?_ | refine WE_zip ?_ | refine WE_revd ?_ | refine WE_callG ?_ | refine WS_put ?_ | refine WS_app ?_ | refine WE_pix ?_ | refine WE_sl ?_ | refine WE_p0 ?_ | refine WE_p1 ?_ | refine WE_true ?_ | refine WE_bor ?_ | refine WE_borC ?_ | refine WE_mt ?_ | refine WS_asg ?_) | ((with_reducible apply WE_var); (case h => exact rfl))
      | ((with_reducible refine And.intro ?_ ?_); (with_reducible first | exact ff1 | exact ff2 | exact ff3 | exact ff4 | exact ff5 | fail); (intro _))
      | ((with_reducible refine And.intro ?_ ?_); rotate_left; (with_reducible first | exact tt1 | exact tt2 | exact tt3 | exact tt4 | exact tt5 | fail); (intro _))
      | ((with_reducible apply Exists.intro); (with_reducible apply And.intro); first | ((with_reducible (first | show addT (.int _) (.int _) = some _ | show subT (.int _) (.int _) = some _ | show negT (.int _) = some _ | show ltT (.int _) (.int _) = some _ | show leT (.int _) (.int _) = some _ | show gtT (.int _) (.int _) = some _ | show geT (.int _) (.int _) = some _ | show intT [.int _] = some _ | show max2T [.int _, .int _] = some _ | show min2T [.int _, .int _] = some _ | show absT [.int _] = some _ | show eqT (.int _) (.int _) = some _ | show neT (.int _) (.int _) = some _ | show T.bl _ = T.bl _ | show T.int _ = T.int _)); exact rfl) | ((with_reducible (first | show isiT _ _ = some _ | show isT _ _ = some _ | show isNT _ _ = some _ | show isisT _ _ = some _)); first | exact (rfl : _ = some (T.bl true)) | exact (rfl : _ = some (T.bl false)) | exact rfl) | fail)
      | fail)
    refine ⟨_, ma, ?_⟩
    repeat' (first
      | with_reducible (first | refine WS_seq ?_ | refine WS_set ?_ | refine WS_ret ?_ | refine WS_if ?_ | refine WS_drop ?_ | refine WS_nx ?_ | refine WE_bin ?_ | refine WE_cons ?_ | refine WE_nil ?_ | refine WE_k ?_ | refine WE_app ?_ | refine WE_un ?_ | refine WE_B ?_ | refine WE_notC ?_ | refine WE_call ?_ | refine WE_callK ?_ | refine WE_lst ?_ | refine WE_tup ?_ | refine WE_chain ?_ | refine WE_andV ?_ | refine WE_orV ?_ | refine WE_notV ?_ | refine WE_andC ?_ | refine WE_orC ?_ | refine WE_if ?_ | refine WS_par2 ?_ | refine WS_par3 ?_ | refine WE_rg1 ?_ | refine WE_rg2 ?_ | refine WE_items ?_ | refine WE_enum ?_ | refine WE_zip ?_ | refine WE_revd ?_ | refine WE_callG ?_ | refine WS_put ?_ | refine WS_app ?_ | refine WE_pix ?_ | refine WE_sl ?_ | refine WE_p0 ?_ | refine WE_p1 ?_ | refine WE_true ?_ | refine WE_bor ?_ | refine WE_borC ?_ | refine WE_mt ?_ | refine WS_asg ?_) | ((with_reducible apply WE_var); (case h => exact rfl))
      | ((with_reducible refine And.intro ?_ ?_); (with_reducible first | exact ff1 | exact ff2 | exact ff3 | exact ff4 | exact ff5 | fail); (intro _))
      | ((with_reducible refine And.intro ?_ ?_); rotate_left; (with_reducible first | exact tt1 | exact tt2 | exact tt3 | exact tt4 | exact tt5 | fail); (intro _))
      | ((with_reducible apply Exists.intro); (with_reducible apply And.intro); first | ((with_reducible (first | show addT (.int _) (.int _) = some _ | show subT (.int _) (.int _) = some _ | show negT (.int _) = some _ | show ltT (.int _) (.int _) = some _ | show leT (.int _) (.int _) = some _ | show gtT (.int _) (.int _) = some _ | show geT (.int _) (.int _) = some _ | show intT [.int _] = some _ | show max2T [.int _, .int _] = some _ | show min2T [.int _, .int _] = some _ | show absT [.int _] = some _ | show eqT (.int _) (.int _) = some _ | show neT (.int _) (.int _) = some _ | show T.bl _ = T.bl _ | show T.int _ = T.int _)); exact rfl) | ((with_reducible (first | show isiT _ _ = some _ | show isT _ _ = some _ | show isNT _ _ = some _ | show isisT _ _ = some _)); first | exact (rfl : _ = some (T.bl true)) | exact (rfl : _ = some (T.bl false)) | exact rfl) | fail)
      | fail)
    refine ⟨_, mb, ?_⟩
    repeat' (first
      | with_reducible (first | refine WS_seq ?_ | refine WS_set ?_ | refine WS_ret ?_ | refine WS_if ?_ | refine WS_drop ?_ | refine WS_nx ?_ | refine WE_bin ?_ | refine WE_cons ?_ | refine WE_nil ?_ | refine WE_k ?_ | refine WE_app ?_ | refine WE_un ?_ | refine WE_B ?_ | refine WE_notC ?_ | refine WE_call ?_ | refine WE_callK ?_ | refine WE_lst ?_ | refine WE_tup ?_ | refine WE_chain ?_ | refine WE_andV ?_ | refine WE_orV ?_ | refine WE_notV ?_ | refine WE_andC ?_ | refine WE_orC ?_ | refine WE_if ?_ | refine WS_par2 ?_ | refine WS_par3 ?_ | refine WE_rg1 ?_ | refine WE_rg2 ?_ | refine WE_items ?_ | refine WE_enum ?_ | refine WE_zip ?_ | refine WE_revd ?_ | refine WE_callG ?_ | refine WS_put ?_ | refine WS_app ?_ | refine WE_pix ?_ | refine WE_sl ?_ | refine WE_p0 ?_ | refine WE_p1 ?_ | refine WE_true ?_ | refine WE_bor ?_ | refine WE_borC ?_ | refine WE_mt ?_ | refine WS_asg ?_) | ((with_reducible apply WE_var); (case h => exact rfl))
      | ((with_reducible refine And.intro ?_ ?_); (with_reducible first | exact ff1 | exact ff2 | exact ff3 | exact ff4 | exact ff5 | fail); (intro _))
      | ((with_reducible refine And.intro ?_ ?_); rotate_left; (with_reducible first | exact tt1 | exact tt2 | exact tt3 | exact tt4 | exact tt5 | fail); (intro _))
      | ((with_reducible apply Exists.intro); (with_reducible apply And.intro); first | ((with_reducible (first | show addT (.int _) (.int _) = some _ | show subT (.int _) (.int _) = some _ | show negT (.int _) = some _ | show ltT (.int _) (.int _) = some _ | show leT (.int _) (.int _) = some _ | show gtT (.int _) (.int _) = some _ | show geT (.int _) (.int _) = some _ | show intT [.int _] = some _ | show max2T [.int _, .int _] = some _ | show min2T [.int _, .int _] = some _ | show absT [.int _] = some _ | show eqT (.int _) (.int _) = some _ | show neT (.int _) (.int _) = some _ | show T.bl _ = T.bl _ | show T.int _ = T.int _)); exact rfl) | ((with_reducible (first | show isiT _ _ = some _ | show isT _ _ = some _ | show isNT _ _ = some _ | show isisT _ _ = some _)); first | exact (rfl : _ = some (T.bl true)) | exact (rfl : _ = some (T.bl false)) | exact rfl) | fail)
      | fail)
    refine ⟨fun hz => ?_, fun hz => ?_⟩
    · have hz := of_decide_eq_true hz
      obtain ⟨k1, hk1⟩ := indexT_row hb2
      obtain ⟨k2, hk2⟩ := indexT_row ha2
      repeat' (first
      | with_reducible (first | refine WS_seq ?_ | refine WS_set ?_ | refine WS_ret ?_ | refine WS_if ?_ | refine WS_drop ?_ | refine WS_nx ?_ | refine WE_bin ?_ | refine WE_cons ?_ | refine WE_nil ?_ | refine WE_k ?_ | refine WE_app ?_ | refine WE_un ?_ | refine WE_B ?_ | refine WE_notC ?_ | refine WE_call ?_ | refine WE_callK ?_ | refine WE_lst ?_ | refine WE_tup ?_ | refine WE_chain ?_ | refine WE_andV ?_ | refine WE_orV ?_ | refine WE_notV ?_ | refine WE_andC ?_ | refine WE_orC ?_ | refine WE_if ?_ | refine WS_par2 ?_ | refine WS_par3 ?_ | refine WE_rg1 ?_ | refine WE_rg2 ?_ | refine WE_items ?_ | refine WE_enum ?_ | refine WE_zip ?_ | refine WE_revd ?_ | refine WE_callG ?_ | refine WS_put ?_ | refine WS_app ?_ | refine WE_pix ?_ | refine WE_sl ?_ | refine WE_p0 ?_ | refine WE_p1 ?_ | refine WE_true ?_ | refine WE_bor ?_ | refine WE_borC ?_ | refine WE_mt ?_ | refine WS_asg ?_) | ((with_reducible apply WE_var); (case h => exact rfl))
      | ((with_reducible refine And.intro ?_ ?_); (with_reducible first | exact ff1 | exact ff2 | exact ff3 | exact ff4 | exact ff5 | fail); (intro _))
      | ((with_reducible refine And.intro ?_ ?_); rotate_left; (with_reducible first | exact tt1 | exact tt2 | exact tt3 | exact tt4 | exact tt5 | fail); (intro _))
      | ((with_reducible apply Exists.intro); (with_reducible apply And.intro); first | ((with_reducible (first | show addT (.int _) (.int _) = some _ | show subT (.int _) (.int _) = some _ | show negT (.int _) = some _ | show ltT (.int _) (.int _) = some _ | show leT (.int _) (.int _) = some _ | show gtT (.int _) (.int _) = some _ | show geT (.int _) (.int _) = some _ | show intT [.int _] = some _ | show max2T [.int _, .int _] = some _ | show min2T [.int _, .int _] = some _ | show absT [.int _] = some _ | show eqT (.int _) (.int _) = some _ | show neT (.int _) (.int _) = some _ | show T.bl _ = T.bl _ | show T.int _ = T.int _)); exact rfl) | ((with_reducible (first | show isiT _ _ = some _ | show isT _ _ = some _ | show isNT _ _ = some _ | show isisT _ _ = some _)); first | exact (rfl : _ = some (T.bl true)) | exact (rfl : _ = some (T.bl false)) | exact rfl) | fail)
      | fail)
      refine ⟨_, rfl, ?_⟩
      repeat' (first
      | with_reducible (first | refine WS_seq ?_ | refine WS_set ?_ | refine WS_ret ?_ | refine WS_if ?_ | refine WS_drop ?_ | refine WS_nx ?_ | refine WE_bin ?_ | refine WE_cons ?_ | refine WE_nil ?_ | refine WE_k ?_ | refine WE_app ?_ | refine WE_un ?_ | refine WE_B ?_ | refine WE_notC ?_ | refine WE_call ?_ | refine WE_callK ?_ | refine WE_lst ?_ | refine WE_tup ?_ | refine WE_chain ?_ | refine WE_andV ?_ | refine WE_orV ?_ | refine WE_notV ?_ | refine WE_andC ?_ | refine WE_orC ?_ | refine WE_if ?_ | refine WS_par2 ?_ | refine WS_par3 ?_ | refine WE_rg1 ?_ | refine WE_rg2 ?_ | refine WE_items ?_ | refine WE_enum ?_ | refine WE_zip ?_ | refine WE_revd ?_ | refine WE_callG ?_ | refine WS_put ?_ | refine WS_app ?_ | refine WE_pix ?_ | refine WE_sl ?_ | refine WE_p0 ?_ | refine WE_p1 ?_ | refine WE_true ?_ | refine WE_bor ?_ | refine WE_borC ?_ | refine WE_mt ?_ | refine WS_asg ?_) | ((with_reducible apply WE_var); (case h => exact rfl))
      | ((with_reducible refine And.intro ?_ ?_); (with_reducible first | exact ff1 | exact ff2 | exact ff3 | exact ff4 | exact ff5 | fail); (intro _))
      | ((with_reducible refine And.intro ?_ ?_); rotate_left; (with_reducible first | exact tt1 | exact tt2 | exact tt3 | exact tt4 | exact tt5 | fail); (intro _))
      | ((with_reducible apply Exists.intro); (with_reducible apply And.intro); first | ((with_reducible (first | show addT (.int _) (.int _) = some _ | show subT (.int _) (.int _) = some _ | show negT (.int _) = some _ | show ltT (.int _) (.int _) = some _ | show leT (.int _) (.int _) = some _ | show gtT (.int _) (.int _) = some _ | show geT (.int _) (.int _) = some _ | show intT [.int _] = some _ | show max2T [.int _, .int _] = some _ | show min2T [.int _, .int _] = some _ | show absT [.int _] = some _ | show eqT (.int _) (.int _) = some _ | show neT (.int _) (.int _) = some _ | show T.bl _ = T.bl _ | show T.int _ = T.int _)); exact rfl) | ((with_reducible (first | show isiT _ _ = some _ | show isT _ _ = some _ | show isNT _ _ = some _ | show isisT _ _ = some _)); first | exact (rfl : _ = some (T.bl true)) | exact (rfl : _ = some (T.bl false)) | exact rfl) | fail)
      | fail)
      refine ⟨_, mb, ?_⟩
      repeat' (first
      | with_reducible (first | refine WS_seq ?_ | refine WS_set ?_ | refine WS_ret ?_ | refine WS_if ?_ | refine WS_drop ?_ | refine WS_nx ?_ | refine WE_bin ?_ | refine WE_cons ?_ | refine WE_nil ?_ | refine WE_k ?_ | refine WE_app ?_ | refine WE_un ?_ | refine WE_B ?_ | refine WE_notC ?_ | refine WE_call ?_ | refine WE_callK ?_ | refine WE_lst ?_ | refine WE_tup ?_ | refine WE_chain ?_ | refine WE_andV ?_ | refine WE_orV ?_ | refine WE_notV ?_ | refine WE_andC ?_ | refine WE_orC ?_ | refine WE_if ?_ | refine WS_par2 ?_ | refine WS_par3 ?_ | refine WE_rg1 ?_ | refine WE_rg2 ?_ | refine WE_items ?_ | refine WE_enum ?_ | refine WE_zip ?_ | refine WE_revd ?_ | refine WE_callG ?_ | refine WS_put ?_ | refine WS_app ?_ | refine WE_pix ?_ | refine WE_sl ?_ | refine WE_p0 ?_ | refine WE_p1 ?_ | refine WE_true ?_ | refine WE_bor ?_ | refine WE_borC ?_ | refine WE_mt ?_ | refine WS_asg ?_) | ((with_reducible apply WE_var); (case h => exact rfl))
      | ((with_reducible refine And.intro ?_ ?_); (with_reducible first | exact ff1 | exact ff2 | exact ff3 | exact ff4 | exact ff5 | fail); (intro _))
      | ((with_reducible refine And.intro ?_ ?_); rotate_left; (with_reducible first | exact tt1 | exact tt2 | exact tt3 | exact tt4 | exact tt5 | fail); (intro _))
      | ((with_reducible apply Exists.intro); (with_reducible apply And.intro); first | ((with_reducible (first | show addT (.int _) (.int _) = some _ | show subT (.int _) (.int _) = some _ | show negT (.int _) = some _ | show ltT (.int _) (.int _) = some _ | show leT (.int _) (.int _) = some _ | show gtT (.int _) (.int _) = some _ | show geT (.int _) (.int _) = some _ | show intT [.int _] = some _ | show max2T [.int _, .int _] = some _ | show min2T [.int _, .int _] = some _ | show absT [.int _] = some _ | show eqT (.int _) (.int _) = some _ | show neT (.int _) (.int _) = some _ | show T.bl _ = T.bl _ | show T.int _ = T.int _)); exact rfl) | ((with_reducible (first | show isiT _ _ = some _ | show isT _ _ = some _ | show isNT _ _ = some _ | show isisT _ _ = some _)); first | exact (rfl : _ = some (T.bl true)) | exact (rfl : _ = some (T.bl false)) | exact rfl) | fail)
      | fail)
      refine ⟨_, hk1, ?_⟩
      repeat' (first
      | with_reducible (first | refine WS_seq ?_ | refine WS_set ?_ | refine WS_ret ?_ | refine WS_if ?_ | refine WS_drop ?_ | refine WS_nx ?_ | refine WE_bin ?_ | refine WE_cons ?_ | refine WE_nil ?_ | refine WE_k ?_ | refine WE_app ?_ | refine WE_un ?_ | refine WE_B ?_ | refine WE_notC ?_ | refine WE_call ?_ | refine WE_callK ?_ | refine WE_lst ?_ | refine WE_tup ?_ | refine WE_chain ?_ | refine WE_andV ?_ | refine WE_orV ?_ | refine WE_notV ?_ | refine WE_andC ?_ | refine WE_orC ?_ | refine WE_if ?_ | refine WS_par2 ?_ | refine WS_par3 ?_ | refine WE_rg1 ?_ | refine WE_rg2 ?_ | refine WE_items ?_ | refine WE_enum ?_ | refine WE_zip ?_ | refine WE_revd ?_ | refine WE_callG ?_ | refine WS_put ?_ | refine WS_app ?_ | refine WE_pix ?_ | refine WE_sl ?_ | refine WE_p0 ?_ | refine WE_p1 ?_ | refine WE_true ?_ | refine WE_bor ?_ | refine WE_borC ?_ | refine WE_mt ?_ | refine WS_asg ?_) | ((with_reducible apply WE_var); (case h => exact rfl))
      | ((with_reducible refine And.intro ?_ ?_); (with_reducible first | exact ff1 | exact ff2 | exact ff3 | exact ff4 | exact ff5 | fail); (intro _))
      | ((with_reducible refine And.intro ?_ ?_); rotate_left; (with_reducible first | exact tt1 | exact tt2 | exact tt3 | exact tt4 | exact tt5 | fail); (intro _))
      | ((with_reducible apply Exists.intro); (with_reducible apply And.intro); first | ((with_reducible (first | show addT (.int _) (.int _) = some _ | show subT (.int _) (.int _) = some _ | show negT (.int _) = some _ | show ltT (.int _) (.int _) = some _ | show leT (.int _) (.int _) = some _ | show gtT (.int _) (.int _) = some _ | show geT (.int _) (.int _) = some _ | show intT [.int _] = some _ | show max2T [.int _, .int _] = some _ | show min2T [.int _, .int _] = some _ | show absT [.int _] = some _ | show eqT (.int _) (.int _) = some _ | show neT (.int _) (.int _) = some _ | show T.bl _ = T.bl _ | show T.int _ = T.int _)); exact rfl) | ((with_reducible (first | show isiT _ _ = some _ | show isT _ _ = some _ | show isNT _ _ = some _ | show isisT _ _ = some _)); first | exact (rfl : _ = some (T.bl true)) | exact (rfl : _ = some (T.bl false)) | exact rfl) | fail)
      | fail)
      refine ⟨_, rfl, ?_⟩
      repeat' (first
      | with_reducible (first | refine WS_seq ?_ | refine WS_set ?_ | refine WS_ret ?_ | refine WS_if ?_ | refine WS_drop ?_ | refine WS_nx ?_ | refine WE_bin ?_ | refine WE_cons ?_ | refine WE_nil ?_ | refine WE_k ?_ | refine WE_app ?_ | refine WE_un ?_ | refine WE_B ?_ | refine WE_notC ?_ | refine WE_call ?_ | refine WE_callK ?_ | refine WE_lst ?_ | refine WE_tup ?_ | refine WE_chain ?_ | refine WE_andV ?_ | refine WE_orV ?_ | refine WE_notV ?_ | refine WE_andC ?_ | refine WE_orC ?_ | refine WE_if ?_ | refine WS_par2 ?_ | refine WS_par3 ?_ | refine WE_rg1 ?_ | refine WE_rg2 ?_ | refine WE_items ?_ | refine WE_enum ?_ | refine WE_zip ?_ | refine WE_revd ?_ | refine WE_callG ?_ | refine WS_put ?_ | refine WS_app ?_ | refine WE_pix ?_ | refine WE_sl ?_ | refine WE_p0 ?_ | refine WE_p1 ?_ | refine WE_true ?_ | refine WE_bor ?_ | refine WE_borC ?_ | refine WE_mt ?_ | refine WS_asg ?_) | ((with_reducible apply WE_var); (case h => exact rfl))
      | ((with_reducible refine And.intro ?_ ?_); (with_reducible first | exact ff1 | exact ff2 | exact ff3 | exact ff4 | exact ff5 | fail); (intro _))
      | ((with_reducible refine And.intro ?_ ?_); rotate_left; (with_reducible first | exact tt1 | exact tt2 | exact tt3 | exact tt4 | exact tt5 | fail); (intro _))
      | ((with_reducible apply Exists.intro); (with_reducible apply And.intro); first | ((with_reducible (first | show addT (.int _) (.int _) = some _ | show subT (.int _) (.int _) = some _ | show negT (.int _) = some _ | show ltT (.int _) (.int _) = some _ | show leT (.int _) (.int _) = some _ | show gtT (.int _) (.int _) = some _ | show geT (.int _) (.int _) = some _ | show intT [.int _] = some _ | show max2T [.int _, .int _] = some _ | show min2T [.int _, .int _] = some _ | show absT [.int _] = some _ | show eqT (.int _) (.int _) = some _ | show neT (.int _) (.int _) = some _ | show T.bl _ = T.bl _ | show T.int _ = T.int _)); exact rfl) | ((with_reducible (first | show isiT _ _ = some _ | show isT _ _ = some _ | show isNT _ _ = some _ | show isisT _ _ = some _)); first | exact (rfl : _ = some (T.bl true)) | exact (rfl : _ = some (T.bl false)) | exact rfl) | fail)
      | fail)
      refine ⟨_, ma, ?_⟩
      repeat' (first
      | with_reducible (first | refine WS_seq ?_ | refine WS_set ?_ | refine WS_ret ?_ | refine WS_if ?_ | refine WS_drop ?_ | refine WS_nx ?_ | refine WE_bin ?_ | refine WE_cons ?_ | refine WE_nil ?_ | refine WE_k ?_ | refine WE_app ?_ | refine WE_un ?_ | refine WE_B ?_ | refine WE_notC ?_ | refine WE_call ?_ | refine WE_callK ?_ | refine WE_lst ?_ | refine WE_tup ?_ | refine WE_chain ?_ | refine WE_andV ?_ | refine WE_orV ?_ | refine WE_notV ?_ | refine WE_andC ?_ | refine WE_orC ?_ | refine WE_if ?_ | refine WS_par2 ?_ | refine WS_par3 ?_ | refine WE_rg1 ?_ | refine WE_rg2 ?_ | refine WE_items ?_ | refine WE_enum ?_ | refine WE_zip ?_ | refine WE_revd ?_ | refine WE_callG ?_ | refine WS_put ?_ | refine WS_app ?_ | refine WE_pix ?_ | refine WE_sl ?_ | refine WE_p0 ?_ | refine WE_p1 ?_ | refine WE_true ?_ | refine WE_bor ?_ | refine WE_borC ?_ | refine WE_mt ?_ | refine WS_asg ?_) | ((with_reducible apply WE_var); (case h => exact rfl))
      | ((with_reducible refine And.intro ?_ ?_); (with_reducible first | exact ff1 | exact ff2 | exact ff3 | exact ff4 | exact ff5 | fail); (intro _))
      | ((with_reducible refine And.intro ?_ ?_); rotate_left; (with_reducible first | exact tt1 | exact tt2 | exact tt3 | exact tt4 | exact tt5 | fail); (intro _))
      | ((with_reducible apply Exists.intro); (with_reducible apply And.intro); first | ((with_reducible (first | show addT (.int _) (.int _) = some _ | show subT (.int _) (.int _) = some _ | show negT (.int _) = some _ | show ltT (.int _) (.int _) = some _ | show leT (.int _) (.int _) = some _ | show gtT (.int _) (.int _) = some _ | show geT (.int _) (.int _) = some _ | show intT [.int _] = some _ | show max2T [.int _, .int _] = some _ | show min2T [.int _, .int _] = some _ | show absT [.int _] = some _ | show eqT (.int _) (.int _) = some _ | show neT (.int _) (.int _) = some _ | show T.bl _ = T.bl _ | show T.int _ = T.int _)); exact rfl) | ((with_reducible (first | show isiT _ _ = some _ | show isT _ _ = some _ | show isNT _ _ = some _ | show isisT _ _ = some _)); first | exact (rfl : _ = some (T.bl true)) | exact (rfl : _ = some (T.bl false)) | exact rfl) | fail)
      | fail)
      refine ⟨_, hk2, ?_⟩
      repeat' (first
      | with_reducible (first | refine WS_seq ?_ | refine WS_set ?_ | refine WS_ret ?_ | refine WS_if ?_ | refine WS_drop ?_ | refine WS_nx ?_ | refine WE_bin ?_ | refine WE_cons ?_ | refine WE_nil ?_ | refine WE_k ?_ | refine WE_app ?_ | refine WE_un ?_ | refine WE_B ?_ | refine WE_notC ?_ | refine WE_call ?_ | refine WE_callK ?_ | refine WE_lst ?_ | refine WE_tup ?_ | refine WE_chain ?_ | refine WE_andV ?_ | refine WE_orV ?_ | refine WE_notV ?_ | refine WE_andC ?_ | refine WE_orC ?_ | refine WE_if ?_ | refine WS_par2 ?_ | refine WS_par3 ?_ | refine WE_rg1 ?_ | refine WE_rg2 ?_ | refine WE_items ?_ | refine WE_enum ?_ | refine WE_zip ?_ | refine WE_revd ?_ | refine WE_callG ?_ | refine WS_put ?_ | refine WS_app ?_ | refine WE_pix ?_ | refine WE_sl ?_ | refine WE_p0 ?_ | refine WE_p1 ?_ | refine WE_true ?_ | refine WE_bor ?_ | refine WE_borC ?_ | refine WE_mt ?_ | refine WS_asg ?_) | ((with_reducible apply WE_var); (case h => exact rfl))
      | ((with_reducible refine And.intro ?_ ?_); (with_reducible first | exact ff1 | exact ff2 | exact ff3 | exact ff4 | exact ff5 | fail); (intro _))
      | ((with_reducible refine And.intro ?_ ?_); rotate_left; (with_reducible first | exact tt1 | exact tt2 | exact tt3 | exact tt4 | exact tt5 | fail); (intro _))
      | ((with_reducible apply Exists.intro); (with_reducible apply And.intro); first | ((with_reducible (first | show addT (.int _) (.int _) = some _ | show subT (.int _) (.int _) = some _ | show negT (.int _) = some _ | show ltT (.int _) (.int _) = some _ | show leT (.int _) (.int _) = some _ | show gtT (.int _) (.int _) = some _ | show geT (.int _) (.int _) = some _ | show intT [.int _] = some _ | show max2T [.int _, .int _] = some _ | show min2T [.int _, .int _] = some _ | show absT [.int _] = some _ | show eqT (.int _) (.int _) = some _ | show neT (.int _) (.int _) = some _ | show T.bl _ = T.bl _ | show T.int _ = T.int _)); exact rfl) | ((with_reducible (first | show isiT _ _ = some _ | show isT _ _ = some _ | show isNT _ _ = some _ | show isisT _ _ = some _)); first | exact (rfl : _ = some (T.bl true)) | exact (rfl : _ = some (T.bl false)) | exact rfl) | fail)
      | fail)
      refine ⟨by show 3 ≤ LIM; decide, q2 ?_ _⟩
      refine Bool.eq_false_iff.mpr fun e => ?_
      have := List.all_eq_true.mp e (1 + i) (List.mem_range'_1.mpr ⟨by omega, by omega⟩)
      rw [hev] at this
      have := of_decide_eq_true this
      omega
    · have hz := of_decide_eq_false hz
      repeat' (first
      | with_reducible (first | refine WS_seq ?_ | refine WS_set ?_ | refine WS_ret ?_ | refine WS_if ?_ | refine WS_drop ?_ | refine WS_nx ?_ | refine WE_bin ?_ | refine WE_cons ?_ | refine WE_nil ?_ | refine WE_k ?_ | refine WE_app ?_ | refine WE_un ?_ | refine WE_B ?_ | refine WE_notC ?_ | refine WE_call ?_ | refine WE_callK ?_ | refine WE_lst ?_ | refine WE_tup ?_ | refine WE_chain ?_ | refine WE_andV ?_ | refine WE_orV ?_ | refine WE_notV ?_ | refine WE_andC ?_ | refine WE_orC ?_ | refine WE_if ?_ | refine WS_par2 ?_ | refine WS_par3 ?_ | refine WE_rg1 ?_ | refine WE_rg2 ?_ | refine WE_items ?_ | refine WE_enum ?_ | refine WE_zip ?_ | refine WE_revd ?_ | refine WE_callG ?_ | refine WS_put ?_ | refine WS_app ?_ | refine WE_pix ?_ | refine WE_sl ?_ | refine WE_p0 ?_ | refine WE_p1 ?_ | refine WE_true ?_ | refine WE_bor ?_ | refine WE_borC ?_ | refine WE_mt ?_ | refine WS_asg ?_) | ((with_reducible apply WE_var); (case h => exact rfl))
      | ((with_reducible refine And.intro ?_ ?_); (with_reducible first | exact ff1 | exact ff2 | exact ff3 | exact ff4 | exact ff5 | fail); (intro _))
      | ((with_reducible refine And.intro ?_ ?_); rotate_left; (with_reducible first | exact tt1 | exact tt2 | exact tt3 | exact tt4 | exact tt5 | fail); (intro _))
      | ((with_reducible apply Exists.intro); (with_reducible apply And.intro); first | ((with_reducible (first | show addT (.int _) (.int _) = some _ | show subT (.int _) (.int _) = some _ | show negT (.int _) = some _ | show ltT (.int _) (.int _) = some _ | show leT (.int _) (.int _) = some _ | show gtT (.int _) (.int _) = some _ | show geT (.int _) (.int _) = some _ | show intT [.int _] = some _ | show max2T [.int _, .int _] = some _ | show min2T [.int _, .int _] = some _ | show absT [.int _] = some _ | show eqT (.int _) (.int _) = some _ | show neT (.int _) (.int _) = some _ | show T.bl _ = T.bl _ | show T.int _ = T.int _)); exact rfl) | ((with_reducible (first | show isiT _ _ = some _ | show isT _ _ = some _ | show isNT _ _ = some _ | show isisT _ _ = some _)); first | exact (rfl : _ = some (T.bl true)) | exact (rfl : _ = some (T.bl false)) | exact rfl) | fail)
      | fail)
      refine ⟨_, _, rfl, trivial, fun l h3 h4 => ?_⟩
      by_cases e : l = 1 + i
      · rw [e, hev]
        exact decide_eq_true (by omega)
      · exact he l h3 (by omega)
  · obtain ⟨x, y, rfl, -, he⟩ := hs
    repeat' (first
      | with_reducible (first | refine WS_seq ?_ | refine WS_set ?_ | refine WS_ret ?_ | refine WS_if ?_ | refine WS_drop ?_ | refine WS_nx ?_ | refine WE_bin ?_ | refine WE_cons ?_ | refine WE_nil ?_ | refine WE_k ?_ | refine WE_app ?_ | refine WE_un ?_ | refine WE_B ?_ | refine WE_notC ?_ | refine WE_call ?_ | refine WE_callK ?_ | refine WE_lst ?_ | refine WE_tup ?_ | refine WE_chain ?_ | refine WE_andV ?_ | refine WE_orV ?_ | refine WE_notV ?_ | refine WE_andC ?_ | refine WE_orC ?_ | refine WE_if ?_ | refine WS_par2 ?_ | refine WS_par3 ?_ | refine WE_rg1 ?_ | refine WE_rg2 ?_ | refine WE_items ?_ | refine WE_enum ?_ | refine WE_zip ?_ | refine WE_revd ?_ | refine WE_callG ?_ | refine WS_put ?_ | refine WS_app ?_ | refine WE_pix ?_ | refine WE_sl ?_ | refine WE_p0 ?_ | refine WE_p1 ?_ | refine WE_true ?_ | refine WE_bor ?_ | refine WE_borC ?_ | refine WE_mt ?_ | refine WS_asg ?_) | ((with_reducible apply WE_var); (case h => exact rfl))
      | ((with_reducible refine And.intro ?_ ?_); (with_reducible first | exact ff1 | exact ff2 | exact ff3 | exact ff4 | exact ff5 | fail); (intro _))
      | ((with_reducible refine And.intro ?_ ?_); rotate_left; (with_reducible first | exact tt1 | exact tt2 | exact tt3 | exact tt4 | exact tt5 | fail); (intro _))
      | ((with_reducible apply Exists.intro); (with_reducible apply And.intro); first | ((with_reducible (first | show addT (.int _) (.int _) = some _ | show subT (.int _) (.int _) = some _ | show negT (.int _) = some _ | show ltT (.int _) (.int _) = some _ | show leT (.int _) (.int _) = some _ | show gtT (.int _) (.int _) = some _ | show geT (.int _) (.int _) = some _ | show intT [.int _] = some _ | show max2T [.int _, .int _] = some _ | show min2T [.int _, .int _] = some _ | show absT [.int _] = some _ | show eqT (.int _) (.int _) = some _ | show neT (.int _) (.int _) = some _ | show T.bl _ = T.bl _ | show T.int _ = T.int _)); exact rfl) | ((with_reducible (first | show isiT _ _ = some _ | show isT _ _ = some _ | show isNT _ _ = some _ | show isisT _ _ = some _)); first | exact (rfl : _ = some (T.bl true)) | exact (rfl : _ = some (T.bl false)) | exact rfl) | fail)
      | fail)
    refine q1 (List.all_eq_true.mpr fun l hl => ?_)
    have hl := List.mem_range'_1.mp hl
    refine he l (by omega) ?_
    rw [rangeT_len]
    omega
end
end G
namespace G
open PySem L2 Tc
section
variable {χ : T → List T → Prop} {ζ : Str → T → Prop}
/-- a row of noughts and ones -/
def Bits (r : List Int) : Prop := ∀ x ∈ r, 0 ≤ x ∧ x < 2
theorem is_row_ok {r : List Int} (h2 : r.length ≤ 60) (hb : Bits r) (q : χ (.bl true) []) : WR (m_is_row [rowT r]) χ ζ := by
  refine WR_fn ?_
  try simp only [List.map_cons, List.map_nil, List.cons_append, List.nil_append, List.length_cons, List.length_nil, Nat.zero_add, Nat.reduceAdd, Nat.reduceSub, Nat.sub_self, List.replicate_zero, List.replicate_succ, List.append_nil, List.set_cons_zero, List.set_cons_succ]
  repeat' (first
      | with_reducible (first | refine WS_seq ?_ | refine WS_set ?_ | refine WS_ret ?_ | refine WS_if ?_ | refine WS_drop ?_ | refine WS_nx ?_ | refine WE_bin ?_ | refine WE_cons ?_ | refine WE_nil ?_ | refine WE_k ?_ | refine WE_app ?_ | refine WE_un ?_ | refine WE_B ?_ | refine WE_notC ?_ | refine WE_call ?_ | refine WE_callK ?_ | refine WE_lst ?_ | refine WE_tup ?_ | refine WE_chain ?_ | refine WE_andV ?_ | refine WE_orV ?_ | refine WE_notV ?_ | refine WE_andC ?_ | refine WE_orC ?_ | refine WE_if ?_ | refine WS_par2 ?_ | refine WS_par3 ?_ | refine WE_rg1 ?_ | refine WE_rg2 ?_ | refine WE_items ?_ | refine WE_enum ?_ | refine WE_zip ?_ | refine WE_revd ?_ | refine WE_callG ?_ | refine WS_put ?_ | refine WS_app ?_ | refine WE_pix ?_ | refine WE_sl ?_ | refine WE_p0 ?_ | refine WE_p1 ?_ | refine WE_true ?_ | refine WE_bor ?_ | refine WE_borC ?_ | refine WE_mt ?_ | refine WS_asg ?_) | ((with_reducible apply WE_var); (case h => exact rfl))
      | ((with_reducible refine And.intro ?_ ?_); (with_reducible first | exact ff1 | exact ff2 | exact ff3 | exact ff4 | exact ff5 | fail); (intro _))
      | ((with_reducible refine And.intro ?_ ?_); rotate_left; (with_reducible first | exact tt1 | exact tt2 | exact tt3 | exact tt4 | exact tt5 | fail); (intro _))
      | ((with_reducible apply Exists.intro); (with_reducible apply And.intro); first | ((with_reducible (first | show addT (.int _) (.int _) = some _ | show subT (.int _) (.int _) = some _ | show negT (.int _) = some _ | show ltT (.int _) (.int _) = some _ | show leT (.int _) (.int _) = some _ | show gtT (.int _) (.int _) = some _ | show geT (.int _) (.int _) = some _ | show intT [.int _] = some _ | show max2T [.int _, .int _] = some _ | show min2T [.int _, .int _] = some _ | show absT [.int _] = some _ | show eqT (.int _) (.int _) = some _ | show neT (.int _) (.int _) = some _ | show T.bl _ = T.bl _ | show T.int _ = T.int _)); exact rfl) | ((with_reducible (first | show isiT _ _ = some _ | show isT _ _ = some _ | show isNT _ _ = some _ | show isisT _ _ = some _)); first | exact (rfl : _ = some (T.bl true)) | exact (rfl : _ = some (T.bl false)) | exact rfl) | fail)
      | fail)
  refine ⟨_, lenT_row (by simp only [LIM]; omega), ?_⟩
  repeat' (first
      | with_reducible (first | refine WS_seq ?_ | refine WS_set ?_ | refine WS_ret ?_ | refine WS_if ?_ | refine WS_drop ?_ | refine WS_nx ?_ | refine WE_bin ?_ | refine WE_cons ?_ | refine WE_nil ?_ | refine WE_k ?_ | refine WE_app ?_ | refine WE_un ?_ | refine WE_B ?_ | refine WE_notC ?_ | refine WE_call ?_ | refine WE_callK ?_ | refine WE_lst ?_ | refine WE_tup ?_ | refine WE_chain ?_ | refine WE_andV ?_ | refine WE_orV ?_ | refine WE_notV ?_ | refine WE_andC ?_ | refine WE_orC ?_ | refine WE_if ?_ | refine WS_par2 ?_ | refine WS_par3 ?_ | refine WE_rg1 ?_ | refine WE_rg2 ?_ | refine WE_items ?_ | refine WE_enum ?_ | refine WE_zip ?_ | refine WE_revd ?_ | refine WE_callG ?_ | refine WS_put ?_ | refine WS_app ?_ | refine WE_pix ?_ | refine WE_sl ?_ | refine WE_p0 ?_ | refine WE_p1 ?_ | refine WE_true ?_ | refine WE_bor ?_ | refine WE_borC ?_ | refine WE_mt ?_ | refine WS_asg ?_) | ((with_reducible apply WE_var); (case h => exact rfl))
      | ((with_reducible refine And.intro ?_ ?_); (with_reducible first | exact ff1 | exact ff2 | exact ff3 | exact ff4 | exact ff5 | fail); (intro _))
      | ((with_reducible refine And.intro ?_ ?_); rotate_left; (with_reducible first | exact tt1 | exact tt2 | exact tt3 | exact tt4 | exact tt5 | fail); (intro _))
      | ((with_reducible apply Exists.intro); (with_reducible apply And.intro); first | ((with_reducible (first | show addT (.int _) (.int _) = some _ | show subT (.int _) (.int _) = some _ | show negT (.int _) = some _ | show ltT (.int _) (.int _) = some _ | show leT (.int _) (.int _) = some _ | show gtT (.int _) (.int _) = some _ | show geT (.int _) (.int _) = some _ | show intT [.int _] = some _ | show max2T [.int _, .int _] = some _ | show min2T [.int _, .int _] = some _ | show absT [.int _] = some _ | show eqT (.int _) (.int _) = some _ | show neT (.int _) (.int _) = some _ | show T.bl _ = T.bl _ | show T.int _ = T.int _)); exact rfl) | ((with_reducible (first | show isiT _ _ = some _ | show isT _ _ = some _ | show isNT _ _ = some _ | show isisT _ _ = some _)); first | exact (rfl : _ = some (T.bl true)) | exact (rfl : _ = some (T.bl false)) | exact rfl) | fail)
      | fail)
  refine ⟨fun hz => ?_, fun _ => ?_⟩
  · have := of_decide_eq_true hz
    omega
  · repeat' (first
      | with_reducible (first | refine WS_seq ?_ | refine WS_set ?_ | refine WS_ret ?_ | refine WS_if ?_ | refine WS_drop ?_ | refine WS_nx ?_ | refine WE_bin ?_ | refine WE_cons ?_ | refine WE_nil ?_ | refine WE_k ?_ | refine WE_app ?_ | refine WE_un ?_ | refine WE_B ?_ | refine WE_notC ?_ | refine WE_call ?_ | refine WE_callK ?_ | refine WE_lst ?_ | refine WE_tup ?_ | refine WE_chain ?_ | refine WE_andV ?_ | refine WE_orV ?_ | refine WE_notV ?_ | refine WE_andC ?_ | refine WE_orC ?_ | refine WE_if ?_ | refine WS_par2 ?_ | refine WS_par3 ?_ | refine WE_rg1 ?_ | refine WE_rg2 ?_ | refine WE_items ?_ | refine WE_enum ?_ | refine WE_zip ?_ | refine WE_revd ?_ | refine WE_callG ?_ | refine WS_put ?_ | refine WS_app ?_ | refine WE_pix ?_ | refine WE_sl ?_ | refine WE_p0 ?_ | refine WE_p1 ?_ | refine WE_true ?_ | refine WE_bor ?_ | refine WE_borC ?_ | refine WE_mt ?_ | refine WS_asg ?_) | ((with_reducible apply WE_var); (case h => exact rfl))
      | ((with_reducible refine And.intro ?_ ?_); (with_reducible first | exact ff1 | exact ff2 | exact ff3 | exact ff4 | exact ff5 | fail); (intro _))
      | ((with_reducible refine And.intro ?_ ?_); rotate_left; (with_reducible first | exact tt1 | exact tt2 | exact tt3 | exact tt4 | exact tt5 | fail); (intro _))
      | ((with_reducible apply Exists.intro); (with_reducible apply And.intro); first | ((with_reducible (first | show addT (.int _) (.int _) = some _ | show subT (.int _) (.int _) = some _ | show negT (.int _) = some _ | show ltT (.int _) (.int _) = some _ | show leT (.int _) (.int _) = some _ | show gtT (.int _) (.int _) = some _ | show geT (.int _) (.int _) = some _ | show intT [.int _] = some _ | show max2T [.int _, .int _] = some _ | show min2T [.int _, .int _] = some _ | show absT [.int _] = some _ | show eqT (.int _) (.int _) = some _ | show neT (.int _) (.int _) = some _ | show T.bl _ = T.bl _ | show T.int _ = T.int _)); exact rfl) | ((with_reducible (first | show isiT _ _ = some _ | show isT _ _ = some _ | show isNT _ _ = some _ | show isisT _ _ = some _)); first | exact (rfl : _ = some (T.bl true)) | exact (rfl : _ = some (T.bl false)) | exact rfl) | fail)
      | fail)
    refine WE_lcM .int r (fun _ => false) (fun a => .int a) ?_
    repeat' (first
      | with_reducible (first | refine WS_seq ?_ | refine WS_set ?_ | refine WS_ret ?_ | refine WS_if ?_ | refine WS_drop ?_ | refine WS_nx ?_ | refine WE_bin ?_ | refine WE_cons ?_ | refine WE_nil ?_ | refine WE_k ?_ | refine WE_app ?_ | refine WE_un ?_ | refine WE_B ?_ | refine WE_notC ?_ | refine WE_call ?_ | refine WE_callK ?_ | refine WE_lst ?_ | refine WE_tup ?_ | refine WE_chain ?_ | refine WE_andV ?_ | refine WE_orV ?_ | refine WE_notV ?_ | refine WE_andC ?_ | refine WE_orC ?_ | refine WE_if ?_ | refine WS_par2 ?_ | refine WS_par3 ?_ | refine WE_rg1 ?_ | refine WE_rg2 ?_ | refine WE_items ?_ | refine WE_enum ?_ | refine WE_zip ?_ | refine WE_revd ?_ | refine WE_callG ?_ | refine WS_put ?_ | refine WS_app ?_ | refine WE_pix ?_ | refine WE_sl ?_ | refine WE_p0 ?_ | refine WE_p1 ?_ | refine WE_true ?_ | refine WE_bor ?_ | refine WE_borC ?_ | refine WE_mt ?_ | refine WS_asg ?_) | ((with_reducible apply WE_var); (case h => exact rfl))
      | ((with_reducible refine And.intro ?_ ?_); (with_reducible first | exact ff1 | exact ff2 | exact ff3 | exact ff4 | exact ff5 | fail); (intro _))
      | ((with_reducible refine And.intro ?_ ?_); rotate_left; (with_reducible first | exact tt1 | exact tt2 | exact tt3 | exact tt4 | exact tt5 | fail); (intro _))
      | ((with_reducible apply Exists.intro); (with_reducible apply And.intro); first | ((with_reducible (first | show addT (.int _) (.int _) = some _ | show subT (.int _) (.int _) = some _ | show negT (.int _) = some _ | show ltT (.int _) (.int _) = some _ | show leT (.int _) (.int _) = some _ | show gtT (.int _) (.int _) = some _ | show geT (.int _) (.int _) = some _ | show intT [.int _] = some _ | show max2T [.int _, .int _] = some _ | show min2T [.int _, .int _] = some _ | show absT [.int _] = some _ | show eqT (.int _) (.int _) = some _ | show neT (.int _) (.int _) = some _ | show T.bl _ = T.bl _ | show T.int _ = T.int _)); exact rfl) | ((with_reducible (first | show isiT _ _ = some _ | show isT _ _ = some _ | show isNT _ _ = some _ | show isisT _ _ = some _)); first | exact (rfl : _ = some (T.bl true)) | exact (rfl : _ = some (T.bl false)) | exact rfl) | fail)
      | fail)
    refine ⟨_, .inl rfl, rfl, by omega, (fun k hk => by rw [List.mem_singleton.mp hk]; show 1 < 2; decide), fun a ha => ?_, ?_⟩
    · refine ⟨_, rfl, ?_⟩
      repeat' (first
      | with_reducible (first | refine WS_seq ?_ | refine WS_set ?_ | refine WS_ret ?_ | refine WS_if ?_ | refine WS_drop ?_ | refine WS_nx ?_ | refine WE_bin ?_ | refine WE_cons ?_ | refine WE_nil ?_ | refine WE_k ?_ | refine WE_app ?_ | refine WE_un ?_ | refine WE_B ?_ | refine WE_notC ?_ | refine WE_call ?_ | refine WE_callK ?_ | refine WE_lst ?_ | refine WE_tup ?_ | refine WE_chain ?_ | refine WE_andV ?_ | refine WE_orV ?_ | refine WE_notV ?_ | refine WE_andC ?_ | refine WE_orC ?_ | refine WE_if ?_ | refine WS_par2 ?_ | refine WS_par3 ?_ | refine WE_rg1 ?_ | refine WE_rg2 ?_ | refine WE_items ?_ | refine WE_enum ?_ | refine WE_zip ?_ | refine WE_revd ?_ | refine WE_callG ?_ | refine WS_put ?_ | refine WS_app ?_ | refine WE_pix ?_ | refine WE_sl ?_ | refine WE_p0 ?_ | refine WE_p1 ?_ | refine WE_true ?_ | refine WE_bor ?_ | refine WE_borC ?_ | refine WE_mt ?_ | refine WS_asg ?_) | ((with_reducible apply WE_var); (case h => exact rfl))
      | ((with_reducible refine And.intro ?_ ?_); (with_reducible first | exact ff1 | exact ff2 | exact ff3 | exact ff4 | exact ff5 | fail); (intro _))
      | ((with_reducible refine And.intro ?_ ?_); rotate_left; (with_reducible first | exact tt1 | exact tt2 | exact tt3 | exact tt4 | exact tt5 | fail); (intro _))
      | ((with_reducible apply Exists.intro); (with_reducible apply And.intro); first | ((with_reducible (first | show addT (.int _) (.int _) = some _ | show subT (.int _) (.int _) = some _ | show negT (.int _) = some _ | show ltT (.int _) (.int _) = some _ | show leT (.int _) (.int _) = some _ | show gtT (.int _) (.int _) = some _ | show geT (.int _) (.int _) = some _ | show intT [.int _] = some _ | show max2T [.int _, .int _] = some _ | show min2T [.int _, .int _] = some _ | show absT [.int _] = some _ | show eqT (.int _) (.int _) = some _ | show neT (.int _) (.int _) = some _ | show T.bl _ = T.bl _ | show T.int _ = T.int _)); exact rfl) | ((with_reducible (first | show isiT _ _ = some _ | show isT _ _ = some _ | show isNT _ _ = some _ | show isisT _ _ = some _)); first | exact (rfl : _ = some (T.bl true)) | exact (rfl : _ = some (T.bl false)) | exact rfl) | fail)
      | fail)
      refine WR.of_eq below_ok ?_
      have hd : decide (0 ≤ a ∧ a < 2) = true := decide_eq_true (hb a ha)
      rw [hd]
      repeat' (first
      | with_reducible (first | refine WS_seq ?_ | refine WS_set ?_ | refine WS_ret ?_ | refine WS_if ?_ | refine WS_drop ?_ | refine WS_nx ?_ | refine WE_bin ?_ | refine WE_cons ?_ | refine WE_nil ?_ | refine WE_k ?_ | refine WE_app ?_ | refine WE_un ?_ | refine WE_B ?_ | refine WE_notC ?_ | refine WE_call ?_ | refine WE_callK ?_ | refine WE_lst ?_ | refine WE_tup ?_ | refine WE_chain ?_ | refine WE_andV ?_ | refine WE_orV ?_ | refine WE_notV ?_ | refine WE_andC ?_ | refine WE_orC ?_ | refine WE_if ?_ | refine WS_par2 ?_ | refine WS_par3 ?_ | refine WE_rg1 ?_ | refine WE_rg2 ?_ | refine WE_items ?_ | refine WE_enum ?_ | refine WE_zip ?_ | refine WE_revd ?_ | refine WE_callG ?_ | refine WS_put ?_ | refine WS_app ?_ | refine WE_pix ?_ | refine WE_sl ?_ | refine WE_p0 ?_ | refine WE_p1 ?_ | refine WE_true ?_ | refine WE_bor ?_ | refine WE_borC ?_ | refine WE_mt ?_ | refine WS_asg ?_) | ((with_reducible apply WE_var); (case h => exact rfl))
      | ((with_reducible refine And.intro ?_ ?_); (with_reducible first | exact ff1 | exact ff2 | exact ff3 | exact ff4 | exact ff5 | fail); (intro _))
      | ((with_reducible refine And.intro ?_ ?_); rotate_left; (with_reducible first | exact tt1 | exact tt2 | exact tt3 | exact tt4 | exact tt5 | fail); (intro _))
      | ((with_reducible apply Exists.intro); (with_reducible apply And.intro); first | ((with_reducible (first | show addT (.int _) (.int _) = some _ | show subT (.int _) (.int _) = some _ | show negT (.int _) = some _ | show ltT (.int _) (.int _) = some _ | show leT (.int _) (.int _) = some _ | show gtT (.int _) (.int _) = some _ | show geT (.int _) (.int _) = some _ | show intT [.int _] = some _ | show max2T [.int _, .int _] = some _ | show min2T [.int _, .int _] = some _ | show absT [.int _] = some _ | show eqT (.int _) (.int _) = some _ | show neT (.int _) (.int _) = some _ | show T.bl _ = T.bl _ | show T.int _ = T.int _)); exact rfl) | ((with_reducible (first | show isiT _ _ = some _ | show isT _ _ = some _ | show isNT _ _ = some _ | show isisT _ _ = some _)); first | exact (rfl : _ = some (T.bl true)) | exact (rfl : _ = some (T.bl false)) | exact rfl) | fail)
      | fail)
      exact ⟨rfl, (fun _ => rfl), (fun h => nomatch h)⟩
    · have e : T.lst ((r.filter fun _ => false).map fun a => T.int a) = rowT [] := by simp [rowT]
      rw [e]
      repeat' (first
      | with_reducible (first | refine WS_seq ?_ | refine WS_set ?_ | refine WS_ret ?_ | refine WS_if ?_ | refine WS_drop ?_ | refine WS_nx ?_ | refine WE_bin ?_ | refine WE_cons ?_ | refine WE_nil ?_ | refine WE_k ?_ | refine WE_app ?_ | refine WE_un ?_ | refine WE_B ?_ | refine WE_notC ?_ | refine WE_call ?_ | refine WE_callK ?_ | refine WE_lst ?_ | refine WE_tup ?_ | refine WE_chain ?_ | refine WE_andV ?_ | refine WE_orV ?_ | refine WE_notV ?_ | refine WE_andC ?_ | refine WE_orC ?_ | refine WE_if ?_ | refine WS_par2 ?_ | refine WS_par3 ?_ | refine WE_rg1 ?_ | refine WE_rg2 ?_ | refine WE_items ?_ | refine WE_enum ?_ | refine WE_zip ?_ | refine WE_revd ?_ | refine WE_callG ?_ | refine WS_put ?_ | refine WS_app ?_ | refine WE_pix ?_ | refine WE_sl ?_ | refine WE_p0 ?_ | refine WE_p1 ?_ | refine WE_true ?_ | refine WE_bor ?_ | refine WE_borC ?_ | refine WE_mt ?_ | refine WS_asg ?_) | ((with_reducible apply WE_var); (case h => exact rfl))
      | ((with_reducible refine And.intro ?_ ?_); (with_reducible first | exact ff1 | exact ff2 | exact ff3 | exact ff4 | exact ff5 | fail); (intro _))
      | ((with_reducible refine And.intro ?_ ?_); rotate_left; (with_reducible first | exact tt1 | exact tt2 | exact tt3 | exact tt4 | exact tt5 | fail); (intro _))
      | ((with_reducible apply Exists.intro); (with_reducible apply And.intro); first | ((with_reducible (first | show addT (.int _) (.int _) = some _ | show subT (.int _) (.int _) = some _ | show negT (.int _) = some _ | show ltT (.int _) (.int _) = some _ | show leT (.int _) (.int _) = some _ | show gtT (.int _) (.int _) = some _ | show geT (.int _) (.int _) = some _ | show intT [.int _] = some _ | show max2T [.int _, .int _] = some _ | show min2T [.int _, .int _] = some _ | show absT [.int _] = some _ | show eqT (.int _) (.int _) = some _ | show neT (.int _) (.int _) = some _ | show T.bl _ = T.bl _ | show T.int _ = T.int _)); exact rfl) | ((with_reducible (first | show isiT _ _ = some _ | show isT _ _ = some _ | show isNT _ _ = some _ | show isisT _ _ = some _)); first | exact (rfl : _ = some (T.bl true)) | exact (rfl : _ = some (T.bl false)) | exact rfl) | fail)
      | fail)
      exact ⟨by show 0 ≤ LIM; decide, _, eqT_row [] [], q⟩
theorem check_round_ok {r : List Int} (h1 : 1 ≤ r.length) (h2 : r.length ≤ 60) (hb : Bits r) (q : χ .non []) : WR (m_check_round [rowT r]) χ ζ := by
  refine WR_fn ?_
  try simp only [List.map_cons, List.map_nil, List.cons_append, List.nil_append, List.length_cons, List.length_nil, Nat.zero_add, Nat.reduceAdd, Nat.reduceSub, Nat.sub_self, List.replicate_zero, List.replicate_succ, List.append_nil, List.set_cons_zero, List.set_cons_succ]
  repeat' (first
      | with_reducible (first | refine WS_seq ?_ | refine WS_set ?_ | refine WS_ret ?_ | refine WS_if ?_ | refine WS_drop ?_ | refine WS_nx ?_ | refine WE_bin ?_ | refine WE_cons ?_ | refine WE_nil ?_ | refine WE_k ?_ | refine WE_app ?_ | refine WE_un ?_ | refine WE_B ?_ | refine WE_notC ?_ | refine WE_call ?_ | refine WE_callK ?_ | refine WE_lst ?_ | refine WE_tup ?_ | refine WE_chain ?_ | refine WE_andV ?_ | refine WE_orV ?_ | refine WE_notV ?_ | refine WE_andC ?_ | refine WE_orC ?_ | refine WE_if ?_ | refine WS_par2 ?_ | refine WS_par3 ?_ | refine WE_rg1 ?_ | refine WE_rg2 ?_ | refine WE_items ?_ | refine WE_enum ?_ | refine WE_zip ?_ | refine WE_revd ?_ | refine WE_callG ?_ | refine WS_put ?_ | refine WS_app ?_ | refine WE_pix ?_ | refine WE_sl ?_ | refine WE_p0 ?_ | refine WE_p1 ?_ | refine WE_true ?_ | refine WE_bor ?_ | refine WE_borC ?_ | refine WE_mt ?_ | refine WS_asg ?_) | ((with_reducible apply WE_var); (case h => exact rfl))
      | ((with_reducible refine And.intro ?_ ?_); (with_reducible first | exact ff1 | exact ff2 | exact ff3 | exact ff4 | exact ff5 | fail); (intro _))
      | ((with_reducible refine And.intro ?_ ?_); rotate_left; (with_reducible first | exact tt1 | exact tt2 | exact tt3 | exact tt4 | exact tt5 | fail); (intro _))
      | ((with_reducible apply Exists.intro); (with_reducible apply And.intro); first | ((with_reducible (first | show addT (.int _) (.int _) = some _ | show subT (.int _) (.int _) = some _ | show negT (.int _) = some _ | show ltT (.int _) (.int _) = some _ | show leT (.int _) (.int _) = some _ | show gtT (.int _) (.int _) = some _ | show geT (.int _) (.int _) = some _ | show intT [.int _] = some _ | show max2T [.int _, .int _] = some _ | show min2T [.int _, .int _] = some _ | show absT [.int _] = some _ | show eqT (.int _) (.int _) = some _ | show neT (.int _) (.int _) = some _ | show T.bl _ = T.bl _ | show T.int _ = T.int _)); exact rfl) | ((with_reducible (first | show isiT _ _ = some _ | show isT _ _ = some _ | show isNT _ _ = some _ | show isisT _ _ = some _)); first | exact (rfl : _ = some (T.bl true)) | exact (rfl : _ = some (T.bl false)) | exact rfl) | fail)
      | fail)
  refine is_row_ok h2 hb ?_
  repeat' (first
      | with_reducible (first | refine WS_seq ?_ | refine WS_set ?_ | refine WS_ret ?_ | refine WS_if ?_ | refine WS_drop ?_ | refine WS_nx ?_ | refine WE_bin ?_ | refine WE_cons ?_ | refine WE_nil ?_ | refine WE_k ?_ | refine WE_app ?_ | refine WE_un ?_ | refine WE_B ?_ | refine WE_notC ?_ | refine WE_call ?_ | refine WE_callK ?_ | refine WE_lst ?_ | refine WE_tup ?_ | refine WE_chain ?_ | refine WE_andV ?_ | refine WE_orV ?_ | refine WE_notV ?_ | refine WE_andC ?_ | refine WE_orC ?_ | refine WE_if ?_ | refine WS_par2 ?_ | refine WS_par3 ?_ | refine WE_rg1 ?_ | refine WE_rg2 ?_ | refine WE_items ?_ | refine WE_enum ?_ | refine WE_zip ?_ | refine WE_revd ?_ | refine WE_callG ?_ | refine WS_put ?_ | refine WS_app ?_ | refine WE_pix ?_ | refine WE_sl ?_ | refine WE_p0 ?_ | refine WE_p1 ?_ | refine WE_true ?_ | refine WE_bor ?_ | refine WE_borC ?_ | refine WE_mt ?_ | refine WS_asg ?_) | ((with_reducible apply WE_var); (case h => exact rfl))
      | ((with_reducible refine And.intro ?_ ?_); (with_reducible first | exact ff1 | exact ff2 | exact ff3 | exact ff4 | exact ff5 | fail); (intro _))
      | ((with_reducible refine And.intro ?_ ?_); rotate_left; (with_reducible first | exact tt1 | exact tt2 | exact tt3 | exact tt4 | exact tt5 | fail); (intro _))
      | ((with_reducible apply Exists.intro); (with_reducible apply And.intro); first | ((with_reducible (first | show addT (.int _) (.int _) = some _ | show subT (.int _) (.int _) = some _ | show negT (.int _) = some _ | show ltT (.int _) (.int _) = some _ | show leT (.int _) (.int _) = some _ | show gtT (.int _) (.int _) = some _ | show geT (.int _) (.int _) = some _ | show intT [.int _] = some _ | show max2T [.int _, .int _] = some _ | show min2T [.int _, .int _] = some _ | show absT [.int _] = some _ | show eqT (.int _) (.int _) = some _ | show neT (.int _) (.int _) = some _ | show T.bl _ = T.bl _ | show T.int _ = T.int _)); exact rfl) | ((with_reducible (first | show isiT _ _ = some _ | show isT _ _ = some _ | show isNT _ _ = some _ | show isisT _ _ = some _)); first | exact (rfl : _ = some (T.bl true)) | exact (rfl : _ = some (T.bl false)) | exact rfl) | fail)
      | fail)
  refine ⟨by show 0 ≤ LIM; decide, _, eqT_row r [], ?_⟩
  repeat' (first
      | with_reducible (first | refine WS_seq ?_ | refine WS_set ?_ | refine WS_ret ?_ | refine WS_if ?_ | refine WS_drop ?_ | refine WS_nx ?_ | refine WE_bin ?_ | refine WE_cons ?_ | refine WE_nil ?_ | refine WE_k ?_ | refine WE_app ?_ | refine WE_un ?_ | refine WE_B ?_ | refine WE_notC ?_ | refine WE_call ?_ | refine WE_callK ?_ | refine WE_lst ?_ | refine WE_tup ?_ | refine WE_chain ?_ | refine WE_andV ?_ | refine WE_orV ?_ | refine WE_notV ?_ | refine WE_andC ?_ | refine WE_orC ?_ | refine WE_if ?_ | refine WS_par2 ?_ | refine WS_par3 ?_ | refine WE_rg1 ?_ | refine WE_rg2 ?_ | refine WE_items ?_ | refine WE_enum ?_ | refine WE_zip ?_ | refine WE_revd ?_ | refine WE_callG ?_ | refine WS_put ?_ | refine WS_app ?_ | refine WE_pix ?_ | refine WE_sl ?_ | refine WE_p0 ?_ | refine WE_p1 ?_ | refine WE_true ?_ | refine WE_bor ?_ | refine WE_borC ?_ | refine WE_mt ?_ | refine WS_asg ?_) | ((with_reducible apply WE_var); (case h => exact rfl))
      | ((with_reducible refine And.intro ?_ ?_); (with_reducible first | exact ff1 | exact ff2 | exact ff3 | exact ff4 | exact ff5 | fail); (intro _))
      | ((with_reducible refine And.intro ?_ ?_); rotate_left; (with_reducible first | exact tt1 | exact tt2 | exact tt3 | exact tt4 | exact tt5 | fail); (intro _))
      | ((with_reducible apply Exists.intro); (with_reducible apply And.intro); first | ((with_reducible (first | show addT (.int _) (.int _) = some _ | show subT (.int _) (.int _) = some _ | show negT (.int _) = some _ | show ltT (.int _) (.int _) = some _ | show leT (.int _) (.int _) = some _ | show gtT (.int _) (.int _) = some _ | show geT (.int _) (.int _) = some _ | show intT [.int _] = some _ | show max2T [.int _, .int _] = some _ | show min2T [.int _, .int _] = some _ | show absT [.int _] = some _ | show eqT (.int _) (.int _) = some _ | show neT (.int _) (.int _) = some _ | show T.bl _ = T.bl _ | show T.int _ = T.int _)); exact rfl) | ((with_reducible (first | show isiT _ _ = some _ | show isT _ _ = some _ | show isNT _ _ = some _ | show isisT _ _ = some _)); first | exact (rfl : _ = some (T.bl true)) | exact (rfl : _ = some (T.bl false)) | exact rfl) | fail)
      | fail)
  refine ⟨fun hz => ?_, fun _ => ?_⟩
  · have := of_decide_eq_true hz
    rw [this] at h1
    simp at h1
  · repeat' (first
      | with_reducible (first | refine WS_seq ?_ | refine WS_set ?_ | refine WS_ret ?_ | refine WS_if ?_ | refine WS_drop ?_ | refine WS_nx ?_ | refine WE_bin ?_ | refine WE_cons ?_ | refine WE_nil ?_ | refine WE_k ?_ | refine WE_app ?_ | refine WE_un ?_ | refine WE_B ?_ | refine WE_notC ?_ | refine WE_call ?_ | refine WE_callK ?_ | refine WE_lst ?_ | refine WE_tup ?_ | refine WE_chain ?_ | refine WE_andV ?_ | refine WE_orV ?_ | refine WE_notV ?_ | refine WE_andC ?_ | refine WE_orC ?_ | refine WE_if ?_ | refine WS_par2 ?_ | refine WS_par3 ?_ | refine WE_rg1 ?_ | refine WE_rg2 ?_ | refine WE_items ?_ | refine WE_enum ?_ | refine WE_zip ?_ | refine WE_revd ?_ | refine WE_callG ?_ | refine WS_put ?_ | refine WS_app ?_ | refine WE_pix ?_ | refine WE_sl ?_ | refine WE_p0 ?_ | refine WE_p1 ?_ | refine WE_true ?_ | refine WE_bor ?_ | refine WE_borC ?_ | refine WE_mt ?_ | refine WS_asg ?_) | ((with_reducible apply WE_var); (case h => exact rfl))
      | ((with_reducible refine And.intro ?_ ?_); (with_reducible first | exact ff1 | exact ff2 | exact ff3 | exact ff4 | exact ff5 | fail); (intro _))
      | ((with_reducible refine And.intro ?_ ?_); rotate_left; (with_reducible first | exact tt1 | exact tt2 | exact tt3 | exact tt4 | exact tt5 | fail); (intro _))
      | ((with_reducible apply Exists.intro); (with_reducible apply And.intro); first | ((with_reducible (first | show addT (.int _) (.int _) = some _ | show subT (.int _) (.int _) = some _ | show negT (.int _) = some _ | show ltT (.int _) (.int _) = some _ | show leT (.int _) (.int _) = some _ | show gtT (.int _) (.int _) = some _ | show geT (.int _) (.int _) = some _ | show intT [.int _] = some _ | show max2T [.int _, .int _] = some _ | show min2T [.int _, .int _] = some _ | show absT [.int _] = some _ | show eqT (.int _) (.int _) = some _ | show neT (.int _) (.int _) = some _ | show T.bl _ = T.bl _ | show T.int _ = T.int _)); exact rfl) | ((with_reducible (first | show isiT _ _ = some _ | show isT _ _ = some _ | show isNT _ _ = some _ | show isisT _ _ = some _)); first | exact (rfl : _ = some (T.bl true)) | exact (rfl : _ = some (T.bl false)) | exact rfl) | fail)
      | fail)
    exact q
theorem even_round_ok {r : List Int} (h1 : 1 ≤ r.length) (h2 : r.length ≤ 60) (hb : Bits r) (he : evenB r = true) (q : χ (.bl true) []) : WR (m_is_even_round [rowT r]) χ ζ := by
  refine WR_fn ?_
  try simp only [List.map_cons, List.map_nil, List.cons_append, List.nil_append, List.length_cons, List.length_nil, Nat.zero_add, Nat.reduceAdd, Nat.reduceSub, Nat.sub_self, List.replicate_zero, List.replicate_succ, List.append_nil, List.set_cons_zero, List.set_cons_succ]
  repeat' (first
      | with_reducible (first | refine WS_seq ?_ | refine WS_set ?_ | refine WS_ret ?_ | refine WS_if ?_ | refine WS_drop ?_ | refine WS_nx ?_ | refine WE_bin ?_ | refine WE_cons ?_ | refine WE_nil ?_ | refine WE_k ?_ | refine WE_app ?_ | refine WE_un ?_ | refine WE_B ?_ | refine WE_notC ?_ | refine WE_call ?_ | refine WE_callK ?_ | refine WE_lst ?_ | refine WE_tup ?_ | refine WE_chain ?_ | refine WE_andV ?_ | refine WE_orV ?_ | refine WE_notV ?_ | refine WE_andC ?_ | refine WE_orC ?_ | refine WE_if ?_ | refine WS_par2 ?_ | refine WS_par3 ?_ | refine WE_rg1 ?_ | refine WE_rg2 ?_ | refine WE_items ?_ | refine WE_enum ?_ | refine WE_zip ?_ | refine WE_revd ?_ | refine WE_callG ?_ | refine WS_put ?_ | refine WS_app ?_ | refine WE_pix ?_ | refine WE_sl ?_ | refine WE_p0 ?_ | refine WE_p1 ?_ | refine WE_true ?_ | refine WE_bor ?_ | refine WE_borC ?_ | refine WE_mt ?_ | refine WS_asg ?_) | ((with_reducible apply WE_var); (case h => exact rfl))
      | ((with_reducible refine And.intro ?_ ?_); (with_reducible first | exact ff1 | exact ff2 | exact ff3 | exact ff4 | exact ff5 | fail); (intro _))
      | ((with_reducible refine And.intro ?_ ?_); rotate_left; (with_reducible first | exact tt1 | exact tt2 | exact tt3 | exact tt4 | exact tt5 | fail); (intro _))
      | ((with_reducible apply Exists.intro); (with_reducible apply And.intro); first | ((with_reducible (first | show addT (.int _) (.int _) = some _ | show subT (.int _) (.int _) = some _ | show negT (.int _) = some _ | show ltT (.int _) (.int _) = some _ | show leT (.int _) (.int _) = some _ | show gtT (.int _) (.int _) = some _ | show geT (.int _) (.int _) = some _ | show intT [.int _] = some _ | show max2T [.int _, .int _] = some _ | show min2T [.int _, .int _] = some _ | show absT [.int _] = some _ | show eqT (.int _) (.int _) = some _ | show neT (.int _) (.int _) = some _ | show T.bl _ = T.bl _ | show T.int _ = T.int _)); exact rfl) | ((with_reducible (first | show isiT _ _ = some _ | show isT _ _ = some _ | show isNT _ _ = some _ | show isisT _ _ = some _)); first | exact (rfl : _ = some (T.bl true)) | exact (rfl : _ = some (T.bl false)) | exact rfl) | fail)
      | fail)
  refine check_round_ok h1 h2 hb ?_
  repeat' (first
      | with_reducible (first | refine WS_seq ?_ | refine WS_set ?_ | refine WS_ret ?_ | refine WS_if ?_ | refine WS_drop ?_ | refine WS_nx ?_ | refine WE_bin ?_ | refine WE_cons ?_ | refine WE_nil ?_ | refine WE_k ?_ | refine WE_app ?_ | refine WE_un ?_ | refine WE_B ?_ | refine WE_notC ?_ | refine WE_call ?_ | refine WE_callK ?_ | refine WE_lst ?_ | refine WE_tup ?_ | refine WE_chain ?_ | refine WE_andV ?_ | refine WE_orV ?_ | refine WE_notV ?_ | refine WE_andC ?_ | refine WE_orC ?_ | refine WE_if ?_ | refine WS_par2 ?_ | refine WS_par3 ?_ | refine WE_rg1 ?_ | refine WE_rg2 ?_ | refine WE_items ?_ | refine WE_enum ?_ | refine WE_zip ?_ | refine WE_revd ?_ | refine WE_callG ?_ | refine WS_put ?_ | refine WS_app ?_ | refine WE_pix ?_ | refine WE_sl ?_ | refine WE_p0 ?_ | refine WE_p1 ?_ | refine WE_true ?_ | refine WE_bor ?_ | refine WE_borC ?_ | refine WE_mt ?_ | refine WS_asg ?_) | ((with_reducible apply WE_var); (case h => exact rfl))
      | ((with_reducible refine And.intro ?_ ?_); (with_reducible first | exact ff1 | exact ff2 | exact ff3 | exact ff4 | exact ff5 | fail); (intro _))
      | ((with_reducible refine And.intro ?_ ?_); rotate_left; (with_reducible first | exact tt1 | exact tt2 | exact tt3 | exact tt4 | exact tt5 | fail); (intro _))
      | ((with_reducible apply Exists.intro); (with_reducible apply And.intro); first | ((with_reducible (first | show addT (.int _) (.int _) = some _ | show subT (.int _) (.int _) = some _ | show negT (.int _) = some _ | show ltT (.int _) (.int _) = some _ | show leT (.int _) (.int _) = some _ | show gtT (.int _) (.int _) = some _ | show geT (.int _) (.int _) = some _ | show intT [.int _] = some _ | show max2T [.int _, .int _] = some _ | show min2T [.int _, .int _] = some _ | show absT [.int _] = some _ | show eqT (.int _) (.int _) = some _ | show neT (.int _) (.int _) = some _ | show T.bl _ = T.bl _ | show T.int _ = T.int _)); exact rfl) | ((with_reducible (first | show isiT _ _ = some _ | show isT _ _ = some _ | show isNT _ _ = some _ | show isisT _ _ = some _)); first | exact (rfl : _ = some (T.bl true)) | exact (rfl : _ = some (T.bl false)) | exact rfl) | fail)
      | fail)
  refine found_ok h1 h2 (fun _ => ?_) (fun z => by rw [he] at z; cases z)
  repeat' (first
      | with_reducible (first | refine WS_seq ?_ | refine WS_set ?_ | refine WS_ret ?_ | refine WS_if ?_ | refine WS_drop ?_ | refine WS_nx ?_ | refine WE_bin ?_ | refine WE_cons ?_ | refine WE_nil ?_ | refine WE_k ?_ | refine WE_app ?_ | refine WE_un ?_ | refine WE_B ?_ | refine WE_notC ?_ | refine WE_call ?_ | refine WE_callK ?_ | refine WE_lst ?_ | refine WE_tup ?_ | refine WE_chain ?_ | refine WE_andV ?_ | refine WE_orV ?_ | refine WE_notV ?_ | refine WE_andC ?_ | refine WE_orC ?_ | refine WE_if ?_ | refine WS_par2 ?_ | refine WS_par3 ?_ | refine WE_rg1 ?_ | refine WE_rg2 ?_ | refine WE_items ?_ | refine WE_enum ?_ | refine WE_zip ?_ | refine WE_revd ?_ | refine WE_callG ?_ | refine WS_put ?_ | refine WS_app ?_ | refine WE_pix ?_ | refine WE_sl ?_ | refine WE_p0 ?_ | refine WE_p1 ?_ | refine WE_true ?_ | refine WE_bor ?_ | refine WE_borC ?_ | refine WE_mt ?_ | refine WS_asg ?_) | ((with_reducible apply WE_var); (case h => exact rfl))
      | ((with_reducible refine And.intro ?_ ?_); (with_reducible first | exact ff1 | exact ff2 | exact ff3 | exact ff4 | exact ff5 | fail); (intro _))
      | ((with_reducible refine And.intro ?_ ?_); rotate_left; (with_reducible first | exact tt1 | exact tt2 | exact tt3 | exact tt4 | exact tt5 | fail); (intro _))
      | ((with_reducible apply Exists.intro); (with_reducible apply And.intro); first | ((with_reducible (first | show addT (.int _) (.int _) = some _ | show subT (.int _) (.int _) = some _ | show negT (.int _) = some _ | show ltT (.int _) (.int _) = some _ | show leT (.int _) (.int _) = some _ | show gtT (.int _) (.int _) = some _ | show geT (.int _) (.int _) = some _ | show intT [.int _] = some _ | show max2T [.int _, .int _] = some _ | show min2T [.int _, .int _] = some _ | show absT [.int _] = some _ | show eqT (.int _) (.int _) = some _ | show neT (.int _) (.int _) = some _ | show T.bl _ = T.bl _ | show T.int _ = T.int _)); exact rfl) | ((with_reducible (first | show isiT _ _ = some _ | show isT _ _ = some _ | show isNT _ _ = some _ | show isisT _ _ = some _)); first | exact (rfl : _ = some (T.bl true)) | exact (rfl : _ = some (T.bl false)) | exact rfl) | fail)
      | fail)
  exact q
theorem counts_ok {n k : Int} (n1 : 1 ≤ n) (n2 : n ≤ 60) (k1 : 0 ≤ k) (k2 : k ≤ n) (q : χ .non []) : WR (m_check_counts [.int n, .int k]) χ ζ := by
  refine WR_fn ?_
  try simp only [List.map_cons, List.map_nil, List.cons_append, List.nil_append, List.length_cons, List.length_nil, Nat.zero_add, Nat.reduceAdd, Nat.reduceSub, Nat.sub_self, List.replicate_zero, List.replicate_succ, List.append_nil, List.set_cons_zero, List.set_cons_succ]
  repeat' (first
      | with_reducible (first | refine WS_seq ?_ | refine WS_set ?_ | refine WS_ret ?_ | refine WS_if ?_ | refine WS_drop ?_ | refine WS_nx ?_ | refine WE_bin ?_ | refine WE_cons ?_ | refine WE_nil ?_ | refine WE_k ?_ | refine WE_app ?_ | refine WE_un ?_ | refine WE_B ?_ | refine WE_notC ?_ | refine WE_call ?_ | refine WE_callK ?_ | refine WE_lst ?_ | refine WE_tup ?_ | refine WE_chain ?_ | refine WE_andV ?_ | refine WE_orV ?_ | refine WE_notV ?_ | refine WE_andC ?_ | refine WE_orC ?_ | refine WE_if ?_ | refine WS_par2 ?_ | refine WS_par3 ?_ | refine WE_rg1 ?_ | refine WE_rg2 ?_ | refine WE_items ?_ | refine WE_enum ?_ | refine WE_zip ?_ | refine WE_revd ?_ | refine WE_callG ?_ | refine WS_put ?_ | refine WS_app ?_ | refine WE_pix ?_ | refine WE_sl ?_ | refine WE_p0 ?_ | refine WE_p1 ?_ | refine WE_true ?_ | refine WE_bor ?_ | refine WE_borC ?_ | refine WE_mt ?_ | refine WS_asg ?_) | ((with_reducible apply WE_var); (case h => exact rfl))
      | ((with_reducible refine And.intro ?_ ?_); (with_reducible first | exact ff1 | exact ff2 | exact ff3 | exact ff4 | exact ff5 | fail); (intro _))
      | ((with_reducible refine And.intro ?_ ?_); rotate_left; (with_reducible first | exact tt1 | exact tt2 | exact tt3 | exact tt4 | exact tt5 | fail); (intro _))
      | ((with_reducible apply Exists.intro); (with_reducible apply And.intro); first | ((with_reducible (first | show addT (.int _) (.int _) = some _ | show subT (.int _) (.int _) = some _ | show negT (.int _) = some _ | show ltT (.int _) (.int _) = some _ | show leT (.int _) (.int _) = some _ | show gtT (.int _) (.int _) = some _ | show geT (.int _) (.int _) = some _ | show intT [.int _] = some _ | show max2T [.int _, .int _] = some _ | show min2T [.int _, .int _] = some _ | show absT [.int _] = some _ | show eqT (.int _) (.int _) = some _ | show neT (.int _) (.int _) = some _ | show T.bl _ = T.bl _ | show T.int _ = T.int _)); exact rfl) | ((with_reducible (first | show isiT _ _ = some _ | show isT _ _ = some _ | show isNT _ _ = some _ | show isisT _ _ = some _)); first | exact (rfl : _ = some (T.bl true)) | exact (rfl : _ = some (T.bl false)) | exact rfl) | fail)
      | fail)
  refine WR.of_eq whole_ok ?_
  repeat' (first
      | with_reducible (first | refine WS_seq ?_ | refine WS_set ?_ | refine WS_ret ?_ | refine WS_if ?_ | refine WS_drop ?_ | refine WS_nx ?_ | refine WE_bin ?_ | refine WE_cons ?_ | refine WE_nil ?_ | refine WE_k ?_ | refine WE_app ?_ | refine WE_un ?_ | refine WE_B ?_ | refine WE_notC ?_ | refine WE_call ?_ | refine WE_callK ?_ | refine WE_lst ?_ | refine WE_tup ?_ | refine WE_chain ?_ | refine WE_andV ?_ | refine WE_orV ?_ | refine WE_notV ?_ | refine WE_andC ?_ | refine WE_orC ?_ | refine WE_if ?_ | refine WS_par2 ?_ | refine WS_par3 ?_ | refine WE_rg1 ?_ | refine WE_rg2 ?_ | refine WE_items ?_ | refine WE_enum ?_ | refine WE_zip ?_ | refine WE_revd ?_ | refine WE_callG ?_ | refine WS_put ?_ | refine WS_app ?_ | refine WE_pix ?_ | refine WE_sl ?_ | refine WE_p0 ?_ | refine WE_p1 ?_ | refine WE_true ?_ | refine WE_bor ?_ | refine WE_borC ?_ | refine WE_mt ?_ | refine WS_asg ?_) | ((with_reducible apply WE_var); (case h => exact rfl))
      | ((with_reducible refine And.intro ?_ ?_); (with_reducible first | exact ff1 | exact ff2 | exact ff3 | exact ff4 | exact ff5 | fail); (intro _))
      | ((with_reducible refine And.intro ?_ ?_); rotate_left; (with_reducible first | exact tt1 | exact tt2 | exact tt3 | exact tt4 | exact tt5 | fail); (intro _))
      | ((with_reducible apply Exists.intro); (with_reducible apply And.intro); first | ((with_reducible (first | show addT (.int _) (.int _) = some _ | show subT (.int _) (.int _) = some _ | show negT (.int _) = some _ | show ltT (.int _) (.int _) = some _ | show leT (.int _) (.int _) = some _ | show gtT (.int _) (.int _) = some _ | show geT (.int _) (.int _) = some _ | show intT [.int _] = some _ | show max2T [.int _, .int _] = some _ | show min2T [.int _, .int _] = some _ | show absT [.int _] = some _ | show eqT (.int _) (.int _) = some _ | show neT (.int _) (.int _) = some _ | show T.bl _ = T.bl _ | show T.int _ = T.int _)); exact rfl) | ((with_reducible (first | show isiT _ _ = some _ | show isT _ _ = some _ | show isNT _ _ = some _ | show isisT _ _ = some _)); first | exact (rfl : _ = some (T.bl true)) | exact (rfl : _ = some (T.bl false)) | exact rfl) | fail)
      | fail)
  refine ⟨fun _ => ?_, fun z => ?_⟩
  · repeat' (first
      | with_reducible (first | refine WS_seq ?_ | refine WS_set ?_ | refine WS_ret ?_ | refine WS_if ?_ | refine WS_drop ?_ | refine WS_nx ?_ | refine WE_bin ?_ | refine WE_cons ?_ | refine WE_nil ?_ | refine WE_k ?_ | refine WE_app ?_ | refine WE_un ?_ | refine WE_B ?_ | refine WE_notC ?_ | refine WE_call ?_ | refine WE_callK ?_ | refine WE_lst ?_ | refine WE_tup ?_ | refine WE_chain ?_ | refine WE_andV ?_ | refine WE_orV ?_ | refine WE_notV ?_ | refine WE_andC ?_ | refine WE_orC ?_ | refine WE_if ?_ | refine WS_par2 ?_ | refine WS_par3 ?_ | refine WE_rg1 ?_ | refine WE_rg2 ?_ | refine WE_items ?_ | refine WE_enum ?_ | refine WE_zip ?_ | refine WE_revd ?_ | refine WE_callG ?_ | refine WS_put ?_ | refine WS_app ?_ | refine WE_pix ?_ | refine WE_sl ?_ | refine WE_p0 ?_ | refine WE_p1 ?_ | refine WE_true ?_ | refine WE_bor ?_ | refine WE_borC ?_ | refine WE_mt ?_ | refine WS_asg ?_) | ((with_reducible apply WE_var); (case h => exact rfl))
      | ((with_reducible refine And.intro ?_ ?_); (with_reducible first | exact ff1 | exact ff2 | exact ff3 | exact ff4 | exact ff5 | fail); (intro _))
      | ((with_reducible refine And.intro ?_ ?_); rotate_left; (with_reducible first | exact tt1 | exact tt2 | exact tt3 | exact tt4 | exact tt5 | fail); (intro _))
      | ((with_reducible apply Exists.intro); (with_reducible apply And.intro); first | ((with_reducible (first | show addT (.int _) (.int _) = some _ | show subT (.int _) (.int _) = some _ | show negT (.int _) = some _ | show ltT (.int _) (.int _) = some _ | show leT (.int _) (.int _) = some _ | show gtT (.int _) (.int _) = some _ | show geT (.int _) (.int _) = some _ | show intT [.int _] = some _ | show max2T [.int _, .int _] = some _ | show min2T [.int _, .int _] = some _ | show absT [.int _] = some _ | show eqT (.int _) (.int _) = some _ | show neT (.int _) (.int _) = some _ | show T.bl _ = T.bl _ | show T.int _ = T.int _)); exact rfl) | ((with_reducible (first | show isiT _ _ = some _ | show isT _ _ = some _ | show isNT _ _ = some _ | show isisT _ _ = some _)); first | exact (rfl : _ = some (T.bl true)) | exact (rfl : _ = some (T.bl false)) | exact rfl) | fail)
      | fail)
    refine ⟨fun z => ?_, fun z => ?_⟩
    · simp [n2] at z
    · repeat' (first
      | with_reducible (first | refine WS_seq ?_ | refine WS_set ?_ | refine WS_ret ?_ | refine WS_if ?_ | refine WS_drop ?_ | refine WS_nx ?_ | refine WE_bin ?_ | refine WE_cons ?_ | refine WE_nil ?_ | refine WE_k ?_ | refine WE_app ?_ | refine WE_un ?_ | refine WE_B ?_ | refine WE_notC ?_ | refine WE_call ?_ | refine WE_callK ?_ | refine WE_lst ?_ | refine WE_tup ?_ | refine WE_chain ?_ | refine WE_andV ?_ | refine WE_orV ?_ | refine WE_notV ?_ | refine WE_andC ?_ | refine WE_orC ?_ | refine WE_if ?_ | refine WS_par2 ?_ | refine WS_par3 ?_ | refine WE_rg1 ?_ | refine WE_rg2 ?_ | refine WE_items ?_ | refine WE_enum ?_ | refine WE_zip ?_ | refine WE_revd ?_ | refine WE_callG ?_ | refine WS_put ?_ | refine WS_app ?_ | refine WE_pix ?_ | refine WE_sl ?_ | refine WE_p0 ?_ | refine WE_p1 ?_ | refine WE_true ?_ | refine WE_bor ?_ | refine WE_borC ?_ | refine WE_mt ?_ | refine WS_asg ?_) | ((with_reducible apply WE_var); (case h => exact rfl))
      | ((with_reducible refine And.intro ?_ ?_); (with_reducible first | exact ff1 | exact ff2 | exact ff3 | exact ff4 | exact ff5 | fail); (intro _))
      | ((with_reducible refine And.intro ?_ ?_); rotate_left; (with_reducible first | exact tt1 | exact tt2 | exact tt3 | exact tt4 | exact tt5 | fail); (intro _))
      | ((with_reducible apply Exists.intro); (with_reducible apply And.intro); first | ((with_reducible (first | show addT (.int _) (.int _) = some _ | show subT (.int _) (.int _) = some _ | show negT (.int _) = some _ | show ltT (.int _) (.int _) = some _ | show leT (.int _) (.int _) = some _ | show gtT (.int _) (.int _) = some _ | show geT (.int _) (.int _) = some _ | show intT [.int _] = some _ | show max2T [.int _, .int _] = some _ | show min2T [.int _, .int _] = some _ | show absT [.int _] = some _ | show eqT (.int _) (.int _) = some _ | show neT (.int _) (.int _) = some _ | show T.bl _ = T.bl _ | show T.int _ = T.int _)); exact rfl) | ((with_reducible (first | show isiT _ _ = some _ | show isT _ _ = some _ | show isNT _ _ = some _ | show isisT _ _ = some _)); first | exact (rfl : _ = some (T.bl true)) | exact (rfl : _ = some (T.bl false)) | exact rfl) | fail)
      | fail)
      refine WR.of_eq count_ok ?_
      repeat' (first
      | with_reducible (first | refine WS_seq ?_ | refine WS_set ?_ | refine WS_ret ?_ | refine WS_if ?_ | refine WS_drop ?_ | refine WS_nx ?_ | refine WE_bin ?_ | refine WE_cons ?_ | refine WE_nil ?_ | refine WE_k ?_ | refine WE_app ?_ | refine WE_un ?_ | refine WE_B ?_ | refine WE_notC ?_ | refine WE_call ?_ | refine WE_callK ?_ | refine WE_lst ?_ | refine WE_tup ?_ | refine WE_chain ?_ | refine WE_andV ?_ | refine WE_orV ?_ | refine WE_notV ?_ | refine WE_andC ?_ | refine WE_orC ?_ | refine WE_if ?_ | refine WS_par2 ?_ | refine WS_par3 ?_ | refine WE_rg1 ?_ | refine WE_rg2 ?_ | refine WE_items ?_ | refine WE_enum ?_ | refine WE_zip ?_ | refine WE_revd ?_ | refine WE_callG ?_ | refine WS_put ?_ | refine WS_app ?_ | refine WE_pix ?_ | refine WE_sl ?_ | refine WE_p0 ?_ | refine WE_p1 ?_ | refine WE_true ?_ | refine WE_bor ?_ | refine WE_borC ?_ | refine WE_mt ?_ | refine WS_asg ?_) | ((with_reducible apply WE_var); (case h => exact rfl))
      | ((with_reducible refine And.intro ?_ ?_); (with_reducible first | exact ff1 | exact ff2 | exact ff3 | exact ff4 | exact ff5 | fail); (intro _))
      | ((with_reducible refine And.intro ?_ ?_); rotate_left; (with_reducible first | exact tt1 | exact tt2 | exact tt3 | exact tt4 | exact tt5 | fail); (intro _))
      | ((with_reducible apply Exists.intro); (with_reducible apply And.intro); first | ((with_reducible (first | show addT (.int _) (.int _) = some _ | show subT (.int _) (.int _) = some _ | show negT (.int _) = some _ | show ltT (.int _) (.int _) = some _ | show leT (.int _) (.int _) = some _ | show gtT (.int _) (.int _) = some _ | show geT (.int _) (.int _) = some _ | show intT [.int _] = some _ | show max2T [.int _, .int _] = some _ | show min2T [.int _, .int _] = some _ | show absT [.int _] = some _ | show eqT (.int _) (.int _) = some _ | show neT (.int _) (.int _) = some _ | show T.bl _ = T.bl _ | show T.int _ = T.int _)); exact rfl) | ((with_reducible (first | show isiT _ _ = some _ | show isT _ _ = some _ | show isNT _ _ = some _ | show isisT _ _ = some _)); first | exact (rfl : _ = some (T.bl true)) | exact (rfl : _ = some (T.bl false)) | exact rfl) | fail)
      | fail)
      refine ⟨fun z => ?_, fun z => ?_⟩
      · simp [k1] at z
      · repeat' (first
      | with_reducible (first | refine WS_seq ?_ | refine WS_set ?_ | refine WS_ret ?_ | refine WS_if ?_ | refine WS_drop ?_ | refine WS_nx ?_ | refine WE_bin ?_ | refine WE_cons ?_ | refine WE_nil ?_ | refine WE_k ?_ | refine WE_app ?_ | refine WE_un ?_ | refine WE_B ?_ | refine WE_notC ?_ | refine WE_call ?_ | refine WE_callK ?_ | refine WE_lst ?_ | refine WE_tup ?_ | refine WE_chain ?_ | refine WE_andV ?_ | refine WE_orV ?_ | refine WE_notV ?_ | refine WE_andC ?_ | refine WE_orC ?_ | refine WE_if ?_ | refine WS_par2 ?_ | refine WS_par3 ?_ | refine WE_rg1 ?_ | refine WE_rg2 ?_ | refine WE_items ?_ | refine WE_enum ?_ | refine WE_zip ?_ | refine WE_revd ?_ | refine WE_callG ?_ | refine WS_put ?_ | refine WS_app ?_ | refine WE_pix ?_ | refine WE_sl ?_ | refine WE_p0 ?_ | refine WE_p1 ?_ | refine WE_true ?_ | refine WE_bor ?_ | refine WE_borC ?_ | refine WE_mt ?_ | refine WS_asg ?_) | ((with_reducible apply WE_var); (case h => exact rfl))
      | ((with_reducible refine And.intro ?_ ?_); (with_reducible first | exact ff1 | exact ff2 | exact ff3 | exact ff4 | exact ff5 | fail); (intro _))
      | ((with_reducible refine And.intro ?_ ?_); rotate_left; (with_reducible first | exact tt1 | exact tt2 | exact tt3 | exact tt4 | exact tt5 | fail); (intro _))
      | ((with_reducible apply Exists.intro); (with_reducible apply And.intro); first | ((with_reducible (first | show addT (.int _) (.int _) = some _ | show subT (.int _) (.int _) = some _ | show negT (.int _) = some _ | show ltT (.int _) (.int _) = some _ | show leT (.int _) (.int _) = some _ | show gtT (.int _) (.int _) = some _ | show geT (.int _) (.int _) = some _ | show intT [.int _] = some _ | show max2T [.int _, .int _] = some _ | show min2T [.int _, .int _] = some _ | show absT [.int _] = some _ | show eqT (.int _) (.int _) = some _ | show neT (.int _) (.int _) = some _ | show T.bl _ = T.bl _ | show T.int _ = T.int _)); exact rfl) | ((with_reducible (first | show isiT _ _ = some _ | show isT _ _ = some _ | show isNT _ _ = some _ | show isisT _ _ = some _)); first | exact (rfl : _ = some (T.bl true)) | exact (rfl : _ = some (T.bl false)) | exact rfl) | fail)
      | fail)
        refine ⟨fun z => ?_, fun z => ?_⟩
        · have := of_decide_eq_true z
          omega
        · repeat' (first
      | with_reducible (first | refine WS_seq ?_ | refine WS_set ?_ | refine WS_ret ?_ | refine WS_if ?_ | refine WS_drop ?_ | refine WS_nx ?_ | refine WE_bin ?_ | refine WE_cons ?_ | refine WE_nil ?_ | refine WE_k ?_ | refine WE_app ?_ | refine WE_un ?_ | refine WE_B ?_ | refine WE_notC ?_ | refine WE_call ?_ | refine WE_callK ?_ | refine WE_lst ?_ | refine WE_tup ?_ | refine WE_chain ?_ | refine WE_andV ?_ | refine WE_orV ?_ | refine WE_notV ?_ | refine WE_andC ?_ | refine WE_orC ?_ | refine WE_if ?_ | refine WS_par2 ?_ | refine WS_par3 ?_ | refine WE_rg1 ?_ | refine WE_rg2 ?_ | refine WE_items ?_ | refine WE_enum ?_ | refine WE_zip ?_ | refine WE_revd ?_ | refine WE_callG ?_ | refine WS_put ?_ | refine WS_app ?_ | refine WE_pix ?_ | refine WE_sl ?_ | refine WE_p0 ?_ | refine WE_p1 ?_ | refine WE_true ?_ | refine WE_bor ?_ | refine WE_borC ?_ | refine WE_mt ?_ | refine WS_asg ?_) | ((with_reducible apply WE_var); (case h => exact rfl))
      | ((with_reducible refine And.intro ?_ ?_); (with_reducible first | exact ff1 | exact ff2 | exact ff3 | exact ff4 | exact ff5 | fail); (intro _))
      | ((with_reducible refine And.intro ?_ ?_); rotate_left; (with_reducible first | exact tt1 | exact tt2 | exact tt3 | exact tt4 | exact tt5 | fail); (intro _))
      | ((with_reducible apply Exists.intro); (with_reducible apply And.intro); first | ((with_reducible (first | show addT (.int _) (.int _) = some _ | show subT (.int _) (.int _) = some _ | show negT (.int _) = some _ | show ltT (.int _) (.int _) = some _ | show leT (.int _) (.int _) = some _ | show gtT (.int _) (.int _) = some _ | show geT (.int _) (.int _) = some _ | show intT [.int _] = some _ | show max2T [.int _, .int _] = some _ | show min2T [.int _, .int _] = some _ | show absT [.int _] = some _ | show eqT (.int _) (.int _) = some _ | show neT (.int _) (.int _) = some _ | show T.bl _ = T.bl _ | show T.int _ = T.int _)); exact rfl) | ((with_reducible (first | show isiT _ _ = some _ | show isT _ _ = some _ | show isNT _ _ = some _ | show isisT _ _ = some _)); first | exact (rfl : _ = some (T.bl true)) | exact (rfl : _ = some (T.bl false)) | exact rfl) | fail)
      | fail)
          exact q
  · simp [n1] at z
theorem spread_ok {n k : Int} (n1 : 1 ≤ n) (n2 : n ≤ 60) (k1 : 0 ≤ k) (k2 : k ≤ n) (q : χ (rowT (rnd n k)) []) : WR (m_spread [.int n, .int k]) χ ζ := by
  refine WR_fn ?_
  try simp only [List.map_cons, List.map_nil, List.cons_append, List.nil_append, List.length_cons, List.length_nil, Nat.zero_add, Nat.reduceAdd, Nat.reduceSub, Nat.sub_self, List.replicate_zero, List.replicate_succ, List.append_nil, List.set_cons_zero, List.set_cons_succ]
  repeat' (first
      | with_reducible (first | refine WS_seq ?_ | refine WS_set ?_ | refine WS_ret ?_ | refine WS_if ?_ | refine WS_drop ?_ | refine WS_nx ?_ | refine WE_bin ?_ | refine WE_cons ?_ | refine WE_nil ?_ | refine WE_k ?_ | refine WE_app ?_ | refine WE_un ?_ | refine WE_B ?_ | refine WE_notC ?_ | refine WE_call ?_ | refine WE_callK ?_ | refine WE_lst ?_ | refine WE_tup ?_ | refine WE_chain ?_ | refine WE_andV ?_ | refine WE_orV ?_ | refine WE_notV ?_ | refine WE_andC ?_ | refine WE_orC ?_ | refine WE_if ?_ | refine WS_par2 ?_ | refine WS_par3 ?_ | refine WE_rg1 ?_ | refine WE_rg2 ?_ | refine WE_items ?_ | refine WE_enum ?_ | refine WE_zip ?_ | refine WE_revd ?_ | refine WE_callG ?_ | refine WS_put ?_ | refine WS_app ?_ | refine WE_pix ?_ | refine WE_sl ?_ | refine WE_p0 ?_ | refine WE_p1 ?_ | refine WE_true ?_ | refine WE_bor ?_ | refine WE_borC ?_ | refine WE_mt ?_ | refine WS_asg ?_) | ((with_reducible apply WE_var); (case h => exact rfl))
      | ((with_reducible refine And.intro ?_ ?_); (with_reducible first | exact ff1 | exact ff2 | exact ff3 | exact ff4 | exact ff5 | fail); (intro _))
      | ((with_reducible refine And.intro ?_ ?_); rotate_left; (with_reducible first | exact tt1 | exact tt2 | exact tt3 | exact tt4 | exact tt5 | fail); (intro _))
      | ((with_reducible apply Exists.intro); (with_reducible apply And.intro); first | ((with_reducible (first | show addT (.int _) (.int _) = some _ | show subT (.int _) (.int _) = some _ | show negT (.int _) = some _ | show ltT (.int _) (.int _) = some _ | show leT (.int _) (.int _) = some _ | show gtT (.int _) (.int _) = some _ | show geT (.int _) (.int _) = some _ | show intT [.int _] = some _ | show max2T [.int _, .int _] = some _ | show min2T [.int _, .int _] = some _ | show absT [.int _] = some _ | show eqT (.int _) (.int _) = some _ | show neT (.int _) (.int _) = some _ | show T.bl _ = T.bl _ | show T.int _ = T.int _)); exact rfl) | ((with_reducible (first | show isiT _ _ = some _ | show isT _ _ = some _ | show isNT _ _ = some _ | show isisT _ _ = some _)); first | exact (rfl : _ = some (T.bl true)) | exact (rfl : _ = some (T.bl false)) | exact rfl) | fail)
      | fail)
  refine WE_lcM .int (rangeI 0 n) (fun _ => true) (fun i => .int (k * (i + 1) / n - k * i / n)) ?_
  repeat' (first
      | with_reducible (first | refine WS_seq ?_ | refine WS_set ?_ | refine WS_ret ?_ | refine WS_if ?_ | refine WS_drop ?_ | refine WS_nx ?_ | refine WE_bin ?_ | refine WE_cons ?_ | refine WE_nil ?_ | refine WE_k ?_ | refine WE_app ?_ | refine WE_un ?_ | refine WE_B ?_ | refine WE_notC ?_ | refine WE_call ?_ | refine WE_callK ?_ | refine WE_lst ?_ | refine WE_tup ?_ | refine WE_chain ?_ | refine WE_andV ?_ | refine WE_orV ?_ | refine WE_notV ?_ | refine WE_andC ?_ | refine WE_orC ?_ | refine WE_if ?_ | refine WS_par2 ?_ | refine WS_par3 ?_ | refine WE_rg1 ?_ | refine WE_rg2 ?_ | refine WE_items ?_ | refine WE_enum ?_ | refine WE_zip ?_ | refine WE_revd ?_ | refine WE_callG ?_ | refine WS_put ?_ | refine WS_app ?_ | refine WE_pix ?_ | refine WE_sl ?_ | refine WE_p0 ?_ | refine WE_p1 ?_ | refine WE_true ?_ | refine WE_bor ?_ | refine WE_borC ?_ | refine WE_mt ?_ | refine WS_asg ?_) | ((with_reducible apply WE_var); (case h => exact rfl))
      | ((with_reducible refine And.intro ?_ ?_); (with_reducible first | exact ff1 | exact ff2 | exact ff3 | exact ff4 | exact ff5 | fail); (intro _))
      | ((with_reducible refine And.intro ?_ ?_); rotate_left; (with_reducible first | exact tt1 | exact tt2 | exact tt3 | exact tt4 | exact tt5 | fail); (intro _))
      | ((with_reducible apply Exists.intro); (with_reducible apply And.intro); first | ((with_reducible (first | show addT (.int _) (.int _) = some _ | show subT (.int _) (.int _) = some _ | show negT (.int _) = some _ | show ltT (.int _) (.int _) = some _ | show leT (.int _) (.int _) = some _ | show gtT (.int _) (.int _) = some _ | show geT (.int _) (.int _) = some _ | show intT [.int _] = some _ | show max2T [.int _, .int _] = some _ | show min2T [.int _, .int _] = some _ | show absT [.int _] = some _ | show eqT (.int _) (.int _) = some _ | show neT (.int _) (.int _) = some _ | show T.bl _ = T.bl _ | show T.int _ = T.int _)); exact rfl) | ((with_reducible (first | show isiT _ _ = some _ | show isT _ _ = some _ | show isNT _ _ = some _ | show isisT _ _ = some _)); first | exact (rfl : _ = some (T.bl true)) | exact (rfl : _ = some (T.bl false)) | exact rfl) | fail)
      | fail)
  refine ⟨_, rfl, lim62_of (by omega) (by omega), rangeT_I _ _, by rw [rangeI_len]; omega, (fun k hk => by rw [List.mem_singleton.mp hk]; show 2 < 3; decide), fun i hi => ?_, ?_⟩
  · obtain ⟨h3, h4⟩ := rangeI_mem.mp hi
    refine ⟨_, rfl, WE_true ⟨rfl, (fun h => nomatch h), fun _ => ?_⟩⟩
    repeat' (first
      | with_reducible (first | refine WS_seq ?_ | refine WS_set ?_ | refine WS_ret ?_ | refine WS_if ?_ | refine WS_drop ?_ | refine WS_nx ?_ | refine WE_bin ?_ | refine WE_cons ?_ | refine WE_nil ?_ | refine WE_k ?_ | refine WE_app ?_ | refine WE_un ?_ | refine WE_B ?_ | refine WE_notC ?_ | refine WE_call ?_ | refine WE_callK ?_ | refine WE_lst ?_ | refine WE_tup ?_ | refine WE_chain ?_ | refine WE_andV ?_ | refine WE_orV ?_ | refine WE_notV ?_ | refine WE_andC ?_ | refine WE_orC ?_ | refine WE_if ?_ | refine WS_par2 ?_ | refine WS_par3 ?_ | refine WE_rg1 ?_ | refine WE_rg2 ?_ | refine WE_items ?_ | refine WE_enum ?_ | refine WE_zip ?_ | refine WE_revd ?_ | refine WE_callG ?_ | refine WS_put ?_ | refine WS_app ?_ | refine WE_pix ?_ | refine WE_sl ?_ | refine WE_p0 ?_ | refine WE_p1 ?_ | refine WE_true ?_ | refine WE_bor ?_ | refine WE_borC ?_ | refine WE_mt ?_ | refine WS_asg ?_) | ((with_reducible apply WE_var); (case h => exact rfl))
      | ((with_reducible refine And.intro ?_ ?_); (with_reducible first | exact ff1 | exact ff2 | exact ff3 | exact ff4 | exact ff5 | fail); (intro _))
      | ((with_reducible refine And.intro ?_ ?_); rotate_left; (with_reducible first | exact tt1 | exact tt2 | exact tt3 | exact tt4 | exact tt5 | fail); (intro _))
      | ((with_reducible apply Exists.intro); (with_reducible apply And.intro); first | ((with_reducible (first | show addT (.int _) (.int _) = some _ | show subT (.int _) (.int _) = some _ | show negT (.int _) = some _ | show ltT (.int _) (.int _) = some _ | show leT (.int _) (.int _) = some _ | show gtT (.int _) (.int _) = some _ | show geT (.int _) (.int _) = some _ | show intT [.int _] = some _ | show max2T [.int _, .int _] = some _ | show min2T [.int _, .int _] = some _ | show absT [.int _] = some _ | show eqT (.int _) (.int _) = some _ | show neT (.int _) (.int _) = some _ | show T.bl _ = T.bl _ | show T.int _ = T.int _)); exact rfl) | ((with_reducible (first | show isiT _ _ = some _ | show isT _ _ = some _ | show isNT _ _ = some _ | show isisT _ _ = some _)); first | exact (rfl : _ = some (T.bl true)) | exact (rfl : _ = some (T.bl false)) | exact rfl) | fail)
      | fail)
    refine ⟨_, mulT_of (by omega) (by omega) (by omega) (by omega), ?_⟩
    repeat' (first
      | with_reducible (first | refine WS_seq ?_ | refine WS_set ?_ | refine WS_ret ?_ | refine WS_if ?_ | refine WS_drop ?_ | refine WS_nx ?_ | refine WE_bin ?_ | refine WE_cons ?_ | refine WE_nil ?_ | refine WE_k ?_ | refine WE_app ?_ | refine WE_un ?_ | refine WE_B ?_ | refine WE_notC ?_ | refine WE_call ?_ | refine WE_callK ?_ | refine WE_lst ?_ | refine WE_tup ?_ | refine WE_chain ?_ | refine WE_andV ?_ | refine WE_orV ?_ | refine WE_notV ?_ | refine WE_andC ?_ | refine WE_orC ?_ | refine WE_if ?_ | refine WS_par2 ?_ | refine WS_par3 ?_ | refine WE_rg1 ?_ | refine WE_rg2 ?_ | refine WE_items ?_ | refine WE_enum ?_ | refine WE_zip ?_ | refine WE_revd ?_ | refine WE_callG ?_ | refine WS_put ?_ | refine WS_app ?_ | refine WE_pix ?_ | refine WE_sl ?_ | refine WE_p0 ?_ | refine WE_p1 ?_ | refine WE_true ?_ | refine WE_bor ?_ | refine WE_borC ?_ | refine WE_mt ?_ | refine WS_asg ?_) | ((with_reducible apply WE_var); (case h => exact rfl))
      | ((with_reducible refine And.intro ?_ ?_); (with_reducible first | exact ff1 | exact ff2 | exact ff3 | exact ff4 | exact ff5 | fail); (intro _))
      | ((with_reducible refine And.intro ?_ ?_); rotate_left; (with_reducible first | exact tt1 | exact tt2 | exact tt3 | exact tt4 | exact tt5 | fail); (intro _))
      | ((with_reducible apply Exists.intro); (with_reducible apply And.intro); first | ((with_reducible (first | show addT (.int _) (.int _) = some _ | show subT (.int _) (.int _) = some _ | show negT (.int _) = some _ | show ltT (.int _) (.int _) = some _ | show leT (.int _) (.int _) = some _ | show gtT (.int _) (.int _) = some _ | show geT (.int _) (.int _) = some _ | show intT [.int _] = some _ | show max2T [.int _, .int _] = some _ | show min2T [.int _, .int _] = some _ | show absT [.int _] = some _ | show eqT (.int _) (.int _) = some _ | show neT (.int _) (.int _) = some _ | show T.bl _ = T.bl _ | show T.int _ = T.int _)); exact rfl) | ((with_reducible (first | show isiT _ _ = some _ | show isT _ _ = some _ | show isNT _ _ = some _ | show isisT _ _ = some _)); first | exact (rfl : _ = some (T.bl true)) | exact (rfl : _ = some (T.bl false)) | exact rfl) | fail)
      | fail)
    refine ⟨_, fdivT_of (by omega) (by omega), ?_⟩
    repeat' (first
      | with_reducible (first | refine WS_seq ?_ | refine WS_set ?_ | refine WS_ret ?_ | refine WS_if ?_ | refine WS_drop ?_ | refine WS_nx ?_ | refine WE_bin ?_ | refine WE_cons ?_ | refine WE_nil ?_ | refine WE_k ?_ | refine WE_app ?_ | refine WE_un ?_ | refine WE_B ?_ | refine WE_notC ?_ | refine WE_call ?_ | refine WE_callK ?_ | refine WE_lst ?_ | refine WE_tup ?_ | refine WE_chain ?_ | refine WE_andV ?_ | refine WE_orV ?_ | refine WE_notV ?_ | refine WE_andC ?_ | refine WE_orC ?_ | refine WE_if ?_ | refine WS_par2 ?_ | refine WS_par3 ?_ | refine WE_rg1 ?_ | refine WE_rg2 ?_ | refine WE_items ?_ | refine WE_enum ?_ | refine WE_zip ?_ | refine WE_revd ?_ | refine WE_callG ?_ | refine WS_put ?_ | refine WS_app ?_ | refine WE_pix ?_ | refine WE_sl ?_ | refine WE_p0 ?_ | refine WE_p1 ?_ | refine WE_true ?_ | refine WE_bor ?_ | refine WE_borC ?_ | refine WE_mt ?_ | refine WS_asg ?_) | ((with_reducible apply WE_var); (case h => exact rfl))
      | ((with_reducible refine And.intro ?_ ?_); (with_reducible first | exact ff1 | exact ff2 | exact ff3 | exact ff4 | exact ff5 | fail); (intro _))
      | ((with_reducible refine And.intro ?_ ?_); rotate_left; (with_reducible first | exact tt1 | exact tt2 | exact tt3 | exact tt4 | exact tt5 | fail); (intro _))
      | ((with_reducible apply Exists.intro); (with_reducible apply And.intro); first | ((with_reducible (first | show addT (.int _) (.int _) = some _ | show subT (.int _) (.int _) = some _ | show negT (.int _) = some _ | show ltT (.int _) (.int _) = some _ | show leT (.int _) (.int _) = some _ | show gtT (.int _) (.int _) = some _ | show geT (.int _) (.int _) = some _ | show intT [.int _] = some _ | show max2T [.int _, .int _] = some _ | show min2T [.int _, .int _] = some _ | show absT [.int _] = some _ | show eqT (.int _) (.int _) = some _ | show neT (.int _) (.int _) = some _ | show T.bl _ = T.bl _ | show T.int _ = T.int _)); exact rfl) | ((with_reducible (first | show isiT _ _ = some _ | show isT _ _ = some _ | show isNT _ _ = some _ | show isisT _ _ = some _)); first | exact (rfl : _ = some (T.bl true)) | exact (rfl : _ = some (T.bl false)) | exact rfl) | fail)
      | fail)
    refine ⟨_, mulT_of (by omega) (by omega) (by omega) (by omega), ?_⟩
    repeat' (first
      | with_reducible (first | refine WS_seq ?_ | refine WS_set ?_ | refine WS_ret ?_ | refine WS_if ?_ | refine WS_drop ?_ | refine WS_nx ?_ | refine WE_bin ?_ | refine WE_cons ?_ | refine WE_nil ?_ | refine WE_k ?_ | refine WE_app ?_ | refine WE_un ?_ | refine WE_B ?_ | refine WE_notC ?_ | refine WE_call ?_ | refine WE_callK ?_ | refine WE_lst ?_ | refine WE_tup ?_ | refine WE_chain ?_ | refine WE_andV ?_ | refine WE_orV ?_ | refine WE_notV ?_ | refine WE_andC ?_ | refine WE_orC ?_ | refine WE_if ?_ | refine WS_par2 ?_ | refine WS_par3 ?_ | refine WE_rg1 ?_ | refine WE_rg2 ?_ | refine WE_items ?_ | refine WE_enum ?_ | refine WE_zip ?_ | refine WE_revd ?_ | refine WE_callG ?_ | refine WS_put ?_ | refine WS_app ?_ | refine WE_pix ?_ | refine WE_sl ?_ | refine WE_p0 ?_ | refine WE_p1 ?_ | refine WE_true ?_ | refine WE_bor ?_ | refine WE_borC ?_ | refine WE_mt ?_ | refine WS_asg ?_) | ((with_reducible apply WE_var); (case h => exact rfl))
      | ((with_reducible refine And.intro ?_ ?_); (with_reducible first | exact ff1 | exact ff2 | exact ff3 | exact ff4 | exact ff5 | fail); (intro _))
      | ((with_reducible refine And.intro ?_ ?_); rotate_left; (with_reducible first | exact tt1 | exact tt2 | exact tt3 | exact tt4 | exact tt5 | fail); (intro _))
      | ((with_reducible apply Exists.intro); (with_reducible apply And.intro); first | ((with_reducible (first | show addT (.int _) (.int _) = some _ | show subT (.int _) (.int _) = some _ | show negT (.int _) = some _ | show ltT (.int _) (.int _) = some _ | show leT (.int _) (.int _) = some _ | show gtT (.int _) (.int _) = some _ | show geT (.int _) (.int _) = some _ | show intT [.int _] = some _ | show max2T [.int _, .int _] = some _ | show min2T [.int _, .int _] = some _ | show absT [.int _] = some _ | show eqT (.int _) (.int _) = some _ | show neT (.int _) (.int _) = some _ | show T.bl _ = T.bl _ | show T.int _ = T.int _)); exact rfl) | ((with_reducible (first | show isiT _ _ = some _ | show isT _ _ = some _ | show isNT _ _ = some _ | show isisT _ _ = some _)); first | exact (rfl : _ = some (T.bl true)) | exact (rfl : _ = some (T.bl false)) | exact rfl) | fail)
      | fail)
    refine ⟨_, fdivT_of (by omega) (by omega), ?_⟩
    repeat' (first
      | with_reducible (first | refine WS_seq ?_ | refine WS_set ?_ | refine WS_ret ?_ | refine WS_if ?_ | refine WS_drop ?_ | refine WS_nx ?_ | refine WE_bin ?_ | refine WE_cons ?_ | refine WE_nil ?_ | refine WE_k ?_ | refine WE_app ?_ | refine WE_un ?_ | refine WE_B ?_ | refine WE_notC ?_ | refine WE_call ?_ | refine WE_callK ?_ | refine WE_lst ?_ | refine WE_tup ?_ | refine WE_chain ?_ | refine WE_andV ?_ | refine WE_orV ?_ | refine WE_notV ?_ | refine WE_andC ?_ | refine WE_orC ?_ | refine WE_if ?_ | refine WS_par2 ?_ | refine WS_par3 ?_ | refine WE_rg1 ?_ | refine WE_rg2 ?_ | refine WE_items ?_ | refine WE_enum ?_ | refine WE_zip ?_ | refine WE_revd ?_ | refine WE_callG ?_ | refine WS_put ?_ | refine WS_app ?_ | refine WE_pix ?_ | refine WE_sl ?_ | refine WE_p0 ?_ | refine WE_p1 ?_ | refine WE_true ?_ | refine WE_bor ?_ | refine WE_borC ?_ | refine WE_mt ?_ | refine WS_asg ?_) | ((with_reducible apply WE_var); (case h => exact rfl))
      | ((with_reducible refine And.intro ?_ ?_); (with_reducible first | exact ff1 | exact ff2 | exact ff3 | exact ff4 | exact ff5 | fail); (intro _))
      | ((with_reducible refine And.intro ?_ ?_); rotate_left; (with_reducible first | exact tt1 | exact tt2 | exact tt3 | exact tt4 | exact tt5 | fail); (intro _))
      | ((with_reducible apply Exists.intro); (with_reducible apply And.intro); first | ((with_reducible (first | show addT (.int _) (.int _) = some _ | show subT (.int _) (.int _) = some _ | show negT (.int _) = some _ | show ltT (.int _) (.int _) = some _ | show leT (.int _) (.int _) = some _ | show gtT (.int _) (.int _) = some _ | show geT (.int _) (.int _) = some _ | show intT [.int _] = some _ | show max2T [.int _, .int _] = some _ | show min2T [.int _, .int _] = some _ | show absT [.int _] = some _ | show eqT (.int _) (.int _) = some _ | show neT (.int _) (.int _) = some _ | show T.bl _ = T.bl _ | show T.int _ = T.int _)); exact rfl) | ((with_reducible (first | show isiT _ _ = some _ | show isT _ _ = some _ | show isNT _ _ = some _ | show isisT _ _ = some _)); first | exact (rfl : _ = some (T.bl true)) | exact (rfl : _ = some (T.bl false)) | exact rfl) | fail)
      | fail)
    exact ⟨rfl, rfl⟩
  · have e : T.lst (((rangeI 0 n).filter fun _ => true).map fun i => T.int (k * (i + 1) / n - k * i / n)) = rowT (rnd n k) := by
      unfold rowT rnd
      rw [all_true, rangeI_map (n := n.toNat) (by omega) (fun i => T.int (k * (i + 1) / n - k * i / n)), List.map_map]
      rfl
    rw [e]
    exact q
theorem round_row_ok {n k : Int} (n1 : 1 ≤ n) (n2 : n ≤ 60) (k1 : 0 ≤ k) (k2 : k ≤ n) (q : χ (rowT (rnd n k)) []) : WR (m_round_row [.int n, .int k]) χ ζ := by
  refine WR_fn ?_
  try simp only [List.map_cons, List.map_nil, List.cons_append, List.nil_append, List.length_cons, List.length_nil, Nat.zero_add, Nat.reduceAdd, Nat.reduceSub, Nat.sub_self, List.replicate_zero, List.replicate_succ, List.append_nil, List.set_cons_zero, List.set_cons_succ]
  repeat' (first
      | with_reducible (first | refine WS_seq ?_ | refine WS_set ?_ | refine WS_ret ?_ | refine WS_if ?_ | refine WS_drop ?_ | refine WS_nx ?_ | refine WE_bin ?_ | refine WE_cons ?_ | refine WE_nil ?_ | refine WE_k ?_ | refine WE_app ?_ | refine WE_un ?_ | refine WE_B ?_ | refine WE_notC ?_ | refine WE_call ?_ | refine WE_callK ?_ | refine WE_lst ?_ | refine WE_tup ?_ | refine WE_chain ?_ | refine WE_andV ?_ | refine WE_orV ?_ | refine WE_notV ?_ | refine WE_andC ?_ | refine WE_orC ?_ | refine WE_if ?_ | refine WS_par2 ?_ | refine WS_par3 ?_ | refine WE_rg1 ?_ | refine WE_rg2 ?_ | refine WE_items ?_ | refine WE_enum ?_ | refine WE_zip ?_ | refine WE_revd ?_ | refine WE_callG ?_ | refine WS_put ?_ | refine WS_app ?_ | refine WE_pix ?_ | refine WE_sl ?_ | refine WE_p0 ?_ | refine WE_p1 ?_ | refine WE_true ?_ | refine WE_bor ?_ | refine WE_borC ?_ | refine WE_mt ?_ | refine WS_asg ?_) | ((with_reducible apply WE_var); (case h => exact rfl))
      | ((with_reducible refine And.intro ?_ ?_); (with_reducible first | exact ff1 | exact ff2 | exact ff3 | exact ff4 | exact ff5 | fail); (intro _))
      | ((with_reducible refine And.intro ?_ ?_); rotate_left; (with_reducible first | exact tt1 | exact tt2 | exact tt3 | exact tt4 | exact tt5 | fail); (intro _))
      | ((with_reducible apply Exists.intro); (with_reducible apply And.intro); first | ((with_reducible (first | show addT (.int _) (.int _) = some _ | show subT (.int _) (.int _) = some _ | show negT (.int _) = some _ | show ltT (.int _) (.int _) = some _ | show leT (.int _) (.int _) = some _ | show gtT (.int _) (.int _) = some _ | show geT (.int _) (.int _) = some _ | show intT [.int _] = some _ | show max2T [.int _, .int _] = some _ | show min2T [.int _, .int _] = some _ | show absT [.int _] = some _ | show eqT (.int _) (.int _) = some _ | show neT (.int _) (.int _) = some _ | show T.bl _ = T.bl _ | show T.int _ = T.int _)); exact rfl) | ((with_reducible (first | show isiT _ _ = some _ | show isT _ _ = some _ | show isNT _ _ = some _ | show isisT _ _ = some _)); first | exact (rfl : _ = some (T.bl true)) | exact (rfl : _ = some (T.bl false)) | exact rfl) | fail)
      | fail)
  refine counts_ok n1 n2 k1 k2 ?_
  repeat' (first
      | with_reducible (first | refine WS_seq ?_ | refine WS_set ?_ | refine WS_ret ?_ | refine WS_if ?_ | refine WS_drop ?_ | refine WS_nx ?_ | refine WE_bin ?_ | refine WE_cons ?_ | refine WE_nil ?_ | refine WE_k ?_ | refine WE_app ?_ | refine WE_un ?_ | refine WE_B ?_ | refine WE_notC ?_ | refine WE_call ?_ | refine WE_callK ?_ | refine WE_lst ?_ | refine WE_tup ?_ | refine WE_chain ?_ | refine WE_andV ?_ | refine WE_orV ?_ | refine WE_notV ?_ | refine WE_andC ?_ | refine WE_orC ?_ | refine WE_if ?_ | refine WS_par2 ?_ | refine WS_par3 ?_ | refine WE_rg1 ?_ | refine WE_rg2 ?_ | refine WE_items ?_ | refine WE_enum ?_ | refine WE_zip ?_ | refine WE_revd ?_ | refine WE_callG ?_ | refine WS_put ?_ | refine WS_app ?_ | refine WE_pix ?_ | refine WE_sl ?_ | refine WE_p0 ?_ | refine WE_p1 ?_ | refine WE_true ?_ | refine WE_bor ?_ | refine WE_borC ?_ | refine WE_mt ?_ | refine WS_asg ?_) | ((with_reducible apply WE_var); (case h => exact rfl))
      | ((with_reducible refine And.intro ?_ ?_); (with_reducible first | exact ff1 | exact ff2 | exact ff3 | exact ff4 | exact ff5 | fail); (intro _))
      | ((with_reducible refine And.intro ?_ ?_); rotate_left; (with_reducible first | exact tt1 | exact tt2 | exact tt3 | exact tt4 | exact tt5 | fail); (intro _))
      | ((with_reducible apply Exists.intro); (with_reducible apply And.intro); first | ((with_reducible (first | show addT (.int _) (.int _) = some _ | show subT (.int _) (.int _) = some _ | show negT (.int _) = some _ | show ltT (.int _) (.int _) = some _ | show leT (.int _) (.int _) = some _ | show gtT (.int _) (.int _) = some _ | show geT (.int _) (.int _) = some _ | show intT [.int _] = some _ | show max2T [.int _, .int _] = some _ | show min2T [.int _, .int _] = some _ | show absT [.int _] = some _ | show eqT (.int _) (.int _) = some _ | show neT (.int _) (.int _) = some _ | show T.bl _ = T.bl _ | show T.int _ = T.int _)); exact rfl) | ((with_reducible (first | show isiT _ _ = some _ | show isT _ _ = some _ | show isNT _ _ = some _ | show isisT _ _ = some _)); first | exact (rfl : _ = some (T.bl true)) | exact (rfl : _ = some (T.bl false)) | exact rfl) | fail)
      | fail)
  exact spread_ok n1 n2 k1 k2 q
theorem turns_ok {r : List Int} (h2 : r.length ≤ 1000) (q : χ (.lst ((turnsR r).map rowT)) []) : WR (m_law_turns [rowT r]) χ ζ := by
  refine WR_fn ?_
  try simp only [List.map_cons, List.map_nil, List.cons_append, List.nil_append, List.length_cons, List.length_nil, Nat.zero_add, Nat.reduceAdd, Nat.reduceSub, Nat.sub_self, List.replicate_zero, List.replicate_succ, List.append_nil, List.set_cons_zero, List.set_cons_succ]
  repeat' (first
      | with_reducible (first | refine WS_seq ?_ | refine WS_set ?_ | refine WS_ret ?_ | refine WS_if ?_ | refine WS_drop ?_ | refine WS_nx ?_ | refine WE_bin ?_ | refine WE_cons ?_ | refine WE_nil ?_ | refine WE_k ?_ | refine WE_app ?_ | refine WE_un ?_ | refine WE_B ?_ | refine WE_notC ?_ | refine WE_call ?_ | refine WE_callK ?_ | refine WE_lst ?_ | refine WE_tup ?_ | refine WE_chain ?_ | refine WE_andV ?_ | refine WE_orV ?_ | refine WE_notV ?_ | refine WE_andC ?_ | refine WE_orC ?_ | refine WE_if ?_ | refine WS_par2 ?_ | refine WS_par3 ?_ | refine WE_rg1 ?_ | refine WE_rg2 ?_ | refine WE_items ?_ | refine WE_enum ?_ | refine WE_zip ?_ | refine WE_revd ?_ | refine WE_callG ?_ | refine WS_put ?_ | refine WS_app ?_ | refine WE_pix ?_ | refine WE_sl ?_ | refine WE_p0 ?_ | refine WE_p1 ?_ | refine WE_true ?_ | refine WE_bor ?_ | refine WE_borC ?_ | refine WE_mt ?_ | refine WS_asg ?_) | ((with_reducible apply WE_var); (case h => exact rfl))
      | ((with_reducible refine And.intro ?_ ?_); (with_reducible first | exact ff1 | exact ff2 | exact ff3 | exact ff4 | exact ff5 | fail); (intro _))
      | ((with_reducible refine And.intro ?_ ?_); rotate_left; (with_reducible first | exact tt1 | exact tt2 | exact tt3 | exact tt4 | exact tt5 | fail); (intro _))
      | ((with_reducible apply Exists.intro); (with_reducible apply And.intro); first | ((with_reducible (first | show addT (.int _) (.int _) = some _ | show subT (.int _) (.int _) = some _ | show negT (.int _) = some _ | show ltT (.int _) (.int _) = some _ | show leT (.int _) (.int _) = some _ | show gtT (.int _) (.int _) = some _ | show geT (.int _) (.int _) = some _ | show intT [.int _] = some _ | show max2T [.int _, .int _] = some _ | show min2T [.int _, .int _] = some _ | show absT [.int _] = some _ | show eqT (.int _) (.int _) = some _ | show neT (.int _) (.int _) = some _ | show T.bl _ = T.bl _ | show T.int _ = T.int _)); exact rfl) | ((with_reducible (first | show isiT _ _ = some _ | show isT _ _ = some _ | show isNT _ _ = some _ | show isisT _ _ = some _)); first | exact (rfl : _ = some (T.bl true)) | exact (rfl : _ = some (T.bl false)) | exact rfl) | fail)
      | fail)
  refine WE_lcM .int (rangeI 0 r.length) (fun _ => true) (fun i => rowT (r.drop i.toNat ++ r.take i.toNat)) ?_
  repeat' (first
      | with_reducible (first | refine WS_seq ?_ | refine WS_set ?_ | refine WS_ret ?_ | refine WS_if ?_ | refine WS_drop ?_ | refine WS_nx ?_ | refine WE_bin ?_ | refine WE_cons ?_ | refine WE_nil ?_ | refine WE_k ?_ | refine WE_app ?_ | refine WE_un ?_ | refine WE_B ?_ | refine WE_notC ?_ | refine WE_call ?_ | refine WE_callK ?_ | refine WE_lst ?_ | refine WE_tup ?_ | refine WE_chain ?_ | refine WE_andV ?_ | refine WE_orV ?_ | refine WE_notV ?_ | refine WE_andC ?_ | refine WE_orC ?_ | refine WE_if ?_ | refine WS_par2 ?_ | refine WS_par3 ?_ | refine WE_rg1 ?_ | refine WE_rg2 ?_ | refine WE_items ?_ | refine WE_enum ?_ | refine WE_zip ?_ | refine WE_revd ?_ | refine WE_callG ?_ | refine WS_put ?_ | refine WS_app ?_ | refine WE_pix ?_ | refine WE_sl ?_ | refine WE_p0 ?_ | refine WE_p1 ?_ | refine WE_true ?_ | refine WE_bor ?_ | refine WE_borC ?_ | refine WE_mt ?_ | refine WS_asg ?_) | ((with_reducible apply WE_var); (case h => exact rfl))
      | ((with_reducible refine And.intro ?_ ?_); (with_reducible first | exact ff1 | exact ff2 | exact ff3 | exact ff4 | exact ff5 | fail); (intro _))
      | ((with_reducible refine And.intro ?_ ?_); rotate_left; (with_reducible first | exact tt1 | exact tt2 | exact tt3 | exact tt4 | exact tt5 | fail); (intro _))
      | ((with_reducible apply Exists.intro); (with_reducible apply And.intro); first | ((with_reducible (first | show addT (.int _) (.int _) = some _ | show subT (.int _) (.int _) = some _ | show negT (.int _) = some _ | show ltT (.int _) (.int _) = some _ | show leT (.int _) (.int _) = some _ | show gtT (.int _) (.int _) = some _ | show geT (.int _) (.int _) = some _ | show intT [.int _] = some _ | show max2T [.int _, .int _] = some _ | show min2T [.int _, .int _] = some _ | show absT [.int _] = some _ | show eqT (.int _) (.int _) = some _ | show neT (.int _) (.int _) = some _ | show T.bl _ = T.bl _ | show T.int _ = T.int _)); exact rfl) | ((with_reducible (first | show isiT _ _ = some _ | show isT _ _ = some _ | show isNT _ _ = some _ | show isisT _ _ = some _)); first | exact (rfl : _ = some (T.bl true)) | exact (rfl : _ = some (T.bl false)) | exact rfl) | fail)
      | fail)
  refine ⟨_, lenT_row (by simp only [LIM]; omega), ?_⟩
  repeat' (first
      | with_reducible (first | refine WS_seq ?_ | refine WS_set ?_ | refine WS_ret ?_ | refine WS_if ?_ | refine WS_drop ?_ | refine WS_nx ?_ | refine WE_bin ?_ | refine WE_cons ?_ | refine WE_nil ?_ | refine WE_k ?_ | refine WE_app ?_ | refine WE_un ?_ | refine WE_B ?_ | refine WE_notC ?_ | refine WE_call ?_ | refine WE_callK ?_ | refine WE_lst ?_ | refine WE_tup ?_ | refine WE_chain ?_ | refine WE_andV ?_ | refine WE_orV ?_ | refine WE_notV ?_ | refine WE_andC ?_ | refine WE_orC ?_ | refine WE_if ?_ | refine WS_par2 ?_ | refine WS_par3 ?_ | refine WE_rg1 ?_ | refine WE_rg2 ?_ | refine WE_items ?_ | refine WE_enum ?_ | refine WE_zip ?_ | refine WE_revd ?_ | refine WE_callG ?_ | refine WS_put ?_ | refine WS_app ?_ | refine WE_pix ?_ | refine WE_sl ?_ | refine WE_p0 ?_ | refine WE_p1 ?_ | refine WE_true ?_ | refine WE_bor ?_ | refine WE_borC ?_ | refine WE_mt ?_ | refine WS_asg ?_) | ((with_reducible apply WE_var); (case h => exact rfl))
      | ((with_reducible refine And.intro ?_ ?_); (with_reducible first | exact ff1 | exact ff2 | exact ff3 | exact ff4 | exact ff5 | fail); (intro _))
      | ((with_reducible refine And.intro ?_ ?_); rotate_left; (with_reducible first | exact tt1 | exact tt2 | exact tt3 | exact tt4 | exact tt5 | fail); (intro _))
      | ((with_reducible apply Exists.intro); (with_reducible apply And.intro); first | ((with_reducible (first | show addT (.int _) (.int _) = some _ | show subT (.int _) (.int _) = some _ | show negT (.int _) = some _ | show ltT (.int _) (.int _) = some _ | show leT (.int _) (.int _) = some _ | show gtT (.int _) (.int _) = some _ | show geT (.int _) (.int _) = some _ | show intT [.int _] = some _ | show max2T [.int _, .int _] = some _ | show min2T [.int _, .int _] = some _ | show absT [.int _] = some _ | show eqT (.int _) (.int _) = some _ | show neT (.int _) (.int _) = some _ | show T.bl _ = T.bl _ | show T.int _ = T.int _)); exact rfl) | ((with_reducible (first | show isiT _ _ = some _ | show isT _ _ = some _ | show isNT _ _ = some _ | show isisT _ _ = some _)); first | exact (rfl : _ = some (T.bl true)) | exact (rfl : _ = some (T.bl false)) | exact rfl) | fail)
      | fail)
  refine ⟨_, rfl, lim62_of (by omega) (by omega), rangeT_I _ _, by rw [rangeI_len]; omega, (fun k hk => by rw [List.mem_singleton.mp hk]; show 1 < 2; decide), fun i hi => ?_, ?_⟩
  · obtain ⟨h3, h4⟩ := rangeI_mem.mp hi
    refine ⟨_, rfl, WE_true ⟨rfl, (fun h => nomatch h), fun _ => ?_⟩⟩
    repeat' (first
      | with_reducible (first | refine WS_seq ?_ | refine WS_set ?_ | refine WS_ret ?_ | refine WS_if ?_ | refine WS_drop ?_ | refine WS_nx ?_ | refine WE_bin ?_ | refine WE_cons ?_ | refine WE_nil ?_ | refine WE_k ?_ | refine WE_app ?_ | refine WE_un ?_ | refine WE_B ?_ | refine WE_notC ?_ | refine WE_call ?_ | refine WE_callK ?_ | refine WE_lst ?_ | refine WE_tup ?_ | refine WE_chain ?_ | refine WE_andV ?_ | refine WE_orV ?_ | refine WE_notV ?_ | refine WE_andC ?_ | refine WE_orC ?_ | refine WE_if ?_ | refine WS_par2 ?_ | refine WS_par3 ?_ | refine WE_rg1 ?_ | refine WE_rg2 ?_ | refine WE_items ?_ | refine WE_enum ?_ | refine WE_zip ?_ | refine WE_revd ?_ | refine WE_callG ?_ | refine WS_put ?_ | refine WS_app ?_ | refine WE_pix ?_ | refine WE_sl ?_ | refine WE_p0 ?_ | refine WE_p1 ?_ | refine WE_true ?_ | refine WE_bor ?_ | refine WE_borC ?_ | refine WE_mt ?_ | refine WS_asg ?_) | ((with_reducible apply WE_var); (case h => exact rfl))
      | ((with_reducible refine And.intro ?_ ?_); (with_reducible first | exact ff1 | exact ff2 | exact ff3 | exact ff4 | exact ff5 | fail); (intro _))
      | ((with_reducible refine And.intro ?_ ?_); rotate_left; (with_reducible first | exact tt1 | exact tt2 | exact tt3 | exact tt4 | exact tt5 | fail); (intro _))
      | ((with_reducible apply Exists.intro); (with_reducible apply And.intro); first | ((with_reducible (first | show addT (.int _) (.int _) = some _ | show subT (.int _) (.int _) = some _ | show negT (.int _) = some _ | show ltT (.int _) (.int _) = some _ | show leT (.int _) (.int _) = some _ | show gtT (.int _) (.int _) = some _ | show geT (.int _) (.int _) = some _ | show intT [.int _] = some _ | show max2T [.int _, .int _] = some _ | show min2T [.int _, .int _] = some _ | show absT [.int _] = some _ | show eqT (.int _) (.int _) = some _ | show neT (.int _) (.int _) = some _ | show T.bl _ = T.bl _ | show T.int _ = T.int _)); exact rfl) | ((with_reducible (first | show isiT _ _ = some _ | show isT _ _ = some _ | show isNT _ _ = some _ | show isisT _ _ = some _)); first | exact (rfl : _ = some (T.bl true)) | exact (rfl : _ = some (T.bl false)) | exact rfl) | fail)
      | fail)
    refine ⟨_, slT_row (a := i.toNat) (b := r.length) _ (sIx_int (by omega) (by omega)) rfl, ?_⟩
    repeat' (first
      | with_reducible (first | refine WS_seq ?_ | refine WS_set ?_ | refine WS_ret ?_ | refine WS_if ?_ | refine WS_drop ?_ | refine WS_nx ?_ | refine WE_bin ?_ | refine WE_cons ?_ | refine WE_nil ?_ | refine WE_k ?_ | refine WE_app ?_ | refine WE_un ?_ | refine WE_B ?_ | refine WE_notC ?_ | refine WE_call ?_ | refine WE_callK ?_ | refine WE_lst ?_ | refine WE_tup ?_ | refine WE_chain ?_ | refine WE_andV ?_ | refine WE_orV ?_ | refine WE_notV ?_ | refine WE_andC ?_ | refine WE_orC ?_ | refine WE_if ?_ | refine WS_par2 ?_ | refine WS_par3 ?_ | refine WE_rg1 ?_ | refine WE_rg2 ?_ | refine WE_items ?_ | refine WE_enum ?_ | refine WE_zip ?_ | refine WE_revd ?_ | refine WE_callG ?_ | refine WS_put ?_ | refine WS_app ?_ | refine WE_pix ?_ | refine WE_sl ?_ | refine WE_p0 ?_ | refine WE_p1 ?_ | refine WE_true ?_ | refine WE_bor ?_ | refine WE_borC ?_ | refine WE_mt ?_ | refine WS_asg ?_) | ((with_reducible apply WE_var); (case h => exact rfl))
      | ((with_reducible refine And.intro ?_ ?_); (with_reducible first | exact ff1 | exact ff2 | exact ff3 | exact ff4 | exact ff5 | fail); (intro _))
      | ((with_reducible refine And.intro ?_ ?_); rotate_left; (with_reducible first | exact tt1 | exact tt2 | exact tt3 | exact tt4 | exact tt5 | fail); (intro _))
      | ((with_reducible apply Exists.intro); (with_reducible apply And.intro); first | ((with_reducible (first | show addT (.int _) (.int _) = some _ | show subT (.int _) (.int _) = some _ | show negT (.int _) = some _ | show ltT (.int _) (.int _) = some _ | show leT (.int _) (.int _) = some _ | show gtT (.int _) (.int _) = some _ | show geT (.int _) (.int _) = some _ | show intT [.int _] = some _ | show max2T [.int _, .int _] = some _ | show min2T [.int _, .int _] = some _ | show absT [.int _] = some _ | show eqT (.int _) (.int _) = some _ | show neT (.int _) (.int _) = some _ | show T.bl _ = T.bl _ | show T.int _ = T.int _)); exact rfl) | ((with_reducible (first | show isiT _ _ = some _ | show isT _ _ = some _ | show isNT _ _ = some _ | show isisT _ _ = some _)); first | exact (rfl : _ = some (T.bl true)) | exact (rfl : _ = some (T.bl false)) | exact rfl) | fail)
      | fail)
    refine ⟨_, slT_row (a := 0) (b := i.toNat) _ rfl (sIx_int (by omega) (by omega)), ?_⟩
    repeat' (first
      | with_reducible (first | refine WS_seq ?_ | refine WS_set ?_ | refine WS_ret ?_ | refine WS_if ?_ | refine WS_drop ?_ | refine WS_nx ?_ | refine WE_bin ?_ | refine WE_cons ?_ | refine WE_nil ?_ | refine WE_k ?_ | refine WE_app ?_ | refine WE_un ?_ | refine WE_B ?_ | refine WE_notC ?_ | refine WE_call ?_ | refine WE_callK ?_ | refine WE_lst ?_ | refine WE_tup ?_ | refine WE_chain ?_ | refine WE_andV ?_ | refine WE_orV ?_ | refine WE_notV ?_ | refine WE_andC ?_ | refine WE_orC ?_ | refine WE_if ?_ | refine WS_par2 ?_ | refine WS_par3 ?_ | refine WE_rg1 ?_ | refine WE_rg2 ?_ | refine WE_items ?_ | refine WE_enum ?_ | refine WE_zip ?_ | refine WE_revd ?_ | refine WE_callG ?_ | refine WS_put ?_ | refine WS_app ?_ | refine WE_pix ?_ | refine WE_sl ?_ | refine WE_p0 ?_ | refine WE_p1 ?_ | refine WE_true ?_ | refine WE_bor ?_ | refine WE_borC ?_ | refine WE_mt ?_ | refine WS_asg ?_) | ((with_reducible apply WE_var); (case h => exact rfl))
      | ((with_reducible refine And.intro ?_ ?_); (with_reducible first | exact ff1 | exact ff2 | exact ff3 | exact ff4 | exact ff5 | fail); (intro _))
      | ((with_reducible refine And.intro ?_ ?_); rotate_left; (with_reducible first | exact tt1 | exact tt2 | exact tt3 | exact tt4 | exact tt5 | fail); (intro _))
      | ((with_reducible apply Exists.intro); (with_reducible apply And.intro); first | ((with_reducible (first | show addT (.int _) (.int _) = some _ | show subT (.int _) (.int _) = some _ | show negT (.int _) = some _ | show ltT (.int _) (.int _) = some _ | show leT (.int _) (.int _) = some _ | show gtT (.int _) (.int _) = some _ | show geT (.int _) (.int _) = some _ | show intT [.int _] = some _ | show max2T [.int _, .int _] = some _ | show min2T [.int _, .int _] = some _ | show absT [.int _] = some _ | show eqT (.int _) (.int _) = some _ | show neT (.int _) (.int _) = some _ | show T.bl _ = T.bl _ | show T.int _ = T.int _)); exact rfl) | ((with_reducible (first | show isiT _ _ = some _ | show isT _ _ = some _ | show isNT _ _ = some _ | show isisT _ _ = some _)); first | exact (rfl : _ = some (T.bl true)) | exact (rfl : _ = some (T.bl false)) | exact rfl) | fail)
      | fail)
    refine ⟨_, addT_row (by simp only [LIM, List.length_take, List.length_drop]; omega), ?_, rfl⟩
    rw [List.take_of_length_le (l := r.drop i.toNat) (by rw [List.length_drop]; omega), List.drop_zero, Nat.sub_zero]
  · have e : ((rangeI 0 r.length).filter fun _ => true).map (fun i => rowT (r.drop i.toNat ++ r.take i.toNat)) = (turnsR r).map rowT := by
      unfold turnsR
      rw [all_true, rangeI_map rfl (fun i => rowT (r.drop i.toNat ++ r.take i.toNat)), List.map_map]
      rfl
    rw [e]
    exact q
theorem nextR_len (n k p : Int) (row : List Int) : (nextR n k p row).length ≤ 2 := by
  unfold nextR
  rw [List.length_map]
  exact Nat.le_trans (List.length_filter_le _ _) (by decide)
theorem lvl_len (n k : Int) : ∀ p, (lvl n k p).length ≤ 2 ^ p
  | 0 => by simp [lvl]
  | p + 1 => by
    have h := lvl_len n k p
    have key : ∀ xs : List (List Int), ((xs.map (nextR n k p)).flatten).length ≤ 2 * xs.length := by
      intro xs
      induction xs with
      | nil => simp
      | cons x xs ih =>
        rw [List.map_cons, List.flatten_cons, List.length_append, List.length_cons]
        have := nextR_len n k p x
        omega
    have := key (lvl n k p)
    show ((lvl n k p).map (nextR n k p)).flatten.length ≤ _
    rw [Nat.pow_succ]
    omega
theorem listsT_map {α : Type} (f : α → List T) : ∀ xs : List α, listsT (xs.map fun x => .lst (f x)) = some (xs.map f)
  | [] => rfl
  | x :: xs => by
    show (listsT (xs.map fun x => T.lst (f x))).map (f x :: ·) = _
    rw [listsT_map f xs]; rfl
theorem row_lvl (n k : Int) : ∀ (p : Nat) (row : List Int), row ∈ lvl n k p → row.length = p
  | 0, row, h => by
    have : row = [] := by simpa [lvl] using h
    rw [this]; rfl
  | p + 1, row, h => by
    obtain ⟨l, hl, hr⟩ := List.mem_flatten.mp h
    obtain ⟨x, hx, rfl⟩ := List.mem_map.mp hl
    obtain ⟨y, _, rfl⟩ := List.mem_map.mp hr
    rw [List.length_append, row_lvl n k p x hx]; rfl
theorem all_ok {n k : Int} (n1 : 1 ≤ n) (n2 : n ≤ 11) (q : χ (.lst ((lvl n k n.toNat).map rowT)) []) : WR (m_law_all [.int n, .int k]) χ ζ := by
  refine WR_fn ?_
  try simp only [List.map_cons, List.map_nil, List.cons_append, List.nil_append, List.length_cons, List.length_nil, Nat.zero_add, Nat.reduceAdd, Nat.reduceSub, Nat.sub_self, List.replicate_zero, List.replicate_succ, List.append_nil, List.set_cons_zero, List.set_cons_succ]
  repeat' (first
      | with_reducible (first | refine WS_seq ?_ | refine WS_set ?_ | refine WS_ret ?_ | refine WS_if ?_ | refine WS_drop ?_ | refine WS_nx ?_ | refine WE_bin ?_ | refine WE_cons ?_ | refine WE_nil ?_ | refine WE_k ?_ | refine WE_app ?_ | refine WE_un ?_ | refine WE_B ?_ | refine WE_notC ?_ | refine WE_call ?_ | refine WE_callK ?_ | refine WE_lst ?_ | refine WE_tup ?_ | refine WE_chain ?_ | refine WE_andV ?_ | refine WE_orV ?_ | refine WE_notV ?_ | refine WE_andC ?_ | refine WE_orC ?_ | refine WE_if ?_ | refine WS_par2 ?_ | refine WS_par3 ?_ | refine WE_rg1 ?_ | refine WE_rg2 ?_ | refine WE_items ?_ | refine WE_enum ?_ | refine WE_zip ?_ | refine WE_revd ?_ | refine WE_callG ?_ | refine WS_put ?_ | refine WS_app ?_ | refine WE_pix ?_ | refine WE_sl ?_ | refine WE_p0 ?_ | refine WE_p1 ?_ | refine WE_true ?_ | refine WE_bor ?_ | refine WE_borC ?_ | refine WE_mt ?_ | refine WS_asg ?_) | ((with_reducible apply WE_var); (case h => exact rfl))
      | ((with_reducible refine And.intro ?_ ?_); (with_reducible first | exact ff1 | exact ff2 | exact ff3 | exact ff4 | exact ff5 | fail); (intro _))
      | ((with_reducible refine And.intro ?_ ?_); rotate_left; (with_reducible first | exact tt1 | exact tt2 | exact tt3 | exact tt4 | exact tt5 | fail); (intro _))
      | ((with_reducible apply Exists.intro); (with_reducible apply And.intro); first | ((with_reducible (first | show addT (.int _) (.int _) = some _ | show subT (.int _) (.int _) = some _ | show negT (.int _) = some _ | show ltT (.int _) (.int _) = some _ | show leT (.int _) (.int _) = some _ | show gtT (.int _) (.int _) = some _ | show geT (.int _) (.int _) = some _ | show intT [.int _] = some _ | show max2T [.int _, .int _] = some _ | show min2T [.int _, .int _] = some _ | show absT [.int _] = some _ | show eqT (.int _) (.int _) = some _ | show neT (.int _) (.int _) = some _ | show T.bl _ = T.bl _ | show T.int _ = T.int _)); exact rfl) | ((with_reducible (first | show isiT _ _ = some _ | show isT _ _ = some _ | show isNT _ _ = some _ | show isisT _ _ = some _)); first | exact (rfl : _ = some (T.bl true)) | exact (rfl : _ = some (T.bl false)) | exact rfl) | fail)
      | fail)
  refine ⟨by show 0 ≤ LIM; decide, ?_⟩
  repeat' (first
      | with_reducible (first | refine WS_seq ?_ | refine WS_set ?_ | refine WS_ret ?_ | refine WS_if ?_ | refine WS_drop ?_ | refine WS_nx ?_ | refine WE_bin ?_ | refine WE_cons ?_ | refine WE_nil ?_ | refine WE_k ?_ | refine WE_app ?_ | refine WE_un ?_ | refine WE_B ?_ | refine WE_notC ?_ | refine WE_call ?_ | refine WE_callK ?_ | refine WE_lst ?_ | refine WE_tup ?_ | refine WE_chain ?_ | refine WE_andV ?_ | refine WE_orV ?_ | refine WE_notV ?_ | refine WE_andC ?_ | refine WE_orC ?_ | refine WE_if ?_ | refine WS_par2 ?_ | refine WS_par3 ?_ | refine WE_rg1 ?_ | refine WE_rg2 ?_ | refine WE_items ?_ | refine WE_enum ?_ | refine WE_zip ?_ | refine WE_revd ?_ | refine WE_callG ?_ | refine WS_put ?_ | refine WS_app ?_ | refine WE_pix ?_ | refine WE_sl ?_ | refine WE_p0 ?_ | refine WE_p1 ?_ | refine WE_true ?_ | refine WE_bor ?_ | refine WE_borC ?_ | refine WE_mt ?_ | refine WS_asg ?_) | ((with_reducible apply WE_var); (case h => exact rfl))
      | ((with_reducible refine And.intro ?_ ?_); (with_reducible first | exact ff1 | exact ff2 | exact ff3 | exact ff4 | exact ff5 | fail); (intro _))
      | ((with_reducible refine And.intro ?_ ?_); rotate_left; (with_reducible first | exact tt1 | exact tt2 | exact tt3 | exact tt4 | exact tt5 | fail); (intro _))
      | ((with_reducible apply Exists.intro); (with_reducible apply And.intro); first | ((with_reducible (first | show addT (.int _) (.int _) = some _ | show subT (.int _) (.int _) = some _ | show negT (.int _) = some _ | show ltT (.int _) (.int _) = some _ | show leT (.int _) (.int _) = some _ | show gtT (.int _) (.int _) = some _ | show geT (.int _) (.int _) = some _ | show intT [.int _] = some _ | show max2T [.int _, .int _] = some _ | show min2T [.int _, .int _] = some _ | show absT [.int _] = some _ | show eqT (.int _) (.int _) = some _ | show neT (.int _) (.int _) = some _ | show T.bl _ = T.bl _ | show T.int _ = T.int _)); exact rfl) | ((with_reducible (first | show isiT _ _ = some _ | show isT _ _ = some _ | show isNT _ _ = some _ | show isisT _ _ = some _)); first | exact (rfl : _ = some (T.bl true)) | exact (rfl : _ = some (T.bl false)) | exact rfl) | fail)
      | fail)
  refine ⟨by show 1 ≤ LIM; decide, ?_⟩
  try simp only [List.map_cons, List.map_nil, List.cons_append, List.nil_append, List.length_cons, List.length_nil, Nat.zero_add, Nat.reduceAdd, Nat.reduceSub, Nat.sub_self, List.replicate_zero, List.replicate_succ, List.append_nil, List.set_cons_zero, List.set_cons_succ]
  refine WS_seq ?_
  refine WS_for (fun ts i s => ∃ x y z, s = [some (.int n), some (.int k), some (.lst ((lvl n k i).map rowT)), x, y, z] ∧ i ≤ 11 ∧ ts = rangeT 0 n) ?_
  repeat' (first
      | with_reducible (first | refine WS_seq ?_ | refine WS_set ?_ | refine WS_ret ?_ | refine WS_if ?_ | refine WS_drop ?_ | refine WS_nx ?_ | refine WE_bin ?_ | refine WE_cons ?_ | refine WE_nil ?_ | refine WE_k ?_ | refine WE_app ?_ | refine WE_un ?_ | refine WE_B ?_ | refine WE_notC ?_ | refine WE_call ?_ | refine WE_callK ?_ | refine WE_lst ?_ | refine WE_tup ?_ | refine WE_chain ?_ | refine WE_andV ?_ | refine WE_orV ?_ | refine WE_notV ?_ | refine WE_andC ?_ | refine WE_orC ?_ | refine WE_if ?_ | refine WS_par2 ?_ | refine WS_par3 ?_ | refine WE_rg1 ?_ | refine WE_rg2 ?_ | refine WE_items ?_ | refine WE_enum ?_ | refine WE_zip ?_ | refine WE_revd ?_ | refine WE_callG ?_ | refine WS_put ?_ | refine WS_app ?_ | refine WE_pix ?_ | refine WE_sl ?_ | refine WE_p0 ?_ | refine WE_p1 ?_ | refine WE_true ?_ | refine WE_bor ?_ | refine WE_borC ?_ | refine WE_mt ?_ | refine WS_asg ?_) | ((with_reducible apply WE_var); (case h => exact rfl))
      | ((with_reducible refine And.intro ?_ ?_); (with_reducible first | exact ff1 | exact ff2 | exact ff3 | exact ff4 | exact ff5 | fail); (intro _))
      | ((with_reducible refine And.intro ?_ ?_); rotate_left; (with_reducible first | exact tt1 | exact tt2 | exact tt3 | exact tt4 | exact tt5 | fail); (intro _))
      | ((with_reducible apply Exists.intro); (with_reducible apply And.intro); first | ((with_reducible (first | show addT (.int _) (.int _) = some _ | show subT (.int _) (.int _) = some _ | show negT (.int _) = some _ | show ltT (.int _) (.int _) = some _ | show leT (.int _) (.int _) = some _ | show gtT (.int _) (.int _) = some _ | show geT (.int _) (.int _) = some _ | show intT [.int _] = some _ | show max2T [.int _, .int _] = some _ | show min2T [.int _, .int _] = some _ | show absT [.int _] = some _ | show eqT (.int _) (.int _) = some _ | show neT (.int _) (.int _) = some _ | show T.bl _ = T.bl _ | show T.int _ = T.int _)); exact rfl) | ((with_reducible (first | show isiT _ _ = some _ | show isT _ _ = some _ | show isNT _ _ = some _ | show isisT _ _ = some _)); first | exact (rfl : _ = some (T.bl true)) | exact (rfl : _ = some (T.bl false)) | exact rfl) | fail)
      | fail)
  refine ⟨_, rfl, lim62_of (by omega) (by omega), ⟨none, none, none, rfl, by omega, rfl⟩, fun i t s ht hs => ?_, fun s hs => ?_⟩
  · obtain ⟨x, y, z, rfl, h3, -⟩ := hs
    obtain ⟨rfl, hi⟩ := range0_get ht
    have hp : 2 ^ i ≤ 2 ^ 11 := Nat.pow_le_pow_right (by decide) (by omega)
    have hl := lvl_len n k i
    have hl2 := lvl_len n k (i + 1)
    have hp2 : 2 ^ (i + 1) ≤ 2 ^ 11 := Nat.pow_le_pow_right (by decide) (by omega)
    refine ⟨_, rfl, ?_⟩
    try simp only [List.map_cons, List.map_nil, List.cons_append, List.nil_append, List.length_cons, List.length_nil, Nat.zero_add, Nat.reduceAdd, Nat.reduceSub, Nat.sub_self, List.replicate_zero, List.replicate_succ, List.append_nil, List.set_cons_zero, List.set_cons_succ]
    repeat' (first
      | with_reducible (first | refine WS_seq ?_ | refine WS_set ?_ | refine WS_ret ?_ | refine WS_if ?_ | refine WS_drop ?_ | refine WS_nx ?_ | refine WE_bin ?_ | refine WE_cons ?_ | refine WE_nil ?_ | refine WE_k ?_ | refine WE_app ?_ | refine WE_un ?_ | refine WE_B ?_ | refine WE_notC ?_ | refine WE_call ?_ | refine WE_callK ?_ | refine WE_lst ?_ | refine WE_tup ?_ | refine WE_chain ?_ | refine WE_andV ?_ | refine WE_orV ?_ | refine WE_notV ?_ | refine WE_andC ?_ | refine WE_orC ?_ | refine WE_if ?_ | refine WS_par2 ?_ | refine WS_par3 ?_ | refine WE_rg1 ?_ | refine WE_rg2 ?_ | refine WE_items ?_ | refine WE_enum ?_ | refine WE_zip ?_ | refine WE_revd ?_ | refine WE_callG ?_ | refine WS_put ?_ | refine WS_app ?_ | refine WE_pix ?_ | refine WE_sl ?_ | refine WE_p0 ?_ | refine WE_p1 ?_ | refine WE_true ?_ | refine WE_bor ?_ | refine WE_borC ?_ | refine WE_mt ?_ | refine WS_asg ?_) | ((with_reducible apply WE_var); (case h => exact rfl))
      | ((with_reducible refine And.intro ?_ ?_); (with_reducible first | exact ff1 | exact ff2 | exact ff3 | exact ff4 | exact ff5 | fail); (intro _))
      | ((with_reducible refine And.intro ?_ ?_); rotate_left; (with_reducible first | exact tt1 | exact tt2 | exact tt3 | exact tt4 | exact tt5 | fail); (intro _))
      | ((with_reducible apply Exists.intro); (with_reducible apply And.intro); first | ((with_reducible (first | show addT (.int _) (.int _) = some _ | show subT (.int _) (.int _) = some _ | show negT (.int _) = some _ | show ltT (.int _) (.int _) = some _ | show leT (.int _) (.int _) = some _ | show gtT (.int _) (.int _) = some _ | show geT (.int _) (.int _) = some _ | show intT [.int _] = some _ | show max2T [.int _, .int _] = some _ | show min2T [.int _, .int _] = some _ | show absT [.int _] = some _ | show eqT (.int _) (.int _) = some _ | show neT (.int _) (.int _) = some _ | show T.bl _ = T.bl _ | show T.int _ = T.int _)); exact rfl) | ((with_reducible (first | show isiT _ _ = some _ | show isT _ _ = some _ | show isNT _ _ = some _ | show isisT _ _ = some _)); first | exact (rfl : _ = some (T.bl true)) | exact (rfl : _ = some (T.bl false)) | exact rfl) | fail)
      | fail)
    refine WE_lcM rowT (lvl n k i) (fun _ => true) (fun row => .lst ((nextR n k i row).map rowT)) ?_
    repeat' (first
      | with_reducible (first | refine WS_seq ?_ | refine WS_set ?_ | refine WS_ret ?_ | refine WS_if ?_ | refine WS_drop ?_ | refine WS_nx ?_ | refine WE_bin ?_ | refine WE_cons ?_ | refine WE_nil ?_ | refine WE_k ?_ | refine WE_app ?_ | refine WE_un ?_ | refine WE_B ?_ | refine WE_notC ?_ | refine WE_call ?_ | refine WE_callK ?_ | refine WE_lst ?_ | refine WE_tup ?_ | refine WE_chain ?_ | refine WE_andV ?_ | refine WE_orV ?_ | refine WE_notV ?_ | refine WE_andC ?_ | refine WE_orC ?_ | refine WE_if ?_ | refine WS_par2 ?_ | refine WS_par3 ?_ | refine WE_rg1 ?_ | refine WE_rg2 ?_ | refine WE_items ?_ | refine WE_enum ?_ | refine WE_zip ?_ | refine WE_revd ?_ | refine WE_callG ?_ | refine WS_put ?_ | refine WS_app ?_ | refine WE_pix ?_ | refine WE_sl ?_ | refine WE_p0 ?_ | refine WE_p1 ?_ | refine WE_true ?_ | refine WE_bor ?_ | refine WE_borC ?_ | refine WE_mt ?_ | refine WS_asg ?_) | ((with_reducible apply WE_var); (case h => exact rfl))
      | ((with_reducible refine And.intro ?_ ?_); (with_reducible first | exact ff1 | exact ff2 | exact ff3 | exact ff4 | exact ff5 | fail); (intro _))
      | ((with_reducible refine And.intro ?_ ?_); rotate_left; (with_reducible first | exact tt1 | exact tt2 | exact tt3 | exact tt4 | exact tt5 | fail); (intro _))
      | ((with_reducible apply Exists.intro); (with_reducible apply And.intro); first | ((with_reducible (first | show addT (.int _) (.int _) = some _ | show subT (.int _) (.int _) = some _ | show negT (.int _) = some _ | show ltT (.int _) (.int _) = some _ | show leT (.int _) (.int _) = some _ | show gtT (.int _) (.int _) = some _ | show geT (.int _) (.int _) = some _ | show intT [.int _] = some _ | show max2T [.int _, .int _] = some _ | show min2T [.int _, .int _] = some _ | show absT [.int _] = some _ | show eqT (.int _) (.int _) = some _ | show neT (.int _) (.int _) = some _ | show T.bl _ = T.bl _ | show T.int _ = T.int _)); exact rfl) | ((with_reducible (first | show isiT _ _ = some _ | show isT _ _ = some _ | show isNT _ _ = some _ | show isisT _ _ = some _)); first | exact (rfl : _ = some (T.bl true)) | exact (rfl : _ = some (T.bl false)) | exact rfl) | fail)
      | fail)
    refine ⟨_, .inl rfl, rfl, by omega, (fun k hk => by rw [List.mem_singleton.mp hk]; show 4 < 6; decide), fun row hr => ?_, ?_⟩
    · refine ⟨_, rfl, WE_true ⟨rfl, (fun h => nomatch h), fun _ => ?_⟩⟩
      have hrl := row_lvl n k i row hr
      refine (?_ : WE _ (fun y r3 => y = T.lst ((nextR n k i row).map rowT) ∧ _) _)
      refine WE_lcM .int [0, 1] (fun (l : Int) => decide (row.sum + l ≤ k) && decide (row.sum + l + n - i - 1 ≥ k)) (fun l => rowT (row ++ [l])) ?_
      repeat' (first
      | with_reducible (first | refine WS_seq ?_ | refine WS_set ?_ | refine WS_ret ?_ | refine WS_if ?_ | refine WS_drop ?_ | refine WS_nx ?_ | refine WE_bin ?_ | refine WE_cons ?_ | refine WE_nil ?_ | refine WE_k ?_ | refine WE_app ?_ | refine WE_un ?_ | refine WE_B ?_ | refine WE_notC ?_ | refine WE_call ?_ | refine WE_callK ?_ | refine WE_lst ?_ | refine WE_tup ?_ | refine WE_chain ?_ | refine WE_andV ?_ | refine WE_orV ?_ | refine WE_notV ?_ | refine WE_andC ?_ | refine WE_orC ?_ | refine WE_if ?_ | refine WS_par2 ?_ | refine WS_par3 ?_ | refine WE_rg1 ?_ | refine WE_rg2 ?_ | refine WE_items ?_ | refine WE_enum ?_ | refine WE_zip ?_ | refine WE_revd ?_ | refine WE_callG ?_ | refine WS_put ?_ | refine WS_app ?_ | refine WE_pix ?_ | refine WE_sl ?_ | refine WE_p0 ?_ | refine WE_p1 ?_ | refine WE_true ?_ | refine WE_bor ?_ | refine WE_borC ?_ | refine WE_mt ?_ | refine WS_asg ?_) | ((with_reducible apply WE_var); (case h => exact rfl))
      | ((with_reducible refine And.intro ?_ ?_); (with_reducible first | exact ff1 | exact ff2 | exact ff3 | exact ff4 | exact ff5 | fail); (intro _))
      | ((with_reducible refine And.intro ?_ ?_); rotate_left; (with_reducible first | exact tt1 | exact tt2 | exact tt3 | exact tt4 | exact tt5 | fail); (intro _))
      | ((with_reducible apply Exists.intro); (with_reducible apply And.intro); first | ((with_reducible (first | show addT (.int _) (.int _) = some _ | show subT (.int _) (.int _) = some _ | show negT (.int _) = some _ | show ltT (.int _) (.int _) = some _ | show leT (.int _) (.int _) = some _ | show gtT (.int _) (.int _) = some _ | show geT (.int _) (.int _) = some _ | show intT [.int _] = some _ | show max2T [.int _, .int _] = some _ | show min2T [.int _, .int _] = some _ | show absT [.int _] = some _ | show eqT (.int _) (.int _) = some _ | show neT (.int _) (.int _) = some _ | show T.bl _ = T.bl _ | show T.int _ = T.int _)); exact rfl) | ((with_reducible (first | show isiT _ _ = some _ | show isT _ _ = some _ | show isNT _ _ = some _ | show isisT _ _ = some _)); first | exact (rfl : _ = some (T.bl true)) | exact (rfl : _ = some (T.bl false)) | exact rfl) | fail)
      | fail)
      refine ⟨by show 2 ≤ LIM; decide, _, .inr rfl, rfl, by decide, (fun k hk => by rw [List.mem_singleton.mp hk]; show 5 < 6; decide), fun l hl => ?_, ?_, rfl⟩
      · refine ⟨_, rfl, ?_⟩
        repeat' (first
      | with_reducible (first | refine WS_seq ?_ | refine WS_set ?_ | refine WS_ret ?_ | refine WS_if ?_ | refine WS_drop ?_ | refine WS_nx ?_ | refine WE_bin ?_ | refine WE_cons ?_ | refine WE_nil ?_ | refine WE_k ?_ | refine WE_app ?_ | refine WE_un ?_ | refine WE_B ?_ | refine WE_notC ?_ | refine WE_call ?_ | refine WE_callK ?_ | refine WE_lst ?_ | refine WE_tup ?_ | refine WE_chain ?_ | refine WE_andV ?_ | refine WE_orV ?_ | refine WE_notV ?_ | refine WE_andC ?_ | refine WE_orC ?_ | refine WE_if ?_ | refine WS_par2 ?_ | refine WS_par3 ?_ | refine WE_rg1 ?_ | refine WE_rg2 ?_ | refine WE_items ?_ | refine WE_enum ?_ | refine WE_zip ?_ | refine WE_revd ?_ | refine WE_callG ?_ | refine WS_put ?_ | refine WS_app ?_ | refine WE_pix ?_ | refine WE_sl ?_ | refine WE_p0 ?_ | refine WE_p1 ?_ | refine WE_true ?_ | refine WE_bor ?_ | refine WE_borC ?_ | refine WE_mt ?_ | refine WS_asg ?_) | ((with_reducible apply WE_var); (case h => exact rfl))
      | ((with_reducible refine And.intro ?_ ?_); (with_reducible first | exact ff1 | exact ff2 | exact ff3 | exact ff4 | exact ff5 | fail); (intro _))
      | ((with_reducible refine And.intro ?_ ?_); rotate_left; (with_reducible first | exact tt1 | exact tt2 | exact tt3 | exact tt4 | exact tt5 | fail); (intro _))
      | ((with_reducible apply Exists.intro); (with_reducible apply And.intro); first | ((with_reducible (first | show addT (.int _) (.int _) = some _ | show subT (.int _) (.int _) = some _ | show negT (.int _) = some _ | show ltT (.int _) (.int _) = some _ | show leT (.int _) (.int _) = some _ | show gtT (.int _) (.int _) = some _ | show geT (.int _) (.int _) = some _ | show intT [.int _] = some _ | show max2T [.int _, .int _] = some _ | show min2T [.int _, .int _] = some _ | show absT [.int _] = some _ | show eqT (.int _) (.int _) = some _ | show neT (.int _) (.int _) = some _ | show T.bl _ = T.bl _ | show T.int _ = T.int _)); exact rfl) | ((with_reducible (first | show isiT _ _ = some _ | show isT _ _ = some _ | show isNT _ _ = some _ | show isisT _ _ = some _)); first | exact (rfl : _ = some (T.bl true)) | exact (rfl : _ = some (T.bl false)) | exact rfl) | fail)
      | fail)
        refine ⟨_, sumT_row _, ?_⟩
        repeat' (first
      | with_reducible (first | refine WS_seq ?_ | refine WS_set ?_ | refine WS_ret ?_ | refine WS_if ?_ | refine WS_drop ?_ | refine WS_nx ?_ | refine WE_bin ?_ | refine WE_cons ?_ | refine WE_nil ?_ | refine WE_k ?_ | refine WE_app ?_ | refine WE_un ?_ | refine WE_B ?_ | refine WE_notC ?_ | refine WE_call ?_ | refine WE_callK ?_ | refine WE_lst ?_ | refine WE_tup ?_ | refine WE_chain ?_ | refine WE_andV ?_ | refine WE_orV ?_ | refine WE_notV ?_ | refine WE_andC ?_ | refine WE_orC ?_ | refine WE_if ?_ | refine WS_par2 ?_ | refine WS_par3 ?_ | refine WE_rg1 ?_ | refine WE_rg2 ?_ | refine WE_items ?_ | refine WE_enum ?_ | refine WE_zip ?_ | refine WE_revd ?_ | refine WE_callG ?_ | refine WS_put ?_ | refine WS_app ?_ | refine WE_pix ?_ | refine WE_sl ?_ | refine WE_p0 ?_ | refine WE_p1 ?_ | refine WE_true ?_ | refine WE_bor ?_ | refine WE_borC ?_ | refine WE_mt ?_ | refine WS_asg ?_) | ((with_reducible apply WE_var); (case h => exact rfl))
      | ((with_reducible refine And.intro ?_ ?_); (with_reducible first | exact ff1 | exact ff2 | exact ff3 | exact ff4 | exact ff5 | fail); (intro _))
      | ((with_reducible refine And.intro ?_ ?_); rotate_left; (with_reducible first | exact tt1 | exact tt2 | exact tt3 | exact tt4 | exact tt5 | fail); (intro _))
      | ((with_reducible apply Exists.intro); (with_reducible apply And.intro); first | ((with_reducible (first | show addT (.int _) (.int _) = some _ | show subT (.int _) (.int _) = some _ | show negT (.int _) = some _ | show ltT (.int _) (.int _) = some _ | show leT (.int _) (.int _) = some _ | show gtT (.int _) (.int _) = some _ | show geT (.int _) (.int _) = some _ | show intT [.int _] = some _ | show max2T [.int _, .int _] = some _ | show min2T [.int _, .int _] = some _ | show absT [.int _] = some _ | show eqT (.int _) (.int _) = some _ | show neT (.int _) (.int _) = some _ | show T.bl _ = T.bl _ | show T.int _ = T.int _)); exact rfl) | ((with_reducible (first | show isiT _ _ = some _ | show isT _ _ = some _ | show isNT _ _ = some _ | show isisT _ _ = some _)); first | exact (rfl : _ = some (T.bl true)) | exact (rfl : _ = some (T.bl false)) | exact rfl) | fail)
      | fail)
        refine ⟨fun hz => ?_, fun hz => ?_⟩
        · repeat' (first
      | with_reducible (first | refine WS_seq ?_ | refine WS_set ?_ | refine WS_ret ?_ | refine WS_if ?_ | refine WS_drop ?_ | refine WS_nx ?_ | refine WE_bin ?_ | refine WE_cons ?_ | refine WE_nil ?_ | refine WE_k ?_ | refine WE_app ?_ | refine WE_un ?_ | refine WE_B ?_ | refine WE_notC ?_ | refine WE_call ?_ | refine WE_callK ?_ | refine WE_lst ?_ | refine WE_tup ?_ | refine WE_chain ?_ | refine WE_andV ?_ | refine WE_orV ?_ | refine WE_notV ?_ | refine WE_andC ?_ | refine WE_orC ?_ | refine WE_if ?_ | refine WS_par2 ?_ | refine WS_par3 ?_ | refine WE_rg1 ?_ | refine WE_rg2 ?_ | refine WE_items ?_ | refine WE_enum ?_ | refine WE_zip ?_ | refine WE_revd ?_ | refine WE_callG ?_ | refine WS_put ?_ | refine WS_app ?_ | refine WE_pix ?_ | refine WE_sl ?_ | refine WE_p0 ?_ | refine WE_p1 ?_ | refine WE_true ?_ | refine WE_bor ?_ | refine WE_borC ?_ | refine WE_mt ?_ | refine WS_asg ?_) | ((with_reducible apply WE_var); (case h => exact rfl))
      | ((with_reducible refine And.intro ?_ ?_); (with_reducible first | exact ff1 | exact ff2 | exact ff3 | exact ff4 | exact ff5 | fail); (intro _))
      | ((with_reducible refine And.intro ?_ ?_); rotate_left; (with_reducible first | exact tt1 | exact tt2 | exact tt3 | exact tt4 | exact tt5 | fail); (intro _))
      | ((with_reducible apply Exists.intro); (with_reducible apply And.intro); first | ((with_reducible (first | show addT (.int _) (.int _) = some _ | show subT (.int _) (.int _) = some _ | show negT (.int _) = some _ | show ltT (.int _) (.int _) = some _ | show leT (.int _) (.int _) = some _ | show gtT (.int _) (.int _) = some _ | show geT (.int _) (.int _) = some _ | show intT [.int _] = some _ | show max2T [.int _, .int _] = some _ | show min2T [.int _, .int _] = some _ | show absT [.int _] = some _ | show eqT (.int _) (.int _) = some _ | show neT (.int _) (.int _) = some _ | show T.bl _ = T.bl _ | show T.int _ = T.int _)); exact rfl) | ((with_reducible (first | show isiT _ _ = some _ | show isT _ _ = some _ | show isNT _ _ = some _ | show isisT _ _ = some _)); first | exact (rfl : _ = some (T.bl true)) | exact (rfl : _ = some (T.bl false)) | exact rfl) | fail)
      | fail)
          refine ⟨_, sumT_row _, ?_⟩
          repeat' (first
      | with_reducible (first | refine WS_seq ?_ | refine WS_set ?_ | refine WS_ret ?_ | refine WS_if ?_ | refine WS_drop ?_ | refine WS_nx ?_ | refine WE_bin ?_ | refine WE_cons ?_ | refine WE_nil ?_ | refine WE_k ?_ | refine WE_app ?_ | refine WE_un ?_ | refine WE_B ?_ | refine WE_notC ?_ | refine WE_call ?_ | refine WE_callK ?_ | refine WE_lst ?_ | refine WE_tup ?_ | refine WE_chain ?_ | refine WE_andV ?_ | refine WE_orV ?_ | refine WE_notV ?_ | refine WE_andC ?_ | refine WE_orC ?_ | refine WE_if ?_ | refine WS_par2 ?_ | refine WS_par3 ?_ | refine WE_rg1 ?_ | refine WE_rg2 ?_ | refine WE_items ?_ | refine WE_enum ?_ | refine WE_zip ?_ | refine WE_revd ?_ | refine WE_callG ?_ | refine WS_put ?_ | refine WS_app ?_ | refine WE_pix ?_ | refine WE_sl ?_ | refine WE_p0 ?_ | refine WE_p1 ?_ | refine WE_true ?_ | refine WE_bor ?_ | refine WE_borC ?_ | refine WE_mt ?_ | refine WS_asg ?_) | ((with_reducible apply WE_var); (case h => exact rfl))
      | ((with_reducible refine And.intro ?_ ?_); (with_reducible first | exact ff1 | exact ff2 | exact ff3 | exact ff4 | exact ff5 | fail); (intro _))
      | ((with_reducible refine And.intro ?_ ?_); rotate_left; (with_reducible first | exact tt1 | exact tt2 | exact tt3 | exact tt4 | exact tt5 | fail); (intro _))
      | ((with_reducible apply Exists.intro); (with_reducible apply And.intro); first | ((with_reducible (first | show addT (.int _) (.int _) = some _ | show subT (.int _) (.int _) = some _ | show negT (.int _) = some _ | show ltT (.int _) (.int _) = some _ | show leT (.int _) (.int _) = some _ | show gtT (.int _) (.int _) = some _ | show geT (.int _) (.int _) = some _ | show intT [.int _] = some _ | show max2T [.int _, .int _] = some _ | show min2T [.int _, .int _] = some _ | show absT [.int _] = some _ | show eqT (.int _) (.int _) = some _ | show neT (.int _) (.int _) = some _ | show T.bl _ = T.bl _ | show T.int _ = T.int _)); exact rfl) | ((with_reducible (first | show isiT _ _ = some _ | show isT _ _ = some _ | show isNT _ _ = some _ | show isisT _ _ = some _)); first | exact (rfl : _ = some (T.bl true)) | exact (rfl : _ = some (T.bl false)) | exact rfl) | fail)
      | fail)
          refine ⟨by rw [hz, Bool.true_and], (fun _ => rfl), fun _ => ?_⟩
          repeat' (first
      | with_reducible (first | refine WS_seq ?_ | refine WS_set ?_ | refine WS_ret ?_ | refine WS_if ?_ | refine WS_drop ?_ | refine WS_nx ?_ | refine WE_bin ?_ | refine WE_cons ?_ | refine WE_nil ?_ | refine WE_k ?_ | refine WE_app ?_ | refine WE_un ?_ | refine WE_B ?_ | refine WE_notC ?_ | refine WE_call ?_ | refine WE_callK ?_ | refine WE_lst ?_ | refine WE_tup ?_ | refine WE_chain ?_ | refine WE_andV ?_ | refine WE_orV ?_ | refine WE_notV ?_ | refine WE_andC ?_ | refine WE_orC ?_ | refine WE_if ?_ | refine WS_par2 ?_ | refine WS_par3 ?_ | refine WE_rg1 ?_ | refine WE_rg2 ?_ | refine WE_items ?_ | refine WE_enum ?_ | refine WE_zip ?_ | refine WE_revd ?_ | refine WE_callG ?_ | refine WS_put ?_ | refine WS_app ?_ | refine WE_pix ?_ | refine WE_sl ?_ | refine WE_p0 ?_ | refine WE_p1 ?_ | refine WE_true ?_ | refine WE_bor ?_ | refine WE_borC ?_ | refine WE_mt ?_ | refine WS_asg ?_) | ((with_reducible apply WE_var); (case h => exact rfl))
      | ((with_reducible refine And.intro ?_ ?_); (with_reducible first | exact ff1 | exact ff2 | exact ff3 | exact ff4 | exact ff5 | fail); (intro _))
      | ((with_reducible refine And.intro ?_ ?_); rotate_left; (with_reducible first | exact tt1 | exact tt2 | exact tt3 | exact tt4 | exact tt5 | fail); (intro _))
      | ((with_reducible apply Exists.intro); (with_reducible apply And.intro); first | ((with_reducible (first | show addT (.int _) (.int _) = some _ | show subT (.int _) (.int _) = some _ | show negT (.int _) = some _ | show ltT (.int _) (.int _) = some _ | show leT (.int _) (.int _) = some _ | show gtT (.int _) (.int _) = some _ | show geT (.int _) (.int _) = some _ | show intT [.int _] = some _ | show max2T [.int _, .int _] = some _ | show min2T [.int _, .int _] = some _ | show absT [.int _] = some _ | show eqT (.int _) (.int _) = some _ | show neT (.int _) (.int _) = some _ | show T.bl _ = T.bl _ | show T.int _ = T.int _)); exact rfl) | ((with_reducible (first | show isiT _ _ = some _ | show isT _ _ = some _ | show isNT _ _ = some _ | show isisT _ _ = some _)); first | exact (rfl : _ = some (T.bl true)) | exact (rfl : _ = some (T.bl false)) | exact rfl) | fail)
      | fail)
          refine ⟨by show 1 ≤ LIM; decide, _, addT_row (y := [l]) (by rw [hrl]; simp only [LIM, List.length_singleton]; omega), rfl, rfl⟩
        · refine ⟨by rw [hz, Bool.false_and], (fun _ => rfl), fun h => ?_⟩
          rw [hz, Bool.false_and] at h
          cases h
      · unfold nextR
        rw [List.map_map]
        rfl
    · rw [all_true]
      repeat' (first
      | with_reducible (first | refine WS_seq ?_ | refine WS_set ?_ | refine WS_ret ?_ | refine WS_if ?_ | refine WS_drop ?_ | refine WS_nx ?_ | refine WE_bin ?_ | refine WE_cons ?_ | refine WE_nil ?_ | refine WE_k ?_ | refine WE_app ?_ | refine WE_un ?_ | refine WE_B ?_ | refine WE_notC ?_ | refine WE_call ?_ | refine WE_callK ?_ | refine WE_lst ?_ | refine WE_tup ?_ | refine WE_chain ?_ | refine WE_andV ?_ | refine WE_orV ?_ | refine WE_notV ?_ | refine WE_andC ?_ | refine WE_orC ?_ | refine WE_if ?_ | refine WS_par2 ?_ | refine WS_par3 ?_ | refine WE_rg1 ?_ | refine WE_rg2 ?_ | refine WE_items ?_ | refine WE_enum ?_ | refine WE_zip ?_ | refine WE_revd ?_ | refine WE_callG ?_ | refine WS_put ?_ | refine WS_app ?_ | refine WE_pix ?_ | refine WE_sl ?_ | refine WE_p0 ?_ | refine WE_p1 ?_ | refine WE_true ?_ | refine WE_bor ?_ | refine WE_borC ?_ | refine WE_mt ?_ | refine WS_asg ?_) | ((with_reducible apply WE_var); (case h => exact rfl))
      | ((with_reducible refine And.intro ?_ ?_); (with_reducible first | exact ff1 | exact ff2 | exact ff3 | exact ff4 | exact ff5 | fail); (intro _))
      | ((with_reducible refine And.intro ?_ ?_); rotate_left; (with_reducible first | exact tt1 | exact tt2 | exact tt3 | exact tt4 | exact tt5 | fail); (intro _))
      | ((with_reducible apply Exists.intro); (with_reducible apply And.intro); first | ((with_reducible (first | show addT (.int _) (.int _) = some _ | show subT (.int _) (.int _) = some _ | show negT (.int _) = some _ | show ltT (.int _) (.int _) = some _ | show leT (.int _) (.int _) = some _ | show gtT (.int _) (.int _) = some _ | show geT (.int _) (.int _) = some _ | show intT [.int _] = some _ | show max2T [.int _, .int _] = some _ | show min2T [.int _, .int _] = some _ | show absT [.int _] = some _ | show eqT (.int _) (.int _) = some _ | show neT (.int _) (.int _) = some _ | show T.bl _ = T.bl _ | show T.int _ = T.int _)); exact rfl) | ((with_reducible (first | show isiT _ _ = some _ | show isT _ _ = some _ | show isNT _ _ = some _ | show isisT _ _ = some _)); first | exact (rfl : _ = some (T.bl true)) | exact (rfl : _ = some (T.bl false)) | exact rfl) | fail)
      | fail)
      refine ⟨by show 0 ≤ LIM; decide, .lst ((lvl n k (i + 1)).map rowT), ?_, ?_⟩
      · show (listsT _).bind _ = _
        rw [listsT_map (fun row => (nextR n k i row).map rowT)]
        have e : ((lvl n k i).map fun row => (nextR n k i row).map rowT).flatten = (lvl n k (i + 1)).map rowT := by
          show _ = (((lvl n k i).map (nextR n k i)).flatten).map rowT
          rw [List.map_flatten, List.map_map]
          rfl
        simp only [Option.bind_some]
        rw [e, List.length_map, if_pos (by simp only [LIM, List.length_nil]; omega)]
        rfl
      · try simp only [List.map_cons, List.map_nil, List.cons_append, List.nil_append, List.length_cons, List.length_nil, Nat.zero_add, Nat.reduceAdd, Nat.reduceSub, Nat.sub_self, List.replicate_zero, List.replicate_succ, List.append_nil, List.set_cons_zero, List.set_cons_succ]
        exact ⟨_, _, _, rfl, by omega, trivial⟩
  · obtain ⟨x, y, z, rfl, h3, -⟩ := hs
    repeat' (first
      | with_reducible (first | refine WS_seq ?_ | refine WS_set ?_ | refine WS_ret ?_ | refine WS_if ?_ | refine WS_drop ?_ | refine WS_nx ?_ | refine WE_bin ?_ | refine WE_cons ?_ | refine WE_nil ?_ | refine WE_k ?_ | refine WE_app ?_ | refine WE_un ?_ | refine WE_B ?_ | refine WE_notC ?_ | refine WE_call ?_ | refine WE_callK ?_ | refine WE_lst ?_ | refine WE_tup ?_ | refine WE_chain ?_ | refine WE_andV ?_ | refine WE_orV ?_ | refine WE_notV ?_ | refine WE_andC ?_ | refine WE_orC ?_ | refine WE_if ?_ | refine WS_par2 ?_ | refine WS_par3 ?_ | refine WE_rg1 ?_ | refine WE_rg2 ?_ | refine WE_items ?_ | refine WE_enum ?_ | refine WE_zip ?_ | refine WE_revd ?_ | refine WE_callG ?_ | refine WS_put ?_ | refine WS_app ?_ | refine WE_pix ?_ | refine WE_sl ?_ | refine WE_p0 ?_ | refine WE_p1 ?_ | refine WE_true ?_ | refine WE_bor ?_ | refine WE_borC ?_ | refine WE_mt ?_ | refine WS_asg ?_) | ((with_reducible apply WE_var); (case h => exact rfl))
      | ((with_reducible refine And.intro ?_ ?_); (with_reducible first | exact ff1 | exact ff2 | exact ff3 | exact ff4 | exact ff5 | fail); (intro _))
      | ((with_reducible refine And.intro ?_ ?_); rotate_left; (with_reducible first | exact tt1 | exact tt2 | exact tt3 | exact tt4 | exact tt5 | fail); (intro _))
      | ((with_reducible apply Exists.intro); (with_reducible apply And.intro); first | ((with_reducible (first | show addT (.int _) (.int _) = some _ | show subT (.int _) (.int _) = some _ | show negT (.int _) = some _ | show ltT (.int _) (.int _) = some _ | show leT (.int _) (.int _) = some _ | show gtT (.int _) (.int _) = some _ | show geT (.int _) (.int _) = some _ | show intT [.int _] = some _ | show max2T [.int _, .int _] = some _ | show min2T [.int _, .int _] = some _ | show absT [.int _] = some _ | show eqT (.int _) (.int _) = some _ | show neT (.int _) (.int _) = some _ | show T.bl _ = T.bl _ | show T.int _ = T.int _)); exact rfl) | ((with_reducible (first | show isiT _ _ = some _ | show isT _ _ = some _ | show isNT _ _ = some _ | show isisT _ _ = some _)); first | exact (rfl : _ = some (T.bl true)) | exact (rfl : _ = some (T.bl false)) | exact rfl) | fail)
      | fail)
    rw [rangeT_len, show (n - 0).toNat = n.toNat by omega]
    exact q
end
end G
namespace G
open PySem L2 Tc
section
variable {χ : T → List T → Prop} {ζ : Str → T → Prop}
theorem small {n k : Nat} (h1 : 1 ≤ n) (h2 : n ≤ 11) (h3 : k ≤ n) : (∃ e, (lvl n k n).filter evenB = rnd n k :: e) ∧ sortR ((lvl n k n).filter evenB) = uniq (sortR (turnsR (rnd n k))) := by
  have h := List.all_eq_true.mp chk_all n (List.mem_range'_1.mpr ⟨h1, by omega⟩)
  have h := List.all_eq_true.mp h k (List.mem_range.mpr (by omega))
  have e : (lvl n k n).filter evF = (lvl n k n).filter evenB := by
    congr 1
    funext r
    exact (even_eq r).symm
  unfold chk at h
  rw [e] at h
  obtain ⟨a, b⟩ := Bool.and_eq_true_iff.mp h
  have a := eq_of_beq a
  refine ⟨?_, eq_of_beq b⟩
  cases z : (lvl n k n).filter evenB with
  | nil => rw [z] at a; cases a
  | cons x xs =>
    rw [z] at a
    cases a
    exact ⟨xs, rfl⟩
theorem rnd_bits {n k : Int} (n1 : 1 ≤ n) (k1 : 0 ≤ k) (k2 : k ≤ n) : Bits (rnd n k) := by
  intro x hx
  obtain ⟨i, hi, rfl⟩ := List.mem_iff_getElem.mp hx
  rw [rnd_get]
  have h := gq_gap (n := n) (k := k) (by omega) i 1
  unfold gq at *
  have e1 : k * 1 / n ≤ 1 := by
    have := Int.ediv_le_ediv (a := k * 1) (b := n) (c := n) (by omega) (by omega)
    rw [Int.ediv_self (by omega)] at this
    exact this
  have e0 : 0 ≤ k * 1 / n := Int.ediv_nonneg (by omega) (by omega)
  have e2 : k = n → k * (i + 1) / n - k * i / n = 1 := by
    intro e
    subst e
    rw [Int.mul_ediv_cancel_left _ (by omega), Int.mul_ediv_cancel_left _ (by omega)]
    omega
  by_cases e : k = n
  · rw [e2 e]; omega
  · have e3 : k * 1 / n = 0 := Int.ediv_eq_zero_of_lt (by omega) (by omega)
    omega
def enumI (k : Nat) : List (List Int) → List (Nat × List Int)
  | [] => []
  | t :: ts => (k, t) :: enumI (k + 1) ts
def encE (p : Nat × List Int) : T := .tup [.int (p.1 : Nat), rowT p.2]
theorem enumT_rows : ∀ (k : Nat) (xs : List (List Int)), enumT k (xs.map rowT) = (enumI k xs).map encE
  | _, [] => rfl
  | k, x :: xs => by
    show T.tup [.int (k : Nat), rowT x] :: enumT (k + 1) (xs.map rowT) = _
    rw [enumT_rows (k + 1) xs]; rfl
theorem enumI_mem : ∀ {k : Nat} {xs : List (List Int)} {p : Nat × List Int}, p ∈ enumI k xs → k ≤ p.1 ∧ xs[p.1 - k]? = some p.2
  | _, [], _, h => nomatch h
  | k, x :: xs, p, h => by
    rcases List.mem_cons.mp h with e | e
    · subst e
      exact ⟨Nat.le_refl _, by simp⟩
    · obtain ⟨a, b⟩ := enumI_mem e
      refine ⟨by omega, ?_⟩
      rw [show p.1 - k = (p.1 - (k + 1)) + 1 by omega]
      simpa using b
theorem enumI_len : ∀ (k : Nat) (xs : List (List Int)), (enumI k xs).length = xs.length
  | _, [] => rfl
  | k, x :: xs => congrArg (· + 1) (enumI_len (k + 1) xs)
def keepE (S : List (List Int)) (p : Nat × List Int) : Bool := decide (p.1 = 0) || !decide (S.getD (p.1 - 1) [] = p.2)
theorem keep_firsts {S : List (List Int)} : ∀ (rest pre : List (List Int)) (p : List Int), S = pre ++ p :: rest → ((enumI (pre.length + 1) rest).filter (keepE S)).map Prod.snd = firsts p rest
  | [], _, _, _ => rfl
  | r :: rest, pre, p, h => by
    have ih := keep_firsts (S := S) rest (pre ++ [p]) r (by rw [h]; simp)
    have e : S.getD pre.length [] = p := by rw [h]; simp
    rw [List.length_append, List.length_singleton] at ih
    have ek : keepE S (pre.length + 1, r) = !decide (p = r) := by
      unfold keepE
      simp only [Nat.add_sub_cancel, e]
      simp
    show (((pre.length + 1, r) :: enumI (pre.length + 1 + 1) rest).filter (keepE S)).map Prod.snd = if p == r then firsts r rest else r :: firsts r rest
    rw [List.filter_cons, ek]
    by_cases hp : p = r
    · subst hp
      simp only [decide_true, Bool.not_true, Bool.false_eq_true, if_false, beq_self_eq_true, if_true]
      exact ih
    · have hb : (p == r) = false := beq_eq_false_iff_ne.mpr hp
      simp only [hp, decide_false, Bool.not_false, if_true, hb, Bool.false_eq_true, if_false, List.map_cons]
      rw [ih]
theorem keep_uniq (S : List (List Int)) : ((enumI 0 S).filter (keepE S)).map Prod.snd = uniq S := by
  cases S with
  | nil => rfl
  | cons s ss =>
    have h := keep_firsts (S := s :: ss) ss [] s rfl
    have ek : keepE (s :: ss) (0, s) = true := by unfold keepE; simp
    show (((0, s) :: enumI 1 ss).filter (keepE (s :: ss))).map Prod.snd = s :: firsts s ss
    rw [List.filter_cons, ek, if_pos rfl, List.map_cons, ← h]
    rfl
theorem turns_len (r : List Int) : (turnsR r).length = r.length := by simp [turnsR]
theorem turns_row {r t : List Int} (h : t ∈ turnsR r) : t.length = r.length := by
  obtain ⟨i, hi, rfl⟩ := List.mem_map.mp h
  have := List.mem_range.mp hi
  simp
  omega
theorem turns_head {r : List Int} (h : 1 ≤ r.length) : ∃ ts, turnsR r = r :: ts := by
  obtain ⟨m, hm⟩ : ∃ m, r.length = m + 1 := ⟨r.length - 1, by omega⟩
  unfold turnsR
  rw [hm, List.range_succ_eq_map, List.map_cons]
  exact ⟨_, by rw [List.drop_zero, List.take_zero, List.append_nil]⟩
theorem uniq_sub : ∀ {xs : List (List Int)} {x : List Int}, x ∈ uniq xs → x ∈ xs := by
  have key : ∀ (xs : List (List Int)) (p x : List Int), x ∈ firsts p xs → x ∈ xs := by
    intro xs
    induction xs with
    | nil => intro p x h; exact h
    | cons y ys ih =>
      intro p x h
      unfold firsts at h
      split at h
      · exact List.mem_cons_of_mem _ (ih y x h)
      · rcases List.mem_cons.mp h with e | e
        · rw [e]; exact List.mem_cons_self ..
        · exact List.mem_cons_of_mem _ (ih y x e)
  intro xs x h
  cases xs with
  | nil => exact h
  | cons y ys =>
    rcases List.mem_cons.mp h with e | e
    · rw [e]; exact List.mem_cons_self ..
    · exact List.mem_cons_of_mem _ (key ys y x e)
theorem uniq_len (xs : List (List Int)) : (uniq xs).length ≤ xs.length := by
  have key : ∀ (xs : List (List Int)) (p : List Int), (firsts p xs).length ≤ xs.length := by
    intro xs
    induction xs with
    | nil => intro p; exact Nat.le_refl _
    | cons y ys ih =>
      intro p
      unfold firsts
      split
      · exact Nat.le_trans (ih y) (Nat.le_succ _)
      · exact Nat.succ_le_succ (ih y)
  cases xs with
  | nil => exact Nat.le_refl _
  | cons y ys => exact Nat.succ_le_succ (key ys y)
section
variable {s0 s1 s2 s5 s6 s7 s8 s9 : Option T} {nx : Bool → Sl → Prop} {ex : Xp} {n k : Nat}
/-- the sorted even rows are the turns, each once -/
theorem lots_ok (h1 : 1 ≤ n) (h2 : n ≤ 11) (h3 : k ≤ n) {e : List (List Int)} (he : e = (lvl n k n).filter evenB) (q : nx true [s0, s1, s2, some (rowT (rnd n k)), some (.lst (e.map rowT)), s5, s6, s7, s8, s9, none, none]) :
    WE (cB (cBor (cCall (m_law_same 12) (cCons (cApp sortDT (cCons (cVar 4) cNil)) (cCons (cLc [10, 11] (cEnum (cCons (cApp sortDT (cCons (cCall m_law_turns (cCons (cVar 3) cNil)) cNil)) cNil)) (gTupT (gConsT (gSet 10) (gConsT (gSet 11) gNilT))) (cOrC (cB (cBin eqT (cVar 10) (cK (.int 0)))) (cB (cBin neT (cBin ixT (cApp sortDT (cCons (cCall m_law_turns (cCons (cVar 3) cNil)) cNil)) (cBin subT (cVar 10) (cK (.int 1)))) (cVar 11)))) (cVar 11)) cNil))))
     [s0, s1, s2, some (rowT (rnd n k)), some (.lst (e.map rowT)), s5, s6, s7, s8, s9, none, none]) nx ex := by
  have hr : (rnd n k).length = n := by rw [rnd_len]; omega
  have hS : (sortR (turnsR (rnd n k))).length = n := by rw [(sortR_perm _).length_eq, turns_len, hr]
  repeat' (first
      | with_reducible (first | refine WS_seq ?_ | refine WS_set ?_ | refine WS_ret ?_ | refine WS_if ?_ | refine WS_drop ?_ | refine WS_nx ?_ | refine WE_bin ?_ | refine WE_cons ?_ | refine WE_nil ?_ | refine WE_k ?_ | refine WE_app ?_ | refine WE_un ?_ | refine WE_B ?_ | refine WE_notC ?_ | refine WE_call ?_ | refine WE_callK ?_ | refine WE_lst ?_ | refine WE_tup ?_ | refine WE_chain ?_ | refine WE_andV ?_ | refine WE_orV ?_ | refine WE_notV ?_ | refine WE_andC ?_ | refine WE_orC ?_ | refine WE_if ?_ | refine WS_par2 ?_ | refine WS_par3 ?_ | refine WE_rg1 ?_ | refine WE_rg2 ?_ | refine WE_items ?_ | refine WE_enum ?_ | refine WE_zip ?_ | refine WE_revd ?_ | refine WE_callG ?_ | refine WS_put ?_ | refine WS_app ?_ | refine WE_pix ?_ | refine WE_sl ?_ | refine WE_p0 ?_ | refine WE_p1 ?_ | refine WE_true ?_ | refine WE_bor ?_ | refine WE_borC ?_ | refine WE_mt ?_ | refine WS_asg ?_) | ((with_reducible apply WE_var); (case h => exact rfl))
      | ((with_reducible refine And.intro ?_ ?_); (with_reducible first | exact ff1 | exact ff2 | exact ff3 | exact ff4 | exact ff5 | fail); (intro _))
      | ((with_reducible refine And.intro ?_ ?_); rotate_left; (with_reducible first | exact tt1 | exact tt2 | exact tt3 | exact tt4 | exact tt5 | fail); (intro _))
      | ((with_reducible apply Exists.intro); (with_reducible apply And.intro); first | ((with_reducible (first | show addT (.int _) (.int _) = some _ | show subT (.int _) (.int _) = some _ | show negT (.int _) = some _ | show ltT (.int _) (.int _) = some _ | show leT (.int _) (.int _) = some _ | show gtT (.int _) (.int _) = some _ | show geT (.int _) (.int _) = some _ | show intT [.int _] = some _ | show max2T [.int _, .int _] = some _ | show min2T [.int _, .int _] = some _ | show absT [.int _] = some _ | show eqT (.int _) (.int _) = some _ | show neT (.int _) (.int _) = some _ | show T.bl _ = T.bl _ | show T.int _ = T.int _)); exact rfl) | ((with_reducible (first | show isiT _ _ = some _ | show isT _ _ = some _ | show isNT _ _ = some _ | show isisT _ _ = some _)); first | exact (rfl : _ = some (T.bl true)) | exact (rfl : _ = some (T.bl false)) | exact rfl) | fail)
      | fail)
  refine ⟨_, sortDT_rows e, ?_⟩
  repeat' (first
      | with_reducible (first | refine WS_seq ?_ | refine WS_set ?_ | refine WS_ret ?_ | refine WS_if ?_ | refine WS_drop ?_ | refine WS_nx ?_ | refine WE_bin ?_ | refine WE_cons ?_ | refine WE_nil ?_ | refine WE_k ?_ | refine WE_app ?_ | refine WE_un ?_ | refine WE_B ?_ | refine WE_notC ?_ | refine WE_call ?_ | refine WE_callK ?_ | refine WE_lst ?_ | refine WE_tup ?_ | refine WE_chain ?_ | refine WE_andV ?_ | refine WE_orV ?_ | refine WE_notV ?_ | refine WE_andC ?_ | refine WE_orC ?_ | refine WE_if ?_ | refine WS_par2 ?_ | refine WS_par3 ?_ | refine WE_rg1 ?_ | refine WE_rg2 ?_ | refine WE_items ?_ | refine WE_enum ?_ | refine WE_zip ?_ | refine WE_revd ?_ | refine WE_callG ?_ | refine WS_put ?_ | refine WS_app ?_ | refine WE_pix ?_ | refine WE_sl ?_ | refine WE_p0 ?_ | refine WE_p1 ?_ | refine WE_true ?_ | refine WE_bor ?_ | refine WE_borC ?_ | refine WE_mt ?_ | refine WS_asg ?_) | ((with_reducible apply WE_var); (case h => exact rfl))
      | ((with_reducible refine And.intro ?_ ?_); (with_reducible first | exact ff1 | exact ff2 | exact ff3 | exact ff4 | exact ff5 | fail); (intro _))
      | ((with_reducible refine And.intro ?_ ?_); rotate_left; (with_reducible first | exact tt1 | exact tt2 | exact tt3 | exact tt4 | exact tt5 | fail); (intro _))
      | ((with_reducible apply Exists.intro); (with_reducible apply And.intro); first | ((with_reducible (first | show addT (.int _) (.int _) = some _ | show subT (.int _) (.int _) = some _ | show negT (.int _) = some _ | show ltT (.int _) (.int _) = some _ | show leT (.int _) (.int _) = some _ | show gtT (.int _) (.int _) = some _ | show geT (.int _) (.int _) = some _ | show intT [.int _] = some _ | show max2T [.int _, .int _] = some _ | show min2T [.int _, .int _] = some _ | show absT [.int _] = some _ | show eqT (.int _) (.int _) = some _ | show neT (.int _) (.int _) = some _ | show T.bl _ = T.bl _ | show T.int _ = T.int _)); exact rfl) | ((with_reducible (first | show isiT _ _ = some _ | show isT _ _ = some _ | show isNT _ _ = some _ | show isisT _ _ = some _)); first | exact (rfl : _ = some (T.bl true)) | exact (rfl : _ = some (T.bl false)) | exact rfl) | fail)
      | fail)
  refine WE_lcM encE (enumI 0 (sortR (turnsR (rnd n k)))) (keepE (sortR (turnsR (rnd n k)))) (fun p => rowT p.2) ?_
  repeat' (first
      | with_reducible (first | refine WS_seq ?_ | refine WS_set ?_ | refine WS_ret ?_ | refine WS_if ?_ | refine WS_drop ?_ | refine WS_nx ?_ | refine WE_bin ?_ | refine WE_cons ?_ | refine WE_nil ?_ | refine WE_k ?_ | refine WE_app ?_ | refine WE_un ?_ | refine WE_B ?_ | refine WE_notC ?_ | refine WE_call ?_ | refine WE_callK ?_ | refine WE_lst ?_ | refine WE_tup ?_ | refine WE_chain ?_ | refine WE_andV ?_ | refine WE_orV ?_ | refine WE_notV ?_ | refine WE_andC ?_ | refine WE_orC ?_ | refine WE_if ?_ | refine WS_par2 ?_ | refine WS_par3 ?_ | refine WE_rg1 ?_ | refine WE_rg2 ?_ | refine WE_items ?_ | refine WE_enum ?_ | refine WE_zip ?_ | refine WE_revd ?_ | refine WE_callG ?_ | refine WS_put ?_ | refine WS_app ?_ | refine WE_pix ?_ | refine WE_sl ?_ | refine WE_p0 ?_ | refine WE_p1 ?_ | refine WE_true ?_ | refine WE_bor ?_ | refine WE_borC ?_ | refine WE_mt ?_ | refine WS_asg ?_) | ((with_reducible apply WE_var); (case h => exact rfl))
      | ((with_reducible refine And.intro ?_ ?_); (with_reducible first | exact ff1 | exact ff2 | exact ff3 | exact ff4 | exact ff5 | fail); (intro _))
      | ((with_reducible refine And.intro ?_ ?_); rotate_left; (with_reducible first | exact tt1 | exact tt2 | exact tt3 | exact tt4 | exact tt5 | fail); (intro _))
      | ((with_reducible apply Exists.intro); (with_reducible apply And.intro); first | ((with_reducible (first | show addT (.int _) (.int _) = some _ | show subT (.int _) (.int _) = some _ | show negT (.int _) = some _ | show ltT (.int _) (.int _) = some _ | show leT (.int _) (.int _) = some _ | show gtT (.int _) (.int _) = some _ | show geT (.int _) (.int _) = some _ | show intT [.int _] = some _ | show max2T [.int _, .int _] = some _ | show min2T [.int _, .int _] = some _ | show absT [.int _] = some _ | show eqT (.int _) (.int _) = some _ | show neT (.int _) (.int _) = some _ | show T.bl _ = T.bl _ | show T.int _ = T.int _)); exact rfl) | ((with_reducible (first | show isiT _ _ = some _ | show isT _ _ = some _ | show isNT _ _ = some _ | show isisT _ _ = some _)); first | exact (rfl : _ = some (T.bl true)) | exact (rfl : _ = some (T.bl false)) | exact rfl) | fail)
      | fail)
  refine turns_ok (by omega) ?_
  repeat' (first
      | with_reducible (first | refine WS_seq ?_ | refine WS_set ?_ | refine WS_ret ?_ | refine WS_if ?_ | refine WS_drop ?_ | refine WS_nx ?_ | refine WE_bin ?_ | refine WE_cons ?_ | refine WE_nil ?_ | refine WE_k ?_ | refine WE_app ?_ | refine WE_un ?_ | refine WE_B ?_ | refine WE_notC ?_ | refine WE_call ?_ | refine WE_callK ?_ | refine WE_lst ?_ | refine WE_tup ?_ | refine WE_chain ?_ | refine WE_andV ?_ | refine WE_orV ?_ | refine WE_notV ?_ | refine WE_andC ?_ | refine WE_orC ?_ | refine WE_if ?_ | refine WS_par2 ?_ | refine WS_par3 ?_ | refine WE_rg1 ?_ | refine WE_rg2 ?_ | refine WE_items ?_ | refine WE_enum ?_ | refine WE_zip ?_ | refine WE_revd ?_ | refine WE_callG ?_ | refine WS_put ?_ | refine WS_app ?_ | refine WE_pix ?_ | refine WE_sl ?_ | refine WE_p0 ?_ | refine WE_p1 ?_ | refine WE_true ?_ | refine WE_bor ?_ | refine WE_borC ?_ | refine WE_mt ?_ | refine WS_asg ?_) | ((with_reducible apply WE_var); (case h => exact rfl))
      | ((with_reducible refine And.intro ?_ ?_); (with_reducible first | exact ff1 | exact ff2 | exact ff3 | exact ff4 | exact ff5 | fail); (intro _))
      | ((with_reducible refine And.intro ?_ ?_); rotate_left; (with_reducible first | exact tt1 | exact tt2 | exact tt3 | exact tt4 | exact tt5 | fail); (intro _))
      | ((with_reducible apply Exists.intro); (with_reducible apply And.intro); first | ((with_reducible (first | show addT (.int _) (.int _) = some _ | show subT (.int _) (.int _) = some _ | show negT (.int _) = some _ | show ltT (.int _) (.int _) = some _ | show leT (.int _) (.int _) = some _ | show gtT (.int _) (.int _) = some _ | show geT (.int _) (.int _) = some _ | show intT [.int _] = some _ | show max2T [.int _, .int _] = some _ | show min2T [.int _, .int _] = some _ | show absT [.int _] = some _ | show eqT (.int _) (.int _) = some _ | show neT (.int _) (.int _) = some _ | show T.bl _ = T.bl _ | show T.int _ = T.int _)); exact rfl) | ((with_reducible (first | show isiT _ _ = some _ | show isT _ _ = some _ | show isNT _ _ = some _ | show isisT _ _ = some _)); first | exact (rfl : _ = some (T.bl true)) | exact (rfl : _ = some (T.bl false)) | exact rfl) | fail)
      | fail)
  refine ⟨_, sortDT_rows _, ?_⟩
  repeat' (first
      | with_reducible (first | refine WS_seq ?_ | refine WS_set ?_ | refine WS_ret ?_ | refine WS_if ?_ | refine WS_drop ?_ | refine WS_nx ?_ | refine WE_bin ?_ | refine WE_cons ?_ | refine WE_nil ?_ | refine WE_k ?_ | refine WE_app ?_ | refine WE_un ?_ | refine WE_B ?_ | refine WE_notC ?_ | refine WE_call ?_ | refine WE_callK ?_ | refine WE_lst ?_ | refine WE_tup ?_ | refine WE_chain ?_ | refine WE_andV ?_ | refine WE_orV ?_ | refine WE_notV ?_ | refine WE_andC ?_ | refine WE_orC ?_ | refine WE_if ?_ | refine WS_par2 ?_ | refine WS_par3 ?_ | refine WE_rg1 ?_ | refine WE_rg2 ?_ | refine WE_items ?_ | refine WE_enum ?_ | refine WE_zip ?_ | refine WE_revd ?_ | refine WE_callG ?_ | refine WS_put ?_ | refine WS_app ?_ | refine WE_pix ?_ | refine WE_sl ?_ | refine WE_p0 ?_ | refine WE_p1 ?_ | refine WE_true ?_ | refine WE_bor ?_ | refine WE_borC ?_ | refine WE_mt ?_ | refine WS_asg ?_) | ((with_reducible apply WE_var); (case h => exact rfl))
      | ((with_reducible refine And.intro ?_ ?_); (with_reducible first | exact ff1 | exact ff2 | exact ff3 | exact ff4 | exact ff5 | fail); (intro _))
      | ((with_reducible refine And.intro ?_ ?_); rotate_left; (with_reducible first | exact tt1 | exact tt2 | exact tt3 | exact tt4 | exact tt5 | fail); (intro _))
      | ((with_reducible apply Exists.intro); (with_reducible apply And.intro); first | ((with_reducible (first | show addT (.int _) (.int _) = some _ | show subT (.int _) (.int _) = some _ | show negT (.int _) = some _ | show ltT (.int _) (.int _) = some _ | show leT (.int _) (.int _) = some _ | show gtT (.int _) (.int _) = some _ | show geT (.int _) (.int _) = some _ | show intT [.int _] = some _ | show max2T [.int _, .int _] = some _ | show min2T [.int _, .int _] = some _ | show absT [.int _] = some _ | show eqT (.int _) (.int _) = some _ | show neT (.int _) (.int _) = some _ | show T.bl _ = T.bl _ | show T.int _ = T.int _)); exact rfl) | ((with_reducible (first | show isiT _ _ = some _ | show isT _ _ = some _ | show isNT _ _ = some _ | show isisT _ _ = some _)); first | exact (rfl : _ = some (T.bl true)) | exact (rfl : _ = some (T.bl false)) | exact rfl) | fail)
      | fail)
  refine ⟨_, rfl, enumT_rows 0 _, by rw [enumI_len]; omega, (fun k hk => ?_), fun p hp => ?_, ?_⟩
  · simp only [List.mem_cons, List.not_mem_nil, or_false] at hk
    rcases hk with rfl | rfl <;> (show _ < 12; decide)
  · obtain ⟨_, hp2⟩ := enumI_mem hp
    rw [Nat.sub_zero] at hp2
    have hlt := (List.getElem?_eq_some_iff.mp hp2).1
    refine ⟨_, rfl, ?_⟩
    try simp only [List.map_cons, List.map_nil, List.cons_append, List.nil_append, List.length_cons, List.length_nil, Nat.zero_add, Nat.reduceAdd, Nat.reduceSub, Nat.sub_self, List.replicate_zero, List.replicate_succ, List.append_nil, List.set_cons_zero, List.set_cons_succ]
    repeat' (first
      | with_reducible (first | refine WS_seq ?_ | refine WS_set ?_ | refine WS_ret ?_ | refine WS_if ?_ | refine WS_drop ?_ | refine WS_nx ?_ | refine WE_bin ?_ | refine WE_cons ?_ | refine WE_nil ?_ | refine WE_k ?_ | refine WE_app ?_ | refine WE_un ?_ | refine WE_B ?_ | refine WE_notC ?_ | refine WE_call ?_ | refine WE_callK ?_ | refine WE_lst ?_ | refine WE_tup ?_ | refine WE_chain ?_ | refine WE_andV ?_ | refine WE_orV ?_ | refine WE_notV ?_ | refine WE_andC ?_ | refine WE_orC ?_ | refine WE_if ?_ | refine WS_par2 ?_ | refine WS_par3 ?_ | refine WE_rg1 ?_ | refine WE_rg2 ?_ | refine WE_items ?_ | refine WE_enum ?_ | refine WE_zip ?_ | refine WE_revd ?_ | refine WE_callG ?_ | refine WS_put ?_ | refine WS_app ?_ | refine WE_pix ?_ | refine WE_sl ?_ | refine WE_p0 ?_ | refine WE_p1 ?_ | refine WE_true ?_ | refine WE_bor ?_ | refine WE_borC ?_ | refine WE_mt ?_ | refine WS_asg ?_) | ((with_reducible apply WE_var); (case h => exact rfl))
      | ((with_reducible refine And.intro ?_ ?_); (with_reducible first | exact ff1 | exact ff2 | exact ff3 | exact ff4 | exact ff5 | fail); (intro _))
      | ((with_reducible refine And.intro ?_ ?_); rotate_left; (with_reducible first | exact tt1 | exact tt2 | exact tt3 | exact tt4 | exact tt5 | fail); (intro _))
      | ((with_reducible apply Exists.intro); (with_reducible apply And.intro); first | ((with_reducible (first | show addT (.int _) (.int _) = some _ | show subT (.int _) (.int _) = some _ | show negT (.int _) = some _ | show ltT (.int _) (.int _) = some _ | show leT (.int _) (.int _) = some _ | show gtT (.int _) (.int _) = some _ | show geT (.int _) (.int _) = some _ | show intT [.int _] = some _ | show max2T [.int _, .int _] = some _ | show min2T [.int _, .int _] = some _ | show absT [.int _] = some _ | show eqT (.int _) (.int _) = some _ | show neT (.int _) (.int _) = some _ | show T.bl _ = T.bl _ | show T.int _ = T.int _)); exact rfl) | ((with_reducible (first | show isiT _ _ = some _ | show isT _ _ = some _ | show isNT _ _ = some _ | show isisT _ _ = some _)); first | exact (rfl : _ = some (T.bl true)) | exact (rfl : _ = some (T.bl false)) | exact rfl) | fail)
      | fail)
    refine ⟨fun hz => ?_, fun hz => ?_⟩
    · have hz0 : p.1 = 0 := by
        have : ((p.1 : Int) == 0) = true := hz
        have := eq_of_beq this
        omega
      have hk : keepE (sortR (turnsR (rnd n k))) p = true := by unfold keepE; rw [hz0]; rfl
      refine ⟨hk.symm, (fun h => by rw [hk] at h; cases h), fun _ => ?_⟩
      repeat' (first
      | with_reducible (first | refine WS_seq ?_ | refine WS_set ?_ | refine WS_ret ?_ | refine WS_if ?_ | refine WS_drop ?_ | refine WS_nx ?_ | refine WE_bin ?_ | refine WE_cons ?_ | refine WE_nil ?_ | refine WE_k ?_ | refine WE_app ?_ | refine WE_un ?_ | refine WE_B ?_ | refine WE_notC ?_ | refine WE_call ?_ | refine WE_callK ?_ | refine WE_lst ?_ | refine WE_tup ?_ | refine WE_chain ?_ | refine WE_andV ?_ | refine WE_orV ?_ | refine WE_notV ?_ | refine WE_andC ?_ | refine WE_orC ?_ | refine WE_if ?_ | refine WS_par2 ?_ | refine WS_par3 ?_ | refine WE_rg1 ?_ | refine WE_rg2 ?_ | refine WE_items ?_ | refine WE_enum ?_ | refine WE_zip ?_ | refine WE_revd ?_ | refine WE_callG ?_ | refine WS_put ?_ | refine WS_app ?_ | refine WE_pix ?_ | refine WE_sl ?_ | refine WE_p0 ?_ | refine WE_p1 ?_ | refine WE_true ?_ | refine WE_bor ?_ | refine WE_borC ?_ | refine WE_mt ?_ | refine WS_asg ?_) | ((with_reducible apply WE_var); (case h => exact rfl))
      | ((with_reducible refine And.intro ?_ ?_); (with_reducible first | exact ff1 | exact ff2 | exact ff3 | exact ff4 | exact ff5 | fail); (intro _))
      | ((with_reducible refine And.intro ?_ ?_); rotate_left; (with_reducible first | exact tt1 | exact tt2 | exact tt3 | exact tt4 | exact tt5 | fail); (intro _))
      | ((with_reducible apply Exists.intro); (with_reducible apply And.intro); first | ((with_reducible (first | show addT (.int _) (.int _) = some _ | show subT (.int _) (.int _) = some _ | show negT (.int _) = some _ | show ltT (.int _) (.int _) = some _ | show leT (.int _) (.int _) = some _ | show gtT (.int _) (.int _) = some _ | show geT (.int _) (.int _) = some _ | show intT [.int _] = some _ | show max2T [.int _, .int _] = some _ | show min2T [.int _, .int _] = some _ | show absT [.int _] = some _ | show eqT (.int _) (.int _) = some _ | show neT (.int _) (.int _) = some _ | show T.bl _ = T.bl _ | show T.int _ = T.int _)); exact rfl) | ((with_reducible (first | show isiT _ _ = some _ | show isT _ _ = some _ | show isNT _ _ = some _ | show isisT _ _ = some _)); first | exact (rfl : _ = some (T.bl true)) | exact (rfl : _ = some (T.bl false)) | exact rfl) | fail)
      | fail)
      exact ⟨rfl, rfl⟩
    · have hz0 : p.1 ≠ 0 := by
        intro e
        rw [e] at hz
        cases hz
      repeat' (first
      | with_reducible (first | refine WS_seq ?_ | refine WS_set ?_ | refine WS_ret ?_ | refine WS_if ?_ | refine WS_drop ?_ | refine WS_nx ?_ | refine WE_bin ?_ | refine WE_cons ?_ | refine WE_nil ?_ | refine WE_k ?_ | refine WE_app ?_ | refine WE_un ?_ | refine WE_B ?_ | refine WE_notC ?_ | refine WE_call ?_ | refine WE_callK ?_ | refine WE_lst ?_ | refine WE_tup ?_ | refine WE_chain ?_ | refine WE_andV ?_ | refine WE_orV ?_ | refine WE_notV ?_ | refine WE_andC ?_ | refine WE_orC ?_ | refine WE_if ?_ | refine WS_par2 ?_ | refine WS_par3 ?_ | refine WE_rg1 ?_ | refine WE_rg2 ?_ | refine WE_items ?_ | refine WE_enum ?_ | refine WE_zip ?_ | refine WE_revd ?_ | refine WE_callG ?_ | refine WS_put ?_ | refine WS_app ?_ | refine WE_pix ?_ | refine WE_sl ?_ | refine WE_p0 ?_ | refine WE_p1 ?_ | refine WE_true ?_ | refine WE_bor ?_ | refine WE_borC ?_ | refine WE_mt ?_ | refine WS_asg ?_) | ((with_reducible apply WE_var); (case h => exact rfl))
      | ((with_reducible refine And.intro ?_ ?_); (with_reducible first | exact ff1 | exact ff2 | exact ff3 | exact ff4 | exact ff5 | fail); (intro _))
      | ((with_reducible refine And.intro ?_ ?_); rotate_left; (with_reducible first | exact tt1 | exact tt2 | exact tt3 | exact tt4 | exact tt5 | fail); (intro _))
      | ((with_reducible apply Exists.intro); (with_reducible apply And.intro); first | ((with_reducible (first | show addT (.int _) (.int _) = some _ | show subT (.int _) (.int _) = some _ | show negT (.int _) = some _ | show ltT (.int _) (.int _) = some _ | show leT (.int _) (.int _) = some _ | show gtT (.int _) (.int _) = some _ | show geT (.int _) (.int _) = some _ | show intT [.int _] = some _ | show max2T [.int _, .int _] = some _ | show min2T [.int _, .int _] = some _ | show absT [.int _] = some _ | show eqT (.int _) (.int _) = some _ | show neT (.int _) (.int _) = some _ | show T.bl _ = T.bl _ | show T.int _ = T.int _)); exact rfl) | ((with_reducible (first | show isiT _ _ = some _ | show isT _ _ = some _ | show isNT _ _ = some _ | show isisT _ _ = some _)); first | exact (rfl : _ = some (T.bl true)) | exact (rfl : _ = some (T.bl false)) | exact rfl) | fail)
      | fail)
      refine turns_ok (by omega) ?_
      repeat' (first
      | with_reducible (first | refine WS_seq ?_ | refine WS_set ?_ | refine WS_ret ?_ | refine WS_if ?_ | refine WS_drop ?_ | refine WS_nx ?_ | refine WE_bin ?_ | refine WE_cons ?_ | refine WE_nil ?_ | refine WE_k ?_ | refine WE_app ?_ | refine WE_un ?_ | refine WE_B ?_ | refine WE_notC ?_ | refine WE_call ?_ | refine WE_callK ?_ | refine WE_lst ?_ | refine WE_tup ?_ | refine WE_chain ?_ | refine WE_andV ?_ | refine WE_orV ?_ | refine WE_notV ?_ | refine WE_andC ?_ | refine WE_orC ?_ | refine WE_if ?_ | refine WS_par2 ?_ | refine WS_par3 ?_ | refine WE_rg1 ?_ | refine WE_rg2 ?_ | refine WE_items ?_ | refine WE_enum ?_ | refine WE_zip ?_ | refine WE_revd ?_ | refine WE_callG ?_ | refine WS_put ?_ | refine WS_app ?_ | refine WE_pix ?_ | refine WE_sl ?_ | refine WE_p0 ?_ | refine WE_p1 ?_ | refine WE_true ?_ | refine WE_bor ?_ | refine WE_borC ?_ | refine WE_mt ?_ | refine WS_asg ?_) | ((with_reducible apply WE_var); (case h => exact rfl))
      | ((with_reducible refine And.intro ?_ ?_); (with_reducible first | exact ff1 | exact ff2 | exact ff3 | exact ff4 | exact ff5 | fail); (intro _))
      | ((with_reducible refine And.intro ?_ ?_); rotate_left; (with_reducible first | exact tt1 | exact tt2 | exact tt3 | exact tt4 | exact tt5 | fail); (intro _))
      | ((with_reducible apply Exists.intro); (with_reducible apply And.intro); first | ((with_reducible (first | show addT (.int _) (.int _) = some _ | show subT (.int _) (.int _) = some _ | show negT (.int _) = some _ | show ltT (.int _) (.int _) = some _ | show leT (.int _) (.int _) = some _ | show gtT (.int _) (.int _) = some _ | show geT (.int _) (.int _) = some _ | show intT [.int _] = some _ | show max2T [.int _, .int _] = some _ | show min2T [.int _, .int _] = some _ | show absT [.int _] = some _ | show eqT (.int _) (.int _) = some _ | show neT (.int _) (.int _) = some _ | show T.bl _ = T.bl _ | show T.int _ = T.int _)); exact rfl) | ((with_reducible (first | show isiT _ _ = some _ | show isT _ _ = some _ | show isNT _ _ = some _ | show isisT _ _ = some _)); first | exact (rfl : _ = some (T.bl true)) | exact (rfl : _ = some (T.bl false)) | exact rfl) | fail)
      | fail)
      refine ⟨_, sortDT_rows _, ?_⟩
      repeat' (first
      | with_reducible (first | refine WS_seq ?_ | refine WS_set ?_ | refine WS_ret ?_ | refine WS_if ?_ | refine WS_drop ?_ | refine WS_nx ?_ | refine WE_bin ?_ | refine WE_cons ?_ | refine WE_nil ?_ | refine WE_k ?_ | refine WE_app ?_ | refine WE_un ?_ | refine WE_B ?_ | refine WE_notC ?_ | refine WE_call ?_ | refine WE_callK ?_ | refine WE_lst ?_ | refine WE_tup ?_ | refine WE_chain ?_ | refine WE_andV ?_ | refine WE_orV ?_ | refine WE_notV ?_ | refine WE_andC ?_ | refine WE_orC ?_ | refine WE_if ?_ | refine WS_par2 ?_ | refine WS_par3 ?_ | refine WE_rg1 ?_ | refine WE_rg2 ?_ | refine WE_items ?_ | refine WE_enum ?_ | refine WE_zip ?_ | refine WE_revd ?_ | refine WE_callG ?_ | refine WS_put ?_ | refine WS_app ?_ | refine WE_pix ?_ | refine WE_sl ?_ | refine WE_p0 ?_ | refine WE_p1 ?_ | refine WE_true ?_ | refine WE_bor ?_ | refine WE_borC ?_ | refine WE_mt ?_ | refine WS_asg ?_) | ((with_reducible apply WE_var); (case h => exact rfl))
      | ((with_reducible refine And.intro ?_ ?_); (with_reducible first | exact ff1 | exact ff2 | exact ff3 | exact ff4 | exact ff5 | fail); (intro _))
      | ((with_reducible refine And.intro ?_ ?_); rotate_left; (with_reducible first | exact tt1 | exact tt2 | exact tt3 | exact tt4 | exact tt5 | fail); (intro _))
      | ((with_reducible apply Exists.intro); (with_reducible apply And.intro); first | ((with_reducible (first | show addT (.int _) (.int _) = some _ | show subT (.int _) (.int _) = some _ | show negT (.int _) = some _ | show ltT (.int _) (.int _) = some _ | show leT (.int _) (.int _) = some _ | show gtT (.int _) (.int _) = some _ | show geT (.int _) (.int _) = some _ | show intT [.int _] = some _ | show max2T [.int _, .int _] = some _ | show min2T [.int _, .int _] = some _ | show absT [.int _] = some _ | show eqT (.int _) (.int _) = some _ | show neT (.int _) (.int _) = some _ | show T.bl _ = T.bl _ | show T.int _ = T.int _)); exact rfl) | ((with_reducible (first | show isiT _ _ = some _ | show isT _ _ = some _ | show isNT _ _ = some _ | show isisT _ _ = some _)); first | exact (rfl : _ = some (T.bl true)) | exact (rfl : _ = some (T.bl false)) | exact rfl) | fail)
      | fail)
      refine ⟨_, ixT_rows (k := p.1 - 1) (by omega) (by omega), ?_⟩
      repeat' (first
      | with_reducible (first | refine WS_seq ?_ | refine WS_set ?_ | refine WS_ret ?_ | refine WS_if ?_ | refine WS_drop ?_ | refine WS_nx ?_ | refine WE_bin ?_ | refine WE_cons ?_ | refine WE_nil ?_ | refine WE_k ?_ | refine WE_app ?_ | refine WE_un ?_ | refine WE_B ?_ | refine WE_notC ?_ | refine WE_call ?_ | refine WE_callK ?_ | refine WE_lst ?_ | refine WE_tup ?_ | refine WE_chain ?_ | refine WE_andV ?_ | refine WE_orV ?_ | refine WE_notV ?_ | refine WE_andC ?_ | refine WE_orC ?_ | refine WE_if ?_ | refine WS_par2 ?_ | refine WS_par3 ?_ | refine WE_rg1 ?_ | refine WE_rg2 ?_ | refine WE_items ?_ | refine WE_enum ?_ | refine WE_zip ?_ | refine WE_revd ?_ | refine WE_callG ?_ | refine WS_put ?_ | refine WS_app ?_ | refine WE_pix ?_ | refine WE_sl ?_ | refine WE_p0 ?_ | refine WE_p1 ?_ | refine WE_true ?_ | refine WE_bor ?_ | refine WE_borC ?_ | refine WE_mt ?_ | refine WS_asg ?_) | ((with_reducible apply WE_var); (case h => exact rfl))
      | ((with_reducible refine And.intro ?_ ?_); (with_reducible first | exact ff1 | exact ff2 | exact ff3 | exact ff4 | exact ff5 | fail); (intro _))
      | ((with_reducible refine And.intro ?_ ?_); rotate_left; (with_reducible first | exact tt1 | exact tt2 | exact tt3 | exact tt4 | exact tt5 | fail); (intro _))
      | ((with_reducible apply Exists.intro); (with_reducible apply And.intro); first | ((with_reducible (first | show addT (.int _) (.int _) = some _ | show subT (.int _) (.int _) = some _ | show negT (.int _) = some _ | show ltT (.int _) (.int _) = some _ | show leT (.int _) (.int _) = some _ | show gtT (.int _) (.int _) = some _ | show geT (.int _) (.int _) = some _ | show intT [.int _] = some _ | show max2T [.int _, .int _] = some _ | show min2T [.int _, .int _] = some _ | show absT [.int _] = some _ | show eqT (.int _) (.int _) = some _ | show neT (.int _) (.int _) = some _ | show T.bl _ = T.bl _ | show T.int _ = T.int _)); exact rfl) | ((with_reducible (first | show isiT _ _ = some _ | show isT _ _ = some _ | show isNT _ _ = some _ | show isisT _ _ = some _)); first | exact (rfl : _ = some (T.bl true)) | exact (rfl : _ = some (T.bl false)) | exact rfl) | fail)
      | fail)
      refine ⟨_, neT_row _ _, ?_⟩
      have hk : keepE (sortR (turnsR (rnd n k))) p = !decide ((sortR (turnsR (rnd n k)))[p.1 - 1]'(by omega) = p.2) := by
        unfold keepE
        rw [decide_eq_false hz0, Bool.false_or]
        congr 2
        simp [List.getD_eq_getElem?_getD, List.getElem?_eq_getElem (show p.1 - 1 < (sortR (turnsR (rnd n k))).length by omega)]
      repeat' (first
      | with_reducible (first | refine WS_seq ?_ | refine WS_set ?_ | refine WS_ret ?_ | refine WS_if ?_ | refine WS_drop ?_ | refine WS_nx ?_ | refine WE_bin ?_ | refine WE_cons ?_ | refine WE_nil ?_ | refine WE_k ?_ | refine WE_app ?_ | refine WE_un ?_ | refine WE_B ?_ | refine WE_notC ?_ | refine WE_call ?_ | refine WE_callK ?_ | refine WE_lst ?_ | refine WE_tup ?_ | refine WE_chain ?_ | refine WE_andV ?_ | refine WE_orV ?_ | refine WE_notV ?_ | refine WE_andC ?_ | refine WE_orC ?_ | refine WE_if ?_ | refine WS_par2 ?_ | refine WS_par3 ?_ | refine WE_rg1 ?_ | refine WE_rg2 ?_ | refine WE_items ?_ | refine WE_enum ?_ | refine WE_zip ?_ | refine WE_revd ?_ | refine WE_callG ?_ | refine WS_put ?_ | refine WS_app ?_ | refine WE_pix ?_ | refine WE_sl ?_ | refine WE_p0 ?_ | refine WE_p1 ?_ | refine WE_true ?_ | refine WE_bor ?_ | refine WE_borC ?_ | refine WE_mt ?_ | refine WS_asg ?_) | ((with_reducible apply WE_var); (case h => exact rfl))
      | ((with_reducible refine And.intro ?_ ?_); (with_reducible first | exact ff1 | exact ff2 | exact ff3 | exact ff4 | exact ff5 | fail); (intro _))
      | ((with_reducible refine And.intro ?_ ?_); rotate_left; (with_reducible first | exact tt1 | exact tt2 | exact tt3 | exact tt4 | exact tt5 | fail); (intro _))
      | ((with_reducible apply Exists.intro); (with_reducible apply And.intro); first | ((with_reducible (first | show addT (.int _) (.int _) = some _ | show subT (.int _) (.int _) = some _ | show negT (.int _) = some _ | show ltT (.int _) (.int _) = some _ | show leT (.int _) (.int _) = some _ | show gtT (.int _) (.int _) = some _ | show geT (.int _) (.int _) = some _ | show intT [.int _] = some _ | show max2T [.int _, .int _] = some _ | show min2T [.int _, .int _] = some _ | show absT [.int _] = some _ | show eqT (.int _) (.int _) = some _ | show neT (.int _) (.int _) = some _ | show T.bl _ = T.bl _ | show T.int _ = T.int _)); exact rfl) | ((with_reducible (first | show isiT _ _ = some _ | show isT _ _ = some _ | show isNT _ _ = some _ | show isisT _ _ = some _)); first | exact (rfl : _ = some (T.bl true)) | exact (rfl : _ = some (T.bl false)) | exact rfl) | fail)
      | fail)
      refine ⟨hk.symm, (fun _ => rfl), fun _ => ?_⟩
      repeat' (first
      | with_reducible (first | refine WS_seq ?_ | refine WS_set ?_ | refine WS_ret ?_ | refine WS_if ?_ | refine WS_drop ?_ | refine WS_nx ?_ | refine WE_bin ?_ | refine WE_cons ?_ | refine WE_nil ?_ | refine WE_k ?_ | refine WE_app ?_ | refine WE_un ?_ | refine WE_B ?_ | refine WE_notC ?_ | refine WE_call ?_ | refine WE_callK ?_ | refine WE_lst ?_ | refine WE_tup ?_ | refine WE_chain ?_ | refine WE_andV ?_ | refine WE_orV ?_ | refine WE_notV ?_ | refine WE_andC ?_ | refine WE_orC ?_ | refine WE_if ?_ | refine WS_par2 ?_ | refine WS_par3 ?_ | refine WE_rg1 ?_ | refine WE_rg2 ?_ | refine WE_items ?_ | refine WE_enum ?_ | refine WE_zip ?_ | refine WE_revd ?_ | refine WE_callG ?_ | refine WS_put ?_ | refine WS_app ?_ | refine WE_pix ?_ | refine WE_sl ?_ | refine WE_p0 ?_ | refine WE_p1 ?_ | refine WE_true ?_ | refine WE_bor ?_ | refine WE_borC ?_ | refine WE_mt ?_ | refine WS_asg ?_) | ((with_reducible apply WE_var); (case h => exact rfl))
      | ((with_reducible refine And.intro ?_ ?_); (with_reducible first | exact ff1 | exact ff2 | exact ff3 | exact ff4 | exact ff5 | fail); (intro _))
      | ((with_reducible refine And.intro ?_ ?_); rotate_left; (with_reducible first | exact tt1 | exact tt2 | exact tt3 | exact tt4 | exact tt5 | fail); (intro _))
      | ((with_reducible apply Exists.intro); (with_reducible apply And.intro); first | ((with_reducible (first | show addT (.int _) (.int _) = some _ | show subT (.int _) (.int _) = some _ | show negT (.int _) = some _ | show ltT (.int _) (.int _) = some _ | show leT (.int _) (.int _) = some _ | show gtT (.int _) (.int _) = some _ | show geT (.int _) (.int _) = some _ | show intT [.int _] = some _ | show max2T [.int _, .int _] = some _ | show min2T [.int _, .int _] = some _ | show absT [.int _] = some _ | show eqT (.int _) (.int _) = some _ | show neT (.int _) (.int _) = some _ | show T.bl _ = T.bl _ | show T.int _ = T.int _)); exact rfl) | ((with_reducible (first | show isiT _ _ = some _ | show isT _ _ = some _ | show isNT _ _ = some _ | show isisT _ _ = some _)); first | exact (rfl : _ = some (T.bl true)) | exact (rfl : _ = some (T.bl false)) | exact rfl) | fail)
      | fail)
      exact ⟨rfl, rfl⟩
  · have e1 : ((enumI 0 (sortR (turnsR (rnd n k)))).filter (keepE (sortR (turnsR (rnd n k))))).map (fun p => rowT p.2) = (uniq (sortR (turnsR (rnd n k)))).map rowT := by
      rw [← keep_uniq, List.map_map]
      rfl
    rw [e1, ← (small h1 h2 h3).2, ← he]
    repeat' (first
      | with_reducible (first | refine WS_seq ?_ | refine WS_set ?_ | refine WS_ret ?_ | refine WS_if ?_ | refine WS_drop ?_ | refine WS_nx ?_ | refine WE_bin ?_ | refine WE_cons ?_ | refine WE_nil ?_ | refine WE_k ?_ | refine WE_app ?_ | refine WE_un ?_ | refine WE_B ?_ | refine WE_notC ?_ | refine WE_call ?_ | refine WE_callK ?_ | refine WE_lst ?_ | refine WE_tup ?_ | refine WE_chain ?_ | refine WE_andV ?_ | refine WE_orV ?_ | refine WE_notV ?_ | refine WE_andC ?_ | refine WE_orC ?_ | refine WE_if ?_ | refine WS_par2 ?_ | refine WS_par3 ?_ | refine WE_rg1 ?_ | refine WE_rg2 ?_ | refine WE_items ?_ | refine WE_enum ?_ | refine WE_zip ?_ | refine WE_revd ?_ | refine WE_callG ?_ | refine WS_put ?_ | refine WS_app ?_ | refine WE_pix ?_ | refine WE_sl ?_ | refine WE_p0 ?_ | refine WE_p1 ?_ | refine WE_true ?_ | refine WE_bor ?_ | refine WE_borC ?_ | refine WE_mt ?_ | refine WS_asg ?_) | ((with_reducible apply WE_var); (case h => exact rfl))
      | ((with_reducible refine And.intro ?_ ?_); (with_reducible first | exact ff1 | exact ff2 | exact ff3 | exact ff4 | exact ff5 | fail); (intro _))
      | ((with_reducible refine And.intro ?_ ?_); rotate_left; (with_reducible first | exact tt1 | exact tt2 | exact tt3 | exact tt4 | exact tt5 | fail); (intro _))
      | ((with_reducible apply Exists.intro); (with_reducible apply And.intro); first | ((with_reducible (first | show addT (.int _) (.int _) = some _ | show subT (.int _) (.int _) = some _ | show negT (.int _) = some _ | show ltT (.int _) (.int _) = some _ | show leT (.int _) (.int _) = some _ | show gtT (.int _) (.int _) = some _ | show geT (.int _) (.int _) = some _ | show intT [.int _] = some _ | show max2T [.int _, .int _] = some _ | show min2T [.int _, .int _] = some _ | show absT [.int _] = some _ | show eqT (.int _) (.int _) = some _ | show neT (.int _) (.int _) = some _ | show T.bl _ = T.bl _ | show T.int _ = T.int _)); exact rfl) | ((with_reducible (first | show isiT _ _ = some _ | show isT _ _ = some _ | show isNT _ _ = some _ | show isisT _ _ = some _)); first | exact (rfl : _ = some (T.bl true)) | exact (rfl : _ = some (T.bl false)) | exact rfl) | fail)
      | fail)
    have hu : sortR e = uniq (sortR (turnsR (rnd n k))) := by rw [he]; exact (small h1 h2 h3).2
    refine WR.of_eq (same_refl 11 _ (pl_rows 8 (by rw [hu]; have := uniq_len (sortR (turnsR (rnd n k))); omega) fun r hr2 => ?_)) ?_
    · rw [hu] at hr2
      have := turns_row ((sortR_perm _).mem_iff.mp (uniq_sub hr2))
      omega
    · refine ⟨rfl, ?_⟩
      repeat' (first
      | with_reducible (first | refine WS_seq ?_ | refine WS_set ?_ | refine WS_ret ?_ | refine WS_if ?_ | refine WS_drop ?_ | refine WS_nx ?_ | refine WE_bin ?_ | refine WE_cons ?_ | refine WE_nil ?_ | refine WE_k ?_ | refine WE_app ?_ | refine WE_un ?_ | refine WE_B ?_ | refine WE_notC ?_ | refine WE_call ?_ | refine WE_callK ?_ | refine WE_lst ?_ | refine WE_tup ?_ | refine WE_chain ?_ | refine WE_andV ?_ | refine WE_orV ?_ | refine WE_notV ?_ | refine WE_andC ?_ | refine WE_orC ?_ | refine WE_if ?_ | refine WS_par2 ?_ | refine WS_par3 ?_ | refine WE_rg1 ?_ | refine WE_rg2 ?_ | refine WE_items ?_ | refine WE_enum ?_ | refine WE_zip ?_ | refine WE_revd ?_ | refine WE_callG ?_ | refine WS_put ?_ | refine WS_app ?_ | refine WE_pix ?_ | refine WE_sl ?_ | refine WE_p0 ?_ | refine WE_p1 ?_ | refine WE_true ?_ | refine WE_bor ?_ | refine WE_borC ?_ | refine WE_mt ?_ | refine WS_asg ?_) | ((with_reducible apply WE_var); (case h => exact rfl))
      | ((with_reducible refine And.intro ?_ ?_); (with_reducible first | exact ff1 | exact ff2 | exact ff3 | exact ff4 | exact ff5 | fail); (intro _))
      | ((with_reducible refine And.intro ?_ ?_); rotate_left; (with_reducible first | exact tt1 | exact tt2 | exact tt3 | exact tt4 | exact tt5 | fail); (intro _))
      | ((with_reducible apply Exists.intro); (with_reducible apply And.intro); first | ((with_reducible (first | show addT (.int _) (.int _) = some _ | show subT (.int _) (.int _) = some _ | show negT (.int _) = some _ | show ltT (.int _) (.int _) = some _ | show leT (.int _) (.int _) = some _ | show gtT (.int _) (.int _) = some _ | show geT (.int _) (.int _) = some _ | show intT [.int _] = some _ | show max2T [.int _, .int _] = some _ | show min2T [.int _, .int _] = some _ | show absT [.int _] = some _ | show eqT (.int _) (.int _) = some _ | show neT (.int _) (.int _) = some _ | show T.bl _ = T.bl _ | show T.int _ = T.int _)); exact rfl) | ((with_reducible (first | show isiT _ _ = some _ | show isT _ _ = some _ | show isNT _ _ = some _ | show isisT _ _ = some _)); first | exact (rfl : _ = some (T.bl true)) | exact (rfl : _ = some (T.bl false)) | exact rfl) | fail)
      | fail)
      exact q
end
theorem law_true (ns : List Int) (hl : ns.length ≤ 63) : m_law [.lst (ns.map T.int)] = .ok (.bl true) [] := by
  refine WR.eq (WR_fn ?_)
  try simp only [List.map_cons, List.map_nil, List.cons_append, List.nil_append, List.length_cons, List.length_nil, Nat.zero_add, Nat.reduceAdd, Nat.reduceSub, Nat.sub_self, List.replicate_zero, List.replicate_succ, List.append_nil, List.set_cons_zero, List.set_cons_succ]
  repeat' (first
      | with_reducible (first | refine WS_seq ?_ | refine WS_set ?_ | refine WS_ret ?_ | refine WS_if ?_ | refine WS_drop ?_ | refine WS_nx ?_ | refine WE_bin ?_ | refine WE_cons ?_ | refine WE_nil ?_ | refine WE_k ?_ | refine WE_app ?_ | refine WE_un ?_ | refine WE_B ?_ | refine WE_notC ?_ | refine WE_call ?_ | refine WE_callK ?_ | refine WE_lst ?_ | refine WE_tup ?_ | refine WE_chain ?_ | refine WE_andV ?_ | refine WE_orV ?_ | refine WE_notV ?_ | refine WE_andC ?_ | refine WE_orC ?_ | refine WE_if ?_ | refine WS_par2 ?_ | refine WS_par3 ?_ | refine WE_rg1 ?_ | refine WE_rg2 ?_ | refine WE_items ?_ | refine WE_enum ?_ | refine WE_zip ?_ | refine WE_revd ?_ | refine WE_callG ?_ | refine WS_put ?_ | refine WS_app ?_ | refine WE_pix ?_ | refine WE_sl ?_ | refine WE_p0 ?_ | refine WE_p1 ?_ | refine WE_true ?_ | refine WE_bor ?_ | refine WE_borC ?_ | refine WE_mt ?_ | refine WS_asg ?_) | ((with_reducible apply WE_var); (case h => exact rfl))
      | ((with_reducible refine And.intro ?_ ?_); (with_reducible first | exact ff1 | exact ff2 | exact ff3 | exact ff4 | exact ff5 | fail); (intro _))
      | ((with_reducible refine And.intro ?_ ?_); rotate_left; (with_reducible first | exact tt1 | exact tt2 | exact tt3 | exact tt4 | exact tt5 | fail); (intro _))
      | ((with_reducible apply Exists.intro); (with_reducible apply And.intro); first | ((with_reducible (first | show addT (.int _) (.int _) = some _ | show subT (.int _) (.int _) = some _ | show negT (.int _) = some _ | show ltT (.int _) (.int _) = some _ | show leT (.int _) (.int _) = some _ | show gtT (.int _) (.int _) = some _ | show geT (.int _) (.int _) = some _ | show intT [.int _] = some _ | show max2T [.int _, .int _] = some _ | show min2T [.int _, .int _] = some _ | show absT [.int _] = some _ | show eqT (.int _) (.int _) = some _ | show neT (.int _) (.int _) = some _ | show T.bl _ = T.bl _ | show T.int _ = T.int _)); exact rfl) | ((with_reducible (first | show isiT _ _ = some _ | show isT _ _ = some _ | show isNT _ _ = some _ | show isisT _ _ = some _)); first | exact (rfl : _ = some (T.bl true)) | exact (rfl : _ = some (T.bl false)) | exact rfl) | fail)
      | fail)
  refine generator_ok (by decide) (by decide) hl fun us1 g1 => ?_
  repeat' (first
      | with_reducible (first | refine WS_seq ?_ | refine WS_set ?_ | refine WS_ret ?_ | refine WS_if ?_ | refine WS_drop ?_ | refine WS_nx ?_ | refine WE_bin ?_ | refine WE_cons ?_ | refine WE_nil ?_ | refine WE_k ?_ | refine WE_app ?_ | refine WE_un ?_ | refine WE_B ?_ | refine WE_notC ?_ | refine WE_call ?_ | refine WE_callK ?_ | refine WE_lst ?_ | refine WE_tup ?_ | refine WE_chain ?_ | refine WE_andV ?_ | refine WE_orV ?_ | refine WE_notV ?_ | refine WE_andC ?_ | refine WE_orC ?_ | refine WE_if ?_ | refine WS_par2 ?_ | refine WS_par3 ?_ | refine WE_rg1 ?_ | refine WE_rg2 ?_ | refine WE_items ?_ | refine WE_enum ?_ | refine WE_zip ?_ | refine WE_revd ?_ | refine WE_callG ?_ | refine WS_put ?_ | refine WS_app ?_ | refine WE_pix ?_ | refine WE_sl ?_ | refine WE_p0 ?_ | refine WE_p1 ?_ | refine WE_true ?_ | refine WE_bor ?_ | refine WE_borC ?_ | refine WE_mt ?_ | refine WS_asg ?_) | ((with_reducible apply WE_var); (case h => exact rfl))
      | ((with_reducible refine And.intro ?_ ?_); (with_reducible first | exact ff1 | exact ff2 | exact ff3 | exact ff4 | exact ff5 | fail); (intro _))
      | ((with_reducible refine And.intro ?_ ?_); rotate_left; (with_reducible first | exact tt1 | exact tt2 | exact tt3 | exact tt4 | exact tt5 | fail); (intro _))
      | ((with_reducible apply Exists.intro); (with_reducible apply And.intro); first | ((with_reducible (first | show addT (.int _) (.int _) = some _ | show subT (.int _) (.int _) = some _ | show negT (.int _) = some _ | show ltT (.int _) (.int _) = some _ | show leT (.int _) (.int _) = some _ | show gtT (.int _) (.int _) = some _ | show geT (.int _) (.int _) = some _ | show intT [.int _] = some _ | show max2T [.int _, .int _] = some _ | show min2T [.int _, .int _] = some _ | show absT [.int _] = some _ | show eqT (.int _) (.int _) = some _ | show neT (.int _) (.int _) = some _ | show T.bl _ = T.bl _ | show T.int _ = T.int _)); exact rfl) | ((with_reducible (first | show isiT _ _ = some _ | show isT _ _ = some _ | show isNT _ _ = some _ | show isisT _ _ = some _)); first | exact (rfl : _ = some (T.bl true)) | exact (rfl : _ = some (T.bl false)) | exact rfl) | fail)
      | fail)
  refine generator_ok (by decide) (by decide) hl fun us2 g2 => ?_
  repeat' (first
      | with_reducible (first | refine WS_seq ?_ | refine WS_set ?_ | refine WS_ret ?_ | refine WS_if ?_ | refine WS_drop ?_ | refine WS_nx ?_ | refine WE_bin ?_ | refine WE_cons ?_ | refine WE_nil ?_ | refine WE_k ?_ | refine WE_app ?_ | refine WE_un ?_ | refine WE_B ?_ | refine WE_notC ?_ | refine WE_call ?_ | refine WE_callK ?_ | refine WE_lst ?_ | refine WE_tup ?_ | refine WE_chain ?_ | refine WE_andV ?_ | refine WE_orV ?_ | refine WE_notV ?_ | refine WE_andC ?_ | refine WE_orC ?_ | refine WE_if ?_ | refine WS_par2 ?_ | refine WS_par3 ?_ | refine WE_rg1 ?_ | refine WE_rg2 ?_ | refine WE_items ?_ | refine WE_enum ?_ | refine WE_zip ?_ | refine WE_revd ?_ | refine WE_callG ?_ | refine WS_put ?_ | refine WS_app ?_ | refine WE_pix ?_ | refine WE_sl ?_ | refine WE_p0 ?_ | refine WE_p1 ?_ | refine WE_true ?_ | refine WE_bor ?_ | refine WE_borC ?_ | refine WE_mt ?_ | refine WS_asg ?_) | ((with_reducible apply WE_var); (case h => exact rfl))
      | ((with_reducible refine And.intro ?_ ?_); (with_reducible first | exact ff1 | exact ff2 | exact ff3 | exact ff4 | exact ff5 | fail); (intro _))
      | ((with_reducible refine And.intro ?_ ?_); rotate_left; (with_reducible first | exact tt1 | exact tt2 | exact tt3 | exact tt4 | exact tt5 | fail); (intro _))
      | ((with_reducible apply Exists.intro); (with_reducible apply And.intro); first | ((with_reducible (first | show addT (.int _) (.int _) = some _ | show subT (.int _) (.int _) = some _ | show negT (.int _) = some _ | show ltT (.int _) (.int _) = some _ | show leT (.int _) (.int _) = some _ | show gtT (.int _) (.int _) = some _ | show geT (.int _) (.int _) = some _ | show intT [.int _] = some _ | show max2T [.int _, .int _] = some _ | show min2T [.int _, .int _] = some _ | show absT [.int _] = some _ | show eqT (.int _) (.int _) = some _ | show neT (.int _) (.int _) = some _ | show T.bl _ = T.bl _ | show T.int _ = T.int _)); exact rfl) | ((with_reducible (first | show isiT _ _ = some _ | show isT _ _ = some _ | show isNT _ _ = some _ | show isisT _ _ = some _)); first | exact (rfl : _ = some (T.bl true)) | exact (rfl : _ = some (T.bl false)) | exact rfl) | fail)
      | fail)
  refine ⟨_, _, rfl, ?_⟩
  try simp only [List.map_cons, List.map_nil, List.cons_append, List.nil_append, List.length_cons, List.length_nil, Nat.zero_add, Nat.reduceAdd, Nat.reduceSub, Nat.sub_self, List.replicate_zero, List.replicate_succ, List.append_nil, List.set_cons_zero, List.set_cons_succ]
  repeat' (first
      | with_reducible (first | refine WS_seq ?_ | refine WS_set ?_ | refine WS_ret ?_ | refine WS_if ?_ | refine WS_drop ?_ | refine WS_nx ?_ | refine WE_bin ?_ | refine WE_cons ?_ | refine WE_nil ?_ | refine WE_k ?_ | refine WE_app ?_ | refine WE_un ?_ | refine WE_B ?_ | refine WE_notC ?_ | refine WE_call ?_ | refine WE_callK ?_ | refine WE_lst ?_ | refine WE_tup ?_ | refine WE_chain ?_ | refine WE_andV ?_ | refine WE_orV ?_ | refine WE_notV ?_ | refine WE_andC ?_ | refine WE_orC ?_ | refine WE_if ?_ | refine WS_par2 ?_ | refine WS_par3 ?_ | refine WE_rg1 ?_ | refine WE_rg2 ?_ | refine WE_items ?_ | refine WE_enum ?_ | refine WE_zip ?_ | refine WE_revd ?_ | refine WE_callG ?_ | refine WS_put ?_ | refine WS_app ?_ | refine WE_pix ?_ | refine WE_sl ?_ | refine WE_p0 ?_ | refine WE_p1 ?_ | refine WE_true ?_ | refine WE_bor ?_ | refine WE_borC ?_ | refine WE_mt ?_ | refine WS_asg ?_) | ((with_reducible apply WE_var); (case h => exact rfl))
      | ((with_reducible refine And.intro ?_ ?_); (with_reducible first | exact ff1 | exact ff2 | exact ff3 | exact ff4 | exact ff5 | fail); (intro _))
      | ((with_reducible refine And.intro ?_ ?_); rotate_left; (with_reducible first | exact tt1 | exact tt2 | exact tt3 | exact tt4 | exact tt5 | fail); (intro _))
      | ((with_reducible apply Exists.intro); (with_reducible apply And.intro); first | ((with_reducible (first | show addT (.int _) (.int _) = some _ | show subT (.int _) (.int _) = some _ | show negT (.int _) = some _ | show ltT (.int _) (.int _) = some _ | show leT (.int _) (.int _) = some _ | show gtT (.int _) (.int _) = some _ | show geT (.int _) (.int _) = some _ | show intT [.int _] = some _ | show max2T [.int _, .int _] = some _ | show min2T [.int _, .int _] = some _ | show absT [.int _] = some _ | show eqT (.int _) (.int _) = some _ | show neT (.int _) (.int _) = some _ | show T.bl _ = T.bl _ | show T.int _ = T.int _)); exact rfl) | ((with_reducible (first | show isiT _ _ = some _ | show isT _ _ = some _ | show isNT _ _ = some _ | show isisT _ _ = some _)); first | exact (rfl : _ = some (T.bl true)) | exact (rfl : _ = some (T.bl false)) | exact rfl) | fail)
      | fail)
  refine ⟨_, rfl, random_ok g1 (by decide) (by decide) (by decide) fun d us3 g3 d0 d1 => ⟨_, rfl, ?_⟩⟩
  try simp only [List.map_cons, List.map_nil, List.cons_append, List.nil_append, List.length_cons, List.length_nil, Nat.zero_add, Nat.reduceAdd, Nat.reduceSub, Nat.sub_self, List.replicate_zero, List.replicate_succ, List.append_nil, List.set_cons_zero, List.set_cons_succ]
  repeat' (first
      | with_reducible (first | refine WS_seq ?_ | refine WS_set ?_ | refine WS_ret ?_ | refine WS_if ?_ | refine WS_drop ?_ | refine WS_nx ?_ | refine WE_bin ?_ | refine WE_cons ?_ | refine WE_nil ?_ | refine WE_k ?_ | refine WE_app ?_ | refine WE_un ?_ | refine WE_B ?_ | refine WE_notC ?_ | refine WE_call ?_ | refine WE_callK ?_ | refine WE_lst ?_ | refine WE_tup ?_ | refine WE_chain ?_ | refine WE_andV ?_ | refine WE_orV ?_ | refine WE_notV ?_ | refine WE_andC ?_ | refine WE_orC ?_ | refine WE_if ?_ | refine WS_par2 ?_ | refine WS_par3 ?_ | refine WE_rg1 ?_ | refine WE_rg2 ?_ | refine WE_items ?_ | refine WE_enum ?_ | refine WE_zip ?_ | refine WE_revd ?_ | refine WE_callG ?_ | refine WS_put ?_ | refine WS_app ?_ | refine WE_pix ?_ | refine WE_sl ?_ | refine WE_p0 ?_ | refine WE_p1 ?_ | refine WE_true ?_ | refine WE_bor ?_ | refine WE_borC ?_ | refine WE_mt ?_ | refine WS_asg ?_) | ((with_reducible apply WE_var); (case h => exact rfl))
      | ((with_reducible refine And.intro ?_ ?_); (with_reducible first | exact ff1 | exact ff2 | exact ff3 | exact ff4 | exact ff5 | fail); (intro _))
      | ((with_reducible refine And.intro ?_ ?_); rotate_left; (with_reducible first | exact tt1 | exact tt2 | exact tt3 | exact tt4 | exact tt5 | fail); (intro _))
      | ((with_reducible apply Exists.intro); (with_reducible apply And.intro); first | ((with_reducible (first | show addT (.int _) (.int _) = some _ | show subT (.int _) (.int _) = some _ | show negT (.int _) = some _ | show ltT (.int _) (.int _) = some _ | show leT (.int _) (.int _) = some _ | show gtT (.int _) (.int _) = some _ | show geT (.int _) (.int _) = some _ | show intT [.int _] = some _ | show max2T [.int _, .int _] = some _ | show min2T [.int _, .int _] = some _ | show absT [.int _] = some _ | show eqT (.int _) (.int _) = some _ | show neT (.int _) (.int _) = some _ | show T.bl _ = T.bl _ | show T.int _ = T.int _)); exact rfl) | ((with_reducible (first | show isiT _ _ = some _ | show isT _ _ = some _ | show isNT _ _ = some _ | show isisT _ _ = some _)); first | exact (rfl : _ = some (T.bl true)) | exact (rfl : _ = some (T.bl false)) | exact rfl) | fail)
      | fail)
  refine ⟨_, rfl, random_ok g3 (by decide) (by omega) (by omega) fun k us4 g4 k0 k1 => ⟨_, rfl, ?_⟩⟩
  obtain ⟨n, hn⟩ : ∃ n : Nat, 1 + d = n := ⟨(1 + d).toNat, by omega⟩
  obtain ⟨k, rfl⟩ : ∃ k' : Nat, k = k' := ⟨k.toNat, by omega⟩
  rw [hn]
  have n1 : 1 ≤ n := by omega
  have n2 : n ≤ 11 := by omega
  have k2 : k ≤ n := by omega
  have hr : (rnd n k).length = n := by rw [rnd_len]; omega
  try simp only [List.map_cons, List.map_nil, List.cons_append, List.nil_append, List.length_cons, List.length_nil, Nat.zero_add, Nat.reduceAdd, Nat.reduceSub, Nat.sub_self, List.replicate_zero, List.replicate_succ, List.append_nil, List.set_cons_zero, List.set_cons_succ]
  repeat' (first
      | with_reducible (first | refine WS_seq ?_ | refine WS_set ?_ | refine WS_ret ?_ | refine WS_if ?_ | refine WS_drop ?_ | refine WS_nx ?_ | refine WE_bin ?_ | refine WE_cons ?_ | refine WE_nil ?_ | refine WE_k ?_ | refine WE_app ?_ | refine WE_un ?_ | refine WE_B ?_ | refine WE_notC ?_ | refine WE_call ?_ | refine WE_callK ?_ | refine WE_lst ?_ | refine WE_tup ?_ | refine WE_chain ?_ | refine WE_andV ?_ | refine WE_orV ?_ | refine WE_notV ?_ | refine WE_andC ?_ | refine WE_orC ?_ | refine WE_if ?_ | refine WS_par2 ?_ | refine WS_par3 ?_ | refine WE_rg1 ?_ | refine WE_rg2 ?_ | refine WE_items ?_ | refine WE_enum ?_ | refine WE_zip ?_ | refine WE_revd ?_ | refine WE_callG ?_ | refine WS_put ?_ | refine WS_app ?_ | refine WE_pix ?_ | refine WE_sl ?_ | refine WE_p0 ?_ | refine WE_p1 ?_ | refine WE_true ?_ | refine WE_bor ?_ | refine WE_borC ?_ | refine WE_mt ?_ | refine WS_asg ?_) | ((with_reducible apply WE_var); (case h => exact rfl))
      | ((with_reducible refine And.intro ?_ ?_); (with_reducible first | exact ff1 | exact ff2 | exact ff3 | exact ff4 | exact ff5 | fail); (intro _))
      | ((with_reducible refine And.intro ?_ ?_); rotate_left; (with_reducible first | exact tt1 | exact tt2 | exact tt3 | exact tt4 | exact tt5 | fail); (intro _))
      | ((with_reducible apply Exists.intro); (with_reducible apply And.intro); first | ((with_reducible (first | show addT (.int _) (.int _) = some _ | show subT (.int _) (.int _) = some _ | show negT (.int _) = some _ | show ltT (.int _) (.int _) = some _ | show leT (.int _) (.int _) = some _ | show gtT (.int _) (.int _) = some _ | show geT (.int _) (.int _) = some _ | show intT [.int _] = some _ | show max2T [.int _, .int _] = some _ | show min2T [.int _, .int _] = some _ | show absT [.int _] = some _ | show eqT (.int _) (.int _) = some _ | show neT (.int _) (.int _) = some _ | show T.bl _ = T.bl _ | show T.int _ = T.int _)); exact rfl) | ((with_reducible (first | show isiT _ _ = some _ | show isT _ _ = some _ | show isNT _ _ = some _ | show isisT _ _ = some _)); first | exact (rfl : _ = some (T.bl true)) | exact (rfl : _ = some (T.bl false)) | exact rfl) | fail)
      | fail)
  refine round_row_ok (by omega) (by omega) (by omega) (by omega) ?_
  try simp only [List.map_cons, List.map_nil, List.cons_append, List.nil_append, List.length_cons, List.length_nil, Nat.zero_add, Nat.reduceAdd, Nat.reduceSub, Nat.sub_self, List.replicate_zero, List.replicate_succ, List.append_nil, List.set_cons_zero, List.set_cons_succ]
  repeat' (first
      | with_reducible (first | refine WS_seq ?_ | refine WS_set ?_ | refine WS_ret ?_ | refine WS_if ?_ | refine WS_drop ?_ | refine WS_nx ?_ | refine WE_bin ?_ | refine WE_cons ?_ | refine WE_nil ?_ | refine WE_k ?_ | refine WE_app ?_ | refine WE_un ?_ | refine WE_B ?_ | refine WE_notC ?_ | refine WE_call ?_ | refine WE_callK ?_ | refine WE_lst ?_ | refine WE_tup ?_ | refine WE_chain ?_ | refine WE_andV ?_ | refine WE_orV ?_ | refine WE_notV ?_ | refine WE_andC ?_ | refine WE_orC ?_ | refine WE_if ?_ | refine WS_par2 ?_ | refine WS_par3 ?_ | refine WE_rg1 ?_ | refine WE_rg2 ?_ | refine WE_items ?_ | refine WE_enum ?_ | refine WE_zip ?_ | refine WE_revd ?_ | refine WE_callG ?_ | refine WS_put ?_ | refine WS_app ?_ | refine WE_pix ?_ | refine WE_sl ?_ | refine WE_p0 ?_ | refine WE_p1 ?_ | refine WE_true ?_ | refine WE_bor ?_ | refine WE_borC ?_ | refine WE_mt ?_ | refine WS_asg ?_) | ((with_reducible apply WE_var); (case h => exact rfl))
      | ((with_reducible refine And.intro ?_ ?_); (with_reducible first | exact ff1 | exact ff2 | exact ff3 | exact ff4 | exact ff5 | fail); (intro _))
      | ((with_reducible refine And.intro ?_ ?_); rotate_left; (with_reducible first | exact tt1 | exact tt2 | exact tt3 | exact tt4 | exact tt5 | fail); (intro _))
      | ((with_reducible apply Exists.intro); (with_reducible apply And.intro); first | ((with_reducible (first | show addT (.int _) (.int _) = some _ | show subT (.int _) (.int _) = some _ | show negT (.int _) = some _ | show ltT (.int _) (.int _) = some _ | show leT (.int _) (.int _) = some _ | show gtT (.int _) (.int _) = some _ | show geT (.int _) (.int _) = some _ | show intT [.int _] = some _ | show max2T [.int _, .int _] = some _ | show min2T [.int _, .int _] = some _ | show absT [.int _] = some _ | show eqT (.int _) (.int _) = some _ | show neT (.int _) (.int _) = some _ | show T.bl _ = T.bl _ | show T.int _ = T.int _)); exact rfl) | ((with_reducible (first | show isiT _ _ = some _ | show isT _ _ = some _ | show isNT _ _ = some _ | show isisT _ _ = some _)); first | exact (rfl : _ = some (T.bl true)) | exact (rfl : _ = some (T.bl false)) | exact rfl) | fail)
      | fail)
  refine WE_lcM rowT (lvl n k n) evenB rowT ?_
  repeat' (first
      | with_reducible (first | refine WS_seq ?_ | refine WS_set ?_ | refine WS_ret ?_ | refine WS_if ?_ | refine WS_drop ?_ | refine WS_nx ?_ | refine WE_bin ?_ | refine WE_cons ?_ | refine WE_nil ?_ | refine WE_k ?_ | refine WE_app ?_ | refine WE_un ?_ | refine WE_B ?_ | refine WE_notC ?_ | refine WE_call ?_ | refine WE_callK ?_ | refine WE_lst ?_ | refine WE_tup ?_ | refine WE_chain ?_ | refine WE_andV ?_ | refine WE_orV ?_ | refine WE_notV ?_ | refine WE_andC ?_ | refine WE_orC ?_ | refine WE_if ?_ | refine WS_par2 ?_ | refine WS_par3 ?_ | refine WE_rg1 ?_ | refine WE_rg2 ?_ | refine WE_items ?_ | refine WE_enum ?_ | refine WE_zip ?_ | refine WE_revd ?_ | refine WE_callG ?_ | refine WS_put ?_ | refine WS_app ?_ | refine WE_pix ?_ | refine WE_sl ?_ | refine WE_p0 ?_ | refine WE_p1 ?_ | refine WE_true ?_ | refine WE_bor ?_ | refine WE_borC ?_ | refine WE_mt ?_ | refine WS_asg ?_) | ((with_reducible apply WE_var); (case h => exact rfl))
      | ((with_reducible refine And.intro ?_ ?_); (with_reducible first | exact ff1 | exact ff2 | exact ff3 | exact ff4 | exact ff5 | fail); (intro _))
      | ((with_reducible refine And.intro ?_ ?_); rotate_left; (with_reducible first | exact tt1 | exact tt2 | exact tt3 | exact tt4 | exact tt5 | fail); (intro _))
      | ((with_reducible apply Exists.intro); (with_reducible apply And.intro); first | ((with_reducible (first | show addT (.int _) (.int _) = some _ | show subT (.int _) (.int _) = some _ | show negT (.int _) = some _ | show ltT (.int _) (.int _) = some _ | show leT (.int _) (.int _) = some _ | show gtT (.int _) (.int _) = some _ | show geT (.int _) (.int _) = some _ | show intT [.int _] = some _ | show max2T [.int _, .int _] = some _ | show min2T [.int _, .int _] = some _ | show absT [.int _] = some _ | show eqT (.int _) (.int _) = some _ | show neT (.int _) (.int _) = some _ | show T.bl _ = T.bl _ | show T.int _ = T.int _)); exact rfl) | ((with_reducible (first | show isiT _ _ = some _ | show isT _ _ = some _ | show isNT _ _ = some _ | show isisT _ _ = some _)); first | exact (rfl : _ = some (T.bl true)) | exact (rfl : _ = some (T.bl false)) | exact rfl) | fail)
      | fail)
  refine all_ok (by omega) (by omega) ?_
  rw [Int.toNat_natCast]
  repeat' (first
      | with_reducible (first | refine WS_seq ?_ | refine WS_set ?_ | refine WS_ret ?_ | refine WS_if ?_ | refine WS_drop ?_ | refine WS_nx ?_ | refine WE_bin ?_ | refine WE_cons ?_ | refine WE_nil ?_ | refine WE_k ?_ | refine WE_app ?_ | refine WE_un ?_ | refine WE_B ?_ | refine WE_notC ?_ | refine WE_call ?_ | refine WE_callK ?_ | refine WE_lst ?_ | refine WE_tup ?_ | refine WE_chain ?_ | refine WE_andV ?_ | refine WE_orV ?_ | refine WE_notV ?_ | refine WE_andC ?_ | refine WE_orC ?_ | refine WE_if ?_ | refine WS_par2 ?_ | refine WS_par3 ?_ | refine WE_rg1 ?_ | refine WE_rg2 ?_ | refine WE_items ?_ | refine WE_enum ?_ | refine WE_zip ?_ | refine WE_revd ?_ | refine WE_callG ?_ | refine WS_put ?_ | refine WS_app ?_ | refine WE_pix ?_ | refine WE_sl ?_ | refine WE_p0 ?_ | refine WE_p1 ?_ | refine WE_true ?_ | refine WE_bor ?_ | refine WE_borC ?_ | refine WE_mt ?_ | refine WS_asg ?_) | ((with_reducible apply WE_var); (case h => exact rfl))
      | ((with_reducible refine And.intro ?_ ?_); (with_reducible first | exact ff1 | exact ff2 | exact ff3 | exact ff4 | exact ff5 | fail); (intro _))
      | ((with_reducible refine And.intro ?_ ?_); rotate_left; (with_reducible first | exact tt1 | exact tt2 | exact tt3 | exact tt4 | exact tt5 | fail); (intro _))
      | ((with_reducible apply Exists.intro); (with_reducible apply And.intro); first | ((with_reducible (first | show addT (.int _) (.int _) = some _ | show subT (.int _) (.int _) = some _ | show negT (.int _) = some _ | show ltT (.int _) (.int _) = some _ | show leT (.int _) (.int _) = some _ | show gtT (.int _) (.int _) = some _ | show geT (.int _) (.int _) = some _ | show intT [.int _] = some _ | show max2T [.int _, .int _] = some _ | show min2T [.int _, .int _] = some _ | show absT [.int _] = some _ | show eqT (.int _) (.int _) = some _ | show neT (.int _) (.int _) = some _ | show T.bl _ = T.bl _ | show T.int _ = T.int _)); exact rfl) | ((with_reducible (first | show isiT _ _ = some _ | show isT _ _ = some _ | show isNT _ _ = some _ | show isisT _ _ = some _)); first | exact (rfl : _ = some (T.bl true)) | exact (rfl : _ = some (T.bl false)) | exact rfl) | fail)
      | fail)
  have hlv := lvl_len n k n
  have hp : 2 ^ n ≤ 2 ^ 11 := Nat.pow_le_pow_right (by decide) (by omega)
  refine ⟨_, .inl rfl, rfl, by omega, (fun k hk => by rw [List.mem_singleton.mp hk]; show 7 < 12; decide), fun row hrow => ?_, ?_⟩
  · have hrl := row_lvl n k n row hrow
    refine ⟨_, rfl, ?_⟩
    repeat' (first
      | with_reducible (first | refine WS_seq ?_ | refine WS_set ?_ | refine WS_ret ?_ | refine WS_if ?_ | refine WS_drop ?_ | refine WS_nx ?_ | refine WE_bin ?_ | refine WE_cons ?_ | refine WE_nil ?_ | refine WE_k ?_ | refine WE_app ?_ | refine WE_un ?_ | refine WE_B ?_ | refine WE_notC ?_ | refine WE_call ?_ | refine WE_callK ?_ | refine WE_lst ?_ | refine WE_tup ?_ | refine WE_chain ?_ | refine WE_andV ?_ | refine WE_orV ?_ | refine WE_notV ?_ | refine WE_andC ?_ | refine WE_orC ?_ | refine WE_if ?_ | refine WS_par2 ?_ | refine WS_par3 ?_ | refine WE_rg1 ?_ | refine WE_rg2 ?_ | refine WE_items ?_ | refine WE_enum ?_ | refine WE_zip ?_ | refine WE_revd ?_ | refine WE_callG ?_ | refine WS_put ?_ | refine WS_app ?_ | refine WE_pix ?_ | refine WE_sl ?_ | refine WE_p0 ?_ | refine WE_p1 ?_ | refine WE_true ?_ | refine WE_bor ?_ | refine WE_borC ?_ | refine WE_mt ?_ | refine WS_asg ?_) | ((with_reducible apply WE_var); (case h => exact rfl))
      | ((with_reducible refine And.intro ?_ ?_); (with_reducible first | exact ff1 | exact ff2 | exact ff3 | exact ff4 | exact ff5 | fail); (intro _))
      | ((with_reducible refine And.intro ?_ ?_); rotate_left; (with_reducible first | exact tt1 | exact tt2 | exact tt3 | exact tt4 | exact tt5 | fail); (intro _))
      | ((with_reducible apply Exists.intro); (with_reducible apply And.intro); first | ((with_reducible (first | show addT (.int _) (.int _) = some _ | show subT (.int _) (.int _) = some _ | show negT (.int _) = some _ | show ltT (.int _) (.int _) = some _ | show leT (.int _) (.int _) = some _ | show gtT (.int _) (.int _) = some _ | show geT (.int _) (.int _) = some _ | show intT [.int _] = some _ | show max2T [.int _, .int _] = some _ | show min2T [.int _, .int _] = some _ | show absT [.int _] = some _ | show eqT (.int _) (.int _) = some _ | show neT (.int _) (.int _) = some _ | show T.bl _ = T.bl _ | show T.int _ = T.int _)); exact rfl) | ((with_reducible (first | show isiT _ _ = some _ | show isT _ _ = some _ | show isNT _ _ = some _ | show isisT _ _ = some _)); first | exact (rfl : _ = some (T.bl true)) | exact (rfl : _ = some (T.bl false)) | exact rfl) | fail)
      | fail)
    refine uneven_ok (by omega) (by omega) (fun he => ?_) (fun he ts => ?_)
    · repeat' (first
      | with_reducible (first | refine WS_seq ?_ | refine WS_set ?_ | refine WS_ret ?_ | refine WS_if ?_ | refine WS_drop ?_ | refine WS_nx ?_ | refine WE_bin ?_ | refine WE_cons ?_ | refine WE_nil ?_ | refine WE_k ?_ | refine WE_app ?_ | refine WE_un ?_ | refine WE_B ?_ | refine WE_notC ?_ | refine WE_call ?_ | refine WE_callK ?_ | refine WE_lst ?_ | refine WE_tup ?_ | refine WE_chain ?_ | refine WE_andV ?_ | refine WE_orV ?_ | refine WE_notV ?_ | refine WE_andC ?_ | refine WE_orC ?_ | refine WE_if ?_ | refine WS_par2 ?_ | refine WS_par3 ?_ | refine WE_rg1 ?_ | refine WE_rg2 ?_ | refine WE_items ?_ | refine WE_enum ?_ | refine WE_zip ?_ | refine WE_revd ?_ | refine WE_callG ?_ | refine WS_put ?_ | refine WS_app ?_ | refine WE_pix ?_ | refine WE_sl ?_ | refine WE_p0 ?_ | refine WE_p1 ?_ | refine WE_true ?_ | refine WE_bor ?_ | refine WE_borC ?_ | refine WE_mt ?_ | refine WS_asg ?_) | ((with_reducible apply WE_var); (case h => exact rfl))
      | ((with_reducible refine And.intro ?_ ?_); (with_reducible first | exact ff1 | exact ff2 | exact ff3 | exact ff4 | exact ff5 | fail); (intro _))
      | ((with_reducible refine And.intro ?_ ?_); rotate_left; (with_reducible first | exact tt1 | exact tt2 | exact tt3 | exact tt4 | exact tt5 | fail); (intro _))
      | ((with_reducible apply Exists.intro); (with_reducible apply And.intro); first | ((with_reducible (first | show addT (.int _) (.int _) = some _ | show subT (.int _) (.int _) = some _ | show negT (.int _) = some _ | show ltT (.int _) (.int _) = some _ | show leT (.int _) (.int _) = some _ | show gtT (.int _) (.int _) = some _ | show geT (.int _) (.int _) = some _ | show intT [.int _] = some _ | show max2T [.int _, .int _] = some _ | show min2T [.int _, .int _] = some _ | show absT [.int _] = some _ | show eqT (.int _) (.int _) = some _ | show neT (.int _) (.int _) = some _ | show T.bl _ = T.bl _ | show T.int _ = T.int _)); exact rfl) | ((with_reducible (first | show isiT _ _ = some _ | show isT _ _ = some _ | show isNT _ _ = some _ | show isisT _ _ = some _)); first | exact (rfl : _ = some (T.bl true)) | exact (rfl : _ = some (T.bl false)) | exact rfl) | fail)
      | fail)
      rw [he]
      refine ⟨rfl, (fun h => nomatch h), fun _ => ?_⟩
      repeat' (first
      | with_reducible (first | refine WS_seq ?_ | refine WS_set ?_ | refine WS_ret ?_ | refine WS_if ?_ | refine WS_drop ?_ | refine WS_nx ?_ | refine WE_bin ?_ | refine WE_cons ?_ | refine WE_nil ?_ | refine WE_k ?_ | refine WE_app ?_ | refine WE_un ?_ | refine WE_B ?_ | refine WE_notC ?_ | refine WE_call ?_ | refine WE_callK ?_ | refine WE_lst ?_ | refine WE_tup ?_ | refine WE_chain ?_ | refine WE_andV ?_ | refine WE_orV ?_ | refine WE_notV ?_ | refine WE_andC ?_ | refine WE_orC ?_ | refine WE_if ?_ | refine WS_par2 ?_ | refine WS_par3 ?_ | refine WE_rg1 ?_ | refine WE_rg2 ?_ | refine WE_items ?_ | refine WE_enum ?_ | refine WE_zip ?_ | refine WE_revd ?_ | refine WE_callG ?_ | refine WS_put ?_ | refine WS_app ?_ | refine WE_pix ?_ | refine WE_sl ?_ | refine WE_p0 ?_ | refine WE_p1 ?_ | refine WE_true ?_ | refine WE_bor ?_ | refine WE_borC ?_ | refine WE_mt ?_ | refine WS_asg ?_) | ((with_reducible apply WE_var); (case h => exact rfl))
      | ((with_reducible refine And.intro ?_ ?_); (with_reducible first | exact ff1 | exact ff2 | exact ff3 | exact ff4 | exact ff5 | fail); (intro _))
      | ((with_reducible refine And.intro ?_ ?_); rotate_left; (with_reducible first | exact tt1 | exact tt2 | exact tt3 | exact tt4 | exact tt5 | fail); (intro _))
      | ((with_reducible apply Exists.intro); (with_reducible apply And.intro); first | ((with_reducible (first | show addT (.int _) (.int _) = some _ | show subT (.int _) (.int _) = some _ | show negT (.int _) = some _ | show ltT (.int _) (.int _) = some _ | show leT (.int _) (.int _) = some _ | show gtT (.int _) (.int _) = some _ | show geT (.int _) (.int _) = some _ | show intT [.int _] = some _ | show max2T [.int _, .int _] = some _ | show min2T [.int _, .int _] = some _ | show absT [.int _] = some _ | show eqT (.int _) (.int _) = some _ | show neT (.int _) (.int _) = some _ | show T.bl _ = T.bl _ | show T.int _ = T.int _)); exact rfl) | ((with_reducible (first | show isiT _ _ = some _ | show isT _ _ = some _ | show isNT _ _ = some _ | show isisT _ _ = some _)); first | exact (rfl : _ = some (T.bl true)) | exact (rfl : _ = some (T.bl false)) | exact rfl) | fail)
      | fail)
      exact ⟨rfl, rfl⟩
    · repeat' (first
      | with_reducible (first | refine WS_seq ?_ | refine WS_set ?_ | refine WS_ret ?_ | refine WS_if ?_ | refine WS_drop ?_ | refine WS_nx ?_ | refine WE_bin ?_ | refine WE_cons ?_ | refine WE_nil ?_ | refine WE_k ?_ | refine WE_app ?_ | refine WE_un ?_ | refine WE_B ?_ | refine WE_notC ?_ | refine WE_call ?_ | refine WE_callK ?_ | refine WE_lst ?_ | refine WE_tup ?_ | refine WE_chain ?_ | refine WE_andV ?_ | refine WE_orV ?_ | refine WE_notV ?_ | refine WE_andC ?_ | refine WE_orC ?_ | refine WE_if ?_ | refine WS_par2 ?_ | refine WS_par3 ?_ | refine WE_rg1 ?_ | refine WE_rg2 ?_ | refine WE_items ?_ | refine WE_enum ?_ | refine WE_zip ?_ | refine WE_revd ?_ | refine WE_callG ?_ | refine WS_put ?_ | refine WS_app ?_ | refine WE_pix ?_ | refine WE_sl ?_ | refine WE_p0 ?_ | refine WE_p1 ?_ | refine WE_true ?_ | refine WE_bor ?_ | refine WE_borC ?_ | refine WE_mt ?_ | refine WS_asg ?_) | ((with_reducible apply WE_var); (case h => exact rfl))
      | ((with_reducible refine And.intro ?_ ?_); (with_reducible first | exact ff1 | exact ff2 | exact ff3 | exact ff4 | exact ff5 | fail); (intro _))
      | ((with_reducible refine And.intro ?_ ?_); rotate_left; (with_reducible first | exact tt1 | exact tt2 | exact tt3 | exact tt4 | exact tt5 | fail); (intro _))
      | ((with_reducible apply Exists.intro); (with_reducible apply And.intro); first | ((with_reducible (first | show addT (.int _) (.int _) = some _ | show subT (.int _) (.int _) = some _ | show negT (.int _) = some _ | show ltT (.int _) (.int _) = some _ | show leT (.int _) (.int _) = some _ | show gtT (.int _) (.int _) = some _ | show geT (.int _) (.int _) = some _ | show intT [.int _] = some _ | show max2T [.int _, .int _] = some _ | show min2T [.int _, .int _] = some _ | show absT [.int _] = some _ | show eqT (.int _) (.int _) = some _ | show neT (.int _) (.int _) = some _ | show T.bl _ = T.bl _ | show T.int _ = T.int _)); exact rfl) | ((with_reducible (first | show isiT _ _ = some _ | show isT _ _ = some _ | show isNT _ _ = some _ | show isisT _ _ = some _)); first | exact (rfl : _ = some (T.bl true)) | exact (rfl : _ = some (T.bl false)) | exact rfl) | fail)
      | fail)
      rw [he]
      exact ⟨rfl, (fun _ => rfl), (fun h => nomatch h)⟩
  · obtain ⟨⟨e, he⟩, _⟩ := small n1 n2 k2
    have prr : pl 11 (rowT (rnd n k)) = true := pl_row 9 (by omega)
    try simp only [List.map_cons, List.map_nil, List.cons_append, List.nil_append, List.length_cons, List.length_nil, Nat.zero_add, Nat.reduceAdd, Nat.reduceSub, Nat.sub_self, List.replicate_zero, List.replicate_succ, List.append_nil, List.set_cons_zero, List.set_cons_succ]
    repeat' (first
      | with_reducible (first | refine WS_seq ?_ | refine WS_set ?_ | refine WS_ret ?_ | refine WS_if ?_ | refine WS_drop ?_ | refine WS_nx ?_ | refine WE_bin ?_ | refine WE_cons ?_ | refine WE_nil ?_ | refine WE_k ?_ | refine WE_app ?_ | refine WE_un ?_ | refine WE_B ?_ | refine WE_notC ?_ | refine WE_call ?_ | refine WE_callK ?_ | refine WE_lst ?_ | refine WE_tup ?_ | refine WE_chain ?_ | refine WE_andV ?_ | refine WE_orV ?_ | refine WE_notV ?_ | refine WE_andC ?_ | refine WE_orC ?_ | refine WE_if ?_ | refine WS_par2 ?_ | refine WS_par3 ?_ | refine WE_rg1 ?_ | refine WE_rg2 ?_ | refine WE_items ?_ | refine WE_enum ?_ | refine WE_zip ?_ | refine WE_revd ?_ | refine WE_callG ?_ | refine WS_put ?_ | refine WS_app ?_ | refine WE_pix ?_ | refine WE_sl ?_ | refine WE_p0 ?_ | refine WE_p1 ?_ | refine WE_true ?_ | refine WE_bor ?_ | refine WE_borC ?_ | refine WE_mt ?_ | refine WS_asg ?_) | ((with_reducible apply WE_var); (case h => exact rfl))
      | ((with_reducible refine And.intro ?_ ?_); (with_reducible first | exact ff1 | exact ff2 | exact ff3 | exact ff4 | exact ff5 | fail); (intro _))
      | ((with_reducible refine And.intro ?_ ?_); rotate_left; (with_reducible first | exact tt1 | exact tt2 | exact tt3 | exact tt4 | exact tt5 | fail); (intro _))
      | ((with_reducible apply Exists.intro); (with_reducible apply And.intro); first | ((with_reducible (first | show addT (.int _) (.int _) = some _ | show subT (.int _) (.int _) = some _ | show negT (.int _) = some _ | show ltT (.int _) (.int _) = some _ | show leT (.int _) (.int _) = some _ | show gtT (.int _) (.int _) = some _ | show geT (.int _) (.int _) = some _ | show intT [.int _] = some _ | show max2T [.int _, .int _] = some _ | show min2T [.int _, .int _] = some _ | show absT [.int _] = some _ | show eqT (.int _) (.int _) = some _ | show neT (.int _) (.int _) = some _ | show T.bl _ = T.bl _ | show T.int _ = T.int _)); exact rfl) | ((with_reducible (first | show isiT _ _ = some _ | show isT _ _ = some _ | show isNT _ _ = some _ | show isisT _ _ = some _)); first | exact (rfl : _ = some (T.bl true)) | exact (rfl : _ = some (T.bl false)) | exact rfl) | fail)
      | fail)
    refine ⟨rowT (rnd n k), by rw [he]; exact ixT_rows (x := rnd n k :: e) (k := 0) rfl (by simp), ?_⟩
    repeat' (first
      | with_reducible (first | refine WS_seq ?_ | refine WS_set ?_ | refine WS_ret ?_ | refine WS_if ?_ | refine WS_drop ?_ | refine WS_nx ?_ | refine WE_bin ?_ | refine WE_cons ?_ | refine WE_nil ?_ | refine WE_k ?_ | refine WE_app ?_ | refine WE_un ?_ | refine WE_B ?_ | refine WE_notC ?_ | refine WE_call ?_ | refine WE_callK ?_ | refine WE_lst ?_ | refine WE_tup ?_ | refine WE_chain ?_ | refine WE_andV ?_ | refine WE_orV ?_ | refine WE_notV ?_ | refine WE_andC ?_ | refine WE_orC ?_ | refine WE_if ?_ | refine WS_par2 ?_ | refine WS_par3 ?_ | refine WE_rg1 ?_ | refine WE_rg2 ?_ | refine WE_items ?_ | refine WE_enum ?_ | refine WE_zip ?_ | refine WE_revd ?_ | refine WE_callG ?_ | refine WS_put ?_ | refine WS_app ?_ | refine WE_pix ?_ | refine WE_sl ?_ | refine WE_p0 ?_ | refine WE_p1 ?_ | refine WE_true ?_ | refine WE_bor ?_ | refine WE_borC ?_ | refine WE_mt ?_ | refine WS_asg ?_) | ((with_reducible apply WE_var); (case h => exact rfl))
      | ((with_reducible refine And.intro ?_ ?_); (with_reducible first | exact ff1 | exact ff2 | exact ff3 | exact ff4 | exact ff5 | fail); (intro _))
      | ((with_reducible refine And.intro ?_ ?_); rotate_left; (with_reducible first | exact tt1 | exact tt2 | exact tt3 | exact tt4 | exact tt5 | fail); (intro _))
      | ((with_reducible apply Exists.intro); (with_reducible apply And.intro); first | ((with_reducible (first | show addT (.int _) (.int _) = some _ | show subT (.int _) (.int _) = some _ | show negT (.int _) = some _ | show ltT (.int _) (.int _) = some _ | show leT (.int _) (.int _) = some _ | show gtT (.int _) (.int _) = some _ | show geT (.int _) (.int _) = some _ | show intT [.int _] = some _ | show max2T [.int _, .int _] = some _ | show min2T [.int _, .int _] = some _ | show absT [.int _] = some _ | show eqT (.int _) (.int _) = some _ | show neT (.int _) (.int _) = some _ | show T.bl _ = T.bl _ | show T.int _ = T.int _)); exact rfl) | ((with_reducible (first | show isiT _ _ = some _ | show isT _ _ = some _ | show isNT _ _ = some _ | show isisT _ _ = some _)); first | exact (rfl : _ = some (T.bl true)) | exact (rfl : _ = some (T.bl false)) | exact rfl) | fail)
      | fail)
    refine WR.of_eq (same_refl 11 _ prr) ⟨rfl, ?_⟩
    refine ⟨_, rfl, ?_⟩
    refine ⟨(fun h => nomatch h), fun _ => ?_⟩
    refine WE_notC ?_
    refine lots_ok n1 n2 k2 rfl ?_
    repeat' (first
      | with_reducible (first | refine WS_seq ?_ | refine WS_set ?_ | refine WS_ret ?_ | refine WS_if ?_ | refine WS_drop ?_ | refine WS_nx ?_ | refine WE_bin ?_ | refine WE_cons ?_ | refine WE_nil ?_ | refine WE_k ?_ | refine WE_app ?_ | refine WE_un ?_ | refine WE_B ?_ | refine WE_notC ?_ | refine WE_call ?_ | refine WE_callK ?_ | refine WE_lst ?_ | refine WE_tup ?_ | refine WE_chain ?_ | refine WE_andV ?_ | refine WE_orV ?_ | refine WE_notV ?_ | refine WE_andC ?_ | refine WE_orC ?_ | refine WE_if ?_ | refine WS_par2 ?_ | refine WS_par3 ?_ | refine WE_rg1 ?_ | refine WE_rg2 ?_ | refine WE_items ?_ | refine WE_enum ?_ | refine WE_zip ?_ | refine WE_revd ?_ | refine WE_callG ?_ | refine WS_put ?_ | refine WS_app ?_ | refine WE_pix ?_ | refine WE_sl ?_ | refine WE_p0 ?_ | refine WE_p1 ?_ | refine WE_true ?_ | refine WE_bor ?_ | refine WE_borC ?_ | refine WE_mt ?_ | refine WS_asg ?_) | ((with_reducible apply WE_var); (case h => exact rfl))
      | ((with_reducible refine And.intro ?_ ?_); (with_reducible first | exact ff1 | exact ff2 | exact ff3 | exact ff4 | exact ff5 | fail); (intro _))
      | ((with_reducible refine And.intro ?_ ?_); rotate_left; (with_reducible first | exact tt1 | exact tt2 | exact tt3 | exact tt4 | exact tt5 | fail); (intro _))
      | ((with_reducible apply Exists.intro); (with_reducible apply And.intro); first | ((with_reducible (first | show addT (.int _) (.int _) = some _ | show subT (.int _) (.int _) = some _ | show negT (.int _) = some _ | show ltT (.int _) (.int _) = some _ | show leT (.int _) (.int _) = some _ | show gtT (.int _) (.int _) = some _ | show geT (.int _) (.int _) = some _ | show intT [.int _] = some _ | show max2T [.int _, .int _] = some _ | show min2T [.int _, .int _] = some _ | show absT [.int _] = some _ | show eqT (.int _) (.int _) = some _ | show neT (.int _) (.int _) = some _ | show T.bl _ = T.bl _ | show T.int _ = T.int _)); exact rfl) | ((with_reducible (first | show isiT _ _ = some _ | show isT _ _ = some _ | show isNT _ _ = some _ | show isisT _ _ = some _)); first | exact (rfl : _ = some (T.bl true)) | exact (rfl : _ = some (T.bl false)) | exact rfl) | fail)
      | fail)
    refine ⟨_, rfl, by rw [List.length_map, hr]; omega, ?_⟩
    try simp only [List.map_cons, List.map_nil, List.cons_append, List.nil_append, List.length_cons, List.length_nil, Nat.zero_add, Nat.reduceAdd, Nat.reduceSub, Nat.sub_self, List.replicate_zero, List.replicate_succ, List.append_nil, List.set_cons_zero, List.set_cons_succ]
    repeat' (first
      | with_reducible (first | refine WS_seq ?_ | refine WS_set ?_ | refine WS_ret ?_ | refine WS_if ?_ | refine WS_drop ?_ | refine WS_nx ?_ | refine WE_bin ?_ | refine WE_cons ?_ | refine WE_nil ?_ | refine WE_k ?_ | refine WE_app ?_ | refine WE_un ?_ | refine WE_B ?_ | refine WE_notC ?_ | refine WE_call ?_ | refine WE_callK ?_ | refine WE_lst ?_ | refine WE_tup ?_ | refine WE_chain ?_ | refine WE_andV ?_ | refine WE_orV ?_ | refine WE_notV ?_ | refine WE_andC ?_ | refine WE_orC ?_ | refine WE_if ?_ | refine WS_par2 ?_ | refine WS_par3 ?_ | refine WE_rg1 ?_ | refine WE_rg2 ?_ | refine WE_items ?_ | refine WE_enum ?_ | refine WE_zip ?_ | refine WE_revd ?_ | refine WE_callG ?_ | refine WS_put ?_ | refine WS_app ?_ | refine WE_pix ?_ | refine WE_sl ?_ | refine WE_p0 ?_ | refine WE_p1 ?_ | refine WE_true ?_ | refine WE_bor ?_ | refine WE_borC ?_ | refine WE_mt ?_ | refine WS_asg ?_) | ((with_reducible apply WE_var); (case h => exact rfl))
      | ((with_reducible refine And.intro ?_ ?_); (with_reducible first | exact ff1 | exact ff2 | exact ff3 | exact ff4 | exact ff5 | fail); (intro _))
      | ((with_reducible refine And.intro ?_ ?_); rotate_left; (with_reducible first | exact tt1 | exact tt2 | exact tt3 | exact tt4 | exact tt5 | fail); (intro _))
      | ((with_reducible apply Exists.intro); (with_reducible apply And.intro); first | ((with_reducible (first | show addT (.int _) (.int _) = some _ | show subT (.int _) (.int _) = some _ | show negT (.int _) = some _ | show ltT (.int _) (.int _) = some _ | show leT (.int _) (.int _) = some _ | show gtT (.int _) (.int _) = some _ | show geT (.int _) (.int _) = some _ | show intT [.int _] = some _ | show max2T [.int _, .int _] = some _ | show min2T [.int _, .int _] = some _ | show absT [.int _] = some _ | show eqT (.int _) (.int _) = some _ | show neT (.int _) (.int _) = some _ | show T.bl _ = T.bl _ | show T.int _ = T.int _)); exact rfl) | ((with_reducible (first | show isiT _ _ = some _ | show isT _ _ = some _ | show isNT _ _ = some _ | show isisT _ _ = some _)); first | exact (rfl : _ = some (T.bl true)) | exact (rfl : _ = some (T.bl false)) | exact rfl) | fail)
      | fail)
    refine round_row_ok (by omega) (by omega) (by omega) (by omega) ?_
    repeat' (first
      | with_reducible (first | refine WS_seq ?_ | refine WS_set ?_ | refine WS_ret ?_ | refine WS_if ?_ | refine WS_drop ?_ | refine WS_nx ?_ | refine WE_bin ?_ | refine WE_cons ?_ | refine WE_nil ?_ | refine WE_k ?_ | refine WE_app ?_ | refine WE_un ?_ | refine WE_B ?_ | refine WE_notC ?_ | refine WE_call ?_ | refine WE_callK ?_ | refine WE_lst ?_ | refine WE_tup ?_ | refine WE_chain ?_ | refine WE_andV ?_ | refine WE_orV ?_ | refine WE_notV ?_ | refine WE_andC ?_ | refine WE_orC ?_ | refine WE_if ?_ | refine WS_par2 ?_ | refine WS_par3 ?_ | refine WE_rg1 ?_ | refine WE_rg2 ?_ | refine WE_items ?_ | refine WE_enum ?_ | refine WE_zip ?_ | refine WE_revd ?_ | refine WE_callG ?_ | refine WS_put ?_ | refine WS_app ?_ | refine WE_pix ?_ | refine WE_sl ?_ | refine WE_p0 ?_ | refine WE_p1 ?_ | refine WE_true ?_ | refine WE_bor ?_ | refine WE_borC ?_ | refine WE_mt ?_ | refine WS_asg ?_) | ((with_reducible apply WE_var); (case h => exact rfl))
      | ((with_reducible refine And.intro ?_ ?_); (with_reducible first | exact ff1 | exact ff2 | exact ff3 | exact ff4 | exact ff5 | fail); (intro _))
      | ((with_reducible refine And.intro ?_ ?_); rotate_left; (with_reducible first | exact tt1 | exact tt2 | exact tt3 | exact tt4 | exact tt5 | fail); (intro _))
      | ((with_reducible apply Exists.intro); (with_reducible apply And.intro); first | ((with_reducible (first | show addT (.int _) (.int _) = some _ | show subT (.int _) (.int _) = some _ | show negT (.int _) = some _ | show ltT (.int _) (.int _) = some _ | show leT (.int _) (.int _) = some _ | show gtT (.int _) (.int _) = some _ | show geT (.int _) (.int _) = some _ | show intT [.int _] = some _ | show max2T [.int _, .int _] = some _ | show min2T [.int _, .int _] = some _ | show absT [.int _] = some _ | show eqT (.int _) (.int _) = some _ | show neT (.int _) (.int _) = some _ | show T.bl _ = T.bl _ | show T.int _ = T.int _)); exact rfl) | ((with_reducible (first | show isiT _ _ = some _ | show isT _ _ = some _ | show isNT _ _ = some _ | show isisT _ _ = some _)); first | exact (rfl : _ = some (T.bl true)) | exact (rfl : _ = some (T.bl false)) | exact rfl) | fail)
      | fail)
    refine ⟨rowT (rnd n k), by rw [he]; exact ixT_rows (x := rnd n k :: e) (k := 0) rfl (by simp), ?_⟩
    repeat' (first
      | with_reducible (first | refine WS_seq ?_ | refine WS_set ?_ | refine WS_ret ?_ | refine WS_if ?_ | refine WS_drop ?_ | refine WS_nx ?_ | refine WE_bin ?_ | refine WE_cons ?_ | refine WE_nil ?_ | refine WE_k ?_ | refine WE_app ?_ | refine WE_un ?_ | refine WE_B ?_ | refine WE_notC ?_ | refine WE_call ?_ | refine WE_callK ?_ | refine WE_lst ?_ | refine WE_tup ?_ | refine WE_chain ?_ | refine WE_andV ?_ | refine WE_orV ?_ | refine WE_notV ?_ | refine WE_andC ?_ | refine WE_orC ?_ | refine WE_if ?_ | refine WS_par2 ?_ | refine WS_par3 ?_ | refine WE_rg1 ?_ | refine WE_rg2 ?_ | refine WE_items ?_ | refine WE_enum ?_ | refine WE_zip ?_ | refine WE_revd ?_ | refine WE_callG ?_ | refine WS_put ?_ | refine WS_app ?_ | refine WE_pix ?_ | refine WE_sl ?_ | refine WE_p0 ?_ | refine WE_p1 ?_ | refine WE_true ?_ | refine WE_bor ?_ | refine WE_borC ?_ | refine WE_mt ?_ | refine WS_asg ?_) | ((with_reducible apply WE_var); (case h => exact rfl))
      | ((with_reducible refine And.intro ?_ ?_); (with_reducible first | exact ff1 | exact ff2 | exact ff3 | exact ff4 | exact ff5 | fail); (intro _))
      | ((with_reducible refine And.intro ?_ ?_); rotate_left; (with_reducible first | exact tt1 | exact tt2 | exact tt3 | exact tt4 | exact tt5 | fail); (intro _))
      | ((with_reducible apply Exists.intro); (with_reducible apply And.intro); first | ((with_reducible (first | show addT (.int _) (.int _) = some _ | show subT (.int _) (.int _) = some _ | show negT (.int _) = some _ | show ltT (.int _) (.int _) = some _ | show leT (.int _) (.int _) = some _ | show gtT (.int _) (.int _) = some _ | show geT (.int _) (.int _) = some _ | show intT [.int _] = some _ | show max2T [.int _, .int _] = some _ | show min2T [.int _, .int _] = some _ | show absT [.int _] = some _ | show eqT (.int _) (.int _) = some _ | show neT (.int _) (.int _) = some _ | show T.bl _ = T.bl _ | show T.int _ = T.int _)); exact rfl) | ((with_reducible (first | show isiT _ _ = some _ | show isT _ _ = some _ | show isNT _ _ = some _ | show isisT _ _ = some _)); first | exact (rfl : _ = some (T.bl true)) | exact (rfl : _ = some (T.bl false)) | exact rfl) | fail)
      | fail)
    refine WR.of_eq (same_refl 11 _ prr) ?_
    repeat' (first
      | with_reducible (first | refine WS_seq ?_ | refine WS_set ?_ | refine WS_ret ?_ | refine WS_if ?_ | refine WS_drop ?_ | refine WS_nx ?_ | refine WE_bin ?_ | refine WE_cons ?_ | refine WE_nil ?_ | refine WE_k ?_ | refine WE_app ?_ | refine WE_un ?_ | refine WE_B ?_ | refine WE_notC ?_ | refine WE_call ?_ | refine WE_callK ?_ | refine WE_lst ?_ | refine WE_tup ?_ | refine WE_chain ?_ | refine WE_andV ?_ | refine WE_orV ?_ | refine WE_notV ?_ | refine WE_andC ?_ | refine WE_orC ?_ | refine WE_if ?_ | refine WS_par2 ?_ | refine WS_par3 ?_ | refine WE_rg1 ?_ | refine WE_rg2 ?_ | refine WE_items ?_ | refine WE_enum ?_ | refine WE_zip ?_ | refine WE_revd ?_ | refine WE_callG ?_ | refine WS_put ?_ | refine WS_app ?_ | refine WE_pix ?_ | refine WE_sl ?_ | refine WE_p0 ?_ | refine WE_p1 ?_ | refine WE_true ?_ | refine WE_bor ?_ | refine WE_borC ?_ | refine WE_mt ?_ | refine WS_asg ?_) | ((with_reducible apply WE_var); (case h => exact rfl))
      | ((with_reducible refine And.intro ?_ ?_); (with_reducible first | exact ff1 | exact ff2 | exact ff3 | exact ff4 | exact ff5 | fail); (intro _))
      | ((with_reducible refine And.intro ?_ ?_); rotate_left; (with_reducible first | exact tt1 | exact tt2 | exact tt3 | exact tt4 | exact tt5 | fail); (intro _))
      | ((with_reducible apply Exists.intro); (with_reducible apply And.intro); first | ((with_reducible (first | show addT (.int _) (.int _) = some _ | show subT (.int _) (.int _) = some _ | show negT (.int _) = some _ | show ltT (.int _) (.int _) = some _ | show leT (.int _) (.int _) = some _ | show gtT (.int _) (.int _) = some _ | show geT (.int _) (.int _) = some _ | show intT [.int _] = some _ | show max2T [.int _, .int _] = some _ | show min2T [.int _, .int _] = some _ | show absT [.int _] = some _ | show eqT (.int _) (.int _) = some _ | show neT (.int _) (.int _) = some _ | show T.bl _ = T.bl _ | show T.int _ = T.int _)); exact rfl) | ((with_reducible (first | show isiT _ _ = some _ | show isT _ _ = some _ | show isNT _ _ = some _ | show isisT _ _ = some _)); first | exact (rfl : _ = some (T.bl true)) | exact (rfl : _ = some (T.bl false)) | exact rfl) | fail)
      | fail)
    refine ⟨_, rfl, random_ok g2 (by decide) (by decide) (by decide) fun d2 us5 g5 e0 e1 => ⟨_, rfl, ?_⟩⟩
    try simp only [List.map_cons, List.map_nil, List.cons_append, List.nil_append, List.length_cons, List.length_nil, Nat.zero_add, Nat.reduceAdd, Nat.reduceSub, Nat.sub_self, List.replicate_zero, List.replicate_succ, List.append_nil, List.set_cons_zero, List.set_cons_succ]
    repeat' (first
      | with_reducible (first | refine WS_seq ?_ | refine WS_set ?_ | refine WS_ret ?_ | refine WS_if ?_ | refine WS_drop ?_ | refine WS_nx ?_ | refine WE_bin ?_ | refine WE_cons ?_ | refine WE_nil ?_ | refine WE_k ?_ | refine WE_app ?_ | refine WE_un ?_ | refine WE_B ?_ | refine WE_notC ?_ | refine WE_call ?_ | refine WE_callK ?_ | refine WE_lst ?_ | refine WE_tup ?_ | refine WE_chain ?_ | refine WE_andV ?_ | refine WE_orV ?_ | refine WE_notV ?_ | refine WE_andC ?_ | refine WE_orC ?_ | refine WE_if ?_ | refine WS_par2 ?_ | refine WS_par3 ?_ | refine WE_rg1 ?_ | refine WE_rg2 ?_ | refine WE_items ?_ | refine WE_enum ?_ | refine WE_zip ?_ | refine WE_revd ?_ | refine WE_callG ?_ | refine WS_put ?_ | refine WS_app ?_ | refine WE_pix ?_ | refine WE_sl ?_ | refine WE_p0 ?_ | refine WE_p1 ?_ | refine WE_true ?_ | refine WE_bor ?_ | refine WE_borC ?_ | refine WE_mt ?_ | refine WS_asg ?_) | ((with_reducible apply WE_var); (case h => exact rfl))
      | ((with_reducible refine And.intro ?_ ?_); (with_reducible first | exact ff1 | exact ff2 | exact ff3 | exact ff4 | exact ff5 | fail); (intro _))
      | ((with_reducible refine And.intro ?_ ?_); rotate_left; (with_reducible first | exact tt1 | exact tt2 | exact tt3 | exact tt4 | exact tt5 | fail); (intro _))
      | ((with_reducible apply Exists.intro); (with_reducible apply And.intro); first | ((with_reducible (first | show addT (.int _) (.int _) = some _ | show subT (.int _) (.int _) = some _ | show negT (.int _) = some _ | show ltT (.int _) (.int _) = some _ | show leT (.int _) (.int _) = some _ | show gtT (.int _) (.int _) = some _ | show geT (.int _) (.int _) = some _ | show intT [.int _] = some _ | show max2T [.int _, .int _] = some _ | show min2T [.int _, .int _] = some _ | show absT [.int _] = some _ | show eqT (.int _) (.int _) = some _ | show neT (.int _) (.int _) = some _ | show T.bl _ = T.bl _ | show T.int _ = T.int _)); exact rfl) | ((with_reducible (first | show isiT _ _ = some _ | show isT _ _ = some _ | show isNT _ _ = some _ | show isisT _ _ = some _)); first | exact (rfl : _ = some (T.bl true)) | exact (rfl : _ = some (T.bl false)) | exact rfl) | fail)
      | fail)
    refine ⟨_, rfl, random_ok g5 (by decide) (by omega) (by omega) fun m us6 g6 f0 f1 => ⟨_, rfl, ?_⟩⟩
    have w1 : 1 ≤ 1 + d2 ∧ 1 + d2 ≤ 60 := by omega
    generalize 1 + d2 = w at *
    have hw : (rnd w m).length = w.toNat := rnd_len
    have hb : Bits (rnd w m) := rnd_bits w1.1 f0 (by omega)
    obtain ⟨tl, htl⟩ := turns_head (r := rnd w m) (by omega)
    have hmin : minR (rnd w m) tl = rnd w m := minR_least tl _ fun t ht => rnd_least (by omega) (by rw [htl]; exact List.mem_cons_of_mem _ ht)
    try simp only [List.map_cons, List.map_nil, List.cons_append, List.nil_append, List.length_cons, List.length_nil, Nat.zero_add, Nat.reduceAdd, Nat.reduceSub, Nat.sub_self, List.replicate_zero, List.replicate_succ, List.append_nil, List.set_cons_zero, List.set_cons_succ]
    repeat' (first
      | with_reducible (first | refine WS_seq ?_ | refine WS_set ?_ | refine WS_ret ?_ | refine WS_if ?_ | refine WS_drop ?_ | refine WS_nx ?_ | refine WE_bin ?_ | refine WE_cons ?_ | refine WE_nil ?_ | refine WE_k ?_ | refine WE_app ?_ | refine WE_un ?_ | refine WE_B ?_ | refine WE_notC ?_ | refine WE_call ?_ | refine WE_callK ?_ | refine WE_lst ?_ | refine WE_tup ?_ | refine WE_chain ?_ | refine WE_andV ?_ | refine WE_orV ?_ | refine WE_notV ?_ | refine WE_andC ?_ | refine WE_orC ?_ | refine WE_if ?_ | refine WS_par2 ?_ | refine WS_par3 ?_ | refine WE_rg1 ?_ | refine WE_rg2 ?_ | refine WE_items ?_ | refine WE_enum ?_ | refine WE_zip ?_ | refine WE_revd ?_ | refine WE_callG ?_ | refine WS_put ?_ | refine WS_app ?_ | refine WE_pix ?_ | refine WE_sl ?_ | refine WE_p0 ?_ | refine WE_p1 ?_ | refine WE_true ?_ | refine WE_bor ?_ | refine WE_borC ?_ | refine WE_mt ?_ | refine WS_asg ?_) | ((with_reducible apply WE_var); (case h => exact rfl))
      | ((with_reducible refine And.intro ?_ ?_); (with_reducible first | exact ff1 | exact ff2 | exact ff3 | exact ff4 | exact ff5 | fail); (intro _))
      | ((with_reducible refine And.intro ?_ ?_); rotate_left; (with_reducible first | exact tt1 | exact tt2 | exact tt3 | exact tt4 | exact tt5 | fail); (intro _))
      | ((with_reducible apply Exists.intro); (with_reducible apply And.intro); first | ((with_reducible (first | show addT (.int _) (.int _) = some _ | show subT (.int _) (.int _) = some _ | show negT (.int _) = some _ | show ltT (.int _) (.int _) = some _ | show leT (.int _) (.int _) = some _ | show gtT (.int _) (.int _) = some _ | show geT (.int _) (.int _) = some _ | show intT [.int _] = some _ | show max2T [.int _, .int _] = some _ | show min2T [.int _, .int _] = some _ | show absT [.int _] = some _ | show eqT (.int _) (.int _) = some _ | show neT (.int _) (.int _) = some _ | show T.bl _ = T.bl _ | show T.int _ = T.int _)); exact rfl) | ((with_reducible (first | show isiT _ _ = some _ | show isT _ _ = some _ | show isNT _ _ = some _ | show isisT _ _ = some _)); first | exact (rfl : _ = some (T.bl true)) | exact (rfl : _ = some (T.bl false)) | exact rfl) | fail)
      | fail)
    refine round_row_ok (by omega) (by omega) (by omega) (by omega) ?_
    try simp only [List.map_cons, List.map_nil, List.cons_append, List.nil_append, List.length_cons, List.length_nil, Nat.zero_add, Nat.reduceAdd, Nat.reduceSub, Nat.sub_self, List.replicate_zero, List.replicate_succ, List.append_nil, List.set_cons_zero, List.set_cons_succ]
    repeat' (first
      | with_reducible (first | refine WS_seq ?_ | refine WS_set ?_ | refine WS_ret ?_ | refine WS_if ?_ | refine WS_drop ?_ | refine WS_nx ?_ | refine WE_bin ?_ | refine WE_cons ?_ | refine WE_nil ?_ | refine WE_k ?_ | refine WE_app ?_ | refine WE_un ?_ | refine WE_B ?_ | refine WE_notC ?_ | refine WE_call ?_ | refine WE_callK ?_ | refine WE_lst ?_ | refine WE_tup ?_ | refine WE_chain ?_ | refine WE_andV ?_ | refine WE_orV ?_ | refine WE_notV ?_ | refine WE_andC ?_ | refine WE_orC ?_ | refine WE_if ?_ | refine WS_par2 ?_ | refine WS_par3 ?_ | refine WE_rg1 ?_ | refine WE_rg2 ?_ | refine WE_items ?_ | refine WE_enum ?_ | refine WE_zip ?_ | refine WE_revd ?_ | refine WE_callG ?_ | refine WS_put ?_ | refine WS_app ?_ | refine WE_pix ?_ | refine WE_sl ?_ | refine WE_p0 ?_ | refine WE_p1 ?_ | refine WE_true ?_ | refine WE_bor ?_ | refine WE_borC ?_ | refine WE_mt ?_ | refine WS_asg ?_) | ((with_reducible apply WE_var); (case h => exact rfl))
      | ((with_reducible refine And.intro ?_ ?_); (with_reducible first | exact ff1 | exact ff2 | exact ff3 | exact ff4 | exact ff5 | fail); (intro _))
      | ((with_reducible refine And.intro ?_ ?_); rotate_left; (with_reducible first | exact tt1 | exact tt2 | exact tt3 | exact tt4 | exact tt5 | fail); (intro _))
      | ((with_reducible apply Exists.intro); (with_reducible apply And.intro); first | ((with_reducible (first | show addT (.int _) (.int _) = some _ | show subT (.int _) (.int _) = some _ | show negT (.int _) = some _ | show ltT (.int _) (.int _) = some _ | show leT (.int _) (.int _) = some _ | show gtT (.int _) (.int _) = some _ | show geT (.int _) (.int _) = some _ | show intT [.int _] = some _ | show max2T [.int _, .int _] = some _ | show min2T [.int _, .int _] = some _ | show absT [.int _] = some _ | show eqT (.int _) (.int _) = some _ | show neT (.int _) (.int _) = some _ | show T.bl _ = T.bl _ | show T.int _ = T.int _)); exact rfl) | ((with_reducible (first | show isiT _ _ = some _ | show isT _ _ = some _ | show isNT _ _ = some _ | show isisT _ _ = some _)); first | exact (rfl : _ = some (T.bl true)) | exact (rfl : _ = some (T.bl false)) | exact rfl) | fail)
      | fail)
    refine ⟨.int w, by rw [lenT_row (by rw [hw]; simp only [LIM]; omega), hw, Int.toNat_of_nonneg (by omega)], ?_⟩
    repeat' (first
      | with_reducible (first | refine WS_seq ?_ | refine WS_set ?_ | refine WS_ret ?_ | refine WS_if ?_ | refine WS_drop ?_ | refine WS_nx ?_ | refine WE_bin ?_ | refine WE_cons ?_ | refine WE_nil ?_ | refine WE_k ?_ | refine WE_app ?_ | refine WE_un ?_ | refine WE_B ?_ | refine WE_notC ?_ | refine WE_call ?_ | refine WE_callK ?_ | refine WE_lst ?_ | refine WE_tup ?_ | refine WE_chain ?_ | refine WE_andV ?_ | refine WE_orV ?_ | refine WE_notV ?_ | refine WE_andC ?_ | refine WE_orC ?_ | refine WE_if ?_ | refine WS_par2 ?_ | refine WS_par3 ?_ | refine WE_rg1 ?_ | refine WE_rg2 ?_ | refine WE_items ?_ | refine WE_enum ?_ | refine WE_zip ?_ | refine WE_revd ?_ | refine WE_callG ?_ | refine WS_put ?_ | refine WS_app ?_ | refine WE_pix ?_ | refine WE_sl ?_ | refine WE_p0 ?_ | refine WE_p1 ?_ | refine WE_true ?_ | refine WE_bor ?_ | refine WE_borC ?_ | refine WE_mt ?_ | refine WS_asg ?_) | ((with_reducible apply WE_var); (case h => exact rfl))
      | ((with_reducible refine And.intro ?_ ?_); (with_reducible first | exact ff1 | exact ff2 | exact ff3 | exact ff4 | exact ff5 | fail); (intro _))
      | ((with_reducible refine And.intro ?_ ?_); rotate_left; (with_reducible first | exact tt1 | exact tt2 | exact tt3 | exact tt4 | exact tt5 | fail); (intro _))
      | ((with_reducible apply Exists.intro); (with_reducible apply And.intro); first | ((with_reducible (first | show addT (.int _) (.int _) = some _ | show subT (.int _) (.int _) = some _ | show negT (.int _) = some _ | show ltT (.int _) (.int _) = some _ | show leT (.int _) (.int _) = some _ | show gtT (.int _) (.int _) = some _ | show geT (.int _) (.int _) = some _ | show intT [.int _] = some _ | show max2T [.int _, .int _] = some _ | show min2T [.int _, .int _] = some _ | show absT [.int _] = some _ | show eqT (.int _) (.int _) = some _ | show neT (.int _) (.int _) = some _ | show T.bl _ = T.bl _ | show T.int _ = T.int _)); exact rfl) | ((with_reducible (first | show isiT _ _ = some _ | show isT _ _ = some _ | show isNT _ _ = some _ | show isisT _ _ = some _)); first | exact (rfl : _ = some (T.bl true)) | exact (rfl : _ = some (T.bl false)) | exact rfl) | fail)
      | fail)
    refine ⟨fun z => by simp [eqB] at z, fun _ => ?_⟩
    repeat' (first
      | with_reducible (first | refine WS_seq ?_ | refine WS_set ?_ | refine WS_ret ?_ | refine WS_if ?_ | refine WS_drop ?_ | refine WS_nx ?_ | refine WE_bin ?_ | refine WE_cons ?_ | refine WE_nil ?_ | refine WE_k ?_ | refine WE_app ?_ | refine WE_un ?_ | refine WE_B ?_ | refine WE_notC ?_ | refine WE_call ?_ | refine WE_callK ?_ | refine WE_lst ?_ | refine WE_tup ?_ | refine WE_chain ?_ | refine WE_andV ?_ | refine WE_orV ?_ | refine WE_notV ?_ | refine WE_andC ?_ | refine WE_orC ?_ | refine WE_if ?_ | refine WS_par2 ?_ | refine WS_par3 ?_ | refine WE_rg1 ?_ | refine WE_rg2 ?_ | refine WE_items ?_ | refine WE_enum ?_ | refine WE_zip ?_ | refine WE_revd ?_ | refine WE_callG ?_ | refine WS_put ?_ | refine WS_app ?_ | refine WE_pix ?_ | refine WE_sl ?_ | refine WE_p0 ?_ | refine WE_p1 ?_ | refine WE_true ?_ | refine WE_bor ?_ | refine WE_borC ?_ | refine WE_mt ?_ | refine WS_asg ?_) | ((with_reducible apply WE_var); (case h => exact rfl))
      | ((with_reducible refine And.intro ?_ ?_); (with_reducible first | exact ff1 | exact ff2 | exact ff3 | exact ff4 | exact ff5 | fail); (intro _))
      | ((with_reducible refine And.intro ?_ ?_); rotate_left; (with_reducible first | exact tt1 | exact tt2 | exact tt3 | exact tt4 | exact tt5 | fail); (intro _))
      | ((with_reducible apply Exists.intro); (with_reducible apply And.intro); first | ((with_reducible (first | show addT (.int _) (.int _) = some _ | show subT (.int _) (.int _) = some _ | show negT (.int _) = some _ | show ltT (.int _) (.int _) = some _ | show leT (.int _) (.int _) = some _ | show gtT (.int _) (.int _) = some _ | show geT (.int _) (.int _) = some _ | show intT [.int _] = some _ | show max2T [.int _, .int _] = some _ | show min2T [.int _, .int _] = some _ | show absT [.int _] = some _ | show eqT (.int _) (.int _) = some _ | show neT (.int _) (.int _) = some _ | show T.bl _ = T.bl _ | show T.int _ = T.int _)); exact rfl) | ((with_reducible (first | show isiT _ _ = some _ | show isT _ _ = some _ | show isNT _ _ = some _ | show isisT _ _ = some _)); first | exact (rfl : _ = some (T.bl true)) | exact (rfl : _ = some (T.bl false)) | exact rfl) | fail)
      | fail)
    refine ⟨.int m, by rw [sumT_row, rnd_sum (by omega)], ?_⟩
    repeat' (first
      | with_reducible (first | refine WS_seq ?_ | refine WS_set ?_ | refine WS_ret ?_ | refine WS_if ?_ | refine WS_drop ?_ | refine WS_nx ?_ | refine WE_bin ?_ | refine WE_cons ?_ | refine WE_nil ?_ | refine WE_k ?_ | refine WE_app ?_ | refine WE_un ?_ | refine WE_B ?_ | refine WE_notC ?_ | refine WE_call ?_ | refine WE_callK ?_ | refine WE_lst ?_ | refine WE_tup ?_ | refine WE_chain ?_ | refine WE_andV ?_ | refine WE_orV ?_ | refine WE_notV ?_ | refine WE_andC ?_ | refine WE_orC ?_ | refine WE_if ?_ | refine WS_par2 ?_ | refine WS_par3 ?_ | refine WE_rg1 ?_ | refine WE_rg2 ?_ | refine WE_items ?_ | refine WE_enum ?_ | refine WE_zip ?_ | refine WE_revd ?_ | refine WE_callG ?_ | refine WS_put ?_ | refine WS_app ?_ | refine WE_pix ?_ | refine WE_sl ?_ | refine WE_p0 ?_ | refine WE_p1 ?_ | refine WE_true ?_ | refine WE_bor ?_ | refine WE_borC ?_ | refine WE_mt ?_ | refine WS_asg ?_) | ((with_reducible apply WE_var); (case h => exact rfl))
      | ((with_reducible refine And.intro ?_ ?_); (with_reducible first | exact ff1 | exact ff2 | exact ff3 | exact ff4 | exact ff5 | fail); (intro _))
      | ((with_reducible refine And.intro ?_ ?_); rotate_left; (with_reducible first | exact tt1 | exact tt2 | exact tt3 | exact tt4 | exact tt5 | fail); (intro _))
      | ((with_reducible apply Exists.intro); (with_reducible apply And.intro); first | ((with_reducible (first | show addT (.int _) (.int _) = some _ | show subT (.int _) (.int _) = some _ | show negT (.int _) = some _ | show ltT (.int _) (.int _) = some _ | show leT (.int _) (.int _) = some _ | show gtT (.int _) (.int _) = some _ | show geT (.int _) (.int _) = some _ | show intT [.int _] = some _ | show max2T [.int _, .int _] = some _ | show min2T [.int _, .int _] = some _ | show absT [.int _] = some _ | show eqT (.int _) (.int _) = some _ | show neT (.int _) (.int _) = some _ | show T.bl _ = T.bl _ | show T.int _ = T.int _)); exact rfl) | ((with_reducible (first | show isiT _ _ = some _ | show isT _ _ = some _ | show isNT _ _ = some _ | show isisT _ _ = some _)); first | exact (rfl : _ = some (T.bl true)) | exact (rfl : _ = some (T.bl false)) | exact rfl) | fail)
      | fail)
    refine ⟨fun z => by simp [eqB] at z, fun _ => ?_⟩
    repeat' (first
      | with_reducible (first | refine WS_seq ?_ | refine WS_set ?_ | refine WS_ret ?_ | refine WS_if ?_ | refine WS_drop ?_ | refine WS_nx ?_ | refine WE_bin ?_ | refine WE_cons ?_ | refine WE_nil ?_ | refine WE_k ?_ | refine WE_app ?_ | refine WE_un ?_ | refine WE_B ?_ | refine WE_notC ?_ | refine WE_call ?_ | refine WE_callK ?_ | refine WE_lst ?_ | refine WE_tup ?_ | refine WE_chain ?_ | refine WE_andV ?_ | refine WE_orV ?_ | refine WE_notV ?_ | refine WE_andC ?_ | refine WE_orC ?_ | refine WE_if ?_ | refine WS_par2 ?_ | refine WS_par3 ?_ | refine WE_rg1 ?_ | refine WE_rg2 ?_ | refine WE_items ?_ | refine WE_enum ?_ | refine WE_zip ?_ | refine WE_revd ?_ | refine WE_callG ?_ | refine WS_put ?_ | refine WS_app ?_ | refine WE_pix ?_ | refine WE_sl ?_ | refine WE_p0 ?_ | refine WE_p1 ?_ | refine WE_true ?_ | refine WE_bor ?_ | refine WE_borC ?_ | refine WE_mt ?_ | refine WS_asg ?_) | ((with_reducible apply WE_var); (case h => exact rfl))
      | ((with_reducible refine And.intro ?_ ?_); (with_reducible first | exact ff1 | exact ff2 | exact ff3 | exact ff4 | exact ff5 | fail); (intro _))
      | ((with_reducible refine And.intro ?_ ?_); rotate_left; (with_reducible first | exact tt1 | exact tt2 | exact tt3 | exact tt4 | exact tt5 | fail); (intro _))
      | ((with_reducible apply Exists.intro); (with_reducible apply And.intro); first | ((with_reducible (first | show addT (.int _) (.int _) = some _ | show subT (.int _) (.int _) = some _ | show negT (.int _) = some _ | show ltT (.int _) (.int _) = some _ | show leT (.int _) (.int _) = some _ | show gtT (.int _) (.int _) = some _ | show geT (.int _) (.int _) = some _ | show intT [.int _] = some _ | show max2T [.int _, .int _] = some _ | show min2T [.int _, .int _] = some _ | show absT [.int _] = some _ | show eqT (.int _) (.int _) = some _ | show neT (.int _) (.int _) = some _ | show T.bl _ = T.bl _ | show T.int _ = T.int _)); exact rfl) | ((with_reducible (first | show isiT _ _ = some _ | show isT _ _ = some _ | show isNT _ _ = some _ | show isisT _ _ = some _)); first | exact (rfl : _ = some (T.bl true)) | exact (rfl : _ = some (T.bl false)) | exact rfl) | fail)
      | fail)
    refine uneven_ok (by omega) (by omega) (fun _ => ?_) (fun z => by rw [rnd_even (by omega)] at z; cases z)
    repeat' (first
      | with_reducible (first | refine WS_seq ?_ | refine WS_set ?_ | refine WS_ret ?_ | refine WS_if ?_ | refine WS_drop ?_ | refine WS_nx ?_ | refine WE_bin ?_ | refine WE_cons ?_ | refine WE_nil ?_ | refine WE_k ?_ | refine WE_app ?_ | refine WE_un ?_ | refine WE_B ?_ | refine WE_notC ?_ | refine WE_call ?_ | refine WE_callK ?_ | refine WE_lst ?_ | refine WE_tup ?_ | refine WE_chain ?_ | refine WE_andV ?_ | refine WE_orV ?_ | refine WE_notV ?_ | refine WE_andC ?_ | refine WE_orC ?_ | refine WE_if ?_ | refine WS_par2 ?_ | refine WS_par3 ?_ | refine WE_rg1 ?_ | refine WE_rg2 ?_ | refine WE_items ?_ | refine WE_enum ?_ | refine WE_zip ?_ | refine WE_revd ?_ | refine WE_callG ?_ | refine WS_put ?_ | refine WS_app ?_ | refine WE_pix ?_ | refine WE_sl ?_ | refine WE_p0 ?_ | refine WE_p1 ?_ | refine WE_true ?_ | refine WE_bor ?_ | refine WE_borC ?_ | refine WE_mt ?_ | refine WS_asg ?_) | ((with_reducible apply WE_var); (case h => exact rfl))
      | ((with_reducible refine And.intro ?_ ?_); (with_reducible first | exact ff1 | exact ff2 | exact ff3 | exact ff4 | exact ff5 | fail); (intro _))
      | ((with_reducible refine And.intro ?_ ?_); rotate_left; (with_reducible first | exact tt1 | exact tt2 | exact tt3 | exact tt4 | exact tt5 | fail); (intro _))
      | ((with_reducible apply Exists.intro); (with_reducible apply And.intro); first | ((with_reducible (first | show addT (.int _) (.int _) = some _ | show subT (.int _) (.int _) = some _ | show negT (.int _) = some _ | show ltT (.int _) (.int _) = some _ | show leT (.int _) (.int _) = some _ | show gtT (.int _) (.int _) = some _ | show geT (.int _) (.int _) = some _ | show intT [.int _] = some _ | show max2T [.int _, .int _] = some _ | show min2T [.int _, .int _] = some _ | show absT [.int _] = some _ | show eqT (.int _) (.int _) = some _ | show neT (.int _) (.int _) = some _ | show T.bl _ = T.bl _ | show T.int _ = T.int _)); exact rfl) | ((with_reducible (first | show isiT _ _ = some _ | show isT _ _ = some _ | show isNT _ _ = some _ | show isisT _ _ = some _)); first | exact (rfl : _ = some (T.bl true)) | exact (rfl : _ = some (T.bl false)) | exact rfl) | fail)
      | fail)
    refine turns_ok (by omega) ?_
    repeat' (first
      | with_reducible (first | refine WS_seq ?_ | refine WS_set ?_ | refine WS_ret ?_ | refine WS_if ?_ | refine WS_drop ?_ | refine WS_nx ?_ | refine WE_bin ?_ | refine WE_cons ?_ | refine WE_nil ?_ | refine WE_k ?_ | refine WE_app ?_ | refine WE_un ?_ | refine WE_B ?_ | refine WE_notC ?_ | refine WE_call ?_ | refine WE_callK ?_ | refine WE_lst ?_ | refine WE_tup ?_ | refine WE_chain ?_ | refine WE_andV ?_ | refine WE_orV ?_ | refine WE_notV ?_ | refine WE_andC ?_ | refine WE_orC ?_ | refine WE_if ?_ | refine WS_par2 ?_ | refine WS_par3 ?_ | refine WE_rg1 ?_ | refine WE_rg2 ?_ | refine WE_items ?_ | refine WE_enum ?_ | refine WE_zip ?_ | refine WE_revd ?_ | refine WE_callG ?_ | refine WS_put ?_ | refine WS_app ?_ | refine WE_pix ?_ | refine WE_sl ?_ | refine WE_p0 ?_ | refine WE_p1 ?_ | refine WE_true ?_ | refine WE_bor ?_ | refine WE_borC ?_ | refine WE_mt ?_ | refine WS_asg ?_) | ((with_reducible apply WE_var); (case h => exact rfl))
      | ((with_reducible refine And.intro ?_ ?_); (with_reducible first | exact ff1 | exact ff2 | exact ff3 | exact ff4 | exact ff5 | fail); (intro _))
      | ((with_reducible refine And.intro ?_ ?_); rotate_left; (with_reducible first | exact tt1 | exact tt2 | exact tt3 | exact tt4 | exact tt5 | fail); (intro _))
      | ((with_reducible apply Exists.intro); (with_reducible apply And.intro); first | ((with_reducible (first | show addT (.int _) (.int _) = some _ | show subT (.int _) (.int _) = some _ | show negT (.int _) = some _ | show ltT (.int _) (.int _) = some _ | show leT (.int _) (.int _) = some _ | show gtT (.int _) (.int _) = some _ | show geT (.int _) (.int _) = some _ | show intT [.int _] = some _ | show max2T [.int _, .int _] = some _ | show min2T [.int _, .int _] = some _ | show absT [.int _] = some _ | show eqT (.int _) (.int _) = some _ | show neT (.int _) (.int _) = some _ | show T.bl _ = T.bl _ | show T.int _ = T.int _)); exact rfl) | ((with_reducible (first | show isiT _ _ = some _ | show isT _ _ = some _ | show isNT _ _ = some _ | show isisT _ _ = some _)); first | exact (rfl : _ = some (T.bl true)) | exact (rfl : _ = some (T.bl false)) | exact rfl) | fail)
      | fail)
    refine ⟨rowT (rnd w m), by rw [htl, minDT_rows, hmin], ?_⟩
    repeat' (first
      | with_reducible (first | refine WS_seq ?_ | refine WS_set ?_ | refine WS_ret ?_ | refine WS_if ?_ | refine WS_drop ?_ | refine WS_nx ?_ | refine WE_bin ?_ | refine WE_cons ?_ | refine WE_nil ?_ | refine WE_k ?_ | refine WE_app ?_ | refine WE_un ?_ | refine WE_B ?_ | refine WE_notC ?_ | refine WE_call ?_ | refine WE_callK ?_ | refine WE_lst ?_ | refine WE_tup ?_ | refine WE_chain ?_ | refine WE_andV ?_ | refine WE_orV ?_ | refine WE_notV ?_ | refine WE_andC ?_ | refine WE_orC ?_ | refine WE_if ?_ | refine WS_par2 ?_ | refine WS_par3 ?_ | refine WE_rg1 ?_ | refine WE_rg2 ?_ | refine WE_items ?_ | refine WE_enum ?_ | refine WE_zip ?_ | refine WE_revd ?_ | refine WE_callG ?_ | refine WS_put ?_ | refine WS_app ?_ | refine WE_pix ?_ | refine WE_sl ?_ | refine WE_p0 ?_ | refine WE_p1 ?_ | refine WE_true ?_ | refine WE_bor ?_ | refine WE_borC ?_ | refine WE_mt ?_ | refine WS_asg ?_) | ((with_reducible apply WE_var); (case h => exact rfl))
      | ((with_reducible refine And.intro ?_ ?_); (with_reducible first | exact ff1 | exact ff2 | exact ff3 | exact ff4 | exact ff5 | fail); (intro _))
      | ((with_reducible refine And.intro ?_ ?_); rotate_left; (with_reducible first | exact tt1 | exact tt2 | exact tt3 | exact tt4 | exact tt5 | fail); (intro _))
      | ((with_reducible apply Exists.intro); (with_reducible apply And.intro); first | ((with_reducible (first | show addT (.int _) (.int _) = some _ | show subT (.int _) (.int _) = some _ | show negT (.int _) = some _ | show ltT (.int _) (.int _) = some _ | show leT (.int _) (.int _) = some _ | show gtT (.int _) (.int _) = some _ | show geT (.int _) (.int _) = some _ | show intT [.int _] = some _ | show max2T [.int _, .int _] = some _ | show min2T [.int _, .int _] = some _ | show absT [.int _] = some _ | show eqT (.int _) (.int _) = some _ | show neT (.int _) (.int _) = some _ | show T.bl _ = T.bl _ | show T.int _ = T.int _)); exact rfl) | ((with_reducible (first | show isiT _ _ = some _ | show isT _ _ = some _ | show isNT _ _ = some _ | show isisT _ _ = some _)); first | exact (rfl : _ = some (T.bl true)) | exact (rfl : _ = some (T.bl false)) | exact rfl) | fail)
      | fail)
    refine ⟨_, neT_row _ _, ?_⟩
    rw [decide_eq_true rfl]
    repeat' (first
      | with_reducible (first | refine WS_seq ?_ | refine WS_set ?_ | refine WS_ret ?_ | refine WS_if ?_ | refine WS_drop ?_ | refine WS_nx ?_ | refine WE_bin ?_ | refine WE_cons ?_ | refine WE_nil ?_ | refine WE_k ?_ | refine WE_app ?_ | refine WE_un ?_ | refine WE_B ?_ | refine WE_notC ?_ | refine WE_call ?_ | refine WE_callK ?_ | refine WE_lst ?_ | refine WE_tup ?_ | refine WE_chain ?_ | refine WE_andV ?_ | refine WE_orV ?_ | refine WE_notV ?_ | refine WE_andC ?_ | refine WE_orC ?_ | refine WE_if ?_ | refine WS_par2 ?_ | refine WS_par3 ?_ | refine WE_rg1 ?_ | refine WE_rg2 ?_ | refine WE_items ?_ | refine WE_enum ?_ | refine WE_zip ?_ | refine WE_revd ?_ | refine WE_callG ?_ | refine WS_put ?_ | refine WS_app ?_ | refine WE_pix ?_ | refine WE_sl ?_ | refine WE_p0 ?_ | refine WE_p1 ?_ | refine WE_true ?_ | refine WE_bor ?_ | refine WE_borC ?_ | refine WE_mt ?_ | refine WS_asg ?_) | ((with_reducible apply WE_var); (case h => exact rfl))
      | ((with_reducible refine And.intro ?_ ?_); (with_reducible first | exact ff1 | exact ff2 | exact ff3 | exact ff4 | exact ff5 | fail); (intro _))
      | ((with_reducible refine And.intro ?_ ?_); rotate_left; (with_reducible first | exact tt1 | exact tt2 | exact tt3 | exact tt4 | exact tt5 | fail); (intro _))
      | ((with_reducible apply Exists.intro); (with_reducible apply And.intro); first | ((with_reducible (first | show addT (.int _) (.int _) = some _ | show subT (.int _) (.int _) = some _ | show negT (.int _) = some _ | show ltT (.int _) (.int _) = some _ | show leT (.int _) (.int _) = some _ | show gtT (.int _) (.int _) = some _ | show geT (.int _) (.int _) = some _ | show intT [.int _] = some _ | show max2T [.int _, .int _] = some _ | show min2T [.int _, .int _] = some _ | show absT [.int _] = some _ | show eqT (.int _) (.int _) = some _ | show neT (.int _) (.int _) = some _ | show T.bl _ = T.bl _ | show T.int _ = T.int _)); exact rfl) | ((with_reducible (first | show isiT _ _ = some _ | show isT _ _ = some _ | show isNT _ _ = some _ | show isisT _ _ = some _)); first | exact (rfl : _ = some (T.bl true)) | exact (rfl : _ = some (T.bl false)) | exact rfl) | fail)
      | fail)
    refine even_round_ok (by omega) (by omega) hb (rnd_even (by omega)) ?_
    repeat' (first
      | with_reducible (first | refine WS_seq ?_ | refine WS_set ?_ | refine WS_ret ?_ | refine WS_if ?_ | refine WS_drop ?_ | refine WS_nx ?_ | refine WE_bin ?_ | refine WE_cons ?_ | refine WE_nil ?_ | refine WE_k ?_ | refine WE_app ?_ | refine WE_un ?_ | refine WE_B ?_ | refine WE_notC ?_ | refine WE_call ?_ | refine WE_callK ?_ | refine WE_lst ?_ | refine WE_tup ?_ | refine WE_chain ?_ | refine WE_andV ?_ | refine WE_orV ?_ | refine WE_notV ?_ | refine WE_andC ?_ | refine WE_orC ?_ | refine WE_if ?_ | refine WS_par2 ?_ | refine WS_par3 ?_ | refine WE_rg1 ?_ | refine WE_rg2 ?_ | refine WE_items ?_ | refine WE_enum ?_ | refine WE_zip ?_ | refine WE_revd ?_ | refine WE_callG ?_ | refine WS_put ?_ | refine WS_app ?_ | refine WE_pix ?_ | refine WE_sl ?_ | refine WE_p0 ?_ | refine WE_p1 ?_ | refine WE_true ?_ | refine WE_bor ?_ | refine WE_borC ?_ | refine WE_mt ?_ | refine WS_asg ?_) | ((with_reducible apply WE_var); (case h => exact rfl))
      | ((with_reducible refine And.intro ?_ ?_); (with_reducible first | exact ff1 | exact ff2 | exact ff3 | exact ff4 | exact ff5 | fail); (intro _))
      | ((with_reducible refine And.intro ?_ ?_); rotate_left; (with_reducible first | exact tt1 | exact tt2 | exact tt3 | exact tt4 | exact tt5 | fail); (intro _))
      | ((with_reducible apply Exists.intro); (with_reducible apply And.intro); first | ((with_reducible (first | show addT (.int _) (.int _) = some _ | show subT (.int _) (.int _) = some _ | show negT (.int _) = some _ | show ltT (.int _) (.int _) = some _ | show leT (.int _) (.int _) = some _ | show gtT (.int _) (.int _) = some _ | show geT (.int _) (.int _) = some _ | show intT [.int _] = some _ | show max2T [.int _, .int _] = some _ | show min2T [.int _, .int _] = some _ | show absT [.int _] = some _ | show eqT (.int _) (.int _) = some _ | show neT (.int _) (.int _) = some _ | show T.bl _ = T.bl _ | show T.int _ = T.int _)); exact rfl) | ((with_reducible (first | show isiT _ _ = some _ | show isT _ _ = some _ | show isNT _ _ = some _ | show isisT _ _ = some _)); first | exact (rfl : _ = some (T.bl true)) | exact (rfl : _ = some (T.bl false)) | exact rfl) | fail)
      | fail)
    refine round_row_ok (by decide) (by decide) (by decide) (by decide) ?_
    repeat' (first
      | with_reducible (first | refine WS_seq ?_ | refine WS_set ?_ | refine WS_ret ?_ | refine WS_if ?_ | refine WS_drop ?_ | refine WS_nx ?_ | refine WE_bin ?_ | refine WE_cons ?_ | refine WE_nil ?_ | refine WE_k ?_ | refine WE_app ?_ | refine WE_un ?_ | refine WE_B ?_ | refine WE_notC ?_ | refine WE_call ?_ | refine WE_callK ?_ | refine WE_lst ?_ | refine WE_tup ?_ | refine WE_chain ?_ | refine WE_andV ?_ | refine WE_orV ?_ | refine WE_notV ?_ | refine WE_andC ?_ | refine WE_orC ?_ | refine WE_if ?_ | refine WS_par2 ?_ | refine WS_par3 ?_ | refine WE_rg1 ?_ | refine WE_rg2 ?_ | refine WE_items ?_ | refine WE_enum ?_ | refine WE_zip ?_ | refine WE_revd ?_ | refine WE_callG ?_ | refine WS_put ?_ | refine WS_app ?_ | refine WE_pix ?_ | refine WE_sl ?_ | refine WE_p0 ?_ | refine WE_p1 ?_ | refine WE_true ?_ | refine WE_bor ?_ | refine WE_borC ?_ | refine WE_mt ?_ | refine WS_asg ?_) | ((with_reducible apply WE_var); (case h => exact rfl))
      | ((with_reducible refine And.intro ?_ ?_); (with_reducible first | exact ff1 | exact ff2 | exact ff3 | exact ff4 | exact ff5 | fail); (intro _))
      | ((with_reducible refine And.intro ?_ ?_); rotate_left; (with_reducible first | exact tt1 | exact tt2 | exact tt3 | exact tt4 | exact tt5 | fail); (intro _))
      | ((with_reducible apply Exists.intro); (with_reducible apply And.intro); first | ((with_reducible (first | show addT (.int _) (.int _) = some _ | show subT (.int _) (.int _) = some _ | show negT (.int _) = some _ | show ltT (.int _) (.int _) = some _ | show leT (.int _) (.int _) = some _ | show gtT (.int _) (.int _) = some _ | show geT (.int _) (.int _) = some _ | show intT [.int _] = some _ | show max2T [.int _, .int _] = some _ | show min2T [.int _, .int _] = some _ | show absT [.int _] = some _ | show eqT (.int _) (.int _) = some _ | show neT (.int _) (.int _) = some _ | show T.bl _ = T.bl _ | show T.int _ = T.int _)); exact rfl) | ((with_reducible (first | show isiT _ _ = some _ | show isT _ _ = some _ | show isNT _ _ = some _ | show isisT _ _ = some _)); first | exact (rfl : _ = some (T.bl true)) | exact (rfl : _ = some (T.bl false)) | exact rfl) | fail)
      | fail)
    refine round_row_ok (by decide) (by decide) (by decide) (by decide) ?_
    repeat' (first
      | with_reducible (first | refine WS_seq ?_ | refine WS_set ?_ | refine WS_ret ?_ | refine WS_if ?_ | refine WS_drop ?_ | refine WS_nx ?_ | refine WE_bin ?_ | refine WE_cons ?_ | refine WE_nil ?_ | refine WE_k ?_ | refine WE_app ?_ | refine WE_un ?_ | refine WE_B ?_ | refine WE_notC ?_ | refine WE_call ?_ | refine WE_callK ?_ | refine WE_lst ?_ | refine WE_tup ?_ | refine WE_chain ?_ | refine WE_andV ?_ | refine WE_orV ?_ | refine WE_notV ?_ | refine WE_andC ?_ | refine WE_orC ?_ | refine WE_if ?_ | refine WS_par2 ?_ | refine WS_par3 ?_ | refine WE_rg1 ?_ | refine WE_rg2 ?_ | refine WE_items ?_ | refine WE_enum ?_ | refine WE_zip ?_ | refine WE_revd ?_ | refine WE_callG ?_ | refine WS_put ?_ | refine WS_app ?_ | refine WE_pix ?_ | refine WE_sl ?_ | refine WE_p0 ?_ | refine WE_p1 ?_ | refine WE_true ?_ | refine WE_bor ?_ | refine WE_borC ?_ | refine WE_mt ?_ | refine WS_asg ?_) | ((with_reducible apply WE_var); (case h => exact rfl))
      | ((with_reducible refine And.intro ?_ ?_); (with_reducible first | exact ff1 | exact ff2 | exact ff3 | exact ff4 | exact ff5 | fail); (intro _))
      | ((with_reducible refine And.intro ?_ ?_); rotate_left; (with_reducible first | exact tt1 | exact tt2 | exact tt3 | exact tt4 | exact tt5 | fail); (intro _))
      | ((with_reducible apply Exists.intro); (with_reducible apply And.intro); first | ((with_reducible (first | show addT (.int _) (.int _) = some _ | show subT (.int _) (.int _) = some _ | show negT (.int _) = some _ | show ltT (.int _) (.int _) = some _ | show leT (.int _) (.int _) = some _ | show gtT (.int _) (.int _) = some _ | show geT (.int _) (.int _) = some _ | show intT [.int _] = some _ | show max2T [.int _, .int _] = some _ | show min2T [.int _, .int _] = some _ | show absT [.int _] = some _ | show eqT (.int _) (.int _) = some _ | show neT (.int _) (.int _) = some _ | show T.bl _ = T.bl _ | show T.int _ = T.int _)); exact rfl) | ((with_reducible (first | show isiT _ _ = some _ | show isT _ _ = some _ | show isNT _ _ = some _ | show isisT _ _ = some _)); first | exact (rfl : _ = some (T.bl true)) | exact (rfl : _ = some (T.bl false)) | exact rfl) | fail)
      | fail)
    refine round_row_ok (by decide) (by decide) (by decide) (by decide) ?_
    repeat' (first
      | with_reducible (first | refine WS_seq ?_ | refine WS_set ?_ | refine WS_ret ?_ | refine WS_if ?_ | refine WS_drop ?_ | refine WS_nx ?_ | refine WE_bin ?_ | refine WE_cons ?_ | refine WE_nil ?_ | refine WE_k ?_ | refine WE_app ?_ | refine WE_un ?_ | refine WE_B ?_ | refine WE_notC ?_ | refine WE_call ?_ | refine WE_callK ?_ | refine WE_lst ?_ | refine WE_tup ?_ | refine WE_chain ?_ | refine WE_andV ?_ | refine WE_orV ?_ | refine WE_notV ?_ | refine WE_andC ?_ | refine WE_orC ?_ | refine WE_if ?_ | refine WS_par2 ?_ | refine WS_par3 ?_ | refine WE_rg1 ?_ | refine WE_rg2 ?_ | refine WE_items ?_ | refine WE_enum ?_ | refine WE_zip ?_ | refine WE_revd ?_ | refine WE_callG ?_ | refine WS_put ?_ | refine WS_app ?_ | refine WE_pix ?_ | refine WE_sl ?_ | refine WE_p0 ?_ | refine WE_p1 ?_ | refine WE_true ?_ | refine WE_bor ?_ | refine WE_borC ?_ | refine WE_mt ?_ | refine WS_asg ?_) | ((with_reducible apply WE_var); (case h => exact rfl))
      | ((with_reducible refine And.intro ?_ ?_); (with_reducible first | exact ff1 | exact ff2 | exact ff3 | exact ff4 | exact ff5 | fail); (intro _))
      | ((with_reducible refine And.intro ?_ ?_); rotate_left; (with_reducible first | exact tt1 | exact tt2 | exact tt3 | exact tt4 | exact tt5 | fail); (intro _))
      | ((with_reducible apply Exists.intro); (with_reducible apply And.intro); first | ((with_reducible (first | show addT (.int _) (.int _) = some _ | show subT (.int _) (.int _) = some _ | show negT (.int _) = some _ | show ltT (.int _) (.int _) = some _ | show leT (.int _) (.int _) = some _ | show gtT (.int _) (.int _) = some _ | show geT (.int _) (.int _) = some _ | show intT [.int _] = some _ | show max2T [.int _, .int _] = some _ | show min2T [.int _, .int _] = some _ | show absT [.int _] = some _ | show eqT (.int _) (.int _) = some _ | show neT (.int _) (.int _) = some _ | show T.bl _ = T.bl _ | show T.int _ = T.int _)); exact rfl) | ((with_reducible (first | show isiT _ _ = some _ | show isT _ _ = some _ | show isNT _ _ = some _ | show isisT _ _ = some _)); first | exact (rfl : _ = some (T.bl true)) | exact (rfl : _ = some (T.bl false)) | exact rfl) | fail)
      | fail)
    refine round_row_ok (by decide) (by decide) (by decide) (by decide) ?_
    repeat' (first
      | with_reducible (first | refine WS_seq ?_ | refine WS_set ?_ | refine WS_ret ?_ | refine WS_if ?_ | refine WS_drop ?_ | refine WS_nx ?_ | refine WE_bin ?_ | refine WE_cons ?_ | refine WE_nil ?_ | refine WE_k ?_ | refine WE_app ?_ | refine WE_un ?_ | refine WE_B ?_ | refine WE_notC ?_ | refine WE_call ?_ | refine WE_callK ?_ | refine WE_lst ?_ | refine WE_tup ?_ | refine WE_chain ?_ | refine WE_andV ?_ | refine WE_orV ?_ | refine WE_notV ?_ | refine WE_andC ?_ | refine WE_orC ?_ | refine WE_if ?_ | refine WS_par2 ?_ | refine WS_par3 ?_ | refine WE_rg1 ?_ | refine WE_rg2 ?_ | refine WE_items ?_ | refine WE_enum ?_ | refine WE_zip ?_ | refine WE_revd ?_ | refine WE_callG ?_ | refine WS_put ?_ | refine WS_app ?_ | refine WE_pix ?_ | refine WE_sl ?_ | refine WE_p0 ?_ | refine WE_p1 ?_ | refine WE_true ?_ | refine WE_bor ?_ | refine WE_borC ?_ | refine WE_mt ?_ | refine WS_asg ?_) | ((with_reducible apply WE_var); (case h => exact rfl))
      | ((with_reducible refine And.intro ?_ ?_); (with_reducible first | exact ff1 | exact ff2 | exact ff3 | exact ff4 | exact ff5 | fail); (intro _))
      | ((with_reducible refine And.intro ?_ ?_); rotate_left; (with_reducible first | exact tt1 | exact tt2 | exact tt3 | exact tt4 | exact tt5 | fail); (intro _))
      | ((with_reducible apply Exists.intro); (with_reducible apply And.intro); first | ((with_reducible (first | show addT (.int _) (.int _) = some _ | show subT (.int _) (.int _) = some _ | show negT (.int _) = some _ | show ltT (.int _) (.int _) = some _ | show leT (.int _) (.int _) = some _ | show gtT (.int _) (.int _) = some _ | show geT (.int _) (.int _) = some _ | show intT [.int _] = some _ | show max2T [.int _, .int _] = some _ | show min2T [.int _, .int _] = some _ | show absT [.int _] = some _ | show eqT (.int _) (.int _) = some _ | show neT (.int _) (.int _) = some _ | show T.bl _ = T.bl _ | show T.int _ = T.int _)); exact rfl) | ((with_reducible (first | show isiT _ _ = some _ | show isT _ _ = some _ | show isNT _ _ = some _ | show isisT _ _ = some _)); first | exact (rfl : _ = some (T.bl true)) | exact (rfl : _ = some (T.bl false)) | exact rfl) | fail)
      | fail)
    refine ⟨by show 4 ≤ LIM; decide, ?_⟩
    repeat' (first
      | with_reducible (first | refine WS_seq ?_ | refine WS_set ?_ | refine WS_ret ?_ | refine WS_if ?_ | refine WS_drop ?_ | refine WS_nx ?_ | refine WE_bin ?_ | refine WE_cons ?_ | refine WE_nil ?_ | refine WE_k ?_ | refine WE_app ?_ | refine WE_un ?_ | refine WE_B ?_ | refine WE_notC ?_ | refine WE_call ?_ | refine WE_callK ?_ | refine WE_lst ?_ | refine WE_tup ?_ | refine WE_chain ?_ | refine WE_andV ?_ | refine WE_orV ?_ | refine WE_notV ?_ | refine WE_andC ?_ | refine WE_orC ?_ | refine WE_if ?_ | refine WS_par2 ?_ | refine WS_par3 ?_ | refine WE_rg1 ?_ | refine WE_rg2 ?_ | refine WE_items ?_ | refine WE_enum ?_ | refine WE_zip ?_ | refine WE_revd ?_ | refine WE_callG ?_ | refine WS_put ?_ | refine WS_app ?_ | refine WE_pix ?_ | refine WE_sl ?_ | refine WE_p0 ?_ | refine WE_p1 ?_ | refine WE_true ?_ | refine WE_bor ?_ | refine WE_borC ?_ | refine WE_mt ?_ | refine WS_asg ?_) | ((with_reducible apply WE_var); (case h => exact rfl))
      | ((with_reducible refine And.intro ?_ ?_); (with_reducible first | exact ff1 | exact ff2 | exact ff3 | exact ff4 | exact ff5 | fail); (intro _))
      | ((with_reducible refine And.intro ?_ ?_); rotate_left; (with_reducible first | exact tt1 | exact tt2 | exact tt3 | exact tt4 | exact tt5 | fail); (intro _))
      | ((with_reducible apply Exists.intro); (with_reducible apply And.intro); first | ((with_reducible (first | show addT (.int _) (.int _) = some _ | show subT (.int _) (.int _) = some _ | show negT (.int _) = some _ | show ltT (.int _) (.int _) = some _ | show leT (.int _) (.int _) = some _ | show gtT (.int _) (.int _) = some _ | show geT (.int _) (.int _) = some _ | show intT [.int _] = some _ | show max2T [.int _, .int _] = some _ | show min2T [.int _, .int _] = some _ | show absT [.int _] = some _ | show eqT (.int _) (.int _) = some _ | show neT (.int _) (.int _) = some _ | show T.bl _ = T.bl _ | show T.int _ = T.int _)); exact rfl) | ((with_reducible (first | show isiT _ _ = some _ | show isT _ _ = some _ | show isNT _ _ = some _ | show isisT _ _ = some _)); first | exact (rfl : _ = some (T.bl true)) | exact (rfl : _ = some (T.bl false)) | exact rfl) | fail)
      | fail)
    refine ⟨by show 8 ≤ LIM; decide, ?_⟩
    repeat' (first
      | with_reducible (first | refine WS_seq ?_ | refine WS_set ?_ | refine WS_ret ?_ | refine WS_if ?_ | refine WS_drop ?_ | refine WS_nx ?_ | refine WE_bin ?_ | refine WE_cons ?_ | refine WE_nil ?_ | refine WE_k ?_ | refine WE_app ?_ | refine WE_un ?_ | refine WE_B ?_ | refine WE_notC ?_ | refine WE_call ?_ | refine WE_callK ?_ | refine WE_lst ?_ | refine WE_tup ?_ | refine WE_chain ?_ | refine WE_andV ?_ | refine WE_orV ?_ | refine WE_notV ?_ | refine WE_andC ?_ | refine WE_orC ?_ | refine WE_if ?_ | refine WS_par2 ?_ | refine WS_par3 ?_ | refine WE_rg1 ?_ | refine WE_rg2 ?_ | refine WE_items ?_ | refine WE_enum ?_ | refine WE_zip ?_ | refine WE_revd ?_ | refine WE_callG ?_ | refine WS_put ?_ | refine WS_app ?_ | refine WE_pix ?_ | refine WE_sl ?_ | refine WE_p0 ?_ | refine WE_p1 ?_ | refine WE_true ?_ | refine WE_bor ?_ | refine WE_borC ?_ | refine WE_mt ?_ | refine WS_asg ?_) | ((with_reducible apply WE_var); (case h => exact rfl))
      | ((with_reducible refine And.intro ?_ ?_); (with_reducible first | exact ff1 | exact ff2 | exact ff3 | exact ff4 | exact ff5 | fail); (intro _))
      | ((with_reducible refine And.intro ?_ ?_); rotate_left; (with_reducible first | exact tt1 | exact tt2 | exact tt3 | exact tt4 | exact tt5 | fail); (intro _))
      | ((with_reducible apply Exists.intro); (with_reducible apply And.intro); first | ((with_reducible (first | show addT (.int _) (.int _) = some _ | show subT (.int _) (.int _) = some _ | show negT (.int _) = some _ | show ltT (.int _) (.int _) = some _ | show leT (.int _) (.int _) = some _ | show gtT (.int _) (.int _) = some _ | show geT (.int _) (.int _) = some _ | show intT [.int _] = some _ | show max2T [.int _, .int _] = some _ | show min2T [.int _, .int _] = some _ | show absT [.int _] = some _ | show eqT (.int _) (.int _) = some _ | show neT (.int _) (.int _) = some _ | show T.bl _ = T.bl _ | show T.int _ = T.int _)); exact rfl) | ((with_reducible (first | show isiT _ _ = some _ | show isT _ _ = some _ | show isNT _ _ = some _ | show isisT _ _ = some _)); first | exact (rfl : _ = some (T.bl true)) | exact (rfl : _ = some (T.bl false)) | exact rfl) | fail)
      | fail)
    refine ⟨by show 6 ≤ LIM; decide, ?_⟩
    repeat' (first
      | with_reducible (first | refine WS_seq ?_ | refine WS_set ?_ | refine WS_ret ?_ | refine WS_if ?_ | refine WS_drop ?_ | refine WS_nx ?_ | refine WE_bin ?_ | refine WE_cons ?_ | refine WE_nil ?_ | refine WE_k ?_ | refine WE_app ?_ | refine WE_un ?_ | refine WE_B ?_ | refine WE_notC ?_ | refine WE_call ?_ | refine WE_callK ?_ | refine WE_lst ?_ | refine WE_tup ?_ | refine WE_chain ?_ | refine WE_andV ?_ | refine WE_orV ?_ | refine WE_notV ?_ | refine WE_andC ?_ | refine WE_orC ?_ | refine WE_if ?_ | refine WS_par2 ?_ | refine WS_par3 ?_ | refine WE_rg1 ?_ | refine WE_rg2 ?_ | refine WE_items ?_ | refine WE_enum ?_ | refine WE_zip ?_ | refine WE_revd ?_ | refine WE_callG ?_ | refine WS_put ?_ | refine WS_app ?_ | refine WE_pix ?_ | refine WE_sl ?_ | refine WE_p0 ?_ | refine WE_p1 ?_ | refine WE_true ?_ | refine WE_bor ?_ | refine WE_borC ?_ | refine WE_mt ?_ | refine WS_asg ?_) | ((with_reducible apply WE_var); (case h => exact rfl))
      | ((with_reducible refine And.intro ?_ ?_); (with_reducible first | exact ff1 | exact ff2 | exact ff3 | exact ff4 | exact ff5 | fail); (intro _))
      | ((with_reducible refine And.intro ?_ ?_); rotate_left; (with_reducible first | exact tt1 | exact tt2 | exact tt3 | exact tt4 | exact tt5 | fail); (intro _))
      | ((with_reducible apply Exists.intro); (with_reducible apply And.intro); first | ((with_reducible (first | show addT (.int _) (.int _) = some _ | show subT (.int _) (.int _) = some _ | show negT (.int _) = some _ | show ltT (.int _) (.int _) = some _ | show leT (.int _) (.int _) = some _ | show gtT (.int _) (.int _) = some _ | show geT (.int _) (.int _) = some _ | show intT [.int _] = some _ | show max2T [.int _, .int _] = some _ | show min2T [.int _, .int _] = some _ | show absT [.int _] = some _ | show eqT (.int _) (.int _) = some _ | show neT (.int _) (.int _) = some _ | show T.bl _ = T.bl _ | show T.int _ = T.int _)); exact rfl) | ((with_reducible (first | show isiT _ _ = some _ | show isT _ _ = some _ | show isNT _ _ = some _ | show isisT _ _ = some _)); first | exact (rfl : _ = some (T.bl true)) | exact (rfl : _ = some (T.bl false)) | exact rfl) | fail)
      | fail)
    refine ⟨by show 1 ≤ LIM; decide, rowT [0, 0, 0, 0, 0], rfl, ?_⟩
    repeat' (first
      | with_reducible (first | refine WS_seq ?_ | refine WS_set ?_ | refine WS_ret ?_ | refine WS_if ?_ | refine WS_drop ?_ | refine WS_nx ?_ | refine WE_bin ?_ | refine WE_cons ?_ | refine WE_nil ?_ | refine WE_k ?_ | refine WE_app ?_ | refine WE_un ?_ | refine WE_B ?_ | refine WE_notC ?_ | refine WE_call ?_ | refine WE_callK ?_ | refine WE_lst ?_ | refine WE_tup ?_ | refine WE_chain ?_ | refine WE_andV ?_ | refine WE_orV ?_ | refine WE_notV ?_ | refine WE_andC ?_ | refine WE_orC ?_ | refine WE_if ?_ | refine WS_par2 ?_ | refine WS_par3 ?_ | refine WE_rg1 ?_ | refine WE_rg2 ?_ | refine WE_items ?_ | refine WE_enum ?_ | refine WE_zip ?_ | refine WE_revd ?_ | refine WE_callG ?_ | refine WS_put ?_ | refine WS_app ?_ | refine WE_pix ?_ | refine WE_sl ?_ | refine WE_p0 ?_ | refine WE_p1 ?_ | refine WE_true ?_ | refine WE_bor ?_ | refine WE_borC ?_ | refine WE_mt ?_ | refine WS_asg ?_) | ((with_reducible apply WE_var); (case h => exact rfl))
      | ((with_reducible refine And.intro ?_ ?_); (with_reducible first | exact ff1 | exact ff2 | exact ff3 | exact ff4 | exact ff5 | fail); (intro _))
      | ((with_reducible refine And.intro ?_ ?_); rotate_left; (with_reducible first | exact tt1 | exact tt2 | exact tt3 | exact tt4 | exact tt5 | fail); (intro _))
      | ((with_reducible apply Exists.intro); (with_reducible apply And.intro); first | ((with_reducible (first | show addT (.int _) (.int _) = some _ | show subT (.int _) (.int _) = some _ | show negT (.int _) = some _ | show ltT (.int _) (.int _) = some _ | show leT (.int _) (.int _) = some _ | show gtT (.int _) (.int _) = some _ | show geT (.int _) (.int _) = some _ | show intT [.int _] = some _ | show max2T [.int _, .int _] = some _ | show min2T [.int _, .int _] = some _ | show absT [.int _] = some _ | show eqT (.int _) (.int _) = some _ | show neT (.int _) (.int _) = some _ | show T.bl _ = T.bl _ | show T.int _ = T.int _)); exact rfl) | ((with_reducible (first | show isiT _ _ = some _ | show isT _ _ = some _ | show isNT _ _ = some _ | show isisT _ _ = some _)); first | exact (rfl : _ = some (T.bl true)) | exact (rfl : _ = some (T.bl false)) | exact rfl) | fail)
      | fail)
    refine ⟨by show 1 ≤ LIM; decide, ?_⟩
    repeat' (first
      | with_reducible (first | refine WS_seq ?_ | refine WS_set ?_ | refine WS_ret ?_ | refine WS_if ?_ | refine WS_drop ?_ | refine WS_nx ?_ | refine WE_bin ?_ | refine WE_cons ?_ | refine WE_nil ?_ | refine WE_k ?_ | refine WE_app ?_ | refine WE_un ?_ | refine WE_B ?_ | refine WE_notC ?_ | refine WE_call ?_ | refine WE_callK ?_ | refine WE_lst ?_ | refine WE_tup ?_ | refine WE_chain ?_ | refine WE_andV ?_ | refine WE_orV ?_ | refine WE_notV ?_ | refine WE_andC ?_ | refine WE_orC ?_ | refine WE_if ?_ | refine WS_par2 ?_ | refine WS_par3 ?_ | refine WE_rg1 ?_ | refine WE_rg2 ?_ | refine WE_items ?_ | refine WE_enum ?_ | refine WE_zip ?_ | refine WE_revd ?_ | refine WE_callG ?_ | refine WS_put ?_ | refine WS_app ?_ | refine WE_pix ?_ | refine WE_sl ?_ | refine WE_p0 ?_ | refine WE_p1 ?_ | refine WE_true ?_ | refine WE_bor ?_ | refine WE_borC ?_ | refine WE_mt ?_ | refine WS_asg ?_) | ((with_reducible apply WE_var); (case h => exact rfl))
      | ((with_reducible refine And.intro ?_ ?_); (with_reducible first | exact ff1 | exact ff2 | exact ff3 | exact ff4 | exact ff5 | fail); (intro _))
      | ((with_reducible refine And.intro ?_ ?_); rotate_left; (with_reducible first | exact tt1 | exact tt2 | exact tt3 | exact tt4 | exact tt5 | fail); (intro _))
      | ((with_reducible apply Exists.intro); (with_reducible apply And.intro); first | ((with_reducible (first | show addT (.int _) (.int _) = some _ | show subT (.int _) (.int _) = some _ | show negT (.int _) = some _ | show ltT (.int _) (.int _) = some _ | show leT (.int _) (.int _) = some _ | show gtT (.int _) (.int _) = some _ | show geT (.int _) (.int _) = some _ | show intT [.int _] = some _ | show max2T [.int _, .int _] = some _ | show min2T [.int _, .int _] = some _ | show absT [.int _] = some _ | show eqT (.int _) (.int _) = some _ | show neT (.int _) (.int _) = some _ | show T.bl _ = T.bl _ | show T.int _ = T.int _)); exact rfl) | ((with_reducible (first | show isiT _ _ = some _ | show isT _ _ = some _ | show isNT _ _ = some _ | show isisT _ _ = some _)); first | exact (rfl : _ = some (T.bl true)) | exact (rfl : _ = some (T.bl false)) | exact rfl) | fail)
      | fail)
    refine ⟨by show 4 ≤ LIM; decide, ?_⟩
    have r1 : rnd 8 3 = [0, 0, 1, 0, 0, 1, 0, 1] := by decide
    have r2 : rnd 6 4 = [0, 1, 1, 0, 1, 1] := by decide
    have r3 : rnd 5 0 = [0, 0, 0, 0, 0] := by decide
    have r4 : rnd 1 1 = [1] := by decide
    rw [r1, r2, r3, r4]
    repeat' (first
      | with_reducible (first | refine WS_seq ?_ | refine WS_set ?_ | refine WS_ret ?_ | refine WS_if ?_ | refine WS_drop ?_ | refine WS_nx ?_ | refine WE_bin ?_ | refine WE_cons ?_ | refine WE_nil ?_ | refine WE_k ?_ | refine WE_app ?_ | refine WE_un ?_ | refine WE_B ?_ | refine WE_notC ?_ | refine WE_call ?_ | refine WE_callK ?_ | refine WE_lst ?_ | refine WE_tup ?_ | refine WE_chain ?_ | refine WE_andV ?_ | refine WE_orV ?_ | refine WE_notV ?_ | refine WE_andC ?_ | refine WE_orC ?_ | refine WE_if ?_ | refine WS_par2 ?_ | refine WS_par3 ?_ | refine WE_rg1 ?_ | refine WE_rg2 ?_ | refine WE_items ?_ | refine WE_enum ?_ | refine WE_zip ?_ | refine WE_revd ?_ | refine WE_callG ?_ | refine WS_put ?_ | refine WS_app ?_ | refine WE_pix ?_ | refine WE_sl ?_ | refine WE_p0 ?_ | refine WE_p1 ?_ | refine WE_true ?_ | refine WE_bor ?_ | refine WE_borC ?_ | refine WE_mt ?_ | refine WS_asg ?_) | ((with_reducible apply WE_var); (case h => exact rfl))
      | ((with_reducible refine And.intro ?_ ?_); (with_reducible first | exact ff1 | exact ff2 | exact ff3 | exact ff4 | exact ff5 | fail); (intro _))
      | ((with_reducible refine And.intro ?_ ?_); rotate_left; (with_reducible first | exact tt1 | exact tt2 | exact tt3 | exact tt4 | exact tt5 | fail); (intro _))
      | ((with_reducible apply Exists.intro); (with_reducible apply And.intro); first | ((with_reducible (first | show addT (.int _) (.int _) = some _ | show subT (.int _) (.int _) = some _ | show negT (.int _) = some _ | show ltT (.int _) (.int _) = some _ | show leT (.int _) (.int _) = some _ | show gtT (.int _) (.int _) = some _ | show geT (.int _) (.int _) = some _ | show intT [.int _] = some _ | show max2T [.int _, .int _] = some _ | show min2T [.int _, .int _] = some _ | show absT [.int _] = some _ | show eqT (.int _) (.int _) = some _ | show neT (.int _) (.int _) = some _ | show T.bl _ = T.bl _ | show T.int _ = T.int _)); exact rfl) | ((with_reducible (first | show isiT _ _ = some _ | show isT _ _ = some _ | show isNT _ _ = some _ | show isisT _ _ = some _)); first | exact (rfl : _ = some (T.bl true)) | exact (rfl : _ = some (T.bl false)) | exact rfl) | fail)
      | fail)
    refine WR.of_eq (same_refl 11 _ (pl_rows (x := [[0, 0, 1, 0, 0, 1, 0, 1], [0, 1, 1, 0, 1, 1], [0, 0, 0, 0, 0], [1]]) 8 (by decide) (by decide))) ?_
    exact ⟨rfl, trivial⟩
end
end G

open PySem PySem.W PySem.Calls PyProof.Rows
theorem PySem.Challenge.cw_spreadline_k43_whole_one_even_round_row_holds : PySem.Challenge.rw_spreadline_k43_whole_one_even_round_row.Holds := by
  w_on; o_law
  refine HandSHeadRun.head_any (r := OpenLaw.row PySem.Challenge.rw_spreadline_k43_whole_one_even_round_row) (q := view (OpenLaw.row PySem.Challenge.rw_spreadline_k43_whole_one_even_round_row).prog [29])
    (H := G.hook) (ob := G.seen) (M := 20000) (loose := G.nms) (d := HandSHeadRun.topDef (OpenLaw.row PySem.Challenge.rw_spreadline_k43_whole_one_even_round_row).prog 29) (kwd := [])
    G.seen_eq (by kernel_rfl) (fun s => by kernel_rfl) G.runs (by kernel_rfl) (by kernel_rfl) (by kernel_rfl) (by rfl)
    (by first | assumption | decide +kernel) (by decide +kernel) ⟨rfl, rfl, rfl, rfl, rfl, by decide +kernel⟩ ?hw ?hc
  case hw => w_witness2
  case hc =>
    refine Tc.law_ends (l := PySem.Challenge.rw_spreadline_k43_whole_one_even_round_row) (n := 63) (k := 17) (x := "script") rfl (by decide) (by kernel_rfl) ⟨rfl, by decide, by decide⟩ ?F
    intro w mg fa h Y hNs hmg0
    obtain ⟨K, KX, c⟩ := Y
    obtain ⟨T⟩ := G.tops KX hNs c
    have hmg : mg ("law" : PySem.Str) = some (.ref fa) := by
      have e : (HandSHeadRun.topDef (OpenLaw.row PySem.Challenge.rw_spreadline_k43_whole_one_even_round_row).prog 29).name = ("law" : PySem.Str) := by kernel_rfl
      rw [← e]
      exact hmg0
    have ea := hmg.symm.trans T.t_law.mg
    cases ea
    exact ⟨K, T.d_law, G.m_law, KX, fun s v => (T.t_law.fd.bindsA (ps := ["script"]) G.bo_law) s [v] rfl, G.law_true, fun base _ _ => G.g_law T⟩
