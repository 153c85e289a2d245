import PyProof.Rows.All
import HandS.HeadHook4
import Wide.All
import OpenK.AllK
import Wide.FinOn
import KE.KStateDown
import Lean
import HandS.ForExc
import HandS.More
import HandS.Defaults
import HandS.Head0
import HandS.Head1
import HandS.Head2
import HandS.HeadEnd
import HandS.HeadHook1
import HandS.HeadHook2
import HandS.Head3
import HandS.ForMost
import HandS.Exc
import HandS.Wide
import HandS.WideBits
import HandS.Style
import HandS.TupLe
import HandS.TupAny
import HandS.IsInst
import HandS.Lambda
import HandS.ExcInit
import KE.KExcSuper
import KE.KExcIs
import KE.KSuper
import HandS.Rev
import HandS.Deep
import HandS.Gcd
import HandS.SortInts
import HandS.RaiseMore
import PyProof.SumWalkG
import KE.SortData
import KE.DataMinMax
import PyProof.Rows.IntBool
import HandS.NestedK
import HandS.Conv
import PySem.Challenge.RW_spreadline_k34_whole_simplest_fractions
set_option Elab.async false
set_option linter.all false
set_option maxRecDepth 100000
/-! Tc: the tree calculus: trees, outcomes, combinators. -/
namespace Tc
open PySem PySem.Spec L2

/-- a lambda without parameters: where it stands, what it says, the names that it takes from outside -/
structure LamD where
  id : Nat
  q : Str
  params : Arguments
  body : Expr
  scope : Scope
  caps : List Str
/-- a value of the program as a tree; clo: a lambda with the values of its outer names -/
inductive T where
  | non
  | bl (b : Bool)
  | int (i : Int)
  | str (x : Str)
  | lst (xs : List T)
  | tup (xs : List T)
  | emp
  | exc (c : Str) (w : T)
  | clo (D : LamD) (xs : List T)
  | ty (n : String)
  | cls (n : Str)
  deriving Inhabited

/-- the slots' values -/
abbrev Sl := List (Option T)
/-- what an expression comes to -/
inductive Out (α : Type) where
  | ok (a : α) (r : Sl)
  | ex (c : Str) (w : T) (r : Sl)
  | no
/-- what a statement comes to -/
inductive So where
  | nx (r : Sl)
  | rt (t : T) (r : Sl)
  | bk (r : Sl)
  | ct (r : Sl)
  | ex (c : Str) (w : T) (r : Sl)
  | no
/-- what a def comes to: its value and what stands in the lists that it may change -/
inductive Res where
  | ok (t : T) (g : List T)
  | ex (c : Str) (w : T)
  | no
abbrev Ec := Sl → Out T
abbrev Ac := Sl → Out (List T)
abbrev Cc := Sl → Out Bool
abbrev Sc := Sl → So
abbrev Fc := List T → Res

@[simp] def Out.bind {α β : Type} : Out α → (α → Sl → Out β) → Out β
  | .ok a r, f => f a r
  | .ex c w r, _ => .ex c w r
  | .no, _ => .no
@[simp] def Out.opt {α : Type} (r : Sl) : Option α → Out α
  | some a => .ok a r
  | none => .no
@[simp] def Out.so {α : Type} : Out α → (α → Sl → So) → So
  | .ok a r, f => f a r
  | .ex c w r, _ => .ex c w r
  | .no, _ => .no

/-! ### the relation of values and trees -/
/-- a list to be read: tracked, locked, or an object of the top -/
def LsAt (K : PySem.W.Frag) (B : Hp) (a : Addr) (vs : List V) : Prop :=
  Rd B a (.lst vs) ∨ ∃ (its : List Value) (n : Nat), K.lookup a = some { cls := .type "list", data := .seq its.toArray n } ∧ its.length ≤ sizeLine ∧ Vals vs its
theorem LsAt.sq {K : PySem.W.Frag} {B : Hp} {a : Addr} {vs : List V} (h : LsAt K B a vs) : SqL K B a vs := by
  rcases h with h | ⟨its, n, h1, h2, h3⟩
  · exact .inl h
  · exact .inr ⟨_, its.toArray, n, h1, rfl, rfl, rfl, by simpa using h2, by simpa using h3⟩
theorem LsAt.mono {K : PySem.W.Frag} {B B' : Hp} {a : Addr} {vs : List V} (e : Same B B') (h : LsAt K B a vs) : LsAt K B' a vs := by
  rcases h with (h | ⟨o, h⟩) | h
  · exact .inl (.inl (e _ _ h))
  · exact .inl (.inr ⟨o, e _ _ h⟩)
  · exact .inr h
theorem LsAt.of {K : PySem.W.Frag} {B : Hp} {a : Addr} {vs : List V} (h : B a = some (.lst vs)) : LsAt K B a vs := .inl (.inl h)
theorem LsAt.obj {a : Addr} {vs : List V} {X : Cx} {pins : List (Addr × Obj)} {σ : L2.St} {H : Hp} {s : Shared} (h : LsAt X.K H a vs) (I : Inv X pins σ H s) :
    ∃ (its : List Value) (n : Nat), Vals vs its ∧ vs.length ≤ sizeLine ∧ s.heap.get? a = some { cls := .type "list", data := .seq its.toArray n } := by
  rcases h with h | ⟨its, n, h1, h2, h3⟩
  · obtain ⟨z, its, n, r, e⟩ := h.ok I.hok
    exact ⟨its, n, r, z, e⟩
  · exact ⟨its, n, h3, by rw [h3.length]; exact h2, I.kIn a _ h1⟩
/-- at b: this very object -/
def PinO (b : Addr) (o : Obj) : HO := .ext fun h => h.get? b = some o
/-- at a: an exception of the class at C, its dict at d -/
def ExcO (C d a : Addr) : HO := .ext fun h => ∃ (oe : Obj) (vs : Array Value), h.get? a = some oe ∧ Zc (.ref C) (some d) oe ∧ oe.data = .fields vs
abbrev lamO (D : LamD) (cl : List (Str × Addr)) (pm ctv : Value) (c' : Addr) : Obj := PySem.W.kla_obj "<lambda>" D.q D.params D.body D.scope cl pm c' ctv
/-- the outer names' cells and what they hold -/
def CapsV (B : Hp) (caps : List Str) (cl : List (Str × Addr)) (vs : List V) : Prop := vs.length = caps.length ∧ ∀ (i : Nat) (y : Str), caps[i]? = some y →
  ∃ (a : Addr) (o : Obj) (u : Value) (v : V), cl.lookup y = some a ∧ B a = some (PinO a o) ∧ o.data = .cell (some u) ∧ vs[i]? = some v ∧ RelV v u
theorem CapsV.mono {B B' : Hp} {caps : List Str} {cl : List (Str × Addr)} {vs : List V} (e : Same B B') (h : CapsV B caps cl vs) : CapsV B' caps cl vs :=
  ⟨h.1, fun i y hy => by
    obtain ⟨a, o, u, v, h1, h2, h3⟩ := h.2 i y hy
    exact ⟨a, o, u, v, h1, e _ _ h2, h3⟩⟩
/-- the cells stand apart, and are those of the outer names -/
structure ClOk (D : LamD) (cl : List (Str × Addr)) : Prop where
  inj : ∀ y z c, cl.lookup y = some c → cl.lookup z = some c → y = z
  of : ∀ y c, cl.lookup y = some c → y ∈ D.caps
mutual
inductive Rep (K : PySem.W.Frag) (B : Hp) : V → T → Prop
  | non : Rep K B .non .non
  | bl (b : Bool) : Rep K B (.bl b) (.bl b)
  | int (i : Int) : Rep K B (.int i) (.int i)
  | str (x : Str) : Rep K B (.str x) (.str x)
  | lst {a : Addr} {vs : List V} {ts : List T} : LsAt K B a vs → Reps K B vs ts → Rep K B (.ref a) (.lst ts)
  | tup {a : Addr} {vs : List V} {ts : List T} : SqT K B a vs → Reps K B vs ts → Rep K B (.ref a) (.tup ts)
  | emp {a : Addr} : B a = some (.dK []) → Rep K B (.ref a) .emp
  | ty (n : String) : Rep K B (.ty n) (.ty n)
  | cls (n : Str) : Rep K B (.ref (He.ga K n)) (.cls n)
  | exc {a d : Addr} {v : V} {n : Str} {w : T} : B a = some (ExcO (He.ga K n) d a) → B d = some (.xd [("value", v)]) → Rep K B v w → Rep K B (.ref a) (.exc n w)
  | clo {f c' : Addr} {D : LamD} {xs : List T} {vs : List V} {cl : List (Str × Addr)} {pm ctv : Value} : B f = some (PinO f (lamO D cl pm ctv c')) → B c' = some (LamX.CodeO c' D.q) → CapsV B D.caps cl vs → ClOk D cl → Reps K B vs xs → Rep K B (.ref f) (.clo D xs)
inductive Reps (K : PySem.W.Frag) (B : Hp) : List V → List T → Prop
  | nil : Reps K B [] []
  | cons {v : V} {vs : List V} {t : T} {ts : List T} : Rep K B v t → Reps K B vs ts → Reps K B (v :: vs) (t :: ts)
end

theorem same_tup {K : PySem.W.Frag} {H H' : Hp} {a : Addr} {xs : List V} (e : Same H H') (h : SqT K H a xs) : SqT K H' a xs := by
  rcases h with (h | ⟨o, h⟩) | h
  · exact .inl (.inl (e _ _ h))
  · exact .inl (.inr ⟨o, e _ _ h⟩)
  · exact .inr h
section
variable {K : PySem.W.Frag} {B B' : Hp}
mutual
theorem Rep.mono (e : Same B B') : ∀ {v : V} {t : T}, Rep K B v t → Rep K B' v t
  | _, _, .non => .non
  | _, _, .bl b => .bl b
  | _, _, .int i => .int i
  | _, _, .str x => .str x
  | _, _, .lst s r => .lst (s.mono e) (Reps.mono e r)
  | _, _, .tup s r => .tup (same_tup e s) (Reps.mono e r)
  | _, _, .emp h => .emp (e _ _ h)
  | _, _, .ty n => .ty n
  | _, _, .cls n => .cls n
  | _, _, .exc h1 h2 r => .exc (e _ _ h1) (e _ _ h2) (Rep.mono e r)
  | _, _, .clo h1 h2 h3 h4 r => .clo (e _ _ h1) (e _ _ h2) (h3.mono e) h4 (Reps.mono e r)
theorem Reps.mono (e : Same B B') : ∀ {vs : List V} {ts : List T}, Reps K B vs ts → Reps K B' vs ts
  | _, _, .nil => .nil
  | _, _, .cons r rs => .cons (Rep.mono e r) (Reps.mono e rs)
end
theorem Reps.length : ∀ {vs : List V} {ts : List T}, Reps K B vs ts → vs.length = ts.length
  | _, _, .nil => rfl
  | _, _, .cons _ rs => congrArg Nat.succ (Reps.length rs)
theorem Reps.append : ∀ {vs : List V} {ts : List T} {vs' : List V} {ts' : List T}, Reps K B vs ts → Reps K B vs' ts' → Reps K B (vs ++ vs') (ts ++ ts')
  | _, _, _, _, .nil, q => q
  | _, _, _, _, .cons r rs, q => .cons r (Reps.append rs q)
theorem Reps.get : ∀ {vs : List V} {ts : List T} {i : Nat} {t : T}, Reps K B vs ts → ts[i]? = some t → ∃ v, vs[i]? = some v ∧ Rep K B v t
  | _, _, _, _, .nil, e => by simp at e
  | _, _, 0, _, .cons r _, e => by simp at e; subst e; exact ⟨_, rfl, r⟩
  | _, _, i + 1, _, .cons _ rs, e => by
    obtain ⟨v, h1, h2⟩ := Reps.get (i := i) rs (by simpa using e)
    exact ⟨v, by simpa using h1, h2⟩
theorem Reps.getV : ∀ {vs : List V} {ts : List T} {i : Nat} {v : V}, Reps K B vs ts → vs[i]? = some v → ∃ t, ts[i]? = some t ∧ Rep K B v t
  | _, _, _, _, .nil, e => by simp at e
  | _, _, 0, _, .cons r _, e => by simp at e; subst e; exact ⟨_, rfl, r⟩
  | _, _, i + 1, _, .cons _ rs, e => by
    obtain ⟨v, h1, h2⟩ := Reps.getV (i := i) rs (by simpa using e)
    exact ⟨v, by simpa using h1, h2⟩
theorem Reps.set : ∀ {vs : List V} {ts : List T} {v : V} {t : T} (i : Nat), Reps K B vs ts → Rep K B v t → Reps K B (vs.set i v) (ts.set i t)
  | _, _, _, _, _, .nil, _ => .nil
  | _, _, _, _, 0, .cons _ rs, q => .cons q rs
  | _, _, _, _, i + 1, .cons r rs, q => .cons r (Reps.set i rs q)
theorem Reps.take : ∀ {vs : List V} {ts : List T} (n : Nat), Reps K B vs ts → Reps K B (vs.take n) (ts.take n)
  | _, _, 0, _ => .nil
  | _, _, _ + 1, .nil => .nil
  | _, _, n + 1, .cons r rs => .cons r (Reps.take n rs)
theorem Reps.drop : ∀ {vs : List V} {ts : List T} (n : Nat), Reps K B vs ts → Reps K B (vs.drop n) (ts.drop n)
  | _, _, 0, r => r
  | _, _, _ + 1, .nil => .nil
  | _, _, n + 1, .cons _ rs => Reps.drop n rs
theorem Reps.ints : ∀ (ns : List Int), Reps K B (ns.map V.int) (ns.map T.int)
  | [] => .nil
  | n :: ns => .cons (.int n) (Reps.ints ns)
end

/-! ### a pure step: nothing is changed, the view grows by what is new -/
structure Pu (H B H' B' : Hp) : Prop where
  bb : Same B B'
  sub : Same B' H'
  nb : ∀ a o, B' a = some o → B a = some o ∨ H a = none
  hh : Same H H'
theorem Pu.refl {H B : Hp} (s : Same B H) : Pu H B H B := ⟨.refl _, s, fun _ _ e => .inl e, .refl _⟩
theorem Pu.trans {H B H1 B1 H2 B2 : Hp} (a : Pu H B H1 B1) (b : Pu H1 B1 H2 B2) : Pu H B H2 B2 :=
  ⟨a.bb.trans b.bb, b.sub, fun x o e => (b.nb x o e).elim (a.nb x o) fun n => .inr (a.hh.free n), a.hh.trans b.hh⟩
theorem Pu.new {H B : Hp} {p : Addr} {o : HO} (s : Same B H) (n : H p = none) : Pu H B (upd H p o) (upd B p o) := by
  refine ⟨fun b u e => ?_, fun b u e => ?_, fun b u e => ?_, fun b u e => ?_⟩
  · rw [upd_ne (ne_of_none e (s.free n))]; exact e
  · by_cases hb : b = p
    · subst hb; rw [upd_same] at e ⊢; exact e
    · rw [upd_ne hb] at e ⊢; exact s _ _ e
  · by_cases hb : b = p
    · subst hb; exact .inr n
    · rw [upd_ne hb] at e; exact .inl e
  · rw [upd_ne (ne_of_none e n)]; exact e
/-- a new object that stays out of the view -/
theorem Pu.hid {H B : Hp} {p : Addr} {o : HO} (s : Same B H) (n : H p = none) : Pu H B (upd H p o) B := by
  refine ⟨.refl _, fun b u e => ?_, fun _ _ e => .inl e, fun b u e => ?_⟩
  · rw [upd_ne (ne_of_none (s _ _ e) n)]; exact s _ _ e
  · rw [upd_ne (ne_of_none e n)]; exact e

/-! ### tables of code objects: they grow, all else stays -/
abbrev TB := List (Addr × Str)
def Kp (o : HO) (x : Option HO) : Prop := x = some o ∨ ((∃ ps, o = .tbl ps) ∧ ∃ ps, x = some (.tbl ps))
theorem Kp.at {o : HO} {x : Option HO} (h : Kp o x) (n : ∀ ps, o ≠ .tbl ps) : x = some o := h.elim id fun z => by
  obtain ⟨⟨ps, e⟩, _⟩ := z
  exact absurd e (n ps)
theorem Kp.lst {xs : List V} {x : Option HO} (h : Kp (.lst xs) x) : x = some (.lst xs) := h.at fun _ z => nomatch z
theorem Kp.ne {o : HO} {x : Option HO} (h : Kp o x) : x ≠ none := by
  rcases h with h | ⟨_, ps, h⟩ <;> rw [h] <;> exact fun z => nomatch z
theorem Kp.trans {o : HO} {H' H'' : Hp} {a : Addr} (h : Kp o (H' a)) (g : ∀ o, H' a = some o → Kp o (H'' a)) : Kp o (H'' a) := by
  rcases h with h | ⟨⟨ps, e⟩, qs, h⟩
  · exact g _ h
  · rcases g _ h with z | ⟨_, rs, z⟩
    · exact .inr ⟨⟨ps, e⟩, qs, z⟩
    · exact .inr ⟨⟨ps, e⟩, rs, z⟩
/-- a table of code objects; they are seen -/
def TabS (H B : Hp) (P : Addr) (q : Str) : Prop := ∃ ps : Array Value, H P = some (.tbl ps) ∧ TriplesOk ps.toList ∧ ∀ (pos : Pos) (cv : Value), codeAmong pos ps.toList = some cv → ∃ c, cv = .ref c ∧ B c = some (LamX.CodeO c q)
def TabV (T : TB) (H B : Hp) : Prop := ∀ p ∈ T, TabS H B p.1 p.2
theorem TabS.step {H B H' B' : Hp} {P : Addr} {q : Str} (t : TabS H B P q) (h : ∀ ps, H P = some (.tbl ps) → H' P = some (.tbl ps)) (b : Same B B') : TabS H' B' P q := by
  obtain ⟨ps, h1, h2, h3⟩ := t
  refine ⟨ps, h _ h1, h2, fun pos cv hc => ?_⟩
  obtain ⟨c, e1, e2⟩ := h3 pos cv hc
  exact ⟨c, e1, b _ _ e2⟩
/-- the tables: tracked, out of the view, in nobody's hand -/
def TabF (T : TB) (O : Addr → Prop) (H B : Hp) : Prop := ∀ p ∈ T, TabS H B p.1 p.2 ∧ B p.1 = none ∧ ¬ O p.1
theorem TabF.nil {O : Addr → Prop} {H B : Hp} : TabF [] O H B := fun _ h => nomatch h
theorem TabF.le {T : TB} {O O' : Addr → Prop} {H B : Hp} (t : TabF T O H B) (h : ∀ a, O' a → O a ∨ H a = none) : TabF T O' H B := fun p hp => by
  obtain ⟨h1, h2, h3⟩ := t p hp
  refine ⟨h1, h2, fun z => (h _ z).elim h3 fun n => ?_⟩
  obtain ⟨ps, e, _⟩ := h1
  rw [n] at e; cases e
theorem tabS_upd {H B : Hp} {P p : Addr} {q : Str} {o : HO} (t : TabS H B P q) (h : H p = none ∨ ∃ xs, H p = some (.lst xs)) : TabS (upd H p o) B P q := by
  refine t.step (fun ps e => ?_) (.refl _)
  have : P ≠ p := fun z => by
    subst z
    rcases h with h | ⟨xs, h⟩
    · rw [h] at e; cases e
    · rw [h] at e; cases e
  rw [upd_ne this]; exact e
theorem TabF.put {T : TB} {O : Addr → Prop} {H B : Hp} {p : Addr} {o : HO} (t : TabF T O H B) (h : H p = none ∨ ∃ xs, H p = some (.lst xs)) : TabF T O (upd H p o) B := fun q hq =>
  ⟨tabS_upd (t q hq).1 h, (t q hq).2⟩
theorem TabF.view {T : TB} {O : Addr → Prop} {H B : Hp} {p : Addr} {o : HO} (t : TabF T O H B) (h : O p) (n : B p = none) : TabF T (fun a => O a ∧ a ≠ p) H (upd B p o) := fun q hq => by
  obtain ⟨h1, h2, h3⟩ := t q hq
  exact ⟨h1.step (fun _ e => e) (fun b u e => by rw [upd_ne (ne_of_none e n)]; exact e), by rw [upd_ne (fun z : q.1 = p => h3 (by rw [z]; exact h))]; exact h2, fun z => h3 z.1⟩
theorem TabF.add {T : TB} {O : Addr → Prop} {H B : Hp} {p : Addr} {xs : List V} (t : TabF T O H B) (h : H p = some (.lst xs)) : TabF T (fun a => O a ∨ a = p) H B := fun q hq => by
  obtain ⟨h1, h2, h3⟩ := t q hq
  refine ⟨h1, h2, fun z => z.elim h3 fun y => ?_⟩
  obtain ⟨ps, e, _⟩ := h1
  rw [y, h] at e; cases e
theorem TabF.tabs {T : TB} {O : Addr → Prop} {H B : Hp} (t : TabF T O H B) : TabV T H B := fun p hp => (t p hp).1

/-! ### a step that may change what is owned -/
structure Grow (O : Addr → Prop) (H B : Hp) (O' : Addr → Prop) (H' B' : Hp) : Prop where
  bb : Same B B'
  nb : ∀ a o, B' a = some o → B a = some o ∨ H a = none ∨ O a
  hh : ∀ a o, H a = some o → ¬ O a → Kp o (H' a)
  oo : ∀ a, O' a → O a ∨ H a = none
theorem Grow.refl {O : Addr → Prop} {H B : Hp} : Grow O H B O H B := ⟨.refl _, fun _ _ e => .inl e, fun _ _ e _ => .inl e, fun _ h => .inl h⟩
theorem Grow.of_pu {O : Addr → Prop} {H B H' B' : Hp} (p : Pu H B H' B') : Grow O H B O H' B' :=
  ⟨p.bb, fun a o e => (p.nb a o e).elim .inl fun n => .inr (.inl n), fun a o e _ => .inl (p.hh a o e), fun _ h => .inl h⟩
theorem Grow.trans {O O1 O2 : Addr → Prop} {H B H1 B1 H2 B2 : Hp} (x : Grow O H B O1 H1 B1) (y : Grow O1 H1 B1 O2 H2 B2) : Grow O H B O2 H2 B2 := by
  have key : ∀ a, H1 a = none → H a = none ∨ O a := fun a n => by
    cases e : H a with
    | none => exact .inl rfl
    | some o =>
      refine .inr (Classical.byContradiction fun q => ?_)
      exact (x.hh a o e q).ne n
  refine ⟨x.bb.trans y.bb, fun a o e => ?_, fun a o e n => ?_, fun a h => ?_⟩
  · rcases y.nb a o e with q | q | q
    · exact x.nb a o q
    · exact .inr (key a q)
    · rcases x.oo a q with z | z
      · exact .inr (.inr z)
      · exact .inr (.inl z)
  · refine (x.hh a o e n).trans fun u eu => y.hh a u eu fun q => ?_
    rcases x.oo a q with z | z
    · exact n z
    · rw [e] at z; cases z
  · rcases y.oo a h with q | q
    · exact x.oo a q
    · exact (key a q).symm

theorem TabF.grow {T : TB} {O O' : Addr → Prop} {H B H' B' : Hp} (t : TabF T O H B) (g : Grow O H B O' H' B') (h : TabV T H' B') : TabF T O' H' B' := fun p hp => by
  obtain ⟨h1, h2, h3⟩ := t p hp
  obtain ⟨ps, e, _⟩ := h1
  refine ⟨h p hp, ?_, fun z => (g.oo _ z).elim h3 fun n => by rw [e] at n; cases n⟩
  cases z : B' p.1 with
  | none => rfl
  | some o =>
    rcases g.nb _ o z with q | q | q
    · rw [h2] at q; cases q
    · rw [e] at q; cases q
    · exact absurd q h3
theorem Grow.lst {O O' : Addr → Prop} {H B H' B' : Hp} {a : Addr} {xs : List V} (g : Grow O H B O' H' B') (h : H a = some (.lst xs)) (n : ¬ O a) : H' a = some (.lst xs) := (g.hh a _ h n).lst

/-! ### a frame: slots, heap, view, what is owned -/
/-- the list that the caller lends (in slot 0), the number of slots -/
structure GI where
  g : Option Addr
  n : Nat
  T : TB := []
structure Frm (K : PySem.W.Frag) (G : GI) (P : List Nat) (r : Sl) (σ : St) (O : Addr → Prop) (H B : Hp) : Prop where
  sub : Same B H
  out : ∀ a, O a → B a = none
  liv : ∀ a, O a → H a ≠ none
  var : ∀ i t, r[i]? = some (some t) → i ∉ P → ∃ v, σ[i]? = some (some v) ∧ Rep K B v t
  prv : ∀ i, i ∈ P → ∃ p vs ts, r[i]? = some (some (.lst ts)) ∧ σ[i]? = some (some (.ref p)) ∧ O p ∧ H p = some (.lst vs) ∧ Reps K B vs ts
  sep : ∀ i j p, i ∈ P → j ∈ P → σ[i]? = some (some (.ref p)) → σ[j]? = some (some (.ref p)) → i = j
  len : r.length = σ.length
  siz : r.length = G.n
  inn : ∀ g, G.g = some g → 0 ∈ P ∧ σ[0]? = some (some (.ref g))
  tab : TabF G.T O H B
section
variable {K : PySem.W.Frag} {G : GI} {P : List Nat} {r : Sl} {σ : St} {O : Addr → Prop} {H B H' B' : Hp}
theorem Frm.pu (f : Frm K G P r σ O H B) (p : Pu H B H' B') : Frm K G P r σ O H' B' := by
  refine ⟨p.sub, fun a h => ?_, fun a h => ?_, fun i t e n => ?_, fun i h => ?_, f.sep, f.len, f.siz, f.inn, f.tab.grow (Grow.of_pu p) fun q hq => (f.tab q hq).1.step (fun ps e => p.hh _ _ e) p.bb⟩
  · cases e : B' a with
    | none => rfl
    | some o =>
      rcases p.nb a o e with q | q
      · rw [f.out a h] at q; cases q
      · exact absurd q (f.liv a h)
  · cases e : H a with
    | none => exact absurd e (f.liv a h)
    | some o => rw [p.hh a o e]; exact fun z => nomatch z
  · obtain ⟨v, h1, h2⟩ := f.var i t e n
    exact ⟨v, h1, h2.mono p.bb⟩
  · obtain ⟨q, vs, ts, h1, h2, h3, h4, h5⟩ := f.prv i h
    exact ⟨q, vs, ts, h1, h2, h3, p.hh _ _ h4, h5.mono p.bb⟩
end
end Tc

/-! Tc: what is looked at behind the top, as tests. -/
namespace Tc
open PySem PySem.Spec L2 PyProof.Rows
abbrev LIM : Nat := 1000000
/-- a value of the written part as a tree -/
def valIn (K : PySem.W.Frag) : Nat → Value → T → Bool
  | _, .none, .non => true
  | _, .bool a, .bl b => a == b
  | _, .int i _, .int j => i == j
  | _, .str x _, .str y => decide (x = y)
  | n + 1, .ref a, .tup ts => (match K.lookup a with
    | some ⟨.type ty, none, .seq its _, _⟩ => ty == "tuple" && decide (its.size ≤ LIM) && go K n its.toList ts
    | _ => false)
  | n + 1, .ref a, .lst ts => (match K.lookup a with
    | some ⟨.type ty, none, .seq its _, sl⟩ => ty == "list" && sl.isEmpty && decide (its.size ≤ LIM) && go K n its.toList ts
    | _ => false)
  | _, _, _ => false
where go (K : PySem.W.Frag) (n : Nat) : List Value → List T → Bool
  | [], [] => true
  | u :: us, t :: ts => valIn K n u t && go K n us ts
  | _, _ => false
/-- a constant's tree, a built-in's id -/
inductive Cf where
  | con (x : Str) (t : T)
  | blt (x : Str) (id : String)
def Cf.ok (K : PySem.W.Frag) : Cf → Bool
  | .con x t => (match PySem.W.nsIn K mainGlobals x with
    | some (some u) => valIn K 9 u t
    | _ => false)
  | .blt x id => He.eqO (PySem.W.nsIn K mainGlobals x) (some (some (.builtin id)))
def Cf.all (cs : List Cf) (K : PySem.W.Frag) : Bool := cs.all fun f => f.ok K
def iniScope : Scope := { kind := .function, names := [("self", .local), ("value", .local), ("__class__", .free), ("super", .globalImplicit)], isGenerator := false, isCoroutine := false, more := [] }
abbrev MK := List (Addr × Addr × Str)
def strN (x : Str) (e : Expr) : Bool := match e with
  | .Name y _ => decide (y = x)
  | _ => false
def iniBodyB : List Stmt → Bool
  | [.Expr (.Call (.Attribute (.Call f [] [] _) m p2) [a] [] p4) _, .Assign [.Attribute o n _] b _] => strN "super" f && decide (m = "__init__") && strN "value" a && strN "self" o && decide (n = "value") && strN "value" b && (p2.endLine == p4.line)
  | _ => false
def iniArgsB : Arguments → Bool
  | ⟨[], [⟨x, none, _⟩, ⟨y, none, _⟩], none, [], [], none, [_]⟩ => decide (x = "self") && decide (y = "value")
  | _ => false
def tupNone (K : PySem.W.Frag) : Value → Bool
  | .ref T => (match K.lookup T with
    | some ⟨_, _, .seq its _, _⟩ => (match its.toList with
      | [.none] => true
      | _ => false)
    | _ => false)
  | _ => false
def codeFile (P : Program) (K : PySem.W.Frag) : Value → Bool
  | .ref c => (match K.lookup c with
    | some ⟨_, _, Data.fields vs, _⟩ => (match vs.toList[2]? with
      | some (Value.str file _) => (P.main.file : Str) == file
      | _ => false)
    | _ => false)
  | _ => false
def cellIs (K : PySem.W.Frag) (C : Addr) : List (Str × Addr) → Bool
  | [(x, cc)] => decide (x = "__class__") && (match K.lookup cc with
    | some ⟨_, _, .cell (some (.ref D)), _⟩ => decide (D = C)
    | _ => false)
  | _ => false
def iniB (P : Program) (K : PySem.W.Frag) (C fI : Addr) : Bool := match K.lookup fI with
  | some ⟨_, _, .func ⟨name, q, params, .stmts body, scope, g, cl, dV, _, _, _, _, cd, _, bn⟩, _⟩ =>
    decide (name = "__init__") && iniArgsB params && iniBodyB body && decide (scope = iniScope) && decide (g = mainGlobals) && cellIs K C cl && tupNone K dV && codeFile P K cd && PySem.W.codeIn K cd q && decide (bn = builtinsNs)
  | _ => false
def oexB (K : PySem.W.Frag) (C : Addr) : Bool := match K.lookup C with
  | some ⟨.type "type", _, .cls cd, sl⟩ => (match cd.mro, sl.toList with
    | .ref C' :: bm, [_, _, _, _, some (.builtin n), _] => C' == C && n == "ValueError.__new__" && !cd.hasDel && cd.hasDict && PySem.HandSPX.refsVE bm
    | _, _ => false)
  | _ => false
def iniOk (P : Program) (K : PySem.W.Frag) (C : Addr) : Bool := match PySem.W.findIn K (.ref C) "__init__" with
  | some (some (.ref fI)) => iniB P K C fI && decide (PySem.W.typeIn K (.ref fI) = some (.type "function"))
  | _ => false
def errB (P : Program) (K : PySem.W.Frag) (C : Addr) : Bool := oexB K C && iniOk P K C && (PySem.W.clsIn K C).isSome && !(P.main.scope.names.lookup ("super" : Str)).isSome && PySem.W.hasDictIn K C && PySem.W.keepIn K (.ref C) &&
  decide (PySem.W.findIn K (.ref C) "__setattr__" = some (some (.builtin "object.__setattr__"))) && decide (PySem.W.subIn K (.ref C) (.type "BaseException") = some true) && decide (PySem.W.typeIn K (.ref C) = some (.type "type")) &&
  decide (PySem.W.ks_superIn K C C "__init__" = some (some (.builtin "ValueError.__init__"))) && decide (PySem.W.nsIn K cStatics "thirdparty.any" = some none) && decide (PySem.W.subIn K (.ref C) (.type "ValueError") = some true) &&
  decide (PySem.W.mroIn K C (.ref C) = some true) && decide (PySem.W.findIn K (.ref C) "value" = some none) && decide (PySem.W.findIn K (.ref C) "__getattribute__" = some (some (.builtin "BaseException.__getattribute__"))) && decide (PySem.W.findIn K (.ref C) "__getattr__" = some none) &&
  decide (PySem.W.findIn K (.ref C) "__class__" = some (some (.builtin "object.__class__"))) && decide (PySem.W.specialIn K (.builtin "object.__class__") "__get__" = some (some (.builtin "getset_descriptor.__get__"))) && decide (PySem.W.takesIn K (.builtin "object.__class__") = some true) && decide (PySem.W.mroIn K C (.type "object") = some true)
def errsB (P : Program) (K : PySem.W.Frag) (es ts : List Str) : Bool := es.all (fun n => errB P K (He.ga K n)) && es.all fun n => ts.all fun m => decide (PySem.W.kitOne K (.ref (He.ga K n)) (.ref (He.ga K m)) = some (decide (n = m)))
def excsB (K : PySem.W.Frag) (es : List Str) (x : Str) : Bool := es.all fun n => decide (PySem.W.exmOne K (.ref (He.ga K n)) (.ref (He.ga K x)) = some true)
/-- .. and what the errors' own __init__ name -/
def moreY (g : Addr → Option Obj) (A : List Addr) (es : List Str) : List Addr := es.flatMap fun e => match g (He.ma (He.frT g A) (He.ga (He.frT g A) e) "__init__") with
  | some o => He.refsD o
  | none => []
def asY (g : Addr → Option Obj) (n : Nat) (es : List Str) : List Addr := He.asD g n ++ (moreY g (He.asD g n) es ++ [cStatics])
section
variable {n : Nat} {es : List Str} {fa : List He.Fa} {fn : List He.DefD} {ts : List He.Tab} {tf : List He.Defn} {ex : PySem.W.Frag → Bool}
def obsY (n : Nat) (es : List Str) (fa : List He.Fa) (fn : List He.DefD) (ts : List He.Tab) (tf : List He.Defn) (ex : PySem.W.Frag → Bool) (g : Addr → Option Obj) : He.AlX :=
  (He.obsT fa fn ts (He.frT g (asY g n es)), ex (He.frT g (asY g n es)) && He.tabsB g tf (He.frT g (asY g n es)))
theorem saysY {w : World} {h : Heap} (e : obsY n es fa fn ts tf ex h.get? = He.valX fn ts w) : He.SaysX fa fn ts tf ex w h (He.frT h.get? (asY h.get? n es)) := by
  have e1 : He.obsT fa fn ts (He.frT h.get? (asY h.get? n es)) = He.valT fn ts w := congrArg Prod.fst e
  have e2 : (ex (He.frT h.get? (asY h.get? n es)) && He.tabsB h.get? tf (He.frT h.get? (asY h.get? n es))) = true := congrArg Prod.snd e
  obtain ⟨h1, h2⟩ := Bool.and_eq_true_iff.mp e2
  have key : ∀ p ∈ tf, PySem.W.codeHdIn (He.frT h.get? (asY h.get? n es)) (He.cT (He.frT h.get? (asY h.get? n es)) p).1 (He.cT (He.frT h.get? (asY h.get? n es)) p).2 = true ∧ ∃ o, h.get? (He.cT (He.frT h.get? (asY h.get? n es)) p).2 = some o ∧ He.emptyTab o = true := fun p hp => by
    obtain ⟨h3, h4⟩ := Bool.and_eq_true_iff.mp (List.all_eq_true.mp h2 p hp)
    refine ⟨h3, ?_⟩
    cases q : h.get? (He.cT (He.frT h.get? (asY h.get? n es)) p).2 with
    | none => rw [q] at h4; cases h4
    | some o => rw [q] at h4; exact ⟨o, rfl, h4⟩
  refine ⟨e1, h1, fun p hp => (key p hp).1, fun p hp => ?_, fun p hp => ?_⟩
  · obtain ⟨_, o, q, z⟩ := key p hp
    exact He.frT_none q z
  · obtain ⟨_, o, q, z⟩ := key p hp
    rw [q, He.emptyTab_eq z]
def hookY (n : Nat) (es : List Str) (fa : List He.Fa) (fn : List He.DefD) (ts : List He.Tab) (tf : List He.Defn) (ex : PySem.W.Frag → Bool) : PySem.W.Hook where
  α := He.AlX
  obs := fun s => obsY n es fa fn ts tf ex s.heap.get?
  val := fun w => He.valX fn ts w
  says := fun w h => ∃ K : PySem.W.Frag, K.In h ∧ He.SaysX fa fn ts tf ex w h K
  of := fun _ _ e => ⟨_, He.frT_in, saysY e⟩
  keeps := fun _ _ _ ⟨K, hK, c⟩ k => ⟨K, PySem.W.Frag.In.keeps hK k, ⟨c.t, c.more, c.hd, c.out, fun p hp => k _ _ (c.empty p hp)⟩⟩
theorem obsY_eq {g : Addr → Option Obj} {s : Shared} (h : ∀ a, g a = s.heap.get? a) : obsY n es fa fn ts tf ex g = (hookY n es fa fn ts tf ex).obs s := by
  rw [show g = s.heap.get? from funext h]
  rfl
end
end Tc

set_option maxHeartbeats 0
namespace G
open PySem PySem.Spec L2 Tc
noncomputable section
def top (i : Nat) : Stmt := PySem.Challenge.pw_spreadline_k34_whole_simplest_fractions.main.body.getD i (.Pass ⟨0, 0, 0, 0⟩)
def errs : List Str := ["InvalidFraction"]
def tsts : List Str := ["InvalidNumber", "InvalidFraction", "InvalidLine", "InvalidRow", "InvalidDate", "InvalidWheels", "InvalidCells", "InvalidLengths", "InvalidEdit", "InvalidText", "InvalidNames", "InvalidRule", "TooMany", "Unlike", "Uneven"]
def mks (K : PySem.W.Frag) : MK := [((He.cT K ("law", none)).1, (He.cT K ("law", none)).2, ("law" : Str) ++ ".<locals>." ++ "<lambda>")]
end
/-! the head -/
open PySem PySem.Spec L2 Tc
def dd_law_alike : He.DefD := ⟨("_law_alike", none), "_law_alike", "_law_alike", defArgs (top 41), defBody (top 41), defScope (top 41), [], []⟩
def dd_is_whole : He.DefD := ⟨("is_whole", none), "is_whole", "is_whole", defArgs (top 19), defBody (top 19), defScope (top 19), [], []⟩
def dd_is_fraction : He.DefD := ⟨("is_fraction", none), "is_fraction", "is_fraction", defArgs (top 20), defBody (top 20), defScope (top 20), [], []⟩
def dd_is_part : He.DefD := ⟨("is_part", none), "is_part", "is_part", defArgs (top 23), defBody (top 23), defScope (top 23), [], []⟩
def dd_check_part : He.DefD := ⟨("check_part", none), "check_part", "check_part", defArgs (top 24), defBody (top 24), defScope (top 24), [], []⟩
def dd_put_together : He.DefD := ⟨("put_together", none), "put_together", "put_together", defArgs (top 25), defBody (top 25), defScope (top 25), [], []⟩
def dd_found_from : He.DefD := ⟨("found_from", none), "found_from", "found_from", defArgs (top 26), defBody (top 26), defScope (top 26), [], []⟩
def dd_is_less : He.DefD := ⟨("is_less", none), "is_less", "is_less", defArgs (top 21), defBody (top 21), defScope (top 21), [], []⟩
def dd_simplest_from : He.DefD := ⟨("simplest_from", none), "simplest_from", "simplest_from", defArgs (top 27), defBody (top 27), defScope (top 27), [], []⟩
def dd_found_inside : He.DefD := ⟨("found_inside", none), "found_inside", "found_inside", defArgs (top 28), defBody (top 28), defScope (top 28), [], []⟩
def dd_simplest_inside : He.DefD := ⟨("simplest_inside", none), "simplest_inside", "simplest_inside", defArgs (top 29), defBody (top 29), defScope (top 29), [], []⟩
def dd_law_caught : He.DefD := ⟨("_law_caught", none), "_law_caught", "_law_caught", defArgs (top 40), defBody (top 40), defScope (top 40), [], []⟩
def dd_law_refused : He.DefD := ⟨("_law_refused", none), "_law_refused", "_law_refused", defArgs (top 42), defBody (top 42), defScope (top 42), [], []⟩
def dd_law_all_refused : He.DefD := ⟨("_law_all_refused", none), "_law_all_refused", "_law_all_refused", defArgs (top 43), defBody (top 43), defScope (top 43), [], []⟩
def dd_law_cell : He.DefD := ⟨("_law_cell", none), "_law_cell", "_law_cell", defArgs (top 33), defBody (top 33), defScope (top 33), [], []⟩
def dd_law_generator : He.DefD := ⟨("_law_generator", none), "_law_generator", "_law_generator", defArgs (top 34), defBody (top 34), defScope (top 34), [], []⟩
def dd_law_less : He.DefD := ⟨("_law_less", none), "_law_less", "_law_less", defArgs (top 39), defBody (top 39), defScope (top 39), [], []⟩
def dd_law_pairs : He.DefD := ⟨("_law_pairs", none), "_law_pairs", "_law_pairs", defArgs (top 47), defBody (top 47), defScope (top 47), [], []⟩
def dd_law_gcd : He.DefD := ⟨("_law_gcd", none), "_law_gcd", "_law_gcd", defArgs (top 37), defBody (top 37), defScope (top 37), [], []⟩
def dd_law_low : He.DefD := ⟨("_law_low", none), "_law_low", "_law_low", defArgs (top 38), defBody (top 38), defScope (top 38), [], []⟩
def dd_law_hash : He.DefD := ⟨("_law_hash", none), "_law_hash", "_law_hash", defArgs (top 31), defBody (top 31), defScope (top 31), [], []⟩
def dd_law_random : He.DefD := ⟨("_law_random", none), "_law_random", "_law_random", defArgs (top 32), defBody (top 32), defScope (top 32), [], []⟩
def dd_law_pick : He.DefD := ⟨("_law_pick", none), "_law_pick", "_law_pick", defArgs (top 35), defBody (top 35), defScope (top 35), [], []⟩
def dd_law_part : He.DefD := ⟨("_law_part", none), "_law_part", "_law_part", defArgs (top 44), defBody (top 44), defScope (top 44), [], []⟩
def dd_law_same : He.DefD := ⟨("_law_same", none), "_law_same", "_law_same", defArgs (top 36), defBody (top 36), defScope (top 36), [], []⟩
def dd_law_simplest : He.DefD := ⟨("_law_simplest", none), "_law_simplest", "_law_simplest", defArgs (top 46), defBody (top 46), defScope (top 46), [], []⟩
def dd_law_wrong_parts : He.DefD := ⟨("_law_wrong_parts", none), "_law_wrong_parts", "_law_wrong_parts", defArgs (top 45), defBody (top 45), defScope (top 45), [], []⟩
def dd_law : He.DefD := ⟨("law", none), "law", "law", defArgs (top 48), defBody (top 48), defScope (top 48), [], []⟩
def fns : List He.DefD := [dd_law_alike, dd_is_whole, dd_is_fraction, dd_is_part, dd_check_part, dd_put_together, dd_found_from, dd_is_less, dd_simplest_from, dd_found_inside, dd_simplest_inside, dd_law_caught, dd_law_refused, dd_law_all_refused, dd_law_cell, dd_law_generator, dd_law_less, dd_law_pairs, dd_law_gcd, dd_law_low, dd_law_hash, dd_law_random, dd_law_pick, dd_law_part, dd_law_same, dd_law_simplest, dd_law_wrong_parts, dd_law]
def fas0 : List He.Fa := [.glo "_law_alike", .glo "is_whole", .glo "is_fraction", .glo "is_part", .glo "check_part", .glo "put_together", .glo "found_from", .glo "is_less", .glo "simplest_from", .glo "found_inside", .glo "simplest_inside", .glo "_law_caught", .glo "_law_refused", .glo "_law_all_refused", .glo "_law_cell", .glo "_law_generator", .glo "_law_less", .glo "_law_pairs", .glo "_law_gcd", .glo "_law_low", .glo "_law_hash", .glo "_law_random", .glo "_law_pick", .glo "_law_part", .glo "_law_same", .glo "_law_simplest", .glo "_law_wrong_parts", .glo "law", .free "abs", .free "bool", .free "int", .free "isinstance", .free "len", .free "list", .free "max", .free "range", .free "repr", .free "str", .free "sum", .free "super"]
def fas1 : List He.Fa := [.free "tuple", .glo "InvalidCells", .glo "InvalidDate", .glo "InvalidEdit", .glo "InvalidFraction", .glo "InvalidLengths", .glo "InvalidLine", .glo "InvalidNames", .glo "InvalidNumber", .glo "InvalidRow", .glo "InvalidRule", .glo "InvalidText", .glo "InvalidWheels", .glo "SpreadError", .glo "TooMany", .glo "Uneven", .glo "Unlike"]
def fas : List He.Fa := fas0 ++ fas1
def nms0 : List Str := [Str.ofString "gcd", Str.ofString "SpreadError", Str.ofString "InvalidRow", Str.ofString "InvalidLine", Str.ofString "InvalidFraction", Str.ofString "InvalidNumber", Str.ofString "InvalidLengths", Str.ofString "InvalidCells", Str.ofString "InvalidWheels", Str.ofString "InvalidDate", Str.ofString "InvalidRule", Str.ofString "InvalidNames", Str.ofString "InvalidText", Str.ofString "InvalidEdit", Str.ofString "Uneven", Str.ofString "Unlike", Str.ofString "TooMany", Str.ofString "is_whole", Str.ofString "is_fraction", Str.ofString "is_less", Str.ofString "is_part", Str.ofString "check_part", Str.ofString "put_together", Str.ofString "found_from", Str.ofString "simplest_from", Str.ofString "found_inside", Str.ofString "simplest_inside", Str.ofString "_law_hash", Str.ofString "_law_random", Str.ofString "_law_cell", Str.ofString "_law_generator", Str.ofString "_law_pick", Str.ofString "_law_same", Str.ofString "_law_gcd", Str.ofString "_law_low", Str.ofString "_law_less", Str.ofString "_law_caught", Str.ofString "_law_alike", Str.ofString "_law_refused", Str.ofString "_law_all_refused"]
def nms1 : List Str := [Str.ofString "_law_part", Str.ofString "_law_wrong_parts", Str.ofString "_law_simplest", Str.ofString "_law_pairs"]
def nms : List Str := nms0 ++ nms1
abbrev rw_ : PySem.W.OpenRow := PySem.W.OpenLaw.row PySem.Challenge.rw_spreadline_k34_whole_simplest_fractions
def cfs : List Tc.Cf := [.blt "gcd" "math.gcd"]
def tf : List He.Defn := [("law", none)]
def exF (K : PySem.W.Frag) : Bool := Tc.Cf.all cfs K && Tc.errsB PySem.Challenge.rw_spreadline_k34_whole_simplest_fractions.prog K errs tsts && Tc.excsB K errs "SpreadError" && decide (((mks K).map fun p => p.2.1).Nodup)
abbrev hook : PySem.W.Hook := Tc.hookY 3 errs fas fns [] tf exF
def seen (s : PySem.W.SharedT) : He.AlX := Tc.obsY 3 errs fas fns [] tf exF (HandSHeadRun.getT s)
theorem seen_eq (s : PySem.W.SharedT) : seen s = hook.obs s.abs := Tc.obsY_eq (HandSHeadRun.getT_eq s)
theorem runs (w : World) : HandSHeadRun.RunEqI rw_ (PySem.W.view rw_.prog [0, 48]) hook seen 20000 nms w := by
  unfold HandSHeadRun.RunEqI
  kernel_rfl
end G
set_option maxHeartbeats 200000
/-! Tc: the judgements, the rules of expressions. -/
namespace Tc
open PySem PySem.Spec L2

/-- where code stands: what all contexts of a def's body (of a comprehension's block) share -/
structure SC where
  prog : Program
  w : World
  K : PySem.W.Frag
  mg : Str → Option Value
  base : Heap
  N : List Str
  sc : Scope
  k : Nat
  W : WX
  G : GI
  st : Str → Bool := fun _ => true
  lc : Option (Str × Value) := none
structure SC.Is (c : SC) (X : Cx) : Prop where
  prog : X.prog = c.prog
  w : X.w = c.w
  K : X.K = c.K
  mg : X.mg = c.mg
  base : X.base = c.base
  N : X.N = c.N
  nd : c.N.Nodup
  sc : X.env.scope = c.sc
  calm : X.calm = true
  room : Room c.k X.A
  grd : X.A.guards = some []
  tk : Takes X c.W
  po : PassesOwn (model X.prog X.w) X.A X.env X.xe
  fn : ∀ x, c.st x = true → Loc X.env.scope x → X.fn x = true ∨ X.env.scope.names.lookup x = some .local
  lc : ∀ p, c.lc = some p → X.env.qual = p.1 ∧ X.env.code = p.2 ∧ X.stack = X.env :: X.outer ∧ X.env.frame = some X.env.locals ∧ X.ex = []

/-- what is wanted behind an outcome -/
def PK {α : Type} (c : SC) (P : List Nat) (σ : L2.St) (O : Addr → Prop) (H B : Hp) (good : α → Sl → (Addr → Prop) → Hp → Hp → Prop) : Out α → Prop
  | .ok a r => ∀ O' H' B', Frm c.K c.G P r σ O' H' B' → Grow O H B O' H' B' → good a r O' H' B'
  | .ex n w r => ∀ v d O' H' B', Frm c.K c.G P r σ O' H' B' → Grow O H B O' H' B' → B' d = some (.xd [("value", v)]) → Rep c.K B' v w → c.W (.ref (He.ga c.K n)) (some d) σ H'
  | .no => False
section
variable {α β : Type} {c : SC} {P : List Nat} {σ : L2.St} {O O1 : Addr → Prop} {H B H1 B1 : Hp} {good good' : α → Sl → (Addr → Prop) → Hp → Hp → Prop} {x : Out α}
theorem PK.later (h : PK c P σ O H B good x) (g : Grow O H B O1 H1 B1) : PK c P σ O1 H1 B1 good x := by
  cases x with
  | ok a r => exact fun O' H' B' f g' => h O' H' B' f (g.trans g')
  | ex n w r => exact fun v d O' H' B' f g' => h v d O' H' B' f (g.trans g')
  | no => exact h
theorem PK.imp (h : PK c P σ O H B good x) (i : ∀ a r O' H' B', Frm c.K c.G P r σ O' H' B' → Grow O H B O' H' B' → good a r O' H' B' → good' a r O' H' B') : PK c P σ O H B good' x := by
  cases x with
  | ok a r => exact fun O' H' B' f g => i a r O' H' B' f g (h O' H' B' f g)
  | ex n w r => exact h
  | no => exact h
theorem PK.impE (h : PK c P σ O H B good x) (i : ∀ a r O' H' B', x = .ok a r → Frm c.K c.G P r σ O' H' B' → Grow O H B O' H' B' → good a r O' H' B' → good' a r O' H' B') : PK c P σ O H B good' x := by
  cases x with
  | ok a r => exact fun O' H' B' f g => i a r O' H' B' rfl f g (h O' H' B' f g)
  | ex n w r => exact h
  | no => exact h
theorem PK.bind {G : α → Sl → Out β} {good : β → Sl → (Addr → Prop) → Hp → Hp → Prop} (h : PK c P σ O H B good (x.bind G)) : PK c P σ O H B (fun a r O1 H1 B1 => PK c P σ O1 H1 B1 good (G a r)) x := by
  cases x with
  | ok a r => exact fun O' H' B' f g => PK.later (show PK c P σ O H B good (G a r) from h) g
  | ex n w r => exact h
  | no => exact h
theorem PK.bind0 {G : α → Sl → Out β} {good : β → Sl → (Addr → Prop) → Hp → Hp → Prop} (h : PK c P σ O H B good (x.bind G)) : PK c P σ O H B (fun a r _ _ _ => PK c P σ O H B good (G a r)) x := by
  cases x with
  | ok a r => exact fun O' H' B' f g => h
  | ex n w r => exact h
  | no => exact h
theorem PK.at {a : α} {r : Sl} (h : PK c P σ O H B good (.ok a r)) (f : Frm c.K c.G P r σ O H B) : good a r O H B := h O H B f .refl
theorem PK.pu {a : α} {r : Sl} (h : PK c P σ O H B good (.ok a r)) (f : Frm c.K c.G P r σ O H B) (p : Pu H B H1 B1) : good a r O H1 B1 := h O H1 B1 (f.pu p) (.of_pu p)
theorem PK.opt {o : Option α} {r : Sl} (h : PK c P σ O H B good (Out.opt r o)) : ∃ a, o = some a ∧ PK c P σ O H B good (.ok a r) := by
  cases o with
  | none => exact (show False from h).elim
  | some a => exact ⟨a, rfl, h⟩
end

abbrev GoodT (c : SC) (Q : VK) : T → Sl → (Addr → Prop) → Hp → Hp → Prop := fun t _ _ H B => ∀ v, Rep c.K B v t → Q v H
abbrev GoodA (c : SC) (Q : List V → Hp → Prop) : List T → Sl → (Addr → Prop) → Hp → Hp → Prop := fun ts _ _ H B => ∀ vs, Reps c.K B vs ts → Q vs H
abbrev GoodC (Q : Bool → Hp → Prop) : Bool → Sl → (Addr → Prop) → Hp → Hp → Prop := fun b _ _ H _ => Q b H
/-- a new list, owned, in no slot -/
abbrev GoodF (c : SC) (P : List Nat) (σ : L2.St) (Q : VK) : T → Sl → (Addr → Prop) → Hp → Hp → Prop := fun t _ O H B =>
  ∀ p vs ts, t = .lst ts → O p → (∀ i ∈ P, σ[i]? ≠ some (some (.ref p))) → H p = some (.lst vs) → Reps c.K B vs ts → Q (.ref p) H

structure EJ (c : SC) (P : List Nat) (e : Expr) (F : Ec) : Prop where
  ex : ∃ t : TE, (∀ X, c.Is X → PE X e t) ∧ ∀ r σ O H B Q, Frm c.K c.G P r σ O H B → PK c P σ O H B (GoodT c Q) (F r) → t σ H Q
structure FJ (c : SC) (P : List Nat) (e : Expr) (F : Ec) : Prop where
  ex : ∃ t : TE, (∀ X, c.Is X → PE X e t) ∧ ∀ r σ O H B Q, Frm c.K c.G P r σ O H B → PK c P σ O H B (GoodF c P σ Q) (F r) → t σ H Q
structure CJ (c : SC) (P : List Nat) (e : Expr) (F : Cc) : Prop where
  ex : ∃ t : TT, (∀ X, c.Is X → PT X e t) ∧ ∀ r σ O H B Q, Frm c.K c.G P r σ O H B → PK c P σ O H B (GoodC Q) (F r) → t σ H Q
/-- and, or: whatever the whole is -/
structure WJ (c : SC) (P : List Nat) (e : Expr) (F : Cc) : Prop where
  ex : ∃ t : TT, (∀ X, c.Is X → PW X e t) ∧ ∀ r σ O H B Q, Frm c.K c.G P r σ O H B → PK c P σ O H B (GoodC Q) (F r) → t σ H Q
structure AJ (c : SC) (P : List Nat) (es : List Expr) (F : Ac) : Prop where
  ex : ∃ t : TA, (∀ X, c.Is X → PA X es t) ∧ ∀ r σ O H B Q, Frm c.K c.G P r σ O H B → PK c P σ O H B (GoodA c Q) (F r) → t σ H Q
  len : ∀ r ts r', F r = .ok ts r' → ts.length = es.length

/-! ### the combinators -/
def cVar (i : Nat) : Ec := fun r => match r[i]? with
  | some (some t) => .ok t r
  | _ => .no
def cK (t : T) : Ec := fun r => .ok t r
def cBin (f : T → T → Option T) (a b : Ec) : Ec := fun r => (a r).bind fun x r1 => (b r1).bind fun y r2 => Out.opt r2 (f x y)
def cUn (f : T → Option T) (a : Ec) : Ec := fun r => (a r).bind fun x r1 => Out.opt r1 (f x)
def cApp (f : List T → Option T) (a : Ac) : Ec := fun r => (a r).bind fun xs r1 => Out.opt r1 (f xs)
def cNil : Ac := fun r => .ok [] r
def cCons (a : Ec) (b : Ac) : Ac := fun r => (a r).bind fun x r1 => (b r1).bind fun xs r2 => .ok (x :: xs) r2
def cIf (c : Cc) (a b : Ec) : Ec := fun r => (c r).bind fun z r1 => if z = true then a r1 else b r1
/-- a value that must be a truth value, as a test; a test as a value -/
def cB (a : Ec) : Cc := fun r => (a r).bind fun x r1 => match x with
  | .bl b => .ok b r1
  | _ => .no
def cT (f : T → Option Bool) (a : Ec) : Cc := fun r => (a r).bind fun x r1 => Out.opt r1 (f x)
def cNotC (a : Cc) : Cc := fun r => (a r).bind fun x r1 => .ok (!x) r1
def cAndC (a b : Cc) : Cc := fun r => (a r).bind fun x r1 => if x = true then b r1 else .ok false r1
def cOrC (a b : Cc) : Cc := fun r => (a r).bind fun x r1 => if x = true then .ok true r1 else b r1
def cAndV (a b : Ec) : Ec := fun r => (a r).bind fun x r1 => match x with
  | .bl z => if z = true then b r1 else .ok (.bl false) r1
  | _ => .no
def cOrV (a b : Ec) : Ec := fun r => (a r).bind fun x r1 => match x with
  | .bl z => if z = true then .ok (.bl true) r1 else b r1
  | _ => .no
def cNotV (a : Ec) : Ec := fun r => (a r).bind fun x r1 => match x with
  | .bl z => .ok (.bl (!z)) r1
  | _ => .no
/-- a op b op' c -/
def cChain (f g : T → T → Option T) (a b d : Ec) : Ec := fun r => (a r).bind fun x r1 => (b r1).bind fun y r2 => match f x y with
  | some (.bl z) => if z = true then (d r2).bind fun u r3 => Out.opt r3 (g y u) else .ok (.bl false) r2
  | _ => .no

/-- a rule by values says what the tree's function says -/
def Sd2 (K : PySem.W.Frag) (r : R2) (f : T → T → Option T) : Prop :=
  ∀ (H B : Hp) (x y : V) (t u z : T) (Q : VK), Same B H → Rep K B x t → Rep K B y u → f t u = some z → (∀ v H' B', Pu H B H' B' → Rep K B' v z → Q v H') → r x y H Q
def Sd1 (K : PySem.W.Frag) (r : V → Hp → VK → Prop) (f : T → Option T) : Prop :=
  ∀ (H B : Hp) (x : V) (t z : T) (Q : VK), Same B H → Rep K B x t → f t = some z → (∀ v H' B', Pu H B H' B' → Rep K B' v z → Q v H') → r x H Q
def SdA (K : PySem.W.Frag) (r : List V → Hp → VK → Prop) (f : List T → Option T) : Prop :=
  ∀ (H B : Hp) (xs : List V) (ts : List T) (z : T) (Q : VK), Same B H → Reps K B xs ts → f ts = some z → (∀ v H' B', Pu H B H' B' → Rep K B' v z → Q v H') → r xs H Q
/-- the same where a new list comes -/
def Sf2 (K : PySem.W.Frag) (r : R2) (f : T → T → Option T) : Prop :=
  ∀ (H B : Hp) (x y : V) (t u z : T) (Q : VK), Same B H → Rep K B x t → Rep K B y u → f t u = some z → (∀ p vs ts H', z = .lst ts → Pu H B H' B → H p = none → H' p = some (.lst vs) → Reps K B vs ts → Q (.ref p) H') → r x y H Q
def SfA (K : PySem.W.Frag) (r : List V → Hp → VK → Prop) (f : List T → Option T) : Prop :=
  ∀ (H B : Hp) (xs : List V) (ts : List T) (z : T) (Q : VK), Same B H → Reps K B xs ts → f ts = some z → (∀ p vs ts H', z = .lst ts → Pu H B H' B → H p = none → H' p = some (.lst vs) → Reps K B vs ts → Q (.ref p) H') → r xs H Q

section
variable {c : SC} {P : List Nat} {σ : L2.St} {a b d e : Expr} {es : List Expr} {Fa Fb Fd F : Ec} {Ca Cb : Cc} {A : Ac} {pos : Pos} {rest : List Expr}

theorem Grow.own {O : Addr → Prop} {H B H' : Hp} {p : Addr} (u : Pu H B H' B) (n : H p = none) : Grow O H B (fun a => O a ∨ a = p) H' B :=
  ⟨u.bb, fun a o e => .inl e, fun a o e _ => .inl (u.hh a o e), fun a h => h.elim .inl fun z => .inr (by rw [z]; exact n)⟩
theorem Frm.own {O : Addr → Prop} {H B H' : Hp} {r : Sl} {K : PySem.W.Frag} {G : GI} {p : Addr} (f : Frm K G P r σ O H B) (u : Pu H B H' B) (n : H p = none) (h : ∃ o, H' p = some o) : Frm K G P r σ (fun a => O a ∨ a = p) H' B := by
  have f' := f.pu u
  refine ⟨f'.sub, fun a h => ?_, fun a h' => ?_, f'.var, fun i hi => ?_, f'.sep, f'.len, f'.siz, f'.inn, f.tab.grow (Grow.own u n) (f.pu u).tab.tabs⟩
  · rcases h with h | h
    · exact f'.out a h
    · subst h; exact f.sub.free n
  · rcases h' with h' | h'
    · exact f'.liv a h'
    · subst h'; obtain ⟨o, e⟩ := h; rw [e]; exact fun z => nomatch z
  · obtain ⟨q, vs, ts, h1, h2, h3, h4, h5⟩ := f'.prv i hi
    exact ⟨q, vs, ts, h1, h2, .inl h3, h4, h5⟩
/-- what is owned in no slot is given to the view -/
theorem Frm.give {O : Addr → Prop} {H B : Hp} {r : Sl} {K : PySem.W.Frag} {G : GI} {p : Addr} {vs : List V} (f : Frm K G P r σ O H B) (hO : O p) (hs : ∀ i ∈ P, σ[i]? ≠ some (some (.ref p))) (hp : H p = some (.lst vs)) :
    Frm K G P r σ (fun a => O a ∧ a ≠ p) H (upd B p (.lst vs)) ∧ Grow O H B (fun a => O a ∧ a ≠ p) H (upd B p (.lst vs)) ∧ Same B (upd B p (.lst vs)) := by
  have hB := f.out p hO
  have sm : Same B (upd B p (.lst vs)) := fun b u e => by rw [upd_ne (ne_of_none e hB)]; exact e
  refine ⟨⟨fun b u e => ?_, fun a h => ?_, fun a h => f.liv a h.1, fun i t e n => ?_, fun i hi => ?_, f.sep, f.len, f.siz, f.inn, f.tab.view hO hB⟩, ⟨sm, fun a o e => ?_, fun _ _ e _ => .inl e, fun a h => .inl h.1⟩, sm⟩
  · by_cases hb : b = p
    · subst hb; rw [upd_same] at e; rw [hp]; exact e
    · rw [upd_ne hb] at e; exact f.sub _ _ e
  · rw [upd_ne h.2]; exact f.out a h.1
  · obtain ⟨v, h1, h2⟩ := f.var i t e n
    exact ⟨v, h1, h2.mono sm⟩
  · obtain ⟨q, vs, ts, h1, h2, h3, h4, h5⟩ := f.prv i hi
    exact ⟨q, vs, ts, h1, h2, ⟨h3, fun z => hs i hi (by rw [h2, z])⟩, h4, h5.mono sm⟩
  · by_cases hb : a = p
    · subst hb; exact .inr (.inr hO)
    · rw [upd_ne hb] at e; exact .inl e

theorem FJ.ej (h : FJ c P e F) : EJ c P e F := by
  obtain ⟨t, h1, h2⟩ := h.ex
  refine ⟨t, h1, fun r σ O H B Q f q => h2 r σ O H B Q f ?_⟩
  cases z : F r with
  | ok t' r' =>
    rw [z] at q
    refine fun O' H' B' f' g p vs ts e hO hs hp rp => ?_
    subst e
    obtain ⟨x1, x2, x3⟩ := f'.give hO hs hp
    exact q _ H' _ x1 (g.trans x2) _ (.lst (.of upd_same) (rp.mono x3))
  | ex n w r' => rw [z] at q; exact q
  | no => rw [z] at q; exact q

/-! ### names, constants -/
theorem ej_var (i : Nat) {x : Str} (hN : c.N[i]? = some x := by rfl) (hv : Vis c.sc x := by first | exact Or.inl rfl | exact Or.inr (Or.inl rfl) | exact Or.inr (Or.inr rfl)) (hP : i ∉ P := by decide)
    (hd : (x == ("__debug__" : Str)) = false := by decide) (hcd : (x == ("__classdict__" : Str)) = false := by decide) : EJ c P (.Name x pos) (cVar i) := by
  refine ⟨tVar i, fun X h => pe_var (by rw [h.N]; exact hN) (by rw [h.sc]; exact hv) hd hcd, fun r σ O H B Q f q => ?_⟩
  unfold cVar at q
  split at q
  · rename_i t e
    obtain ⟨v, h1, h2⟩ := f.var i t e hP
    exact ⟨v, h1, q.at f v h2⟩
  · exact (show False from q).elim
theorem ej_int {i : Int} {j : Nat} : EJ c P (.Constant (.int i) j pos) (cK (.int i)) := ⟨tC (.int i), fun X h => pe_int, fun r σ O H B Q f q => PK.at (show PK _ _ _ _ _ _ _ (.ok _ _) from q) f _ (.int i)⟩
theorem ej_bl {b : Bool} {j : Nat} : EJ c P (.Constant (.bool b) j pos) (cK (.bl b)) := ⟨tC (.bl b), fun X h => pe_bl, fun r σ O H B Q f q => PK.at (show PK _ _ _ _ _ _ _ (.ok _ _) from q) f _ (.bl b)⟩
theorem ej_non {j : Nat} : EJ c P (.Constant .none j pos) (cK .non) := ⟨tC .non, fun X h => pe_non, fun r σ O H B Q f q => PK.at (show PK _ _ _ _ _ _ _ (.ok _ _) from q) f _ .non⟩
theorem ej_str {x : Str} {j : Nat} : EJ c P (.Constant (.str x) j pos) (cK (.str x)) := ⟨tC (.str x), fun X h => pe_str, fun r σ O H B Q f q => PK.at (show PK _ _ _ _ _ _ _ (.ok _ _) from q) f _ (.str x)⟩
/-- a constant of the module: an int, a text -/
theorem ej_glob {x : Str} {v : V} {u : Value} {t : T} (hm : c.mg x = some u) (hr : RelV v u) (ht : ∀ K B, Rep K B v t) (hg : c.sc.names.lookup x = some .globalImplicit := by rfl) (hd : (x == ("__debug__" : Str)) = false := by decide) : EJ c P (.Name x pos) (cK t) :=
  ⟨tC v, fun X h => pe_glob (by show X.env.scope.names.lookup x = _; rw [h.sc]; exact hg) (by rw [h.mg]; exact hm) hr hd, fun r σ O H B Q f q => PK.at (show PK _ _ _ _ _ _ _ (.ok _ _) from q) f _ (ht _ _)⟩

/-! ### argument lists -/
theorem aj_nil : AJ c P [] cNil := ⟨⟨tNil, fun X h => pa_nil, fun r σ O H B Q f q => PK.at (show PK _ _ _ _ _ _ _ (.ok _ _) from q) f _ .nil⟩, fun r ts r' e => by cases e; rfl⟩
theorem aj_cons (ha : EJ c P e F) (hb : AJ c P es A) (hs : ∀ env, starEach (e :: es) env = (false, eval e env) :: starEach es env := by intro _; rfl) : AJ c P (e :: es) (cCons F A) := by
  obtain ⟨ta, pa, ra⟩ := ha.ex
  obtain ⟨tb, pb, rb⟩ := hb.ex
  refine ⟨⟨tCons ta tb, fun X h => pa_cons (pa X h) (pb X h) (hs _), fun r σ O H B Q f q => ?_⟩, fun r ts r' q => ?_⟩
  rotate_left
  · unfold cCons at q
    cases z : F r with
    | ok t r1 =>
      rw [z] at q
      cases y : A r1 with
      | ok us r2 =>
        simp only [Out.bind, y] at q
        cases q
        rw [List.length_cons, List.length_cons, hb.len _ _ _ y]
      | ex n w r2 => simp only [Out.bind, y] at q; cases q
      | no => simp only [Out.bind, y] at q; cases q
    | ex n w r1 => rw [z] at q; cases q
    | no => rw [z] at q; cases q
  refine ra r σ O H B _ f ((PK.bind q).imp fun t r1 O1 H1 B1 f1 g1 q1 v rv => ?_)
  refine rb r1 σ O1 H1 B1 _ f1 ((PK.bind q1).imp fun ts r2 O2 H2 B2 f2 g2 q2 vs rvs => ?_)
  exact PK.at (show PK _ _ _ _ _ _ _ (.ok _ _) from q2) f2 _ (.cons (rv.mono g2.bb) rvs)

/-! ### operators -/
theorem ej_bin {op : Operator} {r2 : R2} {f : T → T → Option T} (ho : ∀ X, c.Is X → OpR X (binaryOp op) r2) (hf : Sd2 c.K r2 f) (ha : EJ c P a Fa) (hb : EJ c P b Fb) : EJ c P (.BinOp a op b pos) (cBin f Fa Fb) := by
  obtain ⟨ta, pa, ra⟩ := ha.ex
  obtain ⟨tb, pb, rb⟩ := hb.ex
  refine ⟨tOp r2 ta tb, fun X h => pe_op (ho X h) (pa X h) (pb X h), fun r σ O H B Q fr q => ?_⟩
  refine ra r σ O H B _ fr ((PK.bind q).imp fun t r1 O1 H1 B1 f1 g1 q1 v rv => ?_)
  refine rb r1 σ O1 H1 B1 _ f1 ((PK.bind q1).imp fun u r2 O2 H2 B2 f2 g2 q2 w rw' => ?_)
  obtain ⟨z, ez, q3⟩ := PK.opt q2
  exact hf H2 B2 v w t u z Q f2.sub (rv.mono g2.bb) rw' ez fun v' H' B' p rp => q3.pu f2 p v' rp
theorem fj_bin {op : Operator} {r2 : R2} {f : T → T → Option T} (ho : ∀ X, c.Is X → OpR X (binaryOp op) r2) (hf : Sf2 c.K r2 f) (ha : EJ c P a Fa) (hb : EJ c P b Fb) : FJ c P (.BinOp a op b pos) (cBin f Fa Fb) := by
  obtain ⟨ta, pa, ra⟩ := ha.ex
  obtain ⟨tb, pb, rb⟩ := hb.ex
  refine ⟨tOp r2 ta tb, fun X h => pe_op (ho X h) (pa X h) (pb X h), fun r σ O H B Q fr q => ?_⟩
  refine ra r σ O H B _ fr ((PK.bind q).imp fun t r1 O1 H1 B1 f1 g1 q1 v rv => ?_)
  refine rb r1 σ O1 H1 B1 _ f1 ((PK.bind q1).imp fun u r2 O2 H2 B2 f2 g2 q2 w rw' => ?_)
  obtain ⟨z, ez, q3⟩ := PK.opt q2
  refine hf H2 B2 v w t u z Q f2.sub (rv.mono g2.bb) rw' ez fun p vs ts H' e pu n hp rp => ?_
  refine q3 _ H' B2 (f2.own pu n ⟨_, hp⟩) (.own pu n) p vs ts e (.inr rfl) (fun i hi z => ?_) hp rp
  obtain ⟨p', _, _, _, h2, _, h4, _⟩ := f2.prv i hi
  rw [h2] at z
  cases z
  rw [n] at h4; cases h4
theorem ej_un {op : UnaryOp} {r1 : V → Hp → VK → Prop} {f : T → Option T} (ho : ∀ X, c.Is X → UnR X (unaryOp op) r1) (hf : Sd1 c.K r1 f) (ha : EJ c P a Fa) : EJ c P (.UnaryOp op a pos) (cUn f Fa) := by
  obtain ⟨ta, pa, ra⟩ := ha.ex
  refine ⟨tUn r1 ta, fun X h => pe_un (ho X h) (pa X h), fun r σ O H B Q fr q => ?_⟩
  refine ra r σ O H B _ fr ((PK.bind q).imp fun t r1 O1 H1 B1 f1 g1 q1 v rv => ?_)
  obtain ⟨z, ez, q3⟩ := PK.opt q1
  exact hf H1 B1 v t z Q f1.sub rv ez fun v' H' B' p rp => q3.pu f1 p v' rp
theorem ej_cmp {op : CmpOp} {r2 : R2} {f : T → T → Option T} (ho : ∀ X, c.Is X → OpR X (compareOp op) r2) (hf : Sd2 c.K r2 f) (ha : EJ c P a Fa) (hb : EJ c P b Fb) (hm : behindInMarks op b = false) : EJ c P (.Compare a [op] [b] pos) (cBin f Fa Fb) := by
  obtain ⟨ta, pa, ra⟩ := ha.ex
  obtain ⟨tb, pb, rb⟩ := hb.ex
  refine ⟨tOp r2 ta tb, fun X h => pe_cmpR (ho X h) (pa X h) (pb X h) hm, fun r σ O H B Q fr q => ?_⟩
  refine ra r σ O H B _ fr ((PK.bind q).imp fun t r1 O1 H1 B1 f1 g1 q1 v rv => ?_)
  refine rb r1 σ O1 H1 B1 _ f1 ((PK.bind q1).imp fun u r2 O2 H2 B2 f2 g2 q2 w rw' => ?_)
  obtain ⟨z, ez, q3⟩ := PK.opt q2
  exact hf H2 B2 v w t u z Q f2.sub (rv.mono g2.bb) rw' ez fun v' H' B' p rp => q3.pu f2 p v' rp
theorem Rep.bl_inv {K : PySem.W.Frag} {B : Hp} {v : V} {b : Bool} (h : Rep K B v (.bl b)) : v = .bl b := by cases h; rfl
/-- a comparison as a test -/
theorem cj_cmp {op : CmpOp} {r2 : R2} {f : T → T → Option T} (ho : ∀ X, c.Is X → OpR X (compareOp op) r2) (hf : Sd2 c.K r2 f) (ha : EJ c P a Fa) (hb : EJ c P b Fb) (hm : behindInMarks op b = false) : CJ c P (.Compare a [op] [b] pos) (cB (cBin f Fa Fb)) := by
  obtain ⟨ta, pa, ra⟩ := ha.ex
  obtain ⟨tb, pb, rb⟩ := hb.ex
  refine ⟨tTest (tOp r2 ta tb), fun X h => pt_cmpR (ho X h) (pa X h) (pb X h) hm, fun r σ O H B Q fr q => ?_⟩
  refine ra r σ O H B _ fr ((PK.bind (PK.bind q)).imp fun t r1 O1 H1 B1 f1 g1 q1 v rv => ?_)
  refine rb r1 σ O1 H1 B1 _ f1 ((PK.bind q1).imp fun u r2 O2 H2 B2 f2 g2 q2 w rw' => ?_)
  obtain ⟨z, ez, q3⟩ := PK.opt q2
  refine hf H2 B2 v w t u z _ f2.sub (rv.mono g2.bb) rw' ez fun v' H' B' p rp => ?_
  have q4 := q3.pu f2 p
  cases z with
  | bl k =>
    cases rp.bl_inv
    exact ⟨k, rfl, PK.at q4 (f2.pu p)⟩
  | _ => exact (show False from q4).elim
theorem ej_chain {op op' : CmpOp} {r2 r2' : R2} {f g : T → T → Option T} (ho : ∀ X, c.Is X → OpR X (compareOp op) r2) (hf : Sd2 c.K r2 f) (ho' : ∀ X, c.Is X → OpR X (compareOp op') r2') (hg : Sd2 c.K r2' g)
    (ha : EJ c P a Fa) (hb : EJ c P b Fb) (hd : EJ c P d Fd) (hm : lastMarks [op, op'] [b, d] = false := by with_unfolding_all rfl) : EJ c P (.Compare a [op, op'] [b, d] pos) (cChain f g Fa Fb Fd) := by
  obtain ⟨ta, pa, ra⟩ := ha.ex
  obtain ⟨tb, pb, rb⟩ := hb.ex
  obtain ⟨td, pd, rd⟩ := hd.ex
  refine ⟨tChain r2 r2' ta tb td, fun X h => pe_chain (ho X h) (ho' X h) (pa X h) (pb X h) (pd X h) hm, fun r σ O H B Q fr q => ?_⟩
  refine ra r σ O H B _ fr ((PK.bind q).imp fun t r1 O1 H1 B1 f1 g1 q1 v rv => ?_)
  refine rb r1 σ O1 H1 B1 _ f1 ((PK.bind q1).imp fun u r2 O2 H2 B2 f2 g2 q2 w rw' => ?_)
  cases ez : f t u with
  | none => simp only [ez] at q2; exact (show False from q2).elim
  | some z =>
    simp only [ez] at q2
    cases z with
    | bl k =>
      refine hf H2 B2 v w t u _ _ f2.sub (rv.mono g2.bb) rw' ez fun v' H' B' p rp => ?_
      cases rp.bl_inv
      refine ⟨k, rfl, ?_⟩
      have f3 := f2.pu p
      have q3 := PK.later (show PK c P σ O2 H2 B2 (GoodT c Q) (if k = true then (Fd r2).bind fun u' r3 => Out.opt r3 (g u u') else .ok (.bl false) r2) from q2) (Grow.of_pu p)
      cases k with
      | true =>
        rw [if_pos rfl] at q3 ⊢
        refine rd r2 σ O2 H' B' _ f3 ((PK.bind q3).imp fun u' r3 O4 H4 B4 f4 g4 q4 x rx => ?_)
        obtain ⟨z, ez', q5⟩ := PK.opt q4
        exact hg H4 B4 w x u u' z Q f4.sub ((rw'.mono p.bb).mono g4.bb) rx ez' fun v' H' B' p rp => q5.pu f4 p v' rp
      | false =>
        rw [if_neg Bool.false_ne_true] at q3 ⊢
        exact q3.at f3 _ (.bl false)
    | _ => exact (show False from q2).elim
/-- any value that is a truth value, as a test -/
theorem cj_of (ha : EJ c P e F) (he : ∀ env whole, isTrue e env whole = (do let v ← whole; standAt e.pos; holding [v] (truthy v)) := by intro _ _; rfl) : CJ c P e (cB F) := by
  obtain ⟨ta, pa, ra⟩ := ha.ex
  refine ⟨tB ta, fun X h => pt_val (pa X h) (he _), fun r σ O H B Q fr q => ?_⟩
  refine ra r σ O H B _ fr ((PK.bind q).imp fun t r1 O1 H1 B1 f1 g1 q1 v rv => ?_)
  cases t with
  | bl k => cases rv.bl_inv; exact ⟨k, rfl, PK.at q1 f1⟩
  | _ => exact (show False from q1).elim

/-! ### and, or, not, if -/
theorem wj_and1 (ha : CJ c P a Ca) : WJ c P (.BoolOp .And [a] pos) Ca := by
  obtain ⟨ta, pa, ra⟩ := ha.ex
  exact ⟨ta, fun X h => pw_and1 (pa X h), ra⟩
theorem wj_or1 (ha : CJ c P a Ca) : WJ c P (.BoolOp .Or [a] pos) Ca := by
  obtain ⟨ta, pa, ra⟩ := ha.ex
  exact ⟨ta, fun X h => pw_or1 (pa X h), ra⟩
theorem wj_and (ha : CJ c P a Ca) (hb : WJ c P (.BoolOp .And (b :: rest) pos) Cb) : WJ c P (.BoolOp .And (a :: b :: rest) pos) (cAndC Ca Cb) := by
  obtain ⟨ta, pa, ra⟩ := ha.ex
  obtain ⟨tb, pb, rb⟩ := hb.ex
  refine ⟨tAnd ta tb, fun X h => pw_and (pa X h) (pb X h), fun r σ O H B Q fr q => ?_⟩
  refine ra r σ O H B _ fr ((PK.bind q).imp fun k r1 O1 H1 B1 f1 g1 q1 => ?_)
  cases k with
  | true => exact rb r1 σ O1 H1 B1 Q f1 q1
  | false => exact PK.at (show PK _ _ _ _ _ _ _ (.ok _ _) from q1) f1
theorem wj_or (ha : CJ c P a Ca) (hb : WJ c P (.BoolOp .Or (b :: rest) pos) Cb) : WJ c P (.BoolOp .Or (a :: b :: rest) pos) (cOrC Ca Cb) := by
  obtain ⟨ta, pa, ra⟩ := ha.ex
  obtain ⟨tb, pb, rb⟩ := hb.ex
  refine ⟨tOr ta tb, fun X h => pw_or (pa X h) (pb X h), fun r σ O H B Q fr q => ?_⟩
  refine ra r σ O H B _ fr ((PK.bind q).imp fun k r1 O1 H1 B1 f1 g1 q1 => ?_)
  cases k with
  | false => exact rb r1 σ O1 H1 B1 Q f1 q1
  | true => exact PK.at (show PK _ _ _ _ _ _ _ (.ok _ _) from q1) f1
theorem WJ.cj (h : WJ c P e Ca) : CJ c P e Ca := by
  obtain ⟨t, p, r⟩ := h.ex
  exact ⟨t, fun X h => (p X h).pt, r⟩
theorem cj_not (ha : CJ c P a Ca) : CJ c P (.UnaryOp .Not a pos) (cNotC Ca) := by
  obtain ⟨ta, pa, ra⟩ := ha.ex
  refine ⟨tNot ta, fun X h => pt_not (pa X h), fun r σ O H B Q fr q => ?_⟩
  refine ra r σ O H B _ fr ((PK.bind q).imp fun k r1 O1 H1 B1 f1 g1 q1 => ?_)
  exact PK.at (show PK _ _ _ _ _ _ _ (.ok _ _) from q1) f1
theorem ej_one {op : BoolOp} (ha : EJ c P a Fa) : EJ c P (.BoolOp op [a] pos) Fa := by
  obtain ⟨ta, pa, ra⟩ := ha.ex
  exact ⟨ta, fun X h => pe_one (pa X h), ra⟩
theorem ej_and (ha : EJ c P a Fa) (hb : EJ c P (.BoolOp .And (b :: rest) pos) Fb) : EJ c P (.BoolOp .And (a :: b :: rest) pos) (cAndV Fa Fb) := by
  obtain ⟨ta, pa, ra⟩ := ha.ex
  obtain ⟨tb, pb, rb⟩ := hb.ex
  refine ⟨tAndV ta tb, fun X h => pe_and (pa X h) (pb X h), fun r σ O H B Q fr q => ?_⟩
  refine ra r σ O H B _ fr ((PK.bind q).imp fun t r1 O1 H1 B1 f1 g1 q1 v rv => ?_)
  cases t with
  | bl k =>
    cases rv.bl_inv
    refine ⟨k, rfl, ?_⟩
    cases k with
    | true => exact rb r1 σ O1 H1 B1 Q f1 q1
    | false => exact PK.at (show PK _ _ _ _ _ _ _ (.ok _ _) from q1) f1 _ (.bl false)
  | _ => exact (show False from q1).elim
theorem ej_or (ha : EJ c P a Fa) (hb : EJ c P (.BoolOp .Or (b :: rest) pos) Fb) : EJ c P (.BoolOp .Or (a :: b :: rest) pos) (cOrV Fa Fb) := by
  obtain ⟨ta, pa, ra⟩ := ha.ex
  obtain ⟨tb, pb, rb⟩ := hb.ex
  refine ⟨tOrV ta tb, fun X h => pe_or (pa X h) (pb X h), fun r σ O H B Q fr q => ?_⟩
  refine ra r σ O H B _ fr ((PK.bind q).imp fun t r1 O1 H1 B1 f1 g1 q1 v rv => ?_)
  cases t with
  | bl k =>
    cases rv.bl_inv
    refine ⟨k, rfl, ?_⟩
    cases k with
    | false => exact rb r1 σ O1 H1 B1 Q f1 q1
    | true => exact PK.at (show PK _ _ _ _ _ _ _ (.ok _ _) from q1) f1 _ (.bl true)
  | _ => exact (show False from q1).elim
theorem ej_not (ha : EJ c P a Fa) : EJ c P (.UnaryOp .Not a pos) (cNotV Fa) := by
  obtain ⟨ta, pa, ra⟩ := ha.ex
  refine ⟨tNotV ta, fun X h => pe_not (pa X h), fun r σ O H B Q fr q => ?_⟩
  refine ra r σ O H B _ fr ((PK.bind q).imp fun t r1 O1 H1 B1 f1 g1 q1 v rv => ?_)
  cases t with
  | bl k =>
    cases rv.bl_inv
    exact ⟨k, rfl, PK.at (show PK _ _ _ _ _ _ _ (.ok _ _) from q1) f1 _ (.bl _)⟩
  | _ => exact (show False from q1).elim
theorem ej_if (hc : CJ c P d Ca) (ha : EJ c P a Fa) (hb : EJ c P b Fb) : EJ c P (.IfExp d a b pos) (cIf Ca Fa Fb) := by
  obtain ⟨tc, pc, rc⟩ := hc.ex
  obtain ⟨ta, pa, ra⟩ := ha.ex
  obtain ⟨tb, pb, rb⟩ := hb.ex
  refine ⟨tIf tc ta tb, fun X h => pe_ifExp (pc X h) (pa X h) (pb X h), fun r σ O H B Q fr q => ?_⟩
  refine rc r σ O H B _ fr ((PK.bind q).imp fun k r1 O1 H1 B1 f1 g1 q1 => ?_)
  cases k with
  | true => exact ra r1 σ O1 H1 B1 Q f1 q1
  | false => exact rb r1 σ O1 H1 B1 Q f1 q1
end
end Tc

/-! Tc: statements. -/
namespace Tc
open PySem PySem.Spec L2

/-- where jumps go: does the def hand out new lists; what is owned behind break, behind continue -/
structure JT where
  fr : Bool
  pb : List Nat
  pc : List Nat
def RetOk (c : SC) (fr : Bool) (O : Addr → Prop) (H B : Hp) (v : V) (t : T) : Prop :=
  if fr = true then ∃ p vs ts, v = .ref p ∧ t = .lst ts ∧ O p ∧ (∀ g, c.G.g = some g → p ≠ g) ∧ H p = some (.lst vs) ∧ Reps c.K B vs ts else Rep c.K B v t
def SK (c : SC) (j : JT) (P' : List Nat) (O : Addr → Prop) (H B : Hp) (D : Ends) : So → Prop
  | .nx r => ∀ σ' O' H' B', Frm c.K c.G P' r σ' O' H' B' → Grow O H B O' H' B' → D.nx σ' H'
  | .bk r => ∀ σ' O' H' B', Frm c.K c.G j.pb r σ' O' H' B' → Grow O H B O' H' B' → D.bk σ' H'
  | .ct r => ∀ σ' O' H' B', Frm c.K c.G j.pc r σ' O' H' B' → Grow O H B O' H' B' → D.ct σ' H'
  | .rt t r => ∀ v σ' Pr O' H' B', Frm c.K c.G Pr r σ' O' H' B' → Grow O H B O' H' B' → RetOk c j.fr O' H' B' v t → D.rt v H'
  | .ex n w r => ∀ v d σ' Pr O' H' B', Frm c.K c.G Pr r σ' O' H' B' → Grow O H B O' H' B' → B' d = some (.xd [("value", v)]) → Rep c.K B' v w → c.W (.ref (He.ga c.K n)) (some d) σ' H'
  | .no => False
section
variable {c : SC} {j : JT} {P P' : List Nat} {σ : L2.St} {O O1 : Addr → Prop} {H B H1 B1 : Hp} {D : Ends} {x : So}
theorem SK.later (h : SK c j P' O H B D x) (g : Grow O H B O1 H1 B1) : SK c j P' O1 H1 B1 D x := by
  cases x with
  | nx r => exact fun σ' O' H' B' f g' => h σ' O' H' B' f (g.trans g')
  | bk r => exact fun σ' O' H' B' f g' => h σ' O' H' B' f (g.trans g')
  | ct r => exact fun σ' O' H' B' f g' => h σ' O' H' B' f (g.trans g')
  | rt t r => exact fun v σ' Pr O' H' B' f g' => h v σ' Pr O' H' B' f (g.trans g')
  | ex n w r => exact fun v d σ' Pr O' H' B' f g' => h v d σ' Pr O' H' B' f (g.trans g')
  | no => exact h
/-- an expression ahead of what follows -/
theorem SK.so {α : Type} {y : Out α} {G : α → Sl → So} (h : SK c j P' O H B D (y.so G)) : PK c P σ O H B (fun a r O1 H1 B1 => SK c j P' O1 H1 B1 D (G a r)) y := by
  cases y with
  | ok a r => exact fun O' H' B' f g => SK.later (show SK c j P' O H B D (G a r) from h) g
  | ex n w r => exact fun v d O' H' B' f g => h v d σ P O' H' B' f g
  | no => exact h
end

structure SJ (c : SC) (j : JT) (P P' : List Nat) (s : Stmt) (F : Sc) : Prop where
  ex : ∃ t : TS, (∀ X, c.Is X → PS X s t) ∧ ∀ r σ O H B D, Frm c.K c.G P r σ O H B → SK c j P' O H B D (F r) → t D σ H
structure BJ (c : SC) (j : JT) (P P' : List Nat) (s : List Stmt) (F : Sc) : Prop where
  ex : ∃ t : TS, (∀ X, c.Is X → PSs X s t) ∧ ∀ r σ O H B D, Frm c.K c.G P r σ O H B → SK c j P' O H B D (F r) → t D σ H

def cNx : Sc := fun r => .nx r
def cSeq (F G : Sc) : Sc := fun r => match F r with
  | .nx r1 => G r1
  | o => o
def cSet (i : Nat) (F : Ec) : Sc := fun r => (F r).so fun t r1 => .nx (r1.set i (some t))
def cDrop (F : Ec) : Sc := fun r => (F r).so fun _ r1 => .nx r1
def cRet (F : Ec) : Sc := fun r => (F r).so fun t r1 => .rt t r1
def cIfS (C : Cc) (F G : Sc) : Sc := fun r => (C r).so fun b r1 => if b = true then F r1 else G r1
def cBk : Sc := fun r => .bk r
def cCt : Sc := fun r => .ct r
def cNo : Sc := fun _ => .no
/-- x.append(e) -/
def cApnd (i : Nat) (F : Ec) : Sc := fun r => (F r).so fun t r1 => match r1[i]? with
  | some (some (.lst ts)) => if ts.length < 1000000 then .nx (r1.set i (some (.lst (ts ++ [t])))) else .no
  | _ => .no
/-- x[k] = e -/
def cPut (i : Nat) (E F : Ec) : Sc := fun r => (F r).so fun t r1 => (E r1).so fun k r2 => match r2[i]?, k with
  | some (some (.lst ts)), .int k => (match ixN ts.length k with
    | some n => .nx (r2.set i (some (.lst (ts.set n t))))
    | none => .no)
  | _, _ => .no

section
variable {c : SC} {j : JT} {P P1 P' : List Nat} {s : Stmt} {ss : List Stmt} {e a b : Expr} {F G : Sc} {E Ea Eb : Ec} {C : Cc} {pos : Pos} {K : PySem.W.Frag} {Gi : GI} {r : Sl} {σ : L2.St} {O : Addr → Prop} {H B : Hp}

theorem bj_nil : BJ c j P P [] cNx := ⟨tNext, fun X h => pss_nil, fun r σ O H B D f q => (show SK c j P O H B D (.nx r) from q) σ O H B f .refl⟩
theorem bj_cons (h1 : SJ c j P P1 s F) (h2 : BJ c j P1 P' ss G) : BJ c j P P' (s :: ss) (cSeq F G) := by
  obtain ⟨t, p, rd⟩ := h1.ex
  obtain ⟨u, pu, ru⟩ := h2.ex
  refine ⟨tSeq t u, fun X h => pss_cons (p X h) (pu X h), fun r σ O H B D f q => rd r σ O H B _ f ?_⟩
  unfold cSeq at q
  cases z : F r with
  | nx r1 =>
    rw [z] at q
    exact fun σ' O' H' B' f' g => ru r1 σ' O' H' B' D f' (SK.later q g)
  | _ => rw [z] at q; exact q
theorem bj_one (h1 : SJ c j P P' s F) : BJ c j P P' [s] F := by
  obtain ⟨t, p, rd⟩ := h1.ex
  exact ⟨t, fun X h => pss_one (p X h), rd⟩

/-! ### what is owned is given to the view -/
theorem Frm.frz (f : Frm K Gi P r σ O H B) (hs : ∀ i ∈ P', i ∈ P) (hg : Gi.g = none ∨ 0 ∈ P') : ∃ O' B', Frm K Gi P' r σ O' H B' ∧ Grow O H B O' H B' := by
  classical
  let A : Addr → Prop := fun a => ∃ i, i ∈ P ∧ i ∉ P' ∧ σ[i]? = some (some (.ref a))
  have hA : ∀ a, A a → O a := fun a ⟨i, h1, _, h3⟩ => by
    obtain ⟨p, vs, ts, _, h4, h5, _, _⟩ := f.prv i h1
    rw [h3] at h4
    have e : a = p := V.ref.inj (Option.some.inj (Option.some.inj h4))
    rw [e]; exact h5
  let B' : Hp := fun a => if A a then H a else B a
  have sm : Same B B' := fun a o e => by
    show (if A a then H a else B a) = some o
    by_cases h : A a
    · have := f.out a (hA a h); rw [e] at this; cases this
    · rw [if_neg h]; exact e
  have inB : ∀ a, A a → B' a = H a := fun a h => if_pos h
  refine ⟨fun a => O a ∧ ¬ A a, B', ⟨fun a o e => ?_, fun a h => ?_, fun a h => f.liv a h.1, fun i t e n => ?_, fun i hi => ?_, fun i k p hi hk => f.sep i k p (hs i hi) (hs k hk), f.len, f.siz, fun g e => ?_, ?_⟩, sm, fun a o e => ?_, fun _ _ e _ => .inl e, fun a h => .inl h.1⟩
  · have e' : (if A a then H a else B a) = some o := e
    by_cases h : A a
    · rw [if_pos h] at e'; exact e'
    · rw [if_neg h] at e'; exact f.sub _ _ e'
  · show (if A a then H a else B a) = none
    rw [if_neg h.2]; exact f.out a h.1
  · by_cases hi : i ∈ P
    · obtain ⟨p, vs, ts, h1, h2, h3, h4, h5⟩ := f.prv i hi
      rw [h1] at e
      cases e
      exact ⟨_, h2, .lst (.of (by rw [inB p ⟨i, hi, n, h2⟩]; exact h4)) (h5.mono sm)⟩
    · obtain ⟨v, h1, h2⟩ := f.var i t e hi
      exact ⟨v, h1, h2.mono sm⟩
  · obtain ⟨p, vs, ts, h1, h2, h3, h4, h5⟩ := f.prv i (hs i hi)
    refine ⟨p, vs, ts, h1, h2, ⟨h3, fun ⟨k, k1, k2, k3⟩ => ?_⟩, h4, h5.mono sm⟩
    exact k2 (f.sep i k p (hs i hi) k1 h2 k3 ▸ hi)
  · refine ⟨?_, (f.inn g e).2⟩
    rcases hg with z | z
    · rw [z] at e; cases e
    · exact z
  · intro p hp
    obtain ⟨t1, t2, t3⟩ := f.tab p hp
    have nA : ¬ A p.1 := fun z => t3 (hA _ z)
    exact ⟨t1.step (fun _ e => e) sm, by show (if A p.1 then H p.1 else B p.1) = none; rw [if_neg nA]; exact t2, fun z => t3 z.1⟩
  · have e' : (if A a then H a else B a) = some o := e
    by_cases h : A a
    · exact .inr (.inr (hA a h))
    · rw [if_neg h] at e'; exact .inl e'
/-- ahead of a block: lists that are no more changed are given to the view -/
theorem bj_frz (P1 : List Nat) (h : BJ c j P1 P' ss F) (hs : ∀ i ∈ P1, i ∈ P := by decide) (hg : c.G.g = none ∨ 0 ∈ P1 := by first | exact Or.inl rfl | exact Or.inr (by decide)) : BJ c j P P' ss F := by
  obtain ⟨t, p, rd⟩ := h.ex
  refine ⟨t, p, fun r σ O H B D f q => ?_⟩
  obtain ⟨O', B', f', g⟩ := f.frz hs hg
  exact rd r σ O' H B' D f' (q.later g)
theorem sj_frz (P1 : List Nat) (h : SJ c j P1 P' s F) (hs : ∀ i ∈ P1, i ∈ P := by decide) (hg : c.G.g = none ∨ 0 ∈ P1 := by first | exact Or.inl rfl | exact Or.inr (by decide)) : SJ c j P P' s F := by
  obtain ⟨t, p, rd⟩ := h.ex
  refine ⟨t, p, fun r σ O H B D f q => ?_⟩
  obtain ⟨O', B', f', g⟩ := f.frz hs hg
  exact rd r σ O' H B' D f' (q.later g)
/-- .. behind it -/
theorem bj_frzE (P1 : List Nat) (h : BJ c j P P1 ss F) (hs : ∀ i ∈ P', i ∈ P1 := by decide) (hg : c.G.g = none ∨ 0 ∈ P' := by first | exact Or.inl rfl | exact Or.inr (by decide)) : BJ c j P P' ss F := by
  obtain ⟨t, p, rd⟩ := h.ex
  refine ⟨t, p, fun r σ O H B D f q => rd r σ O H B D f ?_⟩
  cases z : F r with
  | nx r1 =>
    rw [z] at q
    intro σ' O' H' B' f' g
    obtain ⟨O2, B2, f2, g2⟩ := f'.frz hs hg
    exact q σ' O2 H' B2 f2 (g.trans g2)
  | _ => rw [z] at q; exact q
theorem sj_frzE (P1 : List Nat) (h : SJ c j P P1 s F) (hs : ∀ i ∈ P', i ∈ P1 := by decide) (hg : c.G.g = none ∨ 0 ∈ P' := by first | exact Or.inl rfl | exact Or.inr (by decide)) : SJ c j P P' s F := by
  obtain ⟨t, p, rd⟩ := h.ex
  refine ⟨t, p, fun r σ O H B D f q => rd r σ O H B D f ?_⟩
  cases z : F r with
  | nx r1 =>
    rw [z] at q
    intro σ' O' H' B' f' g
    obtain ⟨O2, B2, f2, g2⟩ := f'.frz hs hg
    exact q σ' O2 H' B2 f2 (g.trans g2)
  | _ => rw [z] at q; exact q

/-! ### stores -/
theorem Frm.set (f : Frm K Gi P r σ O H B) {i : Nat} {v : V} {t : T} (hv : Rep K B v t) (hi : i ∉ P') (h1 : ∀ k ∈ P', k ∈ P) (h2 : ∀ k ∈ P, k = i ∨ k ∈ P') (hg : Gi.g = none ∨ 0 ∈ P') : Frm K Gi P' (r.set i (some t)) (σ.set i (some v)) O H B := by
  refine ⟨f.sub, f.out, f.liv, fun k u e n => ?_, fun k hk => ?_, fun k m p hk hm e1 e2 => ?_, by rw [List.length_set, List.length_set]; exact f.len, by rw [List.length_set]; exact f.siz, fun g e => ?_, f.tab⟩
  · by_cases hki : k = i
    · subst hki
      have hl : k < r.length := by
        have := (List.getElem?_eq_some_iff.mp e).1
        simpa using this
      rw [List.getElem?_set_self hl] at e
      cases e
      exact ⟨v, by rw [List.getElem?_set_self (by rw [← f.len]; exact hl)], hv⟩
    · rw [List.getElem?_set_ne (Ne.symm hki)] at e
      obtain ⟨w, e1, e2⟩ := f.var k u e fun z => (h2 k z).elim hki n
      exact ⟨w, by rw [List.getElem?_set_ne (Ne.symm hki)]; exact e1, e2⟩
  · have hki : i ≠ k := fun z => hi (z ▸ hk)
    obtain ⟨p, vs, ts, e1, e2, e3⟩ := f.prv k (h1 k hk)
    exact ⟨p, vs, ts, by rw [List.getElem?_set_ne hki]; exact e1, by rw [List.getElem?_set_ne hki]; exact e2, e3⟩
  · rw [List.getElem?_set_ne fun z : i = k => hi (z ▸ hk)] at e1
    rw [List.getElem?_set_ne fun z : i = m => hi (z ▸ hm)] at e2
    exact f.sep k m p (h1 k hk) (h1 m hm) e1 e2
  · rcases hg with z | z
    · rw [z] at e; cases e
    · refine ⟨z, ?_⟩
      rw [List.getElem?_set_ne fun y : i = 0 => hi (y ▸ z)]
      exact (f.inn g e).2
theorem Frm.setF (f : Frm K Gi P r σ O H B) {i p : Nat} {vs : List V} {ts : List T} (hi : i < r.length) (hO : O p) (hs : ∀ k ∈ P, σ[k]? ≠ some (some (.ref p))) (hp : H p = some (.lst vs)) (hr : Reps K B vs ts)
    (h0 : i ∈ P') (h1 : ∀ k ∈ P', k = i ∨ k ∈ P) (h2 : ∀ k ∈ P, k ∈ P') (hg : Gi.g = none ∨ i ≠ 0) : Frm K Gi P' (r.set i (some (.lst ts))) (σ.set i (some (.ref p))) O H B := by
  have hiσ : i < σ.length := by rw [← f.len]; exact hi
  refine ⟨f.sub, f.out, f.liv, fun k u e n => ?_, fun k hk => ?_, fun k m q hk hm e1 e2 => ?_, by rw [List.length_set, List.length_set]; exact f.len, by rw [List.length_set]; exact f.siz, fun g e => ?_, f.tab⟩
  · by_cases hki : k = i
    · subst hki
      exact absurd h0 n
    · rw [List.getElem?_set_ne (Ne.symm hki)] at e
      obtain ⟨w, e1, e2⟩ := f.var k u e fun z => n (h2 k z)
      exact ⟨w, by rw [List.getElem?_set_ne (Ne.symm hki)]; exact e1, e2⟩
  · by_cases hki : k = i
    · subst hki
      exact ⟨p, vs, ts, List.getElem?_set_self hi, List.getElem?_set_self hiσ, hO, hp, hr⟩
    · obtain ⟨q, vs, ts, e1, e2, e3⟩ := f.prv k ((h1 k hk).resolve_left hki)
      exact ⟨q, vs, ts, by rw [List.getElem?_set_ne (Ne.symm hki)]; exact e1, by rw [List.getElem?_set_ne (Ne.symm hki)]; exact e2, e3⟩
  · by_cases hki : k = i
    · by_cases hmi : m = i
      · rw [hki, hmi]
      · subst hki
        rw [List.getElem?_set_self hiσ] at e1
        cases e1
        rw [List.getElem?_set_ne (Ne.symm hmi)] at e2
        exact absurd e2 (hs m ((h1 m hm).resolve_left hmi))
    · by_cases hmi : m = i
      · subst hmi
        rw [List.getElem?_set_self hiσ] at e2
        cases e2
        rw [List.getElem?_set_ne (Ne.symm hki)] at e1
        exact absurd e1 (hs k ((h1 k hk).resolve_left hki))
      · rw [List.getElem?_set_ne (Ne.symm hki)] at e1
        rw [List.getElem?_set_ne (Ne.symm hmi)] at e2
        exact f.sep k m q ((h1 k hk).resolve_left hki) ((h1 m hm).resolve_left hmi) e1 e2
  · rcases hg with z | z
    · rw [z] at e; cases e
    · refine ⟨h2 0 (f.inn g e).1, ?_⟩
      rw [List.getElem?_set_ne z]
      exact (f.inn g e).2
/-- another content of an owned list -/
theorem Frm.wr (f : Frm K Gi P r σ O H B) {i : Nat} {p : Addr} {vs vs' : List V} {ts : List T} (hi : i ∈ P) (hσ : σ[i]? = some (some (.ref p))) (hp : H p = some (.lst vs)) (hr : Reps K B vs' ts) :
    Frm K Gi P (r.set i (some (.lst ts))) σ O (upd H p (.lst vs')) B ∧ Grow O H B O (upd H p (.lst vs')) B := by
  obtain ⟨p', ws, us, e1, e2, e3, e4, e5⟩ := f.prv i hi
  rw [hσ] at e2
  cases e2
  have hl : i < r.length := (List.getElem?_eq_some_iff.mp e1).1
  have hB := f.out p e3
  refine ⟨⟨fun b u e => ?_, f.out, fun a h => ?_, fun k u e n => ?_, fun k hk => ?_, f.sep, by rw [List.length_set]; exact f.len, by rw [List.length_set]; exact f.siz, f.inn, f.tab.put (.inr ⟨_, e4⟩)⟩, .refl _, fun a o e => .inl e, fun a o e n => .inl ?_, fun a h => .inl h⟩
  · rw [upd_ne (ne_of_none e hB)]; exact f.sub _ _ e
  · by_cases h' : a = p
    · rw [h', upd_same]; exact fun z => nomatch z
    · rw [upd_ne h']; exact f.liv a h
  · have hki : k ≠ i := fun z => n (z ▸ hi)
    rw [List.getElem?_set_ne (Ne.symm hki)] at e
    exact f.var k u e n
  · by_cases hki : k = i
    · subst hki
      exact ⟨p, vs', ts, List.getElem?_set_self hl, hσ, e3, upd_same, hr⟩
    · obtain ⟨q, vs, ts, x1, x2, x3, x4, x5⟩ := f.prv k hk
      exact ⟨q, vs, ts, by rw [List.getElem?_set_ne (Ne.symm hki)]; exact x1, x2, x3, by rw [upd_ne fun z : q = p => hki (f.sep k i p hk hi (z ▸ x2) hσ)]; exact x4, x5⟩
  · rw [upd_ne fun z : a = p => n (z ▸ e3)]; exact e

theorem sj_set (i : Nat) {x : Str} {p1 : Pos} (he : EJ c P e E) (hN : c.N[i]? = some x := by rfl) (hx : Loc c.sc x := by first | exact Or.inl rfl | exact Or.inr rfl) (hst : c.st x = true := by rfl)
    (hs : ∀ env, swapsWith e (some (.Name x p1)) pos.line env = pure false := by intro _; rfl) (hi : i ∉ P' := by decide) (h1 : ∀ k ∈ P', k ∈ P := by decide) (h2 : ∀ k ∈ P, k = i ∨ k ∈ P' := by decide)
    (hg : c.G.g = none ∨ 0 ∈ P' := by first | exact Or.inl rfl | exact Or.inr (by decide)) : SJ c j P P' (.Assign [.Name x p1] e pos) (cSet i E) := by
  obtain ⟨t, p, rd⟩ := he.ex
  refine ⟨tAsg t (gName i), fun X h => ?_, fun r σ O H B D f q => rd r σ O H B _ f ((SK.so q).imp fun u r1 O1 H1 B1 f1 g1 q1 v rv => ?_)⟩
  · have hl : Loc X.env.scope x := by rw [h.sc]; exact hx
    exact ps_set (by rw [h.N]; exact h.nd) (by rw [h.N]; exact hN) hl (p X h) (hs _) (h.fn x hst hl)
  · exact (show SK c j P' O1 H1 B1 D (.nx _) from q1) _ O1 H1 B1 (f1.set rv hi h1 h2 hg) .refl
theorem sj_setF (i : Nat) {x : Str} {p1 : Pos} (he : FJ c P e E) (hlen : Nat.ble (i + 1) c.G.n = true := by rfl) (hN : c.N[i]? = some x := by rfl) (hx : Loc c.sc x := by first | exact Or.inl rfl | exact Or.inr rfl) (hst : c.st x = true := by rfl)
    (hs : ∀ env, swapsWith e (some (.Name x p1)) pos.line env = pure false := by intro _; rfl) (h0 : i ∈ P' := by decide) (h1 : ∀ k ∈ P', k = i ∨ k ∈ P := by decide) (h2 : ∀ k ∈ P, k ∈ P' := by decide)
    (hg : c.G.g = none ∨ i ≠ 0 := by first | exact Or.inl rfl | exact Or.inr (by decide)) : SJ c j P P' (.Assign [.Name x p1] e pos) (cSet i E) := by
  obtain ⟨t, p, rd⟩ := he.ex
  refine ⟨tAsg t (gName i), fun X h => ?_, fun r σ O H B D f q => rd r σ O H B _ f ?_⟩
  · have hl : Loc X.env.scope x := by rw [h.sc]; exact hx
    exact ps_set (by rw [h.N]; exact h.nd) (by rw [h.N]; exact hN) hl (p X h) (hs _) (h.fn x hst hl)
  · have q := SK.so (P := P) (σ := σ) q
    cases z : E r with
    | ok u r1 =>
      rw [z] at q
      intro O1 H1 B1 f1 g1 pp vs ts e hO hs hp rp
      subst e
      exact (show SK c j P' O1 H1 B1 D (.nx _) from q O1 H1 B1 f1 g1) _ O1 H1 B1 (f1.setF (by rw [f1.siz]; exact Nat.le_of_ble_eq_true hlen) hO hs hp rp h0 h1 h2 hg) .refl
    | ex n w r1 => rw [z] at q; exact q
    | no => rw [z] at q; exact q
theorem sj_drop (he : EJ c P e E) (hs : ∀ env, swapsWith e none pos.line env = pure false := by intro _; rfl) : SJ c j P P (.Expr e pos) (cDrop E) := by
  obtain ⟨t, p, rd⟩ := he.ex
  refine ⟨tDrop t, fun X h => ps_expr (p X h) (hs _), fun r σ O H B D f q => rd r σ O H B _ f ((SK.so q).imp fun u r1 O1 H1 B1 f1 g1 q1 v rv => ?_)⟩
  exact (show SK c j P O1 H1 B1 D (.nx _) from q1) _ O1 H1 B1 f1 .refl
theorem sj_pass : SJ c j P P (.Pass pos) cNx := ⟨tNext, fun X h => ps_pass, fun r σ O H B D f q => (show SK c j P O H B D (.nx r) from q) σ O H B f .refl⟩
theorem sj_break (hb : P = j.pb := by rfl) : SJ c j P P' (.Break pos) cBk := ⟨tBreak, fun X h => ps_break, fun r σ O H B D f q => (show SK c j P' O H B D (.bk r) from q) σ O H B (hb ▸ f) .refl⟩
theorem sj_cont (hb : P = j.pc := by rfl) : SJ c j P P' (.Continue pos) cCt := ⟨tCont, fun X h => ps_continue, fun r σ O H B D f q => (show SK c j P' O H B D (.ct r) from q) σ O H B (hb ▸ f) .refl⟩
theorem sj_ret (he : EJ c P e E) (hf : j.fr = false := by rfl) : SJ c j P P' (.Return (some e) pos) (cRet E) := by
  obtain ⟨t, p, rd⟩ := he.ex
  refine ⟨tRet t, fun X h => ps_ret (p X h), fun r σ O H B D f q => rd r σ O H B _ f ((SK.so q).imp fun u r1 O1 H1 B1 f1 g1 q1 v rv => ?_)⟩
  refine (show SK c j P' O1 H1 B1 D (.rt _ _) from q1) v σ P O1 H1 B1 f1 .refl ?_
  unfold RetOk
  rw [hf, if_neg Bool.false_ne_true]
  exact rv
theorem sj_retF (he : FJ c P e E) (hf : j.fr = true := by rfl) : SJ c j P P' (.Return (some e) pos) (cRet E) := by
  obtain ⟨t, p, rd⟩ := he.ex
  refine ⟨tRet t, fun X h => ps_ret (p X h), fun r σ O H B D f q => rd r σ O H B _ f ((SK.so q).imp fun u r1 O1 H1 B1 f1 g1 q1 pp vs ts e hO hs hp rp => ?_)⟩
  refine (show SK c j P' O1 H1 B1 D (.rt _ _) from q1) (.ref pp) σ P O1 H1 B1 f1 .refl ?_
  unfold RetOk
  rw [if_pos hf]
  refine ⟨pp, vs, ts, rfl, e, hO, fun g hg z => ?_, hp, rp⟩
  obtain ⟨k0, k1⟩ := f1.inn g hg
  exact hs 0 k0 (by rw [k1, z])
/-- return x, x owned -/
theorem sj_retP (i : Nat) {x : Str} {p1 : Pos} (hf : j.fr = true := by rfl) (hN : c.N[i]? = some x := by rfl) (hv : Vis c.sc x := by first | exact Or.inl rfl | exact Or.inr (Or.inl rfl)) (hi : i ∈ P := by decide) (hg : c.G.g = none ∨ i ≠ 0 := by first | exact Or.inl rfl | exact Or.inr (by decide))
    (hd : (x == ("__debug__" : Str)) = false := by decide) (hcd : (x == ("__classdict__" : Str)) = false := by decide) : SJ c j P P' (.Return (some (.Name x p1)) pos) (cRet (cVar i)) := by
  refine ⟨tRet (tVar i), fun X h => ps_ret (pe_var (by rw [h.N]; exact hN) (by rw [h.sc]; exact hv) hd hcd), fun r σ O H B D f q => ?_⟩
  obtain ⟨p, vs, ts, e1, e2, e3, e4, e5⟩ := f.prv i hi
  unfold cRet cVar at q
  rw [e1] at q
  refine ⟨_, e2, (show SK c j P' O H B D (.rt _ _) from q) (.ref p) σ P O H B f .refl ?_⟩
  unfold RetOk
  rw [if_pos hf]
  refine ⟨p, vs, ts, rfl, rfl, e3, fun g hg' z => ?_, e4, e5⟩
  rcases hg with hg | hg
  · rw [hg] at hg'; cases hg'
  · obtain ⟨k0, k1⟩ := f.inn g hg'
    subst z
    exact hg (f.sep i 0 p hi k0 e2 k1)
theorem sj_if (hc : CJ c P e C) (ha : BJ c j P P' ss F) {s2 : List Stmt} (hb : BJ c j P P' s2 G) : SJ c j P P' (.If e ss s2 pos) (cIfS C F G) := by
  obtain ⟨tc, pc, rc⟩ := hc.ex
  obtain ⟨ta, pa, ra⟩ := ha.ex
  obtain ⟨tb, pb, rb⟩ := hb.ex
  refine ⟨tIfS tc ta tb, fun X h => ps_if (pc X h) (pa X h) (pb X h), fun r σ O H B D f q => rc r σ O H B _ f ((SK.so q).imp fun k r1 O1 H1 B1 f1 g1 q1 => ?_)⟩
  cases k with
  | true => exact ra r1 σ O1 H1 B1 D f1 q1
  | false => exact rb r1 σ O1 H1 B1 D f1 q1
/-- x.append(e), x owned -/
theorem sj_app (i : Nat) {x : Str} {p1 p2 p3 : Pos} (he : EJ c P e E) (hN : c.N[i]? = some x := by rfl) (hv : Vis c.sc x := by first | exact Or.inl rfl | exact Or.inr (Or.inl rfl) | exact Or.inr (Or.inr rfl)) (hi : i ∈ P := by decide)
    (hd : (x == ("__debug__" : Str)) = false := by decide) (hcd : (x == ("__classdict__" : Str)) = false := by decide)
    (hline : (p2.endLine == p3.line) = true := by rfl) (hst : ∀ env, starEach [e] env = [(false, eval e env)] := by intro _; rfl) : SJ c j P P (.Expr (.Call (.Attribute (.Name x p1) "append" p2) [e] [] p3) pos) (cApnd i E) := by
  obtain ⟨t, p, rd⟩ := he.ex
  refine ⟨tDrop (tBM c.K "list" rAppend (tVar i) (tCons t tNil)), fun X h => ?_, fun r σ O H B D f q => ?_⟩
  · have z := pe_bm (X := X) (cpos := p3) (apos := p2) PySem.F.plainAttrs_list PySem.F.slot_list_append PySem.F.type_list_append mt_append (pe_var (x := x) (i := i) (pos := p1) (by rw [h.N]; exact hN) (by rw [h.sc]; exact hv) hd hcd) (pa_cons (p X h) pa_nil (by rw [hst]; rfl)) rfl
      (by rw [hst]; rfl) hline (by rw [hst]; rfl) rfl
    rw [h.K] at z
    exact ps_expr z rfl
  · obtain ⟨pp, vs, ts, e1, e2, e3, e4, e5⟩ := f.prv i hi
    refine ⟨_, e2, .inl ⟨rfl, _, .inl (.inl e4)⟩, ?_⟩
    refine rd r σ O H B _ f ((SK.so q).imp fun u r1 O1 H1 B1 f1 g1 q1 v rv => ?_)
    obtain ⟨pp', vs', ts', x1, x2, x3, x4, x5⟩ := f1.prv i hi
    rw [e2] at x2
    cases x2
    simp only [x1] at q1
    by_cases hz : ts'.length < 1000000
    · rw [if_pos hz] at q1
      refine ⟨pp, vs', v, rfl, rfl, x4, by rw [x5.length]; exact Nat.lt_trans hz (by rw [sizeLine_eq]; decide), ?_⟩
      obtain ⟨f2, g2⟩ := f1.wr hi e2 x4 (x5.append (.cons rv .nil))
      exact (show SK c j P O1 H1 B1 D (.nx _) from q1) σ O1 _ B1 f2 g2
    · rw [if_neg hz] at q1; exact (show False from q1).elim
/-- x[k] = e, x owned -/
theorem sj_put (i : Nat) {x : Str} {k : Expr} {p1 p2 : Pos} (he : EJ c P e E) (hk : EJ c P k Ea) (hN : c.N[i]? = some x := by rfl) (hv : Vis c.sc x := by first | exact Or.inl rfl | exact Or.inr (Or.inl rfl) | exact Or.inr (Or.inr rfl)) (hi : i ∈ P := by decide)
    (hd : (x == ("__debug__" : Str)) = false := by decide) (hcd : (x == ("__classdict__" : Str)) = false := by decide)
    (ha : ∀ env v, assign (.Subscript (.Name x p1) k p2) env v = (do
      let ov ← holding [v] (eval (.Name x p1) env)
      let iv ← holding [v, ov] (eval k env)
      standAt p2
      holding [v, ov, iv] (setItem ov iv v)
      release [v, ov, iv] []) := by intro _ _; rfl)
    (hs1 : ∀ env, swapsWithSole [.Subscript (.Name x p1) k p2] e pos.line env = pure false := by intro _; rfl) (hs2 : ∀ env, swappedStores [.Subscript (.Name x p1) k p2] e env = pure none := by intro _; rfl)
    (hs3 : ∀ env, (assignEach [.Subscript (.Name x p1) k p2] env).map (·.2) = [assign (.Subscript (.Name x p1) k p2) env] := by intro _; rfl) : SJ c j P P (.Assign [.Subscript (.Name x p1) k p2] e pos) (cPut i Ea E) := by
  obtain ⟨t, p, rd⟩ := he.ex
  obtain ⟨tk, pk, rk⟩ := hk.ex
  refine ⟨tAsg t (gSub (tVar i) tk rSetL), fun X h => ?_, fun r σ O H B D f q => ?_⟩
  · exact ps_asg (p X h) (pg_sub (pe_var (x := x) (i := i) (pos := p1) (by rw [h.N]; exact hN) (by rw [h.sc]; exact hv) hd hcd) (pk X h) set_list (ha _)) (hs1 _) (hs2 _) (hs3 _)
  · refine rd r σ O H B _ f ((SK.so q).imp fun u r1 O1 H1 B1 f1 g1 q1 v rv => ?_)
    obtain ⟨pp, vs, ts, e1, e2, e3, e4, e5⟩ := f1.prv i hi
    refine ⟨_, e2, ?_⟩
    refine rk r1 σ O1 H1 B1 _ f1 ((SK.so q1).imp fun w r2 O2 H2 B2 f2 g2 q2 z rz => ?_)
    obtain ⟨pp', vs', ts', x1, x2, x3, x4, x5⟩ := f2.prv i hi
    rw [e2] at x2
    cases x2
    simp only [x1] at q2
    cases w with
    | int n =>
      simp only at q2
      cases hn : ixN ts'.length n with
      | none => rw [hn] at q2; exact (show False from q2).elim
      | some m =>
        rw [hn] at q2
        cases rz
        refine ⟨pp, vs', n, m, rfl, rfl, x4, by rw [x5.length]; exact hn, ?_⟩
        obtain ⟨f3, g3⟩ := f2.wr hi e2 x4 (x5.set m (rv.mono g2.bb))
        exact (show SK c j P O2 H2 B2 D (.nx _) from q2) σ O2 _ B2 f3 g3
    | _ => exact (show False from q2).elim
end
end Tc

/-! Tc: defs and their calls. -/
namespace Tc
open PySem PySem.Spec L2

/-- a def keeps a promise, where nothing is being shown by repr -/
structure FnG (P : Program) (w : World) (K : PySem.W.Frag) (mg : Str → Option Value) (base : Heap) (k : Nat) (f : Addr) (fd : FuncData) (ps : List Str) (sp : Sp) : Prop where
  len : ∀ vs H Q E, sp vs H Q E → vs.length = ps.length
  run : ∀ (A : Around) (outer : List Env) (s : Shared) (H : Hp) (args : Args) (us : List Value) (vs : List V) (Q : VK) (E : XK), Room k A → A.guards = some [] → Env0 P w K mg base A outer s H →
    BindsTo s fd args (ps.zip us) → Vals vs us → sp vs H Q E → codeAny (model P w) A (.call (.ref f) args) (CR (L2.CX P w) outer P w H s Q E) s
theorem FnG.mono {P : Program} {w : World} {K : PySem.W.Frag} {mg : Str → Option Value} {base : Heap} {i k : Nat} {f : Addr} {fd : FuncData} {ps : List Str} {sp : Sp} (F : FnG P w K mg base i f fd ps sp) (h : i ≤ k) : FnG P w K mg base k f fd ps sp :=
  ⟨F.len, fun A outer s H args us vs Q E hr => F.run A outer s H args us vs Q E (hr.mono h)⟩

/-! ### the promise that a mirror tells -/
/-- io: the first argument is a list that the def may change; g: where it stands -/
def ArgOk (K : PySem.W.Frag) (io : Bool) (g : Option Addr) (H B : Hp) (vs : List V) (ts : List T) : Prop :=
  match io with
  | true => ∃ p ws us vs' ts', g = some p ∧ vs = .ref p :: vs' ∧ ts = .lst us :: ts' ∧ B p = none ∧ H p = some (.lst ws) ∧ Reps K B ws us ∧ Reps K B vs' ts'
  | false => g = none ∧ Reps K B vs ts
def OutOk (K : PySem.W.Frag) (fr : Bool) (g : Option Addr) (O : Addr → Prop) (H B : Hp) (v : V) (t : T) : Prop :=
  match fr with
  | true => ∃ p vs ts, v = .ref p ∧ t = .lst ts ∧ O p ∧ (∀ q, g = some q → p ≠ q) ∧ H p = some (.lst vs) ∧ Reps K B vs ts
  | false => Rep K B v t
def ResK (Tb : TB) (K : PySem.W.Frag) (io fr : Bool) (g : Option Addr) (H B : Hp) (Q : VK) (E : XK) : Res → Prop
  | .ok t gs => ∀ v O' H' B', Same B' H' → (∀ a, O' a → B' a = none ∧ H' a ≠ none) → TabV Tb H' B' → Grow (fun a => g = some a) H B O' H' B' → (∀ p, g = some p → O' p ∧ ∃ ws us, gs = [.lst us] ∧ H' p = some (.lst ws) ∧ Reps K B' ws us) →
      OutOk K fr g O' H' B' v t → Q v H'
  | .ex n w => io = false ∧ ∀ v d O' H' B', Same B' H' → (∀ a, O' a → B' a = none ∧ H' a ≠ none) → TabV Tb H' B' → Grow (fun a => g = some a) H B O' H' B' → B' d = some (.xd [("value", v)]) → Rep K B' v w → E (.ref (He.ga K n)) (some d) H'
  | .no => False
def spX (Tb : TB) (K : PySem.W.Frag) (io fr : Bool) (n : Nat) (m : Fc) : Sp := fun vs H Q E => vs.length = n ∧ ∃ g B ts, Same B H ∧ TabF Tb (fun a => g = some a) H B ∧ ArgOk K io g H B vs ts ∧ ResK Tb K io fr g H B Q E (m ts)

/-- from a body to the def's mirror -/
def fnT (n : Nat) (F : Sc) : Fc := fun ts => match F (ts.map some ++ List.replicate (n - ts.length) none) with
  | .rt t _ => .ok t []
  | .nx _ => .ok .non []
  | .ex c w _ => .ex c w
  | _ => .no
def fnG (n : Nat) (F : Sc) : Fc := fun ts => match F (ts.map some ++ List.replicate (n - ts.length) none) with
  | .rt t r => (match r[0]? with
    | some (some (T.lst us)) => .ok t [.lst us]
    | _ => .no)
  | .nx r => (match r[0]? with
    | some (some (T.lst us)) => .ok .non [.lst us]
    | _ => .no)
  | _ => .no
def fnM (io : Bool) (n : Nat) (F : Sc) : Fc := match io with
  | true => fnG n F
  | false => fnT n F
def P0 (io : Bool) : List Nat := match io with
  | true => [0]
  | false => []

section
variable {P : Program} {w : World} {K : PySem.W.Frag} {mg : Str → Option Value} {base : Heap}
/-- the context of a body -/
def ctx (Tb : TB) (P : Program) (w : World) (K : PySem.W.Frag) (mg : Str → Option Value) (base : Heap) (N : List Str) (sc : Scope) (k : Nat) (W : WX) (g : Option Addr) (lc : Option (Str × Value)) : SC :=
  ⟨P, w, K, mg, base, N, sc, k, W, ⟨g, N.length, Tb⟩, fun _ => true, lc⟩

theorem reps_start {B : Hp} {n : Nat} {vs : List V} {ts : List T} (r : Reps K B vs ts) (i : Nat) (t : T) (e : (ts.map some ++ List.replicate n (none : Option T))[i]? = some (some t)) : ∃ v, (vs.map some ++ List.replicate n (none : Option V))[i]? = some (some v) ∧ Rep K B v t := by
  have hl := r.length
  by_cases h : i < ts.length
  · rw [List.getElem?_append_left (by simpa using h)] at e
    rw [List.getElem?_append_left (by rw [List.length_map, hl]; exact h)]
    · rw [List.getElem?_map] at e ⊢
      cases z : ts[i]? with
      | none => rw [z] at e; cases e
      | some u =>
        rw [z] at e
        have eu : u = t := Option.some.inj (Option.some.inj e)
        subst eu
        obtain ⟨v, h1, h2⟩ := r.get z
        exact ⟨v, by rw [h1]; rfl, h2⟩
  · rw [List.getElem?_append_right (by simpa using h)] at e
    have := List.mem_of_getElem? e
    have := (List.mem_replicate.mp this).2
    cases this

theorem FnG.of {x qual : Str} {params : Arguments} {body : List Stmt} {scope : Scope} {dvs : List V} {kws : List (Str × V)} {f : Addr} {fd : FuncData} {N ps : List Str} {k : Nat} {io fr : Bool} {F : Sc} {Tb : TB}
    (Fd : FunD K x qual params body scope dvs kws f fd) (S : FnScope N ps scope) (hio : io = true → 1 ≤ ps.length) {P' : List Nat} (h0 : io = true → 0 ∈ P')
    (hb : ∀ (E : XK) (g : Option Addr), (io = false → g = none) → BJ (ctx Tb P w K mg base N scope k (fun cls d _ H => E cls d H) g (some (qual ++ ".<locals>.", fd.code))) ⟨fr, [], []⟩ (P0 io) P' body F) (hfr : fr = true → ∀ r r', F r ≠ .nx r') :
    FnG P w K mg base (k + 1) f fd ps (spX Tb K io fr ps.length (fnM io N.length F)) := by
  refine ⟨fun vs H Q E h => h.1, fun A outer s H args us vs Q E hr hgd e0 hbt hv hsp => ?_⟩
  obtain ⟨oc, od, dV, kV, doc, pm, an, cdv, ct, osl, rfl, lk, hcd, _, _⟩ := Fd.ex
  obtain ⟨hl, g, B, ts, sB, tab, ha, hk⟩ := hsp
  have KX : K.In s.heap := e0.mod.kin.keeps fun b o e => (e0.bs b o e).1
  have lim : s.heap.NoLimit := e0.mod.nolimit.keeps fun b o e => (e0.bs b o e).1
  have hkind : ∀ y ∈ ps.zip us, scope.names.lookup y.1 = some .local ∨ (scope.names.lookup y.1 = some .cell ∧ ((cellsFrom (s.heap.objs.size + 1) scope.names []).lookup y.1).isSome = true) := fun y hy => by
    rcases S.par y.1 (List.of_mem_zip (a := y.1) (b := y.2) hy).1 with q | q
    · exact .inl q
    · exact .inr ⟨q, PySem.W.cellsFrom_some _ _ _ (.inl q)⟩
  refine codeAny_call_function hr.depth (KX _ _ lk) rfl S.co S.gen rfl (PySem.W.codeRec_of KX hcd) (hbt _ _ _ _ ?_)
  refine wpAny_newFunctionEnv_cells S.kind hkind fun env he s1 xx => ?_
  subst he
  refine ⟨lim.keeps xx.toInCall.keep, codeAny_func ?_⟩
  have hpl : ps.length ≤ N.length := by
    have := congrArg List.length S.pre
    rw [List.length_take] at this
    omega
  have hgio : io = false → g = none := fun z => by subst z; exact ha.1
  obtain ⟨t, pt, rt⟩ := (hb E g hgio).ex
  have I := inv_start (CX := L2.CX P w) (P := P) (w := w) (K := K) (mg := mg) (base := base) (qual := qual) (f := f) (cd := cdv) (E := E) S hr.hd e0 hl hv xx
  have isX : (ctx Tb P w K mg base N scope k (fun cls d _ H => E cls d H) g (some (qual ++ ".<locals>.", cdv))).Is (cxOf (L2.CX P w) P w K mg base N qual scope f cdv A outer s H E) := by
    refine ⟨rfl, rfl, rfl, rfl, rfl, rfl, S.nd, rfl, rfl, hr.deeper _, hgd, takes_of rfl rfl rfl rfl, passes_of rfl, fun _ _ _ => .inl rfl, fun p e => by cases e; exact ⟨rfl, rfl, rfl, rfl, rfl⟩⟩
  have tl : ts.length = ps.length := by
    cases io with
    | false => rw [← ha.2.length]; exact hl
    | true =>
      obtain ⟨p, ws, us', vs', ts', _, rfl, rfl, _, _, _, r2⟩ := ha
      rw [List.length_cons, ← r2.length]
      exact hl
  have hst : L2.start N vs = vs.map some ++ List.replicate (N.length - ts.length) none := by unfold L2.start; rw [hl, tl]
  have fr0 : Frm K ⟨g, N.length, Tb⟩ (P0 io) (ts.map some ++ List.replicate (N.length - ts.length) none) (L2.start N vs) (fun a => g = some a) H B := by
    have hlen : (ts.map some ++ List.replicate (N.length - ts.length) (none : Option T)).length = N.length := by
      rw [List.length_append, List.length_map, List.length_replicate]; omega
    have hlen2 : (L2.start N vs).length = N.length := by
      unfold L2.start
      rw [List.length_append, List.length_map, List.length_replicate]; omega
    cases io with
    | false =>
      obtain ⟨rfl, r⟩ := ha
      refine ⟨sB, (fun a h => nomatch h), (fun a h => nomatch h), fun i t e _ => ?_, (fun i h => nomatch h), (fun i _ _ h => nomatch h), by rw [hlen, hlen2], hlen, (fun g h => nomatch h), tab⟩
      rw [hst]
      exact reps_start r i t e
    | true =>
      obtain ⟨p, ws, us', vs', ts', rfl, rfl, rfl, hB, hp, r1, r2⟩ := ha
      have hm : ∀ i, i ∈ P0 true → i = 0 := fun i h => by simpa [P0] using h
      refine ⟨sB, fun a h => ?_, fun a h => ?_, fun i t e n => ?_, fun i h => ?_, fun i m _ h1 h2 _ _ => (hm i h1).trans (hm m h2).symm, by rw [hlen, hlen2], hlen, fun g h => ?_, tab⟩
      · cases h; exact hB
      · cases h; rw [hp]; exact fun z => nomatch z
      · rw [hst]
        cases i with
        | zero => exact absurd (by simp [P0]) n
        | succ i =>
          have e' : (ts'.map some ++ List.replicate (N.length - (T.lst us' :: ts').length) (none : Option T))[i]? = some (some t) := e
          exact reps_start r2 i t e'
      · cases hm i h
        exact ⟨p, ws, us', rfl, rfl, rfl, hp, r1⟩
      · cases h; exact ⟨by simp [P0], rfl⟩
  refine wpAny_mono ((pt _ isX).run [] s1 (L2.start N vs) H { nx := fun _ H' => Q .non H', rt := Q } I (rt _ _ _ _ _ _ fr0 ?_)) (fun fl s' hs => ?_) fun e s' hs => hs
  · -- what the mirror says is what is wanted
    cases io with
    | false =>
      obtain ⟨rfl, _⟩ := ha
      have hk' : ResK Tb K false fr none H B Q E (fnT N.length F ts) := hk
      unfold fnT at hk'
      cases z : F (ts.map some ++ List.replicate (N.length - ts.length) none) with
      | nx r =>
        rw [z] at hk'
        intro σ' O' H' B' f' g'
        refine hk' .non O' H' B' f'.sub (fun a h => ⟨f'.out a h, f'.liv a h⟩) f'.tab.tabs ⟨g'.bb, g'.nb, g'.hh, g'.oo⟩ (fun p h => nomatch h) ?_
        cases fr with
        | true => exact absurd z (hfr rfl _ _)
        | false => exact .non
      | rt t r =>
        rw [z] at hk'
        intro v σ' Pr O' H' B' f' g' ro
        refine hk' v O' H' B' f'.sub (fun a h => ⟨f'.out a h, f'.liv a h⟩) f'.tab.tabs ⟨g'.bb, g'.nb, g'.hh, g'.oo⟩ (fun p h => nomatch h) ?_
        cases fr with
        | true => exact ro
        | false => exact ro
      | ex n w r =>
        rw [z] at hk'
        intro v d σ' Pr O' H' B' f' g' hd rv
        exact hk'.2 v d O' H' B' f'.sub (fun a h => ⟨f'.out a h, f'.liv a h⟩) f'.tab.tabs ⟨g'.bb, g'.nb, g'.hh, g'.oo⟩ hd rv
      | bk r => rw [z] at hk'; exact (show False from hk').elim
      | ct r => rw [z] at hk'; exact (show False from hk').elim
      | no => rw [z] at hk'; exact (show False from hk').elim
    | true =>
      obtain ⟨p, ws, us', vs', ts', rfl, rfl, rfl, hB, hp, r1, r2⟩ := ha
      have hk' : ResK Tb K true fr (some p) H B Q E (fnG N.length F (.lst us' :: ts')) := hk
      unfold fnG at hk'
      -- the lent list at the end
      have lent : ∀ {Pr r σ' O' H' B'}, Frm K ⟨some p, N.length, Tb⟩ Pr r σ' O' H' B' → O' p ∧ ∃ ws us, r[0]? = some (some (.lst us)) ∧ H' p = some (.lst ws) ∧ Reps K B' ws us := fun {Pr r σ' O' H' B'} f' => by
        obtain ⟨k0, k1⟩ := f'.inn p rfl
        obtain ⟨q, vs, ts, e1, e2, e3, e4, e5⟩ := f'.prv 0 k0
        rw [k1] at e2
        cases e2
        exact ⟨e3, vs, ts, e1, e4, e5⟩
      cases z : F ((T.lst us' :: ts').map some ++ List.replicate (N.length - (T.lst us' :: ts').length) none) with
      | nx r =>
        rw [z] at hk'
        intro σ' O' H' B' f' g'
        obtain ⟨l1, ws', us2, l2, l3, l4⟩ := lent f'
        simp only [l2] at hk'
        refine hk' .non O' H' B' f'.sub (fun a h => ⟨f'.out a h, f'.liv a h⟩) f'.tab.tabs ⟨g'.bb, g'.nb, g'.hh, g'.oo⟩ (fun q h => by cases h; exact ⟨l1, ws', us2, rfl, l3, l4⟩) ?_
        cases fr with
        | true => exact absurd z (hfr rfl _ _)
        | false => exact .non
      | rt t r =>
        rw [z] at hk'
        intro v σ' Pr O' H' B' f' g' ro
        obtain ⟨l1, ws', us2, l2, l3, l4⟩ := lent f'
        simp only [l2] at hk'
        refine hk' v O' H' B' f'.sub (fun a h => ⟨f'.out a h, f'.liv a h⟩) f'.tab.tabs ⟨g'.bb, g'.nb, g'.hh, g'.oo⟩ (fun q h => by cases h; exact ⟨l1, ws', us2, rfl, l3, l4⟩) ?_
        cases fr with
        | true => exact ro
        | false => exact ro
      | ex n w r => rw [z] at hk'; exact (show False from hk').elim
      | bk r => rw [z] at hk'; exact (show False from hk').elim
      | ct r => rw [z] at hk'; exact (show False from hk').elim
      | no => rw [z] at hk'; exact (show False from hk').elim
  · have fin : ∀ {σ' : L2.St} {H' : Hp} {v : V} {u : Value}, Inv (cxOf (L2.CX P w) P w K mg base N qual scope f cdv A outer s H E) [] σ' H' s' → RelV v u → Q v H' → CE outer P w H s Q u s' :=
      fun {σ' H' v u} J rv q => ⟨v, H', J.os, J.bare, J.base, J.hok, rv, q⟩
    cases fl with
    | ret u =>
      obtain ⟨v, σ', H', J, rv, q⟩ := hs
      exact fin J rv q
    | next =>
      obtain ⟨σ', H', J, q⟩ := hs
      exact fin (v := V.non) (u := Value.none) J rfl q
    | brk =>
      obtain ⟨_, _, _, q⟩ := hs
      exact False.elim q
    | cont =>
      obtain ⟨_, _, _, q⟩ := hs
      exact False.elim q
end

/-! ### calls -/
section
variable {X : Cx} {k : Nat} {f : Addr} {fd : FuncData} {ps : List Str} {sp : Sp} {x : Str} {p pos : Pos} {e : Expr} {es : List Expr} {t : TA} {W : WX}
def tCallG (sp : Sp) (W : WX) (t : TA) : TE := fun σ H Q => t σ H fun vs H1 => sp vs H1 Q fun cls d H' => W cls d σ H'
theorem run_fnG {pins : List (Addr × Obj)} {σ : L2.St} {H : Hp} {s : Shared} {Q : VK} {us : List Value} {vs : List V} {args : Args} (F : FnG X.prog X.w X.K X.mg X.base k f fd ps sp) (hr : Room k X.A) (hg : X.A.guards = some []) (tk : Takes X W)
    (hb : BindsTo s fd args (ps.zip us)) (I : Inv X pins σ H s) (r : Vals vs us) (h : sp vs H Q fun cls d H' => W cls d σ H') : wpAny (model X.prog X.w) X.A (call (.ref f) args.pos args.kw) (EP X pins σ Q) X.xe s := by
  refine wpAny_call (codeAny_mono (F.run X.A X.stack s H args us vs Q _ hr hg I.env0 hb r h) fun r s' hq => ?_)
  cases r with
  | error e => exact tk e s' (XE.of_call I (fun cls d H' h => h) hq)
  | ok fl =>
    cases fl with
    | ret u => exact I.after hq
    | next => exact False.elim hq
    | brk => exact False.elim hq
    | cont => exact False.elim hq
theorem pe_callG (F : FnG X.prog X.w X.K X.mg X.base k f fd ps sp) (hr : Room k X.A) (hgd : X.A.guards = some []) (tk : Takes X W) (hg : Gl X x) (hm : X.mg x = some (.ref f)) (hk : PySem.W.keepIn X.K (.ref f) = true) (hb : Binds X.K fd ps [])
    (ha : PA X (e :: es) t) (hdb : (x == ("__debug__" : Str)) = false) (he : starEach (e :: es) X.env = (false, eval e X.env) :: starEach es X.env) (hpl : (backTo pos (starEach es X.env)).any (·.1) = false) :
    PE X (.Call (.Name x p) (e :: es) [] pos) (tCallG sp W t) := by
  refine ⟨fun pins s σ H Q I h => ?_⟩
  refine wpAny_Call_Name_kw (ld_glob I hg hm ?_ hdb)
  refine PySem.W.callWith_K (h₀ := X.base) I.ok.mod.kin hk (thn (ha.run pos pins s σ H _ I h) fun us s1 ⟨vs, H1, I1, r, q⟩ => ⟨I1.kIn, ?_⟩) he hpl
  have b := hb s1 us I1.kIn (by rw [List.append_nil, ← r.length]; exact F.len _ _ _ _ q)
  rw [List.append_nil] at b
  exact run_fnG (args := ⟨us, []⟩) F hr hgd tk b I1 r q
theorem pe_callG0 (F : FnG X.prog X.w X.K X.mg X.base k f fd ps sp) (hr : Room k X.A) (hgd : X.A.guards = some []) (tk : Takes X W) (hg : Gl X x) (hm : X.mg x = some (.ref f)) (hk : PySem.W.keepIn X.K (.ref f) = true) (hb : Binds X.K fd ps [])
    (hdb : (x == ("__debug__" : Str)) = false) : PE X (.Call (.Name x p) [] [] pos) (tCallG sp W tNil) := by
  refine ⟨fun pins s σ H Q I h => ?_⟩
  refine wpAny_Call_Name_kw (ld_glob I hg hm ?_ hdb)
  have b := hb s [] I.kIn (by
    have := F.len _ _ _ _ h
    simpa using this)
  exact PySem.W.callWith_K0 I.kIn hk (run_fnG (args := ⟨[], []⟩) F hr hgd tk b I .nil h)
/-- the values at these places -/
def pick {α : Type} (o : List Nat) (xs : List α) : List α := o.filterMap fun i => xs[i]?
theorem pick_vals {us : List Value} {vs : List V} (r : Vals vs us) : ∀ o : List Nat, Vals (pick o vs) (pick o us)
  | [] => .nil
  | i :: o => by
    have ih := pick_vals r o
    unfold pick at ih ⊢
    rw [List.filterMap_cons, List.filterMap_cons]
    cases e : vs[i]? with
    | none => rw [r.none_of e]; exact ih
    | some v =>
      obtain ⟨u, e2, rv⟩ := r.get e
      rw [e2]
      exact .cons rv ih
theorem pick_reps {K : PySem.W.Frag} {B : Hp} {vs : List V} {ts : List T} (r : Reps K B vs ts) : ∀ o : List Nat, Reps K B (pick o vs) (pick o ts)
  | [] => .nil
  | i :: o => by
    have ih := pick_reps r o
    unfold pick at ih ⊢
    rw [List.filterMap_cons, List.filterMap_cons]
    cases e : vs[i]? with
    | none =>
      have h : ts[i]? = none := List.getElem?_eq_none_iff.mpr (by rw [← r.length]; exact List.getElem?_eq_none_iff.mp e)
      rw [h]; exact ih
    | some v =>
      obtain ⟨t, e2, rv⟩ := r.getV e
      rw [e2]
      exact .cons rv ih
/-- how keywords alone are bound: parameter j takes the keyword's value at place o[j] -/
def KwOk (fd : FuncData) (ps ks : List Str) (o : List Nat) : Prop := ∀ ws : List Value, ws.length = ks.length → bindArgs fd ⟨[], ks.zip ws⟩ = pure (ps.zip (pick o ws))
def tCallKw (sp : Sp) (W : WX) (o : List Nat) (n : Nat) (tk : TA) : TE := fun σ H Q => tk σ H fun zs H2 => zs.length = n ∧ sp (pick o zs) H2 Q fun cls d H' => W cls d σ H'
theorem pe_callKw {ks : List Str} {o : List Nat} {kws : List Keyword} {tk : TA} (F : FnG X.prog X.w X.K X.mg X.base k f fd ps sp) (hr : Room k X.A) (hgd : X.A.guards = some []) (tke : Takes X W) (hg : Gl X x) (hm : X.mg x = some (.ref f)) (hk : PySem.W.keepIn X.K (.ref f) = true)
    (hb : KwOk fd ps ks o) (hkw : L2.PK X kws tk) (hall : (backToKw pos (keywordEach kws X.env)).all (·.1.isSome) = true) (hks : (backToKw pos (keywordEach kws X.env)).filterMap (·.1) = ks)
    (hdb : (x == ("__debug__" : Str)) = false) (hpl : ((backTo pos (starEach [] X.env)).any (·.1) || (backToKw pos (keywordEach kws X.env)).any (·.1.isNone)) = false) :
    PE X (.Call (.Name x p) [] kws pos) (tCallKw sp W o ks.length tk) := by
  refine ⟨fun pins s σ H Q I h => ?_⟩
  refine wpAny_Call_Name_kw (ld_glob I hg hm ?_ hdb)
  refine PySem.W.callWith_KW0 (h₀ := X.base) I.ok.mod.kin hk hall (thn (hkw.run pos pins s σ H _ I h) fun ws s2 ⟨zs, H2, I2, rz, l2, q2⟩ => ⟨I2.kIn, ?_⟩) hpl
  rw [hks]
  exact run_fnG (args := ⟨[], ks.zip ws⟩) (us := pick o ws) F hr hgd tke (.of_eq (hb ws (rz.length.symm.trans l2))) I2 (pick_vals rz o) q2
end

/-- a call's outcome -/
def cRes (r1 : Sl) : Res → Out T
  | .ok t _ => .ok t r1
  | .ex c w => .ex c w r1
  | .no => .no
def cCall (m : Fc) (a : Ac) : Ec := fun r => (a r).bind fun ts r1 => cRes r1 (m ts)
def cCallK (m : Fc) (o : List Nat) (a : Ac) : Ec := fun r => (a r).bind fun ts r1 => cRes r1 (m (pick o ts))
/-- .. where the list in slot i is lent -/
def cResG (i : Nat) (r1 : Sl) : Res → Out T
  | .ok t [.lst us] => .ok t (r1.set i (some (.lst us)))
  | _ => .no
def cCallG (m : Fc) (i : Nat) (a : Ac) : Ec := fun r => (a r).bind fun ts r1 => match r1[i]? with
  | some (some (.lst us)) => cResG i r1 (m (.lst us :: ts))
  | _ => .no

section
variable {c : SC} {P : List Nat} {σ : L2.St} {e : Expr} {es : List Expr} {F : Ec} {A : Ac} {pos p : Pos} {k : Nat} {f : Addr} {fd : FuncData} {ps : List Str} {x : Str} {m : Fc} {n : Nat} {r1 : Sl} {O : Addr → Prop} {H B : Hp} {Q : VK}

theorem Frm.back {K : PySem.W.Frag} {G : GI} {r : Sl} {O' : Addr → Prop} {H' B' : Hp} (f : Frm K G P r σ O H B) (sB : Same B' H') (tb : TabV G.T H' B') (gr : Grow (fun a => (none : Option Addr) = some a) H B O' H' B') :
    Frm K G P r σ O H' B' ∧ Grow O H B O H' B' := by
  have nb : ∀ a o, B' a = some o → B a = some o ∨ H a = none := fun a o e => (gr.nb a o e).elim .inl fun q => q.elim .inr (fun z => nomatch z)
  have g : Grow O H B O H' B' := ⟨gr.bb, fun a o e => (nb a o e).elim .inl fun n => .inr (.inl n), fun a o e _ => gr.hh a o e (fun z => nomatch z), fun _ h => .inl h⟩
  refine ⟨⟨sB, fun a h => ?_, fun a h => ?_, fun i t e n => ?_, fun i h => ?_, f.sep, f.len, f.siz, f.inn, f.tab.grow g tb⟩, g⟩
  · cases e : B' a with
    | none => rfl
    | some o =>
      rcases nb a o e with q | q
      · rw [f.out a h] at q; cases q
      · exact absurd q (f.liv a h)
  · cases e : H a with
    | none => exact absurd e (f.liv a h)
    | some o => exact (gr.hh a o e fun z => nomatch z).ne
  · obtain ⟨v, h1, h2⟩ := f.var i t e n
    exact ⟨v, h1, h2.mono gr.bb⟩
  · obtain ⟨q, vs, ts, h1, h2, h3, h4, h5⟩ := f.prv i h
    exact ⟨q, vs, ts, h1, h2, h3, (gr.hh _ _ h4 fun z => nomatch z).lst, h5.mono gr.bb⟩
/-- behind a call that changes nothing -/
theorem ResK.ok0 (f : Frm c.K c.G P r1 σ O H B) {R : Res} (h : PK c P σ O H B (GoodT c Q) (cRes r1 R)) : ResK c.G.T c.K false false none H B Q (fun cls d H' => c.W cls d σ H') R := by
  cases R with
  | ok t gs =>
    intro v O' H' B' sB _ tb gr _ ov
    obtain ⟨f2, g2⟩ := f.back sB tb gr
    exact (show PK c P σ O H B (GoodT c Q) (.ok t r1) from h) O H' B' f2 g2 v ov
  | ex n w =>
    refine ⟨rfl, fun v d O' H' B' sB _ tb gr hd rv => ?_⟩
    obtain ⟨f2, g2⟩ := f.back sB tb gr
    exact (show PK c P σ O H B (GoodT c Q) (.ex n w r1) from h) v d O H' B' f2 g2 hd rv
  | no => exact (show False from h).elim
theorem Frm.backF {K : PySem.W.Frag} {G : GI} {r : Sl} {O' : Addr → Prop} {H' B' : Hp} {q : Addr} (f : Frm K G P r σ O H B) (sB : Same B' H') (tb : TabV G.T H' B') (gr : Grow (fun a => (none : Option Addr) = some a) H B O' H' B') (hO : ∀ a, O' a → B' a = none ∧ H' a ≠ none) (hq : O' q) :
    Frm K G P r σ (fun a => O a ∨ a = q) H' B' ∧ Grow O H B (fun a => O a ∨ a = q) H' B' ∧ ∀ i ∈ P, σ[i]? ≠ some (some (.ref q)) := by
  obtain ⟨f2, g2⟩ := f.back sB tb gr
  have hn : H q = none := (gr.oo q hq).elim (fun z => nomatch z) fun z => z
  refine ⟨⟨f2.sub, fun a h => ?_, fun a h => ?_, f2.var, fun i hi => ?_, f2.sep, f2.len, f2.siz, f2.inn, f.tab.grow ⟨g2.bb, g2.nb, g2.hh, fun a h => h.elim .inl fun z => .inr (z ▸ hn)⟩ f2.tab.tabs⟩, ⟨g2.bb, g2.nb, g2.hh, fun a h => h.elim .inl fun z => .inr (z ▸ hn)⟩, fun i hi z => ?_⟩
  · rcases h with h | h
    · exact f2.out a h
    · subst h; exact (hO a hq).1
  · rcases h with h | h
    · exact f2.liv a h
    · subst h; exact (hO a hq).2
  · obtain ⟨p, ws, us, h1, h2, h3, h4, h5⟩ := f2.prv i hi
    exact ⟨p, ws, us, h1, h2, .inl h3, h4, h5⟩
  · obtain ⟨p, ws, us, h1, h2, h3, h4, h5⟩ := f.prv i hi
    rw [h2] at z
    cases z
    rw [hn] at h4; cases h4
theorem ResK.ok1 (f : Frm c.K c.G P r1 σ O H B) {R : Res} (h : PK c P σ O H B (GoodF c P σ Q) (cRes r1 R)) : ResK c.G.T c.K false true none H B Q (fun cls d H' => c.W cls d σ H') R := by
  cases R with
  | ok t gs =>
    intro v O' H' B' sB hO tb gr _ ov
    obtain ⟨q, vs, ts, rfl, et, hq, _, hp, rp⟩ := ov
    obtain ⟨f2, g2, n2⟩ := f.backF sB tb gr hO hq
    exact (show PK c P σ O H B (GoodF c P σ Q) (.ok t r1) from h) _ H' B' f2 g2 q vs ts et (.inr rfl) n2 hp rp
  | ex n w =>
    refine ⟨rfl, fun v d O' H' B' sB _ tb gr hd rv => ?_⟩
    obtain ⟨f2, g2⟩ := f.back sB tb gr
    exact (show PK c P σ O H B (GoodF c P σ Q) (.ex n w r1) from h) v d O H' B' f2 g2 hd rv
  | no => exact (show False from h).elim

/-- what a call asks of the text and the top -/
structure Callee (c : SC) (k : Nat) (x : Str) (f : Addr) (fd : FuncData) (ps : List Str) (io fr : Bool) (m : Fc) : Prop where
  fn : FnG c.prog c.w c.K c.mg c.base k f fd ps (spX c.G.T c.K io fr ps.length m)
  mg : c.mg x = some (.ref f)
  kp : PySem.W.keepIn c.K (.ref f) = true
  bd : Binds c.K fd ps []
theorem pe_callee {X : Cx} {io fr : Bool} {t : TA} (h : c.Is X) (C : Callee c k x f fd ps io fr m) (hk : k ≤ c.k) (hg : c.sc.names.lookup x = some .globalImplicit) (ha : PA X (e :: es) t) (hdb : (x == ("__debug__" : Str)) = false)
    (he : ∀ env, starEach (e :: es) env = (false, eval e env) :: starEach es env) (hpl : ∀ env, (backTo pos (starEach es env)).any (·.1) = false) : PE X (.Call (.Name x p) (e :: es) [] pos) (tCallG (spX c.G.T c.K io fr ps.length m) c.W t) := by
  have F := C.fn
  rw [← h.prog, ← h.w, ← h.mg, ← h.base] at F
  refine pe_callG (f := f) (fd := fd) (ps := ps) (k := k) ?_ (h.room.mono hk) h.grd h.tk (by show X.env.scope.names.lookup x = _; rw [h.sc]; exact hg) (by rw [h.mg]; exact C.mg) (by rw [h.K]; exact C.kp) (by rw [h.K]; exact C.bd) ha hdb (he _) (hpl _)
  rw [h.K]; exact F
theorem ej_call (C : Callee c k x f fd ps false false m) (ha : AJ c P (e :: es) A) (hk : Nat.ble k c.k = true := by rfl) (hg : c.sc.names.lookup x = some .globalImplicit := by rfl) (hdb : (x == ("__debug__" : Str)) = false := by decide)
    (he : ∀ env, starEach (e :: es) env = (false, eval e env) :: starEach es env := by intro _; rfl) (hpl : ∀ env, (backTo pos (starEach es env)).any (·.1) = false := by intro _; rfl) (hn : (e :: es).length = ps.length := by rfl) : EJ c P (.Call (.Name x p) (e :: es) [] pos) (cCall m A) := by
  obtain ⟨t, pt, rt⟩ := ha.ex
  refine ⟨tCallG (spX c.G.T c.K false false ps.length m) c.W t, fun X h => pe_callee h C (Nat.le_of_ble_eq_true hk) hg (pt X h) hdb he hpl, fun r σ O H B Q fr q => rt r σ O H B _ fr ((PK.bind q).impE fun ts r1 O1 H1 B1 hts f1 g1 q1 vs rv => ?_)⟩
  have hl : vs.length = ps.length := by rw [rv.length, ha.len _ _ _ hts, hn]
  exact ⟨hl, none, B1, ts, f1.sub, f1.tab.le (fun a h => nomatch h), ⟨rfl, rv⟩, ResK.ok0 f1 q1⟩
theorem fj_call (C : Callee c k x f fd ps false true m) (ha : AJ c P (e :: es) A) (hk : Nat.ble k c.k = true := by rfl) (hg : c.sc.names.lookup x = some .globalImplicit := by rfl) (hdb : (x == ("__debug__" : Str)) = false := by decide)
    (he : ∀ env, starEach (e :: es) env = (false, eval e env) :: starEach es env := by intro _; rfl) (hpl : ∀ env, (backTo pos (starEach es env)).any (·.1) = false := by intro _; rfl) (hn : (e :: es).length = ps.length := by rfl) : FJ c P (.Call (.Name x p) (e :: es) [] pos) (cCall m A) := by
  obtain ⟨t, pt, rt⟩ := ha.ex
  refine ⟨tCallG (spX c.G.T c.K false true ps.length m) c.W t, fun X h => pe_callee h C (Nat.le_of_ble_eq_true hk) hg (pt X h) hdb he hpl, fun r σ O H B Q fr q => rt r σ O H B _ fr ((PK.bind q).impE fun ts r1 O1 H1 B1 hts f1 g1 q1 vs rv => ?_)⟩
  have hl : vs.length = ps.length := by rw [rv.length, ha.len _ _ _ hts, hn]
  exact ⟨hl, none, B1, ts, f1.sub, f1.tab.le (fun a h => nomatch h), ⟨rfl, rv⟩, ResK.ok1 f1 q1⟩

/-! ### a list is lent -/
theorem Frm.backG {K : PySem.W.Frag} {G : GI} {r : Sl} {O' : Addr → Prop} {H' B' : Hp} {i : Nat} {g : Addr} {ws : List V} {us : List T} (f : Frm K G P r σ O H B) (hi : i ∈ P) (hσ : σ[i]? = some (some (.ref g))) (sB : Same B' H') (hO : ∀ a, O' a → B' a = none ∧ H' a ≠ none) (tb : TabV G.T H' B')
    (gr : Grow (fun a => some g = some a) H B O' H' B') (hg : O' g) (hp : H' g = some (.lst ws)) (hr : Reps K B' ws us) : Frm K G P (r.set i (some (.lst us))) σ O H' B' ∧ Grow O H B O H' B' := by
  obtain ⟨p', ws', us', e1, e2, e3, e4, e5⟩ := f.prv i hi
  rw [hσ] at e2
  cases e2
  have hl : i < r.length := (List.getElem?_eq_some_iff.mp e1).1
  have keep : ∀ a o, a ≠ g → H a = some o → Kp o (H' a) := fun a o n e => gr.hh a o e fun z => n (Option.some.inj z).symm
  have nb : ∀ a o, B' a = some o → B a = some o ∨ H a = none ∨ O a := fun a o e => by
    rcases gr.nb a o e with q | q | q
    · exact .inl q
    · exact .inr (.inl q)
    · cases q
      rw [(hO _ hg).1] at e; cases e
  have G : Grow O H B O H' B' := ⟨gr.bb, nb, fun a o e n => keep a o (fun z => n (z ▸ e3)) e, fun a h => .inl h⟩
  refine ⟨⟨sB, fun a h => ?_, fun a h => ?_, fun k u e n => ?_, fun k hk => ?_, f.sep, by rw [List.length_set]; exact f.len, by rw [List.length_set]; exact f.siz, f.inn, f.tab.grow G tb⟩, G⟩
  · cases e : B' a with
    | none => rfl
    | some o =>
      rcases gr.nb a o e with q | q | q
      · rw [f.out a h] at q; cases q
      · exact absurd q (f.liv a h)
      · cases q
        rw [(hO _ hg).1] at e; cases e
  · by_cases z : a = g
    · rw [z, hp]; exact fun z => nomatch z
    · cases e : H a with
      | none => exact absurd e (f.liv a h)
      | some o => exact (keep a o z e).ne
  · have hki : k ≠ i := fun z => n (z ▸ hi)
    rw [List.getElem?_set_ne (Ne.symm hki)] at e
    obtain ⟨v, h1, h2⟩ := f.var k u e n
    exact ⟨v, h1, h2.mono gr.bb⟩
  · by_cases hki : k = i
    · subst hki
      exact ⟨g, ws, us, List.getElem?_set_self hl, hσ, e3, hp, hr⟩
    · obtain ⟨q, vs, ts, x1, x2, x3, x4, x5⟩ := f.prv k hk
      exact ⟨q, vs, ts, by rw [List.getElem?_set_ne (Ne.symm hki)]; exact x1, x2, x3, (keep q _ (fun z : q = g => hki (f.sep k i g hk hi (z ▸ x2) hσ)) x4).lst, x5.mono gr.bb⟩
section
variable {i : Nat} {y : Str} {py : Pos}
theorem ej_callG (i : Nat) (C : Callee c k x f fd ps true false m) (ha : AJ c P es A) (hk : Nat.ble k c.k = true := by rfl) (hg : c.sc.names.lookup x = some .globalImplicit := by rfl) (hdb : (x == ("__debug__" : Str)) = false := by decide)
    (hN : c.N[i]? = some y := by rfl) (hv : Vis c.sc y := by first | exact Or.inl rfl | exact Or.inr (Or.inl rfl) | exact Or.inr (Or.inr rfl)) (hi : i ∈ P := by decide)
    (he : ∀ env, starEach (.Name y py :: es) env = (false, eval (.Name y py) env) :: starEach es env := by intro _; rfl) (hpl : ∀ env, (backTo pos (starEach es env)).any (·.1) = false := by intro _; rfl) (hn : es.length + 1 = ps.length := by rfl)
    (hyd : (y == ("__debug__" : Str)) = false := by decide) (hyc : (y == ("__classdict__" : Str)) = false := by decide) : EJ c P (.Call (.Name x p) (.Name y py :: es) [] pos) (cCallG m i A) := by
  obtain ⟨t, pt, rt⟩ := ha.ex
  refine ⟨tCallG (spX c.G.T c.K true false ps.length m) c.W (tCons (tVar i) t), fun X h => pe_callee h C (Nat.le_of_ble_eq_true hk) hg (pa_cons (pe_var (by rw [h.N]; exact hN) (by rw [h.sc]; exact hv) hyd hyc) (pt X h) (he _)) hdb he hpl, fun r σ O H B Q fr q => ?_⟩
  obtain ⟨g, ws, us, e1, e2, e3, e4, e5⟩ := fr.prv i hi
  refine ⟨.ref g, e2, rt r σ O H B _ fr ((PK.bind q).impE fun ts r1 O1 H1 B1 hts f1 g1 q1 vs rv => ?_)⟩
  obtain ⟨g', ws', us', x1, x2, x3, x4, x5⟩ := f1.prv i hi
  rw [e2] at x2
  cases x2
  simp only [x1] at q1
  refine ⟨by rw [List.length_cons, rv.length, ha.len _ _ _ hts, hn], some g, B1, .lst us' :: ts, f1.sub, f1.tab.le (fun a h => .inl (by cases h; exact x3)), ⟨g, ws', us', vs, ts, rfl, rfl, rfl, f1.out g x3, x4, x5, rv⟩, ?_⟩
  cases z : m (.lst us' :: ts) with
  | ok t gs =>
    intro v O' H' B' sB hO tb gr hg ov
    obtain ⟨h1, ws2, us2, rfl, h2, h3⟩ := hg g rfl
    rw [z] at q1
    obtain ⟨f2, g2⟩ := f1.backG hi e2 sB hO tb gr h1 h2 h3
    exact (show PK c P σ O1 H1 B1 (GoodT c Q) (.ok t (r1.set i (some (.lst us2)))) from q1) O1 H' B' f2 g2 v ov
  | ex n w => rw [z] at q1; exact (show False from q1).elim
  | no => rw [z] at q1; exact (show False from q1).elim
theorem fj_callG (i : Nat) (C : Callee c k x f fd ps true true m) (ha : AJ c P es A) (hk : Nat.ble k c.k = true := by rfl) (hg : c.sc.names.lookup x = some .globalImplicit := by rfl) (hdb : (x == ("__debug__" : Str)) = false := by decide)
    (hN : c.N[i]? = some y := by rfl) (hv : Vis c.sc y := by first | exact Or.inl rfl | exact Or.inr (Or.inl rfl) | exact Or.inr (Or.inr rfl)) (hi : i ∈ P := by decide)
    (he : ∀ env, starEach (.Name y py :: es) env = (false, eval (.Name y py) env) :: starEach es env := by intro _; rfl) (hpl : ∀ env, (backTo pos (starEach es env)).any (·.1) = false := by intro _; rfl) (hn : es.length + 1 = ps.length := by rfl)
    (hyd : (y == ("__debug__" : Str)) = false := by decide) (hyc : (y == ("__classdict__" : Str)) = false := by decide) : FJ c P (.Call (.Name x p) (.Name y py :: es) [] pos) (cCallG m i A) := by
  obtain ⟨t, pt, rt⟩ := ha.ex
  refine ⟨tCallG (spX c.G.T c.K true true ps.length m) c.W (tCons (tVar i) t), fun X h => pe_callee h C (Nat.le_of_ble_eq_true hk) hg (pa_cons (pe_var (by rw [h.N]; exact hN) (by rw [h.sc]; exact hv) hyd hyc) (pt X h) (he _)) hdb he hpl, fun r σ O H B Q fr q => ?_⟩
  obtain ⟨g, ws, us, e1, e2, e3, e4, e5⟩ := fr.prv i hi
  refine ⟨.ref g, e2, rt r σ O H B _ fr ((PK.bind q).impE fun ts r1 O1 H1 B1 hts f1 g1 q1 vs rv => ?_)⟩
  obtain ⟨g', ws', us', x1, x2, x3, x4, x5⟩ := f1.prv i hi
  rw [e2] at x2
  cases x2
  simp only [x1] at q1
  refine ⟨by rw [List.length_cons, rv.length, ha.len _ _ _ hts, hn], some g, B1, .lst us' :: ts, f1.sub, f1.tab.le (fun a h => .inl (by cases h; exact x3)), ⟨g, ws', us', vs, ts, rfl, rfl, rfl, f1.out g x3, x4, x5, rv⟩, ?_⟩
  cases z : m (.lst us' :: ts) with
  | ok t gs =>
    intro v O' H' B' sB hO tb gr hg ov
    obtain ⟨h1, ws2, us2, rfl, h2, h3⟩ := hg g rfl
    rw [z] at q1
    obtain ⟨f2, g2⟩ := f1.backG hi e2 sB hO tb gr h1 h2 h3
    obtain ⟨qq, vs3, ts3, rfl, et, hq, nq, hp, rp⟩ := ov
    have hne : qq ≠ g := nq g rfl
    have hn : H1 qq = none := (gr.oo qq hq).elim (fun z => absurd (Option.some.inj z).symm hne) fun z => z
    refine (show PK c P σ O1 H1 B1 (GoodF c P σ Q) (.ok t (r1.set i (some (.lst us2)))) from q1) (fun a => O1 a ∨ a = qq) H' B' ⟨f2.sub, fun a h => ?_, fun a h => ?_, f2.var, fun j hj => ?_, f2.sep, f2.len, f2.siz, f2.inn, f1.tab.grow ⟨g2.bb, g2.nb, g2.hh, fun a h => h.elim .inl fun z => .inr (z ▸ hn)⟩ f2.tab.tabs⟩ ⟨g2.bb, g2.nb, g2.hh, fun a h => h.elim .inl fun z => .inr (z ▸ hn)⟩ qq vs3 ts3 et (.inr rfl) (fun j hj z => ?_) hp rp
    · rcases h with h | h
      · exact f2.out a h
      · subst h; exact (hO a hq).1
    · rcases h with h | h
      · exact f2.liv a h
      · subst h; exact (hO a hq).2
    · obtain ⟨p, ws, us, h1, h2, h3, h4, h5⟩ := f2.prv j hj
      exact ⟨p, ws, us, h1, h2, .inl h3, h4, h5⟩
    · obtain ⟨p, ws, us, h1, h2, h3, h4, h5⟩ := f1.prv j hj
      rw [h2] at z
      cases z
      rw [hn] at h4; cases h4
  | ex n w => rw [z] at q1; exact (show False from q1).elim
  | no => rw [z] at q1; exact (show False from q1).elim
end

/-! ### keywords, no arguments -/
structure KJ (c : SC) (P : List Nat) (ks : List Keyword) (F : Ac) : Prop where
  ex : ∃ t : TA, (∀ X, c.Is X → L2.PK X ks t) ∧ ∀ r σ O H B Q, Frm c.K c.G P r σ O H B → PK c P σ O H B (GoodA c Q) (F r) → t σ H Q
  len : ∀ r ts r', F r = .ok ts r' → ts.length = ks.length
theorem kj_nil : KJ c P [] cNil := ⟨⟨tNil, fun X h => pk_nil, fun r σ O H B Q f q => PK.at (show PK _ _ _ _ _ _ _ (.ok _ _) from q) f _ .nil⟩, fun r ts r' e => by cases e; rfl⟩
theorem kj_cons {nm : Option Str} {kp : Pos} {ks : List Keyword} (ha : EJ c P e F) (hb : KJ c P ks A) : KJ c P (⟨nm, e, kp⟩ :: ks) (cCons F A) := by
  obtain ⟨ta, pa, ra⟩ := ha.ex
  obtain ⟨tb, pb, rb⟩ := hb.ex
  refine ⟨⟨tCons ta tb, fun X h => pk_cons (pa X h) (pb X h), fun r σ O H B Q f q => ?_⟩, fun r ts r' q => ?_⟩
  rotate_left
  · unfold cCons at q
    cases z : F r with
    | ok t r1 =>
      rw [z] at q
      cases y : A r1 with
      | ok us r2 =>
        simp only [Out.bind, y] at q
        cases q
        rw [List.length_cons, List.length_cons, hb.len _ _ _ y]
      | ex n w r2 => simp only [Out.bind, y] at q; cases q
      | no => simp only [Out.bind, y] at q; cases q
    | ex n w r1 => rw [z] at q; cases q
    | no => rw [z] at q; cases q
  refine ra r σ O H B _ f ((PK.bind q).imp fun t r1 O1 H1 B1 f1 g1 q1 v rv => ?_)
  refine rb r1 σ O1 H1 B1 _ f1 ((PK.bind q1).imp fun ts r2 O2 H2 B2 f2 g2 q2 vs rvs => ?_)
  exact PK.at (show PK _ _ _ _ _ _ _ (.ok _ _) from q2) f2 _ (.cons (rv.mono g2.bb) rvs)
theorem pick_len {α : Type} {o : List Nat} {xs : List α} (h : ∀ i ∈ o, i < xs.length) : (pick o xs).length = o.length := by
  induction o with
  | nil => rfl
  | cons i o ih =>
    have hi := h i (List.mem_cons_self ..)
    have e : pick (i :: o) xs = xs[i] :: pick o xs := by
      unfold pick
      rw [List.filterMap_cons, List.getElem?_eq_getElem hi]
    rw [e, List.length_cons, List.length_cons, ih fun j hj => h j (List.mem_cons_of_mem _ hj)]
theorem ej_callKw {ks : List Str} {kws : List Keyword} (o : List Nat) (C : Callee c k x f fd ps false false m) (ha : KJ c P kws A) (hb : KwOk fd ps ks o) (hk : Nat.ble k c.k = true := by rfl) (hg : c.sc.names.lookup x = some .globalImplicit := by rfl) (hdb : (x == ("__debug__" : Str)) = false := by decide)
    (hall : ∀ env, (backToKw pos (keywordEach kws env)).all (·.1.isSome) = true := by intro _; rfl) (hks : ∀ env, (backToKw pos (keywordEach kws env)).filterMap (·.1) = ks := by intro _; rfl)
    (hpl : ∀ env, ((backTo pos (starEach [] env)).any (·.1) || (backToKw pos (keywordEach kws env)).any (·.1.isNone)) = false := by intro _; rfl) (hn : kws.length = ks.length := by rfl) (ho : o.length = ps.length := by rfl) (hoi : ∀ i ∈ o, i < ks.length := by decide) :
    EJ c P (.Call (.Name x p) [] kws pos) (cCallK m o A) := by
  obtain ⟨t, pt, rt⟩ := ha.ex
  refine ⟨tCallKw (spX c.G.T c.K false false ps.length m) c.W o ks.length t, fun X h => ?_, fun r σ O H B Q fr q => rt r σ O H B _ fr ((PK.bind q).impE fun ts r1 O1 H1 B1 hts f1 g1 q1 vs rv => ?_)⟩
  · have F := C.fn
    rw [← h.prog, ← h.w, ← h.mg, ← h.base] at F
    refine pe_callKw (f := f) (fd := fd) (ps := ps) (k := k) ?_ (h.room.mono (Nat.le_of_ble_eq_true hk)) h.grd h.tk (by show X.env.scope.names.lookup x = _; rw [h.sc]; exact hg) (by rw [h.mg]; exact C.mg) (by rw [h.K]; exact C.kp) hb (pt X h) (hall _) (hks _) hdb (hpl _)
    rw [h.K]; exact F
  · have hl : vs.length = ks.length := by rw [rv.length, ha.len _ _ _ hts, hn]
    refine ⟨hl, ?_, none, B1, pick o ts, f1.sub, f1.tab.le (fun a h => nomatch h), ⟨rfl, pick_reps rv o⟩, ResK.ok0 f1 q1⟩
    rw [pick_len fun i hi => by rw [hl]; exact hoi i hi, ho]
theorem fj_callKw {ks : List Str} {kws : List Keyword} (o : List Nat) (C : Callee c k x f fd ps false true m) (ha : KJ c P kws A) (hb : KwOk fd ps ks o) (hk : Nat.ble k c.k = true := by rfl) (hg : c.sc.names.lookup x = some .globalImplicit := by rfl) (hdb : (x == ("__debug__" : Str)) = false := by decide)
    (hall : ∀ env, (backToKw pos (keywordEach kws env)).all (·.1.isSome) = true := by intro _; rfl) (hks : ∀ env, (backToKw pos (keywordEach kws env)).filterMap (·.1) = ks := by intro _; rfl)
    (hpl : ∀ env, ((backTo pos (starEach [] env)).any (·.1) || (backToKw pos (keywordEach kws env)).any (·.1.isNone)) = false := by intro _; rfl) (hn : kws.length = ks.length := by rfl) (ho : o.length = ps.length := by rfl) (hoi : ∀ i ∈ o, i < ks.length := by decide) :
    FJ c P (.Call (.Name x p) [] kws pos) (cCallK m o A) := by
  obtain ⟨t, pt, rt⟩ := ha.ex
  refine ⟨tCallKw (spX c.G.T c.K false true ps.length m) c.W o ks.length t, fun X h => ?_, fun r σ O H B Q fr q => rt r σ O H B _ fr ((PK.bind q).impE fun ts r1 O1 H1 B1 hts f1 g1 q1 vs rv => ?_)⟩
  · have F := C.fn
    rw [← h.prog, ← h.w, ← h.mg, ← h.base] at F
    refine pe_callKw (f := f) (fd := fd) (ps := ps) (k := k) ?_ (h.room.mono (Nat.le_of_ble_eq_true hk)) h.grd h.tk (by show X.env.scope.names.lookup x = _; rw [h.sc]; exact hg) (by rw [h.mg]; exact C.mg) (by rw [h.K]; exact C.kp) hb (pt X h) (hall _) (hks _) hdb (hpl _)
    rw [h.K]; exact F
  · have hl : vs.length = ks.length := by rw [rv.length, ha.len _ _ _ hts, hn]
    refine ⟨hl, ?_, none, B1, pick o ts, f1.sub, f1.tab.le (fun a h => nomatch h), ⟨rfl, pick_reps rv o⟩, ResK.ok1 f1 q1⟩
    rw [pick_len fun i hi => by rw [hl]; exact hoi i hi, ho]
theorem ej_call0 (C : Callee c k x f fd ps false false m) (hk : Nat.ble k c.k = true := by rfl) (hg : c.sc.names.lookup x = some .globalImplicit := by rfl) (hdb : (x == ("__debug__" : Str)) = false := by decide) (hn : 0 = ps.length := by rfl) : EJ c P (.Call (.Name x p) [] [] pos) (cCall m cNil) := by
  refine ⟨tCallG (spX c.G.T c.K false false ps.length m) c.W tNil, fun X h => ?_, fun r σ O H B Q fr q => ?_⟩
  · have F := C.fn
    rw [← h.prog, ← h.w, ← h.mg, ← h.base] at F
    refine pe_callG0 (f := f) (fd := fd) (ps := ps) (k := k) ?_ (h.room.mono (Nat.le_of_ble_eq_true hk)) h.grd h.tk (by show X.env.scope.names.lookup x = _; rw [h.sc]; exact hg) (by rw [h.mg]; exact C.mg) (by rw [h.K]; exact C.kp) (by rw [h.K]; exact C.bd) hdb
    rw [h.K]; exact F
  · exact ⟨hn, none, B, [], fr.sub, fr.tab.le (fun a h => nomatch h), ⟨rfl, .nil⟩, ResK.ok0 fr q⟩
end
end Tc

/-! Tc: loops, comprehensions. -/
namespace Tc
open PySem PySem.Spec L2

/-! ### targets -/
abbrev Gc := T → Sl → Option Sl
/-- ow: the slots that are stored -/
structure GJ (c : SC) (P ow : List Nat) (tg : Expr) (g : Gc) : Prop where
  ex : ∃ tv : TG, (∀ X, c.Is X → PG X tg tv) ∧ ∀ r σ O H B v t r' (Q : L2.St → Hp → Prop), Frm c.K c.G P r σ O H B → Rep c.K B v t → g t r = some r' → (∀ σ', Frm c.K c.G P r' σ' O H B → (∀ k, k ∉ ow → σ'[k]? = σ[k]?) → Q σ' H) → tv v σ H Q
structure GsJ (c : SC) (P ow : List Nat) (tgs : List Expr) (g : List T → Sl → Option Sl) : Prop where
  ex : ∃ tv : TGs, (∀ X, c.Is X → PGs X tgs tv) ∧ ∀ r σ O H B vs ts r' (Q : L2.St → Hp → Prop), Frm c.K c.G P r σ O H B → Reps c.K B vs ts → g ts r = some r' → (∀ σ', Frm c.K c.G P r' σ' O H B → (∀ k, k ∉ ow → σ'[k]? = σ[k]?) → Q σ' H) → tv vs σ H Q
def gSet (i : Nat) : Gc := fun t r => some (r.set i (some t))
def gNilT : List T → Sl → Option Sl := fun ts r => match ts with
  | [] => some r
  | _ => none
def gConsT (g : Gc) (h : List T → Sl → Option Sl) : List T → Sl → Option Sl := fun ts r => match ts with
  | t :: ts => (g t r).bind (h ts)
  | [] => none
def gTupT (g : List T → Sl → Option Sl) : Gc := fun t r => match t with
  | .tup ts => g ts r
  | _ => none
section
variable {c : SC} {P ow ow2 : List Nat} {tg e : Expr} {es : List Expr} {pos : Pos} {g : Gc} {gs : List T → Sl → Option Sl}
theorem gj_name (i : Nat) {x : Str} (hN : c.N[i]? = some x := by rfl) (hx : Loc c.sc x := by first | exact Or.inl rfl | exact Or.inr rfl) (hst : c.st x = true := by rfl) (hi : i ∉ P := by decide) (hg : c.G.g = none ∨ 0 ∈ P := by first | exact Or.inl rfl | exact Or.inr (by decide)) : GJ c P [i] (.Name x pos) (gSet i) := by
  refine ⟨gName i, fun X h => ?_, fun r σ O H B v t r' Q f rv e q => ?_⟩
  · have hl : Loc X.env.scope x := by rw [h.sc]; exact hx
    exact pg_name (by rw [h.N]; exact h.nd) (by rw [h.N]; exact hN) hl (h.fn x hst hl)
  · cases e
    exact q _ (f.set rv hi (fun _ h => h) (fun _ h => .inr h) hg) fun k hk => List.getElem?_set_ne fun z => hk (by rw [z]; exact List.mem_singleton.mpr rfl)
theorem gsj_nil : GsJ c P [] [] gNilT := by
  refine ⟨gNil, fun X h => pgs_nil, fun r σ O H B vs ts r' Q f rv e q => ?_⟩
  cases rv with
  | nil => cases e; exact ⟨rfl, q σ f fun _ _ => rfl⟩
  | cons r rs => cases e
theorem gsj_cons (h1 : GJ c P ow e g) (h2 : GsJ c P ow2 es gs) (hs : ∀ env, (assignEach (e :: es) env).map (·.2) = assign e env :: (assignEach es env).map (·.2) := by intro _; rfl) : GsJ c P (ow ++ ow2) (e :: es) (gConsT g gs) := by
  obtain ⟨t, p, rd⟩ := h1.ex
  obtain ⟨u, pu, ru⟩ := h2.ex
  refine ⟨gCons t u, fun X h => pgs_cons (p X h) (pu X h) (hs _), fun r σ O H B vs ts r' Q f rv e q => ?_⟩
  cases rv with
  | nil => cases e
  | cons rv rs =>
    rename_i v vs t ts
    have e : (g t r).bind (gs ts) = some r' := e
    cases z : g t r with
    | none => rw [z] at e; cases e
    | some r1 =>
      rw [z] at e
      exact ⟨_, _, rfl, rd r σ O H B _ _ r1 _ f rv z fun σ1 f1 k1 => ru r1 σ1 O H B _ _ r' _ f1 rs e fun σ2 f2 k2 => q σ2 f2 fun k hk => (k2 k fun z => hk (List.mem_append_right _ z)).trans (k1 k fun z => hk (List.mem_append_left _ z))⟩
theorem gj_tup {k : Nat} (h : GsJ c P ow es gs) (hn : ∀ env, (assignEach es env).length = es.length := by intro _; rfl) (hst : ∀ env, (assignEach es env).findIdx? (·.1) = none := by intro _; rfl)
    (hl : ∀ ts r r', gs ts r = some r' → ts.length = es.length) : GJ c P ow (.Tuple es k pos) (gTupT gs) := by
  obtain ⟨t, p, rd⟩ := h.ex
  refine ⟨gTup c.K es.length t, fun X h => ?_, fun r σ O H B v t r' Q f rv e q => ?_⟩
  · have z := pg_tup (k := k) (pos := pos) (n := es.length) h.calm (p X h) (hn _) (hst _)
    rw [h.K] at z; exact z
  · unfold gTupT at e
    cases rv with
    | tup s rs =>
      refine ⟨_, _, rfl, same_tup f.sub s, by rw [rs.length]; exact hl _ _ _ e, rd r σ O H B _ _ r' _ f rs e q⟩
    | _ => cases e
end

/-! ### what is walked -/
structure ItOk (c : SC) (J : It) (ts : List T) (O : Addr → Prop) (H B : Hp) : Prop where
  go : ∀ O' H' B' i, Grow O H B O' H' B' → Same B' H' → i < ts.length → J.go i H'
  yld : ∀ O' H' B' i t x H2, Grow O H B O' H' B' → Same B' H' → ts[i]? = some t → J.yld i H' x H2 → ∃ B2, Pu H' B' H2 B2 ∧ Rep c.K B2 x t
  stop : ∀ O' H' B' i, Grow O H B O' H' B' → Same B' H' → i = ts.length → J.stop i H'
structure IJ (c : SC) (P : List Nat) (tg e : Expr) (I : Ac) : Prop where
  ex : ∃ wi : TI, (∀ X, c.Is X → PI X tg e wi) ∧ ∀ r σ O H B (R : It → Hp → Prop), Frm c.K c.G P r σ O H B → PK c P σ O H B (fun ts _ O' H' B' => ∀ J, ItOk c J ts O' H' B' → R J H') (I r) → wi σ H R
/-- a list's, a tuple's items -/
def cItems (F : Ec) : Ac := fun r => (F r).bind fun t r1 => match t with
  | .lst ts => .ok ts r1
  | .tup ts => .ok ts r1
  | _ => .no
def rangeT (lo hi : Int) : List T := (List.range (hi - lo).toNat).map fun i => .int (lo + (i : Nat))
def lim62 (i : Int) : Bool := decide (-1000000000000000000 ≤ i ∧ i ≤ 1000000000000000000)
def cRange1 (A : Ac) : Ac := fun r => (A r).bind fun ts r1 => match ts with
  | [.int n] => if lim62 n = true then .ok (rangeT 0 n) r1 else .no
  | _ => .no
def cRange2 (A : Ac) : Ac := fun r => (A r).bind fun ts r1 => match ts with
  | [.int m, .int n] => if (lim62 m && lim62 n) = true then .ok (rangeT m n) r1 else .no
  | _ => .no
def enumT (k : Nat) : List T → List T
  | [] => []
  | t :: ts => .tup [.int (k : Nat), t] :: enumT (k + 1) ts
def cEnum (A : Ac) : Ac := fun r => (A r).bind fun ts r1 => match ts with
  | [.lst xs] => .ok (enumT 0 xs) r1
  | _ => .no
def zipT : List T → List T → List T
  | x :: xs, y :: ys => .tup [x, y] :: zipT xs ys
  | _, _ => []
def cZip (A : Ac) : Ac := fun r => (A r).bind fun ts r1 => match ts with
  | [.lst xs, .lst ys] => .ok (zipT xs ys) r1
  | _ => .no
def cRevd (A : Ac) : Ac := fun r => (A r).bind fun ts r1 => match ts with
  | [.lst xs] => .ok xs.reverse r1
  | _ => .no
theorem enumT_get : ∀ (xs : List T) (k i : Nat) (t : T), (enumT k xs)[i]? = some t → ∃ x, xs[i]? = some x ∧ t = .tup [.int ((k + i : Nat) : Int), x]
  | [], _, _, _, h => by simp [enumT] at h
  | x :: xs, k, 0, t, h => by
    simp [enumT] at h
    exact ⟨x, rfl, by rw [← h]; rfl⟩
  | x :: xs, k, i + 1, t, h => by
    obtain ⟨y, h1, h2⟩ := enumT_get xs (k + 1) i t (by simpa [enumT] using h)
    exact ⟨y, by simpa using h1, by rw [h2, show k + 1 + i = k + (i + 1) by omega]⟩
theorem enumT_len : ∀ (xs : List T) (k : Nat), (enumT k xs).length = xs.length
  | [], _ => rfl
  | x :: xs, k => by simp [enumT, enumT_len xs (k + 1)]
theorem zipT_get : ∀ (xs ys : List T) (i : Nat) (t : T), (zipT xs ys)[i]? = some t → ∃ x y, xs[i]? = some x ∧ ys[i]? = some y ∧ t = .tup [x, y]
  | [], _, _, _, h => by simp [zipT] at h
  | _ :: _, [], _, _, h => by simp [zipT] at h
  | x :: xs, y :: ys, 0, t, h => by
    simp [zipT] at h
    exact ⟨x, y, rfl, rfl, h.symm⟩
  | x :: xs, y :: ys, i + 1, t, h => by
    obtain ⟨a, b, h1, h2, h3⟩ := zipT_get xs ys i t (by simpa [zipT] using h)
    exact ⟨a, b, by simpa using h1, by simpa using h2, h3⟩
theorem zipT_len : ∀ (xs ys : List T), (zipT xs ys).length = min xs.length ys.length
  | [], _ => by simp [zipT]
  | _ :: _, [] => by simp [zipT]
  | x :: xs, y :: ys => by rw [show zipT (x :: xs) (y :: ys) = .tup [x, y] :: zipT xs ys from rfl, List.length_cons, List.length_cons, List.length_cons, zipT_len xs ys]; omega
theorem PI.or {X : Cx} {tg e : Expr} {w1 w2 : TI} (a : PI X tg e w1) (b : PI X tg e w2) : PI X tg e (fun σ H R => w1 σ H R ∨ w2 σ H R) :=
  ⟨fun pins s σ H R I h => h.elim (a.run pins s σ H R I) (b.run pins s σ H R I)⟩
section
variable {c : SC} {P : List Nat} {tg e e2 : Expr} {F : Ec} {A : Ac} {p pos tpos : Pos} {elts : List Expr} {kk : Nat} {O : Addr → Prop} {H B : Hp} {a b : Addr} {vs ws : List V} {ts us : List T}
theorem itok_list (s : LsAt c.K B a vs) (r : Reps c.K B vs ts) : ItOk c (Itl c.K a) ts O H B := by
  refine ⟨fun O' H' B' i g sb h => ?_, fun O' H' B' i t x H2 g sb e y => ?_, fun O' H' B' i g sb e => ?_⟩
  · exact ⟨vs, vs[i]'(by rw [r.length]; exact h), ((s.mono g.bb).mono sb).sq, List.getElem?_eq_getElem _⟩
  · obtain ⟨rfl, y⟩ := y
    obtain ⟨v, h1, h2⟩ := r.get e
    have := y vs ((s.mono g.bb).mono sb).sq
    rw [h1] at this
    cases this
    exact ⟨B', .refl sb, h2.mono g.bb⟩
  · exact ⟨vs, ((s.mono g.bb).mono sb).sq, by rw [r.length, e]; exact Nat.le_refl _⟩
theorem itok_tup (s : SqT c.K B a vs) (r : Reps c.K B vs ts) : ItOk c (Itt c.K a) ts O H B := by
  refine ⟨fun O' H' B' i g sb h => ?_, fun O' H' B' i t x H2 g sb e y => ?_, fun O' H' B' i g sb e => ?_⟩
  · exact ⟨vs, vs[i]'(by rw [r.length]; exact h), same_tup sb (same_tup g.bb s), List.getElem?_eq_getElem _⟩
  · obtain ⟨rfl, y⟩ := y
    obtain ⟨v, h1, h2⟩ := r.get e
    have := y vs (same_tup sb (same_tup g.bb s))
    rw [h1] at this
    cases this
    exact ⟨B', .refl sb, h2.mono g.bb⟩
  · exact ⟨vs, same_tup sb (same_tup g.bb s), by rw [r.length, e]; exact Nat.le_refl _⟩
theorem itok_range (lo : Int) (n : Nat) : ItOk c (Itr lo n) ((List.range n).map fun i => T.int (lo + (i : Nat))) O H B := by
  refine ⟨fun O' H' B' i g sb h => (show i < n by simpa using h), fun O' H' B' i t x H2 g sb e y => ?_, fun O' H' B' i g sb e => ?_⟩
  · obtain ⟨rfl, rfl⟩ := y
    refine ⟨B', .refl sb, ?_⟩
    rw [List.getElem?_map] at e
    have hi : i < n := by
      refine Classical.byContradiction fun z => ?_
      rw [List.getElem?_eq_none (by simpa using z)] at e
      cases e
    rw [List.getElem?_range hi] at e
    cases e
    exact .int _
  · have : i = n := by simpa using e
    exact Nat.le_of_eq this.symm
theorem itok_enum (s : LsAt c.K B a vs) (r : Reps c.K B vs ts) : ItOk c (Ite c.K a) (enumT 0 ts) O H B := by
  refine ⟨fun O' H' B' i g sb h => ?_, fun O' H' B' i t x H2 g sb e y => ?_, fun O' H' B' i g sb e => ?_⟩
  · exact ⟨vs, vs[i]'(by rw [r.length]; rw [enumT_len] at h; exact h), ((s.mono g.bb).mono sb).sq, List.getElem?_eq_getElem _⟩
  · obtain ⟨T0, x0, rfl, hn, rfl, y⟩ := y
    obtain ⟨t0, h0, rfl⟩ := enumT_get _ _ _ _ e
    obtain ⟨v, h1, h2⟩ := r.get h0
    have := y vs ((s.mono g.bb).mono sb).sq
    rw [h1] at this
    obtain rfl : v = x0 := Option.some.inj this
    have pu : Pu H' B' (upd H' T0 (.tup [.int (i : Nat), v])) (upd B' T0 (.tup [.int (i : Nat), v])) := .new sb hn
    refine ⟨_, pu, .tup (.inl (.inl upd_same)) ?_⟩
    rw [Nat.zero_add]
    exact .cons (.int _) (.cons ((h2.mono g.bb).mono pu.bb) .nil)
  · exact ⟨vs, ((s.mono g.bb).mono sb).sq, by rw [r.length, e, enumT_len]; exact Nat.le_refl _⟩
theorem itok_zip (s : LsAt c.K B a vs) (r : Reps c.K B vs ts) (s2 : LsAt c.K B b ws) (r2 : Reps c.K B ws us) : ItOk c (Itz c.K a b) (zipT ts us) O H B := by
  refine ⟨fun O' H' B' i g sb h => ?_, fun O' H' B' i t x H2 g sb e y => ?_, fun O' H' B' i g sb e => ?_⟩
  · rw [zipT_len] at h
    exact ⟨vs, ws, vs[i]'(by rw [r.length]; omega), ws[i]'(by rw [r2.length]; omega), ((s.mono g.bb).mono sb).sq, ((s2.mono g.bb).mono sb).sq, List.getElem?_eq_getElem _, List.getElem?_eq_getElem _⟩
  · obtain ⟨T0, x0, y0, rfl, hn, rfl, y1, y2⟩ := y
    obtain ⟨t0, u0, h0, h0', rfl⟩ := zipT_get _ _ _ _ e
    obtain ⟨v, h1, h2⟩ := r.get h0
    obtain ⟨v', h1', h2'⟩ := r2.get h0'
    have z1 := y1 vs ((s.mono g.bb).mono sb).sq
    have z2 := y2 ws ((s2.mono g.bb).mono sb).sq
    rw [h1] at z1
    rw [h1'] at z2
    obtain rfl : v = x0 := Option.some.inj z1
    obtain rfl : v' = y0 := Option.some.inj z2
    have pu : Pu H' B' (upd H' T0 (.tup [v, v'])) (upd B' T0 (.tup [v, v'])) := .new sb hn
    exact ⟨_, pu, .tup (.inl (.inl upd_same)) (.cons ((h2.mono g.bb).mono pu.bb) (.cons ((h2'.mono g.bb).mono pu.bb) .nil))⟩
  · rw [zipT_len] at e
    exact ⟨vs, ws, ((s.mono g.bb).mono sb).sq, ((s2.mono g.bb).mono sb).sq, by rw [r.length, r2.length]; omega⟩
theorem itok_rev (s : LsAt c.K B a vs) (r : Reps c.K B vs ts) : ItOk c (Itv c.K a vs.length) ts.reverse O H B := by
  have hl := r.length
  refine ⟨fun O' H' B' i g sb h => ?_, fun O' H' B' i t x H2 g sb e y => ?_, fun O' H' B' i g sb e => ?_⟩
  · rw [List.length_reverse] at h
    exact ⟨by omega, vs, vs[vs.length - 1 - i]'(by omega), ((s.mono g.bb).mono sb).sq, List.getElem?_eq_getElem _⟩
  · obtain ⟨rfl, y⟩ := y
    have hi : i < ts.length := by
      have := (List.getElem?_eq_some_iff.mp e).1
      simpa using this
    rw [List.getElem?_reverse hi] at e
    obtain ⟨v, h1, h2⟩ := r.get e
    have := y vs ((s.mono g.bb).mono sb).sq
    rw [hl, h1] at this
    cases this
    exact ⟨B', .refl sb, h2.mono g.bb⟩
  · rw [List.length_reverse] at e
    exact (by omega : vs.length ≤ i)
theorem ij_seq (h : EJ c P e F) : IJ c P tg e (cItems F) := by
  obtain ⟨t, p, rd⟩ := h.ex
  refine ⟨fun σ H R => iList c.K t σ H R ∨ iTup c.K t σ H R, fun X h => ?_, fun r σ O H B R f q => ?_⟩
  · have z := PI.or (pi_list (tg := tg) (p X h)) (pi_tup (tg := tg) (p X h))
    rw [h.K] at z; exact z
  · have q := PK.bind q
    cases z : F r with
    | ok t r1 =>
      rw [z] at q
      cases t with
      | lst ts =>
        refine .inl (rd r σ O H B _ f ?_)
        rw [z]
        intro O' H' B' f' g' v rv
        cases rv with
        | lst s rr => exact ⟨_, rfl, ⟨_, (s.mono f'.sub).sq⟩, PK.at (show PK c P σ O' H' B' _ (.ok _ _) from q O' H' B' f' g') f' _ (itok_list s rr)⟩
      | tup ts =>
        refine .inr (rd r σ O H B _ f ?_)
        rw [z]
        intro O' H' B' f' g' v rv
        cases rv with
        | tup s rr => exact ⟨_, rfl, ⟨_, same_tup f'.sub s⟩, PK.at (show PK c P σ O' H' B' _ (.ok _ _) from q O' H' B' f' g') f' _ (itok_tup s rr)⟩
      | _ =>
        refine .inl (rd r σ O H B _ f ?_)
        rw [z]
        intro O' H' B' f' g' v rv
        exact (show False from q O' H' B' f' g').elim
    | ex n w r1 =>
      rw [z] at q
      refine .inl (rd r σ O H B _ f ?_)
      rw [z]; exact q
    | no => rw [z] at q; exact (show False from q).elim
theorem lim62_ok {i : Int} (h : lim62 i = true) : -(2 ^ 62) ≤ i ∧ i < 2 ^ 62 := by
  have := of_decide_eq_true h
  omega
theorem ij_range1 (h : AJ c P [e] A) (hg : c.sc.names.lookup ("range" : Str) = some .globalImplicit := by rfl) (hm : c.mg "range" = none) (hs : ∀ env, starEach [e] env = [(false, eval e env)] := by intro _; rfl) : IJ c P tg (.Call (.Name "range" p) [e] [] pos) (cRange1 A) := by
  obtain ⟨t, pt, rd⟩ := h.ex
  refine ⟨iRng1 t, fun X h => pi_range1 (by show X.env.scope.names.lookup _ = _; rw [h.sc]; exact hg) (by rw [h.mg]; exact hm) (pt X h) (hs _), fun r σ O H B R f q => rd r σ O H B _ f ((PK.bind q).imp fun ts r1 O1 H1 B1 f1 g1 q1 vs rv => ?_)⟩
  match ts, rv, q1 with
  | [.int n], .cons (.int _) .nil, q1 =>
    simp only at q1
    by_cases hz : lim62 n = true
    · rw [if_pos hz] at q1
      obtain ⟨h1, h2⟩ := lim62_ok hz
      refine ⟨n, rfl, h1, h2, PK.at q1 f1 _ ?_⟩
      have := itok_range (c := c) (O := O1) (H := H1) (B := B1) 0 n.toNat
      unfold rangeT
      rw [Int.sub_zero]; exact this
    · rw [if_neg hz] at q1; exact (show False from q1).elim
theorem ij_range2 (h : AJ c P [e, e2] A) (hm : c.mg "range" = none) (hg : c.sc.names.lookup ("range" : Str) = some .globalImplicit := by rfl) (hs : ∀ env, starEach [e, e2] env = [(false, eval e env), (false, eval e2 env)] := by intro _; rfl) (hs2 : ∀ env, starEach [e2] env = [(false, eval e2 env)] := by intro _; rfl) :
    IJ c P tg (.Call (.Name "range" p) [e, e2] [] pos) (cRange2 A) := by
  obtain ⟨t, pt, rd⟩ := h.ex
  refine ⟨iRng2 t, fun X h => pi_range2 (by show X.env.scope.names.lookup _ = _; rw [h.sc]; exact hg) (by rw [h.mg]; exact hm) (pt X h) (hs _) (hs2 _), fun r σ O H B R f q => rd r σ O H B _ f ((PK.bind q).imp fun ts r1 O1 H1 B1 f1 g1 q1 vs rv => ?_)⟩
  match ts, rv, q1 with
  | [.int m, .int n], .cons (.int _) (.cons (.int _) .nil), q1 =>
    simp only at q1
    by_cases hz : (lim62 m && lim62 n) = true
    · rw [if_pos hz] at q1
      obtain ⟨z1, z2⟩ := Bool.and_eq_true_iff.mp hz
      obtain ⟨h1, h2⟩ := lim62_ok z1
      obtain ⟨h3, h4⟩ := lim62_ok z2
      exact ⟨m, n, rfl, ⟨h1, h2, h3, h4⟩, PK.at q1 f1 _ (itok_range m (n - m).toNat)⟩
    · rw [if_neg hz] at q1; exact (show False from q1).elim
theorem ij_enum (h : AJ c P [e] A) (hm : c.mg "enumerate" = none) (hg : c.sc.names.lookup ("enumerate" : Str) = some .globalImplicit := by rfl) (hs : ∀ env, starEach [e] env = [(false, eval e env)] := by intro _; rfl) : IJ c P (.Tuple elts kk tpos) (.Call (.Name "enumerate" p) [e] [] pos) (cEnum A) := by
  obtain ⟨t, pt, rd⟩ := h.ex
  refine ⟨iEnum c.K t, fun X h => ?_, fun r σ O H B R f q => rd r σ O H B _ f ((PK.bind q).imp fun ts r1 O1 H1 B1 f1 g1 q1 vs rv => ?_)⟩
  · have z := pi_enum (elts := elts) (kk := kk) (tpos := tpos) (p := p) (pos := pos) (X := X) (by show X.env.scope.names.lookup _ = _; rw [h.sc]; exact hg) (by rw [h.mg]; exact hm) (pt X h) (hs _)
    rw [h.K] at z; exact z
  · match ts, rv, q1 with
    | [.lst xs], .cons (.lst s rr) .nil, q1 => exact ⟨_, _, rfl, (s.mono f1.sub).sq, PK.at (show PK c P σ O1 H1 B1 _ (.ok _ _) from q1) f1 _ (itok_enum s rr)⟩
theorem ij_zip (h : AJ c P [e, e2] A) (hm : c.mg "zip" = none) (hg : c.sc.names.lookup ("zip" : Str) = some .globalImplicit := by rfl) (hs : ∀ env, starEach [e, e2] env = (false, eval e env) :: starEach [e2] env := by intro _; rfl) (hpl : ∀ env, (backTo pos (starEach [e2] env)).any (·.1) = false := by intro _; rfl) :
    IJ c P (.Tuple elts kk tpos) (.Call (.Name "zip" p) [e, e2] [] pos) (cZip A) := by
  obtain ⟨t, pt, rd⟩ := h.ex
  refine ⟨iZip c.K t, fun X h => ?_, fun r σ O H B R f q => rd r σ O H B _ f ((PK.bind q).imp fun ts r1 O1 H1 B1 f1 g1 q1 vs rv => ?_)⟩
  · have z := pi_zip (elts := elts) (kk := kk) (tpos := tpos) (p := p) (pos := pos) (X := X) (by show X.env.scope.names.lookup _ = _; rw [h.sc]; exact hg) (by rw [h.mg]; exact hm) (pt X h) (hs _) (hpl _)
    rw [h.K] at z; exact z
  · match ts, rv, q1 with
    | [.lst xs, .lst ys], .cons (.lst s rr) (.cons (.lst s2 rr2) .nil), q1 => exact ⟨_, _, _, _, rfl, (s.mono f1.sub).sq, (s2.mono f1.sub).sq, PK.at (show PK c P σ O1 H1 B1 _ (.ok _ _) from q1) f1 _ (itok_zip s rr s2 rr2)⟩
theorem ij_rev (h : AJ c P [e] A) (hm : c.mg "reversed" = none) (hg : c.sc.names.lookup ("reversed" : Str) = some .globalImplicit := by rfl) (hs : ∀ env, starEach [e] env = [(false, eval e env)] := by intro _; rfl) : IJ c P tg (.Call (.Name "reversed" p) [e] [] pos) (cRevd A) := by
  obtain ⟨t, pt, rd⟩ := h.ex
  refine ⟨iRev c.K t, fun X h => ?_, fun r σ O H B R f q => rd r σ O H B _ f ((PK.bind q).imp fun ts r1 O1 H1 B1 f1 g1 q1 vs rv => ?_)⟩
  · have z := pi_reversed (tg := tg) (p := p) (pos := pos) (X := X) (by show X.env.scope.names.lookup _ = _; rw [h.sc]; exact hg) (by rw [h.mg]; exact hm) (pt X h) (hs _)
    rw [h.K] at z; exact z
  · match ts, rv, q1 with
    | [.lst xs], .cons (.lst s rr) .nil, q1 => exact ⟨_, _, rfl, (s.mono f1.sub).sq, PK.at (show PK c P σ O1 H1 B1 _ (.ok _ _) from q1) f1 _ (itok_rev s rr)⟩
end

/-! ### for -/
def forGo (g : Gc) (F : Sc) : List T → Sl → So
  | [], r => .nx r
  | x :: xs, r => match g x r with
    | none => .no
    | some r1 => match F r1 with
      | .nx r2 => forGo g F xs r2
      | .ct r2 => forGo g F xs r2
      | .bk r2 => .nx r2
      | o => o
def cFor (I : Ac) (g : Gc) (F : Sc) : Sc := fun r => (I r).so fun ts r1 => forGo g F ts r1
section
variable {c : SC} {j : JT} {P ow : List Nat} {tg e : Expr} {I : Ac} {g : Gc} {F : Sc} {ss : List Stmt} {pos : Pos} {C : Cc}
theorem sj_for (hi : IJ c P tg e I) (hg : GJ c P ow tg g) (hb : BJ c ⟨j.fr, P, P⟩ P P ss F) (hs : ∀ env x, foldedSetIterable e env x = pure x := by intro _ _; rfl) : SJ c j P P (.For tg e ss [] pos) (cFor I g F) := by
  obtain ⟨wi, pi, ri⟩ := hi.ex
  obtain ⟨tv, pg, rg⟩ := hg.ex
  obtain ⟨tb, pb, rb⟩ := hb.ex
  refine ⟨tFor wi tv tb, fun X h => ps_for h.po h.calm (pi X h) (pg X h) (pb X h) (hs _), fun r σ O H B D f q => ri r σ O H B _ f ((SK.so q).imp fun ts r1 O1 H1 B1 f1 g1 q1 J jo => ?_)⟩
  refine ⟨fun i m σ2 H2 => i + m = ts.length ∧ ∃ r2 O2 B2, Frm c.K c.G P r2 σ2 O2 H2 B2 ∧ Grow O1 H1 B1 O2 H2 B2 ∧ SK c j P O2 H2 B2 D (forGo g F (ts.drop i) r2), ⟨ts.length, by omega, r1, O1, B1, f1, .refl, q1⟩, ?_⟩
  rintro i m σ2 H2 ⟨hm, r2, O2, B2, f2, g2, q2⟩
  cases m with
  | zero =>
    left
    have hi : i = ts.length := by omega
    rw [hi, List.drop_length] at q2
    exact ⟨jo.stop O2 H2 B2 i g2 f2.sub hi, (show SK c j P O2 H2 B2 D (.nx r2) from q2) σ2 O2 H2 B2 f2 .refl⟩
  | succ m =>
    right
    have hi : i < ts.length := by omega
    rw [List.drop_eq_getElem_cons hi] at q2
    have e1 : ts[i]? = some ts[i] := List.getElem?_eq_getElem hi
    unfold forGo at q2
    cases z : g ts[i] r2 with
    | none => rw [z] at q2; exact (show False from q2).elim
    | some r3 =>
      simp only [z] at q2
      refine ⟨jo.go O2 H2 B2 i g2 f2.sub hi, fun σ5 H5 => ∃ r5 O5 B5, Frm c.K c.G P r5 σ5 O5 H5 B5 ∧ Grow O1 H1 B1 O5 H5 B5 ∧ SK c j P O5 H5 B5 D (forGo g F (ts.drop (i + 1)) r5), fun σ' H' hN => ⟨m, by omega, by omega, hN⟩, fun x H3 y => ?_⟩
      obtain ⟨B3, pu, rx⟩ := jo.yld O2 H2 B2 i _ x H3 g2 f2.sub e1 y
      have f3 := f2.pu pu
      have g3 := g2.trans (Grow.of_pu (O := O2) pu)
      have q3 := SK.later q2 (Grow.of_pu (O := O2) pu)
      refine rg r2 σ2 O2 H3 B3 x _ r3 _ f3 rx z fun σ4 f4 _ => rb r3 σ4 O2 H3 B3 _ f4 ?_
      cases y : F r3 with
      | nx r5 =>
        simp only [y] at q3
        intro σ' O' H' B' f' g'
        exact ⟨r5, O', B', f', g3.trans g', q3.later g'⟩
      | ct r5 =>
        simp only [y] at q3
        intro σ' O' H' B' f' g'
        exact ⟨r5, O', B', f', g3.trans g', q3.later g'⟩
      | bk r5 =>
        simp only [y] at q3
        intro σ' O' H' B' f' g'
        exact (show SK c j P O2 H3 B3 D (.nx r5) from q3) σ' O' H' B' f' g'
      | rt t r5 => simp only [y] at q3; exact q3
      | ex n w r5 => simp only [y] at q3; exact q3
      | no => simp only [y] at q3; exact q3

/-! ### while -/
def whGo (C : Cc) (F : Sc) : Nat → Sl → So
  | 0, _ => .no
  | n + 1, r => match C r with
    | .ok true r1 => (match F r1 with
      | .nx r2 => whGo C F n r2
      | .ct r2 => whGo C F n r2
      | .bk r2 => .nx r2
      | o => o)
    | .ok false r1 => .nx r1
    | .ex n w r1 => .ex n w r1
    | .no => .no
/-- n: more than the turns -/
def cWh (n : Nat) (C : Cc) (F : Sc) : Sc := fun r => whGo C F n r
theorem sj_while (n : Nat) (hc : CJ c P e C) (hb : BJ c ⟨j.fr, P, P⟩ P P ss F) : SJ c j P P (.While e ss [] pos) (cWh n C F) := by
  obtain ⟨tc, pc, rc⟩ := hc.ex
  obtain ⟨tb, pb, rb⟩ := hb.ex
  refine ⟨tWhile tc tb, fun X h => ps_while h.po (pc X h) (pb X h), fun r σ O H B D f q => ?_⟩
  refine ⟨fun m σ2 H2 => ∃ r2 O2 B2, Frm c.K c.G P r2 σ2 O2 H2 B2 ∧ Grow O H B O2 H2 B2 ∧ SK c j P O2 H2 B2 D (whGo C F m r2), ⟨n, r, O, B, f, .refl, q⟩, ?_⟩
  rintro m σ2 H2 ⟨r2, O2, B2, f2, g2, q2⟩
  cases m with
  | zero => exact (show False from q2).elim
  | succ m =>
    unfold whGo at q2
    refine rc r2 σ2 O2 H2 B2 _ f2 ?_
    cases z : C r2 with
    | ok b r3 =>
      simp only [z] at q2
      intro O3 H3 B3 f3 g3
      cases b with
      | true =>
        simp only at q2
        show (if true = true then _ else _)
        rw [if_pos rfl]
        refine ⟨fun σ5 H5 => ∃ r5 O5 B5, Frm c.K c.G P r5 σ5 O5 H5 B5 ∧ Grow O H B O5 H5 B5 ∧ SK c j P O5 H5 B5 D (whGo C F m r5), fun σ' H' hN => ⟨m, Nat.lt_succ_self _, hN⟩, rb r3 σ2 O3 H3 B3 _ f3 ?_⟩
        have q3 := SK.later q2 g3
        cases y : F r3 with
        | nx r5 =>
          simp only [y] at q3
          intro σ' O' H' B' f' g'
          exact ⟨r5, O', B', f', (g2.trans g3).trans g', q3.later g'⟩
        | ct r5 =>
          simp only [y] at q3
          intro σ' O' H' B' f' g'
          exact ⟨r5, O', B', f', (g2.trans g3).trans g', q3.later g'⟩
        | bk r5 =>
          simp only [y] at q3
          intro σ' O' H' B' f' g'
          exact (show SK c j P O3 H3 B3 D (.nx r5) from q3) σ' O' H' B' f' g'
        | rt t r5 => simp only [y] at q3; exact q3
        | ex n w r5 => simp only [y] at q3; exact q3
        | no => simp only [y] at q3; exact q3
      | false =>
        simp only at q2
        show (if false = true then _ else _)
        rw [if_neg Bool.false_ne_true]
        exact (show SK c j P O2 H2 B2 D (.nx r3) from q2) σ2 O3 H3 B3 f3 g3
    | ex k w r3 =>
      simp only [z] at q2
      exact fun v d O' H' B' f' g' => (show SK c j P O2 H2 B2 D (.ex k w r3) from q2) v d σ2 P O' H' B' f' g'
    | no => simp only [z] at q2; exact (show False from q2).elim
end
end Tc

/-! Tc: list comprehensions. -/
namespace Tc
open PySem PySem.Spec L2

/-- where a comprehension's block stands -/
def SC.blk (c : SC) (scope : Scope) : SC := { c with lc := none, sc := relS scope c.sc, W := fun _ _ _ _ => False, st := fun x => match scope.names.lookup x with
  | some .local => true
  | some .cell => true
  | _ => false }
theorem blk_is {c : SC} {X : Cx} (h : c.Is X) (scope : Scope) (hk : scope.kind = .function) (s : Shared) (H : Hp) (C : Addr) (cl : List (Str × Addr)) (fp : List Addr) : (c.blk scope).Is (X.blk s H scope (compEnvC scope cl C X.env) fp) := by
  refine ⟨h.prog, h.w, h.K, h.mg, h.base, h.N, h.nd, ?_, h.calm, h.room, h.grd, takes0, PassesOwn.never, fun x hx hl => ?_, fun p e => nomatch e⟩
  · show relS scope X.env.scope = relS scope c.sc
    rw [h.sc]
  · have hx' : (match scope.names.lookup x with | some .local => true | some .cell => true | _ => false) = true := hx
    cases e : scope.names.lookup x with
    | none => rw [e] at hx'; cases hx'
    | some k =>
      rw [e] at hx'
      cases k with
      | «local» => exact .inr (lookup_relS_keep (sc := X.env.scope) (by decide) e)
      | cell => exact .inl (by show (scope.names.lookup x == some .cell) = true; rw [e]; rfl)
      | _ => cases hx'

def wipeT (r : Sl) : List Nat → Sl
  | [] => r
  | v :: vs => (wipeT r vs).set v none
def backT (r0 r : Sl) : List Nat → Sl
  | [] => r
  | v :: vs => (backT r0 r vs).set v (r0.getD v none)
def lcGo (own : List Nat) (g : Gc) (C : Cc) (E : Ec) : List T → List T → Sl → Out (List T)
  | [], acc, r => .ok acc r
  | x :: xs, acc, r => match g x r with
    | none => .no
    | some r1 => match C r1 with
      | .ok true r2 => (match E r2 with
        | .ok y r3 => if acc.length < 1000000 then lcGo own g C E xs (acc ++ [y]) (wipeT r3 own) else .no
        | _ => .no)
      | .ok false r2 => lcGo own g C E xs acc (wipeT r2 own)
      | _ => .no
def cLc (own : List Nat) (I : Ac) (g : Gc) (C : Cc) (E : Ec) : Ec := fun r => (I r).bind fun ts r1 => (lcGo own g C E ts [] (wipeT r1 own)).bind fun acc r2 => .ok (.lst acc) (backT r1 r2 own)
def cTrue : Cc := fun r => .ok true r

theorem wipe_get {α : Type} : ∀ (own : List Nat) (f : List Nat → List (Option α)) (_ : ∀ v vs, f (v :: vs) = (f vs).set v none) (k : Nat), k ∉ own → (f own)[k]? = (f [])[k]?
  | [], _, _, _, _ => rfl
  | v :: vs, f, hf, k, hk => by
    rw [hf, List.getElem?_set_ne fun z => hk (by rw [z]; exact List.mem_cons_self ..)]
    exact wipe_get vs f hf k fun z => hk (List.mem_cons_of_mem _ z)
theorem wipeT_get {r : Sl} {own : List Nat} {k : Nat} (h : k ∉ own) : (wipeT r own)[k]? = r[k]? := wipe_get own (wipeT r) (fun _ _ => rfl) k h
theorem wipeσ_get {σ : L2.St} {own : List Nat} {k : Nat} (h : k ∉ own) : (wipe σ own)[k]? = σ[k]? := wipe_get own (wipe σ) (fun _ _ => rfl) k h
theorem wipeT_len (r : Sl) : ∀ own : List Nat, (wipeT r own).length = r.length
  | [] => rfl
  | v :: vs => by unfold wipeT; rw [List.length_set, wipeT_len r vs]
theorem wipeT_none {r : Sl} : ∀ {own : List Nat} {k : Nat} {t : T}, k ∈ own → (wipeT r own)[k]? ≠ some (some t)
  | v :: vs, k, t, h => by
    intro e
    unfold wipeT at e
    by_cases hv : v = k
    · subst hv
      by_cases hl : v < (wipeT r vs).length
      · rw [List.getElem?_set_self hl] at e; cases e
      · rw [List.getElem?_eq_none (by simpa using hl)] at e; cases e
    · rw [List.getElem?_set_ne hv] at e
      rcases List.mem_cons.mp h with z | z
      · exact hv z.symm
      · exact wipeT_none z e
theorem backT_len (r0 r : Sl) : ∀ own : List Nat, (backT r0 r own).length = r.length
  | [] => rfl
  | v :: vs => by unfold backT; rw [List.length_set, backT_len r0 r vs]
theorem backT_out {r0 r : Sl} : ∀ {own : List Nat} {k : Nat}, k ∉ own → (backT r0 r own)[k]? = r[k]?
  | [], _, _ => rfl
  | v :: vs, k, h => by
    unfold backT
    rw [List.getElem?_set_ne fun z => h (by rw [z]; exact List.mem_cons_self ..)]
    exact backT_out fun z => h (List.mem_cons_of_mem _ z)
theorem backT_in {r0 r : Sl} (hl : r0.length = r.length) : ∀ {own : List Nat} {k : Nat} {t : T}, k ∈ own → (backT r0 r own)[k]? = some (some t) → r0[k]? = some (some t)
  | v :: vs, k, t, h, e => by
    unfold backT at e
    by_cases hv : v = k
    · subst hv
      by_cases hlt : v < (backT r0 r vs).length
      · rw [List.getElem?_set_self hlt] at e
        have e' := Option.some.inj e
        rw [List.getD_eq_getElem?_getD] at e'
        cases z : r0[v]? with
        | none => rw [z] at e'; cases e'
        | some o => rw [z] at e'; exact congrArg some e'
      · rw [List.getElem?_eq_none (by simpa using hlt)] at e; cases e
    · rw [List.getElem?_set_ne hv] at e
      rcases List.mem_cons.mp h with z | z
      · exact absurd z.symm hv
      · exact backT_in hl z e
section
variable {K : PySem.W.Frag} {G : GI} {P own : List Nat} {r r0 : Sl} {σ : L2.St} {O O1 : Addr → Prop} {H B H1 B1 : Hp}
theorem Frm.wip (f : Frm K G P r σ O H B) (ho : ∀ k ∈ own, k ∉ P) : Frm K G P (wipeT r own) (L2.wipe σ own) O H B := by
  refine ⟨f.sub, f.out, f.liv, fun i t e n => ?_, fun i hi => ?_, fun i k p hi hk e1 e2 => ?_, by rw [wipeT_len, wipe_length]; exact f.len, by rw [wipeT_len]; exact f.siz, fun g e => ?_, f.tab⟩
  · by_cases hi : i ∈ own
    · exact absurd e (wipeT_none hi)
    · rw [wipeT_get hi] at e
      obtain ⟨v, h1, h2⟩ := f.var i t e n
      exact ⟨v, by rw [wipeσ_get hi]; exact h1, h2⟩
  · have h := fun z => ho i z hi
    obtain ⟨p, vs, ts, h1, h2, h3⟩ := f.prv i hi
    exact ⟨p, vs, ts, by rw [wipeT_get h]; exact h1, by rw [wipeσ_get h]; exact h2, h3⟩
  · rw [wipeσ_get fun z => ho i z hi] at e1
    rw [wipeσ_get fun z => ho k z hk] at e2
    exact f.sep i k p hi hk e1 e2
  · obtain ⟨k0, k1⟩ := f.inn g e
    exact ⟨k0, by rw [wipeσ_get fun z => ho 0 z k0]; exact k1⟩
theorem Frm.unwipe (f0 : Frm K G P r0 σ O H B) (f : Frm K G P r (wipe σ own) O1 H1 B1) (bb : Same B B1) (ho : ∀ k ∈ own, k ∉ P) : Frm K G P (backT r0 r own) σ O1 H1 B1 := by
  have hl : r0.length = r.length := f0.siz.trans f.siz.symm
  refine ⟨f.sub, f.out, f.liv, fun i t e n => ?_, fun i hi => ?_, f0.sep, by rw [backT_len, ← hl]; exact f0.len, by rw [backT_len]; exact f.siz, f0.inn, f.tab⟩
  · by_cases hi : i ∈ own
    · obtain ⟨v, h1, h2⟩ := f0.var i t (backT_in hl hi e) n
      exact ⟨v, h1, h2.mono bb⟩
    · rw [backT_out hi] at e
      obtain ⟨v, h1, h2⟩ := f.var i t e n
      exact ⟨v, by rw [wipeσ_get hi] at h1; exact h1, h2⟩
  · have h := fun z => ho i z hi
    obtain ⟨p, vs, ts, h1, h2, h3⟩ := f.prv i hi
    exact ⟨p, vs, ts, by rw [backT_out h]; exact h1, by rw [wipeσ_get h] at h2; exact h2, h3⟩
end
theorem wipe_ext {σ σ' : L2.St} (hl : σ'.length = σ.length) : ∀ {own : List Nat}, (∀ k, k ∉ own → σ'[k]? = σ[k]?) → wipe σ' own = wipe σ own := by
  intro own h
  refine List.ext_getElem? fun k => ?_
  by_cases hk : k ∈ own
  · have key : ∀ (s : L2.St) (own : List Nat), k ∈ own → (wipe s own)[k]? = if k < s.length then some none else none := by
      intro s own
      induction own with
      | nil => intro z; cases z
      | cons v vs ih =>
        intro z
        unfold wipe
        by_cases hv : v = k
        · subst hv
          by_cases hlt : v < s.length
          · rw [if_pos hlt, List.getElem?_set_self (by rw [wipe_length]; exact hlt)]
          · rw [if_neg hlt, List.getElem?_eq_none (by rw [List.length_set, wipe_length]; omega)]
        · rw [List.getElem?_set_ne hv]
          exact ih ((List.mem_cons.mp z).resolve_left fun y => hv y.symm)
    rw [key _ _ hk, key _ _ hk, hl]
  · rw [wipeσ_get hk, wipeσ_get hk]; exact h k hk

/-- a clause's tests -/
structure IfJ (c : SC) (P : List Nat) (ifs : List Expr) (C : Cc) : Prop where
  ex : ∃ t : TT, (∀ X, c.Is X → PTs X ifs t) ∧ ∀ r σ O H B Q, Frm c.K c.G P r σ O H B → PK c P σ O H B (GoodC Q) (C r) → t σ H Q
section
variable {c : SC} {P own : List Nat} {e tg it : Expr} {ifs : List Expr} {scope : Scope} {C : Cc} {I : Ac} {g : Gc} {E : Ec} {pos : Pos} {j : JT} {P' : List Nat}
theorem ifj_nil : IfJ c P [] cTrue := ⟨tYes, fun X h => pts_nil, fun r σ O H B Q f q => PK.at (show PK _ _ _ _ _ _ _ (.ok _ _) from q) f⟩
theorem ifj_one (h : CJ c P e C) : IfJ c P [e] C := by
  obtain ⟨t, p, rd⟩ := h.ex
  exact ⟨t, fun X h => pts_one (p X h), rd⟩

theorem Frm.ofwipe {K : PySem.W.Frag} {G : GI} {r : Sl} {σ : L2.St} {O : Addr → Prop} {H B : Hp} (f : Frm K G P r (wipe σ own) O H B) (hσ : ∀ i j p, i ∈ P → j ∈ P → σ[i]? = some (some (.ref p)) → σ[j]? = some (some (.ref p)) → i = j) : Frm K G P r σ O H B := by
  refine ⟨f.sub, f.out, f.liv, fun i t e n => ?_, fun i hi => ?_, hσ, by rw [f.len, wipe_length], f.siz, fun g e => ?_, f.tab⟩
  · obtain ⟨v, h1, h2⟩ := f.var i t e n
    exact ⟨v, (wipe_some h1).1, h2⟩
  · obtain ⟨p, vs, ts, h1, h2, h3⟩ := f.prv i hi
    exact ⟨p, vs, ts, h1, (wipe_some h2).1, h3⟩
  · obtain ⟨k0, k1⟩ := f.inn g e
    exact ⟨k0, (wipe_some k1).1⟩
/-- an object that is neither seen nor owned is changed -/
theorem Frm.side {K : PySem.W.Frag} {G : GI} {r : Sl} {σ : L2.St} {O : Addr → Prop} {H B : Hp} {D : Addr} {o : HO} (f : Frm K G P r σ O H B) (n : ¬ O D) (b : B D = none) (hl : H D = none ∨ ∃ xs, H D = some (.lst xs)) : Frm K G P r σ O (upd H D o) B := by
  refine ⟨fun a u e => ?_, f.out, fun a h => ?_, f.var, fun i hi => ?_, f.sep, f.len, f.siz, f.inn, f.tab.put hl⟩
  · rw [upd_ne (ne_of_none e b)]; exact f.sub _ _ e
  · rw [upd_ne fun z : a = D => n (z ▸ h)]; exact f.liv a h
  · obtain ⟨p, vs, ts, h1, h2, h3, h4, h5⟩ := f.prv i hi
    exact ⟨p, vs, ts, h1, h2, h3, by rw [upd_ne fun z : p = D => n (z ▸ h3)]; exact h4, h5⟩

/-- the reading of a comprehension -/
theorem lc_read {wi : TI} {tv : TG} {tt : TT} {te : TE} (ho : ∀ k ∈ own, k ∉ P)
    (ri : ∀ r σ O H B (R : It → Hp → Prop), Frm c.K c.G P r σ O H B → PK c P σ O H B (fun ts _ O' H' B' => ∀ J, ItOk c J ts O' H' B' → R J H') (I r) → wi σ H R)
    (rg : ∀ r σ O H B v t r' (Q : L2.St → Hp → Prop), Frm c.K c.G P r σ O H B → Rep c.K B v t → g t r = some r' → (∀ σ', Frm c.K c.G P r' σ' O H B → (∀ k, k ∉ own → σ'[k]? = σ[k]?) → Q σ' H) → tv v σ H Q)
    (rc : ∀ r σ O H B Q, Frm c.K c.G P r σ O H B → PK (c.blk scope) P σ O H B (GoodC Q) (C r) → tt σ H Q)
    (re : ∀ r σ O H B Q, Frm c.K c.G P r σ O H B → PK (c.blk scope) P σ O H B (GoodT (c.blk scope) Q) (E r) → te σ H Q)
    {r : Sl} {σ : L2.St} {O : Addr → Prop} {H B : Hp} {Q : VK} (f : Frm c.K c.G P r σ O H B) (q : PK c P σ O H B (GoodF c P σ Q) (cLc own I g C E r)) : tLc wi tv tt te own σ H Q := by
  refine ri r σ O H B _ f ((PK.bind q).imp fun ts r1 O1 H1 B1 f1 g1 q1 J jo D hD => ?_)
  have q1 := PK.bind0 q1
  have pu0 : Pu H1 B1 (upd H1 D (.lst [])) B1 := .hid f1.sub hD
  have f1' := f1.pu pu0
  have bD : B1 D = none := f1.sub.free hD
  have oD : ¬ O1 D := fun z => f1.liv D z hD
  have nD : ∀ i ∈ P, σ[i]? ≠ some (some (.ref D)) := fun i hi z => by
    obtain ⟨p, ws, us, h1, h2, h3, h4, h5⟩ := f1.prv i hi
    rw [h2] at z
    cases z
    rw [hD] at h4; cases h4
  have ww : wipe (wipe σ own) own = wipe σ own := wipe_ext (wipe_length _ _) fun k hk => wipeσ_get hk
  refine ⟨fun i m H2 => i + m = ts.length ∧ ∃ r2 O2 B2 acc av, Frm c.K c.G P r2 (wipe σ own) O2 H2 B2 ∧ Grow O1 H1 B1 O2 H2 B2 ∧ ¬ O2 D ∧ B2 D = none ∧ H2 D = some (.lst av) ∧ Reps c.K B2 av acc ∧
    PK c P σ O1 H1 B1 (fun acc r2 _ _ _ => PK c P σ O1 H1 B1 (GoodF c P σ Q) (.ok (.lst acc) (backT r1 r2 own))) (lcGo own g C E (ts.drop i) acc r2), ⟨ts.length, by omega, wipeT r1 own, O1, B1, [], [], f1'.wip ho, .of_pu pu0, oD, bD, upd_same, .nil, q1⟩, ?_⟩
  rintro i m H2 ⟨hm, r2, O2, B2, acc, av, f2, g2, nO, nB, hHD, ra, q2⟩
  cases m with
  | zero =>
    left
    have hi : i = ts.length := by omega
    refine ⟨jo.stop O2 H2 B2 i g2 f2.sub hi, ?_⟩
    rw [hi, List.drop_length] at q2
    have fb := f1.unwipe f2 g2.bb ho
    have q3 := (show PK c P σ O1 H1 B1 _ (.ok acc r2) from q2) O2 H2 B2 (f2.ofwipe f1.sep) g2
    refine (show PK c P σ O1 H1 B1 (GoodF c P σ Q) (.ok (.lst acc) (backT r1 r2 own)) from q3) (fun a => O2 a ∨ a = D) H2 B2 ⟨fb.sub, fun a h => ?_, fun a h => ?_, fb.var, fun i hi => ?_, fb.sep, fb.len, fb.siz, fb.inn, fb.tab.add hHD⟩ ?_ D av acc rfl (.inr rfl) nD hHD ra
    · rcases h with h | h
      · exact fb.out a h
      · rw [h]; exact nB
    · rcases h with h | h
      · exact fb.liv a h
      · rw [h, hHD]; exact fun z => nomatch z
    · obtain ⟨p, vs, ts, h1, h2, h3, h4, h5⟩ := fb.prv i hi
      exact ⟨p, vs, ts, h1, h2, .inl h3, h4, h5⟩
    · exact ⟨g2.bb, g2.nb, g2.hh, fun a h => h.elim (g2.oo a) fun z => .inr (z ▸ hD)⟩
  | succ m =>
    right
    have hi : i < ts.length := by omega
    rw [List.drop_eq_getElem_cons hi] at q2
    have e1 : ts[i]? = some ts[i] := List.getElem?_eq_getElem hi
    unfold lcGo at q2
    cases z : g ts[i] r2 with
    | none => simp only [z] at q2; exact (show False from q2).elim
    | some r3 =>
      simp only [z] at q2
      refine ⟨jo.go O2 H2 B2 i g2 f2.sub hi, fun H5 => ∃ r5 O5 B5 acc av, Frm c.K c.G P r5 (wipe σ own) O5 H5 B5 ∧ Grow O1 H1 B1 O5 H5 B5 ∧ ¬ O5 D ∧ B5 D = none ∧ H5 D = some (.lst av) ∧ Reps c.K B5 av acc ∧
        PK c P σ O1 H1 B1 (fun acc r2 _ _ _ => PK c P σ O1 H1 B1 (GoodF c P σ Q) (.ok (.lst acc) (backT r1 r2 own))) (lcGo own g C E (ts.drop (i + 1)) acc r5), fun H' hN => ⟨m, by omega, by omega, hN⟩, fun x H3 y => ?_⟩
      obtain ⟨B3, pu, rx⟩ := jo.yld O2 H2 B2 i _ x H3 g2 f2.sub e1 y
      have f3 := f2.pu pu
      have g3 := g2.trans (Grow.of_pu (O := O2) pu)
      have h3D := pu.hh _ _ hHD
      -- what stays of the new list through the code of a turn
      have stay : ∀ {O5 H5 B5}, Grow O2 H3 B3 O5 H5 B5 → ¬ O5 D ∧ B5 D = none ∧ H5 D = some (.lst av) := fun {O5 H5 B5} g5 => by
        refine ⟨fun z => (g5.oo D z).elim nO (fun y => by rw [h3D] at y; cases y), ?_, g5.lst h3D nO⟩
        cases e : B5 D with
        | none => rfl
        | some o =>
          rcases g5.nb D o e with y | y | y
          · rcases pu.nb D o y with x | x
            · rw [nB] at x; cases x
            · rw [hHD] at x; cases x
          · rw [h3D] at y; cases y
          · exact absurd y nO
      refine rg r2 (wipe σ own) O2 H3 B3 x _ r3 _ f3 rx z fun σ4 f4 k4 => ⟨?_, ?_⟩
      · have hl : σ4.length = (wipe σ own).length := by rw [← f4.len, ← f3.len, f4.siz, f3.siz]
        rw [wipe_ext hl k4, ww]
      · have hl : σ4.length = (wipe σ own).length := by rw [← f4.len, ← f3.len, f4.siz, f3.siz]
        have w4 : wipe σ4 own = wipe σ own := by rw [wipe_ext hl k4, ww]
        refine rc r3 σ4 O2 H3 B3 _ f4 ?_
        cases y : C r3 with
        | ok b r5 =>
          simp only [y] at q2
          intro O5 H5 B5 f5 g5
          cases b with
          | false =>
            obtain ⟨s1, s2, s3⟩ := stay g5
            show (if false = true then _ else _)
            rw [if_neg Bool.false_ne_true]
            exact ⟨wipeT r5 own, O5, B5, acc, av, w4 ▸ f5.wip ho, g3.trans g5, s1, s2, s3, (ra.mono pu.bb).mono g5.bb, q2⟩
          | true =>
            show (if true = true then _ else _)
            rw [if_pos rfl]
            refine re r5 σ4 O5 H5 B5 _ f5 ?_
            cases ye : E r5 with
            | ok t r6 =>
              simp only [ye] at q2
              intro O6 H6 B6 f6 g6 yv rv
              obtain ⟨s1, s2, s3⟩ := stay (g5.trans g6)
              by_cases hz : acc.length < 1000000
              · rw [if_pos hz] at q2
                have ra6 := ((ra.mono pu.bb).mono g5.bb).mono g6.bb
                refine ⟨av, s3, by rw [ra6.length]; exact Nat.lt_trans hz (by rw [sizeLine_eq]; decide), ?_⟩
                have f7 := (w4 ▸ f6.wip ho : Frm c.K c.G P (wipeT r6 own) (wipe σ own) O6 H6 B6).side (o := .lst (av ++ [yv])) s1 s2 (.inr ⟨_, s3⟩)
                have g6' := (g3.trans g5).trans g6
                refine ⟨wipeT r6 own, O6, B6, acc ++ [t], av ++ [yv], f7, ⟨g6'.bb, g6'.nb, fun a o e n => ?_, g6'.oo⟩, s1, s2, upd_same, ra6.append (.cons rv .nil), q2⟩
                rw [upd_ne (ne_of_none e hD)]
                exact g6'.hh a o e n
              · rw [if_neg hz] at q2; exact (show False from q2).elim
            | ex n w r6 => simp only [ye] at q2; exact (show False from q2).elim
            | no => simp only [ye] at q2; exact (show False from q2).elim
        | ex n w r5 => simp only [y] at q2; exact (show False from q2).elim
        | no => simp only [y] at q2; exact (show False from q2).elim

theorem fj_lc {on : List (Str × Nat)} (hi : IJ c P tg it I) (hb : blkC c.N c.sc scope on = true) (hg : GJ (c.blk scope) P (on.map (·.2)) tg g) (hc : IfJ (c.blk scope) P ifs C) (he : EJ (c.blk scope) P e E)
    (ho : ∀ k ∈ on.map (·.2), k ∉ P := by decide) (hk : scope.kind = .function := by rfl) (hs : ∀ env x, foldedSetIterable it env x = pure x := by intro _ _; rfl) : FJ c P (.ListComp e [⟨tg, it, ifs, 0⟩] scope pos) (cLc (on.map (·.2)) I g C E) := by
  obtain ⟨wi, pi, ri⟩ := hi.ex
  obtain ⟨tv, pg, rg⟩ := hg.ex
  obtain ⟨tt, pt, rc⟩ := hc.ex
  obtain ⟨te, pe, re⟩ := he.ex
  refine ⟨tLc wi tv tt te (on.map (·.2)), fun X h => ?_, fun r σ O H B Q f q => lc_read (scope := scope) ho ri rg rc re f q⟩
  exact pe_lc (own := on) h.calm (by rw [h.N]; exact h.nd) (pi X h) (by rw [h.N, h.sc]; exact blkOk_by hb) (fun s H C cl fp => pg _ (blk_is h scope hk s H C cl fp)) (fun s H C cl fp => pt _ (blk_is h scope hk s H C cl fp)) (fun s H C cl fp => pe _ (blk_is h scope hk s H C cl fp)) (hs _)
/-- name = [..], the name a local: owned from now on -/
theorem sj_setLcF (i : Nat) {y : Str} {py spos : Pos} {on : List (Str × Nat)} (hi : IJ c P tg it I) (hb : blkC c.N c.sc scope on = true) (hg : GJ (c.blk scope) P (on.map (·.2)) tg g) (hc : IfJ (c.blk scope) P ifs C) (he : EJ (c.blk scope) P e E)
    (hsw : ∀ env : Env, env.scope = c.sc → swapsWith (.ListComp e [⟨tg, it, ifs, 0⟩] scope pos) (some (.Name y py)) spos.line env = pure true) (hyl : c.sc.names.lookup y = some .local := by rfl) (hN : c.N[i]? = some y := by rfl)
    (hlen : Nat.ble (i + 1) c.G.n = true := by rfl) (h0 : i ∈ P' := by decide) (h1 : ∀ k ∈ P', k = i ∨ k ∈ P := by decide) (h2 : ∀ k ∈ P, k ∈ P' := by decide) (hgg : c.G.g = none ∨ i ≠ 0 := by first | exact Or.inl rfl | exact Or.inr (by decide))
    (ho : ∀ k ∈ on.map (·.2), k ∉ P := by decide) (hk : scope.kind = .function := by rfl) (hs : ∀ env x, foldedSetIterable it env x = pure x := by intro _ _; rfl) :
    SJ c j P P' (.Assign [.Name y py] (.ListComp e [⟨tg, it, ifs, 0⟩] scope pos) spos) (cSet i (cLc (on.map (·.2)) I g C E)) := by
  obtain ⟨wi, pi, ri⟩ := hi.ex
  obtain ⟨tv, pg, rg⟩ := hg.ex
  obtain ⟨tt, pt, rc⟩ := hc.ex
  obtain ⟨te, pe, re⟩ := he.ex
  refine ⟨tAsg (tLc wi tv tt te (on.map (·.2))) (gName i), fun X h => ?_, fun r σ O H B D f q => ?_⟩
  · exact ps_setLc (own := on) h.calm (by rw [h.N]; exact h.nd) (by rw [h.N]; exact hN) (by rw [h.sc]; exact hyl) (hsw _ h.sc) (pi X h) (by rw [h.N, h.sc]; exact blkOk_by hb) (fun s H C cl fp => pg _ (blk_is h scope hk s H C cl fp)) (fun s H C cl fp => pt _ (blk_is h scope hk s H C cl fp)) (fun s H C cl fp => pe _ (blk_is h scope hk s H C cl fp)) (hs _)
  · refine lc_read (scope := scope) ho ri rg rc re f ((SK.so (P := P) (σ := σ) q).imp fun u r1 O1 H1 B1 f1 g1 q1 pp vs ts e hO hs hp rp => ?_)
    subst e
    exact (show SK c j P' O1 H1 B1 D (.nx _) from q1) _ O1 H1 B1 (f1.setF (by rw [f1.siz]; exact Nat.le_of_ble_eq_true hlen) hO hs hp rp h0 h1 h2 hgg) .refl
/-- .. seen by all -/
theorem sj_setLc (i : Nat) {y : Str} {py spos : Pos} {on : List (Str × Nat)} (hi : IJ c P tg it I) (hb : blkC c.N c.sc scope on = true) (hg : GJ (c.blk scope) P (on.map (·.2)) tg g) (hc : IfJ (c.blk scope) P ifs C) (he : EJ (c.blk scope) P e E)
    (hsw : ∀ env : Env, env.scope = c.sc → swapsWith (.ListComp e [⟨tg, it, ifs, 0⟩] scope pos) (some (.Name y py)) spos.line env = pure true) (hyl : c.sc.names.lookup y = some .local := by rfl) (hN : c.N[i]? = some y := by rfl)
    (hi' : i ∉ P' := by decide) (h1 : ∀ k ∈ P', k ∈ P := by decide) (h2 : ∀ k ∈ P, k = i ∨ k ∈ P' := by decide) (hgg : c.G.g = none ∨ 0 ∈ P' := by first | exact Or.inl rfl | exact Or.inr (by decide))
    (ho : ∀ k ∈ on.map (·.2), k ∉ P := by decide) (hk : scope.kind = .function := by rfl) (hs : ∀ env x, foldedSetIterable it env x = pure x := by intro _ _; rfl) :
    SJ c j P P' (.Assign [.Name y py] (.ListComp e [⟨tg, it, ifs, 0⟩] scope pos) spos) (cSet i (cLc (on.map (·.2)) I g C E)) := by
  obtain ⟨wi, pi, ri⟩ := hi.ex
  obtain ⟨tv, pg, rg⟩ := hg.ex
  obtain ⟨tt, pt, rc⟩ := hc.ex
  obtain ⟨te, pe, re⟩ := he.ex
  refine ⟨tAsg (tLc wi tv tt te (on.map (·.2))) (gName i), fun X h => ?_, fun r σ O H B D f q => ?_⟩
  · exact ps_setLc (own := on) h.calm (by rw [h.N]; exact h.nd) (by rw [h.N]; exact hN) (by rw [h.sc]; exact hyl) (hsw _ h.sc) (pi X h) (by rw [h.N, h.sc]; exact blkOk_by hb) (fun s H C cl fp => pg _ (blk_is h scope hk s H C cl fp)) (fun s H C cl fp => pt _ (blk_is h scope hk s H C cl fp)) (fun s H C cl fp => pe _ (blk_is h scope hk s H C cl fp)) (hs _)
  · refine lc_read (scope := scope) ho ri rg rc re f ((SK.so (P := P) (σ := σ) q).imp fun u r1 O1 H1 B1 f1 g1 q1 pp vs ts e hO hs hp rp => ?_)
    subst e
    obtain ⟨x1, x2, x3⟩ := f1.give hO hs hp
    exact (show SK c j P' O1 H1 B1 D (.nx _) from q1) _ _ H1 _ (x1.set (.lst (.of upd_same) (rp.mono x3)) hi' h1 h2 hgg) x2
theorem sw_lc {elt : Expr} {gs : List Comprehension} {scope : Scope} {pos py : Pos} {y : Str} {l : Nat} {env : Env} {sc : Scope} (he : env.scope = sc) (hk : sc.kind = .function) (hy : sc.names.lookup y = some .local) (hl : (py.line == pos.line) = true)
    (ha : (scope.names.any fun (n, k) => n == y && (k == .local || k == .cell)) = false) : swapsWith (.ListComp elt gs scope pos) (some (.Name y py)) l env = pure true := sw_true (by rw [he]; exact hk) (by rw [he]; exact hy) hl ha
end
end Tc

/-! Tc: what operators and built-ins do with trees. -/
namespace Tc
open PySem PySem.Spec L2

/-- lists and texts stay below this -/
theorem lim_line {n : Nat} (h : n ≤ LIM) : n ≤ sizeLine := Nat.le_trans h (by rw [sizeLine_eq]; decide)
/-- a factor -/
def okSz (i : Int) : Bool := decide (i.natAbs.log2 < 60000000)
/-- a divisor -/
def okDv (i : Int) : Bool := decide (0 < i ∧ i.natAbs.log2 < 9000)
def mkL (ts : List T) : Option T := if ts.length ≤ LIM then some (.lst ts) else none
def addT : T → T → Option T
  | .int i, .int j => some (.int (i + j))
  | .str x, .str y => if x.length + y.length ≤ LIM then some (.str (x ++ y)) else none
  | .lst xs, .lst ys => if xs.length + ys.length ≤ LIM then some (.lst (xs ++ ys)) else none
  | .tup xs, .tup ys => if xs.length + ys.length ≤ LIM then some (.tup (xs ++ ys)) else none
  | _, _ => none
def subT : T → T → Option T
  | .int i, .int j => some (.int (i - j))
  | _, _ => none
def mulT : T → T → Option T
  | .int i, .int j => if (okSz i && okSz j) = true then some (.int (i * j)) else none
  | .lst xs, .int k => if 0 ≤ k ∧ k ≤ 1000000 ∧ xs.length * k.toNat ≤ LIM then some (.lst (List.replicate k.toNat xs).flatten) else none
  | _, _ => none
def fdivT : T → T → Option T
  | .int i, .int j => if okDv j = true then some (.int (i / j)) else none
  | _, _ => none
def modT : T → T → Option T
  | .int i, .int j => if 0 < j then some (.int (i % j)) else none
  | _, _ => none
def powT : T → T → Option T
  | .int i, .int j => if 0 ≤ j ∧ j ≤ 1000 ∧ i.natAbs.log2 < 100000 then some (.int (i ^ j.toNat)) else none
  | _, _ => none
def negT : T → Option T
  | .int i => some (.int (-i))
  | _ => none
def ltT : T → T → Option T
  | .int i, .int j => some (.bl (decide (i < j)))
  | _, _ => none
def leT : T → T → Option T
  | .int i, .int j => some (.bl (decide (i ≤ j)))
  | _, _ => none
def gtT : T → T → Option T
  | .int i, .int j => some (.bl (decide (j < i)))
  | _, _ => none
def geT : T → T → Option T
  | .int i, .int j => some (.bl (decide (j ≤ i)))
  | _, _ => none
/-- is None, is True, is False -/
def isB : T → T → Option Bool
  | .non, .non => some true
  | _, .non => some false
  | .bl a, .bl b => some (a == b)
  | .cls _, .bl _ => none
  | _, .bl _ => some false
  | _, _ => none
def isT (t u : T) : Option T := (isB t u).map .bl
def isNT (t u : T) : Option T := (isB t u).map fun b => .bl (!b)

section
variable {K : PySem.W.Frag} {X : Cx}
theorem op_catLs : OpR X (binaryOp .Add) (fun x y H Q => ∃ l b xs zs, x = .ref l ∧ y = .ref b ∧ LsAt X.K H l xs ∧ LsAt X.K H b zs ∧ xs.length + zs.length ≤ sizeLine ∧ ∀ p, H p = none → Q (.ref p) (upd H p (.lst (xs ++ zs)))) := by
  intro pins s σ H x y v u Q I rx ry h
  obtain ⟨l, b, xs, zs, rfl, rfl, hH, hB, hz, q⟩ := h
  cases rx
  cases ry
  obtain ⟨its, n, r, _, e⟩ := hH.obj I
  obtain ⟨its2, n2, r2, _, e2⟩ := hB.obj I
  have hl := r.length
  have hl2 := r2.length
  refine PySem.P.add_list e e2 ?_ (by rw [List.size_toArray, List.size_toArray]; omega)
  have ea : its.toArray ++ its2.toArray = (its ++ its2).toArray := by simp
  rw [ea]
  exact ⟨.ref _, _, I.lnew (t' := s.toks) (r.append r2) (by rw [List.length_append]; omega), rfl, q _ I.fresh⟩
abbrev rAddI : R2 := rI0 fun i j => .int (i + j)
def rAddS : R2 := fun x y H Q => ∃ i j, x = .str i ∧ y = .str j ∧ i.length + j.length ≤ sizeLine ∧ Q (.str (i ++ j)) H
def rAddL (K : PySem.W.Frag) : R2 := fun x y H Q => ∃ l b xs zs, x = .ref l ∧ y = .ref b ∧ LsAt K H l xs ∧ LsAt K H b zs ∧ xs.length + zs.length ≤ sizeLine ∧ ∀ p, H p = none → Q (.ref p) (upd H p (.lst (xs ++ zs)))
def rAdd4 (K : PySem.W.Frag) : R2 := fun x y H Q => rAddI x y H Q ∨ rAddS x y H Q ∨ rAddL K x y H Q ∨ rCatA K x y H Q
theorem op_add4 {c : SC} : ∀ X, c.Is X → OpR X (binaryOp .Add) (rAdd4 c.K) := fun X h => by
  have z := OpR.or (op_add (X := X)) (OpR.or op_add_str (OpR.or op_catLs op_catA))
  rw [h.K] at z; exact z
/-- a new tuple, a new list in the view -/
theorem Rep.newT {H B : Hp} {vs : List V} {ts : List T} (sB : Same B H) (r : Reps K B vs ts) {p : Addr} (n : H p = none) : Pu H B (upd H p (.tup vs)) (upd B p (.tup vs)) ∧ Rep K (upd B p (.tup vs)) (.ref p) (.tup ts) := by
  have pu : Pu H B (upd H p (.tup vs)) (upd B p (.tup vs)) := .new sB n
  exact ⟨pu, .tup (.inl (.inl upd_same)) (r.mono pu.bb)⟩
theorem Rep.newL {H B : Hp} {vs : List V} {ts : List T} (sB : Same B H) (r : Reps K B vs ts) {p : Addr} (n : H p = none) : Pu H B (upd H p (.lst vs)) (upd B p (.lst vs)) ∧ Rep K (upd B p (.lst vs)) (.ref p) (.lst ts) := by
  have pu : Pu H B (upd H p (.lst vs)) (upd B p (.lst vs)) := .new sB n
  exact ⟨pu, .lst (.of upd_same) (r.mono pu.bb)⟩
theorem sd_add : Sd2 K (rAdd4 K) addT := by
  intro H B x y t u z Q sB rx ry e q
  cases rx with
  | int i =>
    cases ry with
    | int j => cases e; exact .inl ⟨i, j, rfl, rfl, q _ H B (.refl sB) (.int _)⟩
    | _ => cases e
  | str i =>
    cases ry with
    | str j =>
      simp only [addT] at e
      split at e
      · rename_i hz
        cases e
        exact .inr (.inl ⟨i, j, rfl, rfl, lim_line hz, q _ H B (.refl sB) (.str _)⟩)
      · cases e
    | _ => cases e
  | lst s r =>
    cases ry with
    | lst s2 r2 =>
      simp only [addT] at e
      split at e
      · rename_i hz
        cases e
        refine .inr (.inr (.inl ⟨_, _, _, _, rfl, rfl, s.mono sB, s2.mono sB, by rw [r.length, r2.length]; exact lim_line hz, fun p hp => ?_⟩))
        obtain ⟨pu, rp⟩ := Rep.newL sB (r.append r2) hp
        exact q _ _ _ pu rp
      · cases e
    | _ => cases e
  | tup s r =>
    cases ry with
    | tup s2 r2 =>
      simp only [addT] at e
      split at e
      · rename_i hz
        cases e
        refine .inr (.inr (.inr ⟨_, _, _, _, rfl, rfl, same_tup sB s, same_tup sB s2, by rw [r.length, r2.length]; exact lim_line hz, fun h => ?_, fun h1 h2 => ?_, fun h1 h2 p hp => ?_⟩))
        · subst h
          cases r
          exact q _ H B (.refl sB) (.tup s2 r2)
        · subst h2
          cases r2
          rw [List.append_nil] at q
          exact q _ H B (.refl sB) (.tup s r)
        · obtain ⟨pu, rp⟩ := Rep.newT sB (r.append r2) hp
          exact q _ _ _ pu rp
      · cases e
    | _ => cases e
  | _ => cases e
/-- list + list alone, its list new -/
def catT : T → T → Option T
  | .lst xs, .lst ys => if xs.length + ys.length ≤ LIM then some (.lst (xs ++ ys)) else none
  | _, _ => none
theorem op_addL {c : SC} : ∀ X, c.Is X → OpR X (binaryOp .Add) (rAddL c.K) := fun X h => by
  have z := op_catLs (X := X)
  rw [h.K] at z; exact z
theorem sf_cat : Sf2 K (rAddL K) catT := by
  intro H B x y t u z Q sB rx ry e q
  cases rx with
  | lst s r =>
    cases ry with
    | lst s2 r2 =>
      simp only [catT] at e
      split at e
      · rename_i hz
        cases e
        exact ⟨_, _, _, _, rfl, rfl, s.mono sB, s2.mono sB, by rw [r.length, r2.length]; exact lim_line hz, fun p hp => q p _ _ _ rfl (.hid sB hp) hp upd_same (r.append r2)⟩
      · cases e
    | _ => cases e
  | _ => cases e
theorem sd_sub : Sd2 K (rI0 fun i j => .int (i - j)) subT := by
  intro H B x y t u z Q sB rx ry e q
  cases rx with
  | int i =>
    cases ry with
    | int j => cases e; exact ⟨i, j, rfl, rfl, q _ H B (.refl sB) (.int _)⟩
    | _ => cases e
  | _ => cases e
theorem okSz_bits {i : Int} (h : okSz i = true) : Builtin.Int.intBits i ≤ 60000000 := by
  have := of_decide_eq_true h
  unfold Builtin.Int.intBits
  split <;> omega
def rMul2 (K : PySem.W.Frag) : R2 := fun x y H Q => rI CMulX (fun i j => .int (i * j)) x y H Q ∨ ∃ l k xs, x = .ref l ∧ y = .int k ∧ LsAt K H l xs ∧ 0 ≤ k ∧ k ≤ 1000000 ∧ xs.length * k.toNat ≤ sizeLine ∧ ∀ p, H p = none → Q (.ref p) (upd H p (.lst (List.replicate k.toNat xs).flatten))
theorem sd_fdiv : Sd2 K (rI CDivW fun i j => .int (i / j)) fdivT := by
  intro H B x y t u z Q sB rx ry e q
  cases rx with
  | int i =>
    cases ry with
    | int j =>
      simp only [fdivT] at e
      split at e
      · rename_i hz
        cases e
        exact ⟨i, j, rfl, rfl, (show 0 < j ∧ j.natAbs.log2 < 9000 from of_decide_eq_true hz), q _ H B (.refl sB) (.int _)⟩
      · cases e
    | _ => cases e
  | _ => cases e
theorem sd_mod : Sd2 K (rI (fun _ j => 0 < j) fun i j => .int (i % j)) modT := by
  intro H B x y t u z Q sB rx ry e q
  cases rx with
  | int i =>
    cases ry with
    | int j =>
      simp only [modT] at e
      split at e
      · rename_i hz
        cases e
        exact ⟨i, j, rfl, rfl, hz, q _ H B (.refl sB) (.int _)⟩
      · cases e
    | _ => cases e
  | _ => cases e
def CPowW (i j : Int) : Prop := 0 ≤ j ∧ j ≤ 1000 ∧ i.natAbs.log2 < 100000
theorem op_powW : OpR X (binaryOp .Pow) (rI CPowW fun i j => .int (i ^ j.toNat)) := opI fun i j _ _ _ _ _ hc q => by
  obtain ⟨h0, h1, h2⟩ := hc
  refine PyProof.Rows.pow_int h0 ?_ q
  have hb : Builtin.Int.intBits i ≤ 100000 := by unfold Builtin.Int.intBits; split <;> omega
  have : (Builtin.Int.intBits i : Int) * j ≤ 100000 * 1000 := Int.mul_le_mul (by omega) h1 h0 (by omega)
  omega
theorem sd_pow : Sd2 K (rI CPowW fun i j => .int (i ^ j.toNat)) powT := by
  intro H B x y t u z Q sB rx ry e q
  cases rx with
  | int i =>
    cases ry with
    | int j =>
      simp only [powT] at e
      split at e
      · rename_i hz
        cases e
        exact ⟨i, j, rfl, rfl, hz, q _ H B (.refl sB) (.int _)⟩
      · cases e
    | _ => cases e
  | _ => cases e
theorem sd_neg : Sd1 K (rU fun i => .int (-i)) negT := by
  intro H B x t z Q sB rx e q
  cases rx with
  | int i => cases e; exact ⟨i, rfl, q _ H B (.refl sB) (.int _)⟩
  | _ => cases e
theorem sd_int {f : T → T → Option T} {g : Int → Int → Bool} (h : ∀ i j, f (.int i) (.int j) = some (.bl (g i j))) (hn : ∀ t u z, f t u = some z → ∃ i j, t = .int i ∧ u = .int j) : Sd2 K (rI0 fun i j => .bl (g i j)) f := by
  intro H B x y t u z Q sB rx ry e q
  obtain ⟨i, j, rfl, rfl⟩ := hn t u z e
  cases rx
  cases ry
  rw [h] at e
  cases e
  exact ⟨i, j, rfl, rfl, q _ H B (.refl sB) (.bl _)⟩
theorem sd_lt : Sd2 K (rI0 fun i j => .bl (decide (i < j))) ltT := sd_int (fun _ _ => rfl) fun t u z e => by cases t <;> cases u <;> first | exact ⟨_, _, rfl, rfl⟩ | cases e
theorem sd_le : Sd2 K (rI0 fun i j => .bl (decide (i ≤ j))) leT := sd_int (fun _ _ => rfl) fun t u z e => by cases t <;> cases u <;> first | exact ⟨_, _, rfl, rfl⟩ | cases e
theorem sd_gt : Sd2 K (rI0 fun i j => .bl (decide (j < i))) gtT := sd_int (fun _ _ => rfl) fun t u z e => by cases t <;> cases u <;> first | exact ⟨_, _, rfl, rfl⟩ | cases e
theorem sd_ge : Sd2 K (rI0 fun i j => .bl (decide (j ≤ i))) geT := sd_int (fun _ _ => rfl) fun t u z e => by cases t <;> cases u <;> first | exact ⟨_, _, rfl, rfl⟩ | cases e

/-! ### is -/
def vIs (x y : V) : Bool := match x, y with
  | .non, .non => true
  | .bl a, .bl b => a == b
  | _, _ => false
def vCon : V → Bool
  | .non => true
  | .bl _ => true
  | _ => false
theorem op_isC : OpR X (compareOp .Is) (fun x y H Q => vCon y = true ∧ Q (.bl (vIs x y)) H) := by
  intro pins s σ H x y v u Q I rx ry h
  obtain ⟨hc, q⟩ := h
  cases y with
  | non =>
    refine op_isN pins s σ H x .non v u Q I rx ry ⟨rfl, ?_⟩
    cases x <;> exact q
  | bl b =>
    cases (show u = Value.bool b from ry)
    cases x with
    | bl a =>
      cases (show v = Value.bool a from rx)
      refine op_is_bl pins s σ H (.bl a) (.bl b) _ _ Q I rfl rfl ⟨a, b, rfl, rfl, ?_⟩
      have e : decide (a = b) = (a == b) := by cases a <;> cases b <;> rfl
      rw [e]; exact q
    | non => cases (show v = Value.none from rx); exact wpAny_pure ⟨.bl false, H, I, rfl, q⟩
    | int i => obtain ⟨t, e⟩ := (show ∃ t, v = Value.int i t from rx); cases e; exact wpAny_pure ⟨.bl false, H, I, rfl, q⟩
    | str i => obtain ⟨t, e⟩ := (show ∃ t, v = Value.str i t from rx); cases e; exact wpAny_pure ⟨.bl false, H, I, rfl, q⟩
    | byt i => obtain ⟨t, e⟩ := (show ∃ t, v = Value.bytes i t from rx); cases e; exact wpAny_pure ⟨.bl false, H, I, rfl, q⟩
    | flt i => obtain ⟨t, e⟩ := (show ∃ t, v = Value.float i t from rx); cases e; exact wpAny_pure ⟨.bl false, H, I, rfl, q⟩
    | ref a => cases (show v = Value.ref a from rx); exact wpAny_pure ⟨.bl false, H, I, rfl, q⟩
    | ty n => cases (show v = Value.type n from rx); exact wpAny_pure ⟨.bl false, H, I, rfl, q⟩
  | _ => cases hc
theorem op_isnotC : OpR X (compareOp .IsNot) (fun x y H Q => vCon y = true ∧ Q (.bl (!vIs x y)) H) := by
  intro pins s σ H x y v u Q I rx ry h
  obtain ⟨hc, q⟩ := h
  cases y with
  | non =>
    refine op_notN pins s σ H x .non v u Q I rx ry ⟨rfl, ?_⟩
    cases x <;> exact q
  | bl b =>
    cases (show u = Value.bool b from ry)
    cases x with
    | bl a =>
      cases (show v = Value.bool a from rx)
      refine op_isnot_bl pins s σ H (.bl a) (.bl b) _ _ Q I rfl rfl ⟨a, b, rfl, rfl, ?_⟩
      have e : decide (a = b) = (a == b) := by cases a <;> cases b <;> rfl
      rw [e]; exact q
    | non => cases (show v = Value.none from rx); exact wpAny_pure ⟨.bl true, H, I, rfl, q⟩
    | int i => obtain ⟨t, e⟩ := (show ∃ t, v = Value.int i t from rx); cases e; exact wpAny_pure ⟨.bl true, H, I, rfl, q⟩
    | str i => obtain ⟨t, e⟩ := (show ∃ t, v = Value.str i t from rx); cases e; exact wpAny_pure ⟨.bl true, H, I, rfl, q⟩
    | byt i => obtain ⟨t, e⟩ := (show ∃ t, v = Value.bytes i t from rx); cases e; exact wpAny_pure ⟨.bl true, H, I, rfl, q⟩
    | flt i => obtain ⟨t, e⟩ := (show ∃ t, v = Value.float i t from rx); cases e; exact wpAny_pure ⟨.bl true, H, I, rfl, q⟩
    | ref a => cases (show v = Value.ref a from rx); exact wpAny_pure ⟨.bl true, H, I, rfl, q⟩
    | ty n => cases (show v = Value.type n from rx); exact wpAny_pure ⟨.bl true, H, I, rfl, q⟩
  | _ => cases hc
theorem is_vis {B : Hp} {x y : V} {t u : T} {b : Bool} (rx : Rep K B x t) (ry : Rep K B y u) (e : isB t u = some b) : vCon y = true ∧ vIs x y = b := by
  cases ry <;> first
    | (cases rx <;> first | (cases e; exact ⟨rfl, rfl⟩) | (cases e))
    | (cases t <;> cases e)
theorem sd_is : Sd2 K (fun x y H Q => vCon y = true ∧ Q (.bl (vIs x y)) H) isT := by
  intro H B x y t u z Q sB rx ry e q
  unfold isT at e
  cases h : isB t u with
  | none => rw [h] at e; cases e
  | some b =>
    rw [h] at e
    cases e
    obtain ⟨h1, h2⟩ := is_vis rx ry h
    exact ⟨h1, h2 ▸ q _ H B (.refl sB) (.bl _)⟩
theorem sd_isnot : Sd2 K (fun x y H Q => vCon y = true ∧ Q (.bl (!vIs x y)) H) isNT := by
  intro H B x y t u z Q sB rx ry e q
  unfold isNT at e
  cases h : isB t u with
  | none => rw [h] at e; cases e
  | some b =>
    rw [h] at e
    cases e
    obtain ⟨h1, h2⟩ := is_vis rx ry h
    exact ⟨h1, h2 ▸ q _ H B (.refl sB) (.bl _)⟩

/-! ### == -/
mutual
/-- as data -/
def toD : T → PyData
  | .bl b => .bool b
  | .int i => .int i
  | .str x => .str x
  | .lst xs => .list (toDs xs)
  | .tup xs => .tuple (toDs xs)
  | _ => .none
def toDs : List T → List PyData
  | [] => []
  | t :: ts => toD t :: toDs ts
end
mutual
/-- data, nested less than n deep -/
def dOk : Nat → T → Bool
  | _, .non => true
  | _, .bl _ => true
  | _, .int _ => true
  | _, .str x => x.cps.all (· < 0x110000)
  | n + 1, .lst xs => dOks n xs
  | n + 1, .tup xs => dOks n xs
  | _, _ => false
def dOks : Nat → List T → Bool
  | _, [] => true
  | n, t :: ts => dOk n t && dOks n ts
end
mutual
def eqB : T → T → Bool
  | .non, .non => true
  | .bl a, .bl b => a == b
  | .bl a, .int j => (if a then 1 else 0) == j
  | .int i, .bl b => i == (if b then 1 else 0)
  | .int i, .int j => i == j
  | .str x, .str y => x == y
  | .lst xs, .lst ys => eqBs xs ys
  | .tup xs, .tup ys => eqBs xs ys
  | _, _ => false
def eqBs : List T → List T → Bool
  | [], [] => true
  | x :: xs, y :: ys => eqB x y && eqBs xs ys
  | _, _ => false
end
def eqT (t u : T) : Option T := if (dOk 30 t && dOk 30 u) = true then some (.bl (eqB t u)) else none
def neT (t u : T) : Option T := if (dOk 30 t && dOk 30 u) = true then some (.bl (!eqB t u)) else none

end
section
variable {K : PySem.W.Frag} {X : Cx}
mutual
theorem dp_of {B : Hp} : ∀ (n : Nat) {v : V} {t : T}, Rep K B v t → dOk n t = true → Dp K B v (toD t)
  | _, _, _, .non, _ => .non
  | _, _, _, .bl b, _ => .bl b
  | _, _, _, .int i, _ => .int i
  | _, _, _, .str x, _ => .str x
  | n + 1, _, _, .lst s r, h => .lst s.sq (dps_of n r h)
  | n + 1, _, _, .tup s r, h => .tup s (dps_of n r h)
  | 0, _, _, .lst s r, h => nomatch h
  | 0, _, _, .tup s r, h => nomatch h
  | 0, _, _, .emp _, h => nomatch h
  | _ + 1, _, _, .emp _, h => nomatch h
  | 0, _, _, .ty _, h => nomatch h
  | _ + 1, _, _, .ty _, h => nomatch h
  | 0, _, _, .cls _, h => nomatch h
  | _ + 1, _, _, .cls _, h => nomatch h
  | 0, _, _, .exc _ _ _, h => nomatch h
  | _ + 1, _, _, .exc _ _ _, h => nomatch h
  | 0, _, _, .clo _ _ _ _ _, h => nomatch h
  | _ + 1, _, _, .clo _ _ _ _ _, h => nomatch h
theorem dps_of {B : Hp} : ∀ (n : Nat) {vs : List V} {ts : List T}, Reps K B vs ts → dOks n ts = true → DpAll K B vs (toDs ts)
  | _, _, _, .nil, _ => .nil
  | n, _, _, .cons r rs, h => .cons (dp_of n r (Bool.and_eq_true_iff.mp h).1) (dps_of n rs (Bool.and_eq_true_iff.mp h).2)
end
mutual
theorem toD_lay : ∀ (n : Nat) (t : T), dOk n t = true → (toD t).canLay0 = true ∧ (toD t).depth ≤ n
  | n, .non, _ => ⟨rfl, Nat.zero_le _⟩
  | n, .bl _, _ => ⟨rfl, Nat.zero_le _⟩
  | n, .int _, _ => ⟨rfl, Nat.zero_le _⟩
  | n, .str x, h => by
    refine ⟨?_, Nat.zero_le _⟩
    cases n <;> exact h
  | n + 1, .lst xs, h => by
    obtain ⟨h1, h2⟩ := toDs_lay n xs h
    exact ⟨h1, by show PyData.depth (.list (toDs xs)) ≤ n + 1; unfold PyData.depth; omega⟩
  | n + 1, .tup xs, h => by
    obtain ⟨h1, h2⟩ := toDs_lay n xs h
    exact ⟨h1, by show PyData.depth (.tuple (toDs xs)) ≤ n + 1; unfold PyData.depth; omega⟩
theorem toDs_lay : ∀ (n : Nat) (ts : List T), dOks n ts = true → PyData.canLayAll0 (toDs ts) = true ∧ PyData.depthAll (toDs ts) ≤ n
  | n, [], _ => ⟨rfl, Nat.zero_le _⟩
  | n, t :: ts, h => by
    obtain ⟨h1, h2⟩ := Bool.and_eq_true_iff.mp (show (dOk n t && dOks n ts) = true from h)
    obtain ⟨a1, a2⟩ := toD_lay n t h1
    obtain ⟨b1, b2⟩ := toDs_lay n ts h2
    refine ⟨Bool.and_eq_true_iff.mpr ⟨a1, b1⟩, ?_⟩
    show PyData.depthAll (toD t :: toDs ts) ≤ n
    unfold PyData.depthAll
    omega
end

mutual
theorem eqv_eq : ∀ (n m : Nat) (t u : T), dOk n t = true → dOk m u = true → PyData.eqv (toD t) (toD u) = eqB t u
  | n, m, .lst xs, u, h, h' => by
    cases u with
    | lst ys =>
      cases n with
      | zero => cases h
      | succ n =>
        cases m with
        | zero => cases h'
        | succ m => exact eqvs_eq n m xs ys h h'
    | _ => first | rfl | (cases m <;> cases h')
  | n, m, .tup xs, u, h, h' => by
    cases u with
    | tup ys =>
      cases n with
      | zero => cases h
      | succ n =>
        cases m with
        | zero => cases h'
        | succ m => exact eqvs_eq n m xs ys h h'
    | _ => first | rfl | (cases m <;> cases h')
  | _, _, .non, u, _, h' => by cases u <;> first | rfl | (rename_i m _ _; cases m <;> cases h') | (rename_i m _; cases m <;> cases h')
  | _, _, .bl _, u, _, h' => by cases u <;> first | rfl | (rename_i m _ _; cases m <;> cases h') | (rename_i m _; cases m <;> cases h')
  | _, _, .int _, u, _, h' => by cases u <;> first | rfl | (rename_i m _ _; cases m <;> cases h') | (rename_i m _; cases m <;> cases h')
  | _, _, .str _, u, _, h' => by cases u <;> first | rfl | (rename_i m _ _; cases m <;> cases h') | (rename_i m _; cases m <;> cases h')
  | n, _, .emp, _, h, _ => by cases n <;> cases h
  | n, _, .exc _ _, _, h, _ => by cases n <;> cases h
  | n, _, .clo _ _, _, h, _ => by cases n <;> cases h
  | n, _, .ty _, _, h, _ => by cases n <;> cases h
  | n, _, .cls _, _, h, _ => by cases n <;> cases h
theorem eqvs_eq : ∀ (n m : Nat) (ts us : List T), dOks n ts = true → dOks m us = true → PyData.eqvAll (toDs ts) (toDs us) = eqBs ts us
  | _, _, [], [], _, _ => rfl
  | _, _, [], _ :: _, _, _ => rfl
  | _, _, _ :: _, [], _, _ => rfl
  | n, m, t :: ts, u :: us, h, h' => by
    obtain ⟨h1, h2⟩ := Bool.and_eq_true_iff.mp (show (dOk n t && dOks n ts) = true from h)
    obtain ⟨k1, k2⟩ := Bool.and_eq_true_iff.mp (show (dOk m u && dOks m us) = true from h')
    have a := eqv_eq n m t u h1 k1
    have b := eqvs_eq n m ts us h2 k2
    show (PyData.eqv (toD t) (toD u) && PyData.eqvAll (toDs ts) (toDs us)) = (eqB t u && eqBs ts us)
    rw [a, b]
end
end
section
variable {K : PySem.W.Frag} {X : Cx}
theorem shaped_of {n : Nat} {t : T} (h : dOk n t = true) (hn : n ≤ 64) : SeqAt.shaped (toD t) = true := by
  obtain ⟨h1, h2⟩ := toD_lay n t h
  exact Bool.and_eq_true_iff.mpr ⟨h1, decide_eq_true (Nat.le_trans h2 hn)⟩
theorem op_eqK {c : SC} : ∀ X, c.Is X → OpR X (compareOp .Eq) (rEqD c.K) := fun X h => by
  have z := op_eqD (X := X) (h.room.units)
  rw [h.K] at z; exact z
theorem op_neK {c : SC} : ∀ X, c.Is X → OpR X (compareOp .NotEq) (rNeD c.K) := fun X h => by
  have z := op_neD (X := X) (h.room.units)
  rw [h.K] at z; exact z
theorem sd_eq : Sd2 K (rEqD K) eqT := by
  intro H B x y t u z Q sB rx ry e q
  unfold eqT at e
  split at e
  · rename_i h
    cases e
    obtain ⟨h1, h2⟩ := Bool.and_eq_true_iff.mp h
    refine ⟨toD t, toD u, dp_of 30 (rx.mono sB) h1, dp_of 30 (ry.mono sB) h2, shaped_of h1 (by decide), shaped_of h2 (by decide), ?_⟩
    rw [eqv_eq 30 30 t u h1 h2]
    exact q _ H B (.refl sB) (.bl _)
  · cases e
theorem sd_ne : Sd2 K (rNeD K) neT := by
  intro H B x y t u z Q sB rx ry e q
  unfold neT at e
  split at e
  · rename_i h
    cases e
    obtain ⟨h1, h2⟩ := Bool.and_eq_true_iff.mp h
    refine ⟨toD t, toD u, dp_of 30 (rx.mono sB) h1, dp_of 30 (ry.mono sB) h2, shaped_of h1 (by decide), shaped_of h2 (by decide), ?_⟩
    rw [eqv_eq 30 30 t u h1 h2]
    exact q _ H B (.refl sB) (.bl _)
  · cases e
/-! ### * -/
theorem op_repLs : OpR X (binaryOp .Mult) (fun x y H Q => ∃ l k xs, x = .ref l ∧ y = .int k ∧ LsAt X.K H l xs ∧ 0 ≤ k ∧ k ≤ 1000000 ∧ xs.length * k.toNat ≤ sizeLine ∧ ∀ p, H p = none → Q (.ref p) (upd H p (.lst (List.replicate k.toNat xs).flatten))) := by
  intro pins s σ H x y v u Q I rx ry h
  obtain ⟨l, k, xs, rfl, rfl, hL, h0, h1, hz, q⟩ := h
  cases rx
  obtain ⟨t, rfl⟩ := ry
  obtain ⟨its, n, r, zz, e⟩ := hL.obj I
  have hl := r.length
  have hlen : its.toArray.size * k.toNat ≤ sizeLine := by rw [List.size_toArray, ← hl]; exact hz
  have hcap : ¬ its.toArray.size * k.toNat > (2 ^ 63 - 1) / 8 := by
    have : (sizeLine : Nat) ≤ (2 ^ 63 - 1) / 8 := by decide
    omega
  have hfit : ¬ (!Builtin.List.listFitsIndex k) = true := by
    rw [PySem.fitsIndex_both (by omega) (by omega)]
    exact Bool.false_ne_true
  have hlong : ¬ Builtin.List.listTooLong (its.toArray.size * k.toNat) = true := by
    rw [notLongL hlen]
    exact Bool.false_ne_true
  have hnew : List.foldl (fun x1 x2 => x1 ++ x2) #[] (List.replicate (if its.toArray.isEmpty = true then 0 else k.toNat) its.toArray) = (List.replicate k.toNat its).flatten.toArray := by
    have f0 : ∀ m : Nat, List.foldl (fun x1 x2 => x1 ++ x2) #[] (List.replicate m its.toArray) = (List.replicate m its).flatten.toArray := fun m => by
      have := foldl_rep its m []
      rw [List.nil_append] at this
      exact this
    rw [f0]
    cases its with
    | nil => simp
    | cons a r' => rw [if_neg (by simp)]
  refine wpAny_binaryOp_repeat_ref (T := "list") (U := "int") (by decide) ⟨_, e, rfl⟩ (fun s' => typeIs_int s' k t) PySem.noFill_list_mul PySem.F.fills_int_mul PySem.F.slot_int_rmul PySem.repeat_list PySem.F.slot_int_index.lookup
    (call_meets PySem.F.slot_int_rmul (typeIs_int s k t) PySem.F.entry_int_rmul (PySem.F.args_int_rmul_2 _ _) (int___rmul___int_list k t l its.toArray n)
      ⟨e, rfl, ⟨_, e, rfl⟩, call_meets PySem.F.slot_list_mul ⟨_, e, rfl⟩ PySem.F.entry_list_mul (PySem.F.args_list_mul_2 _ _) (AutoListH.list___mul___list_int_3 l its.toArray n k t hfit hcap hlong) ⟨e, ?_⟩⟩)
  rw [hnew]
  exact ⟨.ref _, _, I.lnew (t' := s.toks) (r.rep k.toNat) (by rw [PyProof.Rows.lm_len_rep_flat, Nat.mul_comm]; exact hz), rfl, q _ I.fresh⟩
theorem op_mul2 {c : SC} : ∀ X, c.Is X → OpR X (binaryOp .Mult) (rMul2 c.K) := fun X h => by
  have z := OpR.or (op_mulX (X := X)) op_repLs
  rw [h.K] at z; exact z
theorem Reps.rep {B : Hp} {vs : List V} {ts : List T} (r : Reps K B vs ts) : ∀ n : Nat, Reps K B (List.replicate n vs).flatten (List.replicate n ts).flatten
  | 0 => .nil
  | n + 1 => by
    rw [List.replicate_succ, List.replicate_succ, List.flatten_cons, List.flatten_cons]
    exact r.append (Reps.rep r n)
theorem sd_mul : Sd2 K (rMul2 K) mulT := by
  intro H B x y t u z Q sB rx ry e q
  cases rx with
  | int i =>
    cases ry with
    | int j =>
      simp only [mulT] at e
      split at e
      · rename_i hz
        cases e
        obtain ⟨h1, h2⟩ := Bool.and_eq_true_iff.mp hz
        have b1 := okSz_bits h1
        have b2 := okSz_bits h2
        exact .inl ⟨i, j, rfl, rfl, (by unfold CMulX; omega), q _ H B (.refl sB) (.int _)⟩
      · cases e
    | _ => cases e
  | lst s r =>
    cases ry with
    | int j =>
      simp only [mulT] at e
      split at e
      · rename_i hz
        cases e
        obtain ⟨h1, h2, h3⟩ := hz
        refine .inr ⟨_, j, _, rfl, rfl, s.mono sB, h1, h2, by rw [r.length]; exact lim_line h3, fun p hp => ?_⟩
        obtain ⟨pu, rp⟩ := Rep.newL sB (r.rep j.toNat) hp
        exact q _ _ _ pu rp
      · cases e
    | _ => cases e
  | _ => cases e
/-- [..] * n, its list new -/
def repT : T → T → Option T
  | .lst xs, .int k => if 0 ≤ k ∧ k ≤ 1000000 ∧ xs.length * k.toNat ≤ LIM then some (.lst (List.replicate k.toNat xs).flatten) else none
  | _, _ => none
theorem sf_rep : Sf2 K (rMul2 K) repT := by
  intro H B x y t u z Q sB rx ry e q
  cases rx with
  | lst s r =>
    cases ry with
    | int j =>
      simp only [repT] at e
      split at e
      · rename_i hz
        cases e
        obtain ⟨h1, h2, h3⟩ := hz
        exact .inr ⟨_, j, _, rfl, rfl, s.mono sB, h1, h2, by rw [r.length]; exact lim_line h3, fun p hp => q p _ _ _ rfl (.hid sB hp) hp upd_same (r.rep j.toNat)⟩
      · cases e
    | _ => cases e
  | _ => cases e
end
end Tc

/-! Tc: places, slices, displays, built-ins. -/
namespace Tc
open PySem PySem.Spec L2

section
variable {c : SC} {P : List Nat} {σ : L2.St} {a b d e : Expr} {es : List Expr} {Fa Fb F : Ec} {A : Ac} {pos p q : Pos}

/-! ### x[i] -/
def strAt (x : Str) (i : Int) : Option T := match atI x.cps.toList i with
  | some k => some (.str ⟨#[k]⟩)
  | none => none
def ixT : T → T → Option T
  | .lst xs, .int i => atI xs i
  | .tup xs, .int i => atI xs i
  | .str x, .int i => if x.length ≤ LIM then strAt x i else none
  | _, _ => none
theorem atI_reps {K : PySem.W.Frag} {B : Hp} {vs : List V} {ts : List T} {i : Int} {t : T} (r : Reps K B vs ts) (h : atI ts i = some t) : ∃ v, atI vs i = some v ∧ Rep K B v t := by
  unfold atI at h ⊢
  rw [r.length]
  cases z : ixN ts.length i with
  | none => rw [z] at h; cases h
  | some j =>
    rw [z] at h
    exact r.get h
theorem ix_K : ∀ X, c.Is X → IxR X (rIx c.K) := fun X h => by
  have z := ix_seq (X := X)
  rw [h.K] at z; exact z
theorem sd_ix {K : PySem.W.Frag} : Sd2 K (rIx K) ixT := by
  intro H B x y t u z Q sB rx ry e q
  cases rx with
  | lst s r =>
    cases ry with
    | int i =>
      obtain ⟨v, e1, e2⟩ := atI_reps r e
      exact .inl ⟨_, _, i, v, rfl, rfl, (s.mono sB).sq, e1, q v H B (.refl sB) e2⟩
    | _ => cases e
  | tup s r =>
    cases ry with
    | int i =>
      obtain ⟨v, e1, e2⟩ := atI_reps r e
      exact .inr (.inl ⟨_, _, i, v, rfl, rfl, same_tup sB s, e1, q v H B (.refl sB) e2⟩)
    | _ => cases e
  | str s =>
    cases ry with
    | int i =>
      simp only [ixT] at e
      split at e
      · rename_i hz
        unfold strAt at e
        split at e
        · rename_i k hk
          cases e
          exact .inr (.inr ⟨s, i, k, rfl, rfl, lim_line hz, hk, q _ H B (.refl sB) (.str _)⟩)
        · cases e
      · cases e
    | _ => cases e
  | _ => cases e
theorem ej_ix (ha : EJ c P a Fa) (hb : EJ c P b Fb) (hs : PlainIx b := by intro _ _; rfl) : EJ c P (.Subscript a b pos) (cBin ixT Fa Fb) := by
  obtain ⟨ta, pa, ra⟩ := ha.ex
  obtain ⟨tb, pb, rb⟩ := hb.ex
  refine ⟨tOp (rIx c.K) ta tb, fun X h => pe_ix (ix_K X h) (pa X h) (pb X h) hs, fun r σ O H B Q fr q => ?_⟩
  refine ra r σ O H B _ fr ((PK.bind q).imp fun t r1 O1 H1 B1 f1 g1 q1 v rv => ?_)
  refine rb r1 σ O1 H1 B1 _ f1 ((PK.bind q1).imp fun u r2 O2 H2 B2 f2 g2 q2 w rw' => ?_)
  obtain ⟨z, ez, q3⟩ := PK.opt q2
  exact sd_ix H2 B2 v w t u z Q f2.sub (rv.mono g2.bb) rw' ez fun v' H' B' p rp => q3.pu f2 p v' rp
/-- x[i], x owned: an item is given as it stands -/
def cPix (i : Nat) (Fb : Ec) : Ec := fun r => (Fb r).bind fun k r1 => match r1[i]? with
  | some (some (.lst ts)) => (match k with
    | .int n => Out.opt r1 (atI ts n)
    | _ => .no)
  | _ => .no
theorem ej_pix (i : Nat) {x : Str} (hb : EJ c P b Fb) (hN : c.N[i]? = some x := by rfl) (hv : Vis c.sc x := by first | exact Or.inl rfl | exact Or.inr (Or.inl rfl) | exact Or.inr (Or.inr rfl)) (hP : i ∈ P := by decide)
    (hs : PlainIx b := by intro _ _; rfl) (hd : (x == ("__debug__" : Str)) = false := by decide) (hcd : (x == ("__classdict__" : Str)) = false := by decide) : EJ c P (.Subscript (.Name x p) b pos) (cPix i Fb) := by
  obtain ⟨tb, pb, rb⟩ := hb.ex
  refine ⟨tOp (rIx c.K) (tVar i) tb, fun X h => pe_ix (ix_K X h) (pe_var (by rw [h.N]; exact hN) (by rw [h.sc]; exact hv) hd hcd) (pb X h) hs, fun r σ O H B Q fr q => ?_⟩
  obtain ⟨g, ws, us, e1, e2, e3, e4, e5⟩ := fr.prv i hP
  refine ⟨.ref g, e2, rb r σ O H B _ fr ((PK.bind q).imp fun u r2 O2 H2 B2 f2 g2 q2 w rw' => ?_)⟩
  obtain ⟨g', ws', us', x1, x2, x3, x4, x5⟩ := f2.prv i hP
  rw [e2] at x2
  cases x2
  simp only [x1] at q2
  cases rw' with
  | int n =>
    obtain ⟨z, ez, q3⟩ := PK.opt q2
    obtain ⟨v, h1, h2⟩ := atI_reps x5 ez
    exact .inl ⟨g, ws', n, v, rfl, rfl, .inl (.inl x4), h1, PK.at q3 f2 v h2⟩
  | _ => exact (show False from q2).elim

/-! ### displays -/
def cTup (A : Ac) : Ec := fun r => (A r).bind fun ts r1 => if ts.length ≤ LIM then .ok (.tup ts) r1 else .no
def cLst (A : Ac) : Ec := fun r => (A r).bind fun ts r1 => if ts.length ≤ LIM then .ok (.lst ts) r1 else .no
theorem ej_tup {x1} (ha : AJ c P es A) : EJ c P (.Tuple es x1 pos) (cTup A) := by
  obtain ⟨t, pt, rt⟩ := ha.ex
  refine ⟨tTup t, fun X h => pe_tup (pt X h), fun r σ O H B Q fr q => ?_⟩
  refine rt r σ O H B _ fr ((PK.bind q).imp fun ts r1 O1 H1 B1 f1 g1 q1 vs rv => ?_)
  by_cases hz : ts.length ≤ LIM
  · rw [if_pos hz] at q1
    refine ⟨by rw [rv.length]; exact lim_line hz, fun p hp => ?_⟩
    obtain ⟨pu, rp⟩ := Rep.newT f1.sub rv hp
    exact q1.pu f1 pu _ rp
  · rw [if_neg hz] at q1
    exact (show False from q1).elim
theorem fj_lst (ha : AJ c P es A) : FJ c P (.List es pos) (cLst A) := by
  obtain ⟨t, pt, rt⟩ := ha.ex
  refine ⟨tLst t, fun X h => pe_lst (pt X h), fun r σ O H B Q fr q => ?_⟩
  refine rt r σ O H B _ fr ((PK.bind q).imp fun ts r1 O1 H1 B1 f1 g1 q1 vs rv => ?_)
  by_cases hz : ts.length ≤ LIM
  · rw [if_pos hz] at q1
    refine ⟨by rw [rv.length]; exact lim_line hz, fun p hp => ?_⟩
    refine q1 _ _ B1 (f1.own (.hid f1.sub hp) hp ⟨_, upd_same⟩) (.own (.hid f1.sub hp) hp) p vs ts rfl (.inr rfl) (fun i hi z => ?_) upd_same rv
    obtain ⟨p', _, _, _, h2, _, h4, _⟩ := f1.prv i hi
    rw [h2] at z
    cases z
    rw [hp] at h4; cases h4
  · rw [if_neg hz] at q1
    exact (show False from q1).elim
theorem ej_lst (ha : AJ c P es A) : EJ c P (.List es pos) (cLst A) := (fj_lst ha).ej

/-! ### built-ins -/
theorem ej_callB {x : Str} {id : String} {rr : List V → Hp → VK → Prop} {f : List T → Option T} (hc : ∀ X, c.Is X → CallR X (.builtin id) rr) (hf : SdA c.K rr f) (ha : AJ c P (e :: es) A) (hg : c.sc.names.lookup x = some .globalImplicit := by rfl) (hm : c.mg x = none := by rfl) (hv : bootBuiltins x = some (.builtin id) := by rfl)
    (hn : x ≠ "__name__" := by decide) (hdb : (x == ("__debug__" : Str)) = false := by decide) (he : ∀ env, starEach (e :: es) env = (false, eval e env) :: starEach es env := by intro _; rfl) (hpl : ∀ env, (backTo pos (starEach es env)).any (·.1) = false := by intro _; rfl) :
    EJ c P (.Call (.Name x p) (e :: es) [] pos) (cApp f A) := by
  obtain ⟨t, pt, rt⟩ := ha.ex
  refine ⟨tCB rr t, fun X h => pe_callB (hc X h) (by show X.env.scope.names.lookup x = _; rw [h.sc]; exact hg) (by rw [h.mg]; exact hm) hv (pt X h) hn hdb (he _) (hpl _), fun r σ O H B Q fr q => ?_⟩
  refine rt r σ O H B _ fr ((PK.bind q).imp fun ts r1 O1 H1 B1 f1 g1 q1 vs rv => ?_)
  obtain ⟨z, ez, q3⟩ := PK.opt q1
  exact hf H1 B1 vs ts z Q f1.sub rv ez fun v' H' B' p rp => q3.pu f1 p v' rp
theorem fj_callB {x : Str} {id : String} {rr : List V → Hp → VK → Prop} {f : List T → Option T} (hc : ∀ X, c.Is X → CallR X (.builtin id) rr) (hf : SfA c.K rr f) (ha : AJ c P (e :: es) A) (hg : c.sc.names.lookup x = some .globalImplicit := by rfl) (hm : c.mg x = none := by rfl) (hv : bootBuiltins x = some (.builtin id) := by rfl)
    (hn : x ≠ "__name__" := by decide) (hdb : (x == ("__debug__" : Str)) = false := by decide) (he : ∀ env, starEach (e :: es) env = (false, eval e env) :: starEach es env := by intro _; rfl) (hpl : ∀ env, (backTo pos (starEach es env)).any (·.1) = false := by intro _; rfl) :
    FJ c P (.Call (.Name x p) (e :: es) [] pos) (cApp f A) := by
  obtain ⟨t, pt, rt⟩ := ha.ex
  refine ⟨tCB rr t, fun X h => pe_callB (hc X h) (by show X.env.scope.names.lookup x = _; rw [h.sc]; exact hg) (by rw [h.mg]; exact hm) hv (pt X h) hn hdb (he _) (hpl _), fun r σ O H B Q fr q => ?_⟩
  refine rt r σ O H B _ fr ((PK.bind q).imp fun ts r1 O1 H1 B1 f1 g1 q1 vs rv => ?_)
  obtain ⟨z, ez, q3⟩ := PK.opt q1
  refine hf H1 B1 vs ts z Q f1.sub rv ez fun p ws us H' e pu n hp rp => ?_
  refine q3 _ H' B1 (f1.own pu n ⟨_, hp⟩) (.own pu n) p ws us e (.inr rfl) (fun i hi z => ?_) hp rp
  obtain ⟨p', _, _, _, h2, _, h4, _⟩ := f1.prv i hi
  rw [h2] at z
  cases z
  rw [n] at h4; cases h4
theorem ej_callTy {x : Str} {T' : String} {rr : List V → Hp → VK → Prop} {f : List T → Option T} (hc : ∀ X, c.Is X → CallR X (.type T') rr) (hf : SdA c.K rr f) (ha : AJ c P (e :: es) A) (hg : c.sc.names.lookup x = some .globalImplicit := by rfl) (hm : c.mg x = none := by rfl) (hv : bootBuiltins x = some (.type T') := by rfl)
    (hn : x ≠ "__name__" := by decide) (hdb : (x == ("__debug__" : Str)) = false := by decide) (he : ∀ env, starEach (e :: es) env = (false, eval e env) :: starEach es env := by intro _; rfl) (hpl : ∀ env, (backTo pos (starEach es env)).any (·.1) = false := by intro _; rfl) :
    EJ c P (.Call (.Name x p) (e :: es) [] pos) (cApp f A) := by
  obtain ⟨t, pt, rt⟩ := ha.ex
  refine ⟨tCB rr t, fun X h => pe_callTy (hc X h) (by show X.env.scope.names.lookup x = _; rw [h.sc]; exact hg) (by rw [h.mg]; exact hm) hv (pt X h) hn hdb (he _) (hpl _), fun r σ O H B Q fr q => ?_⟩
  refine rt r σ O H B _ fr ((PK.bind q).imp fun ts r1 O1 H1 B1 f1 g1 q1 vs rv => ?_)
  obtain ⟨z, ez, q3⟩ := PK.opt q1
  exact hf H1 B1 vs ts z Q f1.sub rv ez fun v' H' B' p rp => q3.pu f1 p v' rp

/-- len -/
def lenT : List T → Option T
  | [.lst xs] => if xs.length ≤ LIM then some (.int xs.length) else none
  | [.tup xs] => if xs.length ≤ LIM then some (.int xs.length) else none
  | [.str x] => if x.length ≤ LIM then some (.int x.length) else none
  | _ => none
def rLen (K : PySem.W.Frag) : List V → Hp → VK → Prop := fun xs H Q => ∃ x n, xs = [x] ∧ LenV K x H n ∧ Q (.int n) H
theorem cl_len : ∀ X, c.Is X → CallR X (.builtin "len") (rLen c.K) := fun X h => by
  have z := call_len (X := X)
  rw [h.K] at z; exact z
theorem Reps.one_inv {K : PySem.W.Frag} {B : Hp} {xs : List V} {t : T} (h : Reps K B xs [t]) : ∃ x, xs = [x] ∧ Rep K B x t := by
  cases h with
  | cons r rs => cases rs; exact ⟨_, rfl, r⟩
theorem Reps.two_inv {K : PySem.W.Frag} {B : Hp} {xs : List V} {t u : T} (h : Reps K B xs [t, u]) : ∃ x y, xs = [x, y] ∧ Rep K B x t ∧ Rep K B y u := by
  cases h with
  | cons r rs => cases rs with
    | cons r2 rs2 => cases rs2; exact ⟨_, _, rfl, r, r2⟩
theorem sd_len {K : PySem.W.Frag} : SdA K (rLen K) lenT := by
  intro H B xs ts z Q sB rx e q
  unfold lenT at e
  split at e
  · obtain ⟨x, rfl, r⟩ := rx.one_inv
    split at e
    · rename_i hz
      cases e
      cases r with
      | lst s rs => exact ⟨_, _, rfl, .inl ⟨_, (s.mono sB).sq, rfl⟩, by rw [rs.length]; exact q _ H B (.refl sB) (.int _)⟩
    · cases e
  · obtain ⟨x, rfl, r⟩ := rx.one_inv
    split at e
    · rename_i hz
      cases e
      cases r with
      | tup s rs => exact ⟨_, _, rfl, .inr ⟨_, same_tup sB s, rfl⟩, by rw [rs.length]; exact q _ H B (.refl sB) (.int _)⟩
    · cases e
  · obtain ⟨x, rfl, r⟩ := rx.one_inv
    split at e
    · rename_i hz
      cases e
      cases r with
      | str s => exact ⟨_, _, rfl, ⟨lim_line hz, rfl⟩, q _ H B (.refl sB) (.int _)⟩
    · cases e
  · cases e
/-- the ints of a list -/
def intsT : List T → Option (List Int)
  | [] => some []
  | .int i :: ts => (intsT ts).map (i :: ·)
  | _ => none
theorem intsT_reps {K : PySem.W.Frag} {B : Hp} : ∀ {ts : List T} {vs : List V} {ns : List Int}, Reps K B vs ts → intsT ts = some ns → vs = ns.map V.int ∧ ts = ns.map T.int
  | [], _, _, .nil, e => by cases e; exact ⟨rfl, rfl⟩
  | t :: ts, _, ns, .cons r rs, e => by
    cases r with
    | int i =>
      unfold intsT at e
      cases h : intsT ts with
      | none => rw [h] at e; cases e
      | some ms =>
        rw [h] at e
        cases e
        obtain ⟨h1, h2⟩ := intsT_reps rs h
        exact ⟨by rw [h1]; rfl, by rw [h2]; rfl⟩
    | _ => cases e
@[simp] theorem intsT_map : ∀ ns : List Int, intsT (ns.map T.int) = some ns
  | [] => rfl
  | n :: ns => by
    show (intsT (ns.map T.int)).map (n :: ·) = _
    rw [intsT_map ns]; rfl
def sumT : List T → Option T
  | [.lst xs] => (intsT xs).map fun ns => .int ns.sum
  | _ => none
theorem cl_sum : ∀ X, c.Is X → CallR X (.builtin "sum") (rSum c.K) := fun X h => by
  have z := cr_sum (X := X) h.calm
  rw [h.K] at z; exact z
theorem sd_sum {K : PySem.W.Frag} : SdA K (rSum K) sumT := by
  intro H B xs ts z Q sB rx e q
  unfold sumT at e
  split at e
  · rename_i ys
    obtain ⟨x, rfl, r⟩ := rx.one_inv
    cases r with
    | @lst a vs _ s rs =>
      cases h : intsT ys with
      | none => rw [h] at e; cases e
      | some ns =>
        rw [h] at e
        cases e
        obtain ⟨h1, h2⟩ := intsT_reps rs h
        subst h1
        exact ⟨a, ns, rfl, (s.mono sB).sq, q _ H B (.refl sB) (.int _)⟩
  · cases e
/-- int(x) -/
def intT : List T → Option T
  | [.int i] => some (.int i)
  | [.bl b] => some (.int (if b then 1 else 0))
  | _ => none
def rInt1 : List V → Hp → VK → Prop := fun xs H Q => (∃ i, xs = [.int i] ∧ Q (.int i) H) ∨ ∃ k, xs = [.bl k] ∧ Q (.int (if k then 1 else 0)) H
theorem cl_int : ∀ X, c.Is X → CallR X (.type "int") rInt1 := fun X h => call_int1
theorem sd_intF {K : PySem.W.Frag} : SdA K rInt1 intT := by
  intro H B xs ts z Q sB rx e q
  unfold intT at e
  split at e
  · cases e
    obtain ⟨x, rfl, r⟩ := rx.one_inv
    cases r
    exact .inl ⟨_, rfl, q _ H B (.refl sB) (.int _)⟩
  · cases e
    obtain ⟨x, rfl, r⟩ := rx.one_inv
    cases r
    exact .inr ⟨_, rfl, q _ H B (.refl sB) (.int _)⟩
  · cases e
/-- abs -/
def absT : List T → Option T
  | [.int i] => some (.int (if i < 0 then -i else i))
  | _ => none
def rAbs1 : List V → Hp → VK → Prop := fun xs H Q => ∃ i, xs = [.int i] ∧ Q (.int (if i < 0 then -i else i)) H
theorem cl_abs : ∀ X, c.Is X → CallR X (.builtin "abs") rAbs1 := fun X h => call_abs
theorem sd_abs {K : PySem.W.Frag} : SdA K rAbs1 absT := by
  intro H B xs ts z Q sB rx e q
  unfold absT at e
  split at e
  · cases e
    obtain ⟨x, rfl, r⟩ := rx.one_inv
    cases r
    exact ⟨_, rfl, q _ H B (.refl sB) (.int _)⟩
  · cases e
/-- max, min of two ints -/
def max2T : List T → Option T
  | [.int i, .int j] => some (.int (if j > i then j else i))
  | _ => none
def min2T : List T → Option T
  | [.int i, .int j] => some (.int (if j < i then j else i))
  | _ => none
def rMax2 : List V → Hp → VK → Prop := fun xs H Q => ∃ i j, xs = [.int i, .int j] ∧ Q (.int (if j > i then j else i)) H
def rMin2 : List V → Hp → VK → Prop := fun xs H Q => ∃ i j, xs = [.int i, .int j] ∧ Q (.int (if j < i then j else i)) H
theorem cl_max2 : ∀ X, c.Is X → CallR X (.builtin "max") rMax2 := fun X h => call_max2 h.calm
theorem cl_min2 : ∀ X, c.Is X → CallR X (.builtin "min") rMin2 := fun X h => call_min2 h.calm
theorem sd_max2 {K : PySem.W.Frag} : SdA K rMax2 max2T := by
  intro H B xs ts z Q sB rx e q
  unfold max2T at e
  split at e
  · cases e
    obtain ⟨x, y, rfl, r1, r2⟩ := rx.two_inv
    cases r1
    cases r2
    exact ⟨_, _, rfl, q _ H B (.refl sB) (.int _)⟩
  · cases e
theorem sd_min2 {K : PySem.W.Frag} : SdA K rMin2 min2T := by
  intro H B xs ts z Q sB rx e q
  unfold min2T at e
  split at e
  · cases e
    obtain ⟨x, y, rfl, r1, r2⟩ := rx.two_inv
    cases r1
    cases r2
    exact ⟨_, _, rfl, q _ H B (.refl sB) (.int _)⟩
  · cases e
/-- max, min of a list of ints -/
def maxI : List Int → Option Int
  | [] => none
  | n :: ns => some (ns.foldl (fun m x => if x > m then x else m) n)
def minI : List Int → Option Int
  | [] => none
  | n :: ns => some (ns.foldl (fun m x => if x < m then x else m) n)
def maxT : List T → Option T
  | [.lst xs] => ((intsT xs).bind maxI).map .int
  | _ => none
def minT : List T → Option T
  | [.lst xs] => ((intsT xs).bind minI).map .int
  | _ => none
theorem foldl_max : ∀ (ns : List Int) (n : Int), (ns.foldl (fun m x => if x > m then x else m) n) ∈ n :: ns ∧ ∀ y ∈ n :: ns, y ≤ ns.foldl (fun m x => if x > m then x else m) n
  | [], n => ⟨List.mem_singleton.mpr rfl, fun y h => by rw [List.mem_singleton.mp h]; exact Int.le_refl _⟩
  | m :: ns, n => by
    obtain ⟨h1, h2⟩ := foldl_max ns (if m > n then m else n)
    rw [List.foldl_cons]
    refine ⟨?_, fun y h => ?_⟩
    · rcases List.mem_cons.mp h1 with h | h
      · rw [h]
        split
        · exact List.mem_cons_of_mem _ (List.mem_cons_self ..)
        · exact List.mem_cons_self ..
      · exact List.mem_cons_of_mem _ (List.mem_cons_of_mem _ h)
    · have h0 := h2 _ (List.mem_cons_self ..)
      generalize hF : List.foldl _ _ ns = z at *
      rcases List.mem_cons.mp h with h | h
      · subst h; split at h0 <;> omega
      · rcases List.mem_cons.mp h with h | h
        · subst h; split at h0 <;> omega
        · exact h2 y (List.mem_cons_of_mem _ h)
theorem foldl_min : ∀ (ns : List Int) (n : Int), (ns.foldl (fun m x => if x < m then x else m) n) ∈ n :: ns ∧ ∀ y ∈ n :: ns, ns.foldl (fun m x => if x < m then x else m) n ≤ y
  | [], n => ⟨List.mem_singleton.mpr rfl, fun y h => by rw [List.mem_singleton.mp h]; exact Int.le_refl _⟩
  | m :: ns, n => by
    obtain ⟨h1, h2⟩ := foldl_min ns (if m < n then m else n)
    rw [List.foldl_cons]
    refine ⟨?_, fun y h => ?_⟩
    · rcases List.mem_cons.mp h1 with h | h
      · rw [h]
        split
        · exact List.mem_cons_of_mem _ (List.mem_cons_self ..)
        · exact List.mem_cons_self ..
      · exact List.mem_cons_of_mem _ (List.mem_cons_of_mem _ h)
    · have h0 := h2 _ (List.mem_cons_self ..)
      generalize hF : List.foldl _ _ ns = z at *
      rcases List.mem_cons.mp h with h | h
      · subst h; split at h0 <;> omega
      · rcases List.mem_cons.mp h with h | h
        · subst h; split at h0 <;> omega
        · exact h2 y (List.mem_cons_of_mem _ h)
theorem maxI_spec {ns : List Int} {m : Int} (h : maxI ns = some m) : m ∈ ns ∧ ∀ y ∈ ns, y ≤ m := by
  cases ns with
  | nil => cases h
  | cons n ns => cases h; exact foldl_max ns n
theorem minI_spec {ns : List Int} {m : Int} (h : minI ns = some m) : m ∈ ns ∧ ∀ y ∈ ns, m ≤ y := by
  cases ns with
  | nil => cases h
  | cons n ns => cases h; exact foldl_min ns n
theorem cl_max : ∀ X, c.Is X → CallR X (.builtin "max") (rMax c.K) := fun X h => by
  have z := cr_max (X := X) h.calm
  rw [h.K] at z; exact z
theorem cl_min : ∀ X, c.Is X → CallR X (.builtin "min") (rMin c.K) := fun X h => by
  have z := cr_min (X := X) h.calm
  rw [h.K] at z; exact z
theorem sd_max {K : PySem.W.Frag} : SdA K (rMax K) maxT := by
  intro H B xs ts z Q sB rx e q
  unfold maxT at e
  split at e
  · rename_i ys
    obtain ⟨x, rfl, r⟩ := rx.one_inv
    cases r with
    | @lst a vs _ s rs =>
      cases h : intsT ys with
      | none => rw [h] at e; cases e
      | some ns =>
        rw [h] at e
        obtain ⟨h1, h2⟩ := intsT_reps rs h
        subst h1
        cases hm : maxI ns with
        | none => simp only [Option.bind_some, hm] at e; cases e
        | some m =>
          simp only [Option.bind_some, hm] at e
          cases e
          obtain ⟨m1, m2⟩ := maxI_spec hm
          refine ⟨a, ns, rfl, (s.mono sB).sq, List.length_pos_of_mem m1, fun m' h1 h2 => ?_⟩
          have : m' = m := Int.le_antisymm (m2 _ h1) (h2 _ m1)
          subst this
          exact q _ H B (.refl sB) (.int _)
  · cases e
theorem sd_min {K : PySem.W.Frag} : SdA K (rMin K) minT := by
  intro H B xs ts z Q sB rx e q
  unfold minT at e
  split at e
  · rename_i ys
    obtain ⟨x, rfl, r⟩ := rx.one_inv
    cases r with
    | @lst a vs _ s rs =>
      cases h : intsT ys with
      | none => rw [h] at e; cases e
      | some ns =>
        rw [h] at e
        obtain ⟨h1, h2⟩ := intsT_reps rs h
        subst h1
        cases hm : minI ns with
        | none => simp only [Option.bind_some, hm] at e; cases e
        | some m =>
          simp only [Option.bind_some, hm] at e
          cases e
          obtain ⟨m1, m2⟩ := minI_spec hm
          refine ⟨a, ns, rfl, (s.mono sB).sq, List.length_pos_of_mem m1, fun m' h1 h2 => ?_⟩
          have : m' = m := Int.le_antisymm (h2 _ m1) (m2 _ h1)
          subst this
          exact q _ H B (.refl sB) (.int _)
  · cases e

/-! ### isinstance -/
inductive TyK where
  | int | bool | str | list | tuple | dict
def TyK.s : TyK → String
  | .int => "int"
  | .bool => "bool"
  | .str => "str"
  | .list => "list"
  | .tuple => "tuple"
  | .dict => "dict"
def tyS : T → Option String
  | .non => some "NoneType"
  | .bl _ => some "bool"
  | .int _ => some "int"
  | .str _ => some "str"
  | .lst _ => some "list"
  | .tup _ => some "tuple"
  | .emp => some "dict"
  | _ => none
def isK : TyK → T → Option Bool
  | _, .exc _ _ => none
  | _, .clo _ _ => none
  | _, .ty _ => none
  | _, .cls _ => none
  | .int, .int _ => some true
  | .int, .bl _ => some true
  | .bool, .bl _ => some true
  | .str, .str _ => some true
  | .list, .lst _ => some true
  | .tuple, .tup _ => some true
  | .dict, .emp => some true
  | _, _ => some false
def isiT (k : TyK) (t : T) : Option T := (isK k t).map .bl
/-- any of these -/
def isKs : List TyK → T → Option Bool
  | [], _ => some false
  | k :: ks, t => (isK k t).bind fun b => (isKs ks t).map (b || ·)
def isisT (ks : List TyK) (t : T) : Option T := (isKs ks t).map .bl
theorem isK_kit {k : TyK} {t : T} {b : Bool} (h : isK k t = some b) : ∃ s, tyS t = some s ∧ kitB s k.s = some b := by
  cases t <;> first
    | (refine ⟨_, rfl, ?_⟩; cases k <;> cases h <;> decide +kernel)
    | (cases k <;> cases h)
theorem rep_ty {K : PySem.W.Frag} {B H : Hp} {v : V} {t : T} {s : String} (sB : Same B H) (r : Rep K B v t) (h : tyS t = some s) : TyX K H v (.type s) := by
  cases r with
  | non => cases h; exact .base .non
  | bl b => cases h; exact .base (.bl b)
  | int i => cases h; exact .base (.int i)
  | str x => cases h; exact .base (.str x)
  | lst l r =>
    cases h
    rcases l with (e | ⟨o, e⟩) | ⟨its, n, e, _⟩
    · exact .base (.lst (sB _ _ e))
    · exact .base (.frz (sB _ _ e))
    · exact .kList e rfl
  | tup l r =>
    cases h
    rcases l with (e | ⟨o, e⟩) | ⟨o, its, n, e, e2, _⟩
    · exact .base (.tup (sB _ _ e))
    · exact .fTuple (sB _ _ e)
    · exact .kTuple e e2
  | emp e => cases h; exact .base (.dK (sB _ _ e))
  | ty n => cases h
  | cls n => cases h
  | exc _ _ _ => cases h
  | clo _ _ _ _ _ => cases h
theorem ej_isi {x y : Str} {p1 p2 : Pos} (k : TyK) (ha : EJ c P a Fa) (hx : x = "isinstance" := by rfl) (hg : c.sc.names.lookup x = some .globalImplicit := by rfl) (hm : c.mg x = none := by rfl) (hg2 : c.sc.names.lookup y = some .globalImplicit := by rfl) (hm2 : c.mg y = none := by rfl)
    (hv2 : bootBuiltins y = some (.type k.s) := by rfl) (hn2 : y ≠ "__name__" := by decide) (hd2 : (y == ("__debug__" : Str)) = false := by decide) (hs : ∀ env, starEach [a, .Name y p2] env = (false, eval a env) :: starEach [.Name y p2] env := by intro _; rfl) :
    EJ c P (.Call (.Name x p1) [a, .Name y p2] [] pos) (cUn (isiT k) Fa) := by
  subst hx
  obtain ⟨ta, pa, ra⟩ := ha.ex
  refine ⟨tCB (rIsi c.K) (tCons ta (tCons (tC (.ty k.s)) tNil)), fun X h => ?_, fun r σ O H B Q fr q => ?_⟩
  · have hc := call_isi (X := X)
    rw [h.K] at hc
    exact pe_callB hc (by show X.env.scope.names.lookup _ = _; rw [h.sc]; exact hg) (by rw [h.mg]; exact hm) (by rfl) (pa_cons (pa X h) (pa_cons (pe_bltn (by show X.env.scope.names.lookup _ = _; rw [h.sc]; exact hg2) (by rw [h.mg]; exact hm2) hv2 rfl hn2 hd2) pa_nil) (hs _)) (he := hs _)
  · refine ra r σ O H B _ fr ((PK.bind q).imp fun t r1 O1 H1 B1 f1 g1 q1 v rv => ?_)
    obtain ⟨z, ez, q3⟩ := PK.opt q1
    unfold isiT at ez
    cases hk : isK k t with
    | none => rw [hk] at ez; cases ez
    | some b =>
      rw [hk] at ez
      cases ez
      obtain ⟨s, h1, h2⟩ := isK_kit hk
      exact ⟨v, .ty k.s, _, _, b, rfl, .ty k.s, rep_ty f1.sub rv h1, kit_ty h2, PK.at q3 f1 _ (.bl b)⟩
theorem isKs_kit {K : PySem.W.Frag} {t : T} {s : String} : ∀ {ks : List TyK} {b : Bool}, isKs ks t = some b → tyS t = some s → PySem.W.kitAny K (.type s) (ks.map fun k => Value.type k.s) = some b
  | [], _, h, _ => by cases h; rfl
  | k :: ks, b, h, hs => by
    unfold isKs at h
    cases hk : isK k t with
    | none => rw [hk] at h; cases h
    | some b1 =>
      rw [hk] at h
      cases hr : isKs ks t with
      | none => simp only [Option.bind_some, hr] at h; cases h
      | some b2 =>
        simp only [Option.bind_some, hr] at h
        cases h
        obtain ⟨s', h1, h2⟩ := isK_kit hk
        rw [hs] at h1
        cases h1
        refine kitAny_cons (kit_ty h2) (fun e => ?_) fun e => ?_
        · subst e; exact isKs_kit hr hs
        · subst e; rfl
/-- isinstance(x, (list, tuple)) -/
theorem ej_isi2 {x y z : Str} {p1 p2 p3 p4 : Pos} {x1} (k1 k2 : TyK) (ha : EJ c P a Fa) (hx : x = "isinstance" := by rfl) (hg : c.sc.names.lookup x = some .globalImplicit := by rfl) (hm : c.mg x = none := by rfl)
    (hg2 : c.sc.names.lookup y = some .globalImplicit := by rfl) (hm2 : c.mg y = none := by rfl) (hv2 : bootBuiltins y = some (.type k1.s) := by rfl) (hn2 : y ≠ "__name__" := by decide) (hd2 : (y == ("__debug__" : Str)) = false := by decide)
    (hg3 : c.sc.names.lookup z = some .globalImplicit := by rfl) (hm3 : c.mg z = none := by rfl) (hv3 : bootBuiltins z = some (.type k2.s) := by rfl) (hn3 : z ≠ "__name__" := by decide) (hd3 : (z == ("__debug__" : Str)) = false := by decide)
    (hs : ∀ env, starEach [a, .Tuple [.Name y p2, .Name z p3] x1 p4] env = (false, eval a env) :: starEach [.Tuple [.Name y p2, .Name z p3] x1 p4] env := by intro _; rfl) :
    EJ c P (.Call (.Name x p1) [a, .Tuple [.Name y p2, .Name z p3] x1 p4] [] pos) (cUn (isisT [k1, k2]) Fa) := by
  subst hx
  obtain ⟨ta, pa, ra⟩ := ha.ex
  refine ⟨tCB (rIsiT c.K) (tCons ta (tCons (tTup (tCons (tC (.ty k1.s)) (tCons (tC (.ty k2.s)) tNil))) tNil)), fun X h => ?_, fun r σ O H B Q fr q => ?_⟩
  · have hc := call_isiT (X := X)
    rw [h.K] at hc
    exact pe_callB hc (by show X.env.scope.names.lookup _ = _; rw [h.sc]; exact hg) (by rw [h.mg]; exact hm) (by rfl)
      (pa_cons (pa X h) (pa_cons (pe_tup (pa_cons (pe_bltn (by show X.env.scope.names.lookup _ = _; rw [h.sc]; exact hg2) (by rw [h.mg]; exact hm2) hv2 rfl hn2 hd2) (pa_cons (pe_bltn (by show X.env.scope.names.lookup _ = _; rw [h.sc]; exact hg3) (by rw [h.mg]; exact hm3) hv3 rfl hn3 hd3) pa_nil))) pa_nil) (hs _)) (he := hs _)
  · refine ra r σ O H B _ fr ((PK.bind q).imp fun t r1 O1 H1 B1 f1 g1 q1 v rv => ?_)
    obtain ⟨z, ez, q3⟩ := PK.opt q1
    unfold isisT at ez
    cases hk : isKs [k1, k2] t with
    | none => rw [hk] at ez; cases ez
    | some b =>
      rw [hk] at ez
      cases ez
      refine ⟨by show 2 ≤ sizeLine; rw [sizeLine_eq]; decide, fun p hp => ?_⟩
      have h1 : ∃ s, tyS t = some s := by
        cases hk1 : isK k1 t with
        | none => simp only [isKs, hk1] at hk; cases hk
        | some b1 => obtain ⟨s, h1, _⟩ := isK_kit hk1; exact ⟨s, h1⟩
      obtain ⟨s, h1⟩ := h1
      have pu : Pu H1 B1 (upd H1 p (.tup [.ty k1.s, .ty k2.s])) B1 := .hid f1.sub hp
      have f2 := f1.pu pu
      exact ⟨v, p, [.ty k1.s, .ty k2.s], _, _, b, rfl, upd_same, .cons (.ty _) (.cons (.ty _) .nil), rep_ty f2.sub rv h1, isKs_kit hk h1, q3.pu f1 pu _ (.bl b)⟩

/-! ### x.bit_length() -/
def bitsT : T → Option T
  | .int i => some (.int (Builtin.Int.intBits i : Nat))
  | _ => none
theorem ej_bits {apos : Pos} (ha : EJ c P a Fa) (hbase : ∀ env, attributeBase a "bit_length" env (eval a env) = eval a env := by intro _; rfl) (hline : (apos.endLine == pos.line) = true := by rfl) : EJ c P (.Call (.Attribute a "bit_length" apos) [] [] pos) (cUn bitsT Fa) := by
  obtain ⟨ta, pa, ra⟩ := ha.ex
  refine ⟨tBits ta, fun X h => pe_bits (pa X h) (hbase _) hline, fun r σ O H B Q fr q => ?_⟩
  refine ra r σ O H B _ fr ((PK.bind q).imp fun t r1 O1 H1 B1 f1 g1 q1 v rv => ?_)
  obtain ⟨z, ez, q3⟩ := PK.opt q1
  cases rv with
  | int i => cases ez; exact ⟨i, rfl, PK.at q3 f1 _ (.int _)⟩
  | _ => cases ez
end
end Tc

/-! Tc: slices, tuple assignments, what is never reached. -/
namespace Tc
open PySem PySem.Spec L2

section
variable {c : SC} {j : JT} {P P1 P2 P' : List Nat} {a b d e : Expr} {es : List Expr} {ss : List Stmt} {s : Stmt} {Fa Fb F : Ec} {A : Ac} {pos p q : Pos}

/-! ### what is never reached -/
theorem sj_no : SJ c j P P' s cNo := ⟨fun _ _ _ => False, fun X h => ⟨fun pins s σ H D I h => h.elim⟩, fun r σ O H B D f q => q⟩
theorem bj_no : BJ c j P P' ss cNo := ⟨fun _ _ _ => False, fun X h => ⟨fun pins s σ H D I h => h.elim⟩, fun r σ O H B D f q => q⟩
def cNoE : Ec := fun _ => .no
theorem ej_no : EJ c P e cNoE := ⟨fun _ _ _ => False, fun X h => ⟨fun pins s σ H D I h => h.elim⟩, fun r σ O H B Q f q => q⟩
theorem fj_no : FJ c P e cNoE := ⟨fun _ _ _ => False, fun X h => ⟨fun pins s σ H D I h => h.elim⟩, fun r σ O H B Q f q => q⟩

/-! ### slices -/
abbrev Pc := Sl → Out (Option Int)
abbrev GoodP (Q : Option Int → Hp → Prop) : Option Int → Sl → (Addr → Prop) → Hp → Hp → Prop := fun b _ _ H _ => Q b H
structure OJ (c : SC) (P : List Nat) (e : Option Expr) (F : Pc) : Prop where
  ex : ∃ t : TO, (∀ X, c.Is X → PO X e t) ∧ ∀ r σ O H B Q, Frm c.K c.G P r σ O H B → PK c P σ O H B (GoodP Q) (F r) → t σ H Q
def cP0 : Pc := fun r => .ok none r
def cP1 (F : Ec) : Pc := fun r => (F r).bind fun t r1 => match t with
  | .int i => .ok (some i) r1
  | _ => .no
theorem oj_none : OJ c P none cP0 := ⟨tNoPart, fun X h => po_none, fun r σ O H B Q f q => PK.at (show PK _ _ _ _ _ _ _ (.ok _ _) from q) f⟩
theorem oj_some (ha : EJ c P a Fa) : OJ c P (some a) (cP1 Fa) := by
  obtain ⟨ta, pa, ra⟩ := ha.ex
  refine ⟨tPart ta, fun X h => po_some (pa X h), fun r σ O H B Q fr q => ?_⟩
  refine ra r σ O H B _ fr ((PK.bind q).imp fun t r1 O1 H1 B1 f1 g1 q1 v rv => ?_)
  cases rv with
  | int i => exact ⟨i, rfl, PK.at (show PK _ _ _ _ _ _ _ (.ok _ _) from q1) f1⟩
  | _ => exact (show False from q1).elim
def cutT (ts : List T) (lo hi : Option Int) : List T := (ts.drop (HT.sIx ts.length 0 lo)).take (HT.sIx ts.length ts.length hi - HT.sIx ts.length 0 lo)
def slT (t : T) (lo hi : Option Int) : Option T := match t with
  | .lst xs => some (.lst (cutT xs lo hi))
  | .tup xs => some (.tup (cutT xs lo hi))
  | .str x => if x.length ≤ LIM then some (.str (cutS x lo hi)) else none
  | _ => none
def slL (t : T) (lo hi : Option Int) : Option T := match t with
  | .lst xs => some (.lst (cutT xs lo hi))
  | _ => none
def cSl (f : T → Option Int → Option Int → Option T) (F : Ec) (lo hi : Pc) : Ec := fun r => (F r).bind fun t r1 => (lo r1).bind fun l r2 => (hi r2).bind fun u r3 => Out.opt r3 (f t l u)
def rSl4 (K : PySem.W.Frag) : V → Option Int → Option Int → Hp → VK → Prop := fun x lo hi H Q => rSlL K x lo hi H Q ∨ rSlA K x lo hi H Q ∨ rSlS x lo hi H Q
theorem sl_K : ∀ X, c.Is X → SlR X (rSl4 c.K) := fun X h => by
  have z := SlR.or (sl_list (X := X)) (SlR.or sl_tupA sl_str)
  rw [h.K] at z; exact z
theorem cut_reps {K : PySem.W.Frag} {B : Hp} {vs : List V} {ts : List T} (r : Reps K B vs ts) (lo hi : Option Int) : Reps K B (cutV vs lo hi) (cutT ts lo hi) := by
  unfold cutV cutT
  rw [r.length]
  exact (r.drop _).take _
theorem cut_all {ts : List T} {lo hi : Option Int} (h : HT.sIx ts.length 0 lo = 0 ∧ HT.sIx ts.length ts.length hi = ts.length) : cutT ts lo hi = ts := by
  unfold cutT
  rw [h.1, h.2]
  simp
theorem ej_sl {lo hi : Option Expr} {L U : Pc} {p2 : Pos} (ha : EJ c P a Fa) (hl : OJ c P lo L) (hu : OJ c P hi U) : EJ c P (.Subscript a (.Slice lo hi none p2) pos) (cSl slT Fa L U) := by
  obtain ⟨ta, pa, ra⟩ := ha.ex
  obtain ⟨tl, pl, rl⟩ := hl.ex
  obtain ⟨tu, pu, ru⟩ := hu.ex
  refine ⟨tSl (rSl4 c.K) ta tl tu, fun X h => pe_slice (sl_K X h) (pa X h) (pl X h) (pu X h), fun r σ O H B Q fr q => ?_⟩
  refine ra r σ O H B _ fr ((PK.bind q).imp fun t r1 O1 H1 B1 f1 g1 q1 v rv => ?_)
  refine rl r1 σ O1 H1 B1 _ f1 ((PK.bind q1).imp fun l r2 O2 H2 B2 f2 g2 q2 => ?_)
  refine ru r2 σ O2 H2 B2 _ f2 ((PK.bind q2).imp fun u r3 O3 H3 B3 f3 g3 q3 => ?_)
  obtain ⟨z, ez, q4⟩ := PK.opt q3
  have rv := (rv.mono g2.bb).mono g3.bb
  cases rv with
  | lst s rs =>
    cases ez
    refine .inl ⟨_, _, rfl, (s.mono f3.sub).sq, fun p hp => ?_⟩
    obtain ⟨pu, rp⟩ := Rep.newL f3.sub (cut_reps rs l u) hp
    exact q4.pu f3 pu _ rp
  | tup s rs =>
    cases ez
    have hl := rs.length
    refine .inr (.inl ⟨_, _, rfl, same_tup f3.sub s, fun hw => ?_, fun hw p hp => ?_⟩)
    · rw [hl] at hw
      rw [cut_all hw] at q4
      exact PK.at q4 f3 _ (.tup s rs)
    · obtain ⟨pu, rp⟩ := Rep.newT f3.sub (cut_reps rs l u) hp
      exact q4.pu f3 pu _ rp
  | str x =>
    simp only [slT] at ez
    split at ez
    · rename_i hz
      cases ez
      exact .inr (.inr ⟨x, rfl, lim_line hz, PK.at q4 f3 _ (.str _)⟩)
    · cases ez
  | _ => cases ez
theorem fj_sl {lo hi : Option Expr} {L U : Pc} {p2 : Pos} (ha : EJ c P a Fa) (hl : OJ c P lo L) (hu : OJ c P hi U) : FJ c P (.Subscript a (.Slice lo hi none p2) pos) (cSl slL Fa L U) := by
  obtain ⟨ta, pa, ra⟩ := ha.ex
  obtain ⟨tl, pl, rl⟩ := hl.ex
  obtain ⟨tu, pu, ru⟩ := hu.ex
  refine ⟨tSl (rSl4 c.K) ta tl tu, fun X h => pe_slice (sl_K X h) (pa X h) (pl X h) (pu X h), fun r σ O H B Q fr q => ?_⟩
  refine ra r σ O H B _ fr ((PK.bind q).imp fun t r1 O1 H1 B1 f1 g1 q1 v rv => ?_)
  refine rl r1 σ O1 H1 B1 _ f1 ((PK.bind q1).imp fun l r2 O2 H2 B2 f2 g2 q2 => ?_)
  refine ru r2 σ O2 H2 B2 _ f2 ((PK.bind q2).imp fun u r3 O3 H3 B3 f3 g3 q3 => ?_)
  obtain ⟨z, ez, q4⟩ := PK.opt q3
  have rv := (rv.mono g2.bb).mono g3.bb
  cases rv with
  | lst s rs =>
    cases ez
    refine .inl ⟨_, _, rfl, (s.mono f3.sub).sq, fun p hp => ?_⟩
    refine q4 _ _ B3 (f3.own (.hid f3.sub hp) hp ⟨_, upd_same⟩) (.own (.hid f3.sub hp) hp) p _ _ rfl (.inr rfl) (fun i hi z => ?_) upd_same (cut_reps rs l u)
    obtain ⟨p', _, _, _, h2, _, h4, _⟩ := f3.prv i hi
    rw [h2] at z
    cases z
    rw [hp] at h4; cases h4
  | _ => cases ez

/-! ### argument lists with new lists among them -/
inductive Mx (K : PySem.W.Frag) (P : List Nat) (σ : L2.St) (H B : Hp) : (Addr → Prop) → List Bool → List V → List T → Prop
  | nil {O} : Mx K P σ H B O [] [] []
  | consE {O ks v vs t ts} : Rep K B v t → Mx K P σ H B O ks vs ts → Mx K P σ H B O (false :: ks) (v :: vs) (t :: ts)
  | consF {O : Addr → Prop} {ks p ws vs us ts} : O p → (∀ i ∈ P, σ[i]? ≠ some (some (.ref p))) → H p = some (.lst ws) → Reps K B ws us → Mx K P σ H B (fun a => O a ∧ a ≠ p) ks vs ts → Mx K P σ H B O (true :: ks) (.ref p :: vs) (.lst us :: ts)
theorem Mx.mono {K : PySem.W.Frag} {P : List Nat} {σ : L2.St} {H B : Hp} {ks : List Bool} {vs : List V} {ts : List T} : ∀ {O O' : Addr → Prop}, (∀ a, O a → O' a) → Mx K P σ H B O ks vs ts → Mx K P σ H B O' ks vs ts := by
  intro O O' h m
  induction m generalizing O' with
  | nil => exact .nil
  | consE r _ ih => exact .consE r (ih h)
  | consF h1 h2 h3 h4 _ ih => exact .consF (h _ h1) h2 h3 h4 (ih fun a ha => ⟨h a ha.1, ha.2⟩)
theorem Mx.len {K : PySem.W.Frag} {P : List Nat} {σ : L2.St} {H B : Hp} {O : Addr → Prop} {ks : List Bool} {vs : List V} {ts : List T} (m : Mx K P σ H B O ks vs ts) : vs.length = ks.length ∧ ts.length = ks.length := by
  induction m with
  | nil => exact ⟨rfl, rfl⟩
  | consE _ _ ih => exact ⟨congrArg (· + 1) ih.1, congrArg (· + 1) ih.2⟩
  | consF _ _ _ _ _ ih => exact ⟨congrArg (· + 1) ih.1, congrArg (· + 1) ih.2⟩
abbrev GoodM (c : SC) (P : List Nat) (σ : L2.St) (ks : List Bool) (Q : List V → Hp → Prop) : List T → Sl → (Addr → Prop) → Hp → Hp → Prop := fun ts _ O H B => ∀ vs, Mx c.K P σ H B O ks vs ts → Q vs H
structure MJ (c : SC) (P : List Nat) (ks : List Bool) (es : List Expr) (F : Ac) : Prop where
  ex : ∃ t : TA, (∀ X, c.Is X → PA X es t) ∧ ∀ r σ O H B Q, Frm c.K c.G P r σ O H B → PK c P σ O H B (GoodM c P σ ks Q) (F r) → t σ H Q
theorem mj_nil : MJ c P [] [] cNil := ⟨tNil, fun X h => pa_nil, fun r σ O H B Q f q => PK.at (show PK _ _ _ _ _ _ _ (.ok _ _) from q) f _ .nil⟩
variable {ks : List Bool}
theorem mj_e (ha : EJ c P e F) (hb : MJ c P ks es A) (hs : ∀ env, starEach (e :: es) env = (false, eval e env) :: starEach es env := by intro _; rfl) : MJ c P (false :: ks) (e :: es) (cCons F A) := by
  obtain ⟨ta, pa, ra⟩ := ha.ex
  obtain ⟨tb, pb, rb⟩ := hb.ex
  refine ⟨tCons ta tb, fun X h => pa_cons (pa X h) (pb X h) (hs _), fun r σ O H B Q f q => ?_⟩
  refine ra r σ O H B _ f ((PK.bind q).imp fun t r1 O1 H1 B1 f1 g1 q1 v rv => ?_)
  refine rb r1 σ O1 H1 B1 _ f1 ((PK.bind q1).imp fun ts r2 O2 H2 B2 f2 g2 q2 vs rvs => ?_)
  exact PK.at (show PK _ _ _ _ _ _ _ (.ok _ _) from q2) f2 _ (.consE (rv.mono g2.bb) rvs)
theorem mj_f (ha : FJ c P e F) (hb : MJ c P ks es A) (hs : ∀ env, starEach (e :: es) env = (false, eval e env) :: starEach es env := by intro _; rfl) : MJ c P (true :: ks) (e :: es) (cCons F A) := by
  obtain ⟨ta, pa, ra⟩ := ha.ex
  obtain ⟨tb, pb, rb⟩ := hb.ex
  refine ⟨tCons ta tb, fun X h => pa_cons (pa X h) (pb X h) (hs _), fun r σ O H B Q f q => ?_⟩
  refine ra r σ O H B _ f ((PK.bind q).imp fun t r1 O1 H1 B1 f1 g1 q1 pp ws us et hO hs hp rp => ?_)
  subst et
  have q1 := PK.bind q1
  have f1' : Frm c.K c.G P r1 σ (fun a => O1 a ∧ a ≠ pp) H1 B1 := by
    refine ⟨f1.sub, fun a h => f1.out a h.1, fun a h => f1.liv a h.1, f1.var, fun i hi => ?_, f1.sep, f1.len, f1.siz, f1.inn, f1.tab.le fun a h => .inl h.1⟩
    obtain ⟨q, vs, ts, h1, h2, h3, h4, h5⟩ := f1.prv i hi
    exact ⟨q, vs, ts, h1, h2, ⟨h3, fun z => hs i hi (by rw [h2, z])⟩, h4, h5⟩
  refine rb r1 σ (fun a => O1 a ∧ a ≠ pp) H1 B1 _ f1' ?_
  have up : ∀ O' H' B', Grow (fun a => O1 a ∧ a ≠ pp) H1 B1 O' H' B' → Grow O1 H1 B1 (fun a => O' a ∨ a = pp) H' B' ∧ H' pp = some (.lst ws) ∧ ¬ O' pp ∧ B' pp = none := fun O' H' B' g => by
    have hk : H' pp = some (.lst ws) := g.lst hp fun z => z.2 rfl
    refine ⟨⟨g.bb, fun a o e => ?_, fun a o e n => g.hh a o e fun z => n z.1, fun a h => ?_⟩, hk, fun z => ?_, ?_⟩
    · rcases g.nb a o e with z | z | z
      · exact .inl z
      · exact .inr (.inl z)
      · exact .inr (.inr z.1)
    · rcases h with h | h
      · rcases g.oo a h with z | z
        · exact .inl z.1
        · exact .inr z
      · subst h; exact .inl hO
    · rcases g.oo pp z with z | z
      · exact z.2 rfl
      · rw [hp] at z; cases z
    · cases e : B' pp with
      | none => rfl
      | some o =>
        rcases g.nb pp o e with z | z | z
        · rw [f1.out pp hO] at z; cases z
        · rw [hp] at z; cases z
        · exact (z.2 rfl).elim
  have fr : ∀ r' O' H' B', Frm c.K c.G P r' σ O' H' B' → H' pp = some (.lst ws) → B' pp = none → Frm c.K c.G P r' σ (fun a => O' a ∨ a = pp) H' B' := fun r' O' H' B' f hk hb => by
    refine ⟨f.sub, fun a h => ?_, fun a h => ?_, f.var, fun i hi => ?_, f.sep, f.len, f.siz, f.inn, f.tab.add hk⟩
    · rcases h with h | h
      · exact f.out a h
      · subst h; exact hb
    · rcases h with h | h
      · exact f.liv a h
      · subst h; rw [hk]; exact fun z => nomatch z
    · obtain ⟨q, vs, ts, h1, h2, h3, h4, h5⟩ := f.prv i hi
      exact ⟨q, vs, ts, h1, h2, .inl h3, h4, h5⟩
  cases z : A r1 with
  | ok ts r2 =>
    rw [z] at q1
    intro O2 H2 B2 f2 g2 vs m
    obtain ⟨u1, u2, u3, u4⟩ := up O2 H2 B2 g2
    have f3 := fr r2 O2 H2 B2 f2 u2 u4
    exact PK.at (show PK _ _ _ _ _ _ _ (.ok _ _) from q1 (fun a => O2 a ∨ a = pp) H2 B2 f3 u1) f3 _ (.consF (.inr rfl) hs u2 (rp.mono g2.bb) (m.mono fun a ha => ⟨.inl ha, fun z => u3 (z ▸ ha)⟩))
  | ex n w r2 =>
    rw [z] at q1
    intro v d O2 H2 B2 f2 g2 e1 e2
    obtain ⟨u1, u2, u3, u4⟩ := up O2 H2 B2 g2
    exact q1 v d (fun a => O2 a ∨ a = pp) H2 B2 (fr r2 O2 H2 B2 f2 u2 u4) u1 e1 e2
  | no => rw [z] at q1; exact (show False from q1).elim

/-! ### stores of such lists -/
/-- slot i takes a new list (k) or a value -/
def stOk (g0 : Bool) (n i : Nat) (k : Bool) (P P' : List Nat) : Bool :=
  if k then i < n && P'.contains i && P'.all (fun x => x == i || P.contains x) && P.all (fun x => P'.contains x) && (i != 0 || g0)
  else !P'.contains i && P'.all (fun x => P.contains x) && P.all (fun x => x == i || P'.contains x) && (P'.contains 0 || g0)
theorem Mx.store {K : PySem.W.Frag} {G : GI} {r : Sl} {σ : L2.St} {O O1 : Addr → Prop} {H B : Hp} {i : Nat} {k : Bool} {v : V} {vs : List V} {t : T} {ts : List T} (f : Frm K G P r σ O H B) (hO : ∀ a, O1 a → O a) (m : Mx K P σ H B O1 (k :: ks) (v :: vs) (t :: ts))
    (h : stOk G.g.isNone G.n i k P P' = true) : Frm K G P' (r.set i (some t)) (σ.set i (some v)) O H B ∧ ∃ O2 : Addr → Prop, (∀ a, O2 a → O a) ∧ Mx K P' (σ.set i (some v)) H B O2 ks vs ts := by
  have hgg : G.g.isNone = true → G.g = none := fun z => Option.isNone_iff_eq_none.mp z
  have key : ∀ {O2 : Addr → Prop} {σ' : L2.St} {ks : List Bool} {vs : List V} {ts : List T}, (∀ a, O2 a → ∀ x ∈ P', (∀ y ∈ P, σ[y]? ≠ some (some (.ref a))) → σ'[x]? ≠ some (some (.ref a))) → Mx K P σ H B O2 ks vs ts → Mx K P' σ' H B O2 ks vs ts := by
    intro O2 σ' ks vs ts hk m
    induction m with
    | nil => exact .nil
    | consE r _ ih => exact .consE r (ih hk)
    | consF h1 h2 h3 h4 _ ih => exact .consF h1 (fun x hx => hk _ h1 x hx h2) h3 h4 (ih fun a ha => hk a ha.1)
  cases m with
  | consE rv m =>
    simp only [stOk, Bool.false_eq_true, if_false, Bool.and_eq_true, Bool.or_eq_true, List.all_eq_true, beq_iff_eq, List.contains_iff_mem, Bool.not_eq_true'] at h
    obtain ⟨⟨⟨h1, h2⟩, h3⟩, h4⟩ := h
    have h1 : i ∉ P' := fun z => by rw [List.contains_iff_mem.mpr z] at h1; cases h1
    refine ⟨f.set rv h1 h2 h3 (h4.symm.elim (fun z => .inl (hgg z)) .inr), O1, hO, key (fun a _ x hx hy => ?_) m⟩
    rw [List.getElem?_set_ne fun z : i = x => h1 (z ▸ hx)]
    exact hy x (h2 x hx)
  | @consF _ _ pp _ _ _ _ h1' h2' h3' h4' m =>
    simp only [stOk, if_true, Bool.and_eq_true, Bool.or_eq_true, List.all_eq_true, beq_iff_eq, List.contains_iff_mem, bne_iff_ne, decide_eq_true_eq] at h
    obtain ⟨⟨⟨⟨h0, h1⟩, h2⟩, h3⟩, h4⟩ := h
    refine ⟨f.setF (by rw [f.siz]; exact h0) (hO _ h1') h2' h3' h4' h1 h2 h3 (h4.symm.elim (fun z => .inl (hgg z)) .inr), fun a => O1 a ∧ a ≠ pp, fun a h => hO a h.1, key (fun a ha x hx hy => ?_) m⟩
    by_cases hxi : x = i
    · subst hxi
      rw [List.getElem?_set_self (by rw [← f.len, f.siz]; exact h0)]
      exact fun z => ha.2 (V.ref.inj (Option.some.inj (Option.some.inj z))).symm
    · rw [List.getElem?_set_ne (Ne.symm hxi)]
      exact hy x ((h2 x hx).resolve_left hxi)

theorem sw_of {ts : List Expr} {v : Expr} {R : Sem (Option (List Str))} (h : ∀ env : Env, swappedStores ts v { env with scope := c.sc } = R) {X : Cx} (i : c.Is X) : swappedStores ts v X.env = R := by
  have e : X.env = { X.env with scope := c.sc } := by rw [← i.sc]
  rw [e]; exact h X.env
def cPar2 (i k : Nat) (A : Ac) : Sc := fun r => (A r).so fun ts r1 => match ts with
  | [t, u] => .nx ((r1.set i (some t)).set k (some u))
  | _ => .no
def cPar3 (i k l : Nat) (A : Ac) : Sc := fun r => (A r).so fun ts r1 => match ts with
  | [t, u, w] => .nx (((r1.set i (some t)).set k (some u)).set l (some w))
  | _ => .no
/-- x, y = a, b -/
theorem sj_par2 (i k : Nat) {k1 k2 : Bool} {x y : Str} {px py pt p2 : Pos} {kt kv} (P1 : List Nat) (ha : MJ c P [k1, k2] [a, b] A) (hi : c.N[i]? = some x := by rfl) (hk : c.N[k]? = some y := by rfl) (hik : i ≠ k := by decide) (hx : c.sc.names.lookup x = some .local := by rfl) (hy : c.sc.names.lookup y = some .local := by rfl)
    (h1 : stOk c.G.g.isNone c.G.n i k1 P P1 = true := by rfl) (h2 : stOk c.G.g.isNone c.G.n k k2 P1 P' = true := by rfl)
    (hw : ∀ env : Env, swappedStores [.Tuple [.Name x px, .Name y py] kt pt] (.Tuple [a, b] kv p2) { env with scope := c.sc } = pure (some [x, y]) := by intro _; rfl)
    (hs : ∀ env, swapsWithSole [.Tuple [.Name x px, .Name y py] kt pt] (.Tuple [a, b] kv p2) pos.line env = pure false := by intro _; rfl) :
    SJ c j P P' (.Assign [.Tuple [.Name x px, .Name y py] kt pt] (.Tuple [a, b] kv p2) pos) (cPar2 i k A) := by
  obtain ⟨t, pt, rt⟩ := ha.ex
  refine ⟨tPar i k t, fun X h => ps_par h.calm (by rw [h.N]; exact h.nd) (by rw [h.N]; exact hi) (by rw [h.N]; exact hk) hik (by rw [h.sc]; exact hx) (by rw [h.sc]; exact hy) (pt X h) (sw_of hw h) (hs _), fun r σ O H B D f q => ?_⟩
  refine rt r σ O H B _ f ((SK.so q).imp fun ts r1 O1 H1 B1 f1 g1 q1 vs m => ?_)
  obtain ⟨e1, e2⟩ := m.len
  match vs, ts, e1, e2, m, q1 with
  | [v1, v2], [t1, t2], _, _, m, q1 =>
    refine ⟨v1, v2, rfl, ?_⟩
    obtain ⟨f2, O2, s2, m2⟩ := m.store f1 (fun _ h => h) h1
    obtain ⟨f3, _, _, _⟩ := m2.store f2 s2 h2
    exact (show SK c j P' O1 H1 B1 D (.nx _) from q1) _ O1 H1 B1 f3 .refl
theorem sj_par3 (i k l : Nat) {k1 k2 k3 : Bool} {x y z : Str} {px py pz pt p2 : Pos} {kt kv} (P1 P2 : List Nat) (ha : MJ c P [k1, k2, k3] [a, b, d] A) (hi : c.N[i]? = some x := by rfl) (hk : c.N[k]? = some y := by rfl) (hl : c.N[l]? = some z := by rfl) (hik : i ≠ k := by decide) (hil : i ≠ l := by decide) (hkl : k ≠ l := by decide)
    (hx : c.sc.names.lookup x = some .local := by rfl) (hy : c.sc.names.lookup y = some .local := by rfl) (hz : c.sc.names.lookup z = some .local := by rfl)
    (h1 : stOk c.G.g.isNone c.G.n i k1 P P1 = true := by rfl) (h2 : stOk c.G.g.isNone c.G.n k k2 P1 P2 = true := by rfl) (h3 : stOk c.G.g.isNone c.G.n l k3 P2 P' = true := by rfl)
    (hw : ∀ env : Env, swappedStores [.Tuple [.Name x px, .Name y py, .Name z pz] kt pt] (.Tuple [a, b, d] kv p2) { env with scope := c.sc } = pure (some [x, y, z]) := by intro _; rfl)
    (hs : ∀ env, swapsWithSole [.Tuple [.Name x px, .Name y py, .Name z pz] kt pt] (.Tuple [a, b, d] kv p2) pos.line env = pure false := by intro _; rfl) :
    SJ c j P P' (.Assign [.Tuple [.Name x px, .Name y py, .Name z pz] kt pt] (.Tuple [a, b, d] kv p2) pos) (cPar3 i k l A) := by
  obtain ⟨t, pt, rt⟩ := ha.ex
  refine ⟨tPar3 i k l t, fun X h => ps_par3 h.calm (by rw [h.N]; exact h.nd) (by rw [h.N]; exact hi) (by rw [h.N]; exact hk) (by rw [h.N]; exact hl) hik hil hkl (by rw [h.sc]; exact hx) (by rw [h.sc]; exact hy) (by rw [h.sc]; exact hz) (pt X h) (sw_of hw h) (hs _), fun r σ O H B D f q => ?_⟩
  refine rt r σ O H B _ f ((SK.so q).imp fun ts r1 O1 H1 B1 f1 g1 q1 vs m => ?_)
  obtain ⟨e1, e2⟩ := m.len
  match vs, ts, e1, e2, m, q1 with
  | [v1, v2, v3], [t1, t2, t3], _, _, m, q1 =>
    refine ⟨v1, v2, v3, rfl, ?_⟩
    obtain ⟨f2, O2, s2, m2⟩ := m.store f1 (fun _ h => h) h1
    obtain ⟨f3, O3, s3, m3⟩ := m2.store f2 s2 h2
    obtain ⟨f4, _, _, _⟩ := m3.store f3 s3 h3
    exact (show SK c j P' O1 H1 B1 D (.nx _) from q1) _ O1 H1 B1 f4 .refl
/-- target = e, any target -/
def cAsg (g : Gc) (F : Ec) : Sc := fun r => (F r).so fun t r1 => match g t r1 with
  | some r2 => .nx r2
  | none => .no
theorem sj_asg {ow : List Nat} {tg : Expr} {g : Gc} (ha : EJ c P e F) (hg : GJ c P ow tg g) (hs : ∀ env, swapsWithSole [tg] e pos.line env = pure false := by intro _; rfl)
    (hw : ∀ env : Env, swappedStores [tg] e { env with scope := c.sc } = pure none := by intro _; rfl) (h1 : ∀ env, (assignEach [tg] env).map (·.2) = [assign tg env] := by intro _; rfl) : SJ c j P P (.Assign [tg] e pos) (cAsg g F) := by
  obtain ⟨t, pt, rt⟩ := ha.ex
  obtain ⟨tv, pv, rv⟩ := hg.ex
  refine ⟨tAsg t tv, fun X h => ps_asg (pt X h) (pv X h) (hs _) (sw_of hw h) (h1 _), fun r σ O H B D f q => ?_⟩
  refine rt r σ O H B _ f ((SK.so q).imp fun u r1 O1 H1 B1 f1 g1 q1 v rvv => ?_)
  cases z : g u r1 with
  | none => rw [z] at q1; exact (show False from q1).elim
  | some r2 =>
    rw [z] at q1
    exact rv r1 σ O1 H1 B1 v u r2 _ f1 rvv z fun σ' f' _ => (show SK c j P O1 H1 B1 D (.nx _) from q1) _ O1 H1 B1 f' .refl
end
end Tc

/-! Tc: the law's def is called with the script. -/
namespace Tc
open PySem PySem.Spec L2 PyProof.Rows

section
variable {P : Program} {w : World} {K : PySem.W.Frag} {mg mb : Str → Option Value}
/-- what stands when the top is through, the script at a -/
structure Aft (K : PySem.W.Frag) (mg mb : Str → Option Value) (z : Shared) (a : Addr) (us : List Value) : Prop where
  kin : K.In z.heap
  gl : z.heap.Ns mainGlobals mg
  bn : z.heap.Ns builtinsNs mb
  bs : ∀ y : Str, y ≠ "__name__" → mb y = bootBuiltins y
  nl : z.heap.NoLimit
  ge : z.gens = #[]
  ob : z.heap.get? a = some { cls := .type "list", data := .seq us.toArray }
/-- nothing but the script may be seen: it is lent with no right to change it -/
structure Lone (K : PySem.W.Frag) (P : Program) (w : World) (z : Shared) (a : Addr) (H : Hp) : Prop where
  ok : HOk P w H z.heap
  at_ : ∀ b, H b ≠ none → b = a
  fz : ∀ b, H b ≠ none → (∃ o xs, H b = some (.frz o (.lst xs))) ∧ K.lookup b = none
theorem Lone.ns {z : Shared} {a b : Addr} {us : List Value} {H : Hp} {m : Str → Option Value} (A : Aft K mg mb z a us) (L : Lone K P w z a H) (n : z.heap.Ns b m) : (hidT z.heap H).Ns b m := by
  obtain ⟨o, es, ep, h1, h2, h3⟩ := n
  refine ⟨o, es, ep, hidT_get h1 (Classical.byContradiction fun hb => ?_), h2, h3⟩
  have hba := L.at_ b hb
  rw [hba, A.ob] at h1
  cases h1
  have : (Data.seq us.toArray _ : Data) = .dict es ep := h2
  cases this
theorem law_go {k : Nat} {fa a : Addr} {fd : FuncData} {x : Str} {sp : Sp} {z : Shared} {us : List Value} {H : Hp} (A : Aft K mg mb z a us) (L : Lone K P w z a H) (hr : Room k callerA) (hb : ∀ (s : Shared) (u : Value), BindsTo s fd ⟨[u], []⟩ [(x, u)])
    (F : ∀ base : Heap, K.In base → base.Ns mainGlobals mg → FnG P w K mg base k fa fd [x] sp) (hs : sp [.ref a] H (fun v _ => v = .bl true) fun _ _ _ => False) :
    codeAny (model P w) callerA (.call (.ref fa) ⟨[.ref a], []⟩) (fun r z' => r = .ok (.ret (.bool true)) ∧ OldK z.heap z'.heap ∧ z'.os = z.os ∧ AllBare z'.gens) z := by
  have kb : K.In (hidT z.heap H) := fun b o e => hidT_get (A.kin b o e) (Classical.byContradiction fun hn => by
    rw [(L.fz b hn).2] at e
    cases e)
  have gb := L.ns A A.gl
  obtain ⟨mc, c1, c2⟩ := A.nl
  have md : Mod K mg (hidT z.heap H) := ⟨kb, gb, ⟨mb, L.ns A A.bn, A.bs⟩, ⟨mc, L.ns A c1, c2⟩⟩
  have ev : Env0 P w K mg (hidT z.heap H) callerA [] z H := ⟨rfl, md, fun b o e => of_hidT e, Nat.le_of_eq (hidT_size _ _), trivial, (fun b hb => nomatch hb), L.ok, .of_eq A.ge⟩
  refine codeAny_mono ((F _ kb gb).run callerA [] z H _ [.ref a] [.ref a] _ _ hr rfl ev (hb z (.ref a)) (.cons rfl .nil) hs) fun r z' q => ?_
  cases r with
  | error e =>
    obtain ⟨_, _, _, _, _, _, _, _, _, _, _, _, no⟩ := q
    exact no.elim
  | ok fl =>
    cases fl with
    | ret u =>
      obtain ⟨v, H', os, bare, un, ok', rv, e⟩ := q
      have e : v = .bl true := e
      subst e
      cases rv
      refine ⟨rfl, OldK.of_keep fun b o e => ?_, os, bare⟩
      by_cases hn : H b = none
      · exact un.keep b o e hn (fun y => nomatch y) (fun y => nomatch y)
      · obtain ⟨⟨ob, xs, hz⟩, _⟩ := L.fz b hn
        obtain ⟨e1, _⟩ := L.ok b _ hz
        obtain ⟨e2, _⟩ := ok' b _ (un.frzs b ob _ hz)
        rw [← e, e1]
        exact e2
    | next => exact False.elim q
    | brk => exact False.elim q
    | cont => exact False.elim q
/-- the law's def, its script a list of ints -/
theorem law_run {k : Nat} {fa a : Addr} {fd : FuncData} {x : Str} {sp : Sp} {z : Shared} {us : List Value} {ns : List Int} (A : Aft K mg mb z a us) (hi : IntsAre us ns) (hl : ns.length ≤ sizeLine) (hr : Room k callerA) (hb : ∀ (s : Shared) (u : Value), BindsTo s fd ⟨[u], []⟩ [(x, u)])
    (F : ∀ base : Heap, K.In base → base.Ns mainGlobals mg → FnG P w K mg base k fa fd [x] sp)
    (hs : ∀ H : Hp, LsAt K H a (ns.map V.int) → sp [.ref a] H (fun v _ => v = .bl true) fun _ _ _ => False) :
    codeAny (model P w) callerA (.call (.ref fa) ⟨[.ref a], []⟩) (fun r z' => r = .ok (.ret (.bool true)) ∧ OldK z.heap z'.heap ∧ z'.os = z.os ∧ AllBare z'.gens) z := by
  have rv := vals_ints hi
  have hlen : (ns.map V.int).length ≤ sizeLine := by rw [List.length_map]; exact hl
  cases hk : K.lookup a with
  | some o =>
    have e := A.kin a o hk
    rw [A.ob] at e
    cases e
    have L : Lone K P w z a fun _ => none := ⟨(fun b u y => nomatch y), (fun b y => absurd rfl y), (fun b y => absurd rfl y)⟩
    exact law_go A L hr hb F (hs _ (.inr ⟨us, _, hk, by rw [← rv.length]; exact hlen, rv⟩))
  | none =>
    let H : Hp := fun b => if b = a then some (.frz { cls := .type "list", data := .seq us.toArray } (.lst (ns.map V.int))) else none
    have ha : H a = some (.frz { cls := .type "list", data := .seq us.toArray } (.lst (ns.map V.int))) := if_pos rfl
    have only : ∀ b, H b ≠ none → b = a := fun b y => Classical.byContradiction fun hb => y (if_neg hb)
    have L : Lone K P w z a H := by
      refine ⟨fun b u y => ?_, only, fun b y => ?_⟩
      · have hba := only b (by rw [y]; exact fun q => nomatch q)
        subst hba
        rw [ha] at y
        cases y
        exact ⟨A.ob, hlen, us, _, rv, A.ob⟩
      · have hba := only b y
        subst hba
        exact ⟨⟨_, _, ha⟩, hk⟩
    exact law_go A L hr hb F (hs H (.inl (.inr ⟨_, ha⟩)))
end
/-- the goal that the head leaves -/
theorem law_ends {l : PySem.W.OpenLaw} {n k : Nat} {q : Program} {loose : List Str} {XP : (Str → Option Value) → Heap → Prop} {YP : World → Heap → Prop} {d : DefRec} {x : Str} (h1 : l.most = some n) (h2 : n ≤ sizeLine) (h3 : d.params.defaults = []) (hr : Room k callerA)
    (F : ∀ (w : World) (mg : Str → Option Value) (fa : Addr) (h : Heap), YP w h → h.Ns mainGlobals mg → mg d.name = some (.ref fa) → ∃ (K : PySem.W.Frag) (fd : FuncData) (m : Fc), K.In h ∧ (∀ (s : Shared) (u : Value), BindsTo s fd ⟨[u], []⟩ [(x, u)]) ∧
      (∀ ns : List Int, ns.length ≤ n → m [.lst (ns.map T.int)] = .ok (.bl true) []) ∧ ∀ base : Heap, K.In base → base.Ns mainGlobals mg → FnG l.prog w K mg base k fa fd [x] (spX [] K false false 1 m)) :
    PySem.W.WalkO q loose XP YP l.row.toRowW d [] (fun f vs => PySem.call f vs) := by
  refine Att.attach_call h1 h3 fun w s0 z mg mb fa o pm cd doc a us ns G Y ho hd hcd hmg hobj hints hlen hg => ?_
  obtain ⟨K, fd, m, kx, hb, hm, hF⟩ := F w mg fa _ Y G.T.g hmg
  refine law_run (sp := spX [] K false false 1 m) ⟨kx, G.T.g, G.T.b, G.T.builtins, G.T.nolimit, hg, hobj⟩ hints (Nat.le_trans hlen h2) hr hb hF fun H s => ?_
  refine ⟨rfl, none, H, [.lst (ns.map T.int)], .refl _, .nil, ⟨rfl, .cons (.lst s (Reps.ints ns)) .nil⟩, ?_⟩
  rw [hm ns hlen]
  intro v O' H' B' _ _ _ _ _ ov
  exact ov.bl_inv
end Tc

/-! Tc: chains as tests, defs of the top. -/
namespace Tc
open PySem PySem.Spec L2
section
variable {c : SC} {P : List Nat} {a b d e : Expr} {Fa Fb Fd : Ec} {pos : Pos}
/-- a op b op' d as a test -/
theorem cj_chain {op op' : CmpOp} {r2 r2' : R2} {f g : T → T → Option T} (ho : ∀ X, c.Is X → OpR X (compareOp op) r2) (hf : Sd2 c.K r2 f) (ho' : ∀ X, c.Is X → OpR X (compareOp op') r2') (hg : Sd2 c.K r2' g)
    (ha : EJ c P a Fa) (hb : EJ c P b Fb) (hd : EJ c P d Fd) (hm : lastMarks [op, op'] [b, d] = false := by with_unfolding_all rfl) : CJ c P (.Compare a [op, op'] [b, d] pos) (cB (cChain f g Fa Fb Fd)) := by
  obtain ⟨ta, pa, ra⟩ := ha.ex
  obtain ⟨tb, pb, rb⟩ := hb.ex
  obtain ⟨td, pd, rd⟩ := hd.ex
  refine ⟨tTest (tChain r2 r2' ta tb td), fun X h => pt_chain (ho X h) (ho' X h) (pa X h) (pb X h) (pd X h) hm, fun r σ O H B Q fr q => ?_⟩
  have q := PK.bind (x := cChain f g Fa Fb Fd r) q
  -- the same reading as for the value
  refine ra r σ O H B _ fr ((PK.bind (show PK c P σ O H B _ ((Fa r).bind fun x r1 => (Fb r1).bind fun y r2 => match f x y with
    | some (.bl z) => if z = true then (Fd r2).bind fun u r3 => Out.opt r3 (g y u) else .ok (.bl false) r2
    | _ => .no) from q)).imp fun t r1 O1 H1 B1 f1 g1 q1 v rv => ?_)
  refine rb r1 σ O1 H1 B1 _ f1 ((PK.bind q1).imp fun u r2 O2 H2 B2 f2 g2 q2 w rw' => ?_)
  cases ez : f t u with
  | none => simp only [ez] at q2; exact (show False from q2).elim
  | some z =>
    simp only [ez] at q2
    cases z with
    | bl k =>
      refine hf H2 B2 v w t u _ _ f2.sub (rv.mono g2.bb) rw' ez fun v' H' B' p rp => ?_
      cases rp.bl_inv
      refine ⟨k, rfl, ?_⟩
      have f3 := f2.pu p
      have q2 : PK c P σ O2 H2 B2 _ (if k = true then (Fd r2).bind (fun u' r3 => Out.opt r3 (g u u')) else .ok (.bl false) r2) := q2
      cases k with
      | true =>
        rw [if_pos rfl] at q2 ⊢
        have q3 := PK.later q2 (Grow.of_pu (O := O2) p)
        refine rd r2 σ O2 H' B' _ f3 ((PK.bind q3).imp fun u' r3 O4 H4 B4 f4 g4 q4 x rx => ?_)
        obtain ⟨z, ez', q5⟩ := PK.opt q4
        refine hg H4 B4 w x u u' z _ f4.sub ((rw'.mono p.bb).mono g4.bb) rx ez' fun v' H5 B5 p5 rp5 => ?_
        have f5 := f4.pu p5
        have q6 := PK.at (PK.later q5 (Grow.of_pu (O := O4) p5)) f5
        cases z with
        | bl k => cases rp5.bl_inv; exact ⟨k, rfl, PK.at (show PK _ _ _ _ _ _ _ (.ok _ _) from q6) f5⟩
        | _ => exact (show False from q6).elim
      | false =>
        rw [if_neg Bool.false_ne_true] at q2 ⊢
        have q6 := PK.at (PK.later q2 (Grow.of_pu (O := O2) p)) f3
        exact ⟨false, rfl, PK.at (show PK _ _ _ _ _ _ _ (.ok _ _) from q6) f3⟩
    | _ => exact (show False from q2).elim
end
/-- a def of the top, without defaults -/
structure TopD (K : PySem.W.Frag) (mg : Str → Option Value) (x : Str) (st : Stmt) (f : Addr) (fd : FuncData) : Prop where
  fd : FunD K x x (defArgs st) (defBody st) (defScope st) [] [] f fd
  mg : mg x = some (.ref f)
/-- how arguments are bound -/
def BindOk (x : Str) (st : Stmt) (ps : List Str) : Prop := ∀ (kV doc pm : Value) (an : Option Addr) (cdv ct : Value) (us : List Value), us.length = ps.length → bindArgs (PySem.W.fnOf x x (defArgs st) (defBody st) (defScope st) .none kV doc pm an cdv ct) ⟨us, []⟩ = pure (ps.zip us)
/-- what a call of it asks, wherever the call stands -/
theorem TopD.callee {P : Program} {w : World} {K : PySem.W.Frag} {mg : Str → Option Value} {base : Heap} {x : Str} {st : Stmt} {f : Addr} {fd : FuncData} {k : Nat} {ps : List Str} {io fr : Bool} {m : Fc} {Tb : TB} (D : TopD K mg x st f fd) (hb : BindOk x st ps)
    (F : FnG P w K mg base k f fd ps (spX Tb K io fr ps.length m)) (c : SC) (h1 : c.prog = P := by rfl) (h2 : c.w = w := by rfl) (h3 : c.K = K := by rfl) (h4 : c.mg = mg := by rfl) (h5 : c.base = base := by rfl) (h6 : c.G.T = Tb := by rfl) : Callee c k x f fd ps io fr m := by
  subst h1 h2 h3 h4 h5 h6
  exact ⟨F, D.mg, D.fd.kp, D.fd.bindsN hb⟩
/-- keywords alone -/
theorem TopD.kw {K : PySem.W.Frag} {mg : Str → Option Value} {x : Str} {st : Stmt} {f : Addr} {fd : FuncData} {ps ks : List Str} {o : List Nat} (D : TopD K mg x st f fd)
    (h : ∀ (kV doc pm : Value) (an : Option Addr) (cdv ct : Value) (ws : List Value), ws.length = ks.length → bindArgs (PySem.W.fnOf x x (defArgs st) (defBody st) (defScope st) .none kV doc pm an cdv ct) ⟨[], ks.zip ws⟩ = pure (ps.zip (pick o ws))) : KwOk fd ps ks o := by
  obtain ⟨oc, od, dV, kV, doc, pm, an, cdv, ct, osl, rfl, lk, hcd, hD, hK⟩ := D.fd.ex
  rcases hD with ⟨_, rfl⟩ | ⟨e, _⟩
  · exact h kV doc pm an cdv ct
  · exact absurd rfl e
section
variable {c : SC} {j : JT} {P P' : List Nat} {pos p : Pos}
/-- a constant of the module -/
theorem ej_gint {x : Str} {i : Int} (h : ∃ t, c.mg x = some (.int i t)) (hg : c.sc.names.lookup x = some .globalImplicit := by rfl) (hd : (x == ("__debug__" : Str)) = false := by decide) : EJ c P (.Name x pos) (cK (.int i)) := by
  obtain ⟨t, e⟩ := h
  exact ej_glob (v := .int i) e ⟨t, rfl⟩ (fun _ _ => .int i) hg hd
theorem ej_gstr {x : Str} {i : Str} (h : ∃ t, c.mg x = some (.str i t)) (hg : c.sc.names.lookup x = some .globalImplicit := by rfl) (hd : (x == ("__debug__" : Str)) = false := by decide) : EJ c P (.Name x pos) (cK (.str i)) := by
  obtain ⟨t, e⟩ := h
  exact ej_glob (v := .str i) e ⟨t, rfl⟩ (fun _ _ => .str i) hg hd
/-- the length of an owned list -/
def cPlen (i : Nat) : Ec := fun r => match r[i]? with
  | some (some (.lst ts)) => if ts.length ≤ LIM then .ok (.int ts.length) r else .no
  | _ => .no
theorem ej_plen (i : Nat) {x y : Str} {py : Pos} (hm : c.mg y = none) (hy : y = "len" := by rfl) (hg : c.sc.names.lookup y = some .globalImplicit := by rfl) (hN : c.N[i]? = some x := by rfl) (hv : Vis c.sc x := by first | exact Or.inl rfl | exact Or.inr (Or.inl rfl) | exact Or.inr (Or.inr rfl)) (hP : i ∈ P := by decide)
    (hd : (x == ("__debug__" : Str)) = false := by decide) (hcd : (x == ("__classdict__" : Str)) = false := by decide) (hs : ∀ env, starEach [.Name x p] env = (false, eval (.Name x p) env) :: starEach [] env := by intro _; rfl) : EJ c P (.Call (.Name y py) [.Name x p] [] pos) (cPlen i) := by
  subst hy
  refine ⟨tCB (rLen c.K) (tCons (tVar i) tNil), fun X h => ?_, fun r σ O H B Q fr q => ?_⟩
  · exact pe_callB (cl_len X h) (by show X.env.scope.names.lookup _ = _; rw [h.sc]; exact hg) (by rw [h.mg]; exact hm) (by rfl) (pa_cons (pe_var (by rw [h.N]; exact hN) (by rw [h.sc]; exact hv) hd hcd) pa_nil (hs _)) (he := hs _)
  · obtain ⟨g, ws, us, e1, e2, e3, e4, e5⟩ := fr.prv i hP
    unfold cPlen at q
    rw [e1] at q
    simp only at q
    by_cases hz : us.length ≤ LIM
    · rw [if_pos hz] at q
      refine ⟨.ref g, e2, _, _, rfl, .inl ⟨ws, .inl (.inl e4), rfl⟩, ?_⟩
      rw [e5.length]
      exact PK.at q fr _ (.int _)
    · rw [if_neg hz] at q; exact (show False from q).elim
end
theorem gNil_len (ts : List T) (r r' : Sl) (h : gNilT ts r = some r') : ts.length = 0 := by
  cases ts with
  | nil => rfl
  | cons _ _ => cases h
theorem gCons_len {g : Gc} {gs : List T → Sl → Option Sl} {n : Nat} (hn : ∀ (ts : List T) (r r' : Sl), gs ts r = some r' → ts.length = n) (ts : List T) (r r' : Sl) (h : gConsT g gs ts r = some r') : ts.length = n + 1 := by
  cases ts with
  | nil => cases h
  | cons t ts =>
    have h : (g t r).bind (gs ts) = some r' := h
    cases z : g t r with
    | none => rw [z] at h; cases h
    | some r1 => rw [z] at h; rw [List.length_cons, hn _ _ _ h]
/-! ### blocks that never fall out -/
abbrev NN (F : Sc) : Prop := ∀ r r', F r ≠ .nx r'
theorem cRet_nn {F : Ec} : NN (cRet F) := fun r r' h => by
  unfold cRet at h
  cases z : F r with
  | ok t r1 => rw [z] at h; cases h
  | ex c w r1 => rw [z] at h; cases h
  | no => rw [z] at h; cases h
theorem cNo_nn : NN cNo := fun r r' h => by cases h
theorem cSeq_nn {F G : Sc} (h : NN G) : NN (cSeq F G) := fun r r' e => by
  unfold cSeq at e
  cases z : F r with
  | nx r1 => rw [z] at e; exact h _ _ e
  | _ => rw [z] at e; cases e
theorem cIfS_nn {C : Cc} {F G : Sc} (h1 : NN F) (h2 : NN G) : NN (cIfS C F G) := fun r r' e => by
  unfold cIfS at e
  cases z : C r with
  | ok b r1 =>
    rw [z] at e
    cases b with
    | true => exact h1 _ _ e
    | false => exact h2 _ _ e
  | ex c w r1 => rw [z] at e; cases e
  | no => rw [z] at e; cases e
theorem FnG.never {P : Program} {w : World} {K : PySem.W.Frag} {mg : Str → Option Value} {base : Heap} {k : Nat} {f : Addr} {fd : FuncData} {ps : List Str} {io fr : Bool} {n : Nat} {Tb : TB} (hn : n = ps.length := by rfl) : FnG P w K mg base k f fd ps (spX Tb K io fr n fun _ => .no) :=
  ⟨fun vs H Q E h => hn ▸ h.1, fun A outer s H args us vs Q E _ _ _ _ _ h => by
    obtain ⟨_, g, B, ts, _, _, _, h⟩ := h
    exact (show False from h).elim⟩
end Tc

/-! Tc: what a mirror comes to, told backwards. -/
namespace Tc
open PySem PySem.Spec L2
abbrev Xp := Str → T → Sl → Prop
abbrev noX : Xp := fun _ _ _ => False
abbrev noT : T → Sl → Prop := fun _ _ => False
abbrev noS : Sl → Prop := fun _ => False
structure WE {α : Type} (o : Out α) (ψ : α → Sl → Prop) (ξ : Xp) : Prop where
  go : match o with
    | .ok a r => ψ a r
    | .ex c w r => ξ c w r
    | .no => False
structure WS (o : So) (nx : Sl → Prop) (rt : T → Sl → Prop) (bk ct : Sl → Prop) (ex : Xp) : Prop where
  go : match o with
    | .nx r => nx r
    | .rt t r => rt t r
    | .bk r => bk r
    | .ct r => ct r
    | .ex c w r => ex c w r
    | .no => False
structure WR (o : Res) (χ : T → List T → Prop) (ξ : Str → T → Prop) : Prop where
  go : match o with
    | .ok t g => χ t g
    | .ex c w => ξ c w
    | .no => False
abbrev noR : Str → T → Prop := fun _ _ => False
section
variable {α β : Type} {r : Sl} {ξ : Xp} {nx bk ct : Sl → Prop} {rt : T → Sl → Prop} {ex : Xp} {i k l : Nat} {t : T}
theorem WE.imp {o : Out α} {ψ ψ' : α → Sl → Prop} (h : WE o ψ ξ) (q : ∀ a r, ψ a r → ψ' a r) : WE o ψ' ξ := by
  cases o with
  | ok a r => exact ⟨q a r h.go⟩
  | ex c w r => exact ⟨h.go⟩
  | no => exact h.go.elim
theorem WS.imp {o : So} {nx' bk' ct' : Sl → Prop} {rt' : T → Sl → Prop} {ex' : Xp} (h : WS o nx rt bk ct ex) (h1 : ∀ r, nx r → nx' r) (h2 : ∀ t r, rt t r → rt' t r) (h3 : ∀ r, bk r → bk' r) (h4 : ∀ r, ct r → ct' r) (h5 : ∀ c w r, ex c w r → ex' c w r) : WS o nx' rt' bk' ct' ex' := by
  cases o with
  | nx r => exact ⟨h1 r h.go⟩
  | rt t r => exact ⟨h2 t r h.go⟩
  | bk r => exact ⟨h3 r h.go⟩
  | ct r => exact ⟨h4 r h.go⟩
  | ex c w r => exact ⟨h5 c w r h.go⟩
  | no => exact h.go.elim
theorem WR.imp {o : Res} {χ χ' : T → List T → Prop} {ζ ζ' : Str → T → Prop} (h : WR o χ ζ) (h1 : ∀ t g, χ t g → χ' t g) (h2 : ∀ c w, ζ c w → ζ' c w) : WR o χ' ζ' := by
  cases o with
  | ok t g => exact ⟨h1 t g h.go⟩
  | ex c w => exact ⟨h2 c w h.go⟩
  | no => exact h.go.elim
theorem WE_bind {o : Out α} {f : α → Sl → Out β} {ψ : β → Sl → Prop} (h : WE o (fun a r => WE (f a r) ψ ξ) ξ) : WE (o.bind f) ψ ξ := by
  cases o with
  | ok a r => exact h.go
  | ex c w r => exact ⟨h.go⟩
  | no => exact h.go.elim
theorem WS_so {o : Out α} {f : α → Sl → So} (h : WE o (fun a r => WS (f a r) nx rt bk ct ex) ex) : WS (o.so f) nx rt bk ct ex := by
  cases o with
  | ok a r => exact h.go
  | ex c w r => exact ⟨h.go⟩
  | no => exact h.go.elim

/-! ### expressions -/
section
variable {ψ : T → Sl → Prop} {a b d e : Ec} {c : Cc}
theorem WE_var (h : r[i]? = some (some t)) (q : ψ t r) : WE (cVar i r) ψ ξ := by unfold cVar; rw [h]; exact ⟨q⟩
theorem WE_k (q : ψ t r) : WE (cK t r) ψ ξ := ⟨q⟩
theorem WE_bin {f : T → T → Option T} (h : WE (a r) (fun x r1 => WE (b r1) (fun y r2 => ∃ z, f x y = some z ∧ ψ z r2) ξ) ξ) : WE (cBin f a b r) ψ ξ :=
  WE_bind (h.imp fun x r1 h1 => WE_bind (h1.imp fun y r2 ⟨z, e, q⟩ => by rw [e]; exact ⟨q⟩))
theorem WE_un {f : T → Option T} (h : WE (a r) (fun x r1 => ∃ z, f x = some z ∧ ψ z r1) ξ) : WE (cUn f a r) ψ ξ :=
  WE_bind (h.imp fun x r1 ⟨z, e, q⟩ => by rw [e]; exact ⟨q⟩)
theorem WE_app {f : List T → Option T} {A : Ac} (h : WE (A r) (fun x r1 => ∃ z, f x = some z ∧ ψ z r1) ξ) : WE (cApp f A r) ψ ξ :=
  WE_bind (h.imp fun x r1 ⟨z, e, q⟩ => by rw [e]; exact ⟨q⟩)
theorem WE_nil {ψ : List T → Sl → Prop} (q : ψ [] r) : WE (cNil r) ψ ξ := ⟨q⟩
theorem WE_cons {ψ : List T → Sl → Prop} {A : Ac} (h : WE (a r) (fun x r1 => WE (A r1) (fun xs r2 => ψ (x :: xs) r2) ξ) ξ) : WE (cCons a A r) ψ ξ :=
  WE_bind (h.imp fun x r1 h1 => WE_bind (h1.imp fun y r2 q => ⟨q⟩))
theorem WE_if (h : WE (c r) (fun z r1 => (z = true → WE (a r1) ψ ξ) ∧ (z = false → WE (b r1) ψ ξ)) ξ) : WE (cIf c a b r) ψ ξ :=
  WE_bind (h.imp fun z r1 q => by
    cases z with
    | true => exact q.1 rfl
    | false => exact q.2 rfl)
theorem WE_B {ψ : Bool → Sl → Prop} (h : WE (a r) (fun x r1 => ∃ z, x = .bl z ∧ ψ z r1) ξ) : WE (cB a r) ψ ξ :=
  WE_bind (h.imp fun x r1 ⟨z, e, q⟩ => by subst e; exact ⟨q⟩)
theorem WE_notC {ψ : Bool → Sl → Prop} (h : WE (c r) (fun z r1 => ψ (!z) r1) ξ) : WE (cNotC c r) ψ ξ := WE_bind (h.imp fun _ _ q => ⟨q⟩)
theorem WE_andC {ψ : Bool → Sl → Prop} {c' : Cc} (h : WE (c r) (fun z r1 => (z = true → WE (c' r1) ψ ξ) ∧ (z = false → ψ false r1)) ξ) : WE (cAndC c c' r) ψ ξ :=
  WE_bind (h.imp fun z r1 q => by
    cases z with
    | true => exact q.1 rfl
    | false => exact ⟨q.2 rfl⟩)
theorem WE_orC {ψ : Bool → Sl → Prop} {c' : Cc} (h : WE (c r) (fun z r1 => (z = true → ψ true r1) ∧ (z = false → WE (c' r1) ψ ξ)) ξ) : WE (cOrC c c' r) ψ ξ :=
  WE_bind (h.imp fun z r1 q => by
    cases z with
    | true => exact ⟨q.1 rfl⟩
    | false => exact q.2 rfl)
theorem WE_andV (h : WE (a r) (fun x r1 => ∃ z, x = .bl z ∧ (z = true → WE (b r1) ψ ξ) ∧ (z = false → ψ (.bl false) r1)) ξ) : WE (cAndV a b r) ψ ξ :=
  WE_bind (h.imp fun x r1 ⟨z, e, q⟩ => by
    subst e
    cases z with
    | true => exact q.1 rfl
    | false => exact ⟨q.2 rfl⟩)
theorem WE_orV (h : WE (a r) (fun x r1 => ∃ z, x = .bl z ∧ (z = true → ψ (.bl true) r1) ∧ (z = false → WE (b r1) ψ ξ)) ξ) : WE (cOrV a b r) ψ ξ :=
  WE_bind (h.imp fun x r1 ⟨z, e, q⟩ => by
    subst e
    cases z with
    | true => exact ⟨q.1 rfl⟩
    | false => exact q.2 rfl)
theorem WE_notV (h : WE (a r) (fun x r1 => ∃ z, x = .bl z ∧ ψ (.bl (!z)) r1) ξ) : WE (cNotV a r) ψ ξ :=
  WE_bind (h.imp fun x r1 ⟨z, e, q⟩ => by subst e; exact ⟨q⟩)
theorem WE_chain {f g : T → T → Option T} (h : WE (a r) (fun x r1 => WE (b r1) (fun y r2 => ∃ z, f x y = some (.bl z) ∧ (z = true → WE (d r2) (fun u r3 => ∃ v, g y u = some v ∧ ψ v r3) ξ) ∧ (z = false → ψ (.bl false) r2)) ξ) ξ) : WE (cChain f g a b d r) ψ ξ :=
  WE_bind (h.imp fun x r1 h1 => WE_bind (h1.imp fun y r2 ⟨z, e, q⟩ => by
    rw [e]
    cases z with
    | true => exact WE_bind ((q.1 rfl).imp fun u r3 ⟨v, e, q⟩ => by rw [e]; exact ⟨q⟩)
    | false => exact ⟨q.2 rfl⟩))
theorem WE_tup {A : Ac} (h : WE (A r) (fun ts r1 => ts.length ≤ LIM ∧ ψ (.tup ts) r1) ξ) : WE (cTup A r) ψ ξ :=
  WE_bind (h.imp fun x r1 q => by rw [if_pos q.1]; exact ⟨q.2⟩)
theorem WE_lst {A : Ac} (h : WE (A r) (fun ts r1 => ts.length ≤ LIM ∧ ψ (.lst ts) r1) ξ) : WE (cLst A r) ψ ξ :=
  WE_bind (h.imp fun x r1 q => by rw [if_pos q.1]; exact ⟨q.2⟩)
theorem WE_pix (h : WE (b r) (fun x r1 => ∃ ts n z, r1[i]? = some (some (.lst ts)) ∧ x = .int n ∧ atI ts n = some z ∧ ψ z r1) ξ) : WE (cPix i b r) ψ ξ :=
  WE_bind (h.imp fun x r1 ⟨ts, n, z, e1, e2, e3, q⟩ => by subst e2; rw [e1]; show WE (Out.opt r1 (atI ts n)) ψ ξ; rw [e3]; exact ⟨q⟩)
theorem WE_plen {ts : List T} (h : r[i]? = some (some (.lst ts))) (hl : ts.length ≤ LIM) (q : ψ (.int ts.length) r) : WE (cPlen i r) ψ ξ := by
  unfold cPlen; rw [h]; simp only [hl, if_true]; exact ⟨q⟩
theorem WE_p0 {ψ : Option Int → Sl → Prop} (q : ψ none r) : WE (cP0 r) ψ ξ := ⟨q⟩
theorem WE_p1 {ψ : Option Int → Sl → Prop} (h : WE (a r) (fun x r1 => ∃ n, x = .int n ∧ ψ (some n) r1) ξ) : WE (cP1 a r) ψ ξ :=
  WE_bind (h.imp fun x r1 ⟨n, e, q⟩ => by subst e; exact ⟨q⟩)
theorem WE_sl {f : T → Option Int → Option Int → Option T} {lo hi : Pc} (h : WE (a r) (fun x r1 => WE (lo r1) (fun l r2 => WE (hi r2) (fun u r3 => ∃ z, f x l u = some z ∧ ψ z r3) ξ) ξ) ξ) : WE (cSl f a lo hi r) ψ ξ :=
  WE_bind (h.imp fun x r1 h1 => WE_bind (h1.imp fun y r2 h2 => WE_bind (h2.imp fun u r3 ⟨z, e, q⟩ => by rw [e]; exact ⟨q⟩)))
theorem WE_call {m : Fc} {A : Ac} (h : WE (A r) (fun ts r1 => WR (m ts) (fun t _ => ψ t r1) fun c w => ξ c w r1) ξ) : WE (cCall m A r) ψ ξ :=
  WE_bind (h.imp fun ts r1 q => by
    cases z : m ts with
    | ok t g => rw [z] at q; exact ⟨q.go⟩
    | ex c w => rw [z] at q; exact ⟨q.go⟩
    | no => rw [z] at q; exact q.go.elim)
theorem WE_callK {m : Fc} {A : Ac} {o : List Nat} (h : WE (A r) (fun ts r1 => WR (m (pick o ts)) (fun t _ => ψ t r1) fun c w => ξ c w r1) ξ) : WE (cCallK m o A r) ψ ξ :=
  WE_bind (h.imp fun ts r1 q => by
    cases z : m (pick o ts) with
    | ok t g => rw [z] at q; exact ⟨q.go⟩
    | ex c w => rw [z] at q; exact ⟨q.go⟩
    | no => rw [z] at q; exact q.go.elim)
theorem WE_callG {m : Fc} {A : Ac} (h : WE (A r) (fun ts r1 => ∃ us, r1[i]? = some (some (.lst us)) ∧ WR (m (.lst us :: ts)) (fun t g => ∃ us', g = [.lst us'] ∧ ψ t (r1.set i (some (.lst us')))) noR) ξ) : WE (cCallG m i A r) ψ ξ :=
  WE_bind (h.imp fun ts r1 ⟨us, e, q⟩ => by
    rw [e]
    show WE (cResG i r1 (m (.lst us :: ts))) ψ ξ
    cases z : m (.lst us :: ts) with
    | ok t g => rw [z] at q; obtain ⟨us', e2, q'⟩ := q.go; subst e2; exact ⟨q'⟩
    | ex c w => rw [z] at q; exact q.go.elim
    | no => rw [z] at q; exact q.go.elim)
/-- a comprehension whose parts change nothing -/
theorem wipe_back : ∀ (own : List Nat) (r : Sl), (∀ k ∈ own, k < r.length) → backT r (wipeT r own) own = r := by
  intro own r h
  refine List.ext_getElem? fun k => ?_
  by_cases hk : k ∈ own
  · have key : ∀ own : List Nat, k ∈ own → ∀ s : Sl, s.length = r.length → (backT r s own)[k]? = r[k]? := by
      intro own
      induction own with
      | nil => intro z; cases z
      | cons v vs ih =>
        intro z s hs
        unfold backT
        by_cases hv : v = k
        · subst hv
          have hl := h v hk
          rw [List.getElem?_set_self (by rw [backT_len]; omega), List.getD_eq_getElem?_getD, List.getElem?_eq_getElem hl]
          rfl
        · rw [List.getElem?_set_ne hv]
          exact ih ((List.mem_cons.mp z).resolve_left fun y => hv y.symm) s hs
    exact key own hk _ (wipeT_len _ _)
  · rw [backT_out hk, wipeT_get hk]
theorem WE_lc {own : List Nat} {I : Ac} {g : Gc} {C : Cc} {E : Ec} (p : T → Bool) (f : T → T) (h : WE (I r) (fun ts r1 => ts.length < 1000000 ∧ (∀ k ∈ own, k < r1.length) ∧
    (∀ t ∈ ts, ∃ q, g t (wipeT r1 own) = some q ∧ WE (C q) (fun z r2 => z = p t ∧ (p t = false → wipeT r2 own = wipeT r1 own) ∧ (p t = true → WE (E r2) (fun y r3 => y = f t ∧ wipeT r3 own = wipeT r1 own) noX)) noX) ∧ ψ (.lst ((ts.filter p).map f)) r1) ξ) : WE (cLc own I g C E r) ψ ξ := by
  refine WE_bind (h.imp fun ts r1 ⟨hl, hw, ht, q⟩ => WE_bind ?_)
  have key : ∀ (us : List T) (acc : List T), (∀ t ∈ us, t ∈ ts) → acc.length + us.length < 1000000 → lcGo own g C E us acc (wipeT r1 own) = .ok (acc ++ (us.filter p).map f) (wipeT r1 own) := by
    intro us
    induction us with
    | nil => intro acc _ _; simp [lcGo]
    | cons u us ih =>
      intro acc hm hn
      rw [List.length_cons] at hn
      obtain ⟨s, e1, w⟩ := ht u (hm u (List.mem_cons_self ..))
      unfold lcGo
      simp only [e1]
      cases z : C s with
      | ok b s2 =>
        rw [z] at w
        obtain ⟨w1, w2, w3⟩ := w.go
        subst w1
        cases hp : p u with
        | false =>
          simp only [hp]
          rw [w2 hp, ih acc (fun t h => hm t (List.mem_cons_of_mem _ h)) (by omega)]
          simp [hp]
        | true =>
          simp only [hp]
          have w4 := w3 hp
          cases y : E s2 with
          | ok t s3 =>
            rw [y] at w4
            obtain ⟨w5, w6⟩ := w4.go
            subst w5
            simp only [show acc.length < 1000000 by omega, if_true]
            rw [w6, ih (acc ++ [f u]) (fun t h => hm t (List.mem_cons_of_mem _ h)) (by rw [List.length_append, List.length_singleton]; omega)]
            simp [hp]
          | ex n w s3 => rw [y] at w4; exact w4.go.elim
          | no => rw [y] at w4; exact w4.go.elim
      | ex n v s2 => rw [z] at w; exact w.go.elim
      | no => rw [z] at w; exact w.go.elim
  rw [key ts [] (fun _ h => h) (by simpa using hl)]
  refine ⟨⟨?_⟩⟩
  show ψ (.lst _) (backT r1 (wipeT r1 own) own)
  rw [wipe_back own r1 hw]
  exact q
theorem WE_true {ψ : Bool → Sl → Prop} (q : ψ true r) : WE (cTrue r) ψ ξ := ⟨q⟩
end

/-! ### what is walked -/
section
variable {ψ : List T → Sl → Prop} {a : Ec} {A : Ac}
theorem WE_items (h : WE (a r) (fun x r1 => ∃ ts, (x = .lst ts ∨ x = .tup ts) ∧ ψ ts r1) ξ) : WE (cItems a r) ψ ξ :=
  WE_bind (h.imp fun x r1 ⟨ts, e, q⟩ => by rcases e with e | e <;> subst e <;> exact ⟨q⟩)
theorem WE_rg1 (h : WE (A r) (fun ts r1 => ∃ n, ts = [.int n] ∧ lim62 n = true ∧ ψ (rangeT 0 n) r1) ξ) : WE (cRange1 A r) ψ ξ :=
  WE_bind (h.imp fun x r1 ⟨n, e, e2, q⟩ => by subst e; simp only [e2, if_true]; exact ⟨q⟩)
theorem WE_rg2 (h : WE (A r) (fun ts r1 => ∃ m n, ts = [.int m, .int n] ∧ lim62 m = true ∧ lim62 n = true ∧ ψ (rangeT m n) r1) ξ) : WE (cRange2 A r) ψ ξ :=
  WE_bind (h.imp fun x r1 ⟨m, n, e, e2, e3, q⟩ => by subst e; simp only [e2, e3, Bool.and_true, if_true]; exact ⟨q⟩)
theorem WE_enum (h : WE (A r) (fun ts r1 => ∃ xs, ts = [.lst xs] ∧ ψ (enumT 0 xs) r1) ξ) : WE (cEnum A r) ψ ξ :=
  WE_bind (h.imp fun x r1 ⟨xs, e, q⟩ => by subst e; exact ⟨q⟩)
theorem WE_zip (h : WE (A r) (fun ts r1 => ∃ xs ys, ts = [.lst xs, .lst ys] ∧ ψ (zipT xs ys) r1) ξ) : WE (cZip A r) ψ ξ :=
  WE_bind (h.imp fun x r1 ⟨xs, ys, e, q⟩ => by subst e; exact ⟨q⟩)
theorem WE_revd (h : WE (A r) (fun ts r1 => ∃ xs, ts = [.lst xs] ∧ ψ xs.reverse r1) ξ) : WE (cRevd A r) ψ ξ :=
  WE_bind (h.imp fun x r1 ⟨xs, e, q⟩ => by subst e; exact ⟨q⟩)
end

/-! ### statements -/
section
variable {F G : Sc} {a b : Ec} {c : Cc}
theorem WS_nx (q : nx r) : WS (cNx r) nx rt bk ct ex := ⟨q⟩
theorem WS_bk (q : bk r) : WS (cBk r) nx rt bk ct ex := ⟨q⟩
theorem WS_ct (q : ct r) : WS (cCt r) nx rt bk ct ex := ⟨q⟩
theorem WS_seq (h : WS (F r) (fun r1 => WS (G r1) nx rt bk ct ex) rt bk ct ex) : WS (cSeq F G r) nx rt bk ct ex := by
  unfold cSeq
  cases z : F r with
  | nx r1 => rw [z] at h; exact h.go
  | no => rw [z] at h; exact h.go.elim
  | _ => rw [z] at h; exact ⟨h.go⟩
theorem WS_set (h : WE (a r) (fun t r1 => nx (r1.set i (some t))) ex) : WS (cSet i a r) nx rt bk ct ex := WS_so (h.imp fun _ _ q => ⟨q⟩)
theorem WS_drop (h : WE (a r) (fun _ r1 => nx r1) ex) : WS (cDrop a r) nx rt bk ct ex := WS_so (h.imp fun _ _ q => ⟨q⟩)
theorem WS_ret (h : WE (a r) (fun t r1 => rt t r1) ex) : WS (cRet a r) nx rt bk ct ex := WS_so (h.imp fun _ _ q => ⟨q⟩)
theorem WS_if (h : WE (c r) (fun z r1 => (z = true → WS (F r1) nx rt bk ct ex) ∧ (z = false → WS (G r1) nx rt bk ct ex)) ex) : WS (cIfS c F G r) nx rt bk ct ex :=
  WS_so (h.imp fun z r1 q => by
    cases z with
    | true => exact q.1 rfl
    | false => exact q.2 rfl)
theorem WS_app (h : WE (a r) (fun t r1 => ∃ ts, r1[i]? = some (some (.lst ts)) ∧ ts.length < 1000000 ∧ nx (r1.set i (some (.lst (ts ++ [t]))))) ex) : WS (cApnd i a r) nx rt bk ct ex :=
  WS_so (h.imp fun z r1 ⟨ts, e, e2, q⟩ => by rw [e]; simp only [e2, if_true]; exact ⟨q⟩)
theorem WS_put (h : WE (a r) (fun t r1 => WE (b r1) (fun k r2 => ∃ ts n m, r2[i]? = some (some (.lst ts)) ∧ k = .int n ∧ ixN ts.length n = some m ∧ nx (r2.set i (some (.lst (ts.set m t))))) ex) ex) : WS (cPut i b a r) nx rt bk ct ex :=
  WS_so (h.imp fun z r1 h1 => WS_so (h1.imp fun k r2 ⟨ts, n, m, e1, e2, e3, q⟩ => by subst e2; rw [e1]; simp only [e3]; exact ⟨q⟩))
theorem WS_par2 {A : Ac} (h : WE (A r) (fun ts r1 => ∃ t u, ts = [t, u] ∧ nx ((r1.set i (some t)).set k (some u))) ex) : WS (cPar2 i k A r) nx rt bk ct ex :=
  WS_so (h.imp fun z r1 ⟨t, u, e, q⟩ => by subst e; exact ⟨q⟩)
theorem WS_par3 {A : Ac} (h : WE (A r) (fun ts r1 => ∃ t u v, ts = [t, u, v] ∧ nx (((r1.set i (some t)).set k (some u)).set l (some v))) ex) : WS (cPar3 i k l A r) nx rt bk ct ex :=
  WS_so (h.imp fun z r1 ⟨t, u, v, e, q⟩ => by subst e; exact ⟨q⟩)
theorem WS_asg {g : Gc} (h : WE (a r) (fun t r1 => ∃ r2, g t r1 = some r2 ∧ nx r2) ex) : WS (cAsg g a r) nx rt bk ct ex :=
  WS_so (h.imp fun z r1 ⟨r2, e, q⟩ => by rw [e]; exact ⟨q⟩)
theorem forGo_inv {g : Gc} (Inv : Nat → Sl → Prop) : ∀ (ts us : List T) (r : Sl), Inv us.length r →
    (∀ i t r, us.length ≤ i → (us ++ ts)[i]? = some t → Inv i r → ∃ r1, g t r = some r1 ∧ WS (F r1) (Inv (i + 1)) rt nx (Inv (i + 1)) ex) → (∀ r, Inv (us ++ ts).length r → nx r) → WS (forGo g F ts r) nx rt bk ct ex
  | [], us, r, h0, _, h2 => ⟨h2 r (by rw [List.append_nil]; exact h0)⟩
  | t :: ts, us, r, h0, h1, h2 => by
    obtain ⟨r1, e, w⟩ := h1 us.length t r (Nat.le_refl _) (by simp) h0
    unfold forGo
    simp only [e]
    have next : ∀ r2, Inv (us.length + 1) r2 → WS (forGo g F ts r2) nx rt bk ct ex := fun r2 h =>
      forGo_inv Inv ts (us ++ [t]) r2 (by rw [List.length_append]; exact h) (fun i t' r' hi he => h1 i t' r' (by rw [List.length_append] at hi; simp at hi; omega) (by rw [List.append_assoc] at he; exact he))
        (fun r' h' => h2 r' (by rw [List.append_assoc] at h'; exact h'))
    cases z : F r1 with
    | nx r2 => rw [z] at w; exact next r2 w.go
    | ct r2 => rw [z] at w; exact next r2 w.go
    | bk r2 => rw [z] at w; exact ⟨w.go⟩
    | rt t' r2 => rw [z] at w; exact ⟨w.go⟩
    | ex n w' r2 => rw [z] at w; exact ⟨w.go⟩
    | no => rw [z] at w; exact w.go.elim
theorem WS_for {I : Ac} {g : Gc} (Inv : List T → Nat → Sl → Prop) (h : WE (I r) (fun ts r1 => Inv ts 0 r1 ∧ (∀ i t r, ts[i]? = some t → Inv ts i r → ∃ r1, g t r = some r1 ∧ WS (F r1) (Inv ts (i + 1)) rt nx (Inv ts (i + 1)) ex) ∧ ∀ r, Inv ts ts.length r → nx r) ex) :
    WS (cFor I g F r) nx rt bk ct ex :=
  WS_so (h.imp fun ts r1 ⟨h0, h1, h2⟩ => forGo_inv (Inv ts) ts [] r1 h0 (fun i t r _ e => h1 i t r e) h2)
theorem whGo_inv (Inv : Sl → Prop) (v : Sl → Nat) (h : ∀ r, Inv r → WE (c r) (fun z r1 => (z = true → WS (F r1) (fun r2 => Inv r2 ∧ v r2 < v r) rt nx (fun r2 => Inv r2 ∧ v r2 < v r) ex) ∧ (z = false → nx r1)) ex) :
    ∀ (n : Nat) (r : Sl), v r < n → Inv r → WS (whGo c F n r) nx rt bk ct ex
  | 0, r, hn, _ => absurd hn (Nat.not_lt_zero _)
  | n + 1, r, hn, hi => by
    have w := h r hi
    unfold whGo
    cases z : c r with
    | ok b r1 =>
      rw [z] at w
      cases b with
      | false => exact ⟨w.go.2 rfl⟩
      | true =>
        have w := w.go.1 rfl
        simp only
        cases y : F r1 with
        | nx r2 => rw [y] at w; exact whGo_inv Inv v h n r2 (by have := w.go.2; omega) w.go.1
        | ct r2 => rw [y] at w; exact whGo_inv Inv v h n r2 (by have := w.go.2; omega) w.go.1
        | bk r2 => rw [y] at w; exact ⟨w.go⟩
        | rt t' r2 => rw [y] at w; exact ⟨w.go⟩
        | ex n w' r2 => rw [y] at w; exact ⟨w.go⟩
        | no => rw [y] at w; exact w.go.elim
    | ex n' w' r1 => rw [z] at w; exact ⟨w.go⟩
    | no => rw [z] at w; exact w.go.elim
theorem WS_wh {n : Nat} (Inv : Sl → Prop) (v : Sl → Nat) (h0 : Inv r) (hv : v r < n) (h : ∀ r, Inv r → WE (c r) (fun z r1 => (z = true → WS (F r1) (fun r2 => Inv r2 ∧ v r2 < v r) rt nx (fun r2 => Inv r2 ∧ v r2 < v r) ex) ∧ (z = false → nx r1)) ex) :
    WS (cWh n c F r) nx rt bk ct ex := whGo_inv Inv v h n r hv h0

/-! ### defs -/
theorem WR_fn {n : Nat} {ts : List T} {s : Sl} {χ : T → List T → Prop} {ζ : Str → T → Prop} (h : WS (F s) (fun _ => χ .non []) (fun t _ => χ t []) noS noS (fun c w _ => ζ c w)) (hs : ts.map some ++ List.replicate (n - ts.length) none = s := by rfl) : WR (fnM false n F ts) χ ζ := by
  show WR (fnT n F ts) χ ζ
  unfold fnT
  rw [hs]
  cases z : F s with
  | nx r => rw [z] at h; exact ⟨h.go⟩
  | rt t r => rw [z] at h; exact ⟨h.go⟩
  | ex c w r => rw [z] at h; exact ⟨h.go⟩
  | bk r => rw [z] at h; exact h.go.elim
  | ct r => rw [z] at h; exact h.go.elim
  | no => rw [z] at h; exact h.go.elim
theorem WR_fnG {n : Nat} {ts : List T} {s : Sl} {χ : T → List T → Prop} {ζ : Str → T → Prop} (h : WS (F s) (fun r => ∃ us, r[0]? = some (some (.lst us)) ∧ χ .non [.lst us]) (fun t r => ∃ us, r[0]? = some (some (.lst us)) ∧ χ t [.lst us]) noS noS noX) (hs : ts.map some ++ List.replicate (n - ts.length) none = s := by rfl) : WR (fnM true n F ts) χ ζ := by
  show WR (fnG n F ts) χ ζ
  unfold fnG
  rw [hs]
  cases z : F s with
  | nx r => rw [z] at h; obtain ⟨us, e, q⟩ := h.go; simp only [e]; exact ⟨q⟩
  | rt t r => rw [z] at h; obtain ⟨us, e, q⟩ := h.go; simp only [e]; exact ⟨q⟩
  | ex c w r => rw [z] at h; exact h.go.elim
  | bk r => rw [z] at h; exact h.go.elim
  | ct r => rw [z] at h; exact h.go.elim
  | no => rw [z] at h; exact h.go.elim
theorem WR.eq {o : Res} {t : T} {g : List T} (h : WR o (fun t' g' => t' = t ∧ g' = g) noR) : o = .ok t g := by
  cases o with
  | ok t' g' => obtain ⟨rfl, rfl⟩ := (show t' = t ∧ g' = g from h.go); rfl
  | ex c w => exact h.go.elim
  | no => exact h.go.elim
theorem WR.of_eq {o : Res} {t : T} {g : List T} {χ : T → List T → Prop} {ζ : Str → T → Prop} (e : o = .ok t g) (h : χ t g) : WR o χ ζ := by rw [e]; exact ⟨h⟩
end
end
/-! ### truth values that cannot be -/
theorem ff1 {p : Prop} (h : false = true) : p := nomatch h
theorem ff2 {p : Prop} (h : (!true) = true) : p := nomatch h
theorem ff3 {p : Prop} (h : (true == false) = true) : p := nomatch h
theorem ff4 {p : Prop} (h : (false == true) = true) : p := nomatch h
theorem ff5 {p : Prop} (h : (!!false) = true) : p := nomatch h
theorem tt1 {p : Prop} (h : true = false) : p := nomatch h
theorem tt2 {p : Prop} (h : (!false) = false) : p := nomatch h
theorem tt3 {p : Prop} (h : (true == true) = false) : p := nomatch h
theorem tt4 {p : Prop} (h : (false == false) = false) : p := nomatch h
theorem tt5 {p : Prop} (h : (!!true) = false) : p := nomatch h
/-! ### sizes -/
theorem okSz_of {i : Int} (h1 : -1000000000000000000000000000000 ≤ i) (h2 : i ≤ 1000000000000000000000000000000) : okSz i = true := by
  have h : i.natAbs < 2 ^ 100 := by
    have e : (2 : Nat) ^ 100 = 1267650600228229401496703205376 := by decide
    omega
  refine decide_eq_true ?_
  by_cases z : i.natAbs = 0
  · rw [z]; decide
  · have := (Nat.log2_lt z).mpr h
    omega
theorem okDv_of {i : Int} (h1 : 0 < i) (h2 : i ≤ 1000000000000000000000000000000) : okDv i = true := by
  have h : i.natAbs < 2 ^ 100 := by
    have e : (2 : Nat) ^ 100 = 1267650600228229401496703205376 := by decide
    omega
  refine decide_eq_true ⟨h1, ?_⟩
  have := (Nat.log2_lt (by omega)).mpr h
  omega
theorem lim62_of {i : Int} (h1 : -1000000000000000000 ≤ i) (h2 : i ≤ 1000000000000000000) : lim62 i = true := decide_eq_true ⟨h1, h2⟩
theorem mulT_of {i j : Int} (h1 : -1000000000000000000000000000000 ≤ i) (h2 : i ≤ 1000000000000000000000000000000) (h3 : -1000000000000000000000000000000 ≤ j) (h4 : j ≤ 1000000000000000000000000000000) : mulT (.int i) (.int j) = some (.int (i * j)) := by
  simp only [mulT, okSz_of h1 h2, okSz_of h3 h4, Bool.and_true, if_true]
theorem fdivT_of {i j : Int} (h1 : 0 < j) (h2 : j ≤ 1000000000000000000000000000000) : fdivT (.int i) (.int j) = some (.int (i / j)) := by
  simp only [fdivT, okDv_of h1 h2, if_true]
theorem modT_of {i j : Int} (h1 : 0 < j) : modT (.int i) (.int j) = some (.int (i % j)) := by
  simp only [modT, h1, if_true]
end Tc

/-! Tc: what all laws draw and compare with. -/
namespace Tc
open PySem PySem.Spec L2
def cm_law_hash : Fc := fnM false 3 (cSeq (cSet 2 (cBin modT (cApp intT (cCons (cBin addT (cBin addT (cBin addT (cBin mulT (cVar 0) (cK (.int 1140671))) (cBin mulT (cBin mulT (cK (.int 27644437)) (cVar 1)) (cVar 1))) (cBin mulT (cK (.int 131)) (cVar 1))) (cK (.int 19))) cNil)) (cK (.int 2147483629))))
 (cSeq (cSet 2 (cBin modT (cApp intT (cCons (cBin addT (cBin addT (cBin mulT (cVar 2) (cVar 2)) (cBin mulT (cK (.int 62089)) (cVar 1))) (cK (.int 32416187))) cNil)) (cK (.int 2147483587))))
 (cRet (cBin modT (cApp intT (cCons (cBin mulT (cVar 2) (cK (.int 48271))) cNil)) (cK (.int 2147483647))))))
def cm_law_random : Fc := fnM true 4 (cSeq (cIfS (cB (cBin gtT (cPix 0 (cK (.int 0))) (cK (.int 0))))
 (cSeq (cSet 2 (cBin modT (cApp intT (cCons (cPix 0 (cK (.int 0))) cNil)) (cVar 1)))
 (cSeq (cPut 0 (cK (.int 0)) (cBin fdivT (cPix 0 (cK (.int 0))) (cVar 1)))
 (cRet (cVar 2))))
 cNx)
 (cSeq (cSet 2 (cK (.int 0)))
 (cSeq (cFor (cRange1 (cCons (cBin addT (cK (.int 1)) (cBin fdivT (cUn bitsT (cVar 1)) (cK (.int 30)))) cNil)) (gSet 3)
 (cSeq (cPut 0 (cK (.int 2)) (cBin addT (cPix 0 (cK (.int 2))) (cK (.int 1))))
 (cSet 2 (cBin addT (cBin mulT (cVar 2) (cK (.int 2147483587))) (cCall cm_law_hash (cCons (cPix 0 (cK (.int 1))) (cCons (cPix 0 (cK (.int 2))) cNil)))))))
 (cRet (cBin modT (cApp intT (cCons (cVar 2) cNil)) (cVar 1))))))
def cm_law_cell : Fc := fnM false 2 (cSeq (cIfS (cB (cBin ltT (cVar 1) (cApp lenT (cCons (cVar 0) cNil))))
 (cRet (cBin ixT (cVar 0) (cVar 1)))
 cNx)
 (cRet (cBin modT (cApp sumT (cCons (cSl slT (cVar 0) cP0 (cP1 (cK (.int 1)))) cNil)) (cK (.int 1000003)))))
def cm_law_generator : Fc := fnM false 3 (cSeq (cSet 2 (cCall cm_law_cell (cCons (cVar 0) (cCons (cVar 1) cNil))))
 (cRet (cLst (cCons (cBin modT (cApp intT (cCons (cApp max2T (cCons (cBin subT (cVar 2) (cBin powT (cK (.int 10)) (cK (.int 18)))) (cCons (cK (.int 0)) cNil))) cNil)) (cBin powT (cBin powT (cK (.int 10)) (cK (.int 60))) (cK (.int 10)))) (cCons (cBin modT (cApp intT (cCons (cVar 2) cNil)) (cK (.int 2147483647))) (cCons (cBin mulT (cK (.int 1000)) (cVar 1)) cNil))))))
def cm_law_pick : Fc := fnM true 2 (cRet (cBin ixT (cVar 1) (cCallG cm_law_random 0 (cCons (cApp lenT (cCons (cVar 1) cNil)) cNil))))
def cm_law_same : Nat → Fc
  | 0 => fun _ => .no
  | n + 1 => fnM false 3 (cSeq (cIfS (cOrC (cB (cBin isT (cVar 1) (cK .non))) (cOrC (cB (cBin isT (cVar 1) (cK (.bl true)))) (cB (cBin isT (cVar 1) (cK (.bl false))))))
 (cRet (cIf (cB (cBin isT (cVar 1) (cK .non))) (cBin isT (cVar 0) (cK .non)) (cIf (cB (cBin isT (cVar 1) (cK (.bl true)))) (cBin isT (cVar 0) (cK (.bl true))) (cBin isT (cVar 0) (cK (.bl false))))))
 cNx)
 (cSeq (cIfS (cB (cUn (isisT [.list, .tuple]) (cVar 1)))
 (cSeq (cIfS (cOrC (cAndC (cNotC (cB (cUn (isiT .list) (cVar 0)))) (cB (cUn (isiT .list) (cVar 1)))) (cAndC (cNotC (cB (cUn (isiT .tuple) (cVar 0)))) (cB (cUn (isiT .tuple) (cVar 1)))))
 (cRet (cK (.bl false)))
 cNx)
 (cRet (cAndV (cBin eqT (cApp lenT (cCons (cVar 0) cNil)) (cApp lenT (cCons (cVar 1) cNil))) (cBin eqT (cLc [2] (cRange1 (cCons (cApp lenT (cCons (cVar 1) cNil)) cNil)) (gSet 2) (cNotC (cB (cCall (cm_law_same n) (cCons (cBin ixT (cVar 0) (cVar 2)) (cCons (cBin ixT (cVar 1) (cVar 2)) cNil))))) (cVar 2)) (cLst cNil)))))
 cNx)
 (cSeq (cIfS (cB (cUn (isiT .int) (cVar 1)))
 (cRet (cAndV (cUn (isiT .int) (cVar 0)) (cAndV (cNotV (cUn (isiT .bool) (cVar 0))) (cBin eqT (cVar 0) (cVar 1)))))
 cNx)
 (cRet (cAndV (cUn (isiT .str) (cVar 0)) (cBin eqT (cVar 0) (cVar 1)))))))
def cm_is_whole : Fc := fnM false 1 (cRet (cAndV (cUn (isiT .int) (cVar 0)) (cNotV (cUn (isiT .bool) (cVar 0)))))
def cm_is_count : Fc := fnM false 1 (cRet (cAndV (cCall cm_is_whole (cCons (cVar 0) cNil)) (cBin geT (cVar 0) (cK (.int 0)))))
def cm_is_below : Fc := fnM false 2 (cRet (cAndV (cCall cm_is_count (cCons (cVar 0) cNil)) (cBin ltT (cVar 0) (cVar 1))))

section
variable {χ : T → List T → Prop} {ζ : Str → T → Prop}
theorem mul_bd {a b A B : Int} (h1 : 0 ≤ a) (h2 : a ≤ A) (h3 : 0 ≤ b) (h4 : b ≤ B) : 0 ≤ a * b ∧ a * b ≤ A * B :=
  ⟨Int.mul_nonneg h1 h3, Int.mul_le_mul h2 h4 h3 (Int.le_trans h1 h2)⟩
theorem div_bd {a b : Int} (h1 : 0 ≤ a) (h2 : 0 < b) : 0 ≤ a / b ∧ a / b ≤ a := ⟨Int.ediv_nonneg h1 (Int.le_of_lt h2), Int.ediv_le_self _ h1⟩
theorem mod_bd {a b : Int} (h2 : 0 < b) : 0 ≤ a % b ∧ a % b < b := ⟨Int.emod_nonneg _ (by omega), Int.emod_lt_of_pos _ h2⟩
theorem hash_ok {s k : Int} (h1 : 0 ≤ s) (h2 : s < 2147483647) (h3 : 0 ≤ k) (h4 : k ≤ 1000000000) (q : ∀ h, 0 ≤ h → h < 2147483647 → χ (.int h) []) : WR (cm_law_hash [.int s, .int k]) χ ζ := by
  refine WR_fn ?_
  try simp only [List.map_cons, List.map_nil, List.cons_append, List.nil_append, List.length_cons, List.length_nil, Nat.zero_add, Nat.reduceAdd, Nat.reduceSub, Nat.sub_self, List.replicate_zero, List.replicate_succ, List.append_nil, List.set_cons_zero, List.set_cons_succ]
  have b1 := mul_bd (a := 27644437 * k) (b := k) (by omega) (show 27644437 * k ≤ 27644437000000000 by omega) h3 h4
  repeat' (first
      | with_reducible (first | refine WS_seq ?_ | refine WS_set ?_ | refine WS_ret ?_ | refine WS_if ?_ | refine WS_drop ?_ | refine WS_nx ?_ | refine WE_bin ?_ | refine WE_cons ?_ | refine WE_nil ?_ | refine WE_k ?_ | refine WE_app ?_ | refine WE_un ?_ | refine WE_B ?_ | refine WE_notC ?_ | refine WE_call ?_ | refine WE_callK ?_ | refine WE_lst ?_ | refine WE_tup ?_ | refine WE_chain ?_ | refine WE_andV ?_ | refine WE_orV ?_ | refine WE_notV ?_ | refine WE_andC ?_ | refine WE_orC ?_ | refine WE_if ?_ | refine WS_par2 ?_ | refine WS_par3 ?_ | refine WE_rg1 ?_ | refine WE_rg2 ?_ | refine WE_items ?_ | refine WE_enum ?_ | refine WE_zip ?_ | refine WE_revd ?_ | refine WE_callG ?_ | refine WS_put ?_ | refine WS_app ?_ | refine WE_pix ?_ | refine WE_sl ?_ | refine WE_p0 ?_ | refine WE_p1 ?_ | refine WE_true ?_ | refine WS_asg ?_) | ((with_reducible apply WE_var); (case h => exact rfl))
      | ((with_reducible refine And.intro ?_ ?_); (with_reducible first | exact ff1 | exact ff2 | exact ff3 | exact ff4 | exact ff5 | fail); (intro _))
      | ((with_reducible refine And.intro ?_ ?_); rotate_left; (with_reducible first | exact tt1 | exact tt2 | exact tt3 | exact tt4 | exact tt5 | fail); (intro _))
      | ((with_reducible apply Exists.intro); (with_reducible apply And.intro); first | ((with_reducible (first | show addT (.int _) (.int _) = some _ | show subT (.int _) (.int _) = some _ | show negT (.int _) = some _ | show ltT (.int _) (.int _) = some _ | show leT (.int _) (.int _) = some _ | show gtT (.int _) (.int _) = some _ | show geT (.int _) (.int _) = some _ | show intT [.int _] = some _ | show max2T [.int _, .int _] = some _ | show min2T [.int _, .int _] = some _ | show absT [.int _] = some _ | show eqT (.int _) (.int _) = some _ | show neT (.int _) (.int _) = some _ | show T.bl _ = T.bl _)); exact rfl) | ((with_reducible (first | show isiT _ _ = some _ | show isT _ _ = some _ | show isNT _ _ = some _ | show isisT _ _ = some _)); first | exact (rfl : _ = some (T.bl true)) | exact (rfl : _ = some (T.bl false)) | exact rfl) | fail)
      | fail)
  refine ⟨_, mulT_of (by omega) (by omega) (by omega) (by omega), ?_⟩
  repeat' (first
      | with_reducible (first | refine WS_seq ?_ | refine WS_set ?_ | refine WS_ret ?_ | refine WS_if ?_ | refine WS_drop ?_ | refine WS_nx ?_ | refine WE_bin ?_ | refine WE_cons ?_ | refine WE_nil ?_ | refine WE_k ?_ | refine WE_app ?_ | refine WE_un ?_ | refine WE_B ?_ | refine WE_notC ?_ | refine WE_call ?_ | refine WE_callK ?_ | refine WE_lst ?_ | refine WE_tup ?_ | refine WE_chain ?_ | refine WE_andV ?_ | refine WE_orV ?_ | refine WE_notV ?_ | refine WE_andC ?_ | refine WE_orC ?_ | refine WE_if ?_ | refine WS_par2 ?_ | refine WS_par3 ?_ | refine WE_rg1 ?_ | refine WE_rg2 ?_ | refine WE_items ?_ | refine WE_enum ?_ | refine WE_zip ?_ | refine WE_revd ?_ | refine WE_callG ?_ | refine WS_put ?_ | refine WS_app ?_ | refine WE_pix ?_ | refine WE_sl ?_ | refine WE_p0 ?_ | refine WE_p1 ?_ | refine WE_true ?_ | refine WS_asg ?_) | ((with_reducible apply WE_var); (case h => exact rfl))
      | ((with_reducible refine And.intro ?_ ?_); (with_reducible first | exact ff1 | exact ff2 | exact ff3 | exact ff4 | exact ff5 | fail); (intro _))
      | ((with_reducible refine And.intro ?_ ?_); rotate_left; (with_reducible first | exact tt1 | exact tt2 | exact tt3 | exact tt4 | exact tt5 | fail); (intro _))
      | ((with_reducible apply Exists.intro); (with_reducible apply And.intro); first | ((with_reducible (first | show addT (.int _) (.int _) = some _ | show subT (.int _) (.int _) = some _ | show negT (.int _) = some _ | show ltT (.int _) (.int _) = some _ | show leT (.int _) (.int _) = some _ | show gtT (.int _) (.int _) = some _ | show geT (.int _) (.int _) = some _ | show intT [.int _] = some _ | show max2T [.int _, .int _] = some _ | show min2T [.int _, .int _] = some _ | show absT [.int _] = some _ | show eqT (.int _) (.int _) = some _ | show neT (.int _) (.int _) = some _ | show T.bl _ = T.bl _)); exact rfl) | ((with_reducible (first | show isiT _ _ = some _ | show isT _ _ = some _ | show isNT _ _ = some _ | show isisT _ _ = some _)); first | exact (rfl : _ = some (T.bl true)) | exact (rfl : _ = some (T.bl false)) | exact rfl) | fail)
      | fail)
  refine ⟨_, mulT_of (by omega) (by omega) (by omega) (by omega), ?_⟩
  repeat' (first
      | with_reducible (first | refine WS_seq ?_ | refine WS_set ?_ | refine WS_ret ?_ | refine WS_if ?_ | refine WS_drop ?_ | refine WS_nx ?_ | refine WE_bin ?_ | refine WE_cons ?_ | refine WE_nil ?_ | refine WE_k ?_ | refine WE_app ?_ | refine WE_un ?_ | refine WE_B ?_ | refine WE_notC ?_ | refine WE_call ?_ | refine WE_callK ?_ | refine WE_lst ?_ | refine WE_tup ?_ | refine WE_chain ?_ | refine WE_andV ?_ | refine WE_orV ?_ | refine WE_notV ?_ | refine WE_andC ?_ | refine WE_orC ?_ | refine WE_if ?_ | refine WS_par2 ?_ | refine WS_par3 ?_ | refine WE_rg1 ?_ | refine WE_rg2 ?_ | refine WE_items ?_ | refine WE_enum ?_ | refine WE_zip ?_ | refine WE_revd ?_ | refine WE_callG ?_ | refine WS_put ?_ | refine WS_app ?_ | refine WE_pix ?_ | refine WE_sl ?_ | refine WE_p0 ?_ | refine WE_p1 ?_ | refine WE_true ?_ | refine WS_asg ?_) | ((with_reducible apply WE_var); (case h => exact rfl))
      | ((with_reducible refine And.intro ?_ ?_); (with_reducible first | exact ff1 | exact ff2 | exact ff3 | exact ff4 | exact ff5 | fail); (intro _))
      | ((with_reducible refine And.intro ?_ ?_); rotate_left; (with_reducible first | exact tt1 | exact tt2 | exact tt3 | exact tt4 | exact tt5 | fail); (intro _))
      | ((with_reducible apply Exists.intro); (with_reducible apply And.intro); first | ((with_reducible (first | show addT (.int _) (.int _) = some _ | show subT (.int _) (.int _) = some _ | show negT (.int _) = some _ | show ltT (.int _) (.int _) = some _ | show leT (.int _) (.int _) = some _ | show gtT (.int _) (.int _) = some _ | show geT (.int _) (.int _) = some _ | show intT [.int _] = some _ | show max2T [.int _, .int _] = some _ | show min2T [.int _, .int _] = some _ | show absT [.int _] = some _ | show eqT (.int _) (.int _) = some _ | show neT (.int _) (.int _) = some _ | show T.bl _ = T.bl _)); exact rfl) | ((with_reducible (first | show isiT _ _ = some _ | show isT _ _ = some _ | show isNT _ _ = some _ | show isisT _ _ = some _)); first | exact (rfl : _ = some (T.bl true)) | exact (rfl : _ = some (T.bl false)) | exact rfl) | fail)
      | fail)
  refine ⟨_, mulT_of (by omega) (by omega) (by omega) (by omega), ?_⟩
  repeat' (first
      | with_reducible (first | refine WS_seq ?_ | refine WS_set ?_ | refine WS_ret ?_ | refine WS_if ?_ | refine WS_drop ?_ | refine WS_nx ?_ | refine WE_bin ?_ | refine WE_cons ?_ | refine WE_nil ?_ | refine WE_k ?_ | refine WE_app ?_ | refine WE_un ?_ | refine WE_B ?_ | refine WE_notC ?_ | refine WE_call ?_ | refine WE_callK ?_ | refine WE_lst ?_ | refine WE_tup ?_ | refine WE_chain ?_ | refine WE_andV ?_ | refine WE_orV ?_ | refine WE_notV ?_ | refine WE_andC ?_ | refine WE_orC ?_ | refine WE_if ?_ | refine WS_par2 ?_ | refine WS_par3 ?_ | refine WE_rg1 ?_ | refine WE_rg2 ?_ | refine WE_items ?_ | refine WE_enum ?_ | refine WE_zip ?_ | refine WE_revd ?_ | refine WE_callG ?_ | refine WS_put ?_ | refine WS_app ?_ | refine WE_pix ?_ | refine WE_sl ?_ | refine WE_p0 ?_ | refine WE_p1 ?_ | refine WE_true ?_ | refine WS_asg ?_) | ((with_reducible apply WE_var); (case h => exact rfl))
      | ((with_reducible refine And.intro ?_ ?_); (with_reducible first | exact ff1 | exact ff2 | exact ff3 | exact ff4 | exact ff5 | fail); (intro _))
      | ((with_reducible refine And.intro ?_ ?_); rotate_left; (with_reducible first | exact tt1 | exact tt2 | exact tt3 | exact tt4 | exact tt5 | fail); (intro _))
      | ((with_reducible apply Exists.intro); (with_reducible apply And.intro); first | ((with_reducible (first | show addT (.int _) (.int _) = some _ | show subT (.int _) (.int _) = some _ | show negT (.int _) = some _ | show ltT (.int _) (.int _) = some _ | show leT (.int _) (.int _) = some _ | show gtT (.int _) (.int _) = some _ | show geT (.int _) (.int _) = some _ | show intT [.int _] = some _ | show max2T [.int _, .int _] = some _ | show min2T [.int _, .int _] = some _ | show absT [.int _] = some _ | show eqT (.int _) (.int _) = some _ | show neT (.int _) (.int _) = some _ | show T.bl _ = T.bl _)); exact rfl) | ((with_reducible (first | show isiT _ _ = some _ | show isT _ _ = some _ | show isNT _ _ = some _ | show isisT _ _ = some _)); first | exact (rfl : _ = some (T.bl true)) | exact (rfl : _ = some (T.bl false)) | exact rfl) | fail)
      | fail)
  refine ⟨_, mulT_of (by omega) (by omega) (by omega) (by omega), ?_⟩
  repeat' (first
      | with_reducible (first | refine WS_seq ?_ | refine WS_set ?_ | refine WS_ret ?_ | refine WS_if ?_ | refine WS_drop ?_ | refine WS_nx ?_ | refine WE_bin ?_ | refine WE_cons ?_ | refine WE_nil ?_ | refine WE_k ?_ | refine WE_app ?_ | refine WE_un ?_ | refine WE_B ?_ | refine WE_notC ?_ | refine WE_call ?_ | refine WE_callK ?_ | refine WE_lst ?_ | refine WE_tup ?_ | refine WE_chain ?_ | refine WE_andV ?_ | refine WE_orV ?_ | refine WE_notV ?_ | refine WE_andC ?_ | refine WE_orC ?_ | refine WE_if ?_ | refine WS_par2 ?_ | refine WS_par3 ?_ | refine WE_rg1 ?_ | refine WE_rg2 ?_ | refine WE_items ?_ | refine WE_enum ?_ | refine WE_zip ?_ | refine WE_revd ?_ | refine WE_callG ?_ | refine WS_put ?_ | refine WS_app ?_ | refine WE_pix ?_ | refine WE_sl ?_ | refine WE_p0 ?_ | refine WE_p1 ?_ | refine WE_true ?_ | refine WS_asg ?_) | ((with_reducible apply WE_var); (case h => exact rfl))
      | ((with_reducible refine And.intro ?_ ?_); (with_reducible first | exact ff1 | exact ff2 | exact ff3 | exact ff4 | exact ff5 | fail); (intro _))
      | ((with_reducible refine And.intro ?_ ?_); rotate_left; (with_reducible first | exact tt1 | exact tt2 | exact tt3 | exact tt4 | exact tt5 | fail); (intro _))
      | ((with_reducible apply Exists.intro); (with_reducible apply And.intro); first | ((with_reducible (first | show addT (.int _) (.int _) = some _ | show subT (.int _) (.int _) = some _ | show negT (.int _) = some _ | show ltT (.int _) (.int _) = some _ | show leT (.int _) (.int _) = some _ | show gtT (.int _) (.int _) = some _ | show geT (.int _) (.int _) = some _ | show intT [.int _] = some _ | show max2T [.int _, .int _] = some _ | show min2T [.int _, .int _] = some _ | show absT [.int _] = some _ | show eqT (.int _) (.int _) = some _ | show neT (.int _) (.int _) = some _ | show T.bl _ = T.bl _)); exact rfl) | ((with_reducible (first | show isiT _ _ = some _ | show isT _ _ = some _ | show isNT _ _ = some _ | show isisT _ _ = some _)); first | exact (rfl : _ = some (T.bl true)) | exact (rfl : _ = some (T.bl false)) | exact rfl) | fail)
      | fail)
  refine ⟨_, modT_of (by omega), ?_⟩
  have m1 := mod_bd (a := s * 1140671 + 27644437 * k * k + 131 * k + 19) (b := 2147483629) (by omega)
  generalize (s * 1140671 + 27644437 * k * k + 131 * k + 19) % 2147483629 = m at *
  try simp only [List.map_cons, List.map_nil, List.cons_append, List.nil_append, List.length_cons, List.length_nil, Nat.zero_add, Nat.reduceAdd, Nat.reduceSub, Nat.sub_self, List.replicate_zero, List.replicate_succ, List.append_nil, List.set_cons_zero, List.set_cons_succ]
  have m2 := mul_bd m1.1 (Int.le_of_lt m1.2) m1.1 (Int.le_of_lt m1.2)
  repeat' (first
      | with_reducible (first | refine WS_seq ?_ | refine WS_set ?_ | refine WS_ret ?_ | refine WS_if ?_ | refine WS_drop ?_ | refine WS_nx ?_ | refine WE_bin ?_ | refine WE_cons ?_ | refine WE_nil ?_ | refine WE_k ?_ | refine WE_app ?_ | refine WE_un ?_ | refine WE_B ?_ | refine WE_notC ?_ | refine WE_call ?_ | refine WE_callK ?_ | refine WE_lst ?_ | refine WE_tup ?_ | refine WE_chain ?_ | refine WE_andV ?_ | refine WE_orV ?_ | refine WE_notV ?_ | refine WE_andC ?_ | refine WE_orC ?_ | refine WE_if ?_ | refine WS_par2 ?_ | refine WS_par3 ?_ | refine WE_rg1 ?_ | refine WE_rg2 ?_ | refine WE_items ?_ | refine WE_enum ?_ | refine WE_zip ?_ | refine WE_revd ?_ | refine WE_callG ?_ | refine WS_put ?_ | refine WS_app ?_ | refine WE_pix ?_ | refine WE_sl ?_ | refine WE_p0 ?_ | refine WE_p1 ?_ | refine WE_true ?_ | refine WS_asg ?_) | ((with_reducible apply WE_var); (case h => exact rfl))
      | ((with_reducible refine And.intro ?_ ?_); (with_reducible first | exact ff1 | exact ff2 | exact ff3 | exact ff4 | exact ff5 | fail); (intro _))
      | ((with_reducible refine And.intro ?_ ?_); rotate_left; (with_reducible first | exact tt1 | exact tt2 | exact tt3 | exact tt4 | exact tt5 | fail); (intro _))
      | ((with_reducible apply Exists.intro); (with_reducible apply And.intro); first | ((with_reducible (first | show addT (.int _) (.int _) = some _ | show subT (.int _) (.int _) = some _ | show negT (.int _) = some _ | show ltT (.int _) (.int _) = some _ | show leT (.int _) (.int _) = some _ | show gtT (.int _) (.int _) = some _ | show geT (.int _) (.int _) = some _ | show intT [.int _] = some _ | show max2T [.int _, .int _] = some _ | show min2T [.int _, .int _] = some _ | show absT [.int _] = some _ | show eqT (.int _) (.int _) = some _ | show neT (.int _) (.int _) = some _ | show T.bl _ = T.bl _)); exact rfl) | ((with_reducible (first | show isiT _ _ = some _ | show isT _ _ = some _ | show isNT _ _ = some _ | show isisT _ _ = some _)); first | exact (rfl : _ = some (T.bl true)) | exact (rfl : _ = some (T.bl false)) | exact rfl) | fail)
      | fail)
  refine ⟨_, mulT_of (by omega) (by omega) (by omega) (by omega), ?_⟩
  repeat' (first
      | with_reducible (first | refine WS_seq ?_ | refine WS_set ?_ | refine WS_ret ?_ | refine WS_if ?_ | refine WS_drop ?_ | refine WS_nx ?_ | refine WE_bin ?_ | refine WE_cons ?_ | refine WE_nil ?_ | refine WE_k ?_ | refine WE_app ?_ | refine WE_un ?_ | refine WE_B ?_ | refine WE_notC ?_ | refine WE_call ?_ | refine WE_callK ?_ | refine WE_lst ?_ | refine WE_tup ?_ | refine WE_chain ?_ | refine WE_andV ?_ | refine WE_orV ?_ | refine WE_notV ?_ | refine WE_andC ?_ | refine WE_orC ?_ | refine WE_if ?_ | refine WS_par2 ?_ | refine WS_par3 ?_ | refine WE_rg1 ?_ | refine WE_rg2 ?_ | refine WE_items ?_ | refine WE_enum ?_ | refine WE_zip ?_ | refine WE_revd ?_ | refine WE_callG ?_ | refine WS_put ?_ | refine WS_app ?_ | refine WE_pix ?_ | refine WE_sl ?_ | refine WE_p0 ?_ | refine WE_p1 ?_ | refine WE_true ?_ | refine WS_asg ?_) | ((with_reducible apply WE_var); (case h => exact rfl))
      | ((with_reducible refine And.intro ?_ ?_); (with_reducible first | exact ff1 | exact ff2 | exact ff3 | exact ff4 | exact ff5 | fail); (intro _))
      | ((with_reducible refine And.intro ?_ ?_); rotate_left; (with_reducible first | exact tt1 | exact tt2 | exact tt3 | exact tt4 | exact tt5 | fail); (intro _))
      | ((with_reducible apply Exists.intro); (with_reducible apply And.intro); first | ((with_reducible (first | show addT (.int _) (.int _) = some _ | show subT (.int _) (.int _) = some _ | show negT (.int _) = some _ | show ltT (.int _) (.int _) = some _ | show leT (.int _) (.int _) = some _ | show gtT (.int _) (.int _) = some _ | show geT (.int _) (.int _) = some _ | show intT [.int _] = some _ | show max2T [.int _, .int _] = some _ | show min2T [.int _, .int _] = some _ | show absT [.int _] = some _ | show eqT (.int _) (.int _) = some _ | show neT (.int _) (.int _) = some _ | show T.bl _ = T.bl _)); exact rfl) | ((with_reducible (first | show isiT _ _ = some _ | show isT _ _ = some _ | show isNT _ _ = some _ | show isisT _ _ = some _)); first | exact (rfl : _ = some (T.bl true)) | exact (rfl : _ = some (T.bl false)) | exact rfl) | fail)
      | fail)
  refine ⟨_, mulT_of (by omega) (by omega) (by omega) (by omega), ?_⟩
  repeat' (first
      | with_reducible (first | refine WS_seq ?_ | refine WS_set ?_ | refine WS_ret ?_ | refine WS_if ?_ | refine WS_drop ?_ | refine WS_nx ?_ | refine WE_bin ?_ | refine WE_cons ?_ | refine WE_nil ?_ | refine WE_k ?_ | refine WE_app ?_ | refine WE_un ?_ | refine WE_B ?_ | refine WE_notC ?_ | refine WE_call ?_ | refine WE_callK ?_ | refine WE_lst ?_ | refine WE_tup ?_ | refine WE_chain ?_ | refine WE_andV ?_ | refine WE_orV ?_ | refine WE_notV ?_ | refine WE_andC ?_ | refine WE_orC ?_ | refine WE_if ?_ | refine WS_par2 ?_ | refine WS_par3 ?_ | refine WE_rg1 ?_ | refine WE_rg2 ?_ | refine WE_items ?_ | refine WE_enum ?_ | refine WE_zip ?_ | refine WE_revd ?_ | refine WE_callG ?_ | refine WS_put ?_ | refine WS_app ?_ | refine WE_pix ?_ | refine WE_sl ?_ | refine WE_p0 ?_ | refine WE_p1 ?_ | refine WE_true ?_ | refine WS_asg ?_) | ((with_reducible apply WE_var); (case h => exact rfl))
      | ((with_reducible refine And.intro ?_ ?_); (with_reducible first | exact ff1 | exact ff2 | exact ff3 | exact ff4 | exact ff5 | fail); (intro _))
      | ((with_reducible refine And.intro ?_ ?_); rotate_left; (with_reducible first | exact tt1 | exact tt2 | exact tt3 | exact tt4 | exact tt5 | fail); (intro _))
      | ((with_reducible apply Exists.intro); (with_reducible apply And.intro); first | ((with_reducible (first | show addT (.int _) (.int _) = some _ | show subT (.int _) (.int _) = some _ | show negT (.int _) = some _ | show ltT (.int _) (.int _) = some _ | show leT (.int _) (.int _) = some _ | show gtT (.int _) (.int _) = some _ | show geT (.int _) (.int _) = some _ | show intT [.int _] = some _ | show max2T [.int _, .int _] = some _ | show min2T [.int _, .int _] = some _ | show absT [.int _] = some _ | show eqT (.int _) (.int _) = some _ | show neT (.int _) (.int _) = some _ | show T.bl _ = T.bl _)); exact rfl) | ((with_reducible (first | show isiT _ _ = some _ | show isT _ _ = some _ | show isNT _ _ = some _ | show isisT _ _ = some _)); first | exact (rfl : _ = some (T.bl true)) | exact (rfl : _ = some (T.bl false)) | exact rfl) | fail)
      | fail)
  refine ⟨_, modT_of (by omega), ?_⟩
  try simp only [List.map_cons, List.map_nil, List.cons_append, List.nil_append, List.length_cons, List.length_nil, Nat.zero_add, Nat.reduceAdd, Nat.reduceSub, Nat.sub_self, List.replicate_zero, List.replicate_succ, List.append_nil, List.set_cons_zero, List.set_cons_succ]
  repeat' (first
      | with_reducible (first | refine WS_seq ?_ | refine WS_set ?_ | refine WS_ret ?_ | refine WS_if ?_ | refine WS_drop ?_ | refine WS_nx ?_ | refine WE_bin ?_ | refine WE_cons ?_ | refine WE_nil ?_ | refine WE_k ?_ | refine WE_app ?_ | refine WE_un ?_ | refine WE_B ?_ | refine WE_notC ?_ | refine WE_call ?_ | refine WE_callK ?_ | refine WE_lst ?_ | refine WE_tup ?_ | refine WE_chain ?_ | refine WE_andV ?_ | refine WE_orV ?_ | refine WE_notV ?_ | refine WE_andC ?_ | refine WE_orC ?_ | refine WE_if ?_ | refine WS_par2 ?_ | refine WS_par3 ?_ | refine WE_rg1 ?_ | refine WE_rg2 ?_ | refine WE_items ?_ | refine WE_enum ?_ | refine WE_zip ?_ | refine WE_revd ?_ | refine WE_callG ?_ | refine WS_put ?_ | refine WS_app ?_ | refine WE_pix ?_ | refine WE_sl ?_ | refine WE_p0 ?_ | refine WE_p1 ?_ | refine WE_true ?_ | refine WS_asg ?_) | ((with_reducible apply WE_var); (case h => exact rfl))
      | ((with_reducible refine And.intro ?_ ?_); (with_reducible first | exact ff1 | exact ff2 | exact ff3 | exact ff4 | exact ff5 | fail); (intro _))
      | ((with_reducible refine And.intro ?_ ?_); rotate_left; (with_reducible first | exact tt1 | exact tt2 | exact tt3 | exact tt4 | exact tt5 | fail); (intro _))
      | ((with_reducible apply Exists.intro); (with_reducible apply And.intro); first | ((with_reducible (first | show addT (.int _) (.int _) = some _ | show subT (.int _) (.int _) = some _ | show negT (.int _) = some _ | show ltT (.int _) (.int _) = some _ | show leT (.int _) (.int _) = some _ | show gtT (.int _) (.int _) = some _ | show geT (.int _) (.int _) = some _ | show intT [.int _] = some _ | show max2T [.int _, .int _] = some _ | show min2T [.int _, .int _] = some _ | show absT [.int _] = some _ | show eqT (.int _) (.int _) = some _ | show neT (.int _) (.int _) = some _ | show T.bl _ = T.bl _)); exact rfl) | ((with_reducible (first | show isiT _ _ = some _ | show isT _ _ = some _ | show isNT _ _ = some _ | show isisT _ _ = some _)); first | exact (rfl : _ = some (T.bl true)) | exact (rfl : _ = some (T.bl false)) | exact rfl) | fail)
      | fail)
  refine ⟨_, mulT_of (by omega) (by omega) (by omega) (by omega), ?_⟩
  repeat' (first
      | with_reducible (first | refine WS_seq ?_ | refine WS_set ?_ | refine WS_ret ?_ | refine WS_if ?_ | refine WS_drop ?_ | refine WS_nx ?_ | refine WE_bin ?_ | refine WE_cons ?_ | refine WE_nil ?_ | refine WE_k ?_ | refine WE_app ?_ | refine WE_un ?_ | refine WE_B ?_ | refine WE_notC ?_ | refine WE_call ?_ | refine WE_callK ?_ | refine WE_lst ?_ | refine WE_tup ?_ | refine WE_chain ?_ | refine WE_andV ?_ | refine WE_orV ?_ | refine WE_notV ?_ | refine WE_andC ?_ | refine WE_orC ?_ | refine WE_if ?_ | refine WS_par2 ?_ | refine WS_par3 ?_ | refine WE_rg1 ?_ | refine WE_rg2 ?_ | refine WE_items ?_ | refine WE_enum ?_ | refine WE_zip ?_ | refine WE_revd ?_ | refine WE_callG ?_ | refine WS_put ?_ | refine WS_app ?_ | refine WE_pix ?_ | refine WE_sl ?_ | refine WE_p0 ?_ | refine WE_p1 ?_ | refine WE_true ?_ | refine WS_asg ?_) | ((with_reducible apply WE_var); (case h => exact rfl))
      | ((with_reducible refine And.intro ?_ ?_); (with_reducible first | exact ff1 | exact ff2 | exact ff3 | exact ff4 | exact ff5 | fail); (intro _))
      | ((with_reducible refine And.intro ?_ ?_); rotate_left; (with_reducible first | exact tt1 | exact tt2 | exact tt3 | exact tt4 | exact tt5 | fail); (intro _))
      | ((with_reducible apply Exists.intro); (with_reducible apply And.intro); first | ((with_reducible (first | show addT (.int _) (.int _) = some _ | show subT (.int _) (.int _) = some _ | show negT (.int _) = some _ | show ltT (.int _) (.int _) = some _ | show leT (.int _) (.int _) = some _ | show gtT (.int _) (.int _) = some _ | show geT (.int _) (.int _) = some _ | show intT [.int _] = some _ | show max2T [.int _, .int _] = some _ | show min2T [.int _, .int _] = some _ | show absT [.int _] = some _ | show eqT (.int _) (.int _) = some _ | show neT (.int _) (.int _) = some _ | show T.bl _ = T.bl _)); exact rfl) | ((with_reducible (first | show isiT _ _ = some _ | show isT _ _ = some _ | show isNT _ _ = some _ | show isisT _ _ = some _)); first | exact (rfl : _ = some (T.bl true)) | exact (rfl : _ = some (T.bl false)) | exact rfl) | fail)
      | fail)
  refine ⟨_, modT_of (by omega), ?_⟩
  have m3 := mod_bd (a := (m * m + 62089 * k + 32416187) % 2147483587 * 48271) (b := 2147483647) (by omega)
  exact q _ m3.1 m3.2
theorem rangeT_get {lo hi : Int} {i : Nat} {t : T} (h : (rangeT lo hi)[i]? = some t) : t = .int (lo + i) ∧ (i : Int) < hi - lo := by
  unfold rangeT at h
  rw [List.getElem?_map] at h
  have hi : i < (hi - lo).toNat := by
    refine Classical.byContradiction fun z => ?_
    rw [List.getElem?_eq_none (by rw [List.length_range]; omega)] at h
    cases h
  rw [List.getElem?_range hi] at h
  exact ⟨(Option.some.inj h).symm, by omega⟩
theorem range0_get {hi : Int} {i : Nat} {t : T} (h : (rangeT 0 hi)[i]? = some t) : t = .int i ∧ (i : Int) < hi := by
  obtain ⟨h1, h2⟩ := rangeT_get h
  rw [Int.zero_add] at h1
  exact ⟨h1, by omega⟩
theorem rangeT_len (lo hi : Int) : (rangeT lo hi).length = (hi - lo).toNat := by unfold rangeT; rw [List.length_map, List.length_range]
theorem rangeT_mem {lo hi : Int} {t : T} (h : t ∈ rangeT lo hi) : ∃ i : Int, t = .int i ∧ lo ≤ i ∧ i < hi := by
  obtain ⟨k, hk, rfl⟩ := List.mem_map.mp h
  have := List.mem_range.mp hk
  exact ⟨_, rfl, by omega, by omega⟩
/-- a generator: what is left of the seed, the seed's rest, the count -/
def GenOk (N : Int) (us : List T) : Prop := ∃ a s k : Int, us = [.int a, .int s, .int k] ∧ 0 ≤ a ∧ 0 ≤ s ∧ s < 2147483647 ∧ 0 ≤ k ∧ k ≤ N
theorem GenOk.mono {N M : Int} {us : List T} (h : GenOk N us) (l : N ≤ M) : GenOk M us := by
  obtain ⟨a, s, k, e, h1, h2, h3, h4, h5⟩ := h
  exact ⟨a, s, k, e, h1, h2, h3, h4, by omega⟩
theorem random_ok {N b : Int} {us : List T} (hg : GenOk N us) (hN : N ≤ 900000000) (h1 : 1 ≤ b) (h2 : b ≤ 1000000000000000000) (q : ∀ d us', GenOk (N + 3) us' → 0 ≤ d → d < b → χ (.int d) [.lst us']) : WR (cm_law_random [.lst us, .int b]) χ ζ := by
  obtain ⟨a, s, k, rfl, g1, g2, g3, g4, g5⟩ := hg
  refine WR_fnG ?_
  try simp only [List.map_cons, List.map_nil, List.cons_append, List.nil_append, List.length_cons, List.length_nil, Nat.zero_add, Nat.reduceAdd, Nat.reduceSub, Nat.sub_self, List.replicate_zero, List.replicate_succ, List.append_nil, List.set_cons_zero, List.set_cons_succ]
  repeat' (first
      | with_reducible (first | refine WS_seq ?_ | refine WS_set ?_ | refine WS_ret ?_ | refine WS_if ?_ | refine WS_drop ?_ | refine WS_nx ?_ | refine WE_bin ?_ | refine WE_cons ?_ | refine WE_nil ?_ | refine WE_k ?_ | refine WE_app ?_ | refine WE_un ?_ | refine WE_B ?_ | refine WE_notC ?_ | refine WE_call ?_ | refine WE_callK ?_ | refine WE_lst ?_ | refine WE_tup ?_ | refine WE_chain ?_ | refine WE_andV ?_ | refine WE_orV ?_ | refine WE_notV ?_ | refine WE_andC ?_ | refine WE_orC ?_ | refine WE_if ?_ | refine WS_par2 ?_ | refine WS_par3 ?_ | refine WE_rg1 ?_ | refine WE_rg2 ?_ | refine WE_items ?_ | refine WE_enum ?_ | refine WE_zip ?_ | refine WE_revd ?_ | refine WE_callG ?_ | refine WS_put ?_ | refine WS_app ?_ | refine WE_pix ?_ | refine WE_sl ?_ | refine WE_p0 ?_ | refine WE_p1 ?_ | refine WE_true ?_ | refine WS_asg ?_) | ((with_reducible apply WE_var); (case h => exact rfl))
      | ((with_reducible refine And.intro ?_ ?_); (with_reducible first | exact ff1 | exact ff2 | exact ff3 | exact ff4 | exact ff5 | fail); (intro _))
      | ((with_reducible refine And.intro ?_ ?_); rotate_left; (with_reducible first | exact tt1 | exact tt2 | exact tt3 | exact tt4 | exact tt5 | fail); (intro _))
      | ((with_reducible apply Exists.intro); (with_reducible apply And.intro); first | ((with_reducible (first | show addT (.int _) (.int _) = some _ | show subT (.int _) (.int _) = some _ | show negT (.int _) = some _ | show ltT (.int _) (.int _) = some _ | show leT (.int _) (.int _) = some _ | show gtT (.int _) (.int _) = some _ | show geT (.int _) (.int _) = some _ | show intT [.int _] = some _ | show max2T [.int _, .int _] = some _ | show min2T [.int _, .int _] = some _ | show absT [.int _] = some _ | show eqT (.int _) (.int _) = some _ | show neT (.int _) (.int _) = some _ | show T.bl _ = T.bl _)); exact rfl) | ((with_reducible (first | show isiT _ _ = some _ | show isT _ _ = some _ | show isNT _ _ = some _ | show isisT _ _ = some _)); first | exact (rfl : _ = some (T.bl true)) | exact (rfl : _ = some (T.bl false)) | exact rfl) | fail)
      | fail)
  refine ⟨_, _, _, rfl, rfl, rfl, ?_⟩
  repeat' (first
      | with_reducible (first | refine WS_seq ?_ | refine WS_set ?_ | refine WS_ret ?_ | refine WS_if ?_ | refine WS_drop ?_ | refine WS_nx ?_ | refine WE_bin ?_ | refine WE_cons ?_ | refine WE_nil ?_ | refine WE_k ?_ | refine WE_app ?_ | refine WE_un ?_ | refine WE_B ?_ | refine WE_notC ?_ | refine WE_call ?_ | refine WE_callK ?_ | refine WE_lst ?_ | refine WE_tup ?_ | refine WE_chain ?_ | refine WE_andV ?_ | refine WE_orV ?_ | refine WE_notV ?_ | refine WE_andC ?_ | refine WE_orC ?_ | refine WE_if ?_ | refine WS_par2 ?_ | refine WS_par3 ?_ | refine WE_rg1 ?_ | refine WE_rg2 ?_ | refine WE_items ?_ | refine WE_enum ?_ | refine WE_zip ?_ | refine WE_revd ?_ | refine WE_callG ?_ | refine WS_put ?_ | refine WS_app ?_ | refine WE_pix ?_ | refine WE_sl ?_ | refine WE_p0 ?_ | refine WE_p1 ?_ | refine WE_true ?_ | refine WS_asg ?_) | ((with_reducible apply WE_var); (case h => exact rfl))
      | ((with_reducible refine And.intro ?_ ?_); (with_reducible first | exact ff1 | exact ff2 | exact ff3 | exact ff4 | exact ff5 | fail); (intro _))
      | ((with_reducible refine And.intro ?_ ?_); rotate_left; (with_reducible first | exact tt1 | exact tt2 | exact tt3 | exact tt4 | exact tt5 | fail); (intro _))
      | ((with_reducible apply Exists.intro); (with_reducible apply And.intro); first | ((with_reducible (first | show addT (.int _) (.int _) = some _ | show subT (.int _) (.int _) = some _ | show negT (.int _) = some _ | show ltT (.int _) (.int _) = some _ | show leT (.int _) (.int _) = some _ | show gtT (.int _) (.int _) = some _ | show geT (.int _) (.int _) = some _ | show intT [.int _] = some _ | show max2T [.int _, .int _] = some _ | show min2T [.int _, .int _] = some _ | show absT [.int _] = some _ | show eqT (.int _) (.int _) = some _ | show neT (.int _) (.int _) = some _ | show T.bl _ = T.bl _)); exact rfl) | ((with_reducible (first | show isiT _ _ = some _ | show isT _ _ = some _ | show isNT _ _ = some _ | show isisT _ _ = some _)); first | exact (rfl : _ = some (T.bl true)) | exact (rfl : _ = some (T.bl false)) | exact rfl) | fail)
      | fail)
  refine ⟨fun hz => ?_, fun hz => ?_⟩
  · have hz : 0 < a := of_decide_eq_true hz
    repeat' (first
      | with_reducible (first | refine WS_seq ?_ | refine WS_set ?_ | refine WS_ret ?_ | refine WS_if ?_ | refine WS_drop ?_ | refine WS_nx ?_ | refine WE_bin ?_ | refine WE_cons ?_ | refine WE_nil ?_ | refine WE_k ?_ | refine WE_app ?_ | refine WE_un ?_ | refine WE_B ?_ | refine WE_notC ?_ | refine WE_call ?_ | refine WE_callK ?_ | refine WE_lst ?_ | refine WE_tup ?_ | refine WE_chain ?_ | refine WE_andV ?_ | refine WE_orV ?_ | refine WE_notV ?_ | refine WE_andC ?_ | refine WE_orC ?_ | refine WE_if ?_ | refine WS_par2 ?_ | refine WS_par3 ?_ | refine WE_rg1 ?_ | refine WE_rg2 ?_ | refine WE_items ?_ | refine WE_enum ?_ | refine WE_zip ?_ | refine WE_revd ?_ | refine WE_callG ?_ | refine WS_put ?_ | refine WS_app ?_ | refine WE_pix ?_ | refine WE_sl ?_ | refine WE_p0 ?_ | refine WE_p1 ?_ | refine WE_true ?_ | refine WS_asg ?_) | ((with_reducible apply WE_var); (case h => exact rfl))
      | ((with_reducible refine And.intro ?_ ?_); (with_reducible first | exact ff1 | exact ff2 | exact ff3 | exact ff4 | exact ff5 | fail); (intro _))
      | ((with_reducible refine And.intro ?_ ?_); rotate_left; (with_reducible first | exact tt1 | exact tt2 | exact tt3 | exact tt4 | exact tt5 | fail); (intro _))
      | ((with_reducible apply Exists.intro); (with_reducible apply And.intro); first | ((with_reducible (first | show addT (.int _) (.int _) = some _ | show subT (.int _) (.int _) = some _ | show negT (.int _) = some _ | show ltT (.int _) (.int _) = some _ | show leT (.int _) (.int _) = some _ | show gtT (.int _) (.int _) = some _ | show geT (.int _) (.int _) = some _ | show intT [.int _] = some _ | show max2T [.int _, .int _] = some _ | show min2T [.int _, .int _] = some _ | show absT [.int _] = some _ | show eqT (.int _) (.int _) = some _ | show neT (.int _) (.int _) = some _ | show T.bl _ = T.bl _)); exact rfl) | ((with_reducible (first | show isiT _ _ = some _ | show isT _ _ = some _ | show isNT _ _ = some _ | show isisT _ _ = some _)); first | exact (rfl : _ = some (T.bl true)) | exact (rfl : _ = some (T.bl false)) | exact rfl) | fail)
      | fail)
    refine ⟨_, _, _, rfl, rfl, rfl, ?_⟩
    repeat' (first
      | with_reducible (first | refine WS_seq ?_ | refine WS_set ?_ | refine WS_ret ?_ | refine WS_if ?_ | refine WS_drop ?_ | refine WS_nx ?_ | refine WE_bin ?_ | refine WE_cons ?_ | refine WE_nil ?_ | refine WE_k ?_ | refine WE_app ?_ | refine WE_un ?_ | refine WE_B ?_ | refine WE_notC ?_ | refine WE_call ?_ | refine WE_callK ?_ | refine WE_lst ?_ | refine WE_tup ?_ | refine WE_chain ?_ | refine WE_andV ?_ | refine WE_orV ?_ | refine WE_notV ?_ | refine WE_andC ?_ | refine WE_orC ?_ | refine WE_if ?_ | refine WS_par2 ?_ | refine WS_par3 ?_ | refine WE_rg1 ?_ | refine WE_rg2 ?_ | refine WE_items ?_ | refine WE_enum ?_ | refine WE_zip ?_ | refine WE_revd ?_ | refine WE_callG ?_ | refine WS_put ?_ | refine WS_app ?_ | refine WE_pix ?_ | refine WE_sl ?_ | refine WE_p0 ?_ | refine WE_p1 ?_ | refine WE_true ?_ | refine WS_asg ?_) | ((with_reducible apply WE_var); (case h => exact rfl))
      | ((with_reducible refine And.intro ?_ ?_); (with_reducible first | exact ff1 | exact ff2 | exact ff3 | exact ff4 | exact ff5 | fail); (intro _))
      | ((with_reducible refine And.intro ?_ ?_); rotate_left; (with_reducible first | exact tt1 | exact tt2 | exact tt3 | exact tt4 | exact tt5 | fail); (intro _))
      | ((with_reducible apply Exists.intro); (with_reducible apply And.intro); first | ((with_reducible (first | show addT (.int _) (.int _) = some _ | show subT (.int _) (.int _) = some _ | show negT (.int _) = some _ | show ltT (.int _) (.int _) = some _ | show leT (.int _) (.int _) = some _ | show gtT (.int _) (.int _) = some _ | show geT (.int _) (.int _) = some _ | show intT [.int _] = some _ | show max2T [.int _, .int _] = some _ | show min2T [.int _, .int _] = some _ | show absT [.int _] = some _ | show eqT (.int _) (.int _) = some _ | show neT (.int _) (.int _) = some _ | show T.bl _ = T.bl _)); exact rfl) | ((with_reducible (first | show isiT _ _ = some _ | show isT _ _ = some _ | show isNT _ _ = some _ | show isisT _ _ = some _)); first | exact (rfl : _ = some (T.bl true)) | exact (rfl : _ = some (T.bl false)) | exact rfl) | fail)
      | fail)
    refine ⟨_, modT_of (by omega), ?_⟩
    try simp only [List.map_cons, List.map_nil, List.cons_append, List.nil_append, List.length_cons, List.length_nil, Nat.zero_add, Nat.reduceAdd, Nat.reduceSub, Nat.sub_self, List.replicate_zero, List.replicate_succ, List.append_nil, List.set_cons_zero, List.set_cons_succ]
    repeat' (first
      | with_reducible (first | refine WS_seq ?_ | refine WS_set ?_ | refine WS_ret ?_ | refine WS_if ?_ | refine WS_drop ?_ | refine WS_nx ?_ | refine WE_bin ?_ | refine WE_cons ?_ | refine WE_nil ?_ | refine WE_k ?_ | refine WE_app ?_ | refine WE_un ?_ | refine WE_B ?_ | refine WE_notC ?_ | refine WE_call ?_ | refine WE_callK ?_ | refine WE_lst ?_ | refine WE_tup ?_ | refine WE_chain ?_ | refine WE_andV ?_ | refine WE_orV ?_ | refine WE_notV ?_ | refine WE_andC ?_ | refine WE_orC ?_ | refine WE_if ?_ | refine WS_par2 ?_ | refine WS_par3 ?_ | refine WE_rg1 ?_ | refine WE_rg2 ?_ | refine WE_items ?_ | refine WE_enum ?_ | refine WE_zip ?_ | refine WE_revd ?_ | refine WE_callG ?_ | refine WS_put ?_ | refine WS_app ?_ | refine WE_pix ?_ | refine WE_sl ?_ | refine WE_p0 ?_ | refine WE_p1 ?_ | refine WE_true ?_ | refine WS_asg ?_) | ((with_reducible apply WE_var); (case h => exact rfl))
      | ((with_reducible refine And.intro ?_ ?_); (with_reducible first | exact ff1 | exact ff2 | exact ff3 | exact ff4 | exact ff5 | fail); (intro _))
      | ((with_reducible refine And.intro ?_ ?_); rotate_left; (with_reducible first | exact tt1 | exact tt2 | exact tt3 | exact tt4 | exact tt5 | fail); (intro _))
      | ((with_reducible apply Exists.intro); (with_reducible apply And.intro); first | ((with_reducible (first | show addT (.int _) (.int _) = some _ | show subT (.int _) (.int _) = some _ | show negT (.int _) = some _ | show ltT (.int _) (.int _) = some _ | show leT (.int _) (.int _) = some _ | show gtT (.int _) (.int _) = some _ | show geT (.int _) (.int _) = some _ | show intT [.int _] = some _ | show max2T [.int _, .int _] = some _ | show min2T [.int _, .int _] = some _ | show absT [.int _] = some _ | show eqT (.int _) (.int _) = some _ | show neT (.int _) (.int _) = some _ | show T.bl _ = T.bl _)); exact rfl) | ((with_reducible (first | show isiT _ _ = some _ | show isT _ _ = some _ | show isNT _ _ = some _ | show isisT _ _ = some _)); first | exact (rfl : _ = some (T.bl true)) | exact (rfl : _ = some (T.bl false)) | exact rfl) | fail)
      | fail)
    refine ⟨_, _, _, rfl, rfl, rfl, ?_⟩
    repeat' (first
      | with_reducible (first | refine WS_seq ?_ | refine WS_set ?_ | refine WS_ret ?_ | refine WS_if ?_ | refine WS_drop ?_ | refine WS_nx ?_ | refine WE_bin ?_ | refine WE_cons ?_ | refine WE_nil ?_ | refine WE_k ?_ | refine WE_app ?_ | refine WE_un ?_ | refine WE_B ?_ | refine WE_notC ?_ | refine WE_call ?_ | refine WE_callK ?_ | refine WE_lst ?_ | refine WE_tup ?_ | refine WE_chain ?_ | refine WE_andV ?_ | refine WE_orV ?_ | refine WE_notV ?_ | refine WE_andC ?_ | refine WE_orC ?_ | refine WE_if ?_ | refine WS_par2 ?_ | refine WS_par3 ?_ | refine WE_rg1 ?_ | refine WE_rg2 ?_ | refine WE_items ?_ | refine WE_enum ?_ | refine WE_zip ?_ | refine WE_revd ?_ | refine WE_callG ?_ | refine WS_put ?_ | refine WS_app ?_ | refine WE_pix ?_ | refine WE_sl ?_ | refine WE_p0 ?_ | refine WE_p1 ?_ | refine WE_true ?_ | refine WS_asg ?_) | ((with_reducible apply WE_var); (case h => exact rfl))
      | ((with_reducible refine And.intro ?_ ?_); (with_reducible first | exact ff1 | exact ff2 | exact ff3 | exact ff4 | exact ff5 | fail); (intro _))
      | ((with_reducible refine And.intro ?_ ?_); rotate_left; (with_reducible first | exact tt1 | exact tt2 | exact tt3 | exact tt4 | exact tt5 | fail); (intro _))
      | ((with_reducible apply Exists.intro); (with_reducible apply And.intro); first | ((with_reducible (first | show addT (.int _) (.int _) = some _ | show subT (.int _) (.int _) = some _ | show negT (.int _) = some _ | show ltT (.int _) (.int _) = some _ | show leT (.int _) (.int _) = some _ | show gtT (.int _) (.int _) = some _ | show geT (.int _) (.int _) = some _ | show intT [.int _] = some _ | show max2T [.int _, .int _] = some _ | show min2T [.int _, .int _] = some _ | show absT [.int _] = some _ | show eqT (.int _) (.int _) = some _ | show neT (.int _) (.int _) = some _ | show T.bl _ = T.bl _)); exact rfl) | ((with_reducible (first | show isiT _ _ = some _ | show isT _ _ = some _ | show isNT _ _ = some _ | show isisT _ _ = some _)); first | exact (rfl : _ = some (T.bl true)) | exact (rfl : _ = some (T.bl false)) | exact rfl) | fail)
      | fail)
    refine ⟨_, fdivT_of (by omega) (by omega), ?_⟩
    repeat' (first
      | with_reducible (first | refine WS_seq ?_ | refine WS_set ?_ | refine WS_ret ?_ | refine WS_if ?_ | refine WS_drop ?_ | refine WS_nx ?_ | refine WE_bin ?_ | refine WE_cons ?_ | refine WE_nil ?_ | refine WE_k ?_ | refine WE_app ?_ | refine WE_un ?_ | refine WE_B ?_ | refine WE_notC ?_ | refine WE_call ?_ | refine WE_callK ?_ | refine WE_lst ?_ | refine WE_tup ?_ | refine WE_chain ?_ | refine WE_andV ?_ | refine WE_orV ?_ | refine WE_notV ?_ | refine WE_andC ?_ | refine WE_orC ?_ | refine WE_if ?_ | refine WS_par2 ?_ | refine WS_par3 ?_ | refine WE_rg1 ?_ | refine WE_rg2 ?_ | refine WE_items ?_ | refine WE_enum ?_ | refine WE_zip ?_ | refine WE_revd ?_ | refine WE_callG ?_ | refine WS_put ?_ | refine WS_app ?_ | refine WE_pix ?_ | refine WE_sl ?_ | refine WE_p0 ?_ | refine WE_p1 ?_ | refine WE_true ?_ | refine WS_asg ?_) | ((with_reducible apply WE_var); (case h => exact rfl))
      | ((with_reducible refine And.intro ?_ ?_); (with_reducible first | exact ff1 | exact ff2 | exact ff3 | exact ff4 | exact ff5 | fail); (intro _))
      | ((with_reducible refine And.intro ?_ ?_); rotate_left; (with_reducible first | exact tt1 | exact tt2 | exact tt3 | exact tt4 | exact tt5 | fail); (intro _))
      | ((with_reducible apply Exists.intro); (with_reducible apply And.intro); first | ((with_reducible (first | show addT (.int _) (.int _) = some _ | show subT (.int _) (.int _) = some _ | show negT (.int _) = some _ | show ltT (.int _) (.int _) = some _ | show leT (.int _) (.int _) = some _ | show gtT (.int _) (.int _) = some _ | show geT (.int _) (.int _) = some _ | show intT [.int _] = some _ | show max2T [.int _, .int _] = some _ | show min2T [.int _, .int _] = some _ | show absT [.int _] = some _ | show eqT (.int _) (.int _) = some _ | show neT (.int _) (.int _) = some _ | show T.bl _ = T.bl _)); exact rfl) | ((with_reducible (first | show isiT _ _ = some _ | show isT _ _ = some _ | show isNT _ _ = some _ | show isisT _ _ = some _)); first | exact (rfl : _ = some (T.bl true)) | exact (rfl : _ = some (T.bl false)) | exact rfl) | fail)
      | fail)
    refine ⟨_, _, _, rfl, rfl, rfl, ?_⟩
    try simp only [List.map_cons, List.map_nil, List.cons_append, List.nil_append, List.length_cons, List.length_nil, Nat.zero_add, Nat.reduceAdd, Nat.reduceSub, Nat.sub_self, List.replicate_zero, List.replicate_succ, List.append_nil, List.set_cons_zero, List.set_cons_succ]
    repeat' (first
      | with_reducible (first | refine WS_seq ?_ | refine WS_set ?_ | refine WS_ret ?_ | refine WS_if ?_ | refine WS_drop ?_ | refine WS_nx ?_ | refine WE_bin ?_ | refine WE_cons ?_ | refine WE_nil ?_ | refine WE_k ?_ | refine WE_app ?_ | refine WE_un ?_ | refine WE_B ?_ | refine WE_notC ?_ | refine WE_call ?_ | refine WE_callK ?_ | refine WE_lst ?_ | refine WE_tup ?_ | refine WE_chain ?_ | refine WE_andV ?_ | refine WE_orV ?_ | refine WE_notV ?_ | refine WE_andC ?_ | refine WE_orC ?_ | refine WE_if ?_ | refine WS_par2 ?_ | refine WS_par3 ?_ | refine WE_rg1 ?_ | refine WE_rg2 ?_ | refine WE_items ?_ | refine WE_enum ?_ | refine WE_zip ?_ | refine WE_revd ?_ | refine WE_callG ?_ | refine WS_put ?_ | refine WS_app ?_ | refine WE_pix ?_ | refine WE_sl ?_ | refine WE_p0 ?_ | refine WE_p1 ?_ | refine WE_true ?_ | refine WS_asg ?_) | ((with_reducible apply WE_var); (case h => exact rfl))
      | ((with_reducible refine And.intro ?_ ?_); (with_reducible first | exact ff1 | exact ff2 | exact ff3 | exact ff4 | exact ff5 | fail); (intro _))
      | ((with_reducible refine And.intro ?_ ?_); rotate_left; (with_reducible first | exact tt1 | exact tt2 | exact tt3 | exact tt4 | exact tt5 | fail); (intro _))
      | ((with_reducible apply Exists.intro); (with_reducible apply And.intro); first | ((with_reducible (first | show addT (.int _) (.int _) = some _ | show subT (.int _) (.int _) = some _ | show negT (.int _) = some _ | show ltT (.int _) (.int _) = some _ | show leT (.int _) (.int _) = some _ | show gtT (.int _) (.int _) = some _ | show geT (.int _) (.int _) = some _ | show intT [.int _] = some _ | show max2T [.int _, .int _] = some _ | show min2T [.int _, .int _] = some _ | show absT [.int _] = some _ | show eqT (.int _) (.int _) = some _ | show neT (.int _) (.int _) = some _ | show T.bl _ = T.bl _)); exact rfl) | ((with_reducible (first | show isiT _ _ = some _ | show isT _ _ = some _ | show isNT _ _ = some _ | show isisT _ _ = some _)); first | exact (rfl : _ = some (T.bl true)) | exact (rfl : _ = some (T.bl false)) | exact rfl) | fail)
      | fail)
    have m := mod_bd (a := a) (b := b) (by omega)
    exact ⟨_, rfl, q _ _ ⟨_, _, _, rfl, Int.ediv_nonneg (by omega) (by omega), g2, g3, g4, by omega⟩ m.1 m.2⟩
  · repeat' (first
      | with_reducible (first | refine WS_seq ?_ | refine WS_set ?_ | refine WS_ret ?_ | refine WS_if ?_ | refine WS_drop ?_ | refine WS_nx ?_ | refine WE_bin ?_ | refine WE_cons ?_ | refine WE_nil ?_ | refine WE_k ?_ | refine WE_app ?_ | refine WE_un ?_ | refine WE_B ?_ | refine WE_notC ?_ | refine WE_call ?_ | refine WE_callK ?_ | refine WE_lst ?_ | refine WE_tup ?_ | refine WE_chain ?_ | refine WE_andV ?_ | refine WE_orV ?_ | refine WE_notV ?_ | refine WE_andC ?_ | refine WE_orC ?_ | refine WE_if ?_ | refine WS_par2 ?_ | refine WS_par3 ?_ | refine WE_rg1 ?_ | refine WE_rg2 ?_ | refine WE_items ?_ | refine WE_enum ?_ | refine WE_zip ?_ | refine WE_revd ?_ | refine WE_callG ?_ | refine WS_put ?_ | refine WS_app ?_ | refine WE_pix ?_ | refine WE_sl ?_ | refine WE_p0 ?_ | refine WE_p1 ?_ | refine WE_true ?_ | refine WS_asg ?_) | ((with_reducible apply WE_var); (case h => exact rfl))
      | ((with_reducible refine And.intro ?_ ?_); (with_reducible first | exact ff1 | exact ff2 | exact ff3 | exact ff4 | exact ff5 | fail); (intro _))
      | ((with_reducible refine And.intro ?_ ?_); rotate_left; (with_reducible first | exact tt1 | exact tt2 | exact tt3 | exact tt4 | exact tt5 | fail); (intro _))
      | ((with_reducible apply Exists.intro); (with_reducible apply And.intro); first | ((with_reducible (first | show addT (.int _) (.int _) = some _ | show subT (.int _) (.int _) = some _ | show negT (.int _) = some _ | show ltT (.int _) (.int _) = some _ | show leT (.int _) (.int _) = some _ | show gtT (.int _) (.int _) = some _ | show geT (.int _) (.int _) = some _ | show intT [.int _] = some _ | show max2T [.int _, .int _] = some _ | show min2T [.int _, .int _] = some _ | show absT [.int _] = some _ | show eqT (.int _) (.int _) = some _ | show neT (.int _) (.int _) = some _ | show T.bl _ = T.bl _)); exact rfl) | ((with_reducible (first | show isiT _ _ = some _ | show isT _ _ = some _ | show isNT _ _ = some _ | show isisT _ _ = some _)); first | exact (rfl : _ = some (T.bl true)) | exact (rfl : _ = some (T.bl false)) | exact rfl) | fail)
      | fail)
    try simp only [List.map_cons, List.map_nil, List.cons_append, List.nil_append, List.length_cons, List.length_nil, Nat.zero_add, Nat.reduceAdd, Nat.reduceSub, Nat.sub_self, List.replicate_zero, List.replicate_succ, List.append_nil, List.set_cons_zero, List.set_cons_succ]
    have hb : Builtin.Int.intBits b ≤ 60 := PyProof.Rows.intBits_le (by
      have e : (2 : Nat) ^ 60 = 1152921504606846976 := by decide
      omega)
    generalize hbb : ((Builtin.Int.intBits b : Nat) : Int) = bb at *
    have hb0 : 0 ≤ bb ∧ bb ≤ 60 := by omega
    refine WS_for (fun ts i r => ∃ d k' x, r = [some (.lst [.int a, .int s, .int k']), some (.int b), some (.int d), x] ∧ 0 ≤ k' ∧ k' = k + i ∧ 0 ≤ d ∧ i ≤ 3 ∧ (i = 0 → d ≤ 0) ∧ (i = 1 → d ≤ 2147483647) ∧ (i = 2 → d ≤ 4611686014132420609)) ?_
    refine WE_rg1 (WE_cons (WE_bin (WE_k (WE_bin (WE_un (WE_var rfl ⟨.int bb, ?_, WE_k ⟨_, fdivT_of (by omega) (by omega), _, rfl, WE_nil ⟨_, rfl, lim62_of (by omega) (by omega), ?_⟩⟩⟩))))))
    · show some (T.int _) = _
      rw [hbb]
    · have hlen : (rangeT 0 (1 + bb / 30)).length ≤ 3 := by
        unfold rangeT
        rw [List.length_map, List.length_range]
        omega
      refine ⟨⟨0, k, none, rfl, g4, by omega, by omega, by omega, by omega, by omega, by omega⟩, fun i t r ht hr => ?_, fun r hr => ?_⟩
      · obtain ⟨d, k', x, rfl, e0, e1, e2, e3, e4, e5, e6⟩ := hr
        have hi : i < 3 := Nat.lt_of_lt_of_le (List.getElem?_eq_some_iff.mp ht).1 hlen
        refine ⟨_, rfl, ?_⟩
        try simp only [List.map_cons, List.map_nil, List.cons_append, List.nil_append, List.length_cons, List.length_nil, Nat.zero_add, Nat.reduceAdd, Nat.reduceSub, Nat.sub_self, List.replicate_zero, List.replicate_succ, List.append_nil, List.set_cons_zero, List.set_cons_succ]
        repeat' (first
      | with_reducible (first | refine WS_seq ?_ | refine WS_set ?_ | refine WS_ret ?_ | refine WS_if ?_ | refine WS_drop ?_ | refine WS_nx ?_ | refine WE_bin ?_ | refine WE_cons ?_ | refine WE_nil ?_ | refine WE_k ?_ | refine WE_app ?_ | refine WE_un ?_ | refine WE_B ?_ | refine WE_notC ?_ | refine WE_call ?_ | refine WE_callK ?_ | refine WE_lst ?_ | refine WE_tup ?_ | refine WE_chain ?_ | refine WE_andV ?_ | refine WE_orV ?_ | refine WE_notV ?_ | refine WE_andC ?_ | refine WE_orC ?_ | refine WE_if ?_ | refine WS_par2 ?_ | refine WS_par3 ?_ | refine WE_rg1 ?_ | refine WE_rg2 ?_ | refine WE_items ?_ | refine WE_enum ?_ | refine WE_zip ?_ | refine WE_revd ?_ | refine WE_callG ?_ | refine WS_put ?_ | refine WS_app ?_ | refine WE_pix ?_ | refine WE_sl ?_ | refine WE_p0 ?_ | refine WE_p1 ?_ | refine WE_true ?_ | refine WS_asg ?_) | ((with_reducible apply WE_var); (case h => exact rfl))
      | ((with_reducible refine And.intro ?_ ?_); (with_reducible first | exact ff1 | exact ff2 | exact ff3 | exact ff4 | exact ff5 | fail); (intro _))
      | ((with_reducible refine And.intro ?_ ?_); rotate_left; (with_reducible first | exact tt1 | exact tt2 | exact tt3 | exact tt4 | exact tt5 | fail); (intro _))
      | ((with_reducible apply Exists.intro); (with_reducible apply And.intro); first | ((with_reducible (first | show addT (.int _) (.int _) = some _ | show subT (.int _) (.int _) = some _ | show negT (.int _) = some _ | show ltT (.int _) (.int _) = some _ | show leT (.int _) (.int _) = some _ | show gtT (.int _) (.int _) = some _ | show geT (.int _) (.int _) = some _ | show intT [.int _] = some _ | show max2T [.int _, .int _] = some _ | show min2T [.int _, .int _] = some _ | show absT [.int _] = some _ | show eqT (.int _) (.int _) = some _ | show neT (.int _) (.int _) = some _ | show T.bl _ = T.bl _)); exact rfl) | ((with_reducible (first | show isiT _ _ = some _ | show isT _ _ = some _ | show isNT _ _ = some _ | show isisT _ _ = some _)); first | exact (rfl : _ = some (T.bl true)) | exact (rfl : _ = some (T.bl false)) | exact rfl) | fail)
      | fail)
        refine ⟨_, _, _, rfl, rfl, rfl, ?_⟩
        repeat' (first
      | with_reducible (first | refine WS_seq ?_ | refine WS_set ?_ | refine WS_ret ?_ | refine WS_if ?_ | refine WS_drop ?_ | refine WS_nx ?_ | refine WE_bin ?_ | refine WE_cons ?_ | refine WE_nil ?_ | refine WE_k ?_ | refine WE_app ?_ | refine WE_un ?_ | refine WE_B ?_ | refine WE_notC ?_ | refine WE_call ?_ | refine WE_callK ?_ | refine WE_lst ?_ | refine WE_tup ?_ | refine WE_chain ?_ | refine WE_andV ?_ | refine WE_orV ?_ | refine WE_notV ?_ | refine WE_andC ?_ | refine WE_orC ?_ | refine WE_if ?_ | refine WS_par2 ?_ | refine WS_par3 ?_ | refine WE_rg1 ?_ | refine WE_rg2 ?_ | refine WE_items ?_ | refine WE_enum ?_ | refine WE_zip ?_ | refine WE_revd ?_ | refine WE_callG ?_ | refine WS_put ?_ | refine WS_app ?_ | refine WE_pix ?_ | refine WE_sl ?_ | refine WE_p0 ?_ | refine WE_p1 ?_ | refine WE_true ?_ | refine WS_asg ?_) | ((with_reducible apply WE_var); (case h => exact rfl))
      | ((with_reducible refine And.intro ?_ ?_); (with_reducible first | exact ff1 | exact ff2 | exact ff3 | exact ff4 | exact ff5 | fail); (intro _))
      | ((with_reducible refine And.intro ?_ ?_); rotate_left; (with_reducible first | exact tt1 | exact tt2 | exact tt3 | exact tt4 | exact tt5 | fail); (intro _))
      | ((with_reducible apply Exists.intro); (with_reducible apply And.intro); first | ((with_reducible (first | show addT (.int _) (.int _) = some _ | show subT (.int _) (.int _) = some _ | show negT (.int _) = some _ | show ltT (.int _) (.int _) = some _ | show leT (.int _) (.int _) = some _ | show gtT (.int _) (.int _) = some _ | show geT (.int _) (.int _) = some _ | show intT [.int _] = some _ | show max2T [.int _, .int _] = some _ | show min2T [.int _, .int _] = some _ | show absT [.int _] = some _ | show eqT (.int _) (.int _) = some _ | show neT (.int _) (.int _) = some _ | show T.bl _ = T.bl _)); exact rfl) | ((with_reducible (first | show isiT _ _ = some _ | show isT _ _ = some _ | show isNT _ _ = some _ | show isisT _ _ = some _)); first | exact (rfl : _ = some (T.bl true)) | exact (rfl : _ = some (T.bl false)) | exact rfl) | fail)
      | fail)
        refine ⟨_, _, _, rfl, rfl, rfl, ?_⟩
        try simp only [List.map_cons, List.map_nil, List.cons_append, List.nil_append, List.length_cons, List.length_nil, Nat.zero_add, Nat.reduceAdd, Nat.reduceSub, Nat.sub_self, List.replicate_zero, List.replicate_succ, List.append_nil, List.set_cons_zero, List.set_cons_succ]
        have hd : d ≤ 4611686014132420609 := by
          match i, hi with
          | 0, _ => have := e4 rfl; omega
          | 1, _ => have := e5 rfl; omega
          | 2, _ => have := e6 rfl; omega
        repeat' (first
      | with_reducible (first | refine WS_seq ?_ | refine WS_set ?_ | refine WS_ret ?_ | refine WS_if ?_ | refine WS_drop ?_ | refine WS_nx ?_ | refine WE_bin ?_ | refine WE_cons ?_ | refine WE_nil ?_ | refine WE_k ?_ | refine WE_app ?_ | refine WE_un ?_ | refine WE_B ?_ | refine WE_notC ?_ | refine WE_call ?_ | refine WE_callK ?_ | refine WE_lst ?_ | refine WE_tup ?_ | refine WE_chain ?_ | refine WE_andV ?_ | refine WE_orV ?_ | refine WE_notV ?_ | refine WE_andC ?_ | refine WE_orC ?_ | refine WE_if ?_ | refine WS_par2 ?_ | refine WS_par3 ?_ | refine WE_rg1 ?_ | refine WE_rg2 ?_ | refine WE_items ?_ | refine WE_enum ?_ | refine WE_zip ?_ | refine WE_revd ?_ | refine WE_callG ?_ | refine WS_put ?_ | refine WS_app ?_ | refine WE_pix ?_ | refine WE_sl ?_ | refine WE_p0 ?_ | refine WE_p1 ?_ | refine WE_true ?_ | refine WS_asg ?_) | ((with_reducible apply WE_var); (case h => exact rfl))
      | ((with_reducible refine And.intro ?_ ?_); (with_reducible first | exact ff1 | exact ff2 | exact ff3 | exact ff4 | exact ff5 | fail); (intro _))
      | ((with_reducible refine And.intro ?_ ?_); rotate_left; (with_reducible first | exact tt1 | exact tt2 | exact tt3 | exact tt4 | exact tt5 | fail); (intro _))
      | ((with_reducible apply Exists.intro); (with_reducible apply And.intro); first | ((with_reducible (first | show addT (.int _) (.int _) = some _ | show subT (.int _) (.int _) = some _ | show negT (.int _) = some _ | show ltT (.int _) (.int _) = some _ | show leT (.int _) (.int _) = some _ | show gtT (.int _) (.int _) = some _ | show geT (.int _) (.int _) = some _ | show intT [.int _] = some _ | show max2T [.int _, .int _] = some _ | show min2T [.int _, .int _] = some _ | show absT [.int _] = some _ | show eqT (.int _) (.int _) = some _ | show neT (.int _) (.int _) = some _ | show T.bl _ = T.bl _)); exact rfl) | ((with_reducible (first | show isiT _ _ = some _ | show isT _ _ = some _ | show isNT _ _ = some _ | show isisT _ _ = some _)); first | exact (rfl : _ = some (T.bl true)) | exact (rfl : _ = some (T.bl false)) | exact rfl) | fail)
      | fail)
        refine ⟨_, mulT_of (by omega) (by omega) (by omega) (by omega), ?_⟩
        repeat' (first
      | with_reducible (first | refine WS_seq ?_ | refine WS_set ?_ | refine WS_ret ?_ | refine WS_if ?_ | refine WS_drop ?_ | refine WS_nx ?_ | refine WE_bin ?_ | refine WE_cons ?_ | refine WE_nil ?_ | refine WE_k ?_ | refine WE_app ?_ | refine WE_un ?_ | refine WE_B ?_ | refine WE_notC ?_ | refine WE_call ?_ | refine WE_callK ?_ | refine WE_lst ?_ | refine WE_tup ?_ | refine WE_chain ?_ | refine WE_andV ?_ | refine WE_orV ?_ | refine WE_notV ?_ | refine WE_andC ?_ | refine WE_orC ?_ | refine WE_if ?_ | refine WS_par2 ?_ | refine WS_par3 ?_ | refine WE_rg1 ?_ | refine WE_rg2 ?_ | refine WE_items ?_ | refine WE_enum ?_ | refine WE_zip ?_ | refine WE_revd ?_ | refine WE_callG ?_ | refine WS_put ?_ | refine WS_app ?_ | refine WE_pix ?_ | refine WE_sl ?_ | refine WE_p0 ?_ | refine WE_p1 ?_ | refine WE_true ?_ | refine WS_asg ?_) | ((with_reducible apply WE_var); (case h => exact rfl))
      | ((with_reducible refine And.intro ?_ ?_); (with_reducible first | exact ff1 | exact ff2 | exact ff3 | exact ff4 | exact ff5 | fail); (intro _))
      | ((with_reducible refine And.intro ?_ ?_); rotate_left; (with_reducible first | exact tt1 | exact tt2 | exact tt3 | exact tt4 | exact tt5 | fail); (intro _))
      | ((with_reducible apply Exists.intro); (with_reducible apply And.intro); first | ((with_reducible (first | show addT (.int _) (.int _) = some _ | show subT (.int _) (.int _) = some _ | show negT (.int _) = some _ | show ltT (.int _) (.int _) = some _ | show leT (.int _) (.int _) = some _ | show gtT (.int _) (.int _) = some _ | show geT (.int _) (.int _) = some _ | show intT [.int _] = some _ | show max2T [.int _, .int _] = some _ | show min2T [.int _, .int _] = some _ | show absT [.int _] = some _ | show eqT (.int _) (.int _) = some _ | show neT (.int _) (.int _) = some _ | show T.bl _ = T.bl _)); exact rfl) | ((with_reducible (first | show isiT _ _ = some _ | show isT _ _ = some _ | show isNT _ _ = some _ | show isisT _ _ = some _)); first | exact (rfl : _ = some (T.bl true)) | exact (rfl : _ = some (T.bl false)) | exact rfl) | fail)
      | fail)
        refine ⟨_, _, _, rfl, rfl, rfl, ?_⟩
        repeat' (first
      | with_reducible (first | refine WS_seq ?_ | refine WS_set ?_ | refine WS_ret ?_ | refine WS_if ?_ | refine WS_drop ?_ | refine WS_nx ?_ | refine WE_bin ?_ | refine WE_cons ?_ | refine WE_nil ?_ | refine WE_k ?_ | refine WE_app ?_ | refine WE_un ?_ | refine WE_B ?_ | refine WE_notC ?_ | refine WE_call ?_ | refine WE_callK ?_ | refine WE_lst ?_ | refine WE_tup ?_ | refine WE_chain ?_ | refine WE_andV ?_ | refine WE_orV ?_ | refine WE_notV ?_ | refine WE_andC ?_ | refine WE_orC ?_ | refine WE_if ?_ | refine WS_par2 ?_ | refine WS_par3 ?_ | refine WE_rg1 ?_ | refine WE_rg2 ?_ | refine WE_items ?_ | refine WE_enum ?_ | refine WE_zip ?_ | refine WE_revd ?_ | refine WE_callG ?_ | refine WS_put ?_ | refine WS_app ?_ | refine WE_pix ?_ | refine WE_sl ?_ | refine WE_p0 ?_ | refine WE_p1 ?_ | refine WE_true ?_ | refine WS_asg ?_) | ((with_reducible apply WE_var); (case h => exact rfl))
      | ((with_reducible refine And.intro ?_ ?_); (with_reducible first | exact ff1 | exact ff2 | exact ff3 | exact ff4 | exact ff5 | fail); (intro _))
      | ((with_reducible refine And.intro ?_ ?_); rotate_left; (with_reducible first | exact tt1 | exact tt2 | exact tt3 | exact tt4 | exact tt5 | fail); (intro _))
      | ((with_reducible apply Exists.intro); (with_reducible apply And.intro); first | ((with_reducible (first | show addT (.int _) (.int _) = some _ | show subT (.int _) (.int _) = some _ | show negT (.int _) = some _ | show ltT (.int _) (.int _) = some _ | show leT (.int _) (.int _) = some _ | show gtT (.int _) (.int _) = some _ | show geT (.int _) (.int _) = some _ | show intT [.int _] = some _ | show max2T [.int _, .int _] = some _ | show min2T [.int _, .int _] = some _ | show absT [.int _] = some _ | show eqT (.int _) (.int _) = some _ | show neT (.int _) (.int _) = some _ | show T.bl _ = T.bl _)); exact rfl) | ((with_reducible (first | show isiT _ _ = some _ | show isT _ _ = some _ | show isNT _ _ = some _ | show isisT _ _ = some _)); first | exact (rfl : _ = some (T.bl true)) | exact (rfl : _ = some (T.bl false)) | exact rfl) | fail)
      | fail)
        refine ⟨_, _, _, rfl, rfl, rfl, ?_⟩
        repeat' (first
      | with_reducible (first | refine WS_seq ?_ | refine WS_set ?_ | refine WS_ret ?_ | refine WS_if ?_ | refine WS_drop ?_ | refine WS_nx ?_ | refine WE_bin ?_ | refine WE_cons ?_ | refine WE_nil ?_ | refine WE_k ?_ | refine WE_app ?_ | refine WE_un ?_ | refine WE_B ?_ | refine WE_notC ?_ | refine WE_call ?_ | refine WE_callK ?_ | refine WE_lst ?_ | refine WE_tup ?_ | refine WE_chain ?_ | refine WE_andV ?_ | refine WE_orV ?_ | refine WE_notV ?_ | refine WE_andC ?_ | refine WE_orC ?_ | refine WE_if ?_ | refine WS_par2 ?_ | refine WS_par3 ?_ | refine WE_rg1 ?_ | refine WE_rg2 ?_ | refine WE_items ?_ | refine WE_enum ?_ | refine WE_zip ?_ | refine WE_revd ?_ | refine WE_callG ?_ | refine WS_put ?_ | refine WS_app ?_ | refine WE_pix ?_ | refine WE_sl ?_ | refine WE_p0 ?_ | refine WE_p1 ?_ | refine WE_true ?_ | refine WS_asg ?_) | ((with_reducible apply WE_var); (case h => exact rfl))
      | ((with_reducible refine And.intro ?_ ?_); (with_reducible first | exact ff1 | exact ff2 | exact ff3 | exact ff4 | exact ff5 | fail); (intro _))
      | ((with_reducible refine And.intro ?_ ?_); rotate_left; (with_reducible first | exact tt1 | exact tt2 | exact tt3 | exact tt4 | exact tt5 | fail); (intro _))
      | ((with_reducible apply Exists.intro); (with_reducible apply And.intro); first | ((with_reducible (first | show addT (.int _) (.int _) = some _ | show subT (.int _) (.int _) = some _ | show negT (.int _) = some _ | show ltT (.int _) (.int _) = some _ | show leT (.int _) (.int _) = some _ | show gtT (.int _) (.int _) = some _ | show geT (.int _) (.int _) = some _ | show intT [.int _] = some _ | show max2T [.int _, .int _] = some _ | show min2T [.int _, .int _] = some _ | show absT [.int _] = some _ | show eqT (.int _) (.int _) = some _ | show neT (.int _) (.int _) = some _ | show T.bl _ = T.bl _)); exact rfl) | ((with_reducible (first | show isiT _ _ = some _ | show isT _ _ = some _ | show isNT _ _ = some _ | show isisT _ _ = some _)); first | exact (rfl : _ = some (T.bl true)) | exact (rfl : _ = some (T.bl false)) | exact rfl) | fail)
      | fail)
        refine hash_ok g2 g3 (by omega) (by omega) fun h q1 q2 => ?_
        repeat' (first
      | with_reducible (first | refine WS_seq ?_ | refine WS_set ?_ | refine WS_ret ?_ | refine WS_if ?_ | refine WS_drop ?_ | refine WS_nx ?_ | refine WE_bin ?_ | refine WE_cons ?_ | refine WE_nil ?_ | refine WE_k ?_ | refine WE_app ?_ | refine WE_un ?_ | refine WE_B ?_ | refine WE_notC ?_ | refine WE_call ?_ | refine WE_callK ?_ | refine WE_lst ?_ | refine WE_tup ?_ | refine WE_chain ?_ | refine WE_andV ?_ | refine WE_orV ?_ | refine WE_notV ?_ | refine WE_andC ?_ | refine WE_orC ?_ | refine WE_if ?_ | refine WS_par2 ?_ | refine WS_par3 ?_ | refine WE_rg1 ?_ | refine WE_rg2 ?_ | refine WE_items ?_ | refine WE_enum ?_ | refine WE_zip ?_ | refine WE_revd ?_ | refine WE_callG ?_ | refine WS_put ?_ | refine WS_app ?_ | refine WE_pix ?_ | refine WE_sl ?_ | refine WE_p0 ?_ | refine WE_p1 ?_ | refine WE_true ?_ | refine WS_asg ?_) | ((with_reducible apply WE_var); (case h => exact rfl))
      | ((with_reducible refine And.intro ?_ ?_); (with_reducible first | exact ff1 | exact ff2 | exact ff3 | exact ff4 | exact ff5 | fail); (intro _))
      | ((with_reducible refine And.intro ?_ ?_); rotate_left; (with_reducible first | exact tt1 | exact tt2 | exact tt3 | exact tt4 | exact tt5 | fail); (intro _))
      | ((with_reducible apply Exists.intro); (with_reducible apply And.intro); first | ((with_reducible (first | show addT (.int _) (.int _) = some _ | show subT (.int _) (.int _) = some _ | show negT (.int _) = some _ | show ltT (.int _) (.int _) = some _ | show leT (.int _) (.int _) = some _ | show gtT (.int _) (.int _) = some _ | show geT (.int _) (.int _) = some _ | show intT [.int _] = some _ | show max2T [.int _, .int _] = some _ | show min2T [.int _, .int _] = some _ | show absT [.int _] = some _ | show eqT (.int _) (.int _) = some _ | show neT (.int _) (.int _) = some _ | show T.bl _ = T.bl _)); exact rfl) | ((with_reducible (first | show isiT _ _ = some _ | show isT _ _ = some _ | show isNT _ _ = some _ | show isisT _ _ = some _)); first | exact (rfl : _ = some (T.bl true)) | exact (rfl : _ = some (T.bl false)) | exact rfl) | fail)
      | fail)
        try simp only [List.map_cons, List.map_nil, List.cons_append, List.nil_append, List.length_cons, List.length_nil, Nat.zero_add, Nat.reduceAdd, Nat.reduceSub, Nat.sub_self, List.replicate_zero, List.replicate_succ, List.append_nil, List.set_cons_zero, List.set_cons_succ]
        refine ⟨_, _, _, rfl, by omega, by omega, by omega, by omega, by omega, fun z => ?_, fun z => ?_⟩
        · have := e4 (by omega); omega
        · have := e5 (by omega); omega
      · obtain ⟨d, k', x, rfl, e0, e1, e2, e3, _⟩ := hr
        repeat' (first
      | with_reducible (first | refine WS_seq ?_ | refine WS_set ?_ | refine WS_ret ?_ | refine WS_if ?_ | refine WS_drop ?_ | refine WS_nx ?_ | refine WE_bin ?_ | refine WE_cons ?_ | refine WE_nil ?_ | refine WE_k ?_ | refine WE_app ?_ | refine WE_un ?_ | refine WE_B ?_ | refine WE_notC ?_ | refine WE_call ?_ | refine WE_callK ?_ | refine WE_lst ?_ | refine WE_tup ?_ | refine WE_chain ?_ | refine WE_andV ?_ | refine WE_orV ?_ | refine WE_notV ?_ | refine WE_andC ?_ | refine WE_orC ?_ | refine WE_if ?_ | refine WS_par2 ?_ | refine WS_par3 ?_ | refine WE_rg1 ?_ | refine WE_rg2 ?_ | refine WE_items ?_ | refine WE_enum ?_ | refine WE_zip ?_ | refine WE_revd ?_ | refine WE_callG ?_ | refine WS_put ?_ | refine WS_app ?_ | refine WE_pix ?_ | refine WE_sl ?_ | refine WE_p0 ?_ | refine WE_p1 ?_ | refine WE_true ?_ | refine WS_asg ?_) | ((with_reducible apply WE_var); (case h => exact rfl))
      | ((with_reducible refine And.intro ?_ ?_); (with_reducible first | exact ff1 | exact ff2 | exact ff3 | exact ff4 | exact ff5 | fail); (intro _))
      | ((with_reducible refine And.intro ?_ ?_); rotate_left; (with_reducible first | exact tt1 | exact tt2 | exact tt3 | exact tt4 | exact tt5 | fail); (intro _))
      | ((with_reducible apply Exists.intro); (with_reducible apply And.intro); first | ((with_reducible (first | show addT (.int _) (.int _) = some _ | show subT (.int _) (.int _) = some _ | show negT (.int _) = some _ | show ltT (.int _) (.int _) = some _ | show leT (.int _) (.int _) = some _ | show gtT (.int _) (.int _) = some _ | show geT (.int _) (.int _) = some _ | show intT [.int _] = some _ | show max2T [.int _, .int _] = some _ | show min2T [.int _, .int _] = some _ | show absT [.int _] = some _ | show eqT (.int _) (.int _) = some _ | show neT (.int _) (.int _) = some _ | show T.bl _ = T.bl _)); exact rfl) | ((with_reducible (first | show isiT _ _ = some _ | show isT _ _ = some _ | show isNT _ _ = some _ | show isisT _ _ = some _)); first | exact (rfl : _ = some (T.bl true)) | exact (rfl : _ = some (T.bl false)) | exact rfl) | fail)
      | fail)
        refine ⟨_, modT_of (by omega), ?_⟩
        have m := mod_bd (a := d) (b := b) (by omega)
        exact ⟨_, rfl, q _ _ ⟨_, _, _, rfl, g1, g2, g3, by omega, by omega⟩ m.1 m.2⟩
theorem pick_ok {N : Int} {us ts : List T} (hg : GenOk N us) (hN : N ≤ 900000000) (h1 : 1 ≤ ts.length) (h2 : ts.length ≤ LIM) (q : ∀ t us', GenOk (N + 3) us' → t ∈ ts → χ t [.lst us']) : WR (cm_law_pick [.lst us, .lst ts]) χ ζ := by
  refine WR_fnG ?_
  try simp only [List.map_cons, List.map_nil, List.cons_append, List.nil_append, List.length_cons, List.length_nil, Nat.zero_add, Nat.reduceAdd, Nat.reduceSub, Nat.sub_self, List.replicate_zero, List.replicate_succ, List.append_nil, List.set_cons_zero, List.set_cons_succ]
  repeat' (first
      | with_reducible (first | refine WS_seq ?_ | refine WS_set ?_ | refine WS_ret ?_ | refine WS_if ?_ | refine WS_drop ?_ | refine WS_nx ?_ | refine WE_bin ?_ | refine WE_cons ?_ | refine WE_nil ?_ | refine WE_k ?_ | refine WE_app ?_ | refine WE_un ?_ | refine WE_B ?_ | refine WE_notC ?_ | refine WE_call ?_ | refine WE_callK ?_ | refine WE_lst ?_ | refine WE_tup ?_ | refine WE_chain ?_ | refine WE_andV ?_ | refine WE_orV ?_ | refine WE_notV ?_ | refine WE_andC ?_ | refine WE_orC ?_ | refine WE_if ?_ | refine WS_par2 ?_ | refine WS_par3 ?_ | refine WE_rg1 ?_ | refine WE_rg2 ?_ | refine WE_items ?_ | refine WE_enum ?_ | refine WE_zip ?_ | refine WE_revd ?_ | refine WE_callG ?_ | refine WS_put ?_ | refine WS_app ?_ | refine WE_pix ?_ | refine WE_sl ?_ | refine WE_p0 ?_ | refine WE_p1 ?_ | refine WE_true ?_ | refine WS_asg ?_) | ((with_reducible apply WE_var); (case h => exact rfl))
      | ((with_reducible refine And.intro ?_ ?_); (with_reducible first | exact ff1 | exact ff2 | exact ff3 | exact ff4 | exact ff5 | fail); (intro _))
      | ((with_reducible refine And.intro ?_ ?_); rotate_left; (with_reducible first | exact tt1 | exact tt2 | exact tt3 | exact tt4 | exact tt5 | fail); (intro _))
      | ((with_reducible apply Exists.intro); (with_reducible apply And.intro); first | ((with_reducible (first | show addT (.int _) (.int _) = some _ | show subT (.int _) (.int _) = some _ | show negT (.int _) = some _ | show ltT (.int _) (.int _) = some _ | show leT (.int _) (.int _) = some _ | show gtT (.int _) (.int _) = some _ | show geT (.int _) (.int _) = some _ | show intT [.int _] = some _ | show max2T [.int _, .int _] = some _ | show min2T [.int _, .int _] = some _ | show absT [.int _] = some _ | show eqT (.int _) (.int _) = some _ | show neT (.int _) (.int _) = some _ | show T.bl _ = T.bl _)); exact rfl) | ((with_reducible (first | show isiT _ _ = some _ | show isT _ _ = some _ | show isNT _ _ = some _ | show isisT _ _ = some _)); first | exact (rfl : _ = some (T.bl true)) | exact (rfl : _ = some (T.bl false)) | exact rfl) | fail)
      | fail)
  refine ⟨.int ts.length, by simp only [lenT, h2, if_true], ?_⟩
  repeat' (first
      | with_reducible (first | refine WS_seq ?_ | refine WS_set ?_ | refine WS_ret ?_ | refine WS_if ?_ | refine WS_drop ?_ | refine WS_nx ?_ | refine WE_bin ?_ | refine WE_cons ?_ | refine WE_nil ?_ | refine WE_k ?_ | refine WE_app ?_ | refine WE_un ?_ | refine WE_B ?_ | refine WE_notC ?_ | refine WE_call ?_ | refine WE_callK ?_ | refine WE_lst ?_ | refine WE_tup ?_ | refine WE_chain ?_ | refine WE_andV ?_ | refine WE_orV ?_ | refine WE_notV ?_ | refine WE_andC ?_ | refine WE_orC ?_ | refine WE_if ?_ | refine WS_par2 ?_ | refine WS_par3 ?_ | refine WE_rg1 ?_ | refine WE_rg2 ?_ | refine WE_items ?_ | refine WE_enum ?_ | refine WE_zip ?_ | refine WE_revd ?_ | refine WE_callG ?_ | refine WS_put ?_ | refine WS_app ?_ | refine WE_pix ?_ | refine WE_sl ?_ | refine WE_p0 ?_ | refine WE_p1 ?_ | refine WE_true ?_ | refine WS_asg ?_) | ((with_reducible apply WE_var); (case h => exact rfl))
      | ((with_reducible refine And.intro ?_ ?_); (with_reducible first | exact ff1 | exact ff2 | exact ff3 | exact ff4 | exact ff5 | fail); (intro _))
      | ((with_reducible refine And.intro ?_ ?_); rotate_left; (with_reducible first | exact tt1 | exact tt2 | exact tt3 | exact tt4 | exact tt5 | fail); (intro _))
      | ((with_reducible apply Exists.intro); (with_reducible apply And.intro); first | ((with_reducible (first | show addT (.int _) (.int _) = some _ | show subT (.int _) (.int _) = some _ | show negT (.int _) = some _ | show ltT (.int _) (.int _) = some _ | show leT (.int _) (.int _) = some _ | show gtT (.int _) (.int _) = some _ | show geT (.int _) (.int _) = some _ | show intT [.int _] = some _ | show max2T [.int _, .int _] = some _ | show min2T [.int _, .int _] = some _ | show absT [.int _] = some _ | show eqT (.int _) (.int _) = some _ | show neT (.int _) (.int _) = some _ | show T.bl _ = T.bl _)); exact rfl) | ((with_reducible (first | show isiT _ _ = some _ | show isT _ _ = some _ | show isNT _ _ = some _ | show isisT _ _ = some _)); first | exact (rfl : _ = some (T.bl true)) | exact (rfl : _ = some (T.bl false)) | exact rfl) | fail)
      | fail)
  refine ⟨_, rfl, random_ok hg hN (by omega) (by simp only [LIM] at h2; omega) fun d us' g d0 d1 => ⟨_, rfl, ?_⟩⟩
  have hd : d.toNat < ts.length := by omega
  have e : ts[d.toNat]? = some ts[d.toNat] := List.getElem?_eq_getElem hd
  refine ⟨ts[d.toNat], ?_, us', rfl, q _ _ g (List.getElem_mem hd)⟩
  show atI ts d = _
  have := atI_nat e
  rw [Int.toNat_of_nonneg d0] at this
  exact this
theorem pickT_ok {N : Int} {us ts : List T} (hg : GenOk N us) (hN : N ≤ 900000000) (h1 : 1 ≤ ts.length) (h2 : ts.length ≤ LIM) (q : ∀ t us', GenOk (N + 3) us' → t ∈ ts → χ t [.lst us']) : WR (cm_law_pick [.lst us, .tup ts]) χ ζ := by
  refine WR_fnG ?_
  try simp only [List.map_cons, List.map_nil, List.cons_append, List.nil_append, List.length_cons, List.length_nil, Nat.zero_add, Nat.reduceAdd, Nat.reduceSub, Nat.sub_self, List.replicate_zero, List.replicate_succ, List.append_nil, List.set_cons_zero, List.set_cons_succ]
  repeat' (first
      | with_reducible (first | refine WS_seq ?_ | refine WS_set ?_ | refine WS_ret ?_ | refine WS_if ?_ | refine WS_drop ?_ | refine WS_nx ?_ | refine WE_bin ?_ | refine WE_cons ?_ | refine WE_nil ?_ | refine WE_k ?_ | refine WE_app ?_ | refine WE_un ?_ | refine WE_B ?_ | refine WE_notC ?_ | refine WE_call ?_ | refine WE_callK ?_ | refine WE_lst ?_ | refine WE_tup ?_ | refine WE_chain ?_ | refine WE_andV ?_ | refine WE_orV ?_ | refine WE_notV ?_ | refine WE_andC ?_ | refine WE_orC ?_ | refine WE_if ?_ | refine WS_par2 ?_ | refine WS_par3 ?_ | refine WE_rg1 ?_ | refine WE_rg2 ?_ | refine WE_items ?_ | refine WE_enum ?_ | refine WE_zip ?_ | refine WE_revd ?_ | refine WE_callG ?_ | refine WS_put ?_ | refine WS_app ?_ | refine WE_pix ?_ | refine WE_sl ?_ | refine WE_p0 ?_ | refine WE_p1 ?_ | refine WE_true ?_ | refine WS_asg ?_) | ((with_reducible apply WE_var); (case h => exact rfl))
      | ((with_reducible refine And.intro ?_ ?_); (with_reducible first | exact ff1 | exact ff2 | exact ff3 | exact ff4 | exact ff5 | fail); (intro _))
      | ((with_reducible refine And.intro ?_ ?_); rotate_left; (with_reducible first | exact tt1 | exact tt2 | exact tt3 | exact tt4 | exact tt5 | fail); (intro _))
      | ((with_reducible apply Exists.intro); (with_reducible apply And.intro); first | ((with_reducible (first | show addT (.int _) (.int _) = some _ | show subT (.int _) (.int _) = some _ | show negT (.int _) = some _ | show ltT (.int _) (.int _) = some _ | show leT (.int _) (.int _) = some _ | show gtT (.int _) (.int _) = some _ | show geT (.int _) (.int _) = some _ | show intT [.int _] = some _ | show max2T [.int _, .int _] = some _ | show min2T [.int _, .int _] = some _ | show absT [.int _] = some _ | show eqT (.int _) (.int _) = some _ | show neT (.int _) (.int _) = some _ | show T.bl _ = T.bl _)); exact rfl) | ((with_reducible (first | show isiT _ _ = some _ | show isT _ _ = some _ | show isNT _ _ = some _ | show isisT _ _ = some _)); first | exact (rfl : _ = some (T.bl true)) | exact (rfl : _ = some (T.bl false)) | exact rfl) | fail)
      | fail)
  refine ⟨.int ts.length, by simp only [lenT, h2, if_true], ?_⟩
  repeat' (first
      | with_reducible (first | refine WS_seq ?_ | refine WS_set ?_ | refine WS_ret ?_ | refine WS_if ?_ | refine WS_drop ?_ | refine WS_nx ?_ | refine WE_bin ?_ | refine WE_cons ?_ | refine WE_nil ?_ | refine WE_k ?_ | refine WE_app ?_ | refine WE_un ?_ | refine WE_B ?_ | refine WE_notC ?_ | refine WE_call ?_ | refine WE_callK ?_ | refine WE_lst ?_ | refine WE_tup ?_ | refine WE_chain ?_ | refine WE_andV ?_ | refine WE_orV ?_ | refine WE_notV ?_ | refine WE_andC ?_ | refine WE_orC ?_ | refine WE_if ?_ | refine WS_par2 ?_ | refine WS_par3 ?_ | refine WE_rg1 ?_ | refine WE_rg2 ?_ | refine WE_items ?_ | refine WE_enum ?_ | refine WE_zip ?_ | refine WE_revd ?_ | refine WE_callG ?_ | refine WS_put ?_ | refine WS_app ?_ | refine WE_pix ?_ | refine WE_sl ?_ | refine WE_p0 ?_ | refine WE_p1 ?_ | refine WE_true ?_ | refine WS_asg ?_) | ((with_reducible apply WE_var); (case h => exact rfl))
      | ((with_reducible refine And.intro ?_ ?_); (with_reducible first | exact ff1 | exact ff2 | exact ff3 | exact ff4 | exact ff5 | fail); (intro _))
      | ((with_reducible refine And.intro ?_ ?_); rotate_left; (with_reducible first | exact tt1 | exact tt2 | exact tt3 | exact tt4 | exact tt5 | fail); (intro _))
      | ((with_reducible apply Exists.intro); (with_reducible apply And.intro); first | ((with_reducible (first | show addT (.int _) (.int _) = some _ | show subT (.int _) (.int _) = some _ | show negT (.int _) = some _ | show ltT (.int _) (.int _) = some _ | show leT (.int _) (.int _) = some _ | show gtT (.int _) (.int _) = some _ | show geT (.int _) (.int _) = some _ | show intT [.int _] = some _ | show max2T [.int _, .int _] = some _ | show min2T [.int _, .int _] = some _ | show absT [.int _] = some _ | show eqT (.int _) (.int _) = some _ | show neT (.int _) (.int _) = some _ | show T.bl _ = T.bl _)); exact rfl) | ((with_reducible (first | show isiT _ _ = some _ | show isT _ _ = some _ | show isNT _ _ = some _ | show isisT _ _ = some _)); first | exact (rfl : _ = some (T.bl true)) | exact (rfl : _ = some (T.bl false)) | exact rfl) | fail)
      | fail)
  refine ⟨_, rfl, random_ok hg hN (by omega) (by simp only [LIM] at h2; omega) fun d us' g d0 d1 => ⟨_, rfl, ?_⟩⟩
  have hd : d.toNat < ts.length := by omega
  have e : ts[d.toNat]? = some ts[d.toNat] := List.getElem?_eq_getElem hd
  refine ⟨ts[d.toNat], ?_, us', rfl, q _ _ g (List.getElem_mem hd)⟩
  show atI ts d = _
  have := atI_nat e
  rw [Int.toNat_of_nonneg d0] at this
  exact this
theorem cell_ok {ns : List Int} {i : Int} (h0 : 0 ≤ i) (hl : ns.length ≤ 63) (q : ∀ v, χ (.int v) []) : WR (cm_law_cell [.lst (ns.map T.int), .int i]) χ ζ := by
  refine WR_fn ?_
  try simp only [List.map_cons, List.map_nil, List.cons_append, List.nil_append, List.length_cons, List.length_nil, Nat.zero_add, Nat.reduceAdd, Nat.reduceSub, Nat.sub_self, List.replicate_zero, List.replicate_succ, List.append_nil, List.set_cons_zero, List.set_cons_succ]
  repeat' (first
      | with_reducible (first | refine WS_seq ?_ | refine WS_set ?_ | refine WS_ret ?_ | refine WS_if ?_ | refine WS_drop ?_ | refine WS_nx ?_ | refine WE_bin ?_ | refine WE_cons ?_ | refine WE_nil ?_ | refine WE_k ?_ | refine WE_app ?_ | refine WE_un ?_ | refine WE_B ?_ | refine WE_notC ?_ | refine WE_call ?_ | refine WE_callK ?_ | refine WE_lst ?_ | refine WE_tup ?_ | refine WE_chain ?_ | refine WE_andV ?_ | refine WE_orV ?_ | refine WE_notV ?_ | refine WE_andC ?_ | refine WE_orC ?_ | refine WE_if ?_ | refine WS_par2 ?_ | refine WS_par3 ?_ | refine WE_rg1 ?_ | refine WE_rg2 ?_ | refine WE_items ?_ | refine WE_enum ?_ | refine WE_zip ?_ | refine WE_revd ?_ | refine WE_callG ?_ | refine WS_put ?_ | refine WS_app ?_ | refine WE_pix ?_ | refine WE_sl ?_ | refine WE_p0 ?_ | refine WE_p1 ?_ | refine WE_true ?_ | refine WS_asg ?_) | ((with_reducible apply WE_var); (case h => exact rfl))
      | ((with_reducible refine And.intro ?_ ?_); (with_reducible first | exact ff1 | exact ff2 | exact ff3 | exact ff4 | exact ff5 | fail); (intro _))
      | ((with_reducible refine And.intro ?_ ?_); rotate_left; (with_reducible first | exact tt1 | exact tt2 | exact tt3 | exact tt4 | exact tt5 | fail); (intro _))
      | ((with_reducible apply Exists.intro); (with_reducible apply And.intro); first | ((with_reducible (first | show addT (.int _) (.int _) = some _ | show subT (.int _) (.int _) = some _ | show negT (.int _) = some _ | show ltT (.int _) (.int _) = some _ | show leT (.int _) (.int _) = some _ | show gtT (.int _) (.int _) = some _ | show geT (.int _) (.int _) = some _ | show intT [.int _] = some _ | show max2T [.int _, .int _] = some _ | show min2T [.int _, .int _] = some _ | show absT [.int _] = some _ | show eqT (.int _) (.int _) = some _ | show neT (.int _) (.int _) = some _ | show T.bl _ = T.bl _)); exact rfl) | ((with_reducible (first | show isiT _ _ = some _ | show isT _ _ = some _ | show isNT _ _ = some _ | show isisT _ _ = some _)); first | exact (rfl : _ = some (T.bl true)) | exact (rfl : _ = some (T.bl false)) | exact rfl) | fail)
      | fail)
  refine ⟨.int ns.length, by simp only [lenT, List.length_map, show ns.length ≤ LIM from Nat.le_trans hl (by decide), if_true], ?_⟩
  repeat' (first
      | with_reducible (first | refine WS_seq ?_ | refine WS_set ?_ | refine WS_ret ?_ | refine WS_if ?_ | refine WS_drop ?_ | refine WS_nx ?_ | refine WE_bin ?_ | refine WE_cons ?_ | refine WE_nil ?_ | refine WE_k ?_ | refine WE_app ?_ | refine WE_un ?_ | refine WE_B ?_ | refine WE_notC ?_ | refine WE_call ?_ | refine WE_callK ?_ | refine WE_lst ?_ | refine WE_tup ?_ | refine WE_chain ?_ | refine WE_andV ?_ | refine WE_orV ?_ | refine WE_notV ?_ | refine WE_andC ?_ | refine WE_orC ?_ | refine WE_if ?_ | refine WS_par2 ?_ | refine WS_par3 ?_ | refine WE_rg1 ?_ | refine WE_rg2 ?_ | refine WE_items ?_ | refine WE_enum ?_ | refine WE_zip ?_ | refine WE_revd ?_ | refine WE_callG ?_ | refine WS_put ?_ | refine WS_app ?_ | refine WE_pix ?_ | refine WE_sl ?_ | refine WE_p0 ?_ | refine WE_p1 ?_ | refine WE_true ?_ | refine WS_asg ?_) | ((with_reducible apply WE_var); (case h => exact rfl))
      | ((with_reducible refine And.intro ?_ ?_); (with_reducible first | exact ff1 | exact ff2 | exact ff3 | exact ff4 | exact ff5 | fail); (intro _))
      | ((with_reducible refine And.intro ?_ ?_); rotate_left; (with_reducible first | exact tt1 | exact tt2 | exact tt3 | exact tt4 | exact tt5 | fail); (intro _))
      | ((with_reducible apply Exists.intro); (with_reducible apply And.intro); first | ((with_reducible (first | show addT (.int _) (.int _) = some _ | show subT (.int _) (.int _) = some _ | show negT (.int _) = some _ | show ltT (.int _) (.int _) = some _ | show leT (.int _) (.int _) = some _ | show gtT (.int _) (.int _) = some _ | show geT (.int _) (.int _) = some _ | show intT [.int _] = some _ | show max2T [.int _, .int _] = some _ | show min2T [.int _, .int _] = some _ | show absT [.int _] = some _ | show eqT (.int _) (.int _) = some _ | show neT (.int _) (.int _) = some _ | show T.bl _ = T.bl _)); exact rfl) | ((with_reducible (first | show isiT _ _ = some _ | show isT _ _ = some _ | show isNT _ _ = some _ | show isisT _ _ = some _)); first | exact (rfl : _ = some (T.bl true)) | exact (rfl : _ = some (T.bl false)) | exact rfl) | fail)
      | fail)
  refine ⟨fun hz => ?_, fun hz => ?_⟩
  · have hz : i < ns.length := of_decide_eq_true hz
    repeat' (first
      | with_reducible (first | refine WS_seq ?_ | refine WS_set ?_ | refine WS_ret ?_ | refine WS_if ?_ | refine WS_drop ?_ | refine WS_nx ?_ | refine WE_bin ?_ | refine WE_cons ?_ | refine WE_nil ?_ | refine WE_k ?_ | refine WE_app ?_ | refine WE_un ?_ | refine WE_B ?_ | refine WE_notC ?_ | refine WE_call ?_ | refine WE_callK ?_ | refine WE_lst ?_ | refine WE_tup ?_ | refine WE_chain ?_ | refine WE_andV ?_ | refine WE_orV ?_ | refine WE_notV ?_ | refine WE_andC ?_ | refine WE_orC ?_ | refine WE_if ?_ | refine WS_par2 ?_ | refine WS_par3 ?_ | refine WE_rg1 ?_ | refine WE_rg2 ?_ | refine WE_items ?_ | refine WE_enum ?_ | refine WE_zip ?_ | refine WE_revd ?_ | refine WE_callG ?_ | refine WS_put ?_ | refine WS_app ?_ | refine WE_pix ?_ | refine WE_sl ?_ | refine WE_p0 ?_ | refine WE_p1 ?_ | refine WE_true ?_ | refine WS_asg ?_) | ((with_reducible apply WE_var); (case h => exact rfl))
      | ((with_reducible refine And.intro ?_ ?_); (with_reducible first | exact ff1 | exact ff2 | exact ff3 | exact ff4 | exact ff5 | fail); (intro _))
      | ((with_reducible refine And.intro ?_ ?_); rotate_left; (with_reducible first | exact tt1 | exact tt2 | exact tt3 | exact tt4 | exact tt5 | fail); (intro _))
      | ((with_reducible apply Exists.intro); (with_reducible apply And.intro); first | ((with_reducible (first | show addT (.int _) (.int _) = some _ | show subT (.int _) (.int _) = some _ | show negT (.int _) = some _ | show ltT (.int _) (.int _) = some _ | show leT (.int _) (.int _) = some _ | show gtT (.int _) (.int _) = some _ | show geT (.int _) (.int _) = some _ | show intT [.int _] = some _ | show max2T [.int _, .int _] = some _ | show min2T [.int _, .int _] = some _ | show absT [.int _] = some _ | show eqT (.int _) (.int _) = some _ | show neT (.int _) (.int _) = some _ | show T.bl _ = T.bl _)); exact rfl) | ((with_reducible (first | show isiT _ _ = some _ | show isT _ _ = some _ | show isNT _ _ = some _ | show isisT _ _ = some _)); first | exact (rfl : _ = some (T.bl true)) | exact (rfl : _ = some (T.bl false)) | exact rfl) | fail)
      | fail)
    have hd : i.toNat < ns.length := by omega
    have e : (ns.map T.int)[i.toNat]? = some (T.int ns[i.toNat]) := by rw [List.getElem?_map, List.getElem?_eq_getElem hd]; rfl
    refine ⟨.int ns[i.toNat], ?_, q _⟩
    show atI (ns.map T.int) i = _
    have := atI_nat e
    rw [Int.toNat_of_nonneg h0] at this
    exact this
  · repeat' (first
      | with_reducible (first | refine WS_seq ?_ | refine WS_set ?_ | refine WS_ret ?_ | refine WS_if ?_ | refine WS_drop ?_ | refine WS_nx ?_ | refine WE_bin ?_ | refine WE_cons ?_ | refine WE_nil ?_ | refine WE_k ?_ | refine WE_app ?_ | refine WE_un ?_ | refine WE_B ?_ | refine WE_notC ?_ | refine WE_call ?_ | refine WE_callK ?_ | refine WE_lst ?_ | refine WE_tup ?_ | refine WE_chain ?_ | refine WE_andV ?_ | refine WE_orV ?_ | refine WE_notV ?_ | refine WE_andC ?_ | refine WE_orC ?_ | refine WE_if ?_ | refine WS_par2 ?_ | refine WS_par3 ?_ | refine WE_rg1 ?_ | refine WE_rg2 ?_ | refine WE_items ?_ | refine WE_enum ?_ | refine WE_zip ?_ | refine WE_revd ?_ | refine WE_callG ?_ | refine WS_put ?_ | refine WS_app ?_ | refine WE_pix ?_ | refine WE_sl ?_ | refine WE_p0 ?_ | refine WE_p1 ?_ | refine WE_true ?_ | refine WS_asg ?_) | ((with_reducible apply WE_var); (case h => exact rfl))
      | ((with_reducible refine And.intro ?_ ?_); (with_reducible first | exact ff1 | exact ff2 | exact ff3 | exact ff4 | exact ff5 | fail); (intro _))
      | ((with_reducible refine And.intro ?_ ?_); rotate_left; (with_reducible first | exact tt1 | exact tt2 | exact tt3 | exact tt4 | exact tt5 | fail); (intro _))
      | ((with_reducible apply Exists.intro); (with_reducible apply And.intro); first | ((with_reducible (first | show addT (.int _) (.int _) = some _ | show subT (.int _) (.int _) = some _ | show negT (.int _) = some _ | show ltT (.int _) (.int _) = some _ | show leT (.int _) (.int _) = some _ | show gtT (.int _) (.int _) = some _ | show geT (.int _) (.int _) = some _ | show intT [.int _] = some _ | show max2T [.int _, .int _] = some _ | show min2T [.int _, .int _] = some _ | show absT [.int _] = some _ | show eqT (.int _) (.int _) = some _ | show neT (.int _) (.int _) = some _ | show T.bl _ = T.bl _)); exact rfl) | ((with_reducible (first | show isiT _ _ = some _ | show isT _ _ = some _ | show isNT _ _ = some _ | show isisT _ _ = some _)); first | exact (rfl : _ = some (T.bl true)) | exact (rfl : _ = some (T.bl false)) | exact rfl) | fail)
      | fail)
    refine ⟨_, rfl, ?_⟩
    repeat' (first
      | with_reducible (first | refine WS_seq ?_ | refine WS_set ?_ | refine WS_ret ?_ | refine WS_if ?_ | refine WS_drop ?_ | refine WS_nx ?_ | refine WE_bin ?_ | refine WE_cons ?_ | refine WE_nil ?_ | refine WE_k ?_ | refine WE_app ?_ | refine WE_un ?_ | refine WE_B ?_ | refine WE_notC ?_ | refine WE_call ?_ | refine WE_callK ?_ | refine WE_lst ?_ | refine WE_tup ?_ | refine WE_chain ?_ | refine WE_andV ?_ | refine WE_orV ?_ | refine WE_notV ?_ | refine WE_andC ?_ | refine WE_orC ?_ | refine WE_if ?_ | refine WS_par2 ?_ | refine WS_par3 ?_ | refine WE_rg1 ?_ | refine WE_rg2 ?_ | refine WE_items ?_ | refine WE_enum ?_ | refine WE_zip ?_ | refine WE_revd ?_ | refine WE_callG ?_ | refine WS_put ?_ | refine WS_app ?_ | refine WE_pix ?_ | refine WE_sl ?_ | refine WE_p0 ?_ | refine WE_p1 ?_ | refine WE_true ?_ | refine WS_asg ?_) | ((with_reducible apply WE_var); (case h => exact rfl))
      | ((with_reducible refine And.intro ?_ ?_); (with_reducible first | exact ff1 | exact ff2 | exact ff3 | exact ff4 | exact ff5 | fail); (intro _))
      | ((with_reducible refine And.intro ?_ ?_); rotate_left; (with_reducible first | exact tt1 | exact tt2 | exact tt3 | exact tt4 | exact tt5 | fail); (intro _))
      | ((with_reducible apply Exists.intro); (with_reducible apply And.intro); first | ((with_reducible (first | show addT (.int _) (.int _) = some _ | show subT (.int _) (.int _) = some _ | show negT (.int _) = some _ | show ltT (.int _) (.int _) = some _ | show leT (.int _) (.int _) = some _ | show gtT (.int _) (.int _) = some _ | show geT (.int _) (.int _) = some _ | show intT [.int _] = some _ | show max2T [.int _, .int _] = some _ | show min2T [.int _, .int _] = some _ | show absT [.int _] = some _ | show eqT (.int _) (.int _) = some _ | show neT (.int _) (.int _) = some _ | show T.bl _ = T.bl _)); exact rfl) | ((with_reducible (first | show isiT _ _ = some _ | show isT _ _ = some _ | show isNT _ _ = some _ | show isisT _ _ = some _)); first | exact (rfl : _ = some (T.bl true)) | exact (rfl : _ = some (T.bl false)) | exact rfl) | fail)
      | fail)
    refine ⟨_, rfl, ?_⟩
    repeat' (first
      | with_reducible (first | refine WS_seq ?_ | refine WS_set ?_ | refine WS_ret ?_ | refine WS_if ?_ | refine WS_drop ?_ | refine WS_nx ?_ | refine WE_bin ?_ | refine WE_cons ?_ | refine WE_nil ?_ | refine WE_k ?_ | refine WE_app ?_ | refine WE_un ?_ | refine WE_B ?_ | refine WE_notC ?_ | refine WE_call ?_ | refine WE_callK ?_ | refine WE_lst ?_ | refine WE_tup ?_ | refine WE_chain ?_ | refine WE_andV ?_ | refine WE_orV ?_ | refine WE_notV ?_ | refine WE_andC ?_ | refine WE_orC ?_ | refine WE_if ?_ | refine WS_par2 ?_ | refine WS_par3 ?_ | refine WE_rg1 ?_ | refine WE_rg2 ?_ | refine WE_items ?_ | refine WE_enum ?_ | refine WE_zip ?_ | refine WE_revd ?_ | refine WE_callG ?_ | refine WS_put ?_ | refine WS_app ?_ | refine WE_pix ?_ | refine WE_sl ?_ | refine WE_p0 ?_ | refine WE_p1 ?_ | refine WE_true ?_ | refine WS_asg ?_) | ((with_reducible apply WE_var); (case h => exact rfl))
      | ((with_reducible refine And.intro ?_ ?_); (with_reducible first | exact ff1 | exact ff2 | exact ff3 | exact ff4 | exact ff5 | fail); (intro _))
      | ((with_reducible refine And.intro ?_ ?_); rotate_left; (with_reducible first | exact tt1 | exact tt2 | exact tt3 | exact tt4 | exact tt5 | fail); (intro _))
      | ((with_reducible apply Exists.intro); (with_reducible apply And.intro); first | ((with_reducible (first | show addT (.int _) (.int _) = some _ | show subT (.int _) (.int _) = some _ | show negT (.int _) = some _ | show ltT (.int _) (.int _) = some _ | show leT (.int _) (.int _) = some _ | show gtT (.int _) (.int _) = some _ | show geT (.int _) (.int _) = some _ | show intT [.int _] = some _ | show max2T [.int _, .int _] = some _ | show min2T [.int _, .int _] = some _ | show absT [.int _] = some _ | show eqT (.int _) (.int _) = some _ | show neT (.int _) (.int _) = some _ | show T.bl _ = T.bl _)); exact rfl) | ((with_reducible (first | show isiT _ _ = some _ | show isT _ _ = some _ | show isNT _ _ = some _ | show isisT _ _ = some _)); first | exact (rfl : _ = some (T.bl true)) | exact (rfl : _ = some (T.bl false)) | exact rfl) | fail)
      | fail)
    have e : cutT (ns.map T.int) none (some 1) = (ns.take 1).map T.int := by
      unfold cutT
      rw [List.length_map]
      show List.take (HT.sIx ns.length ns.length (some 1) - 0) (List.drop 0 (ns.map T.int)) = _
      rw [List.drop_zero, List.map_take]
      show List.take (min 1 ns.length - 0) _ = _
      cases ns with
      | nil => rfl
      | cons a l => simp
    refine ⟨.int (ns.take 1).sum, by rw [e]; show (intsT _).map _ = _; rw [intsT_map]; rfl, ?_⟩
    repeat' (first
      | with_reducible (first | refine WS_seq ?_ | refine WS_set ?_ | refine WS_ret ?_ | refine WS_if ?_ | refine WS_drop ?_ | refine WS_nx ?_ | refine WE_bin ?_ | refine WE_cons ?_ | refine WE_nil ?_ | refine WE_k ?_ | refine WE_app ?_ | refine WE_un ?_ | refine WE_B ?_ | refine WE_notC ?_ | refine WE_call ?_ | refine WE_callK ?_ | refine WE_lst ?_ | refine WE_tup ?_ | refine WE_chain ?_ | refine WE_andV ?_ | refine WE_orV ?_ | refine WE_notV ?_ | refine WE_andC ?_ | refine WE_orC ?_ | refine WE_if ?_ | refine WS_par2 ?_ | refine WS_par3 ?_ | refine WE_rg1 ?_ | refine WE_rg2 ?_ | refine WE_items ?_ | refine WE_enum ?_ | refine WE_zip ?_ | refine WE_revd ?_ | refine WE_callG ?_ | refine WS_put ?_ | refine WS_app ?_ | refine WE_pix ?_ | refine WE_sl ?_ | refine WE_p0 ?_ | refine WE_p1 ?_ | refine WE_true ?_ | refine WS_asg ?_) | ((with_reducible apply WE_var); (case h => exact rfl))
      | ((with_reducible refine And.intro ?_ ?_); (with_reducible first | exact ff1 | exact ff2 | exact ff3 | exact ff4 | exact ff5 | fail); (intro _))
      | ((with_reducible refine And.intro ?_ ?_); rotate_left; (with_reducible first | exact tt1 | exact tt2 | exact tt3 | exact tt4 | exact tt5 | fail); (intro _))
      | ((with_reducible apply Exists.intro); (with_reducible apply And.intro); first | ((with_reducible (first | show addT (.int _) (.int _) = some _ | show subT (.int _) (.int _) = some _ | show negT (.int _) = some _ | show ltT (.int _) (.int _) = some _ | show leT (.int _) (.int _) = some _ | show gtT (.int _) (.int _) = some _ | show geT (.int _) (.int _) = some _ | show intT [.int _] = some _ | show max2T [.int _, .int _] = some _ | show min2T [.int _, .int _] = some _ | show absT [.int _] = some _ | show eqT (.int _) (.int _) = some _ | show neT (.int _) (.int _) = some _ | show T.bl _ = T.bl _)); exact rfl) | ((with_reducible (first | show isiT _ _ = some _ | show isT _ _ = some _ | show isNT _ _ = some _ | show isisT _ _ = some _)); first | exact (rfl : _ = some (T.bl true)) | exact (rfl : _ = some (T.bl false)) | exact rfl) | fail)
      | fail)
    exact ⟨_, modT_of (by omega), q _⟩
theorem generator_ok {ns : List Int} {i : Int} (h0 : 0 ≤ i) (h1 : i ≤ 100) (hl : ns.length ≤ 63) (q : ∀ us, GenOk 100000 us → χ (.lst us) []) : WR (cm_law_generator [.lst (ns.map T.int), .int i]) χ ζ := by
  refine WR_fn ?_
  try simp only [List.map_cons, List.map_nil, List.cons_append, List.nil_append, List.length_cons, List.length_nil, Nat.zero_add, Nat.reduceAdd, Nat.reduceSub, Nat.sub_self, List.replicate_zero, List.replicate_succ, List.append_nil, List.set_cons_zero, List.set_cons_succ]
  repeat' (first
      | with_reducible (first | refine WS_seq ?_ | refine WS_set ?_ | refine WS_ret ?_ | refine WS_if ?_ | refine WS_drop ?_ | refine WS_nx ?_ | refine WE_bin ?_ | refine WE_cons ?_ | refine WE_nil ?_ | refine WE_k ?_ | refine WE_app ?_ | refine WE_un ?_ | refine WE_B ?_ | refine WE_notC ?_ | refine WE_call ?_ | refine WE_callK ?_ | refine WE_lst ?_ | refine WE_tup ?_ | refine WE_chain ?_ | refine WE_andV ?_ | refine WE_orV ?_ | refine WE_notV ?_ | refine WE_andC ?_ | refine WE_orC ?_ | refine WE_if ?_ | refine WS_par2 ?_ | refine WS_par3 ?_ | refine WE_rg1 ?_ | refine WE_rg2 ?_ | refine WE_items ?_ | refine WE_enum ?_ | refine WE_zip ?_ | refine WE_revd ?_ | refine WE_callG ?_ | refine WS_put ?_ | refine WS_app ?_ | refine WE_pix ?_ | refine WE_sl ?_ | refine WE_p0 ?_ | refine WE_p1 ?_ | refine WE_true ?_ | refine WS_asg ?_) | ((with_reducible apply WE_var); (case h => exact rfl))
      | ((with_reducible refine And.intro ?_ ?_); (with_reducible first | exact ff1 | exact ff2 | exact ff3 | exact ff4 | exact ff5 | fail); (intro _))
      | ((with_reducible refine And.intro ?_ ?_); rotate_left; (with_reducible first | exact tt1 | exact tt2 | exact tt3 | exact tt4 | exact tt5 | fail); (intro _))
      | ((with_reducible apply Exists.intro); (with_reducible apply And.intro); first | ((with_reducible (first | show addT (.int _) (.int _) = some _ | show subT (.int _) (.int _) = some _ | show negT (.int _) = some _ | show ltT (.int _) (.int _) = some _ | show leT (.int _) (.int _) = some _ | show gtT (.int _) (.int _) = some _ | show geT (.int _) (.int _) = some _ | show intT [.int _] = some _ | show max2T [.int _, .int _] = some _ | show min2T [.int _, .int _] = some _ | show absT [.int _] = some _ | show eqT (.int _) (.int _) = some _ | show neT (.int _) (.int _) = some _ | show T.bl _ = T.bl _)); exact rfl) | ((with_reducible (first | show isiT _ _ = some _ | show isT _ _ = some _ | show isNT _ _ = some _ | show isisT _ _ = some _)); first | exact (rfl : _ = some (T.bl true)) | exact (rfl : _ = some (T.bl false)) | exact rfl) | fail)
      | fail)
  refine cell_ok h0 hl fun v => ?_
  try simp only [List.map_cons, List.map_nil, List.cons_append, List.nil_append, List.length_cons, List.length_nil, Nat.zero_add, Nat.reduceAdd, Nat.reduceSub, Nat.sub_self, List.replicate_zero, List.replicate_succ, List.append_nil, List.set_cons_zero, List.set_cons_succ]
  repeat' (first
      | with_reducible (first | refine WS_seq ?_ | refine WS_set ?_ | refine WS_ret ?_ | refine WS_if ?_ | refine WS_drop ?_ | refine WS_nx ?_ | refine WE_bin ?_ | refine WE_cons ?_ | refine WE_nil ?_ | refine WE_k ?_ | refine WE_app ?_ | refine WE_un ?_ | refine WE_B ?_ | refine WE_notC ?_ | refine WE_call ?_ | refine WE_callK ?_ | refine WE_lst ?_ | refine WE_tup ?_ | refine WE_chain ?_ | refine WE_andV ?_ | refine WE_orV ?_ | refine WE_notV ?_ | refine WE_andC ?_ | refine WE_orC ?_ | refine WE_if ?_ | refine WS_par2 ?_ | refine WS_par3 ?_ | refine WE_rg1 ?_ | refine WE_rg2 ?_ | refine WE_items ?_ | refine WE_enum ?_ | refine WE_zip ?_ | refine WE_revd ?_ | refine WE_callG ?_ | refine WS_put ?_ | refine WS_app ?_ | refine WE_pix ?_ | refine WE_sl ?_ | refine WE_p0 ?_ | refine WE_p1 ?_ | refine WE_true ?_ | refine WS_asg ?_) | ((with_reducible apply WE_var); (case h => exact rfl))
      | ((with_reducible refine And.intro ?_ ?_); (with_reducible first | exact ff1 | exact ff2 | exact ff3 | exact ff4 | exact ff5 | fail); (intro _))
      | ((with_reducible refine And.intro ?_ ?_); rotate_left; (with_reducible first | exact tt1 | exact tt2 | exact tt3 | exact tt4 | exact tt5 | fail); (intro _))
      | ((with_reducible apply Exists.intro); (with_reducible apply And.intro); first | ((with_reducible (first | show addT (.int _) (.int _) = some _ | show subT (.int _) (.int _) = some _ | show negT (.int _) = some _ | show ltT (.int _) (.int _) = some _ | show leT (.int _) (.int _) = some _ | show gtT (.int _) (.int _) = some _ | show geT (.int _) (.int _) = some _ | show intT [.int _] = some _ | show max2T [.int _, .int _] = some _ | show min2T [.int _, .int _] = some _ | show absT [.int _] = some _ | show eqT (.int _) (.int _) = some _ | show neT (.int _) (.int _) = some _ | show T.bl _ = T.bl _)); exact rfl) | ((with_reducible (first | show isiT _ _ = some _ | show isT _ _ = some _ | show isNT _ _ = some _ | show isisT _ _ = some _)); first | exact (rfl : _ = some (T.bl true)) | exact (rfl : _ = some (T.bl false)) | exact rfl) | fail)
      | fail)
  refine ⟨_, rfl, ?_⟩
  repeat' (first
      | with_reducible (first | refine WS_seq ?_ | refine WS_set ?_ | refine WS_ret ?_ | refine WS_if ?_ | refine WS_drop ?_ | refine WS_nx ?_ | refine WE_bin ?_ | refine WE_cons ?_ | refine WE_nil ?_ | refine WE_k ?_ | refine WE_app ?_ | refine WE_un ?_ | refine WE_B ?_ | refine WE_notC ?_ | refine WE_call ?_ | refine WE_callK ?_ | refine WE_lst ?_ | refine WE_tup ?_ | refine WE_chain ?_ | refine WE_andV ?_ | refine WE_orV ?_ | refine WE_notV ?_ | refine WE_andC ?_ | refine WE_orC ?_ | refine WE_if ?_ | refine WS_par2 ?_ | refine WS_par3 ?_ | refine WE_rg1 ?_ | refine WE_rg2 ?_ | refine WE_items ?_ | refine WE_enum ?_ | refine WE_zip ?_ | refine WE_revd ?_ | refine WE_callG ?_ | refine WS_put ?_ | refine WS_app ?_ | refine WE_pix ?_ | refine WE_sl ?_ | refine WE_p0 ?_ | refine WE_p1 ?_ | refine WE_true ?_ | refine WS_asg ?_) | ((with_reducible apply WE_var); (case h => exact rfl))
      | ((with_reducible refine And.intro ?_ ?_); (with_reducible first | exact ff1 | exact ff2 | exact ff3 | exact ff4 | exact ff5 | fail); (intro _))
      | ((with_reducible refine And.intro ?_ ?_); rotate_left; (with_reducible first | exact tt1 | exact tt2 | exact tt3 | exact tt4 | exact tt5 | fail); (intro _))
      | ((with_reducible apply Exists.intro); (with_reducible apply And.intro); first | ((with_reducible (first | show addT (.int _) (.int _) = some _ | show subT (.int _) (.int _) = some _ | show negT (.int _) = some _ | show ltT (.int _) (.int _) = some _ | show leT (.int _) (.int _) = some _ | show gtT (.int _) (.int _) = some _ | show geT (.int _) (.int _) = some _ | show intT [.int _] = some _ | show max2T [.int _, .int _] = some _ | show min2T [.int _, .int _] = some _ | show absT [.int _] = some _ | show eqT (.int _) (.int _) = some _ | show neT (.int _) (.int _) = some _ | show T.bl _ = T.bl _)); exact rfl) | ((with_reducible (first | show isiT _ _ = some _ | show isT _ _ = some _ | show isNT _ _ = some _ | show isisT _ _ = some _)); first | exact (rfl : _ = some (T.bl true)) | exact (rfl : _ = some (T.bl false)) | exact rfl) | fail)
      | fail)
  refine ⟨_, rfl, ?_⟩
  repeat' (first
      | with_reducible (first | refine WS_seq ?_ | refine WS_set ?_ | refine WS_ret ?_ | refine WS_if ?_ | refine WS_drop ?_ | refine WS_nx ?_ | refine WE_bin ?_ | refine WE_cons ?_ | refine WE_nil ?_ | refine WE_k ?_ | refine WE_app ?_ | refine WE_un ?_ | refine WE_B ?_ | refine WE_notC ?_ | refine WE_call ?_ | refine WE_callK ?_ | refine WE_lst ?_ | refine WE_tup ?_ | refine WE_chain ?_ | refine WE_andV ?_ | refine WE_orV ?_ | refine WE_notV ?_ | refine WE_andC ?_ | refine WE_orC ?_ | refine WE_if ?_ | refine WS_par2 ?_ | refine WS_par3 ?_ | refine WE_rg1 ?_ | refine WE_rg2 ?_ | refine WE_items ?_ | refine WE_enum ?_ | refine WE_zip ?_ | refine WE_revd ?_ | refine WE_callG ?_ | refine WS_put ?_ | refine WS_app ?_ | refine WE_pix ?_ | refine WE_sl ?_ | refine WE_p0 ?_ | refine WE_p1 ?_ | refine WE_true ?_ | refine WS_asg ?_) | ((with_reducible apply WE_var); (case h => exact rfl))
      | ((with_reducible refine And.intro ?_ ?_); (with_reducible first | exact ff1 | exact ff2 | exact ff3 | exact ff4 | exact ff5 | fail); (intro _))
      | ((with_reducible refine And.intro ?_ ?_); rotate_left; (with_reducible first | exact tt1 | exact tt2 | exact tt3 | exact tt4 | exact tt5 | fail); (intro _))
      | ((with_reducible apply Exists.intro); (with_reducible apply And.intro); first | ((with_reducible (first | show addT (.int _) (.int _) = some _ | show subT (.int _) (.int _) = some _ | show negT (.int _) = some _ | show ltT (.int _) (.int _) = some _ | show leT (.int _) (.int _) = some _ | show gtT (.int _) (.int _) = some _ | show geT (.int _) (.int _) = some _ | show intT [.int _] = some _ | show max2T [.int _, .int _] = some _ | show min2T [.int _, .int _] = some _ | show absT [.int _] = some _ | show eqT (.int _) (.int _) = some _ | show neT (.int _) (.int _) = some _ | show T.bl _ = T.bl _)); exact rfl) | ((with_reducible (first | show isiT _ _ = some _ | show isT _ _ = some _ | show isNT _ _ = some _ | show isisT _ _ = some _)); first | exact (rfl : _ = some (T.bl true)) | exact (rfl : _ = some (T.bl false)) | exact rfl) | fail)
      | fail)
  refine ⟨_, rfl, ?_⟩
  repeat' (first
      | with_reducible (first | refine WS_seq ?_ | refine WS_set ?_ | refine WS_ret ?_ | refine WS_if ?_ | refine WS_drop ?_ | refine WS_nx ?_ | refine WE_bin ?_ | refine WE_cons ?_ | refine WE_nil ?_ | refine WE_k ?_ | refine WE_app ?_ | refine WE_un ?_ | refine WE_B ?_ | refine WE_notC ?_ | refine WE_call ?_ | refine WE_callK ?_ | refine WE_lst ?_ | refine WE_tup ?_ | refine WE_chain ?_ | refine WE_andV ?_ | refine WE_orV ?_ | refine WE_notV ?_ | refine WE_andC ?_ | refine WE_orC ?_ | refine WE_if ?_ | refine WS_par2 ?_ | refine WS_par3 ?_ | refine WE_rg1 ?_ | refine WE_rg2 ?_ | refine WE_items ?_ | refine WE_enum ?_ | refine WE_zip ?_ | refine WE_revd ?_ | refine WE_callG ?_ | refine WS_put ?_ | refine WS_app ?_ | refine WE_pix ?_ | refine WE_sl ?_ | refine WE_p0 ?_ | refine WE_p1 ?_ | refine WE_true ?_ | refine WS_asg ?_) | ((with_reducible apply WE_var); (case h => exact rfl))
      | ((with_reducible refine And.intro ?_ ?_); (with_reducible first | exact ff1 | exact ff2 | exact ff3 | exact ff4 | exact ff5 | fail); (intro _))
      | ((with_reducible refine And.intro ?_ ?_); rotate_left; (with_reducible first | exact tt1 | exact tt2 | exact tt3 | exact tt4 | exact tt5 | fail); (intro _))
      | ((with_reducible apply Exists.intro); (with_reducible apply And.intro); first | ((with_reducible (first | show addT (.int _) (.int _) = some _ | show subT (.int _) (.int _) = some _ | show negT (.int _) = some _ | show ltT (.int _) (.int _) = some _ | show leT (.int _) (.int _) = some _ | show gtT (.int _) (.int _) = some _ | show geT (.int _) (.int _) = some _ | show intT [.int _] = some _ | show max2T [.int _, .int _] = some _ | show min2T [.int _, .int _] = some _ | show absT [.int _] = some _ | show eqT (.int _) (.int _) = some _ | show neT (.int _) (.int _) = some _ | show T.bl _ = T.bl _)); exact rfl) | ((with_reducible (first | show isiT _ _ = some _ | show isT _ _ = some _ | show isNT _ _ = some _ | show isisT _ _ = some _)); first | exact (rfl : _ = some (T.bl true)) | exact (rfl : _ = some (T.bl false)) | exact rfl) | fail)
      | fail)
  refine ⟨_, modT_of (by decide +kernel), ?_⟩
  repeat' (first
      | with_reducible (first | refine WS_seq ?_ | refine WS_set ?_ | refine WS_ret ?_ | refine WS_if ?_ | refine WS_drop ?_ | refine WS_nx ?_ | refine WE_bin ?_ | refine WE_cons ?_ | refine WE_nil ?_ | refine WE_k ?_ | refine WE_app ?_ | refine WE_un ?_ | refine WE_B ?_ | refine WE_notC ?_ | refine WE_call ?_ | refine WE_callK ?_ | refine WE_lst ?_ | refine WE_tup ?_ | refine WE_chain ?_ | refine WE_andV ?_ | refine WE_orV ?_ | refine WE_notV ?_ | refine WE_andC ?_ | refine WE_orC ?_ | refine WE_if ?_ | refine WS_par2 ?_ | refine WS_par3 ?_ | refine WE_rg1 ?_ | refine WE_rg2 ?_ | refine WE_items ?_ | refine WE_enum ?_ | refine WE_zip ?_ | refine WE_revd ?_ | refine WE_callG ?_ | refine WS_put ?_ | refine WS_app ?_ | refine WE_pix ?_ | refine WE_sl ?_ | refine WE_p0 ?_ | refine WE_p1 ?_ | refine WE_true ?_ | refine WS_asg ?_) | ((with_reducible apply WE_var); (case h => exact rfl))
      | ((with_reducible refine And.intro ?_ ?_); (with_reducible first | exact ff1 | exact ff2 | exact ff3 | exact ff4 | exact ff5 | fail); (intro _))
      | ((with_reducible refine And.intro ?_ ?_); rotate_left; (with_reducible first | exact tt1 | exact tt2 | exact tt3 | exact tt4 | exact tt5 | fail); (intro _))
      | ((with_reducible apply Exists.intro); (with_reducible apply And.intro); first | ((with_reducible (first | show addT (.int _) (.int _) = some _ | show subT (.int _) (.int _) = some _ | show negT (.int _) = some _ | show ltT (.int _) (.int _) = some _ | show leT (.int _) (.int _) = some _ | show gtT (.int _) (.int _) = some _ | show geT (.int _) (.int _) = some _ | show intT [.int _] = some _ | show max2T [.int _, .int _] = some _ | show min2T [.int _, .int _] = some _ | show absT [.int _] = some _ | show eqT (.int _) (.int _) = some _ | show neT (.int _) (.int _) = some _ | show T.bl _ = T.bl _)); exact rfl) | ((with_reducible (first | show isiT _ _ = some _ | show isT _ _ = some _ | show isNT _ _ = some _ | show isisT _ _ = some _)); first | exact (rfl : _ = some (T.bl true)) | exact (rfl : _ = some (T.bl false)) | exact rfl) | fail)
      | fail)
  refine ⟨_, modT_of (by decide), ?_⟩
  repeat' (first
      | with_reducible (first | refine WS_seq ?_ | refine WS_set ?_ | refine WS_ret ?_ | refine WS_if ?_ | refine WS_drop ?_ | refine WS_nx ?_ | refine WE_bin ?_ | refine WE_cons ?_ | refine WE_nil ?_ | refine WE_k ?_ | refine WE_app ?_ | refine WE_un ?_ | refine WE_B ?_ | refine WE_notC ?_ | refine WE_call ?_ | refine WE_callK ?_ | refine WE_lst ?_ | refine WE_tup ?_ | refine WE_chain ?_ | refine WE_andV ?_ | refine WE_orV ?_ | refine WE_notV ?_ | refine WE_andC ?_ | refine WE_orC ?_ | refine WE_if ?_ | refine WS_par2 ?_ | refine WS_par3 ?_ | refine WE_rg1 ?_ | refine WE_rg2 ?_ | refine WE_items ?_ | refine WE_enum ?_ | refine WE_zip ?_ | refine WE_revd ?_ | refine WE_callG ?_ | refine WS_put ?_ | refine WS_app ?_ | refine WE_pix ?_ | refine WE_sl ?_ | refine WE_p0 ?_ | refine WE_p1 ?_ | refine WE_true ?_ | refine WS_asg ?_) | ((with_reducible apply WE_var); (case h => exact rfl))
      | ((with_reducible refine And.intro ?_ ?_); (with_reducible first | exact ff1 | exact ff2 | exact ff3 | exact ff4 | exact ff5 | fail); (intro _))
      | ((with_reducible refine And.intro ?_ ?_); rotate_left; (with_reducible first | exact tt1 | exact tt2 | exact tt3 | exact tt4 | exact tt5 | fail); (intro _))
      | ((with_reducible apply Exists.intro); (with_reducible apply And.intro); first | ((with_reducible (first | show addT (.int _) (.int _) = some _ | show subT (.int _) (.int _) = some _ | show negT (.int _) = some _ | show ltT (.int _) (.int _) = some _ | show leT (.int _) (.int _) = some _ | show gtT (.int _) (.int _) = some _ | show geT (.int _) (.int _) = some _ | show intT [.int _] = some _ | show max2T [.int _, .int _] = some _ | show min2T [.int _, .int _] = some _ | show absT [.int _] = some _ | show eqT (.int _) (.int _) = some _ | show neT (.int _) (.int _) = some _ | show T.bl _ = T.bl _)); exact rfl) | ((with_reducible (first | show isiT _ _ = some _ | show isT _ _ = some _ | show isNT _ _ = some _ | show isisT _ _ = some _)); first | exact (rfl : _ = some (T.bl true)) | exact (rfl : _ = some (T.bl false)) | exact rfl) | fail)
      | fail)
  refine ⟨_, mulT_of (by omega) (by omega) (by omega) (by omega), ?_⟩
  repeat' (first
      | with_reducible (first | refine WS_seq ?_ | refine WS_set ?_ | refine WS_ret ?_ | refine WS_if ?_ | refine WS_drop ?_ | refine WS_nx ?_ | refine WE_bin ?_ | refine WE_cons ?_ | refine WE_nil ?_ | refine WE_k ?_ | refine WE_app ?_ | refine WE_un ?_ | refine WE_B ?_ | refine WE_notC ?_ | refine WE_call ?_ | refine WE_callK ?_ | refine WE_lst ?_ | refine WE_tup ?_ | refine WE_chain ?_ | refine WE_andV ?_ | refine WE_orV ?_ | refine WE_notV ?_ | refine WE_andC ?_ | refine WE_orC ?_ | refine WE_if ?_ | refine WS_par2 ?_ | refine WS_par3 ?_ | refine WE_rg1 ?_ | refine WE_rg2 ?_ | refine WE_items ?_ | refine WE_enum ?_ | refine WE_zip ?_ | refine WE_revd ?_ | refine WE_callG ?_ | refine WS_put ?_ | refine WS_app ?_ | refine WE_pix ?_ | refine WE_sl ?_ | refine WE_p0 ?_ | refine WE_p1 ?_ | refine WE_true ?_ | refine WS_asg ?_) | ((with_reducible apply WE_var); (case h => exact rfl))
      | ((with_reducible refine And.intro ?_ ?_); (with_reducible first | exact ff1 | exact ff2 | exact ff3 | exact ff4 | exact ff5 | fail); (intro _))
      | ((with_reducible refine And.intro ?_ ?_); rotate_left; (with_reducible first | exact tt1 | exact tt2 | exact tt3 | exact tt4 | exact tt5 | fail); (intro _))
      | ((with_reducible apply Exists.intro); (with_reducible apply And.intro); first | ((with_reducible (first | show addT (.int _) (.int _) = some _ | show subT (.int _) (.int _) = some _ | show negT (.int _) = some _ | show ltT (.int _) (.int _) = some _ | show leT (.int _) (.int _) = some _ | show gtT (.int _) (.int _) = some _ | show geT (.int _) (.int _) = some _ | show intT [.int _] = some _ | show max2T [.int _, .int _] = some _ | show min2T [.int _, .int _] = some _ | show absT [.int _] = some _ | show eqT (.int _) (.int _) = some _ | show neT (.int _) (.int _) = some _ | show T.bl _ = T.bl _)); exact rfl) | ((with_reducible (first | show isiT _ _ = some _ | show isT _ _ = some _ | show isNT _ _ = some _ | show isisT _ _ = some _)); first | exact (rfl : _ = some (T.bl true)) | exact (rfl : _ = some (T.bl false)) | exact rfl) | fail)
      | fail)
  refine ⟨by show 3 ≤ LIM; decide, q _ ⟨_, _, _, rfl, Int.emod_nonneg _ (by decide +kernel), Int.emod_nonneg _ (by decide), Int.emod_lt_of_pos _ (by decide), by omega, by omega⟩⟩

/-! ### a value compared with itself -/
def pl : Nat → T → Bool
  | _, .non => true
  | _, .bl _ => true
  | _, .int _ => true
  | _, .str x => x.cps.all (· < 0x110000)
  | n + 1, .lst xs => decide (xs.length < 1000000) && xs.all (pl n)
  | n + 1, .tup xs => decide (xs.length < 1000000) && xs.all (pl n)
  | _, _ => false
theorem sameq_lst {xs : List T} {k : Nat} (hl : xs.length < 1000000) (ih : ∀ x ∈ xs, cm_law_same k [x, x] = .ok (.bl true) []) : cm_law_same (k + 1) [.lst xs, .lst xs] = .ok (.bl true) [] := by
  have hL : xs.length ≤ LIM := Nat.le_of_lt hl
  have e1 : lenT [.lst xs] = some (.int xs.length) := by simp only [lenT, hL, if_true]
  have e2 : ∀ i : Nat, ∀ x, xs[i]? = some x → ixT (.lst xs) (.int (i : Int)) = some x := fun i x hx => atI_nat hx
  refine WR.eq (WR_fn ?_)
  try simp only [List.map_cons, List.map_nil, List.cons_append, List.nil_append, List.length_cons, List.length_nil, Nat.zero_add, Nat.reduceAdd, Nat.reduceSub, Nat.sub_self, List.replicate_zero, List.replicate_succ, List.append_nil, List.set_cons_zero, List.set_cons_succ]
  repeat' (first
      | with_reducible (first | refine WS_seq ?_ | refine WS_set ?_ | refine WS_ret ?_ | refine WS_if ?_ | refine WS_drop ?_ | refine WS_nx ?_ | refine WE_bin ?_ | refine WE_cons ?_ | refine WE_nil ?_ | refine WE_k ?_ | refine WE_app ?_ | refine WE_un ?_ | refine WE_B ?_ | refine WE_notC ?_ | refine WE_call ?_ | refine WE_callK ?_ | refine WE_lst ?_ | refine WE_tup ?_ | refine WE_chain ?_ | refine WE_andV ?_ | refine WE_orV ?_ | refine WE_notV ?_ | refine WE_andC ?_ | refine WE_orC ?_ | refine WE_if ?_ | refine WS_par2 ?_ | refine WS_par3 ?_ | refine WE_rg1 ?_ | refine WE_rg2 ?_ | refine WE_items ?_ | refine WE_enum ?_ | refine WE_zip ?_ | refine WE_revd ?_ | refine WE_callG ?_ | refine WS_put ?_ | refine WS_app ?_ | refine WE_pix ?_ | refine WE_sl ?_ | refine WE_p0 ?_ | refine WE_p1 ?_ | refine WE_true ?_ | refine WS_asg ?_) | ((with_reducible apply WE_var); (case h => exact rfl))
      | ((with_reducible refine And.intro ?_ ?_); (with_reducible first | exact ff1 | exact ff2 | exact ff3 | exact ff4 | exact ff5 | fail); (intro _))
      | ((with_reducible refine And.intro ?_ ?_); rotate_left; (with_reducible first | exact tt1 | exact tt2 | exact tt3 | exact tt4 | exact tt5 | fail); (intro _))
      | ((with_reducible apply Exists.intro); (with_reducible apply And.intro); first | ((with_reducible (first | show addT (.int _) (.int _) = some _ | show subT (.int _) (.int _) = some _ | show negT (.int _) = some _ | show ltT (.int _) (.int _) = some _ | show leT (.int _) (.int _) = some _ | show gtT (.int _) (.int _) = some _ | show geT (.int _) (.int _) = some _ | show intT [.int _] = some _ | show max2T [.int _, .int _] = some _ | show min2T [.int _, .int _] = some _ | show absT [.int _] = some _ | show eqT (.int _) (.int _) = some _ | show neT (.int _) (.int _) = some _ | show T.bl _ = T.bl _)); exact rfl) | ((with_reducible (first | show isiT _ _ = some _ | show isT _ _ = some _ | show isNT _ _ = some _ | show isisT _ _ = some _)); first | exact (rfl : _ = some (T.bl true)) | exact (rfl : _ = some (T.bl false)) | exact rfl) | fail)
      | fail)
  refine ⟨_, e1, ?_⟩
  repeat' (first
      | with_reducible (first | refine WS_seq ?_ | refine WS_set ?_ | refine WS_ret ?_ | refine WS_if ?_ | refine WS_drop ?_ | refine WS_nx ?_ | refine WE_bin ?_ | refine WE_cons ?_ | refine WE_nil ?_ | refine WE_k ?_ | refine WE_app ?_ | refine WE_un ?_ | refine WE_B ?_ | refine WE_notC ?_ | refine WE_call ?_ | refine WE_callK ?_ | refine WE_lst ?_ | refine WE_tup ?_ | refine WE_chain ?_ | refine WE_andV ?_ | refine WE_orV ?_ | refine WE_notV ?_ | refine WE_andC ?_ | refine WE_orC ?_ | refine WE_if ?_ | refine WS_par2 ?_ | refine WS_par3 ?_ | refine WE_rg1 ?_ | refine WE_rg2 ?_ | refine WE_items ?_ | refine WE_enum ?_ | refine WE_zip ?_ | refine WE_revd ?_ | refine WE_callG ?_ | refine WS_put ?_ | refine WS_app ?_ | refine WE_pix ?_ | refine WE_sl ?_ | refine WE_p0 ?_ | refine WE_p1 ?_ | refine WE_true ?_ | refine WS_asg ?_) | ((with_reducible apply WE_var); (case h => exact rfl))
      | ((with_reducible refine And.intro ?_ ?_); (with_reducible first | exact ff1 | exact ff2 | exact ff3 | exact ff4 | exact ff5 | fail); (intro _))
      | ((with_reducible refine And.intro ?_ ?_); rotate_left; (with_reducible first | exact tt1 | exact tt2 | exact tt3 | exact tt4 | exact tt5 | fail); (intro _))
      | ((with_reducible apply Exists.intro); (with_reducible apply And.intro); first | ((with_reducible (first | show addT (.int _) (.int _) = some _ | show subT (.int _) (.int _) = some _ | show negT (.int _) = some _ | show ltT (.int _) (.int _) = some _ | show leT (.int _) (.int _) = some _ | show gtT (.int _) (.int _) = some _ | show geT (.int _) (.int _) = some _ | show intT [.int _] = some _ | show max2T [.int _, .int _] = some _ | show min2T [.int _, .int _] = some _ | show absT [.int _] = some _ | show eqT (.int _) (.int _) = some _ | show neT (.int _) (.int _) = some _ | show T.bl _ = T.bl _)); exact rfl) | ((with_reducible (first | show isiT _ _ = some _ | show isT _ _ = some _ | show isNT _ _ = some _ | show isisT _ _ = some _)); first | exact (rfl : _ = some (T.bl true)) | exact (rfl : _ = some (T.bl false)) | exact rfl) | fail)
      | fail)
  refine ⟨_, e1, ?_⟩
  repeat' (first
      | with_reducible (first | refine WS_seq ?_ | refine WS_set ?_ | refine WS_ret ?_ | refine WS_if ?_ | refine WS_drop ?_ | refine WS_nx ?_ | refine WE_bin ?_ | refine WE_cons ?_ | refine WE_nil ?_ | refine WE_k ?_ | refine WE_app ?_ | refine WE_un ?_ | refine WE_B ?_ | refine WE_notC ?_ | refine WE_call ?_ | refine WE_callK ?_ | refine WE_lst ?_ | refine WE_tup ?_ | refine WE_chain ?_ | refine WE_andV ?_ | refine WE_orV ?_ | refine WE_notV ?_ | refine WE_andC ?_ | refine WE_orC ?_ | refine WE_if ?_ | refine WS_par2 ?_ | refine WS_par3 ?_ | refine WE_rg1 ?_ | refine WE_rg2 ?_ | refine WE_items ?_ | refine WE_enum ?_ | refine WE_zip ?_ | refine WE_revd ?_ | refine WE_callG ?_ | refine WS_put ?_ | refine WS_app ?_ | refine WE_pix ?_ | refine WE_sl ?_ | refine WE_p0 ?_ | refine WE_p1 ?_ | refine WE_true ?_ | refine WS_asg ?_) | ((with_reducible apply WE_var); (case h => exact rfl))
      | ((with_reducible refine And.intro ?_ ?_); (with_reducible first | exact ff1 | exact ff2 | exact ff3 | exact ff4 | exact ff5 | fail); (intro _))
      | ((with_reducible refine And.intro ?_ ?_); rotate_left; (with_reducible first | exact tt1 | exact tt2 | exact tt3 | exact tt4 | exact tt5 | fail); (intro _))
      | ((with_reducible apply Exists.intro); (with_reducible apply And.intro); first | ((with_reducible (first | show addT (.int _) (.int _) = some _ | show subT (.int _) (.int _) = some _ | show negT (.int _) = some _ | show ltT (.int _) (.int _) = some _ | show leT (.int _) (.int _) = some _ | show gtT (.int _) (.int _) = some _ | show geT (.int _) (.int _) = some _ | show intT [.int _] = some _ | show max2T [.int _, .int _] = some _ | show min2T [.int _, .int _] = some _ | show absT [.int _] = some _ | show eqT (.int _) (.int _) = some _ | show neT (.int _) (.int _) = some _ | show T.bl _ = T.bl _)); exact rfl) | ((with_reducible (first | show isiT _ _ = some _ | show isT _ _ = some _ | show isNT _ _ = some _ | show isisT _ _ = some _)); first | exact (rfl : _ = some (T.bl true)) | exact (rfl : _ = some (T.bl false)) | exact rfl) | fail)
      | fail)
  refine ⟨fun _ => ?_, fun h => by simp [eqB] at h⟩
  refine WE_bin ?_
  refine WE_lc (fun _ => false) (fun t => t) ?_
  repeat' (first
      | with_reducible (first | refine WS_seq ?_ | refine WS_set ?_ | refine WS_ret ?_ | refine WS_if ?_ | refine WS_drop ?_ | refine WS_nx ?_ | refine WE_bin ?_ | refine WE_cons ?_ | refine WE_nil ?_ | refine WE_k ?_ | refine WE_app ?_ | refine WE_un ?_ | refine WE_B ?_ | refine WE_notC ?_ | refine WE_call ?_ | refine WE_callK ?_ | refine WE_lst ?_ | refine WE_tup ?_ | refine WE_chain ?_ | refine WE_andV ?_ | refine WE_orV ?_ | refine WE_notV ?_ | refine WE_andC ?_ | refine WE_orC ?_ | refine WE_if ?_ | refine WS_par2 ?_ | refine WS_par3 ?_ | refine WE_rg1 ?_ | refine WE_rg2 ?_ | refine WE_items ?_ | refine WE_enum ?_ | refine WE_zip ?_ | refine WE_revd ?_ | refine WE_callG ?_ | refine WS_put ?_ | refine WS_app ?_ | refine WE_pix ?_ | refine WE_sl ?_ | refine WE_p0 ?_ | refine WE_p1 ?_ | refine WE_true ?_ | refine WS_asg ?_) | ((with_reducible apply WE_var); (case h => exact rfl))
      | ((with_reducible refine And.intro ?_ ?_); (with_reducible first | exact ff1 | exact ff2 | exact ff3 | exact ff4 | exact ff5 | fail); (intro _))
      | ((with_reducible refine And.intro ?_ ?_); rotate_left; (with_reducible first | exact tt1 | exact tt2 | exact tt3 | exact tt4 | exact tt5 | fail); (intro _))
      | ((with_reducible apply Exists.intro); (with_reducible apply And.intro); first | ((with_reducible (first | show addT (.int _) (.int _) = some _ | show subT (.int _) (.int _) = some _ | show negT (.int _) = some _ | show ltT (.int _) (.int _) = some _ | show leT (.int _) (.int _) = some _ | show gtT (.int _) (.int _) = some _ | show geT (.int _) (.int _) = some _ | show intT [.int _] = some _ | show max2T [.int _, .int _] = some _ | show min2T [.int _, .int _] = some _ | show absT [.int _] = some _ | show eqT (.int _) (.int _) = some _ | show neT (.int _) (.int _) = some _ | show T.bl _ = T.bl _)); exact rfl) | ((with_reducible (first | show isiT _ _ = some _ | show isT _ _ = some _ | show isNT _ _ = some _ | show isisT _ _ = some _)); first | exact (rfl : _ = some (T.bl true)) | exact (rfl : _ = some (T.bl false)) | exact rfl) | fail)
      | fail)
  refine ⟨_, e1, ?_⟩
  repeat' (first
      | with_reducible (first | refine WS_seq ?_ | refine WS_set ?_ | refine WS_ret ?_ | refine WS_if ?_ | refine WS_drop ?_ | refine WS_nx ?_ | refine WE_bin ?_ | refine WE_cons ?_ | refine WE_nil ?_ | refine WE_k ?_ | refine WE_app ?_ | refine WE_un ?_ | refine WE_B ?_ | refine WE_notC ?_ | refine WE_call ?_ | refine WE_callK ?_ | refine WE_lst ?_ | refine WE_tup ?_ | refine WE_chain ?_ | refine WE_andV ?_ | refine WE_orV ?_ | refine WE_notV ?_ | refine WE_andC ?_ | refine WE_orC ?_ | refine WE_if ?_ | refine WS_par2 ?_ | refine WS_par3 ?_ | refine WE_rg1 ?_ | refine WE_rg2 ?_ | refine WE_items ?_ | refine WE_enum ?_ | refine WE_zip ?_ | refine WE_revd ?_ | refine WE_callG ?_ | refine WS_put ?_ | refine WS_app ?_ | refine WE_pix ?_ | refine WE_sl ?_ | refine WE_p0 ?_ | refine WE_p1 ?_ | refine WE_true ?_ | refine WS_asg ?_) | ((with_reducible apply WE_var); (case h => exact rfl))
      | ((with_reducible refine And.intro ?_ ?_); (with_reducible first | exact ff1 | exact ff2 | exact ff3 | exact ff4 | exact ff5 | fail); (intro _))
      | ((with_reducible refine And.intro ?_ ?_); rotate_left; (with_reducible first | exact tt1 | exact tt2 | exact tt3 | exact tt4 | exact tt5 | fail); (intro _))
      | ((with_reducible apply Exists.intro); (with_reducible apply And.intro); first | ((with_reducible (first | show addT (.int _) (.int _) = some _ | show subT (.int _) (.int _) = some _ | show negT (.int _) = some _ | show ltT (.int _) (.int _) = some _ | show leT (.int _) (.int _) = some _ | show gtT (.int _) (.int _) = some _ | show geT (.int _) (.int _) = some _ | show intT [.int _] = some _ | show max2T [.int _, .int _] = some _ | show min2T [.int _, .int _] = some _ | show absT [.int _] = some _ | show eqT (.int _) (.int _) = some _ | show neT (.int _) (.int _) = some _ | show T.bl _ = T.bl _)); exact rfl) | ((with_reducible (first | show isiT _ _ = some _ | show isT _ _ = some _ | show isNT _ _ = some _ | show isisT _ _ = some _)); first | exact (rfl : _ = some (T.bl true)) | exact (rfl : _ = some (T.bl false)) | exact rfl) | fail)
      | fail)
  refine ⟨_, rfl, lim62_of (by omega) (by omega), by unfold rangeT; rw [List.length_map, List.length_range]; omega, (fun k hk => by rw [List.mem_singleton.mp hk]; show 2 < 3; decide), fun u hu => ⟨_, rfl, ?_⟩, ?_⟩
  · unfold rangeT at hu
    obtain ⟨i, hi, rfl⟩ := List.mem_map.mp hu
    have hi := List.mem_range.mp hi
    have hx : xs[i]? = some xs[i] := List.getElem?_eq_getElem (by omega)
    rw [Int.zero_add]
    repeat' (first
      | with_reducible (first | refine WS_seq ?_ | refine WS_set ?_ | refine WS_ret ?_ | refine WS_if ?_ | refine WS_drop ?_ | refine WS_nx ?_ | refine WE_bin ?_ | refine WE_cons ?_ | refine WE_nil ?_ | refine WE_k ?_ | refine WE_app ?_ | refine WE_un ?_ | refine WE_B ?_ | refine WE_notC ?_ | refine WE_call ?_ | refine WE_callK ?_ | refine WE_lst ?_ | refine WE_tup ?_ | refine WE_chain ?_ | refine WE_andV ?_ | refine WE_orV ?_ | refine WE_notV ?_ | refine WE_andC ?_ | refine WE_orC ?_ | refine WE_if ?_ | refine WS_par2 ?_ | refine WS_par3 ?_ | refine WE_rg1 ?_ | refine WE_rg2 ?_ | refine WE_items ?_ | refine WE_enum ?_ | refine WE_zip ?_ | refine WE_revd ?_ | refine WE_callG ?_ | refine WS_put ?_ | refine WS_app ?_ | refine WE_pix ?_ | refine WE_sl ?_ | refine WE_p0 ?_ | refine WE_p1 ?_ | refine WE_true ?_ | refine WS_asg ?_) | ((with_reducible apply WE_var); (case h => exact rfl))
      | ((with_reducible refine And.intro ?_ ?_); (with_reducible first | exact ff1 | exact ff2 | exact ff3 | exact ff4 | exact ff5 | fail); (intro _))
      | ((with_reducible refine And.intro ?_ ?_); rotate_left; (with_reducible first | exact tt1 | exact tt2 | exact tt3 | exact tt4 | exact tt5 | fail); (intro _))
      | ((with_reducible apply Exists.intro); (with_reducible apply And.intro); first | ((with_reducible (first | show addT (.int _) (.int _) = some _ | show subT (.int _) (.int _) = some _ | show negT (.int _) = some _ | show ltT (.int _) (.int _) = some _ | show leT (.int _) (.int _) = some _ | show gtT (.int _) (.int _) = some _ | show geT (.int _) (.int _) = some _ | show intT [.int _] = some _ | show max2T [.int _, .int _] = some _ | show min2T [.int _, .int _] = some _ | show absT [.int _] = some _ | show eqT (.int _) (.int _) = some _ | show neT (.int _) (.int _) = some _ | show T.bl _ = T.bl _)); exact rfl) | ((with_reducible (first | show isiT _ _ = some _ | show isT _ _ = some _ | show isNT _ _ = some _ | show isisT _ _ = some _)); first | exact (rfl : _ = some (T.bl true)) | exact (rfl : _ = some (T.bl false)) | exact rfl) | fail)
      | fail)
    refine ⟨_, e2 i _ hx, ?_⟩
    repeat' (first
      | with_reducible (first | refine WS_seq ?_ | refine WS_set ?_ | refine WS_ret ?_ | refine WS_if ?_ | refine WS_drop ?_ | refine WS_nx ?_ | refine WE_bin ?_ | refine WE_cons ?_ | refine WE_nil ?_ | refine WE_k ?_ | refine WE_app ?_ | refine WE_un ?_ | refine WE_B ?_ | refine WE_notC ?_ | refine WE_call ?_ | refine WE_callK ?_ | refine WE_lst ?_ | refine WE_tup ?_ | refine WE_chain ?_ | refine WE_andV ?_ | refine WE_orV ?_ | refine WE_notV ?_ | refine WE_andC ?_ | refine WE_orC ?_ | refine WE_if ?_ | refine WS_par2 ?_ | refine WS_par3 ?_ | refine WE_rg1 ?_ | refine WE_rg2 ?_ | refine WE_items ?_ | refine WE_enum ?_ | refine WE_zip ?_ | refine WE_revd ?_ | refine WE_callG ?_ | refine WS_put ?_ | refine WS_app ?_ | refine WE_pix ?_ | refine WE_sl ?_ | refine WE_p0 ?_ | refine WE_p1 ?_ | refine WE_true ?_ | refine WS_asg ?_) | ((with_reducible apply WE_var); (case h => exact rfl))
      | ((with_reducible refine And.intro ?_ ?_); (with_reducible first | exact ff1 | exact ff2 | exact ff3 | exact ff4 | exact ff5 | fail); (intro _))
      | ((with_reducible refine And.intro ?_ ?_); rotate_left; (with_reducible first | exact tt1 | exact tt2 | exact tt3 | exact tt4 | exact tt5 | fail); (intro _))
      | ((with_reducible apply Exists.intro); (with_reducible apply And.intro); first | ((with_reducible (first | show addT (.int _) (.int _) = some _ | show subT (.int _) (.int _) = some _ | show negT (.int _) = some _ | show ltT (.int _) (.int _) = some _ | show leT (.int _) (.int _) = some _ | show gtT (.int _) (.int _) = some _ | show geT (.int _) (.int _) = some _ | show intT [.int _] = some _ | show max2T [.int _, .int _] = some _ | show min2T [.int _, .int _] = some _ | show absT [.int _] = some _ | show eqT (.int _) (.int _) = some _ | show neT (.int _) (.int _) = some _ | show T.bl _ = T.bl _)); exact rfl) | ((with_reducible (first | show isiT _ _ = some _ | show isT _ _ = some _ | show isNT _ _ = some _ | show isisT _ _ = some _)); first | exact (rfl : _ = some (T.bl true)) | exact (rfl : _ = some (T.bl false)) | exact rfl) | fail)
      | fail)
    refine ⟨_, e2 i _ hx, ?_⟩
    repeat' (first
      | with_reducible (first | refine WS_seq ?_ | refine WS_set ?_ | refine WS_ret ?_ | refine WS_if ?_ | refine WS_drop ?_ | refine WS_nx ?_ | refine WE_bin ?_ | refine WE_cons ?_ | refine WE_nil ?_ | refine WE_k ?_ | refine WE_app ?_ | refine WE_un ?_ | refine WE_B ?_ | refine WE_notC ?_ | refine WE_call ?_ | refine WE_callK ?_ | refine WE_lst ?_ | refine WE_tup ?_ | refine WE_chain ?_ | refine WE_andV ?_ | refine WE_orV ?_ | refine WE_notV ?_ | refine WE_andC ?_ | refine WE_orC ?_ | refine WE_if ?_ | refine WS_par2 ?_ | refine WS_par3 ?_ | refine WE_rg1 ?_ | refine WE_rg2 ?_ | refine WE_items ?_ | refine WE_enum ?_ | refine WE_zip ?_ | refine WE_revd ?_ | refine WE_callG ?_ | refine WS_put ?_ | refine WS_app ?_ | refine WE_pix ?_ | refine WE_sl ?_ | refine WE_p0 ?_ | refine WE_p1 ?_ | refine WE_true ?_ | refine WS_asg ?_) | ((with_reducible apply WE_var); (case h => exact rfl))
      | ((with_reducible refine And.intro ?_ ?_); (with_reducible first | exact ff1 | exact ff2 | exact ff3 | exact ff4 | exact ff5 | fail); (intro _))
      | ((with_reducible refine And.intro ?_ ?_); rotate_left; (with_reducible first | exact tt1 | exact tt2 | exact tt3 | exact tt4 | exact tt5 | fail); (intro _))
      | ((with_reducible apply Exists.intro); (with_reducible apply And.intro); first | ((with_reducible (first | show addT (.int _) (.int _) = some _ | show subT (.int _) (.int _) = some _ | show negT (.int _) = some _ | show ltT (.int _) (.int _) = some _ | show leT (.int _) (.int _) = some _ | show gtT (.int _) (.int _) = some _ | show geT (.int _) (.int _) = some _ | show intT [.int _] = some _ | show max2T [.int _, .int _] = some _ | show min2T [.int _, .int _] = some _ | show absT [.int _] = some _ | show eqT (.int _) (.int _) = some _ | show neT (.int _) (.int _) = some _ | show T.bl _ = T.bl _)); exact rfl) | ((with_reducible (first | show isiT _ _ = some _ | show isT _ _ = some _ | show isNT _ _ = some _ | show isisT _ _ = some _)); first | exact (rfl : _ = some (T.bl true)) | exact (rfl : _ = some (T.bl false)) | exact rfl) | fail)
      | fail)
    rw [ih _ (List.getElem_mem _)]
    exact ⟨true, rfl, rfl, fun _ => rfl, fun h => nomatch h⟩
  · have hf : ∀ l : List T, List.map (fun t => t) (List.filter (fun _ => false) l) = [] := fun l => by simp
    rw [hf]
    repeat' (first
      | with_reducible (first | refine WS_seq ?_ | refine WS_set ?_ | refine WS_ret ?_ | refine WS_if ?_ | refine WS_drop ?_ | refine WS_nx ?_ | refine WE_bin ?_ | refine WE_cons ?_ | refine WE_nil ?_ | refine WE_k ?_ | refine WE_app ?_ | refine WE_un ?_ | refine WE_B ?_ | refine WE_notC ?_ | refine WE_call ?_ | refine WE_callK ?_ | refine WE_lst ?_ | refine WE_tup ?_ | refine WE_chain ?_ | refine WE_andV ?_ | refine WE_orV ?_ | refine WE_notV ?_ | refine WE_andC ?_ | refine WE_orC ?_ | refine WE_if ?_ | refine WS_par2 ?_ | refine WS_par3 ?_ | refine WE_rg1 ?_ | refine WE_rg2 ?_ | refine WE_items ?_ | refine WE_enum ?_ | refine WE_zip ?_ | refine WE_revd ?_ | refine WE_callG ?_ | refine WS_put ?_ | refine WS_app ?_ | refine WE_pix ?_ | refine WE_sl ?_ | refine WE_p0 ?_ | refine WE_p1 ?_ | refine WE_true ?_ | refine WS_asg ?_) | ((with_reducible apply WE_var); (case h => exact rfl))
      | ((with_reducible refine And.intro ?_ ?_); (with_reducible first | exact ff1 | exact ff2 | exact ff3 | exact ff4 | exact ff5 | fail); (intro _))
      | ((with_reducible refine And.intro ?_ ?_); rotate_left; (with_reducible first | exact tt1 | exact tt2 | exact tt3 | exact tt4 | exact tt5 | fail); (intro _))
      | ((with_reducible apply Exists.intro); (with_reducible apply And.intro); first | ((with_reducible (first | show addT (.int _) (.int _) = some _ | show subT (.int _) (.int _) = some _ | show negT (.int _) = some _ | show ltT (.int _) (.int _) = some _ | show leT (.int _) (.int _) = some _ | show gtT (.int _) (.int _) = some _ | show geT (.int _) (.int _) = some _ | show intT [.int _] = some _ | show max2T [.int _, .int _] = some _ | show min2T [.int _, .int _] = some _ | show absT [.int _] = some _ | show eqT (.int _) (.int _) = some _ | show neT (.int _) (.int _) = some _ | show T.bl _ = T.bl _)); exact rfl) | ((with_reducible (first | show isiT _ _ = some _ | show isT _ _ = some _ | show isNT _ _ = some _ | show isisT _ _ = some _)); first | exact (rfl : _ = some (T.bl true)) | exact (rfl : _ = some (T.bl false)) | exact rfl) | fail)
      | fail)
    exact ⟨by show 0 ≤ LIM; decide, _, rfl, rfl, trivial⟩
theorem sameq_tup {xs : List T} {k : Nat} (hl : xs.length < 1000000) (ih : ∀ x ∈ xs, cm_law_same k [x, x] = .ok (.bl true) []) : cm_law_same (k + 1) [.tup xs, .tup xs] = .ok (.bl true) [] := by
  have hL : xs.length ≤ LIM := Nat.le_of_lt hl
  have e1 : lenT [.tup xs] = some (.int xs.length) := by simp only [lenT, hL, if_true]
  have e2 : ∀ i : Nat, ∀ x, xs[i]? = some x → ixT (.tup xs) (.int (i : Int)) = some x := fun i x hx => atI_nat hx
  refine WR.eq (WR_fn ?_)
  try simp only [List.map_cons, List.map_nil, List.cons_append, List.nil_append, List.length_cons, List.length_nil, Nat.zero_add, Nat.reduceAdd, Nat.reduceSub, Nat.sub_self, List.replicate_zero, List.replicate_succ, List.append_nil, List.set_cons_zero, List.set_cons_succ]
  repeat' (first
      | with_reducible (first | refine WS_seq ?_ | refine WS_set ?_ | refine WS_ret ?_ | refine WS_if ?_ | refine WS_drop ?_ | refine WS_nx ?_ | refine WE_bin ?_ | refine WE_cons ?_ | refine WE_nil ?_ | refine WE_k ?_ | refine WE_app ?_ | refine WE_un ?_ | refine WE_B ?_ | refine WE_notC ?_ | refine WE_call ?_ | refine WE_callK ?_ | refine WE_lst ?_ | refine WE_tup ?_ | refine WE_chain ?_ | refine WE_andV ?_ | refine WE_orV ?_ | refine WE_notV ?_ | refine WE_andC ?_ | refine WE_orC ?_ | refine WE_if ?_ | refine WS_par2 ?_ | refine WS_par3 ?_ | refine WE_rg1 ?_ | refine WE_rg2 ?_ | refine WE_items ?_ | refine WE_enum ?_ | refine WE_zip ?_ | refine WE_revd ?_ | refine WE_callG ?_ | refine WS_put ?_ | refine WS_app ?_ | refine WE_pix ?_ | refine WE_sl ?_ | refine WE_p0 ?_ | refine WE_p1 ?_ | refine WE_true ?_ | refine WS_asg ?_) | ((with_reducible apply WE_var); (case h => exact rfl))
      | ((with_reducible refine And.intro ?_ ?_); (with_reducible first | exact ff1 | exact ff2 | exact ff3 | exact ff4 | exact ff5 | fail); (intro _))
      | ((with_reducible refine And.intro ?_ ?_); rotate_left; (with_reducible first | exact tt1 | exact tt2 | exact tt3 | exact tt4 | exact tt5 | fail); (intro _))
      | ((with_reducible apply Exists.intro); (with_reducible apply And.intro); first | ((with_reducible (first | show addT (.int _) (.int _) = some _ | show subT (.int _) (.int _) = some _ | show negT (.int _) = some _ | show ltT (.int _) (.int _) = some _ | show leT (.int _) (.int _) = some _ | show gtT (.int _) (.int _) = some _ | show geT (.int _) (.int _) = some _ | show intT [.int _] = some _ | show max2T [.int _, .int _] = some _ | show min2T [.int _, .int _] = some _ | show absT [.int _] = some _ | show eqT (.int _) (.int _) = some _ | show neT (.int _) (.int _) = some _ | show T.bl _ = T.bl _)); exact rfl) | ((with_reducible (first | show isiT _ _ = some _ | show isT _ _ = some _ | show isNT _ _ = some _ | show isisT _ _ = some _)); first | exact (rfl : _ = some (T.bl true)) | exact (rfl : _ = some (T.bl false)) | exact rfl) | fail)
      | fail)
  refine ⟨_, e1, ?_⟩
  repeat' (first
      | with_reducible (first | refine WS_seq ?_ | refine WS_set ?_ | refine WS_ret ?_ | refine WS_if ?_ | refine WS_drop ?_ | refine WS_nx ?_ | refine WE_bin ?_ | refine WE_cons ?_ | refine WE_nil ?_ | refine WE_k ?_ | refine WE_app ?_ | refine WE_un ?_ | refine WE_B ?_ | refine WE_notC ?_ | refine WE_call ?_ | refine WE_callK ?_ | refine WE_lst ?_ | refine WE_tup ?_ | refine WE_chain ?_ | refine WE_andV ?_ | refine WE_orV ?_ | refine WE_notV ?_ | refine WE_andC ?_ | refine WE_orC ?_ | refine WE_if ?_ | refine WS_par2 ?_ | refine WS_par3 ?_ | refine WE_rg1 ?_ | refine WE_rg2 ?_ | refine WE_items ?_ | refine WE_enum ?_ | refine WE_zip ?_ | refine WE_revd ?_ | refine WE_callG ?_ | refine WS_put ?_ | refine WS_app ?_ | refine WE_pix ?_ | refine WE_sl ?_ | refine WE_p0 ?_ | refine WE_p1 ?_ | refine WE_true ?_ | refine WS_asg ?_) | ((with_reducible apply WE_var); (case h => exact rfl))
      | ((with_reducible refine And.intro ?_ ?_); (with_reducible first | exact ff1 | exact ff2 | exact ff3 | exact ff4 | exact ff5 | fail); (intro _))
      | ((with_reducible refine And.intro ?_ ?_); rotate_left; (with_reducible first | exact tt1 | exact tt2 | exact tt3 | exact tt4 | exact tt5 | fail); (intro _))
      | ((with_reducible apply Exists.intro); (with_reducible apply And.intro); first | ((with_reducible (first | show addT (.int _) (.int _) = some _ | show subT (.int _) (.int _) = some _ | show negT (.int _) = some _ | show ltT (.int _) (.int _) = some _ | show leT (.int _) (.int _) = some _ | show gtT (.int _) (.int _) = some _ | show geT (.int _) (.int _) = some _ | show intT [.int _] = some _ | show max2T [.int _, .int _] = some _ | show min2T [.int _, .int _] = some _ | show absT [.int _] = some _ | show eqT (.int _) (.int _) = some _ | show neT (.int _) (.int _) = some _ | show T.bl _ = T.bl _)); exact rfl) | ((with_reducible (first | show isiT _ _ = some _ | show isT _ _ = some _ | show isNT _ _ = some _ | show isisT _ _ = some _)); first | exact (rfl : _ = some (T.bl true)) | exact (rfl : _ = some (T.bl false)) | exact rfl) | fail)
      | fail)
  refine ⟨_, e1, ?_⟩
  repeat' (first
      | with_reducible (first | refine WS_seq ?_ | refine WS_set ?_ | refine WS_ret ?_ | refine WS_if ?_ | refine WS_drop ?_ | refine WS_nx ?_ | refine WE_bin ?_ | refine WE_cons ?_ | refine WE_nil ?_ | refine WE_k ?_ | refine WE_app ?_ | refine WE_un ?_ | refine WE_B ?_ | refine WE_notC ?_ | refine WE_call ?_ | refine WE_callK ?_ | refine WE_lst ?_ | refine WE_tup ?_ | refine WE_chain ?_ | refine WE_andV ?_ | refine WE_orV ?_ | refine WE_notV ?_ | refine WE_andC ?_ | refine WE_orC ?_ | refine WE_if ?_ | refine WS_par2 ?_ | refine WS_par3 ?_ | refine WE_rg1 ?_ | refine WE_rg2 ?_ | refine WE_items ?_ | refine WE_enum ?_ | refine WE_zip ?_ | refine WE_revd ?_ | refine WE_callG ?_ | refine WS_put ?_ | refine WS_app ?_ | refine WE_pix ?_ | refine WE_sl ?_ | refine WE_p0 ?_ | refine WE_p1 ?_ | refine WE_true ?_ | refine WS_asg ?_) | ((with_reducible apply WE_var); (case h => exact rfl))
      | ((with_reducible refine And.intro ?_ ?_); (with_reducible first | exact ff1 | exact ff2 | exact ff3 | exact ff4 | exact ff5 | fail); (intro _))
      | ((with_reducible refine And.intro ?_ ?_); rotate_left; (with_reducible first | exact tt1 | exact tt2 | exact tt3 | exact tt4 | exact tt5 | fail); (intro _))
      | ((with_reducible apply Exists.intro); (with_reducible apply And.intro); first | ((with_reducible (first | show addT (.int _) (.int _) = some _ | show subT (.int _) (.int _) = some _ | show negT (.int _) = some _ | show ltT (.int _) (.int _) = some _ | show leT (.int _) (.int _) = some _ | show gtT (.int _) (.int _) = some _ | show geT (.int _) (.int _) = some _ | show intT [.int _] = some _ | show max2T [.int _, .int _] = some _ | show min2T [.int _, .int _] = some _ | show absT [.int _] = some _ | show eqT (.int _) (.int _) = some _ | show neT (.int _) (.int _) = some _ | show T.bl _ = T.bl _)); exact rfl) | ((with_reducible (first | show isiT _ _ = some _ | show isT _ _ = some _ | show isNT _ _ = some _ | show isisT _ _ = some _)); first | exact (rfl : _ = some (T.bl true)) | exact (rfl : _ = some (T.bl false)) | exact rfl) | fail)
      | fail)
  refine ⟨fun _ => ?_, fun h => by simp [eqB] at h⟩
  refine WE_bin ?_
  refine WE_lc (fun _ => false) (fun t => t) ?_
  repeat' (first
      | with_reducible (first | refine WS_seq ?_ | refine WS_set ?_ | refine WS_ret ?_ | refine WS_if ?_ | refine WS_drop ?_ | refine WS_nx ?_ | refine WE_bin ?_ | refine WE_cons ?_ | refine WE_nil ?_ | refine WE_k ?_ | refine WE_app ?_ | refine WE_un ?_ | refine WE_B ?_ | refine WE_notC ?_ | refine WE_call ?_ | refine WE_callK ?_ | refine WE_lst ?_ | refine WE_tup ?_ | refine WE_chain ?_ | refine WE_andV ?_ | refine WE_orV ?_ | refine WE_notV ?_ | refine WE_andC ?_ | refine WE_orC ?_ | refine WE_if ?_ | refine WS_par2 ?_ | refine WS_par3 ?_ | refine WE_rg1 ?_ | refine WE_rg2 ?_ | refine WE_items ?_ | refine WE_enum ?_ | refine WE_zip ?_ | refine WE_revd ?_ | refine WE_callG ?_ | refine WS_put ?_ | refine WS_app ?_ | refine WE_pix ?_ | refine WE_sl ?_ | refine WE_p0 ?_ | refine WE_p1 ?_ | refine WE_true ?_ | refine WS_asg ?_) | ((with_reducible apply WE_var); (case h => exact rfl))
      | ((with_reducible refine And.intro ?_ ?_); (with_reducible first | exact ff1 | exact ff2 | exact ff3 | exact ff4 | exact ff5 | fail); (intro _))
      | ((with_reducible refine And.intro ?_ ?_); rotate_left; (with_reducible first | exact tt1 | exact tt2 | exact tt3 | exact tt4 | exact tt5 | fail); (intro _))
      | ((with_reducible apply Exists.intro); (with_reducible apply And.intro); first | ((with_reducible (first | show addT (.int _) (.int _) = some _ | show subT (.int _) (.int _) = some _ | show negT (.int _) = some _ | show ltT (.int _) (.int _) = some _ | show leT (.int _) (.int _) = some _ | show gtT (.int _) (.int _) = some _ | show geT (.int _) (.int _) = some _ | show intT [.int _] = some _ | show max2T [.int _, .int _] = some _ | show min2T [.int _, .int _] = some _ | show absT [.int _] = some _ | show eqT (.int _) (.int _) = some _ | show neT (.int _) (.int _) = some _ | show T.bl _ = T.bl _)); exact rfl) | ((with_reducible (first | show isiT _ _ = some _ | show isT _ _ = some _ | show isNT _ _ = some _ | show isisT _ _ = some _)); first | exact (rfl : _ = some (T.bl true)) | exact (rfl : _ = some (T.bl false)) | exact rfl) | fail)
      | fail)
  refine ⟨_, e1, ?_⟩
  repeat' (first
      | with_reducible (first | refine WS_seq ?_ | refine WS_set ?_ | refine WS_ret ?_ | refine WS_if ?_ | refine WS_drop ?_ | refine WS_nx ?_ | refine WE_bin ?_ | refine WE_cons ?_ | refine WE_nil ?_ | refine WE_k ?_ | refine WE_app ?_ | refine WE_un ?_ | refine WE_B ?_ | refine WE_notC ?_ | refine WE_call ?_ | refine WE_callK ?_ | refine WE_lst ?_ | refine WE_tup ?_ | refine WE_chain ?_ | refine WE_andV ?_ | refine WE_orV ?_ | refine WE_notV ?_ | refine WE_andC ?_ | refine WE_orC ?_ | refine WE_if ?_ | refine WS_par2 ?_ | refine WS_par3 ?_ | refine WE_rg1 ?_ | refine WE_rg2 ?_ | refine WE_items ?_ | refine WE_enum ?_ | refine WE_zip ?_ | refine WE_revd ?_ | refine WE_callG ?_ | refine WS_put ?_ | refine WS_app ?_ | refine WE_pix ?_ | refine WE_sl ?_ | refine WE_p0 ?_ | refine WE_p1 ?_ | refine WE_true ?_ | refine WS_asg ?_) | ((with_reducible apply WE_var); (case h => exact rfl))
      | ((with_reducible refine And.intro ?_ ?_); (with_reducible first | exact ff1 | exact ff2 | exact ff3 | exact ff4 | exact ff5 | fail); (intro _))
      | ((with_reducible refine And.intro ?_ ?_); rotate_left; (with_reducible first | exact tt1 | exact tt2 | exact tt3 | exact tt4 | exact tt5 | fail); (intro _))
      | ((with_reducible apply Exists.intro); (with_reducible apply And.intro); first | ((with_reducible (first | show addT (.int _) (.int _) = some _ | show subT (.int _) (.int _) = some _ | show negT (.int _) = some _ | show ltT (.int _) (.int _) = some _ | show leT (.int _) (.int _) = some _ | show gtT (.int _) (.int _) = some _ | show geT (.int _) (.int _) = some _ | show intT [.int _] = some _ | show max2T [.int _, .int _] = some _ | show min2T [.int _, .int _] = some _ | show absT [.int _] = some _ | show eqT (.int _) (.int _) = some _ | show neT (.int _) (.int _) = some _ | show T.bl _ = T.bl _)); exact rfl) | ((with_reducible (first | show isiT _ _ = some _ | show isT _ _ = some _ | show isNT _ _ = some _ | show isisT _ _ = some _)); first | exact (rfl : _ = some (T.bl true)) | exact (rfl : _ = some (T.bl false)) | exact rfl) | fail)
      | fail)
  refine ⟨_, rfl, lim62_of (by omega) (by omega), by unfold rangeT; rw [List.length_map, List.length_range]; omega, (fun k hk => by rw [List.mem_singleton.mp hk]; show 2 < 3; decide), fun u hu => ⟨_, rfl, ?_⟩, ?_⟩
  · unfold rangeT at hu
    obtain ⟨i, hi, rfl⟩ := List.mem_map.mp hu
    have hi := List.mem_range.mp hi
    have hx : xs[i]? = some xs[i] := List.getElem?_eq_getElem (by omega)
    rw [Int.zero_add]
    repeat' (first
      | with_reducible (first | refine WS_seq ?_ | refine WS_set ?_ | refine WS_ret ?_ | refine WS_if ?_ | refine WS_drop ?_ | refine WS_nx ?_ | refine WE_bin ?_ | refine WE_cons ?_ | refine WE_nil ?_ | refine WE_k ?_ | refine WE_app ?_ | refine WE_un ?_ | refine WE_B ?_ | refine WE_notC ?_ | refine WE_call ?_ | refine WE_callK ?_ | refine WE_lst ?_ | refine WE_tup ?_ | refine WE_chain ?_ | refine WE_andV ?_ | refine WE_orV ?_ | refine WE_notV ?_ | refine WE_andC ?_ | refine WE_orC ?_ | refine WE_if ?_ | refine WS_par2 ?_ | refine WS_par3 ?_ | refine WE_rg1 ?_ | refine WE_rg2 ?_ | refine WE_items ?_ | refine WE_enum ?_ | refine WE_zip ?_ | refine WE_revd ?_ | refine WE_callG ?_ | refine WS_put ?_ | refine WS_app ?_ | refine WE_pix ?_ | refine WE_sl ?_ | refine WE_p0 ?_ | refine WE_p1 ?_ | refine WE_true ?_ | refine WS_asg ?_) | ((with_reducible apply WE_var); (case h => exact rfl))
      | ((with_reducible refine And.intro ?_ ?_); (with_reducible first | exact ff1 | exact ff2 | exact ff3 | exact ff4 | exact ff5 | fail); (intro _))
      | ((with_reducible refine And.intro ?_ ?_); rotate_left; (with_reducible first | exact tt1 | exact tt2 | exact tt3 | exact tt4 | exact tt5 | fail); (intro _))
      | ((with_reducible apply Exists.intro); (with_reducible apply And.intro); first | ((with_reducible (first | show addT (.int _) (.int _) = some _ | show subT (.int _) (.int _) = some _ | show negT (.int _) = some _ | show ltT (.int _) (.int _) = some _ | show leT (.int _) (.int _) = some _ | show gtT (.int _) (.int _) = some _ | show geT (.int _) (.int _) = some _ | show intT [.int _] = some _ | show max2T [.int _, .int _] = some _ | show min2T [.int _, .int _] = some _ | show absT [.int _] = some _ | show eqT (.int _) (.int _) = some _ | show neT (.int _) (.int _) = some _ | show T.bl _ = T.bl _)); exact rfl) | ((with_reducible (first | show isiT _ _ = some _ | show isT _ _ = some _ | show isNT _ _ = some _ | show isisT _ _ = some _)); first | exact (rfl : _ = some (T.bl true)) | exact (rfl : _ = some (T.bl false)) | exact rfl) | fail)
      | fail)
    refine ⟨_, e2 i _ hx, ?_⟩
    repeat' (first
      | with_reducible (first | refine WS_seq ?_ | refine WS_set ?_ | refine WS_ret ?_ | refine WS_if ?_ | refine WS_drop ?_ | refine WS_nx ?_ | refine WE_bin ?_ | refine WE_cons ?_ | refine WE_nil ?_ | refine WE_k ?_ | refine WE_app ?_ | refine WE_un ?_ | refine WE_B ?_ | refine WE_notC ?_ | refine WE_call ?_ | refine WE_callK ?_ | refine WE_lst ?_ | refine WE_tup ?_ | refine WE_chain ?_ | refine WE_andV ?_ | refine WE_orV ?_ | refine WE_notV ?_ | refine WE_andC ?_ | refine WE_orC ?_ | refine WE_if ?_ | refine WS_par2 ?_ | refine WS_par3 ?_ | refine WE_rg1 ?_ | refine WE_rg2 ?_ | refine WE_items ?_ | refine WE_enum ?_ | refine WE_zip ?_ | refine WE_revd ?_ | refine WE_callG ?_ | refine WS_put ?_ | refine WS_app ?_ | refine WE_pix ?_ | refine WE_sl ?_ | refine WE_p0 ?_ | refine WE_p1 ?_ | refine WE_true ?_ | refine WS_asg ?_) | ((with_reducible apply WE_var); (case h => exact rfl))
      | ((with_reducible refine And.intro ?_ ?_); (with_reducible first | exact ff1 | exact ff2 | exact ff3 | exact ff4 | exact ff5 | fail); (intro _))
      | ((with_reducible refine And.intro ?_ ?_); rotate_left; (with_reducible first | exact tt1 | exact tt2 | exact tt3 | exact tt4 | exact tt5 | fail); (intro _))
      | ((with_reducible apply Exists.intro); (with_reducible apply And.intro); first | ((with_reducible (first | show addT (.int _) (.int _) = some _ | show subT (.int _) (.int _) = some _ | show negT (.int _) = some _ | show ltT (.int _) (.int _) = some _ | show leT (.int _) (.int _) = some _ | show gtT (.int _) (.int _) = some _ | show geT (.int _) (.int _) = some _ | show intT [.int _] = some _ | show max2T [.int _, .int _] = some _ | show min2T [.int _, .int _] = some _ | show absT [.int _] = some _ | show eqT (.int _) (.int _) = some _ | show neT (.int _) (.int _) = some _ | show T.bl _ = T.bl _)); exact rfl) | ((with_reducible (first | show isiT _ _ = some _ | show isT _ _ = some _ | show isNT _ _ = some _ | show isisT _ _ = some _)); first | exact (rfl : _ = some (T.bl true)) | exact (rfl : _ = some (T.bl false)) | exact rfl) | fail)
      | fail)
    refine ⟨_, e2 i _ hx, ?_⟩
    repeat' (first
      | with_reducible (first | refine WS_seq ?_ | refine WS_set ?_ | refine WS_ret ?_ | refine WS_if ?_ | refine WS_drop ?_ | refine WS_nx ?_ | refine WE_bin ?_ | refine WE_cons ?_ | refine WE_nil ?_ | refine WE_k ?_ | refine WE_app ?_ | refine WE_un ?_ | refine WE_B ?_ | refine WE_notC ?_ | refine WE_call ?_ | refine WE_callK ?_ | refine WE_lst ?_ | refine WE_tup ?_ | refine WE_chain ?_ | refine WE_andV ?_ | refine WE_orV ?_ | refine WE_notV ?_ | refine WE_andC ?_ | refine WE_orC ?_ | refine WE_if ?_ | refine WS_par2 ?_ | refine WS_par3 ?_ | refine WE_rg1 ?_ | refine WE_rg2 ?_ | refine WE_items ?_ | refine WE_enum ?_ | refine WE_zip ?_ | refine WE_revd ?_ | refine WE_callG ?_ | refine WS_put ?_ | refine WS_app ?_ | refine WE_pix ?_ | refine WE_sl ?_ | refine WE_p0 ?_ | refine WE_p1 ?_ | refine WE_true ?_ | refine WS_asg ?_) | ((with_reducible apply WE_var); (case h => exact rfl))
      | ((with_reducible refine And.intro ?_ ?_); (with_reducible first | exact ff1 | exact ff2 | exact ff3 | exact ff4 | exact ff5 | fail); (intro _))
      | ((with_reducible refine And.intro ?_ ?_); rotate_left; (with_reducible first | exact tt1 | exact tt2 | exact tt3 | exact tt4 | exact tt5 | fail); (intro _))
      | ((with_reducible apply Exists.intro); (with_reducible apply And.intro); first | ((with_reducible (first | show addT (.int _) (.int _) = some _ | show subT (.int _) (.int _) = some _ | show negT (.int _) = some _ | show ltT (.int _) (.int _) = some _ | show leT (.int _) (.int _) = some _ | show gtT (.int _) (.int _) = some _ | show geT (.int _) (.int _) = some _ | show intT [.int _] = some _ | show max2T [.int _, .int _] = some _ | show min2T [.int _, .int _] = some _ | show absT [.int _] = some _ | show eqT (.int _) (.int _) = some _ | show neT (.int _) (.int _) = some _ | show T.bl _ = T.bl _)); exact rfl) | ((with_reducible (first | show isiT _ _ = some _ | show isT _ _ = some _ | show isNT _ _ = some _ | show isisT _ _ = some _)); first | exact (rfl : _ = some (T.bl true)) | exact (rfl : _ = some (T.bl false)) | exact rfl) | fail)
      | fail)
    rw [ih _ (List.getElem_mem _)]
    exact ⟨true, rfl, rfl, fun _ => rfl, fun h => nomatch h⟩
  · have hf : ∀ l : List T, List.map (fun t => t) (List.filter (fun _ => false) l) = [] := fun l => by simp
    rw [hf]
    repeat' (first
      | with_reducible (first | refine WS_seq ?_ | refine WS_set ?_ | refine WS_ret ?_ | refine WS_if ?_ | refine WS_drop ?_ | refine WS_nx ?_ | refine WE_bin ?_ | refine WE_cons ?_ | refine WE_nil ?_ | refine WE_k ?_ | refine WE_app ?_ | refine WE_un ?_ | refine WE_B ?_ | refine WE_notC ?_ | refine WE_call ?_ | refine WE_callK ?_ | refine WE_lst ?_ | refine WE_tup ?_ | refine WE_chain ?_ | refine WE_andV ?_ | refine WE_orV ?_ | refine WE_notV ?_ | refine WE_andC ?_ | refine WE_orC ?_ | refine WE_if ?_ | refine WS_par2 ?_ | refine WS_par3 ?_ | refine WE_rg1 ?_ | refine WE_rg2 ?_ | refine WE_items ?_ | refine WE_enum ?_ | refine WE_zip ?_ | refine WE_revd ?_ | refine WE_callG ?_ | refine WS_put ?_ | refine WS_app ?_ | refine WE_pix ?_ | refine WE_sl ?_ | refine WE_p0 ?_ | refine WE_p1 ?_ | refine WE_true ?_ | refine WS_asg ?_) | ((with_reducible apply WE_var); (case h => exact rfl))
      | ((with_reducible refine And.intro ?_ ?_); (with_reducible first | exact ff1 | exact ff2 | exact ff3 | exact ff4 | exact ff5 | fail); (intro _))
      | ((with_reducible refine And.intro ?_ ?_); rotate_left; (with_reducible first | exact tt1 | exact tt2 | exact tt3 | exact tt4 | exact tt5 | fail); (intro _))
      | ((with_reducible apply Exists.intro); (with_reducible apply And.intro); first | ((with_reducible (first | show addT (.int _) (.int _) = some _ | show subT (.int _) (.int _) = some _ | show negT (.int _) = some _ | show ltT (.int _) (.int _) = some _ | show leT (.int _) (.int _) = some _ | show gtT (.int _) (.int _) = some _ | show geT (.int _) (.int _) = some _ | show intT [.int _] = some _ | show max2T [.int _, .int _] = some _ | show min2T [.int _, .int _] = some _ | show absT [.int _] = some _ | show eqT (.int _) (.int _) = some _ | show neT (.int _) (.int _) = some _ | show T.bl _ = T.bl _)); exact rfl) | ((with_reducible (first | show isiT _ _ = some _ | show isT _ _ = some _ | show isNT _ _ = some _ | show isisT _ _ = some _)); first | exact (rfl : _ = some (T.bl true)) | exact (rfl : _ = some (T.bl false)) | exact rfl) | fail)
      | fail)
    exact ⟨by show 0 ≤ LIM; decide, _, rfl, rfl, trivial⟩
theorem same_refl : ∀ (n : Nat) (t : T), pl n t = true → cm_law_same (n + 1) [t, t] = .ok (.bl true) []
  | n, .non, _ => by
    refine WR.eq (WR_fn ?_)
    try simp only [List.map_cons, List.map_nil, List.cons_append, List.nil_append, List.length_cons, List.length_nil, Nat.zero_add, Nat.reduceAdd, Nat.reduceSub, Nat.sub_self, List.replicate_zero, List.replicate_succ, List.append_nil, List.set_cons_zero, List.set_cons_succ]
    repeat' (first
      | with_reducible (first | refine WS_seq ?_ | refine WS_set ?_ | refine WS_ret ?_ | refine WS_if ?_ | refine WS_drop ?_ | refine WS_nx ?_ | refine WE_bin ?_ | refine WE_cons ?_ | refine WE_nil ?_ | refine WE_k ?_ | refine WE_app ?_ | refine WE_un ?_ | refine WE_B ?_ | refine WE_notC ?_ | refine WE_call ?_ | refine WE_callK ?_ | refine WE_lst ?_ | refine WE_tup ?_ | refine WE_chain ?_ | refine WE_andV ?_ | refine WE_orV ?_ | refine WE_notV ?_ | refine WE_andC ?_ | refine WE_orC ?_ | refine WE_if ?_ | refine WS_par2 ?_ | refine WS_par3 ?_ | refine WE_rg1 ?_ | refine WE_rg2 ?_ | refine WE_items ?_ | refine WE_enum ?_ | refine WE_zip ?_ | refine WE_revd ?_ | refine WE_callG ?_ | refine WS_put ?_ | refine WS_app ?_ | refine WE_pix ?_ | refine WE_sl ?_ | refine WE_p0 ?_ | refine WE_p1 ?_ | refine WE_true ?_ | refine WS_asg ?_) | ((with_reducible apply WE_var); (case h => exact rfl))
      | ((with_reducible refine And.intro ?_ ?_); (with_reducible first | exact ff1 | exact ff2 | exact ff3 | exact ff4 | exact ff5 | fail); (intro _))
      | ((with_reducible refine And.intro ?_ ?_); rotate_left; (with_reducible first | exact tt1 | exact tt2 | exact tt3 | exact tt4 | exact tt5 | fail); (intro _))
      | ((with_reducible apply Exists.intro); (with_reducible apply And.intro); first | ((with_reducible (first | show addT (.int _) (.int _) = some _ | show subT (.int _) (.int _) = some _ | show negT (.int _) = some _ | show ltT (.int _) (.int _) = some _ | show leT (.int _) (.int _) = some _ | show gtT (.int _) (.int _) = some _ | show geT (.int _) (.int _) = some _ | show intT [.int _] = some _ | show max2T [.int _, .int _] = some _ | show min2T [.int _, .int _] = some _ | show absT [.int _] = some _ | show eqT (.int _) (.int _) = some _ | show neT (.int _) (.int _) = some _ | show T.bl _ = T.bl _)); exact rfl) | ((with_reducible (first | show isiT _ _ = some _ | show isT _ _ = some _ | show isNT _ _ = some _ | show isisT _ _ = some _)); first | exact (rfl : _ = some (T.bl true)) | exact (rfl : _ = some (T.bl false)) | exact rfl) | fail)
      | fail)
    exact ⟨rfl, trivial⟩
  | n, .bl b, _ => by
    refine WR.eq (WR_fn ?_)
    try simp only [List.map_cons, List.map_nil, List.cons_append, List.nil_append, List.length_cons, List.length_nil, Nat.zero_add, Nat.reduceAdd, Nat.reduceSub, Nat.sub_self, List.replicate_zero, List.replicate_succ, List.append_nil, List.set_cons_zero, List.set_cons_succ]
    cases b
    · repeat' (first
      | with_reducible (first | refine WS_seq ?_ | refine WS_set ?_ | refine WS_ret ?_ | refine WS_if ?_ | refine WS_drop ?_ | refine WS_nx ?_ | refine WE_bin ?_ | refine WE_cons ?_ | refine WE_nil ?_ | refine WE_k ?_ | refine WE_app ?_ | refine WE_un ?_ | refine WE_B ?_ | refine WE_notC ?_ | refine WE_call ?_ | refine WE_callK ?_ | refine WE_lst ?_ | refine WE_tup ?_ | refine WE_chain ?_ | refine WE_andV ?_ | refine WE_orV ?_ | refine WE_notV ?_ | refine WE_andC ?_ | refine WE_orC ?_ | refine WE_if ?_ | refine WS_par2 ?_ | refine WS_par3 ?_ | refine WE_rg1 ?_ | refine WE_rg2 ?_ | refine WE_items ?_ | refine WE_enum ?_ | refine WE_zip ?_ | refine WE_revd ?_ | refine WE_callG ?_ | refine WS_put ?_ | refine WS_app ?_ | refine WE_pix ?_ | refine WE_sl ?_ | refine WE_p0 ?_ | refine WE_p1 ?_ | refine WE_true ?_ | refine WS_asg ?_) | ((with_reducible apply WE_var); (case h => exact rfl))
      | ((with_reducible refine And.intro ?_ ?_); (with_reducible first | exact ff1 | exact ff2 | exact ff3 | exact ff4 | exact ff5 | fail); (intro _))
      | ((with_reducible refine And.intro ?_ ?_); rotate_left; (with_reducible first | exact tt1 | exact tt2 | exact tt3 | exact tt4 | exact tt5 | fail); (intro _))
      | ((with_reducible apply Exists.intro); (with_reducible apply And.intro); first | ((with_reducible (first | show addT (.int _) (.int _) = some _ | show subT (.int _) (.int _) = some _ | show negT (.int _) = some _ | show ltT (.int _) (.int _) = some _ | show leT (.int _) (.int _) = some _ | show gtT (.int _) (.int _) = some _ | show geT (.int _) (.int _) = some _ | show intT [.int _] = some _ | show max2T [.int _, .int _] = some _ | show min2T [.int _, .int _] = some _ | show absT [.int _] = some _ | show eqT (.int _) (.int _) = some _ | show neT (.int _) (.int _) = some _ | show T.bl _ = T.bl _)); exact rfl) | ((with_reducible (first | show isiT _ _ = some _ | show isT _ _ = some _ | show isNT _ _ = some _ | show isisT _ _ = some _)); first | exact (rfl : _ = some (T.bl true)) | exact (rfl : _ = some (T.bl false)) | exact rfl) | fail)
      | fail)
      exact ⟨rfl, trivial⟩
    · repeat' (first
      | with_reducible (first | refine WS_seq ?_ | refine WS_set ?_ | refine WS_ret ?_ | refine WS_if ?_ | refine WS_drop ?_ | refine WS_nx ?_ | refine WE_bin ?_ | refine WE_cons ?_ | refine WE_nil ?_ | refine WE_k ?_ | refine WE_app ?_ | refine WE_un ?_ | refine WE_B ?_ | refine WE_notC ?_ | refine WE_call ?_ | refine WE_callK ?_ | refine WE_lst ?_ | refine WE_tup ?_ | refine WE_chain ?_ | refine WE_andV ?_ | refine WE_orV ?_ | refine WE_notV ?_ | refine WE_andC ?_ | refine WE_orC ?_ | refine WE_if ?_ | refine WS_par2 ?_ | refine WS_par3 ?_ | refine WE_rg1 ?_ | refine WE_rg2 ?_ | refine WE_items ?_ | refine WE_enum ?_ | refine WE_zip ?_ | refine WE_revd ?_ | refine WE_callG ?_ | refine WS_put ?_ | refine WS_app ?_ | refine WE_pix ?_ | refine WE_sl ?_ | refine WE_p0 ?_ | refine WE_p1 ?_ | refine WE_true ?_ | refine WS_asg ?_) | ((with_reducible apply WE_var); (case h => exact rfl))
      | ((with_reducible refine And.intro ?_ ?_); (with_reducible first | exact ff1 | exact ff2 | exact ff3 | exact ff4 | exact ff5 | fail); (intro _))
      | ((with_reducible refine And.intro ?_ ?_); rotate_left; (with_reducible first | exact tt1 | exact tt2 | exact tt3 | exact tt4 | exact tt5 | fail); (intro _))
      | ((with_reducible apply Exists.intro); (with_reducible apply And.intro); first | ((with_reducible (first | show addT (.int _) (.int _) = some _ | show subT (.int _) (.int _) = some _ | show negT (.int _) = some _ | show ltT (.int _) (.int _) = some _ | show leT (.int _) (.int _) = some _ | show gtT (.int _) (.int _) = some _ | show geT (.int _) (.int _) = some _ | show intT [.int _] = some _ | show max2T [.int _, .int _] = some _ | show min2T [.int _, .int _] = some _ | show absT [.int _] = some _ | show eqT (.int _) (.int _) = some _ | show neT (.int _) (.int _) = some _ | show T.bl _ = T.bl _)); exact rfl) | ((with_reducible (first | show isiT _ _ = some _ | show isT _ _ = some _ | show isNT _ _ = some _ | show isisT _ _ = some _)); first | exact (rfl : _ = some (T.bl true)) | exact (rfl : _ = some (T.bl false)) | exact rfl) | fail)
      | fail)
      exact ⟨rfl, trivial⟩
  | n, .int i, _ => by
    refine WR.eq (WR_fn ?_)
    try simp only [List.map_cons, List.map_nil, List.cons_append, List.nil_append, List.length_cons, List.length_nil, Nat.zero_add, Nat.reduceAdd, Nat.reduceSub, Nat.sub_self, List.replicate_zero, List.replicate_succ, List.append_nil, List.set_cons_zero, List.set_cons_succ]
    repeat' (first
      | with_reducible (first | refine WS_seq ?_ | refine WS_set ?_ | refine WS_ret ?_ | refine WS_if ?_ | refine WS_drop ?_ | refine WS_nx ?_ | refine WE_bin ?_ | refine WE_cons ?_ | refine WE_nil ?_ | refine WE_k ?_ | refine WE_app ?_ | refine WE_un ?_ | refine WE_B ?_ | refine WE_notC ?_ | refine WE_call ?_ | refine WE_callK ?_ | refine WE_lst ?_ | refine WE_tup ?_ | refine WE_chain ?_ | refine WE_andV ?_ | refine WE_orV ?_ | refine WE_notV ?_ | refine WE_andC ?_ | refine WE_orC ?_ | refine WE_if ?_ | refine WS_par2 ?_ | refine WS_par3 ?_ | refine WE_rg1 ?_ | refine WE_rg2 ?_ | refine WE_items ?_ | refine WE_enum ?_ | refine WE_zip ?_ | refine WE_revd ?_ | refine WE_callG ?_ | refine WS_put ?_ | refine WS_app ?_ | refine WE_pix ?_ | refine WE_sl ?_ | refine WE_p0 ?_ | refine WE_p1 ?_ | refine WE_true ?_ | refine WS_asg ?_) | ((with_reducible apply WE_var); (case h => exact rfl))
      | ((with_reducible refine And.intro ?_ ?_); (with_reducible first | exact ff1 | exact ff2 | exact ff3 | exact ff4 | exact ff5 | fail); (intro _))
      | ((with_reducible refine And.intro ?_ ?_); rotate_left; (with_reducible first | exact tt1 | exact tt2 | exact tt3 | exact tt4 | exact tt5 | fail); (intro _))
      | ((with_reducible apply Exists.intro); (with_reducible apply And.intro); first | ((with_reducible (first | show addT (.int _) (.int _) = some _ | show subT (.int _) (.int _) = some _ | show negT (.int _) = some _ | show ltT (.int _) (.int _) = some _ | show leT (.int _) (.int _) = some _ | show gtT (.int _) (.int _) = some _ | show geT (.int _) (.int _) = some _ | show intT [.int _] = some _ | show max2T [.int _, .int _] = some _ | show min2T [.int _, .int _] = some _ | show absT [.int _] = some _ | show eqT (.int _) (.int _) = some _ | show neT (.int _) (.int _) = some _ | show T.bl _ = T.bl _)); exact rfl) | ((with_reducible (first | show isiT _ _ = some _ | show isT _ _ = some _ | show isNT _ _ = some _ | show isisT _ _ = some _)); first | exact (rfl : _ = some (T.bl true)) | exact (rfl : _ = some (T.bl false)) | exact rfl) | fail)
      | fail)
    exact ⟨by simp [eqB], trivial⟩
  | n, .str x, h => by
    have hx : ∀ m, dOk m (.str x) = true := fun m => by
      have : x.cps.all (· < 0x110000) = true := by cases n <;> exact h
      cases m <;> exact this
    refine WR.eq (WR_fn ?_)
    try simp only [List.map_cons, List.map_nil, List.cons_append, List.nil_append, List.length_cons, List.length_nil, Nat.zero_add, Nat.reduceAdd, Nat.reduceSub, Nat.sub_self, List.replicate_zero, List.replicate_succ, List.append_nil, List.set_cons_zero, List.set_cons_succ]
    repeat' (first
      | with_reducible (first | refine WS_seq ?_ | refine WS_set ?_ | refine WS_ret ?_ | refine WS_if ?_ | refine WS_drop ?_ | refine WS_nx ?_ | refine WE_bin ?_ | refine WE_cons ?_ | refine WE_nil ?_ | refine WE_k ?_ | refine WE_app ?_ | refine WE_un ?_ | refine WE_B ?_ | refine WE_notC ?_ | refine WE_call ?_ | refine WE_callK ?_ | refine WE_lst ?_ | refine WE_tup ?_ | refine WE_chain ?_ | refine WE_andV ?_ | refine WE_orV ?_ | refine WE_notV ?_ | refine WE_andC ?_ | refine WE_orC ?_ | refine WE_if ?_ | refine WS_par2 ?_ | refine WS_par3 ?_ | refine WE_rg1 ?_ | refine WE_rg2 ?_ | refine WE_items ?_ | refine WE_enum ?_ | refine WE_zip ?_ | refine WE_revd ?_ | refine WE_callG ?_ | refine WS_put ?_ | refine WS_app ?_ | refine WE_pix ?_ | refine WE_sl ?_ | refine WE_p0 ?_ | refine WE_p1 ?_ | refine WE_true ?_ | refine WS_asg ?_) | ((with_reducible apply WE_var); (case h => exact rfl))
      | ((with_reducible refine And.intro ?_ ?_); (with_reducible first | exact ff1 | exact ff2 | exact ff3 | exact ff4 | exact ff5 | fail); (intro _))
      | ((with_reducible refine And.intro ?_ ?_); rotate_left; (with_reducible first | exact tt1 | exact tt2 | exact tt3 | exact tt4 | exact tt5 | fail); (intro _))
      | ((with_reducible apply Exists.intro); (with_reducible apply And.intro); first | ((with_reducible (first | show addT (.int _) (.int _) = some _ | show subT (.int _) (.int _) = some _ | show negT (.int _) = some _ | show ltT (.int _) (.int _) = some _ | show leT (.int _) (.int _) = some _ | show gtT (.int _) (.int _) = some _ | show geT (.int _) (.int _) = some _ | show intT [.int _] = some _ | show max2T [.int _, .int _] = some _ | show min2T [.int _, .int _] = some _ | show absT [.int _] = some _ | show eqT (.int _) (.int _) = some _ | show neT (.int _) (.int _) = some _ | show T.bl _ = T.bl _)); exact rfl) | ((with_reducible (first | show isiT _ _ = some _ | show isT _ _ = some _ | show isNT _ _ = some _ | show isisT _ _ = some _)); first | exact (rfl : _ = some (T.bl true)) | exact (rfl : _ = some (T.bl false)) | exact rfl) | fail)
      | fail)
    refine ⟨.bl true, ?_, ?_⟩
    · simp only [eqT, hx, Bool.and_true, if_true, eqB, beq_self_eq_true]
    · exact ⟨rfl, trivial⟩
  | n + 1, .lst xs, h => by
    obtain ⟨h1, h2⟩ := Bool.and_eq_true_iff.mp (show (decide (xs.length < 1000000) && xs.all (pl n)) = true from h)
    exact sameq_lst (of_decide_eq_true h1) fun x hx => same_refl n x (List.all_eq_true.mp h2 x hx)
  | n + 1, .tup xs, h => by
    obtain ⟨h1, h2⟩ := Bool.and_eq_true_iff.mp (show (decide (xs.length < 1000000) && xs.all (pl n)) = true from h)
    exact sameq_tup (of_decide_eq_true h1) fun x hx => same_refl n x (List.all_eq_true.mp h2 x hx)
  | 0, .lst xs, h => nomatch h
  | 0, .tup xs, h => nomatch h
  | 0, .emp, h => nomatch h
  | _ + 1, .emp, h => nomatch h
  | 0, .exc _ _, h => nomatch h
  | _ + 1, .exc _ _, h => nomatch h
  | 0, .clo _ _, h => nomatch h
  | _ + 1, .clo _ _, h => nomatch h
  | 0, .ty _, h => nomatch h
  | _ + 1, .ty _, h => nomatch h
  | 0, .cls _, h => nomatch h
  | _ + 1, .cls _, h => nomatch h
/-! ### kinds of numbers -/
theorem whole_ok {i : Int} : cm_is_whole [.int i] = .ok (.bl true) [] := by
  refine WR.eq (WR_fn ?_)
  try simp only [List.map_cons, List.map_nil, List.cons_append, List.nil_append, List.length_cons, List.length_nil, Nat.zero_add, Nat.reduceAdd, Nat.reduceSub, Nat.sub_self, List.replicate_zero, List.replicate_succ, List.append_nil, List.set_cons_zero, List.set_cons_succ]
  repeat' (first
      | with_reducible (first | refine WS_seq ?_ | refine WS_set ?_ | refine WS_ret ?_ | refine WS_if ?_ | refine WS_drop ?_ | refine WS_nx ?_ | refine WE_bin ?_ | refine WE_cons ?_ | refine WE_nil ?_ | refine WE_k ?_ | refine WE_app ?_ | refine WE_un ?_ | refine WE_B ?_ | refine WE_notC ?_ | refine WE_call ?_ | refine WE_callK ?_ | refine WE_lst ?_ | refine WE_tup ?_ | refine WE_chain ?_ | refine WE_andV ?_ | refine WE_orV ?_ | refine WE_notV ?_ | refine WE_andC ?_ | refine WE_orC ?_ | refine WE_if ?_ | refine WS_par2 ?_ | refine WS_par3 ?_ | refine WE_rg1 ?_ | refine WE_rg2 ?_ | refine WE_items ?_ | refine WE_enum ?_ | refine WE_zip ?_ | refine WE_revd ?_ | refine WE_callG ?_ | refine WS_put ?_ | refine WS_app ?_ | refine WE_pix ?_ | refine WE_sl ?_ | refine WE_p0 ?_ | refine WE_p1 ?_ | refine WE_true ?_ | refine WS_asg ?_) | ((with_reducible apply WE_var); (case h => exact rfl))
      | ((with_reducible refine And.intro ?_ ?_); (with_reducible first | exact ff1 | exact ff2 | exact ff3 | exact ff4 | exact ff5 | fail); (intro _))
      | ((with_reducible refine And.intro ?_ ?_); rotate_left; (with_reducible first | exact tt1 | exact tt2 | exact tt3 | exact tt4 | exact tt5 | fail); (intro _))
      | ((with_reducible apply Exists.intro); (with_reducible apply And.intro); first | ((with_reducible (first | show addT (.int _) (.int _) = some _ | show subT (.int _) (.int _) = some _ | show negT (.int _) = some _ | show ltT (.int _) (.int _) = some _ | show leT (.int _) (.int _) = some _ | show gtT (.int _) (.int _) = some _ | show geT (.int _) (.int _) = some _ | show intT [.int _] = some _ | show max2T [.int _, .int _] = some _ | show min2T [.int _, .int _] = some _ | show absT [.int _] = some _ | show eqT (.int _) (.int _) = some _ | show neT (.int _) (.int _) = some _ | show T.bl _ = T.bl _)); exact rfl) | ((with_reducible (first | show isiT _ _ = some _ | show isT _ _ = some _ | show isNT _ _ = some _ | show isisT _ _ = some _)); first | exact (rfl : _ = some (T.bl true)) | exact (rfl : _ = some (T.bl false)) | exact rfl) | fail)
      | fail)
  exact ⟨rfl, trivial⟩
theorem count_ok {i : Int} : cm_is_count [.int i] = .ok (.bl (decide (0 ≤ i))) [] := by
  refine WR.eq (WR_fn ?_)
  try simp only [List.map_cons, List.map_nil, List.cons_append, List.nil_append, List.length_cons, List.length_nil, Nat.zero_add, Nat.reduceAdd, Nat.reduceSub, Nat.sub_self, List.replicate_zero, List.replicate_succ, List.append_nil, List.set_cons_zero, List.set_cons_succ]
  repeat' (first
      | with_reducible (first | refine WS_seq ?_ | refine WS_set ?_ | refine WS_ret ?_ | refine WS_if ?_ | refine WS_drop ?_ | refine WS_nx ?_ | refine WE_bin ?_ | refine WE_cons ?_ | refine WE_nil ?_ | refine WE_k ?_ | refine WE_app ?_ | refine WE_un ?_ | refine WE_B ?_ | refine WE_notC ?_ | refine WE_call ?_ | refine WE_callK ?_ | refine WE_lst ?_ | refine WE_tup ?_ | refine WE_chain ?_ | refine WE_andV ?_ | refine WE_orV ?_ | refine WE_notV ?_ | refine WE_andC ?_ | refine WE_orC ?_ | refine WE_if ?_ | refine WS_par2 ?_ | refine WS_par3 ?_ | refine WE_rg1 ?_ | refine WE_rg2 ?_ | refine WE_items ?_ | refine WE_enum ?_ | refine WE_zip ?_ | refine WE_revd ?_ | refine WE_callG ?_ | refine WS_put ?_ | refine WS_app ?_ | refine WE_pix ?_ | refine WE_sl ?_ | refine WE_p0 ?_ | refine WE_p1 ?_ | refine WE_true ?_ | refine WS_asg ?_) | ((with_reducible apply WE_var); (case h => exact rfl))
      | ((with_reducible refine And.intro ?_ ?_); (with_reducible first | exact ff1 | exact ff2 | exact ff3 | exact ff4 | exact ff5 | fail); (intro _))
      | ((with_reducible refine And.intro ?_ ?_); rotate_left; (with_reducible first | exact tt1 | exact tt2 | exact tt3 | exact tt4 | exact tt5 | fail); (intro _))
      | ((with_reducible apply Exists.intro); (with_reducible apply And.intro); first | ((with_reducible (first | show addT (.int _) (.int _) = some _ | show subT (.int _) (.int _) = some _ | show negT (.int _) = some _ | show ltT (.int _) (.int _) = some _ | show leT (.int _) (.int _) = some _ | show gtT (.int _) (.int _) = some _ | show geT (.int _) (.int _) = some _ | show intT [.int _] = some _ | show max2T [.int _, .int _] = some _ | show min2T [.int _, .int _] = some _ | show absT [.int _] = some _ | show eqT (.int _) (.int _) = some _ | show neT (.int _) (.int _) = some _ | show T.bl _ = T.bl _)); exact rfl) | ((with_reducible (first | show isiT _ _ = some _ | show isT _ _ = some _ | show isNT _ _ = some _ | show isisT _ _ = some _)); first | exact (rfl : _ = some (T.bl true)) | exact (rfl : _ = some (T.bl false)) | exact rfl) | fail)
      | fail)
  rw [whole_ok]
  refine ⟨true, rfl, fun _ => ?_, fun h => nomatch h⟩
  repeat' (first
      | with_reducible (first | refine WS_seq ?_ | refine WS_set ?_ | refine WS_ret ?_ | refine WS_if ?_ | refine WS_drop ?_ | refine WS_nx ?_ | refine WE_bin ?_ | refine WE_cons ?_ | refine WE_nil ?_ | refine WE_k ?_ | refine WE_app ?_ | refine WE_un ?_ | refine WE_B ?_ | refine WE_notC ?_ | refine WE_call ?_ | refine WE_callK ?_ | refine WE_lst ?_ | refine WE_tup ?_ | refine WE_chain ?_ | refine WE_andV ?_ | refine WE_orV ?_ | refine WE_notV ?_ | refine WE_andC ?_ | refine WE_orC ?_ | refine WE_if ?_ | refine WS_par2 ?_ | refine WS_par3 ?_ | refine WE_rg1 ?_ | refine WE_rg2 ?_ | refine WE_items ?_ | refine WE_enum ?_ | refine WE_zip ?_ | refine WE_revd ?_ | refine WE_callG ?_ | refine WS_put ?_ | refine WS_app ?_ | refine WE_pix ?_ | refine WE_sl ?_ | refine WE_p0 ?_ | refine WE_p1 ?_ | refine WE_true ?_ | refine WS_asg ?_) | ((with_reducible apply WE_var); (case h => exact rfl))
      | ((with_reducible refine And.intro ?_ ?_); (with_reducible first | exact ff1 | exact ff2 | exact ff3 | exact ff4 | exact ff5 | fail); (intro _))
      | ((with_reducible refine And.intro ?_ ?_); rotate_left; (with_reducible first | exact tt1 | exact tt2 | exact tt3 | exact tt4 | exact tt5 | fail); (intro _))
      | ((with_reducible apply Exists.intro); (with_reducible apply And.intro); first | ((with_reducible (first | show addT (.int _) (.int _) = some _ | show subT (.int _) (.int _) = some _ | show negT (.int _) = some _ | show ltT (.int _) (.int _) = some _ | show leT (.int _) (.int _) = some _ | show gtT (.int _) (.int _) = some _ | show geT (.int _) (.int _) = some _ | show intT [.int _] = some _ | show max2T [.int _, .int _] = some _ | show min2T [.int _, .int _] = some _ | show absT [.int _] = some _ | show eqT (.int _) (.int _) = some _ | show neT (.int _) (.int _) = some _ | show T.bl _ = T.bl _)); exact rfl) | ((with_reducible (first | show isiT _ _ = some _ | show isT _ _ = some _ | show isNT _ _ = some _ | show isisT _ _ = some _)); first | exact (rfl : _ = some (T.bl true)) | exact (rfl : _ = some (T.bl false)) | exact rfl) | fail)
      | fail)
  exact ⟨rfl, trivial⟩
theorem below_ok {i j : Int} : cm_is_below [.int i, .int j] = .ok (.bl (decide (0 ≤ i ∧ i < j))) [] := by
  refine WR.eq (WR_fn ?_)
  try simp only [List.map_cons, List.map_nil, List.cons_append, List.nil_append, List.length_cons, List.length_nil, Nat.zero_add, Nat.reduceAdd, Nat.reduceSub, Nat.sub_self, List.replicate_zero, List.replicate_succ, List.append_nil, List.set_cons_zero, List.set_cons_succ]
  repeat' (first
      | with_reducible (first | refine WS_seq ?_ | refine WS_set ?_ | refine WS_ret ?_ | refine WS_if ?_ | refine WS_drop ?_ | refine WS_nx ?_ | refine WE_bin ?_ | refine WE_cons ?_ | refine WE_nil ?_ | refine WE_k ?_ | refine WE_app ?_ | refine WE_un ?_ | refine WE_B ?_ | refine WE_notC ?_ | refine WE_call ?_ | refine WE_callK ?_ | refine WE_lst ?_ | refine WE_tup ?_ | refine WE_chain ?_ | refine WE_andV ?_ | refine WE_orV ?_ | refine WE_notV ?_ | refine WE_andC ?_ | refine WE_orC ?_ | refine WE_if ?_ | refine WS_par2 ?_ | refine WS_par3 ?_ | refine WE_rg1 ?_ | refine WE_rg2 ?_ | refine WE_items ?_ | refine WE_enum ?_ | refine WE_zip ?_ | refine WE_revd ?_ | refine WE_callG ?_ | refine WS_put ?_ | refine WS_app ?_ | refine WE_pix ?_ | refine WE_sl ?_ | refine WE_p0 ?_ | refine WE_p1 ?_ | refine WE_true ?_ | refine WS_asg ?_) | ((with_reducible apply WE_var); (case h => exact rfl))
      | ((with_reducible refine And.intro ?_ ?_); (with_reducible first | exact ff1 | exact ff2 | exact ff3 | exact ff4 | exact ff5 | fail); (intro _))
      | ((with_reducible refine And.intro ?_ ?_); rotate_left; (with_reducible first | exact tt1 | exact tt2 | exact tt3 | exact tt4 | exact tt5 | fail); (intro _))
      | ((with_reducible apply Exists.intro); (with_reducible apply And.intro); first | ((with_reducible (first | show addT (.int _) (.int _) = some _ | show subT (.int _) (.int _) = some _ | show negT (.int _) = some _ | show ltT (.int _) (.int _) = some _ | show leT (.int _) (.int _) = some _ | show gtT (.int _) (.int _) = some _ | show geT (.int _) (.int _) = some _ | show intT [.int _] = some _ | show max2T [.int _, .int _] = some _ | show min2T [.int _, .int _] = some _ | show absT [.int _] = some _ | show eqT (.int _) (.int _) = some _ | show neT (.int _) (.int _) = some _ | show T.bl _ = T.bl _)); exact rfl) | ((with_reducible (first | show isiT _ _ = some _ | show isT _ _ = some _ | show isNT _ _ = some _ | show isisT _ _ = some _)); first | exact (rfl : _ = some (T.bl true)) | exact (rfl : _ = some (T.bl false)) | exact rfl) | fail)
      | fail)
  rw [count_ok]
  refine ⟨_, rfl, fun h => ?_, fun h => ?_⟩
  · have h : 0 ≤ i := of_decide_eq_true h
    repeat' (first
      | with_reducible (first | refine WS_seq ?_ | refine WS_set ?_ | refine WS_ret ?_ | refine WS_if ?_ | refine WS_drop ?_ | refine WS_nx ?_ | refine WE_bin ?_ | refine WE_cons ?_ | refine WE_nil ?_ | refine WE_k ?_ | refine WE_app ?_ | refine WE_un ?_ | refine WE_B ?_ | refine WE_notC ?_ | refine WE_call ?_ | refine WE_callK ?_ | refine WE_lst ?_ | refine WE_tup ?_ | refine WE_chain ?_ | refine WE_andV ?_ | refine WE_orV ?_ | refine WE_notV ?_ | refine WE_andC ?_ | refine WE_orC ?_ | refine WE_if ?_ | refine WS_par2 ?_ | refine WS_par3 ?_ | refine WE_rg1 ?_ | refine WE_rg2 ?_ | refine WE_items ?_ | refine WE_enum ?_ | refine WE_zip ?_ | refine WE_revd ?_ | refine WE_callG ?_ | refine WS_put ?_ | refine WS_app ?_ | refine WE_pix ?_ | refine WE_sl ?_ | refine WE_p0 ?_ | refine WE_p1 ?_ | refine WE_true ?_ | refine WS_asg ?_) | ((with_reducible apply WE_var); (case h => exact rfl))
      | ((with_reducible refine And.intro ?_ ?_); (with_reducible first | exact ff1 | exact ff2 | exact ff3 | exact ff4 | exact ff5 | fail); (intro _))
      | ((with_reducible refine And.intro ?_ ?_); rotate_left; (with_reducible first | exact tt1 | exact tt2 | exact tt3 | exact tt4 | exact tt5 | fail); (intro _))
      | ((with_reducible apply Exists.intro); (with_reducible apply And.intro); first | ((with_reducible (first | show addT (.int _) (.int _) = some _ | show subT (.int _) (.int _) = some _ | show negT (.int _) = some _ | show ltT (.int _) (.int _) = some _ | show leT (.int _) (.int _) = some _ | show gtT (.int _) (.int _) = some _ | show geT (.int _) (.int _) = some _ | show intT [.int _] = some _ | show max2T [.int _, .int _] = some _ | show min2T [.int _, .int _] = some _ | show absT [.int _] = some _ | show eqT (.int _) (.int _) = some _ | show neT (.int _) (.int _) = some _ | show T.bl _ = T.bl _)); exact rfl) | ((with_reducible (first | show isiT _ _ = some _ | show isT _ _ = some _ | show isNT _ _ = some _ | show isisT _ _ = some _)); first | exact (rfl : _ = some (T.bl true)) | exact (rfl : _ = some (T.bl false)) | exact rfl) | fail)
      | fail)
    exact ⟨by simp [h], trivial⟩
  · have h : ¬ 0 ≤ i := of_decide_eq_false h
    exact ⟨by simp [h], trivial⟩
end
end Tc

/-! Tc: repr, gcd, places in lists, sums of lists, constants. -/
namespace Tc
open PySem PySem.Spec L2

section
variable {c : SC} {P : List Nat} {a b d e : Expr} {es : List Expr} {Fa Fb F : Ec} {A : Ac} {pos p q : Pos} {K : PySem.W.Frag}
/-! ### repr -/
/-- the text that repr gives, of what is data and not too long -/
def reprT : List T → Option T
  | [t] => if (dOk 30 t && (toD t).showable && decide ((toD t).shown.length ≤ LIM)) = true then some (.str (toD t).shown) else none
  | _ => none
def rRepr (K : PySem.W.Frag) : List V → Hp → VK → Prop := fun xs H Q => ∃ (v : V) (d : PyData), xs = [v] ∧ Dp K H v d ∧ d.canLay0 = true ∧ d.depth ≤ 30 ∧ d.showable = true ∧ d.shown.length ≤ sizeLine ∧ Q (.str d.shown) H
theorem cl_repr : ∀ X, c.Is X → CallR X (.builtin "repr") (rRepr c.K) := by
  intro X hX pins s σ H xs us Q I r h
  obtain ⟨v, d, rfl, hd, hl, hdp, hs, hz, q⟩ := h
  obtain ⟨u, rfl, ru⟩ := vals1 r
  have hu := hX.room.units
  cases d with
  | none => cases hd; cases ru; exact PySem.P.repr_of_none ⟨.str _, H, I.tok _, ⟨_, rfl⟩, q⟩
  | bool b => cases hd; cases ru; exact PySem.P.repr_of_bool ⟨.str _, H, I.tok _, ⟨_, rfl⟩, q⟩
  | int i =>
    cases hd
    obtain ⟨t, rfl⟩ := ru
    refine PySem.P.repr_of_int (of_decide_eq_true hs) ⟨.str (toString i : String), H, I.tok _, ⟨_, rfl⟩, ?_⟩
    simp only [PyData.shown] at q
    exact q
  | str x =>
    cases hd
    obtain ⟨t, rfl⟩ := ru
    simp only [PyData.shown] at hz q
    exact PySem.P.repr_of_str ⟨.str (reprText x), H, I.tok _, ⟨_, rfl⟩, q⟩ hz
  | list ds =>
    rw [← hX.K] at hd
    cases hd with
    | lst h1 h2 =>
      cases ru
      obtain ⟨as, r1⟩ := Dp.reads I (.list ds) _ _ (.lst h1 h2) rfl
      exact repr_of_reads' r1 hs (PyData.noDict_hsm (PyData.hasDict_of_canLay _ hl)) hX.grd (by omega) (fun _ _ e => e) (fun h' u tk hk => ⟨.str _, H, I.kept hk, ⟨_, rfl⟩, q⟩) hz
  | tuple ds =>
    rw [← hX.K] at hd
    cases hd with
    | tup h1 h2 =>
      cases ru
      obtain ⟨as, r1⟩ := Dp.reads I (.tuple ds) _ _ (.tup h1 h2) rfl
      exact repr_of_reads' r1 hs (PyData.noDict_hsm (PyData.hasDict_of_canLay _ hl)) hX.grd (by omega) (fun _ _ e => e) (fun h' u tk hk => ⟨.str _, H, I.kept hk, ⟨_, rfl⟩, q⟩) hz
  | dict kvs => cases hd
theorem sd_repr : SdA K (rRepr K) reprT := by
  intro H B xs ts z Q sB rx e q
  unfold reprT at e
  split at e
  · obtain ⟨x, rfl, r⟩ := rx.one_inv
    split at e
    · rename_i h
      cases e
      obtain ⟨h12, h3⟩ := Bool.and_eq_true_iff.mp h
      obtain ⟨h1, h2⟩ := Bool.and_eq_true_iff.mp h12
      obtain ⟨l1, l2⟩ := toD_lay 30 _ h1
      exact ⟨x, _, rfl, dp_of 30 (r.mono sB) h1, l1, l2, h2, lim_line (of_decide_eq_true h3), q _ H B (.refl sB) (.str _)⟩
    · cases e
  · cases e

/-! ### gcd, a built-in under a name of the module -/
def gcdT : List T → Option T
  | [.int i, .int j] => some (.int ((Nat.gcd i.natAbs j.natAbs : Nat) : Int))
  | _ => none
theorem cl_gcd : ∀ X, c.Is X → CallR X (.builtin "math.gcd") rGcd := fun X h => cr_gcd
theorem sd_gcd : SdA K rGcd gcdT := by
  intro H B xs ts z Q sB rx e q
  unfold gcdT at e
  split at e
  · cases e
    obtain ⟨x, y, rfl, r1, r2⟩ := rx.two_inv
    cases r1
    cases r2
    exact ⟨_, _, rfl, q _ H B (.refl sB) (.int _)⟩
  · cases e
theorem ej_callN {x : Str} {id : String} {rr : List V → Hp → VK → Prop} {f : List T → Option T} (hc : ∀ X, c.Is X → CallR X (.builtin id) rr) (hf : SdA c.K rr f) (ha : AJ c P (e :: es) A) (hm : c.mg x = some (.builtin id)) (hg : c.sc.names.lookup x = some .globalImplicit := by rfl)
    (hdb : (x == ("__debug__" : Str)) = false := by decide) (he : ∀ env, starEach (e :: es) env = (false, eval e env) :: starEach es env := by intro _; rfl) (hpl : ∀ env, (backTo pos (starEach es env)).any (·.1) = false := by intro _; rfl) :
    EJ c P (.Call (.Name x p) (e :: es) [] pos) (cApp f A) := by
  obtain ⟨t, pt, rt⟩ := ha.ex
  refine ⟨tCB rr t, fun X h => pe_callBfun (hc X h) (by show X.env.scope.names.lookup x = _; rw [h.sc]; exact hg) (by rw [h.mg]; exact hm) (pt X h) hdb (he _) (hpl _), fun r σ O H B Q fr q => ?_⟩
  refine rt r σ O H B _ fr ((PK.bind q).imp fun ts r1 O1 H1 B1 f1 g1 q1 vs rv => ?_)
  obtain ⟨z, ez, q3⟩ := PK.opt q1
  exact hf H1 B1 vs ts z Q f1.sub rv ez fun v' H' B' p rp => q3.pu f1 p v' rp

/-! ### constants of the module -/
theorem ej_gval {x : Str} {t : T} (h : ∃ v u, c.mg x = some u ∧ RelV v u ∧ ∀ B, Rep c.K B v t) (hg : c.sc.names.lookup x = some .globalImplicit := by rfl) (hd : (x == ("__debug__" : Str)) = false := by decide) : EJ c P (.Name x pos) (cK t) := by
  obtain ⟨v, u, hm, hr, ht⟩ := h
  exact ⟨tC v, fun X h => pe_glob (by show X.env.scope.names.lookup x = _; rw [h.sc]; exact hg) (by rw [h.mg]; exact hm) hr hd, fun r σ O H B Q f q => PK.at (show PK _ _ _ _ _ _ _ (.ok _ _) from q) f _ (ht _)⟩
end
def VT (K : PySem.W.Frag) (u : Value) (t : T) : Prop := ∃ v, RelV v u ∧ ∀ B, Rep K B v t
theorem valsIn_ok {K : PySem.W.Frag} {n : Nat} (ih : ∀ u t, valIn K n u t = true → VT K u t) : ∀ (us : List Value) (ts : List T), valIn.go K n us ts = true → ∃ vs, Vals vs us ∧ ∀ B, Reps K B vs ts
  | [], [], _ => ⟨[], .nil, fun _ => .nil⟩
  | u :: us, t :: ts, h => by
    unfold valIn.go at h
    obtain ⟨h1, h2⟩ := Bool.and_eq_true_iff.mp h
    obtain ⟨v, r1, r2⟩ := ih u t h1
    obtain ⟨vs, r3, r4⟩ := valsIn_ok ih us ts h2
    exact ⟨v :: vs, .cons r1 r3, fun B => .cons (r2 B) (r4 B)⟩
  | [], _ :: _, h => by unfold valIn.go at h; cases h
  | _ :: _, [], h => by unfold valIn.go at h; cases h
theorem valIn_ok {K : PySem.W.Frag} : ∀ (n : Nat) (u : Value) (t : T), valIn K n u t = true → VT K u t := by
  intro n
  induction n with
  | zero =>
    intro u t h
    unfold valIn at h
    split at h
    · exact ⟨.non, rfl, fun _ => .non⟩
    · rw [eq_of_beq h]; exact ⟨.bl _, rfl, fun _ => .bl _⟩
    · rw [eq_of_beq h]; exact ⟨.int _, ⟨_, rfl⟩, fun _ => .int _⟩
    · rw [of_decide_eq_true h]; exact ⟨.str _, ⟨_, rfl⟩, fun _ => .str _⟩
    · rename_i e
      cases e
    · rename_i e
      cases e
    · cases h
  | succ n ih =>
    intro u t h
    unfold valIn at h
    split at h
    · exact ⟨.non, rfl, fun _ => .non⟩
    · rw [eq_of_beq h]; exact ⟨.bl _, rfl, fun _ => .bl _⟩
    · rw [eq_of_beq h]; exact ⟨.int _, ⟨_, rfl⟩, fun _ => .int _⟩
    · rw [of_decide_eq_true h]; exact ⟨.str _, ⟨_, rfl⟩, fun _ => .str _⟩
    · rename_i m a ts e
      cases e
      split at h
      · rename_i ty its ep sl hk
        simp only [Bool.and_eq_true, beq_iff_eq, decide_eq_true_eq] at h
        obtain ⟨⟨h1, h2⟩, h3⟩ := h
        subst h1
        obtain ⟨vs, r1, r2⟩ := valsIn_ok ih its.toList ts h3
        exact ⟨.ref a, rfl, fun B => .tup (.inr ⟨_, its, ep, hk, rfl, rfl, lim_line h2, r1⟩) (r2 B)⟩
      · cases h
    · rename_i m a ts e
      cases e
      split at h
      · rename_i ty its ep sl hk
        simp only [Bool.and_eq_true, beq_iff_eq, decide_eq_true_eq] at h
        obtain ⟨⟨⟨h1, h0⟩, h2⟩, h3⟩ := h
        subst h1
        have hs : sl = #[] := Array.isEmpty_iff.mp h0
        subst hs
        obtain ⟨vs, r1, r2⟩ := valsIn_ok ih its.toList ts h3
        refine ⟨.ref a, rfl, fun B => .lst (.inr ⟨its.toList, ep, ?_, ?_, r1⟩) (r2 B)⟩
        · exact hk
        · rw [Array.length_toList]; exact lim_line h2
      · cases h
    · cases h
end Tc

/-! Tc: owned lists are read for a while; places and counts in lists. -/
namespace Tc
open PySem PySem.Spec L2 PyProof.Rows

/-- where nothing is lent, nothing may be raised -/
def SC.nog (c : SC) : SC := { c with G := ⟨none, c.G.n, []⟩, W := fun _ _ _ _ => False }
theorem nog_is {c : SC} {X : Cx} (h : c.Is X) : c.nog.Is X :=
  ⟨h.prog, h.w, h.K, h.mg, h.base, h.N, h.nd, h.sc, h.calm, h.room, h.grd, takes0, h.po, h.fn, h.lc⟩
def scal : T → Bool
  | .non => true
  | .bl _ => true
  | .int _ => true
  | .str _ => true
  | _ => false
theorem scal_rep {K : PySem.W.Frag} {B B' : Hp} {v : V} {t : T} (h : scal t = true) (r : Rep K B v t) : Rep K B' v t := by
  cases r with
  | non => exact .non
  | bl b => exact .bl b
  | int i => exact .int i
  | str x => exact .str x
  | _ => cases h
/-- a value that is no container, read while all lists are seen -/
def cBor (F : Ec) : Ec := fun r => match F r with
  | .ok t _ => if scal t = true then .ok t r else .no
  | _ => .no
def cBorC (C : Cc) : Cc := fun r => match C r with
  | .ok b _ => .ok b r
  | _ => .no
section
variable {c : SC} {P : List Nat} {a b e : Expr} {F Fa Fb : Ec} {C : Cc} {pos : Pos} {K : PySem.W.Frag} {G : GI} {r : Sl} {σ : L2.St} {O : Addr → Prop} {H B : Hp}
/-- all that is tracked is seen -/
theorem Frm.all (f : Frm K G P r σ O H B) : Frm K ⟨none, G.n, []⟩ [] r σ (fun _ => False) H H := by
  refine ⟨.refl _, fun _ h => h.elim, fun _ h => h.elim, fun i t e _ => ?_, (fun i h => nomatch h), (fun i _ _ h => nomatch h), f.len, f.siz, (fun g h => nomatch h), .nil⟩
  by_cases hi : i ∈ P
  · obtain ⟨p, vs, ts, h1, h2, _, h4, h5⟩ := f.prv i hi
    rw [h1] at e
    cases e
    exact ⟨_, h2, .lst (.of h4) (h5.mono f.sub)⟩
  · obtain ⟨v, h1, h2⟩ := f.var i t e hi
    exact ⟨v, h1, h2.mono f.sub⟩
theorem Grow.clean {O' : Addr → Prop} {H' B' : Hp} (g : Grow (fun _ => False) H H O' H' B') (sB : Same B H) (s' : Same B' H') : Pu H B H' B :=
  have hh : Same H H' := g.bb.trans s'
  ⟨.refl _, sB.trans hh, fun _ _ e => .inl e, hh⟩
theorem ej_bor (h : EJ c.nog [] e F) : EJ c P e (cBor F) := by
  obtain ⟨t, pt, rt⟩ := h.ex
  refine ⟨t, fun X hX => pt X (nog_is hX), fun r σ O H B Q f q => rt r σ _ H H Q f.all ?_⟩
  unfold cBor at q
  cases z : F r with
  | ok u r1 =>
    rw [z] at q
    intro O' H' B' f' g' v rv
    by_cases hs : scal u = true
    · simp only [hs, if_true] at q
      exact q.pu f (g'.clean f.sub f'.sub) v (scal_rep hs rv)
    · simp only [hs] at q
      exact (show False from q).elim
  | ex n w r1 => rw [z] at q; exact (show False from q).elim
  | no => rw [z] at q; exact (show False from q).elim
theorem cj_bor (h : CJ c.nog [] e C) : CJ c P e (cBorC C) := by
  obtain ⟨t, pt, rt⟩ := h.ex
  refine ⟨t, fun X hX => pt X (nog_is hX), fun r σ O H B Q f q => rt r σ _ H H Q f.all ?_⟩
  unfold cBorC at q
  cases z : C r with
  | ok u r1 =>
    rw [z] at q
    intro O' H' B' f' g'
    exact q.pu f (g'.clean f.sub f'.sub)
  | ex n w r1 => rw [z] at q; exact (show False from q).elim
  | no => rw [z] at q; exact (show False from q).elim

/-! ### x.index(y), x.count(y) -/
def indexT (xs : List T) (y : T) : Option T := if (dOk 30 (.lst xs) && dOk 30 y) = true then (xs.findIdx? fun x => eqB x y).map fun j => .int (j : Nat) else none
def countT (xs : List T) (y : T) : Option T := if (dOk 30 (.lst xs) && dOk 30 y) = true then some (.int ((xs.countP fun x => eqB x y : Nat) : Int)) else none
/-- a method of a list -/
def cMt (f : List T → T → Option T) (a b : Ec) : Ec := fun r => (a r).bind fun x r1 => match x with
  | .lst xs => (b r1).bind fun y r2 => Out.opt r2 (f xs y)
  | _ => .no
theorem toDs_map : ∀ ts : List T, toDs ts = ts.map toD
  | [] => rfl
  | t :: ts => by rw [List.map_cons, ← toDs_map ts]; rfl
theorem dOks_all : ∀ {n : Nat} {ts : List T}, dOks n ts = true → ∀ t ∈ ts, dOk n t = true
  | _, [], _, _, h => nomatch h
  | n, t :: ts, h, u, hu => by
    obtain ⟨h1, h2⟩ := Bool.and_eq_true_iff.mp (show (dOk n t && dOks n ts) = true from h)
    rcases List.mem_cons.mp hu with e | e
    · rw [e]; exact h1
    · exact dOks_all h2 u e
def rCountD (K : PySem.W.Frag) : V → List V → Hp → VK → Prop := fun x xs H Q => ∃ (a : Addr) (y : V) (d : PyData) (ds : List PyData), x = V.ref a ∧ xs = [y] ∧ Dp K H (V.ref a) (.list ds) ∧ Dp K H y d ∧
  SeqAt.shaped (.list ds) = true ∧ SeqAt.shaped d = true ∧ Q (.int ((ds.countP fun z => PyData.eqv z d : Nat) : Int)) H
theorem mt_countD {X : Cx} (hu : X.A.units + 65 < cLine) : MtR X "list.count" (rCountD X.K) := by
  intro pins s σ H x xs v us Q I rx rxs h
  obtain ⟨l, y, d, ds, rfl, rfl, hl, hy, sl, sd, q⟩ := h
  cases rx
  obtain ⟨uy, rfl, ry⟩ := vals1 rxs
  obtain ⟨bs, rd⟩ := Dp.reads I d y uy hy ry
  have lay : PyData.canLayAll0 ds = true := SeqAt.canLay_of_shaped sl
  cases hl with
  | lst hs ha =>
    obtain ⟨its, rv, ⟨⟨cls, dd, data, sls⟩, n, ho, hc, hdn, hdt⟩, hlen⟩ := I.list hs
    simp only at hc hdt
    subst hc hdt
    obtain ⟨as, ra⟩ := Dp.readsAll I ds _ its ha rv
    have hmap : its.map (SeqAt.readOf s.heap) = ds := SeqAt.readsAll_map ds its as lay ra
    refine call_meets PySem.F.slot_list_count ⟨_, ho, rfl⟩ PySem.F.entry_list_count (PySem.F.args_list_count_2 _ _)
      (SeqAt.list_countAt l its.toArray n dd sls uy (fun u => PyData.eqv (SeqAt.readOf s.heap u) d))
      ⟨ho, SeqAt.items_eqAt (vs := its.toArray) (by simpa using ra) rd lay (SeqAt.canLay_of_shaped sd) (room_in_shaped sd hu), ?_⟩
    have e : its.toArray.toList.countP (fun u => PyData.eqv (SeqAt.readOf s.heap u) d) = ds.countP (fun z => PyData.eqv z d) := by
      rw [← hmap, List.countP_map] <;> rfl
    refine ⟨.int _, H, I.tok _, ⟨s.toks, ?_⟩, q⟩
    show Value.int ((its.toArray.toList.countP _ : Nat) : Int) s.toks = _
    rw [e]
theorem countP_toD {n m : Nat} {y : T} (hy : dOk m y = true) : ∀ {ts : List T}, dOks n ts = true → (toDs ts).countP (fun z => PyData.eqv z (toD y)) = ts.countP (fun x => eqB x y)
  | [], _ => rfl
  | t :: ts, h => by
    obtain ⟨h1, h2⟩ := Bool.and_eq_true_iff.mp (show (dOk n t && dOks n ts) = true from h)
    show (toD t :: toDs ts).countP _ = _
    rw [List.countP_cons, List.countP_cons, countP_toD hy h2, eqv_eq n m t y h1 hy]
theorem find_toD {n m : Nat} {y : T} (hy : dOk m y = true) {ts : List T} (h : dOks n ts = true) {j : Nat} (hj : ts.findIdx? (fun x => eqB x y) = some j) :
    ∃ z, (toDs ts)[j]? = some z ∧ PyData.eqv z (toD y) = true ∧ ∀ (k : Nat) (z' : PyData), k < j → (toDs ts)[k]? = some z' → PyData.eqv z' (toD y) = false := by
  obtain ⟨h1, h2, h3⟩ := List.findIdx?_eq_some_iff_getElem.mp hj
  have ok : ∀ k (hk : k < ts.length), PyData.eqv (toD ts[k]) (toD y) = eqB ts[k] y := fun k hk => eqv_eq n m _ y (dOks_all h _ (List.getElem_mem hk)) hy
  refine ⟨toD ts[j], ?_, ?_, fun k z' hk hz => ?_⟩
  · rw [toDs_map, List.getElem?_map, List.getElem?_eq_getElem h1]; rfl
  · rw [ok j h1]; exact h2
  · rw [toDs_map, List.getElem?_map, List.getElem?_eq_getElem (by omega)] at hz
    cases hz
    rw [ok k (by omega)]
    have := h3 k hk
    simpa using this
/-- the ones that a method of a list asks -/
theorem Rep.tyL {B H : Hp} {v : V} {ts : List T} (sB : Same B H) (r : Rep K B v (.lst ts)) : tyV K "list" v H := by
  cases r with
  | lst s rs => exact .inl ⟨rfl, _, (s.mono sB).sq⟩
theorem ej_index {apos : Pos} (hk : Nat.ble 2 c.k = true) (ha : EJ c P a Fa) (hb : EJ c P b Fb) (hbase : ∀ env, attributeBase a "index" env (eval a env) = eval a env := by intro _; rfl) (hst : ∀ env, starEach [b] env = [(false, eval b env)] := by intro _; rfl) (hline : (apos.endLine == pos.line) = true := by rfl) :
    EJ c P (.Call (.Attribute a "index" apos) [b] [] pos) (cMt indexT Fa Fb) := by
  obtain ⟨ta, pa, ra⟩ := ha.ex
  obtain ⟨tb, pb, rb⟩ := hb.ex
  refine ⟨tBM c.K "list" (rIndexD c.K) ta (tCons tb tNil), fun X h => ?_, fun r σ O H B Q fr q => ?_⟩
  · have hu : X.A.units + 65 < cLine := by
      have h1 := h.room.un
      have h2 := Nat.le_of_ble_eq_true hk
      omega
    have z := pe_bm (X := X) (cpos := pos) (apos := apos) PySem.F.plainAttrs_list PySem.F.slot_list_index PySem.F.type_list_index (mt_indexD hu) (pa X h) (pa_cons (pb X h) pa_nil (by rw [hst]; rfl)) (hbase _)
      (by rw [hst]; rfl) hline (by rw [hst]; rfl) rfl
    rw [h.K] at z
    exact z
  · refine ra r σ O H B _ fr ((PK.bind q).imp fun t r1 O1 H1 B1 f1 g1 q1 v rv => ?_)
    cases t with
    | lst xs =>
      refine ⟨rv.tyL f1.sub, rb r1 σ O1 H1 B1 _ f1 ((PK.bind q1).imp fun u r2 O2 H2 B2 f2 g2 q2 w rw' => ?_)⟩
      obtain ⟨z, ez, q3⟩ := PK.opt q2
      simp only [indexT] at ez
      split at ez
      · rename_i hd
        obtain ⟨h1, h2⟩ := Bool.and_eq_true_iff.mp hd
        cases hj : xs.findIdx? (fun x => eqB x u) with
        | none => rw [hj] at ez; cases ez
        | some j =>
          rw [hj] at ez
          cases ez
          obtain ⟨z, e1, e2, e3⟩ := find_toD (n := 29) (m := 30) h2 h1 hj
          have rv2 := (rv.mono g2.bb).mono f2.sub
          have d1 := dp_of 30 rv2 h1
          cases rv2 with
          | lst s rs => exact ⟨_, w, toD u, toDs xs, j, z, rfl, rfl, d1, dp_of 30 (rw'.mono f2.sub) h2, shaped_of h1 (by decide), shaped_of h2 (by decide), e1, e2, e3, PK.at q3 f2 _ (.int _)⟩
      · cases ez
    | _ => exact (show False from q1).elim
theorem ej_count {apos : Pos} (hk : Nat.ble 2 c.k = true) (ha : EJ c P a Fa) (hb : EJ c P b Fb) (hbase : ∀ env, attributeBase a "count" env (eval a env) = eval a env := by intro _; rfl) (hst : ∀ env, starEach [b] env = [(false, eval b env)] := by intro _; rfl) (hline : (apos.endLine == pos.line) = true := by rfl) :
    EJ c P (.Call (.Attribute a "count" apos) [b] [] pos) (cMt countT Fa Fb) := by
  obtain ⟨ta, pa, ra⟩ := ha.ex
  obtain ⟨tb, pb, rb⟩ := hb.ex
  refine ⟨tBM c.K "list" (rCountD c.K) ta (tCons tb tNil), fun X h => ?_, fun r σ O H B Q fr q => ?_⟩
  · have hu : X.A.units + 65 < cLine := by
      have h1 := h.room.un
      have h2 := Nat.le_of_ble_eq_true hk
      omega
    have z := pe_bm (X := X) (cpos := pos) (apos := apos) PySem.F.plainAttrs_list PySem.F.slot_list_count PySem.F.type_list_count (mt_countD hu) (pa X h) (pa_cons (pb X h) pa_nil (by rw [hst]; rfl)) (hbase _)
      (by rw [hst]; rfl) hline (by rw [hst]; rfl) rfl
    rw [h.K] at z
    exact z
  · refine ra r σ O H B _ fr ((PK.bind q).imp fun t r1 O1 H1 B1 f1 g1 q1 v rv => ?_)
    cases t with
    | lst xs =>
      refine ⟨rv.tyL f1.sub, rb r1 σ O1 H1 B1 _ f1 ((PK.bind q1).imp fun u r2 O2 H2 B2 f2 g2 q2 w rw' => ?_)⟩
      obtain ⟨z, ez, q3⟩ := PK.opt q2
      simp only [countT] at ez
      split at ez
      · rename_i hd
        obtain ⟨h1, h2⟩ := Bool.and_eq_true_iff.mp hd
        cases ez
        have rv2 := (rv.mono g2.bb).mono f2.sub
        have d1 := dp_of 30 rv2 h1
        cases rv2 with
        | lst s rs =>
          refine ⟨_, w, toD u, toDs xs, rfl, rfl, d1, dp_of 30 (rw'.mono f2.sub) h2, shaped_of h1 (by decide), shaped_of h2 (by decide), ?_⟩
          rw [countP_toD (n := 29) (m := 30) h2 h1]
          exact PK.at q3 f2 _ (.int _)
      · cases ez
    | _ => exact (show False from q1).elim
end
end Tc

/-! Tc: facts of the top about constants that are containers, names for built-ins. -/
namespace Tc
open PySem PySem.Spec L2
section
variable {K : PySem.W.Frag} {h : Heap} {mg : Str → Option Value}
theorem Cf.at_ {cs : List Cf} (e : Cf.all cs K = true) (i : Nat) {f : Cf} (hi : cs[i]? = some f := by rfl) : f.ok K = true := List.all_eq_true.mp e f (List.mem_of_getElem? hi)
theorem con_ok (X : K.In h) (G : h.Ns mainGlobals mg) {x : Str} {t : T} (c : (Cf.con x t).ok K = true) : ∃ v u, mg x = some u ∧ RelV v u ∧ ∀ B, Rep K B v t := by
  have c2 : (match PySem.W.nsIn K mainGlobals x with
    | some (some u) => valIn K 9 u t
    | _ => false) = true := c
  cases e : PySem.W.nsIn K mainGlobals x with
  | none => rw [e] at c2; cases c2
  | some o =>
    rw [e] at c2
    cases o with
    | none => cases c2
    | some u =>
      obtain ⟨v, r1, r2⟩ := valIn_ok 9 u t c2
      exact ⟨v, u, PySem.W.mg_of X G e, r1, r2⟩
theorem blt_ok (X : K.In h) (G : h.Ns mainGlobals mg) {x : Str} {id : String} (c : (Cf.blt x id).ok K = true) : mg x = some (.builtin id) := PySem.W.mg_of X G (He.eqO_ok c)
end
end Tc

/-! Tc: list(x), sorted(x), tuple(x), {}. -/
namespace Tc
open PySem PySem.Spec L2 PyProof.Rows
section
variable {c : SC} {P : List Nat} {a b e : Expr} {es : List Expr} {F Fa Fb : Ec} {A : Ac} {pos p : Pos} {K : PySem.W.Frag}
/-- a new list, of a built-in type -/
theorem fj_callTy {x : Str} {T' : String} {rr : List V → Hp → VK → Prop} {f : List T → Option T} (hc : ∀ X, c.Is X → CallR X (.type T') rr) (hf : SfA c.K rr f) (ha : AJ c P (e :: es) A) (hg : c.sc.names.lookup x = some .globalImplicit := by rfl) (hm : c.mg x = none := by rfl) (hv : bootBuiltins x = some (.type T') := by rfl)
    (hn : x ≠ "__name__" := by decide) (hdb : (x == ("__debug__" : Str)) = false := by decide) (he : ∀ env, starEach (e :: es) env = (false, eval e env) :: starEach es env := by intro _; rfl) (hpl : ∀ env, (backTo pos (starEach es env)).any (·.1) = false := by intro _; rfl) :
    FJ c P (.Call (.Name x p) (e :: es) [] pos) (cApp f A) := by
  obtain ⟨t, pt, rt⟩ := ha.ex
  refine ⟨tCB rr t, fun X h => pe_callTy (hc X h) (by show X.env.scope.names.lookup x = _; rw [h.sc]; exact hg) (by rw [h.mg]; exact hm) hv (pt X h) hn hdb (he _) (hpl _), fun r σ O H B Q fr q => ?_⟩
  refine rt r σ O H B _ fr ((PK.bind q).imp fun ts r1 O1 H1 B1 f1 g1 q1 vs rv => ?_)
  obtain ⟨z, ez, q3⟩ := PK.opt q1
  refine hf H1 B1 vs ts z Q f1.sub rv ez fun p ws us H' e pu n hp rp => ?_
  refine q3 _ H' B1 (f1.own pu n ⟨_, hp⟩) (.own pu n) p ws us e (.inr rfl) (fun i hi z => ?_) hp rp
  obtain ⟨p', _, _, _, h2, _, h4, _⟩ := f1.prv i hi
  rw [h2] at z
  cases z
  rw [n] at h4; cases h4
/-- list(x) of a list, of a tuple -/
def listT : List T → Option T
  | [.lst xs] => some (.lst xs)
  | [.tup xs] => some (.lst xs)
  | _ => none
def rListOf (K : PySem.W.Frag) : List V → Hp → VK → Prop := fun xs H Q => ∃ p ys, xs = [.ref p] ∧ (SqL K H p ys ∨ SqT K H p ys) ∧ ∀ l, H l = none → Q (.ref l) (upd H l (.lst ys))
theorem cl_listOf : ∀ X, c.Is X → CallR X (.type "list") (rListOf c.K) := fun X h => by
  have z := call_list_of (X := X)
  rw [h.K] at z; exact z
theorem sf_listOf : SfA K (rListOf K) listT := by
  intro H B xs ts z Q sB rx e q
  unfold listT at e
  split at e
  · obtain ⟨x, rfl, r⟩ := rx.one_inv
    cases e
    cases r with
    | lst s rs => exact ⟨_, _, rfl, .inl (s.mono sB).sq, fun l hl => q l _ _ _ rfl (.hid sB hl) hl upd_same rs⟩
  · obtain ⟨x, rfl, r⟩ := rx.one_inv
    cases e
    cases r with
    | tup s rs => exact ⟨_, _, rfl, .inr (same_tup sB s), fun l hl => q l _ _ _ rfl (.hid sB hl) hl upd_same rs⟩
  · cases e
/-- sorted(x) of a list of ints -/
def insI (n : Int) : List Int → List Int
  | [] => [n]
  | m :: ms => if n ≤ m then n :: m :: ms else m :: insI n ms
def sortI : List Int → List Int
  | [] => []
  | n :: ns => insI n (sortI ns)
theorem insI_perm (n : Int) : ∀ ms : List Int, (insI n ms).Perm (n :: ms)
  | [] => .refl _
  | m :: ms => by
    unfold insI
    split
    · exact .refl _
    · exact ((insI_perm n ms).cons m).trans (.swap n m ms)
theorem sortI_perm : ∀ ns : List Int, (sortI ns).Perm ns
  | [] => .refl _
  | n :: ns => (insI_perm n _).trans ((sortI_perm ns).cons n)
theorem insI_sorted {n : Int} : ∀ {ms : List Int}, ms.Pairwise (· ≤ ·) → (insI n ms).Pairwise (· ≤ ·)
  | [], _ => List.pairwise_singleton _ _
  | m :: ms, h => by
    obtain ⟨h1, h2⟩ := List.pairwise_cons.mp h
    unfold insI
    split
    · rename_i hn
      exact List.pairwise_cons.mpr ⟨fun a ha => by
        rcases List.mem_cons.mp ha with e | e
        · rw [e]; exact hn
        · exact Int.le_trans hn (h1 a e), h⟩
    · rename_i hn
      refine List.pairwise_cons.mpr ⟨fun a ha => ?_, insI_sorted h2⟩
      rcases List.mem_cons.mp ((insI_perm n ms).mem_iff.mp ha) with e | e
      · rw [e]; omega
      · exact h1 a e
theorem sortI_sorted : ∀ ns : List Int, (sortI ns).Pairwise (· ≤ ·)
  | [] => List.Pairwise.nil
  | n :: ns => insI_sorted (sortI_sorted ns)
def sortedT : List T → Option T
  | [.lst xs] => (intsT xs).map fun ns => .lst ((sortI ns).map .int)
  | _ => none
theorem cl_sorted : ∀ X, c.Is X → CallR X (.builtin "sorted") (rSortedI c.K) := fun X h => by
  have z := cr_sortedI (X := X)
  rw [h.K] at z; exact z
theorem perm_sorted_eq {xs ys : List Int} (h : xs.Perm ys) (h1 : xs.Pairwise (· ≤ ·)) (h2 : ys.Pairwise (· ≤ ·)) : xs = ys :=
  h.eq_of_pairwise (fun _ _ _ _ a b => Int.le_antisymm a b) h1 h2
theorem sf_sorted : SfA K (rSortedI K) sortedT := by
  intro H B xs ts z Q sB rx e q
  unfold sortedT at e
  split at e
  · rename_i ys
    obtain ⟨x, rfl, r⟩ := rx.one_inv
    cases hi : intsT ys with
    | none => rw [hi] at e; cases e
    | some ns =>
      rw [hi] at e
      cases e
      cases r with
      | lst s rs =>
        obtain ⟨h1, h2⟩ := intsT_reps rs hi
        subst h1
        refine ⟨_, ns, rfl, (s.mono sB).sq, fun ns' p hp hs hn => ?_⟩
        have e : ns' = sortI ns := perm_sorted_eq (hp.trans (sortI_perm ns).symm) hs (sortI_sorted ns)
        subst e
        exact q p _ _ _ rfl (.hid sB hn) hn upd_same (Reps.ints _)
  · cases e
/-- {} -/
theorem ej_emp : EJ c P (.Dict [] [] pos) (cK .emp) := by
  refine ⟨tDNewK, fun X h => pe_dnewK, fun r σ O H B Q f q p hp => ?_⟩
  have pu : Pu H B (upd H p (.dK [])) (upd B p (.dK [])) := .new f.sub hp
  exact (show PK c P σ O H B (GoodT c Q) (.ok .emp r) from q).pu f pu _ (.emp upd_same)
end
end Tc

/-! Tc: tuples of ints in order. -/
namespace Tc
open PySem PySem.Spec L2 PyProof.Rows
/-- the first pair that differs tells, else the lengths -/
def lexC (r : Int → Int → Bool) (z : Int → Bool) : List Int → List Int → Bool
  | x :: xs, y :: ys => if x = y then lexC r z xs ys else r x y
  | xs, ys => z ((xs.length : Int) - ys.length)
theorem lexC_at {r : Int → Int → Bool} {z : Int → Bool} {ns ms : List Int} : ∀ (k i : Nat), k = min (ns.length - i) (ms.length - i) → i ≤ ns.length → i ≤ ms.length →
    Ob.lexAt (fun j => decide (ns.getD j 0 = ms.getD j 0)) (fun j => r (ns.getD j 0) (ms.getD j 0)) (z ((ns.length : Int) - ms.length)) i k = lexC r z (ns.drop i) (ms.drop i)
  | 0, i, h, h1, h2 => by
    have e : (ns.length : Int) - ms.length = ((ns.drop i).length : Int) - (ms.drop i).length := by rw [List.length_drop, List.length_drop]; omega
    have hz : (ns.drop i).length = 0 ∨ (ms.drop i).length = 0 := by rw [List.length_drop, List.length_drop]; omega
    rw [Ob.lexAt_zero, e]
    cases hx : ns.drop i with
    | nil => unfold lexC; rfl
    | cons x xs =>
      cases hy : ms.drop i with
      | nil => unfold lexC; rfl
      | cons y ys => rw [hx, hy] at hz; simp at hz
  | k + 1, i, h, h1, h2 => by
    have i1 : i < ns.length := by omega
    have i2 : i < ms.length := by omega
    rw [Ob.lexAt_succ, List.drop_eq_getElem_cons i1, List.drop_eq_getElem_cons i2]
    have g1 : ns.getD i 0 = ns[i] := by simp [i1]
    have g2 : ms.getD i 0 = ms[i] := by simp [i2]
    show (if decide (ns.getD i 0 = ms.getD i 0) = true then _ else r (ns.getD i 0) (ms.getD i 0)) = lexC r z (ns[i] :: ns.drop (i + 1)) (ms[i] :: ms.drop (i + 1))
    have ec : ∀ (x y : Int) (xs ys : List Int), lexC r z (x :: xs) (y :: ys) = if x = y then lexC r z xs ys else r x y := fun _ _ _ _ => rfl
    rw [g1, g2, lexC_at k (i + 1) (by omega) (by omega) (by omega), ec]
    by_cases e : ns[i] = ms[i]
    · rw [if_pos e, if_pos (decide_eq_true e)]
    · rw [if_neg e, if_neg (by rw [decide_eq_false e]; exact Bool.false_ne_true)]
def rTup (K : PySem.W.Frag) (r : Int → Int → Bool) (z : Int → Bool) : R2 := fun x y H Q => ∃ (a b : Addr) (ns ms : List Int), x = .ref a ∧ y = .ref b ∧ SqT K H a (ns.map V.int) ∧ SqT K H b (ms.map V.int) ∧ Q (.bl (lexC r z ns ms)) H
section
variable {c : SC} {K : PySem.W.Frag}
theorem tup_parts {X : Cx} {pins : List (Addr × Obj)} {s : Shared} {σ : L2.St} {H : Hp} {a b : Addr} {ns ms : List Int} (I : Inv X pins σ H s) (ha : SqT X.K H a (ns.map V.int)) (hb : SqT X.K H b (ms.map V.int)) :
    ∃ its its2 : Array Value, s.heap.IsTuple a its ∧ s.heap.IsTuple b its2 ∧ its.size = ns.length ∧ its2.size = ms.length ∧ (∀ j (h : j < its.size), ∃ t, its[j] = .int (ns.getD j 0) t) ∧ (∀ j (h : j < its2.size), ∃ t, its2[j] = .int (ms.getD j 0) t) := by
  obtain ⟨its, r1, p1, _⟩ := I.tuple ha
  obtain ⟨its2, r2, p2, _⟩ := I.tuple hb
  have i1 : IntsAre its ns := Vals.ints r1
  have i2 : IntsAre its2 ms := Vals.ints r2
  exact ⟨its.toArray, its2.toArray, p1, p2, by rw [List.size_toArray]; exact i1.length, by rw [List.size_toArray]; exact i2.length,
    fun j h => PyProof.Rows.IntsAre.int_at i1 _ _ (by simp at h; simp [h]), fun j h => PyProof.Rows.IntsAre.int_at i2 _ _ (by simp at h; simp [h])⟩
theorem eq_parts {A : Around} {s : Shared} {v u : Value} {i j : Int} (h1 : ∃ t, v = .int i t) (h2 : ∃ t, u = .int j t) : SeqAt.EqAt A s v u (decide (i = j)) := by
  obtain ⟨t, e⟩ := h1
  obtain ⟨t', e'⟩ := h2
  rw [e, e']
  have z : (i == j) = decide (i = j) := by
    by_cases q : i = j
    · rw [decide_eq_true q]; exact beq_iff_eq.mpr q
    · rw [decide_eq_false q]; exact beq_eq_false_iff_ne.mpr q
  rw [← z]
  exact SeqAt.EqAt.int_int _ _ _ _
theorem op_tupLt : ∀ X, c.Is X → OpR X (compareOp .Lt) (rTup c.K (fun a b => decide (a < b)) (fun d => decide (d < 0))) := fun X hX pins s σ H x y v u Q I rx ry h => by
  obtain ⟨a, b, ns, ms, rfl, rfl, ha, hb, q⟩ := h
  cases rx; cases ry
  rw [← hX.K] at ha hb
  obtain ⟨its, its2, p1, p2, z1, z2, g1, g2⟩ := tup_parts I ha hb
  have R := Ob.RcOp.tuples_lt (A := X.A) (s := s) (e := fun j => decide (ns.getD j 0 = ms.getD j 0)) (r := fun j => decide (ns.getD j 0 < ms.getD j 0)) p1 p2 hX.room.units0
    (fun j h1 h2 => eq_parts (g1 j h1) (g2 j h2)) (fun j h1 h2 _ => by
      obtain ⟨t, et⟩ := g1 j h1
      obtain ⟨t', et'⟩ := g2 j h2
      rw [et, et']; exact Ob.RcOp.lt_int _ _ _ _)
  rw [z1, z2, show decide (ns.length < ms.length) = (fun d : Int => decide (d < 0)) ((ns.length : Int) - ms.length) from by simp only [decide_eq_decide]; omega] at R
  rw [lexC_at (r := fun a b => decide (a < b)) (z := fun d => decide (d < 0)) _ 0 (by simp) (Nat.zero_le _) (Nat.zero_le _), List.drop_zero, List.drop_zero] at R
  exact R X.prog X.w X.xe (EP X pins σ Q) ⟨.bl _, H, I, rfl, q⟩
theorem op_tupGe : ∀ X, c.Is X → OpR X (compareOp .GtE) (rTup c.K (fun a b => decide (b ≤ a)) (fun d => decide (0 ≤ d))) := fun X hX pins s σ H x y v u Q I rx ry h => by
  obtain ⟨a, b, ns, ms, rfl, rfl, ha, hb, q⟩ := h
  cases rx; cases ry
  rw [← hX.K] at ha hb
  obtain ⟨its, its2, p1, p2, z1, z2, g1, g2⟩ := tup_parts I ha hb
  have R := Ob.RcOp.tuples_ge (A := X.A) (s := s) (e := fun j => decide (ns.getD j 0 = ms.getD j 0)) (r := fun j => decide (ms.getD j 0 ≤ ns.getD j 0)) p1 p2 hX.room.units0
    (fun j h1 h2 => eq_parts (g1 j h1) (g2 j h2)) (fun j h1 h2 _ => by
      obtain ⟨t, et⟩ := g1 j h1
      obtain ⟨t', et'⟩ := g2 j h2
      rw [et, et']; exact Ob.RcOp.ge_int _ _ _ _)
  rw [z1, z2, show decide (ns.length ≥ ms.length) = (fun d : Int => decide (0 ≤ d)) ((ns.length : Int) - ms.length) from by simp only [decide_eq_decide]; omega] at R
  rw [lexC_at (r := fun a b => decide (b ≤ a)) (z := fun d => decide (0 ≤ d)) _ 0 (by simp) (Nat.zero_le _) (Nat.zero_le _), List.drop_zero, List.drop_zero] at R
  exact R X.prog X.w X.xe (EP X pins σ Q) ⟨.bl _, H, I, rfl, q⟩
/-- tuples of ints -/
def tupT (r : Int → Int → Bool) (z : Int → Bool) : T → T → Option T
  | .tup xs, .tup ys => (intsT xs).bind fun ns => (intsT ys).map fun ms => .bl (lexC r z ns ms)
  | _, _ => none
theorem sd_tup {r : Int → Int → Bool} {z : Int → Bool} : Sd2 K (rTup K r z) (tupT r z) := by
  intro H B x y t u w Q sB rx ry e q
  cases rx with
  | tup s rs =>
    cases ry with
    | tup s2 rs2 =>
      rename_i a1 v1 xs a2 v2 ys
      simp only [tupT] at e
      cases h1 : intsT xs with
      | none => rw [h1] at e; cases e
      | some ns =>
        cases h2 : intsT ys with
        | none => rw [h1, h2] at e; cases e
        | some ms =>
          rw [h1, h2] at e
          cases e
          obtain ⟨e1, _⟩ := intsT_reps rs h1
          obtain ⟨e2, _⟩ := intsT_reps rs2 h2
          subst e1 e2
          exact ⟨_, _, ns, ms, rfl, rfl, same_tup sB s, same_tup sB s2, q _ H B (.refl sB) (.bl _)⟩
    | _ => cases e
  | _ => cases e
def ltQ : T → T → Option T := tupT (fun a b => decide (a < b)) (fun d => decide (d < 0))
def geQ : T → T → Option T := tupT (fun a b => decide (b ≤ a)) (fun d => decide (0 ≤ d))
end
end Tc

/-! Tc: sum(lists, list). -/
namespace Tc
open PySem PySem.Spec L2 PyProof.Rows

abbrev lsO (us : List Value) (n : Nat) : Obj := { cls := .type "list", data := .seq us.toArray n }
/-- what stands in the first lists -/
def preL (st : List Value) (f : Nat → List Value) : Nat → List Value
  | 0 => st
  | i + 1 => preL st f i ++ f i
section
variable {prog : Program} {w : World} {A : Around} {R : Result → Shared → Prop}
theorem sumL_go (hh : A.in1.handled = none) {l I S : Addr} {its : Array Value} (hI : l ≠ I) (hSI : S ≠ I) (hSl : S ≠ l) {st : List Value} {f : Nat → List Value} {base : Heap}
    (hf : ∀ j (h : j < its.size), ∃ a n, its[j] = .ref a ∧ base.get? a = some (lsO (f j) n)) (fr : ∀ b o, base.get? b = some o → b ≠ I ∧ b ≠ S) (hz : ∀ j, j ≤ its.size → (preL st f j).length ≤ sizeLine) :
    ∀ (k i : Nat) (s : Shared) (acc : Addr) (n c : Nat), its.size - i = k → i ≤ its.size → (∀ b o, base.get? b = some o → s.heap.get? b = some o) → s.heap.IsListIter I l i → s.heap.IsList l its →
      s.heap.get? acc = some (lsO (preL st f i) n) → acc ≠ I → acc ≠ S → s.heap.get? S = some { cls := .type "list", data := .seq #[.ref acc] c } →
      (∀ h' acc' n' tk, (∀ b o, base.get? b = some o → h'.get? b = some o) → h'.get? acc' = some (lsO (preL st f its.size) n') → (i = its.size → acc' = acc) → (i < its.size → s.heap.objs.size ≤ acc') →
        R (.ok (.ret (.ref acc'))) { s with heap := h', toks := tk }) →
      codeAny (model prog w) A (.builtin "sum.loop" ⟨[.ref I, .ref S, rawInt 2, rawInt 0], []⟩) R s := by
  have W := Walks.list (prog := prog) (w := w) (A := A.in1) hh I l hI its
  intro k
  induction k with
  | zero =>
    intro i s acc n c hk hi hb hit hl hacc nI nS hS hR
    have hin : i = its.size := by omega
    refine codeAny_builtin PySem.F.entry_sum_loop ?_
    rw [Around.under_plainId PySem.F.plain_sum_loop _]
    show wpAny _ A.in1 (seqItems? (.ref S) >>= _) _ _ s
    refine wpAny_bind (wpAny_seqItems hS rfl ?_)
    show wpAny _ A.in1 (tryCatch (pyNext (.ref I)) _ >>= _) _ _ s
    refine wpAny_bind (wpAny_tryCatch (W.done s _ _ (by rw [← hin]; exact ⟨hit, hl⟩) fun h' tk hk' => ?_))
    refine wpAny_pure (hR h' acc n tk (fun b o e => hk' b o (fun hm => (fr b o e).1 (by simpa using hm)) (hb b o e)) ?_ (fun _ => rfl) fun z => absurd z (by omega))
    rw [← hin]
    exact hk' acc _ (fun hm => nI (by simpa using hm)) hacc
  | succ k ih =>
    intro i s acc n c hk hi hb hit hl hacc nI nS hS hR
    have hlt : i < its.size := by omega
    refine codeAny_builtin PySem.F.entry_sum_loop ?_
    rw [Around.under_plainId PySem.F.plain_sum_loop _]
    show wpAny _ A.in1 (seqItems? (.ref S) >>= _) _ _ s
    refine wpAny_bind (wpAny_seqItems hS rfl ?_)
    show wpAny _ A.in1 (tryCatch (pyNext (.ref I)) _ >>= _) _ _ s
    refine wpAny_bind (wpAny_tryCatch (wpAny_pyNext_list_item hit hl (x := its[i]) (by simp [hlt]) fun h' hit' hs' => ?_))
    have hk' : ∀ b o, b ∉ [I] → s.heap.get? b = some o → h'.get? b = some o := fun b o hb e => hs'.extBut b o (fun h => hb (by simp [h])) e
    have hl' : h'.IsList l its := hl.extBut hs'.extBut hI
    have szeq : h'.objs.size = s.heap.objs.size := hs'.1
    have nm : ∀ b, b ≠ I → b ∉ [I] := fun b h hm => h (by simpa using hm)
    obtain ⟨a, m, ea, ga⟩ := hf i hlt
    rw [ea]
    have ga' : h'.get? a = some (lsO (f i) m) := hk' a _ (nm a (fr a _ ga).1) (hb a _ ga)
    have hacc' := hk' acc _ (nm acc nI) hacc
    have hS' := hk' S _ (nm S hSI) hS
    have hlen : (preL st f i).toArray.size + (f i).toArray.size ≤ sizeLine := by
      have := hz (i + 1) hlt
      unfold preL at this
      rw [List.length_append] at this
      rw [List.size_toArray, List.size_toArray]; exact this
    show wpAny _ A.in1 ((holding [Value.ref a] (binaryOp .Add (.ref acc) (.ref a))).attempt >>= _) _ _ _
    refine wpAny_bind (wpAny_attempt (wpAny_holding (PySem.P.add_list hacc' ga' ?_ hlen)))
    show wpAny _ A.in1 (updateSeq S (fun _ => #[.ref h'.objs.size]) >>= _) _ _ _
    have hS2 : (h'.push (lsO (preL st f i ++ f i) 0)).get? S = some { cls := .type "list", data := .seq #[.ref acc] c } := Heap.get?_push_of_some _ hS'
    have epush : h'.push { cls := .type "list", data := .seq ((preL st f i).toArray ++ (f i).toArray) } = h'.push (lsO (preL st f i ++ f i) 0) := by simp [lsO]
    rw [epush]
    refine wpAny_bind (wpAny_updateSeq hS2 rfl ?_)
    have hS3 := Heap.get?_update_self (Obj.mapSeq fun _ => #[Value.ref h'.objs.size]) hS2 rfl
    refine wpAny_bind (wpAny_letGo ?_)
    refine wpAny_bind ?_
    have sp : (h'.push (lsO (preL st f i ++ f i) 0)).objs.size = h'.objs.size + 1 := Heap.size_push ..
    have lt : ∀ b o, h'.get? b = some o → b ≠ h'.objs.size := fun b o e z => Nat.lt_irrefl _ (z ▸ Heap.lt_size e)
    have up : ∀ b, b ≠ S → ∀ {g1 g2 : Obj → Obj}, (((h'.push (lsO (preL st f i ++ f i) 0)).update S g1).update S g2).get? b = (h'.push (lsO (preL st f i ++ f i) 0)).get? b := fun b hb {g1 g2} =>
      (Heap.get?_update_other _ _ (Ne.symm hb)).trans (Heap.get?_update_other _ _ (Ne.symm hb))
    refine wpAny_updateSeq hS3 rfl (wpAny_pure ⟨plainId_quiet PySem.F.plain_sum_loop _, ih (i + 1) _ h'.objs.size 0 _ (by omega) hlt (fun b o e => ?_) ?_ ?_ ?_ ?_ ?_ (Heap.get?_update_self _ hS3 rfl) fun h'' acc' n' tk'' kb ga0 e1 e2 => ?_⟩)
    · exact (up b (fr b o e).2).trans (Heap.get?_push_of_some _ (hk' b o (nm b (fr b o e).1) (hb b o e)))
    · exact hit'.at fun o e => (up I (Ne.symm hSI)).trans (Heap.get?_push_of_some _ e)
    · exact hl'.at fun o e => (up l (Ne.symm hSl)).trans (Heap.get?_push_of_some _ e)
    · exact (up _ (Ne.symm (lt S _ hS'))).trans (Heap.get?_push_size _ rfl)
    · obtain ⟨o, ho, _⟩ := id hit'
      exact Ne.symm (lt I o ho)
    · exact Ne.symm (lt S _ hS')
    · refine hR h'' acc' n' tk'' kb ga0 (fun z => absurd z (by omega)) fun _ => ?_
      by_cases z : i + 1 = its.size
      · rw [e1 z, szeq]; exact Nat.le_refl _
      · have := e2 (by omega)
        simp only [Heap.size_after_update, sp] at this
        omega
theorem args_sumL (a b : Value) : argsOk "sum" ⟨[a, b], []⟩ := by unfold argsOk; kernel_rfl
theorem call_sumL {E : Value → Shared → Prop} {s : Shared} {Q : Value → Shared → Prop} (hh : A.handled = none) {l a0 : Addr} {its : Array Value} {st : List Value} {n0 : Nat} {f : Nat → List Value} (hl : s.heap.IsList l its) (hst : s.heap.get? a0 = some (lsO st n0))
    (hf : ∀ j (h : j < its.size), ∃ a n, its[j] = .ref a ∧ s.heap.get? a = some (lsO (f j) n)) (hz : ∀ j, j ≤ its.size → (preL st f j).length ≤ sizeLine)
    (h : ∀ h' acc' n' tk, (∀ b o, s.heap.get? b = some o → h'.get? b = some o) → h'.get? acc' = some (lsO (preL st f its.size) n') → (its.size = 0 → acc' = a0) → (0 < its.size → s.heap.objs.size ≤ acc') → Q (.ref acc') { s with heap := h', toks := tk }) :
    wpAny (model prog w) A (call (.builtin "sum") [.ref l, .ref a0]) Q E s := by
  have hlt : l < s.heap.objs.size := by obtain ⟨_, e, _⟩ := id hl; exact Heap.lt_size e
  have ha0 : a0 < s.heap.objs.size := Heap.lt_size hst
  refine call_function_tree PySem.F.kind_sum PySem.F.plain_sum PySem.F.entry_sum (args_sumL _ _) ?_
  unfold Builtin.«sum»
  simp only [List.length_cons, List.length_nil]
  rw [if_neg (by decide)]
  refine wpAny_bind (wpAny_of_eq (show Builtin.Builtins.bindParams "sum" ["start"] 0 ⟨[.ref a0], []⟩ = pure [some (.ref a0)] from rfl) ?_)
  refine wpAny_bind (wpAny_pyIter_list hl ?_)
  refine wpAny_bind (wpAny_pure ?_)
  have ty : ∀ s2 : Shared, s2.heap.get? a0 = some (lsO st n0) → s2.TypeIs (.ref a0) "list" := fun s2 e => ⟨_, e, rfl⟩
  have g1 : (s.heap.push { cls := .type "list_iterator", data := .fields #[.ref l, .int 0 0] }).get? a0 = some (lsO st n0) := Heap.get?_push_of_some _ hst
  simp only [List.forIn_cons, List.forIn_nil]
  refine wpAny_bind (wpAny_bind (wpAny_bind (wpAny_isInstance (T := "list") (b := false) (ty _ g1) PySem.F.sub_list_str ?_)))
  simp only [Bool.false_eq_true, if_false]
  refine wpAny_pure (wpAny_bind (wpAny_bind (wpAny_isInstance (T := "list") (b := false) (ty _ g1) PySem.F.sub_list_bytes ?_)))
  simp only [Bool.false_eq_true, if_false]
  refine wpAny_pure (wpAny_bind (wpAny_bind (wpAny_isInstance (T := "list") (b := false) (ty _ g1) PySem.F.sub_list_bytearray ?_)))
  simp only [Bool.false_eq_true, if_false]
  refine wpAny_pure (wpAny_pure ?_)
  refine wpAny_bind (wpAny_newObj_type ?_)
  have z1 : (s.heap.push { cls := .type "list_iterator", data := .fields #[.ref l, .int 0 0] }).objs.size = s.heap.objs.size + 1 := Heap.size_push ..
  refine wpAny_pure ⟨plainId_quiet PySem.F.plain_sum_loop _, ?_⟩
  have k1 : ∀ b o, s.heap.get? b = some o → ((s.heap.push { cls := .type "list_iterator", data := .fields #[.ref l, .int 0 0] }).push { cls := .type "list", data := .seq #[.ref a0] }).get? b = some o := fun b o e => Heap.get?_push_of_some _ (Heap.get?_push_of_some _ e)
  refine sumL_go (A := A) hh (l := l) (I := s.heap.objs.size) (S := (s.heap.push { cls := .type "list_iterator", data := .fields #[.ref l, .int 0 0] }).objs.size) (its := its) (st := st) (f := f) (base := s.heap) (Nat.ne_of_lt hlt) (by rw [z1]; exact Nat.succ_ne_self _) (by rw [z1]; exact Ne.symm (Nat.ne_of_lt (Nat.lt_succ_of_lt hlt))) hf
    (fun b o e => ⟨Nat.ne_of_lt (Heap.lt_size e), by rw [z1]; exact Nat.ne_of_lt (Nat.lt_succ_of_lt (Heap.lt_size e))⟩) hz its.size 0 _ a0 n0 0 rfl (Nat.zero_le _) k1 ?_ ?_ (k1 _ _ hst) (Nat.ne_of_lt ha0) (by rw [z1]; exact Nat.ne_of_lt (Nat.lt_succ_of_lt ha0)) (Heap.get?_push_size _ rfl) fun h' acc' n' tk kb ga e1 e2 => ?_
  · exact ⟨_, Heap.get?_push_of_some _ (Heap.get?_push_size _ rfl), rfl, rfl⟩
  · exact (hl.push _).push _
  · refine h h' acc' n' tk kb ga (fun z => e1 z.symm) fun z => ?_
    have := e2 z
    have z2 : ((s.heap.push { cls := .type "list_iterator", data := .fields #[.ref l, .int 0 0] }).push { cls := .type "list", data := .seq #[.ref a0] }).objs.size = s.heap.objs.size + 2 := by rw [Heap.size_push, z1]
    have t : ((s.heap.push { cls := .type "list_iterator", data := .fields #[.ref l, .int 0 0] }).push { cls := .type "list", data := .seq #[.ref a0] }).objs.size ≤ acc' := this
    omega
end
end Tc

/-! Tc: sum(lists, list) on trees. -/
namespace Tc
open PySem PySem.Spec L2 PyProof.Rows
/-- lists, their items -/
def listsT : List T → Option (List (List T))
  | [] => some []
  | .lst x :: xs => (listsT xs).map (x :: ·)
  | _ => none
def sumLT : List T → Option T
  | [.lst xs, .lst ws] => (listsT xs).bind fun ls => if ws.length + ls.flatten.length ≤ LIM then some (.lst (ws ++ ls.flatten)) else none
  | _ => none
inductive LsAll (K : PySem.W.Frag) (H : Hp) : List V → List (List V) → Prop
  | nil : LsAll K H [] []
  | cons {a : Addr} {v : List V} {vs : List V} {ls : List (List V)} : LsAt K H a v → LsAll K H vs ls → LsAll K H (.ref a :: vs) (v :: ls)
def rSumLs (K : PySem.W.Frag) : List V → Hp → VK → Prop := fun zs H Q => ∃ (a b : Addr) (vs ws : List V) (ls : List (List V)), zs = [.ref a, .ref b] ∧ LsAt K H a vs ∧ LsAt K H b ws ∧ LsAll K H vs ls ∧ ws.length + ls.flatten.length ≤ sizeLine ∧
  (ls = [] → Q (.ref b) H) ∧ (ls ≠ [] → ∀ p, H p = none → Q (.ref p) (upd H p (.lst (ws ++ ls.flatten))))
theorem listsT_reps {K : PySem.W.Frag} {B : Hp} : ∀ {ts : List T} {vs : List V} {lt : List (List T)}, Reps K B vs ts → listsT ts = some lt → ∃ ls, LsAll K B vs ls ∧ Reps K B ls.flatten lt.flatten ∧ ls.length = lt.length
  | [], _, _, .nil, e => by cases e; exact ⟨[], .nil, .nil, rfl⟩
  | t :: ts, _, lt, .cons r rs, e => by
    cases r with
    | @lst a v us s r2 =>
      unfold listsT at e
      cases h : listsT ts with
      | none => rw [h] at e; cases e
      | some l2 =>
        rw [h] at e
        cases e
        obtain ⟨ls, h1, h2, h3⟩ := listsT_reps rs h
        exact ⟨v :: ls, .cons s h1, by rw [List.flatten_cons, List.flatten_cons]; exact r2.append h2, congrArg (· + 1) h3⟩
    | _ => cases e
theorem LsAll.mono {K : PySem.W.Frag} {B H : Hp} (e : Same B H) : ∀ {vs : List V} {ls : List (List V)}, LsAll K B vs ls → LsAll K H vs ls
  | _, _, .nil => .nil
  | _, _, .cons s r => .cons (s.mono e) (LsAll.mono e r)
theorem sd_sumL {K : PySem.W.Frag} : SdA K (rSumLs K) sumLT := by
  intro H B xs ts z Q sB rx e q
  unfold sumLT at e
  split at e
  · rename_i xs0 ws0
    obtain ⟨x, y, rfl, r1, r2⟩ := rx.two_inv
    cases h : listsT xs0 with
    | none => rw [h] at e; cases e
    | some lt =>
      rw [h] at e
      simp only [Option.bind_some] at e
      split at e
      · rename_i hz
        cases e
        cases r1 with
        | lst s1 rs1 =>
          cases r2 with
          | lst s2 rs2 =>
            obtain ⟨ls, h1, h2, h3⟩ := listsT_reps rs1 h
            refine ⟨_, _, _, _, ls, rfl, s1.mono sB, s2.mono sB, h1.mono sB, by rw [rs2.length, h2.length]; exact lim_line hz, fun z => ?_, fun _ p hp => ?_⟩
            · subst z
              have : lt = [] := List.eq_nil_of_length_eq_zero h3.symm
              subst this
              rw [List.flatten_nil, List.append_nil] at q
              exact q _ H B (.refl sB) (.lst s2 rs2)
            · obtain ⟨pu, rp⟩ := Rep.newL sB (rs2.append h2) hp
              exact q _ _ _ pu rp
      · cases e
  · cases e
theorem LsAll.at_ {K : PySem.W.Frag} {H : Hp} : ∀ {vs : List V} {ls : List (List V)}, LsAll K H vs ls → vs.length = ls.length ∧ ∀ j (h : j < ls.length), ∃ a, vs[j]? = some (.ref a) ∧ LsAt K H a ls[j]
  | _, _, .nil => ⟨rfl, fun j h => nomatch h⟩
  | _, _, .cons s r => ⟨congrArg (· + 1) (LsAll.at_ r).1, fun j h => by
    cases j with
    | zero => exact ⟨_, rfl, s⟩
    | succ j => obtain ⟨a, h1, h2⟩ := (LsAll.at_ r).2 j (Nat.lt_of_succ_lt_succ h); exact ⟨a, h1, h2⟩⟩
theorem preL_vals {ws : List V} {ls : List (List V)} {st : List Value} {f : Nat → List Value} (h0 : Vals ws st) (hf : ∀ j (h : j < ls.length), Vals ls[j] (f j)) : ∀ j, j ≤ ls.length → Vals (ws ++ (ls.take j).flatten) (preL st f j)
  | 0, _ => by rw [List.take_zero, List.flatten_nil, List.append_nil]; exact h0
  | j + 1, h => by
    have ih := preL_vals h0 hf j (by omega)
    rw [List.take_succ_eq_append_getElem (by omega), List.flatten_append, ← List.append_assoc]
    unfold preL
    refine ih.append ?_
    rw [List.flatten_cons, List.flatten_nil, List.append_nil]
    exact hf j (by omega)
theorem cl_sumLs {c : SC} : ∀ X, c.Is X → CallR X (.builtin "sum") (rSumLs c.K) := by
  intro X hX pins s σ H zs us Q I r h
  rw [← hX.K] at h
  obtain ⟨a, b, vs, ws, ls, rfl, ha, hb, hall, hz, q0, q1⟩ := h
  obtain ⟨u1, u2, rfl, e1, e2⟩ := vals2 r
  cases e1
  cases e2
  obtain ⟨its, n, r1, _, g1⟩ := ha.obj I
  obtain ⟨itb, nb, r2, _, g2⟩ := hb.obj I
  obtain ⟨hl, hat⟩ := hall.at_
  have hn : its.length = ls.length := by rw [← r1.length, hl]
  have hex : ∀ j, ∃ w : List Value, ∀ h : j < ls.length, Vals ls[j] w ∧ ∃ p m, its[j]? = some (.ref p) ∧ s.heap.get? p = some (lsO w m) := fun j => by
    by_cases h : j < ls.length
    · obtain ⟨p, h1, h2⟩ := hat j h
      obtain ⟨w, m, r3, _, g3⟩ := h2.obj I
      obtain ⟨u, e, ru⟩ := r1.get h1
      cases ru
      exact ⟨w, fun _ => ⟨r3, p, m, e, g3⟩⟩
    · exact ⟨[], fun h' => absurd h' h⟩
  have hf := fun j => Classical.choose_spec (hex j)
  have pv := preL_vals (f := fun j => Classical.choose (hex j)) r2 fun j h => (hf j h).1
  refine call_sumL (its := its.toArray) (st := itb) (f := fun j => Classical.choose (hex j)) (I.ok.hd hX.calm) ⟨_, g1, rfl, _, rfl⟩ g2 (fun j h => ?_) (fun j h => ?_) fun h' acc' n' tk kb ga e1 e2 => ?_
  · have h' : j < ls.length := by rw [← hn]; simpa using h
    obtain ⟨p, m, e, g⟩ := (hf j h').2
    refine ⟨p, m, ?_, g⟩
    have hj : j < its.length := by rw [hn]; exact h'
    rw [List.getElem?_eq_getElem hj] at e
    simpa using e
  · have h' : j ≤ ls.length := by rw [← hn]; simpa using h
    rw [← (pv j h').length, List.length_append]
    refine Nat.le_trans (Nat.add_le_add_left ?_ _) hz
    have : ls.flatten = (ls.take j).flatten ++ (ls.drop j).flatten := by rw [← List.flatten_append, List.take_append_drop]
    rw [this, List.length_append]; omega
  · have hs : its.toArray.size = ls.length := by rw [List.size_toArray, hn]
    by_cases z : ls = []
    · have e := e1 (by rw [hs, z]; rfl)
      subst e
      exact ⟨.ref _, H, I.kept kb, rfl, q0 z⟩
    · have hp : 0 < ls.length := List.length_pos_iff.mpr z
      have sz := e2 (by rw [hs]; exact hp)
      rw [hs] at ga
      have v := pv ls.length (Nat.le_refl _)
      rw [List.take_length] at v
      exact ⟨.ref acc', _, I.laid (t' := tk) (o := .lst (ws ++ ls.flatten)) kb sz ⟨by rw [List.length_append]; exact hz, _, n', v, ga⟩, rfl, q1 z _ (I.hok.fresh sz)⟩
end Tc

/-! Tc: sorted, min, max of rows and other data. -/
namespace Tc
open PySem PySem.Spec L2 PyProof.Rows
/-- every two alike -/
def alB (ds : List PyData) : Bool := ds.all fun d => ds.all fun e => PySem.W.alike d e
/-- no tuple, not None -/
def nnT : T → Bool
  | .lst _ => true
  | .int _ => true
  | .str _ => true
  | .bl _ => true
  | _ => false
def ltD (t u : T) : Bool := PySem.W.dataLt (toD t) (toD u)
def sortDT : List T → Option T
  | [.lst xs] => if (dOks 30 xs && alB (toDs xs) && xs.all nnT) = true then some (.lst (xs.mergeSort fun a b => !ltD b a)) else none
  | _ => none
def minDT : List T → Option T
  | [.lst (x :: xs)] => if (dOks 30 (x :: xs) && alB (toDs (x :: xs)) && (x :: xs).all nnT) = true then some (xs.foldl (fun a y => if ltD y a then y else a) x) else none
  | _ => none
def maxDT : List T → Option T
  | [.lst (x :: xs)] => if (dOks 30 (x :: xs) && alB (toDs (x :: xs)) && (x :: xs).all nnT) = true then some (xs.foldl (fun a y => if ltD a y then y else a) x) else none
  | _ => none
theorem alB_all {ds : List PyData} (h : alB ds = true) : PySem.W.AllAlike ds := fun d hd e he => List.all_eq_true.mp (List.all_eq_true.mp h d hd) e he
theorem dOks_mem : ∀ {n : Nat} {ts : List T}, dOks n ts = true → ∀ t ∈ ts, dOk n t = true
  | n, t :: ts, h, u, hu => by
    obtain ⟨h1, h2⟩ := Bool.and_eq_true_iff.mp (show (dOk n t && dOks n ts) = true from h)
    rcases List.mem_cons.mp hu with e | e
    · rw [e]; exact h1
    · exact dOks_mem h2 u e
theorem nnT_ne {t : T} (h : nnT t = true) : toD t ≠ .none ∧ ∀ xs, toD t ≠ .tuple xs := by
  cases t <;> first | (simp [nnT] at h; done) | exact ⟨by simp [toD], fun _ => by simp [toD]⟩
mutual
theorem toD_inj : ∀ (n : Nat) {t u : T}, dOk n t = true → dOk n u = true → toD t = toD u → t = u
  | n, .lst xs, u, h, h', e => by
    cases n with
    | zero => cases h
    | succ n =>
      cases u with
      | lst ys => rw [toDs_inj n h h' (PyData.list.inj e)]
      | _ => cases e
  | n, .tup xs, u, h, h', e => by
    cases n with
    | zero => cases h
    | succ n =>
      cases u with
      | tup ys => rw [toDs_inj n h h' (PyData.tuple.inj e)]
      | _ => cases e
  | n, .non, u, h, h', e => by
    cases u <;> first | rfl | (simp [toD] at e; done) | (cases n <;> simp [dOk] at h')
  | n, .bl b, u, h, h', e => by
    cases u <;> first | ((simp only [toD] at e); (cases e); done) | (cases n <;> simp [dOk] at h'; done) | (rw [PyData.bool.inj e])
  | n, .int b, u, h, h', e => by
    cases u <;> first | ((simp only [toD] at e); (cases e); done) | (cases n <;> simp [dOk] at h'; done) | (rw [PyData.int.inj e])
  | n, .str b, u, h, h', e => by
    cases u <;> first | ((simp only [toD] at e); (cases e); done) | (cases n <;> simp [dOk] at h'; done) | (rw [PyData.str.inj e])
  | n, .emp, _, h, _, _ => by cases n <;> cases h
  | n, .exc _ _, _, h, _, _ => by cases n <;> cases h
  | n, .clo _ _, _, h, _, _ => by cases n <;> cases h
  | n, .ty _, _, h, _, _ => by cases n <;> cases h
  | n, .cls _, _, h, _, _ => by cases n <;> cases h
theorem toDs_inj : ∀ (n : Nat) {t u : List T}, dOks n t = true → dOks n u = true → toDs t = toDs u → t = u
  | _, [], [], _, _, _ => rfl
  | _, [], _ :: _, _, _, e => nomatch e
  | _, _ :: _, [], _, _, e => nomatch e
  | n, t :: ts, u :: us, h, h', e => by
    obtain ⟨h1, h2⟩ := Bool.and_eq_true_iff.mp (show (dOk n t && dOks n ts) = true from h)
    obtain ⟨k1, k2⟩ := Bool.and_eq_true_iff.mp (show (dOk n u && dOks n us) = true from h')
    obtain ⟨e1, e2⟩ := List.cons.inj (show toD t :: toDs ts = toD u :: toDs us from e)
    rw [toD_inj n h1 k1 e1, toDs_inj n h2 k2 e2]
end
/-- a list of data, item by item: the value, the tree -/
def DaL (K : PySem.W.Frag) (H : Hp) (a : Addr) (ps : List (V × T)) : Prop := SqL K H a (ps.map Prod.fst) ∧ DpAll K H (ps.map Prod.fst) (toDs (ps.map Prod.snd)) ∧ dOks 30 (ps.map Prod.snd) = true ∧ alB (toDs (ps.map Prod.snd)) = true ∧ (ps.map Prod.snd).all nnT = true
def rSortD (K : PySem.W.Frag) : List V → Hp → VK → Prop := fun vs H Q => ∃ (a : Addr) (ps : List (V × T)), vs = [V.ref a] ∧ DaL K H a ps ∧
  ∀ p, H p = none → Q (.ref p) (upd H p (.lst ((ps.mergeSort fun a b => !ltD b.2 a.2).map Prod.fst)))
def rMinD (K : PySem.W.Frag) : List V → Hp → VK → Prop := fun vs H Q => ∃ (a : Addr) (q : V × T) (ps : List (V × T)), vs = [V.ref a] ∧ DaL K H a (q :: ps) ∧
  ∀ v t, (v, t) ∈ q :: ps → toD t = PySem.W.minD (toD q.2) (toDs (ps.map Prod.snd)) → Q v H
def rMaxD (K : PySem.W.Frag) : List V → Hp → VK → Prop := fun vs H Q => ∃ (a : Addr) (q : V × T) (ps : List (V × T)), vs = [V.ref a] ∧ DaL K H a (q :: ps) ∧
  ∀ v t, (v, t) ∈ q :: ps → toD t = PySem.W.maxD (toD q.2) (toDs (ps.map Prod.snd)) → Q v H
section
variable {X : Cx}
theorem vals_each : ∀ {ps : List (V × T)} {us : List Value}, Vals (ps.map Prod.fst) us → PySem.W.EachIs (fun u (p : V × T) => RelV p.1 u) us ps
  | [], _, h => by
    have h' : Vals [] _ := h
    cases h'
    exact .nil
  | p :: ps, _, h => by
    have h' : Vals (p.1 :: ps.map Prod.fst) _ := h
    cases h' with
    | cons r rs => exact .cons r (vals_each rs)
theorem each_vals : ∀ {ps : List (V × T)} {us : List Value}, PySem.W.EachIs (fun u (p : V × T) => RelV p.1 u) us ps → Vals (ps.map Prod.fst) us
  | _, _, .nil => .nil
  | _, _, .cons r rs => .cons r (each_vals rs)
theorem cr_sortD (hu : X.A.units + 64 < cLine) : CallR X (.builtin "sorted") (rSortD X.K) := by
  intro pins s σ H vs us Q I r h
  obtain ⟨a, ps, rfl, ⟨hs, hd, h1, h2, h3⟩, q⟩ := h
  obtain ⟨its, rv, hl, hz⟩ := I.list hs
  rw [Vals.ref1 r]
  obtain ⟨as, hr⟩ := Dp.readsAll I _ _ _ hd rv
  have e0 : toDs (ps.map Prod.snd) = ps.map fun p => toD p.2 := by rw [toDs_map, List.map_map]; rfl
  rw [e0] at hr h2
  have er := PySem.W.readsAll_each (fun p : V × T => toD p.2) hr
  have hdep : ∀ b, b ∈ ps → X.A.units + 2 + (toD b.2).depth < cLine := fun b hb => by
    have := (toD_lay 30 b.2 (dOks_mem h1 b.2 (List.mem_map.mpr ⟨b, hb, rfl⟩))).2
    omega
  refine PySem.W.sorted_data (enc := fun p : V × T => toD p.2) hl.isList (vals_each rv) er (alB_all h2) (.inr fun d hd' => ?_) (by rw [List.length_map] at hz; exact hz) hdep fun out ho eo => ?_
  · obtain ⟨b, hb, rfl⟩ := List.mem_map.mp hd'
    exact nnT_ne (List.all_eq_true.mp h3 b.2 (List.mem_map.mpr ⟨b, hb, rfl⟩))
  · obtain ⟨ep, he'⟩ := PyProof.Rows.sortedAll_at s.heap its out.toArray
    have em : ps.mergeSort (PySem.W.dataLe false fun p : V × T => toD p.2) = ps.mergeSort fun a b => !ltD b.2 a.2 := rfl
    rw [em] at eo
    have hlen : ((ps.mergeSort fun a b => !ltD b.2 a.2).map Prod.fst).length ≤ sizeLine := by
      rw [List.length_map, (List.mergeSort_perm ..).length_eq]
      rw [List.length_map] at hz
      exact hz
    exact ⟨.ref _, upd H (s.heap.objs.size + 1) (.lst ((ps.mergeSort fun a b => !ltD b.2 a.2).map Prod.fst)), I.laid (t' := s.toks) (fun _ _ => PyProof.Rows.sortedAll_old) (Nat.le_succ _) ⟨hlen, out, ep, each_vals eo, he'⟩, rfl, q _ (I.hok.fresh (Nat.le_succ _))⟩
theorem al_of {ds : List PyData} {ts : List T} (e : ds = toDs ts) (h2 : alB ds = true) (h3 : ts.all nnT = true) : PySem.W.AlikeAll ds := by
  refine ⟨alB_all h2, fun d hd => ?_⟩
  rw [e, toDs_map] at hd
  obtain ⟨t, ht, rfl⟩ := List.mem_map.mp hd
  exact (nnT_ne (List.all_eq_true.mp h3 t ht)).1
theorem vals_at : ∀ {ps : List (V × T)} {us : List Value} {i : Nat} {u : Value}, Vals (ps.map Prod.fst) us → us[i]? = some u → ∃ p, ps[i]? = some p ∧ RelV p.1 u
  | [], _, _, _, h, hi => by
    have h' : Vals [] _ := h
    cases h'
    cases hi
  | p :: ps, _, i, _, h, hi => by
    have h' : Vals (p.1 :: ps.map Prod.fst) _ := h
    cases h' with
    | cons r rs =>
      cases i with
      | zero => exact ⟨p, rfl, by cases hi; exact r⟩
      | succ i => exact vals_at (ps := ps) rs hi
theorem dp_mem {K : PySem.W.Frag} {H : Hp} : ∀ {ps : List (V × T)}, DpAll K H (ps.map Prod.fst) (toDs (ps.map Prod.snd)) → ∀ p ∈ ps, Dp K H p.1 (toD p.2)
  | [], _, p, h => nomatch h
  | q :: ps, hd, p, h => by
    have hd' : DpAll K H (q.1 :: ps.map Prod.fst) (toD q.2 :: toDs (ps.map Prod.snd)) := hd
    cases hd' with
    | cons h1 h2 =>
      rcases List.mem_cons.mp h with e | e
      · rw [e]; exact h1
      · exact dp_mem h2 p e
theorem cr_minD (hc : X.calm = true) (hu : X.A.units + 64 < cLine) : CallR X (.builtin "min") (rMinD X.K) := by
  intro pins s σ H vs us Q I r h
  obtain ⟨a, p0, ps, rfl, ⟨hs, hd, h1, h2, h3⟩, q⟩ := h
  obtain ⟨its, rv, hl, hz⟩ := I.list hs
  rw [Vals.ref1 r]
  obtain ⟨as, hr⟩ := Dp.readsAll I _ _ _ hd rv
  have hdep := (toDs_lay 30 _ h1).2
  refine PySem.W.min_list_data (x := toD p0.2) (xs := toDs (ps.map Prod.snd)) (I.ok.hd hc) hl.isList (by rw [List.toList_toArray]; exact hr) (al_of rfl h2 h3) (by
    show X.A.units + 1 + PyData.depthAll (toDs (p0.2 :: ps.map Prod.snd)) < cLine
    have : PyData.depthAll (toDs (p0.2 :: ps.map Prod.snd)) ≤ 30 := hdep
    omega) fun i v h' tk bs hv hr' hk => ?_
  obtain ⟨p, hp, rp⟩ := vals_at rv (by rw [List.getElem?_toArray] at hv; exact hv)
  have hm := List.mem_of_getElem? hp
  obtain ⟨cs, hr0⟩ := Dp.reads I _ _ _ (dp_mem hd p hm) rp
  have e := (PyProof.Rows.reads_det (fun b o h _ => hk b o h) hr0 hr').1
  exact ⟨p.1, H, I.kept hk, rp, q p.1 p.2 hm e.symm⟩
theorem cr_maxD (hc : X.calm = true) (hu : X.A.units + 64 < cLine) : CallR X (.builtin "max") (rMaxD X.K) := by
  intro pins s σ H vs us Q I r h
  obtain ⟨a, p0, ps, rfl, ⟨hs, hd, h1, h2, h3⟩, q⟩ := h
  obtain ⟨its, rv, hl, hz⟩ := I.list hs
  rw [Vals.ref1 r]
  obtain ⟨as, hr⟩ := Dp.readsAll I _ _ _ hd rv
  have hdep := (toDs_lay 30 _ h1).2
  refine PySem.W.max_list_data (x := toD p0.2) (xs := toDs (ps.map Prod.snd)) (I.ok.hd hc) hl.isList (by rw [List.toList_toArray]; exact hr) (al_of rfl h2 h3) (by
    show X.A.units + 1 + PyData.depthAll (toDs (p0.2 :: ps.map Prod.snd)) < cLine
    have : PyData.depthAll (toDs (p0.2 :: ps.map Prod.snd)) ≤ 30 := hdep
    omega) fun i v h' tk bs hv hr' hk => ?_
  obtain ⟨p, hp, rp⟩ := vals_at rv (by rw [List.getElem?_toArray] at hv; exact hv)
  have hm := List.mem_of_getElem? hp
  obtain ⟨cs, hr0⟩ := Dp.reads I _ _ _ (dp_mem hd p hm) rp
  have e := (PyProof.Rows.reads_det (fun b o h _ => hk b o h) hr0 hr').1
  exact ⟨p.1, H, I.kept hk, rp, q p.1 p.2 hm e.symm⟩
end
section
variable {c : SC} {K : PySem.W.Frag}
theorem cl_sortD : ∀ X, c.Is X → CallR X (.builtin "sorted") (rSortD c.K) := fun X h => by
  have z := cr_sortD (X := X) h.room.units
  rw [h.K] at z; exact z
theorem cl_minD : ∀ X, c.Is X → CallR X (.builtin "min") (rMinD c.K) := fun X h => by
  have z := cr_minD (X := X) h.calm h.room.units
  rw [h.K] at z; exact z
theorem cl_maxD : ∀ X, c.Is X → CallR X (.builtin "max") (rMaxD c.K) := fun X h => by
  have z := cr_maxD (X := X) h.calm h.room.units
  rw [h.K] at z; exact z
theorem zip_reps {B : Hp} : ∀ {vs : List V} {ts : List T}, Reps K B vs ts → (vs.zip ts).map Prod.fst = vs ∧ (vs.zip ts).map Prod.snd = ts ∧ ∀ p ∈ vs.zip ts, Rep K B p.1 p.2
  | _, _, .nil => ⟨rfl, rfl, fun p h => nomatch h⟩
  | _, _, .cons r rs => by
    obtain ⟨h1, h2, h3⟩ := zip_reps rs
    refine ⟨congrArg (_ :: ·) h1, congrArg (_ :: ·) h2, fun p h => ?_⟩
    rcases List.mem_cons.mp h with e | e
    · rw [e]; exact r
    · exact h3 p e
theorem reps_zip {B : Hp} : ∀ {ps : List (V × T)}, (∀ p ∈ ps, Rep K B p.1 p.2) → Reps K B (ps.map Prod.fst) (ps.map Prod.snd)
  | [], _ => .nil
  | p :: ps, h => .cons (h p (List.mem_cons_self ..)) (reps_zip fun q hq => h q (List.mem_cons_of_mem _ hq))
theorem sf_sortD : SfA K (rSortD K) sortDT := by
  intro H B xs ts z Q sB rx e q
  unfold sortDT at e
  split at e
  · rename_i ys
    obtain ⟨x, rfl, r⟩ := rx.one_inv
    split at e
    · rename_i hc
      cases e
      obtain ⟨hc, h3⟩ := Bool.and_eq_true_iff.mp hc
      obtain ⟨h1, h2⟩ := Bool.and_eq_true_iff.mp hc
      cases r with
      | @lst a vs _ s rs =>
        obtain ⟨z1, z2, z3⟩ := zip_reps rs
        refine ⟨_, vs.zip ys, rfl, ⟨by rw [z1]; exact (s.mono sB).sq, by rw [z1, z2]; exact dps_of 30 (rs.mono sB) h1, by rw [z2]; exact h1, by rw [z2]; exact h2, by rw [z2]; exact h3⟩, fun p hp => q p _ _ _ rfl (.hid sB hp) hp upd_same ?_⟩
        have em : ((vs.zip ys).mergeSort fun a b => !ltD b.2 a.2).map Prod.snd = ys.mergeSort fun a b => !ltD b a := by
          rw [List.map_mergeSort (f := Prod.snd) (s := fun a b => !ltD b a) (fun _ _ _ _ => rfl), z2]
        rw [← em]
        exact reps_zip fun p hp => z3 p ((List.mergeSort_perm ..).mem_iff.mp hp)
    · cases e
  · cases e
theorem foldD_min : ∀ (xs : List T) (x : T), toD (xs.foldl (fun a y => if ltD y a then y else a) x) = PySem.W.minD (toD x) (toDs xs)
  | [], x => rfl
  | y :: ys, x => by
    show toD (ys.foldl _ (if ltD y x then y else x)) = PySem.W.minD (toD x) (toD y :: toDs ys)
    rw [foldD_min ys]
    unfold PySem.W.minD
    rw [List.foldl_cons]
    congr 1
    unfold ltD
    split <;> rfl
theorem foldD_max : ∀ (xs : List T) (x : T), toD (xs.foldl (fun a y => if ltD a y then y else a) x) = PySem.W.maxD (toD x) (toDs xs)
  | [], x => rfl
  | y :: ys, x => by
    show toD (ys.foldl _ (if ltD x y then y else x)) = PySem.W.maxD (toD x) (toD y :: toDs ys)
    rw [foldD_max ys]
    unfold PySem.W.maxD
    rw [List.foldl_cons]
    congr 1
    unfold ltD
    split <;> rfl
theorem foldl_mem {f : T → T → T} (hf : ∀ a y, f a y = a ∨ f a y = y) : ∀ (xs : List T) (x : T), xs.foldl f x ∈ x :: xs
  | [], x => List.mem_singleton.mpr rfl
  | y :: ys, x => by
    rw [List.foldl_cons]
    have h := foldl_mem hf ys (f x y)
    rcases List.mem_cons.mp h with e | e
    · rw [e]
      rcases hf x y with e | e
      · rw [e]; exact List.mem_cons_self ..
      · rw [e]; exact List.mem_cons_of_mem _ (List.mem_cons_self ..)
    · exact List.mem_cons_of_mem _ (List.mem_cons_of_mem _ e)
theorem sd_minD : SdA K (rMinD K) minDT := by
  intro H B xs ts z Q sB rx e q
  unfold minDT at e
  split at e
  · rename_i y ys
    obtain ⟨x, rfl, r⟩ := rx.one_inv
    split at e
    · rename_i hc
      cases e
      obtain ⟨hc, h3⟩ := Bool.and_eq_true_iff.mp hc
      obtain ⟨h1, h2⟩ := Bool.and_eq_true_iff.mp hc
      cases r with
      | @lst a vs0 _ s rs0 =>
        cases rs0 with
        | @cons v vs _ _ r0 rs =>
        obtain ⟨z1, z2, z3⟩ := zip_reps (Reps.cons r0 rs)
        obtain ⟨y1, y2, _⟩ := zip_reps rs
        refine ⟨_, (v, y), vs.zip ys, rfl, ⟨by show SqL K H a (((v :: vs).zip (y :: ys)).map Prod.fst); rw [z1]; exact (s.mono sB).sq, by
          show DpAll K H (((v :: vs).zip (y :: ys)).map Prod.fst) (toDs (((v :: vs).zip (y :: ys)).map Prod.snd))
          rw [z1, z2]; exact dps_of 30 ((Reps.cons r0 rs).mono sB) h1, by
          show dOks 30 (((v :: vs).zip (y :: ys)).map Prod.snd) = true
          rw [z2]; exact h1, by
          show alB (toDs (((v :: vs).zip (y :: ys)).map Prod.snd)) = true
          rw [z2]; exact h2, by
          show (((v :: vs).zip (y :: ys)).map Prod.snd).all nnT = true
          rw [z2]; exact h3⟩, fun w t hm ht => ?_⟩
        rw [y2] at ht
        have hf := foldD_min ys y
        have hmem : ys.foldl (fun a y => if ltD y a then y else a) y ∈ y :: ys := foldl_mem (fun a y => by split; exact .inr rfl; exact .inl rfl) ys y
        have hw := z3 (w, t) hm
        have ht2 : t ∈ y :: ys := by rw [← z2]; exact List.mem_map.mpr ⟨(w, t), hm, rfl⟩
        have e := toD_inj 30 (dOks_mem h1 t ht2) (dOks_mem h1 _ hmem) (ht.trans hf.symm)
        rw [e] at hw
        exact q w H B (.refl sB) hw
    · cases e
  · cases e
theorem sd_maxD : SdA K (rMaxD K) maxDT := by
  intro H B xs ts z Q sB rx e q
  unfold maxDT at e
  split at e
  · rename_i y ys
    obtain ⟨x, rfl, r⟩ := rx.one_inv
    split at e
    · rename_i hc
      cases e
      obtain ⟨hc, h3⟩ := Bool.and_eq_true_iff.mp hc
      obtain ⟨h1, h2⟩ := Bool.and_eq_true_iff.mp hc
      cases r with
      | @lst a vs0 _ s rs0 =>
        cases rs0 with
        | @cons v vs _ _ r0 rs =>
        obtain ⟨z1, z2, z3⟩ := zip_reps (Reps.cons r0 rs)
        obtain ⟨y1, y2, _⟩ := zip_reps rs
        refine ⟨_, (v, y), vs.zip ys, rfl, ⟨by show SqL K H a (((v :: vs).zip (y :: ys)).map Prod.fst); rw [z1]; exact (s.mono sB).sq, by
          show DpAll K H (((v :: vs).zip (y :: ys)).map Prod.fst) (toDs (((v :: vs).zip (y :: ys)).map Prod.snd))
          rw [z1, z2]; exact dps_of 30 ((Reps.cons r0 rs).mono sB) h1, by
          show dOks 30 (((v :: vs).zip (y :: ys)).map Prod.snd) = true
          rw [z2]; exact h1, by
          show alB (toDs (((v :: vs).zip (y :: ys)).map Prod.snd)) = true
          rw [z2]; exact h2, by
          show (((v :: vs).zip (y :: ys)).map Prod.snd).all nnT = true
          rw [z2]; exact h3⟩, fun w t hm ht => ?_⟩
        rw [y2] at ht
        have hf := foldD_max ys y
        have hmem : ys.foldl (fun a y => if ltD a y then y else a) y ∈ y :: ys := foldl_mem (fun a y => by split; exact .inr rfl; exact .inl rfl) ys y
        have hw := z3 (w, t) hm
        have ht2 : t ∈ y :: ys := by rw [← z2]; exact List.mem_map.mpr ⟨(w, t), hm, rfl⟩
        have e := toD_inj 30 (dOks_mem h1 t ht2) (dOks_mem h1 _ hmem) (ht.trans hf.symm)
        rw [e] at hw
        exact q w H B (.refl sB) hw
    · cases e
  · cases e
end
/-! ### rows of ints -/
def rowT (r : List Int) : T := .lst (r.map .int)
/-- rows in order -/
def leR : List Int → List Int → Bool
  | [], _ => true
  | _ :: _, [] => false
  | x :: xs, y :: ys => if x = y then leR xs ys else decide (x < y)
def insR (n : List Int) : List (List Int) → List (List Int)
  | [] => [n]
  | m :: ms => if leR n m then n :: m :: ms else m :: insR n ms
def sortR : List (List Int) → List (List Int)
  | [] => []
  | n :: ns => insR n (sortR ns)
theorem dOks_ints (n : Nat) : ∀ r : List Int, dOks n (r.map .int) = true
  | [] => by cases n <;> rfl
  | x :: r => by
    show (dOk n (.int x) && dOks n (r.map .int)) = true
    rw [dOks_ints n r]
    cases n <;> rfl
theorem toDs_ints (r : List Int) : toDs (r.map T.int) = r.map PyData.int := by
  rw [toDs_map, List.map_map]; rfl
theorem toD_row (r : List Int) : toD (rowT r) = .list (r.map .int) := by
  show PyData.list (toDs (r.map .int)) = _
  rw [toDs_ints]
theorem dOks_rows (n : Nat) : ∀ rs : List (List Int), dOks (n + 1) (rs.map rowT) = true
  | [] => rfl
  | r :: rs => by
    show (dOks n (r.map .int) && dOks (n + 1) (rs.map rowT)) = true
    rw [dOks_ints, dOks_rows]; rfl
theorem alB_rows (rs : List (List Int)) : alB (toDs (rs.map rowT)) = true := by
  rw [toDs_map, List.map_map]
  refine List.all_eq_true.mpr fun d hd => List.all_eq_true.mpr fun e he => ?_
  obtain ⟨a, _, rfl⟩ := List.mem_map.mp hd
  obtain ⟨b, _, rfl⟩ := List.mem_map.mp he
  show PySem.W.alike (toD (rowT a)) (toD (rowT b)) = true
  rw [toD_row, toD_row]
  simp only [PySem.W.alike]
  exact PySem.W.alike_ints a b
theorem nnT_rows (rs : List (List Int)) : (rs.map rowT).all nnT = true := by
  refine List.all_eq_true.mpr fun d hd => ?_
  obtain ⟨a, _, rfl⟩ := List.mem_map.mp hd
  rfl
theorem leR_le : ∀ a b : List Int, leR a b = !(decide (b < a))
  | [], b => by simp [leR]
  | x :: xs, [] => by simp [leR]
  | x :: xs, y :: ys => by
    unfold leR
    split
    · rename_i h
      subst h
      rw [leR_le xs ys]
      simp
    · rename_i h
      by_cases h2 : x < y
      · have : ¬ y < x := by omega
        simp [h2, this, List.cons_lt_cons_iff, Ne.symm h]
      · have : y < x := by omega
        simp [h2, this, List.cons_lt_cons_iff]
theorem ltD_rows (a b : List Int) : ltD (rowT a) (rowT b) = !leR b a := by
  unfold ltD
  rw [toD_row, toD_row, PySem.W.dataLt_list, leR_le, Bool.not_not]
  exact PySem.W.dataLt_ints a b
theorem leR_total (a b : List Int) : (leR a b || leR b a) = true := by
  rw [leR_le, leR_le]
  by_cases h : b < a
  · simp [h, List.lt_asymm h]
  · simp [h]
theorem leR_anti {a b : List Int} (h1 : leR a b = true) (h2 : leR b a = true) : a = b := by
  rw [leR_le] at h1 h2
  simp at h1 h2
  exact List.le_antisymm h1 h2
theorem leR_trans {a b d : List Int} (h1 : leR a b = true) (h2 : leR b d = true) : leR a d = true := by
  rw [leR_le] at *
  simp at *
  exact List.le_trans h1 h2
theorem insR_perm (n : List Int) : ∀ ms, (insR n ms).Perm (n :: ms)
  | [] => .refl _
  | m :: ms => by
    unfold insR
    split
    · exact .refl _
    · exact ((insR_perm n ms).cons m).trans (.swap n m ms)
theorem sortR_perm : ∀ ns, (sortR ns).Perm ns
  | [] => .refl _
  | n :: ns => (insR_perm n _).trans ((sortR_perm ns).cons n)
theorem insR_sorted {n : List Int} : ∀ {ms : List (List Int)}, ms.Pairwise (fun a b => leR a b = true) → (insR n ms).Pairwise (fun a b => leR a b = true)
  | [], _ => List.pairwise_singleton _ _
  | m :: ms, h => by
    obtain ⟨h1, h2⟩ := List.pairwise_cons.mp h
    unfold insR
    split
    · rename_i hn
      exact List.pairwise_cons.mpr ⟨fun a ha => by
        rcases List.mem_cons.mp ha with e | e
        · rw [e]; exact hn
        · exact leR_trans hn (h1 a e), h⟩
    · rename_i hn
      refine List.pairwise_cons.mpr ⟨fun a ha => ?_, insR_sorted h2⟩
      rcases List.mem_cons.mp ((insR_perm n ms).mem_iff.mp ha) with e | e
      · rw [e]
        have := leR_total n m
        simp [hn] at this
        exact this
      · exact h1 a e
theorem sortR_sorted : ∀ ns, (sortR ns).Pairwise (fun a b => leR a b = true)
  | [] => List.Pairwise.nil
  | n :: ns => insR_sorted (sortR_sorted ns)
theorem sortDT_rows (rs : List (List Int)) : sortDT [.lst (rs.map rowT)] = some (.lst ((sortR rs).map rowT)) := by
  have e1 : (dOks 30 (rs.map rowT) && alB (toDs (rs.map rowT)) && (rs.map rowT).all nnT) = true := by rw [dOks_rows, alB_rows, nnT_rows]; rfl
  unfold sortDT
  simp only [e1, if_true]
  have e2 : (rs.map rowT).mergeSort (fun a b => !ltD b a) = (rs.mergeSort leR).map rowT := by
    refine (List.map_mergeSort (f := rowT) (r := leR) (s := fun a b => !ltD b a) fun a _ b _ => ?_).symm
    rw [ltD_rows, Bool.not_not]
  rw [e2]
  have e3 : rs.mergeSort leR = sortR rs := by
    refine List.Perm.eq_of_pairwise (le := fun a b => leR a b = true) (fun _ _ _ _ a b => leR_anti a b) ?_ (sortR_sorted rs) ((List.mergeSort_perm ..).trans (sortR_perm rs).symm)
    exact List.pairwise_mergeSort (le := leR) (fun _ _ _ => leR_trans) leR_total rs
  rw [e3]
def minR (r : List Int) (rs : List (List Int)) : List Int := rs.foldl (fun a y => if leR a y then a else y) r
theorem minR_rows : ∀ (rs : List (List Int)) (r : List Int), (rs.map rowT).foldl (fun a y => if ltD y a then y else a) (rowT r) = rowT (minR r rs)
  | [], r => rfl
  | s :: rs, r => by
    rw [List.map_cons, List.foldl_cons, ltD_rows]
    unfold minR
    rw [List.foldl_cons]
    cases h : leR r s with
    | true => exact minR_rows rs r
    | false => exact minR_rows rs s
theorem minDT_rows (r : List Int) (rs : List (List Int)) : minDT [.lst ((r :: rs).map rowT)] = some (rowT (minR r rs)) := by
  have e1 : (dOks 30 ((r :: rs).map rowT) && alB (toDs ((r :: rs).map rowT)) && ((r :: rs).map rowT).all nnT) = true := by rw [dOks_rows, alB_rows, nnT_rows]; rfl
  show (if (dOks 30 ((r :: rs).map rowT) && alB (toDs ((r :: rs).map rowT)) && ((r :: rs).map rowT).all nnT) = true then some _ else none) = _
  rw [if_pos e1]
  exact congrArg some (minR_rows rs r)
theorem minR_least : ∀ (rs : List (List Int)) (r : List Int), (∀ s ∈ rs, leR r s = true) → minR r rs = r
  | [], r, _ => rfl
  | s :: rs, r, h => by
    unfold minR
    rw [List.foldl_cons, h s (List.mem_cons_self ..), if_pos rfl]
    exact minR_least rs r fun t ht => h t (List.mem_cons_of_mem _ ht)
end Tc

/-! Tc: backward reading, more rules; rows of ints. -/
namespace Tc
open PySem PySem.Spec L2
section
variable {r : Sl} {ξ : Xp} {ψ : T → Sl → Prop} {a b : Ec}
theorem WE_bor (h : WE (a r) (fun t _ => scal t = true ∧ ψ t r) noX) : WE (cBor a r) ψ ξ := by
  unfold cBor
  cases z : a r with
  | ok t r1 => rw [z] at h; simp only [h.go.1, if_true]; exact ⟨h.go.2⟩
  | ex c w r => rw [z] at h; exact h.go.elim
  | no => rw [z] at h; exact h.go.elim
theorem WE_borC {ψ : Bool → Sl → Prop} {c : Cc} (h : WE (c r) (fun t _ => ψ t r) noX) : WE (cBorC c r) ψ ξ := by
  unfold cBorC
  cases z : c r with
  | ok t r1 => rw [z] at h; exact ⟨h.go⟩
  | ex c w r => rw [z] at h; exact h.go.elim
  | no => rw [z] at h; exact h.go.elim
theorem WE_mt {f : List T → T → Option T} (h : WE (a r) (fun x r1 => ∃ xs, x = .lst xs ∧ WE (b r1) (fun y r2 => ∃ z, f xs y = some z ∧ ψ z r2) ξ) ξ) : WE (cMt f a b r) ψ ξ :=
  WE_bind (h.imp fun x r1 ⟨xs, e, h1⟩ => by
    subst e
    exact WE_bind (h1.imp fun y r2 ⟨z, e, q⟩ => by rw [e]; exact ⟨q⟩))
/-- a comprehension, with an invariant -/
theorem WE_lcJ {own : List Nat} {I : Ac} {g : Gc} {C : Cc} {E : Ec} (J : List T → Nat → List T → Sl → Prop) (h : WE (I r) (fun ts r1 => ts.length < 1000000 ∧ J ts 0 [] (wipeT r1 own) ∧
    (∀ i t acc r, ts[i]? = some t → J ts i acc r → ∃ s, g t r = some s ∧ WE (C s) (fun z r2 => (z = true → WE (E r2) (fun y r3 => J ts (i + 1) (acc ++ [y]) (wipeT r3 own)) noX) ∧ (z = false → J ts (i + 1) acc (wipeT r2 own))) noX) ∧
    ∀ acc r, J ts ts.length acc r → ψ (.lst acc) (backT r1 r own)) ξ) : WE (cLc own I g C E r) ψ ξ := by
  refine WE_bind (h.imp fun ts r1 ⟨hl, h0, hs, q⟩ => WE_bind ?_)
  have key : ∀ (us pre acc : List T) (r : Sl), pre ++ us = ts → acc.length ≤ pre.length → J ts pre.length acc r → WE (lcGo own g C E us acc r) (fun acc r => J ts ts.length acc r) noX := by
    intro us
    induction us with
    | nil =>
      intro pre acc r e _ hJ
      rw [List.append_nil] at e
      subst e
      exact ⟨hJ⟩
    | cons u us ih =>
      intro pre acc r e ha hJ
      have hu : ts[pre.length]? = some u := by rw [← e]; simp
      obtain ⟨s, e1, w⟩ := hs _ u acc r hu hJ
      have e2 : (pre ++ [u]) ++ us = ts := by rw [← e]; simp
      have e3 : (pre ++ [u]).length = pre.length + 1 := by simp
      unfold lcGo
      simp only [e1]
      cases z : C s with
      | ok b s2 =>
        rw [z] at w
        obtain ⟨w1, w2⟩ := w.go
        cases b with
        | false =>
          simp only
          exact ih (pre ++ [u]) acc _ e2 (by omega) (by rw [e3]; exact w2 rfl)
        | true =>
          have w3 := w1 rfl
          simp only
          cases y : E s2 with
          | ok t s3 =>
            rw [y] at w3
            have hlen : acc.length < 1000000 := by
              have : pre.length ≤ ts.length := by rw [← e]; simp
              omega
            simp only [hlen, if_true]
            exact ih (pre ++ [u]) (acc ++ [t]) _ e2 (by simp; omega) (by rw [e3]; exact w3.go)
          | ex n w s3 => rw [y] at w3; exact w3.go.elim
          | no => rw [y] at w3; exact w3.go.elim
      | ex n v s2 => rw [z] at w; exact w.go.elim
      | no => rw [z] at w; exact w.go.elim
  have k := key ts [] [] (wipeT r1 own) rfl (Nat.le_refl _) h0
  cases z : lcGo own g C E ts [] (wipeT r1 own) with
  | ok acc r2 => rw [z] at k; exact ⟨⟨q acc r2 k.go⟩⟩
  | ex n v s2 => rw [z] at k; exact k.go.elim
  | no => rw [z] at k; exact k.go.elim
/-- a comprehension over written-down items whose parts change nothing -/
theorem WE_lcM {α : Type} {own : List Nat} {I : Ac} {g : Gc} {C : Cc} {E : Ec} (enc : α → T) (xs : List α) (p : α → Bool) (f : α → T) (h : WE (I r) (fun ts r1 => ts = xs.map enc ∧ xs.length < 1000000 ∧ (∀ k ∈ own, k < r1.length) ∧
    (∀ x ∈ xs, ∃ q, g (enc x) (wipeT r1 own) = some q ∧ WE (C q) (fun z r2 => z = p x ∧ (p x = false → wipeT r2 own = wipeT r1 own) ∧ (p x = true → WE (E r2) (fun y r3 => y = f x ∧ wipeT r3 own = wipeT r1 own) noX)) noX) ∧ ψ (.lst ((xs.filter p).map f)) r1) ξ) : WE (cLc own I g C E r) ψ ξ := by
  refine WE_bind (h.imp fun ts r1 ⟨e, hl, hw, ht, q⟩ => WE_bind ?_)
  subst e
  have key : ∀ (us : List α) (acc : List T), (∀ t ∈ us, t ∈ xs) → acc.length + us.length < 1000000 → lcGo own g C E (us.map enc) acc (wipeT r1 own) = .ok (acc ++ (us.filter p).map f) (wipeT r1 own) := by
    intro us
    induction us with
    | nil => intro acc _ _; simp [lcGo]
    | cons u us ih =>
      intro acc hm hn
      rw [List.length_cons] at hn
      obtain ⟨s, e1, w⟩ := ht u (hm u (List.mem_cons_self ..))
      rw [List.map_cons]
      unfold lcGo
      simp only [e1]
      cases z : C s with
      | ok b s2 =>
        rw [z] at w
        obtain ⟨w1, w2, w3⟩ := w.go
        subst w1
        cases hp : p u with
        | false =>
          simp only [hp]
          rw [w2 hp, ih acc (fun t h => hm t (List.mem_cons_of_mem _ h)) (by omega)]
          simp [hp]
        | true =>
          simp only [hp]
          have w4 := w3 hp
          cases y : E s2 with
          | ok t s3 =>
            rw [y] at w4
            obtain ⟨w5, w6⟩ := w4.go
            subst w5
            simp only [show acc.length < 1000000 by omega, if_true]
            rw [w6, ih (acc ++ [f u]) (fun t h => hm t (List.mem_cons_of_mem _ h)) (by rw [List.length_append, List.length_singleton]; omega)]
            simp [hp]
          | ex n w s3 => rw [y] at w4; exact w4.go.elim
          | no => rw [y] at w4; exact w4.go.elim
      | ex n v s2 => rw [z] at w; exact w.go.elim
      | no => rw [z] at w; exact w.go.elim
  rw [key xs [] (fun _ h => h) (by simpa using hl)]
  refine ⟨⟨?_⟩⟩
  show ψ (.lst _) (backT r1 (wipeT r1 own) own)
  rw [wipe_back own r1 hw]
  exact q
end
/-! ### rows of ints -/
def rangeI (lo hi : Int) : List Int := (List.range (hi - lo).toNat).map fun (k : Nat) => lo + (k : Int)
theorem rangeT_I (lo hi : Int) : rangeT lo hi = (rangeI lo hi).map T.int := by unfold rangeT rangeI; rw [List.map_map]; rfl
theorem rangeI_mem {lo hi x : Int} : x ∈ rangeI lo hi ↔ lo ≤ x ∧ x < hi := by
  unfold rangeI
  constructor
  · intro h
    obtain ⟨k, hk, rfl⟩ := List.mem_map.mp h
    have := List.mem_range.mp hk
    omega
  · intro h
    exact List.mem_map.mpr ⟨(x - lo).toNat, List.mem_range.mpr (by omega), by show lo + ((x - lo).toNat : Int) = x; omega⟩
theorem rangeI_len (lo hi : Int) : (rangeI lo hi).length = (hi - lo).toNat := by unfold rangeI; rw [List.length_map, List.length_range]
theorem rangeI_map {α : Type} {n : Nat} {hi : Int} (h : hi = n) (f : Int → α) : (rangeI 0 hi).map f = (List.range n).map fun (k : Nat) => f k := by
  subst h
  unfold rangeI
  rw [List.map_map, show ((n : Int) - 0).toNat = n by omega]
  exact List.map_congr_left fun k _ => by show f (0 + (k : Int)) = f k; rw [Int.zero_add]
theorem addT_row {x y : List Int} (h : x.length + y.length ≤ LIM) : addT (rowT x) (rowT y) = some (rowT (x ++ y)) := by
  unfold rowT
  simp only [addT, List.length_map, h, if_true, List.map_append]
theorem lenT_row {x : List Int} (h : x.length ≤ LIM) : lenT [rowT x] = some (.int x.length) := by
  unfold rowT
  simp only [lenT, List.length_map, h, if_true]
theorem sumT_row (x : List Int) : sumT [rowT x] = some (.int x.sum) := by
  show (intsT (x.map T.int)).map _ = _
  rw [intsT_map]; rfl
theorem maxT_row (x : List Int) : maxT [rowT x] = (maxI x).map .int := by
  show ((intsT (x.map T.int)).bind maxI).map T.int = _
  rw [intsT_map]; rfl
theorem minT_row (x : List Int) : minT [rowT x] = (minI x).map .int := by
  show ((intsT (x.map T.int)).bind minI).map T.int = _
  rw [intsT_map]; rfl
theorem ixT_row {x : List Int} {i : Int} {k : Nat} (e : i = k) (h : k < x.length) : ixT (rowT x) (.int i) = some (.int x[k]) := by
  subst e
  show atI (x.map T.int) k = _
  exact atI_nat (by rw [List.getElem?_map, List.getElem?_eq_getElem h]; rfl)
theorem ixT_rows {x : List (List Int)} {i : Int} {k : Nat} (e : i = k) (h : k < x.length) : ixT (.lst (x.map rowT)) (.int i) = some (rowT x[k]) := by
  subst e
  show atI (x.map rowT) k = _
  exact atI_nat (by rw [List.getElem?_map, List.getElem?_eq_getElem h]; rfl)
theorem sIx_int {n : Nat} {d : Nat} {i : Int} {k : Nat} (e : i = k) (h : k ≤ n) : HT.sIx n d (some i) = k := by
  subst e
  rw [HT.sIx_nat]
  omega
theorem slT_row (x : List Int) {lo hi : Option Int} {a b : Nat} (h1 : HT.sIx x.length 0 lo = a) (h2 : HT.sIx x.length x.length hi = b) : slT (rowT x) lo hi = some (rowT ((x.drop a).take (b - a))) := by
  unfold rowT
  simp only [slT, cutT, List.length_map, h1, h2]
  rw [← List.map_drop, ← List.map_take]
theorem eqBs_refl_ints : ∀ x : List Int, eqBs (x.map T.int) (x.map T.int) = true
  | [] => rfl
  | n :: ns => by
    show (eqB (T.int n) (T.int n) && eqBs (ns.map T.int) (ns.map T.int)) = true
    rw [eqBs_refl_ints ns]
    show ((n == n) && true) = true
    simp
theorem eqBs_ints : ∀ x y : List Int, eqBs (x.map T.int) (y.map T.int) = decide (x = y)
  | [], [] => rfl
  | [], _ :: _ => rfl
  | _ :: _, [] => rfl
  | n :: ns, m :: ms => by
    show (eqB (T.int n) (T.int m) && eqBs (ns.map T.int) (ms.map T.int)) = _
    rw [eqBs_ints ns ms]
    show ((n == m) && _) = _
    by_cases h : n = m <;> by_cases h2 : ns = ms <;> simp [h, h2]
theorem dOk_row (r : List Int) : dOk 30 (rowT r) = true := dOks_ints 29 r
theorem eqT_row (x y : List Int) : eqT (rowT x) (rowT y) = some (.bl (decide (x = y))) := by
  unfold eqT
  rw [dOk_row, dOk_row]
  show some (T.bl (eqBs (x.map T.int) (y.map T.int))) = _
  rw [eqBs_ints]
theorem neT_row (x y : List Int) : neT (rowT x) (rowT y) = some (.bl (!decide (x = y))) := by
  unfold neT
  rw [dOk_row, dOk_row]
  show some (T.bl (!eqBs (x.map T.int) (y.map T.int))) = _
  rw [eqBs_ints]
theorem indexT_row {x : List Int} {n : Int} (h : n ∈ x) : ∃ k : Int, indexT (x.map T.int) (.int n) = some (.int k) := by
  unfold indexT
  have e : (dOk 30 (.lst (x.map T.int)) && dOk 30 (.int n)) = true := by
    have := dOk_row x
    rw [show dOk 30 (T.lst (x.map T.int)) = true from this]; rfl
  rw [if_pos e]
  have hs : ((x.map T.int).findIdx? fun y => eqB y (.int n)).isSome = true := by
    rw [List.findIdx?_isSome]
    exact List.any_eq_true.mpr ⟨.int n, List.mem_map.mpr ⟨n, h, rfl⟩, by show (n == n) = true; simp⟩
  obtain ⟨j, hj⟩ := Option.isSome_iff_exists.mp hs
  rw [hj]
  exact ⟨j, rfl⟩
theorem maxI_some {x : List Int} (h : 0 < x.length) : ∃ a, maxI x = some a ∧ a ∈ x ∧ ∀ y ∈ x, y ≤ a := by
  cases x with
  | nil => simp at h
  | cons n ns => exact ⟨_, rfl, (foldl_max ns n).1, (foldl_max ns n).2⟩
theorem minI_some {x : List Int} (h : 0 < x.length) : ∃ a, minI x = some a ∧ a ∈ x ∧ ∀ y ∈ x, a ≤ y := by
  cases x with
  | nil => simp at h
  | cons n ns => exact ⟨_, rfl, (foldl_min ns n).1, (foldl_min ns n).2⟩
theorem pl_row {x : List Int} (n : Nat) (h : x.length < 1000000) : pl (n + 2) (rowT x) = true := by
  unfold rowT
  unfold pl
  rw [List.length_map]
  refine Bool.and_eq_true_iff.mpr ⟨decide_eq_true h, List.all_eq_true.mpr fun t ht => ?_⟩
  obtain ⟨i, _, rfl⟩ := List.mem_map.mp ht
  unfold pl
  rfl
theorem pl_rows {x : List (List Int)} (n : Nat) (h : x.length < 1000000) (h2 : ∀ r ∈ x, r.length < 1000000) : pl (n + 3) (.lst (x.map rowT)) = true := by
  unfold pl
  rw [List.length_map]
  refine Bool.and_eq_true_iff.mpr ⟨decide_eq_true h, List.all_eq_true.mpr fun t ht => ?_⟩
  obtain ⟨i, hi, rfl⟩ := List.mem_map.mp ht
  exact pl_row n (h2 i hi)
end Tc

/-! Tc: x = [.., f(..), ..], looked at, then x[k].append(7), x read no more. -/
namespace Tc
open PySem PySem.Spec L2
/-- the marked items are lists that are new since H0 -/
def FrL (H0 H : Hp) (n : Nat) (ms : List Bool) (vs : List V) : Prop := ∀ k : Nat, ms[k]? = some true → ∃ (p : Addr) (ws : List V), vs[k]? = some (V.ref p) ∧ H p = some (.lst ws) ∧ H0 p = none ∧ ws.length + n ≤ 1000000
def okM : List Bool → List T → Bool
  | true :: ms, .lst us :: ts => decide (us.length + 8 ≤ 1000000) && okM ms ts
  | true :: _, _ => false
  | false :: ms, _ :: ts => okM ms ts
  | _, _ => true
theorem FrL.mono {H0 H H' : Hp} {n : Nat} {ms : List Bool} {vs : List V} (h : FrL H0 H n ms vs) (s : Same H H') : FrL H0 H' n ms vs := fun k hk => by
  obtain ⟨p, ws, h1, h2, h3⟩ := h k hk
  exact ⟨p, ws, h1, s _ _ h2, h3⟩
/-- items, some of them new lists; all is seen -/
structure NJ (c : SC) (es : List Expr) (ms : List Bool) (A : Ac) : Prop where
  ex : ∃ t : TA, (∀ X, c.Is X → PA X es t) ∧ ∀ r σ H0 H (Q : List V → Hp → Prop), Same H0 H → Frm c.K ⟨none, c.G.n, []⟩ [] r σ (fun _ => False) H H →
    (match A r with
      | .ok ts r1 => okM ms ts = true ∧ ∀ H' vs, Same H H' → Frm c.K ⟨none, c.G.n, []⟩ [] r1 σ (fun _ => False) H' H' → Reps c.K H' vs ts → FrL H0 H' 8 ms vs → Q vs H'
      | _ => False) → t σ H Q
section
variable {c : SC} {j : JT} {P P' : List Nat} {e test : Expr} {es : List Expr} {ss body : List Stmt} {E F : Ec} {A : Ac} {C : Cc} {ms : List Bool} {pos : Pos} {H0 H H' B : Hp} {O : Addr → Prop} {r rs ro : Sl} {σ : L2.St} {D : Ends} {i : Nat}
theorem nj_nil : NJ c [] [] cNil := ⟨tNil, fun X h => pa_nil, fun r σ H0 H Q s f q => q.2 H [] (.refl _) f .nil fun k hk => nomatch hk⟩
theorem grow_same {O' : Addr → Prop} {H' B' : Hp} (g : Grow (fun _ => False) H H O' H' B') (s' : Same B' H') : Same H H' := g.bb.trans s'
theorem Frm.seen {K : PySem.W.Frag} {n : Nat} {O' : Addr → Prop} {B' : Hp} (f : Frm K ⟨none, n, []⟩ [] r σ O' H B') : Frm K ⟨none, n, []⟩ [] r σ (fun _ => False) H H :=
  ⟨.refl _, fun _ h => h.elim, fun _ h => h.elim, fun i t e n => by
    obtain ⟨v, h1, h2⟩ := f.var i t e n
    exact ⟨v, h1, h2.mono f.sub⟩, (fun i h => nomatch h), (fun i _ _ h => nomatch h), f.len, f.siz, (fun g h => nomatch h), .nil⟩
theorem nj_cons (ha : EJ c.nog [] e F) (hb : NJ c es ms A) (hs : ∀ env, starEach (e :: es) env = (false, eval e env) :: starEach es env := by intro _; rfl) : NJ c (e :: es) (false :: ms) (cCons F A) := by
  obtain ⟨ta, pa, ra⟩ := ha.ex
  obtain ⟨tb, pb, rb⟩ := hb.ex
  refine ⟨tCons ta tb, fun X h => pa_cons (pa X (nog_is h)) (pb X h) (hs _), fun r σ H0 H Q s f q => ra r σ _ H H _ f ?_⟩
  unfold cCons at q
  cases z : F r with
  | ok t r1 =>
    rw [z] at q
    intro O1 H1 B1 f1 g1 v rv
    have s1 := grow_same g1 f1.sub
    refine rb r1 σ H0 H1 _ (s.trans s1) f1.seen ?_
    cases y : A r1 with
    | ok us r2 =>
      simp only [Out.bind, y] at q ⊢
      refine ⟨q.1, fun H2 vs s2 f2 rvs fl => q.2 H2 (v :: vs) (s1.trans s2) f2 (.cons ((rv.mono f1.sub).mono s2) rvs) fun k hk => ?_⟩
      cases k with
      | zero => exact nomatch hk
      | succ k => exact fl k hk
    | ex n w r2 => simp only [Out.bind, y] at q
    | no => simp only [Out.bind, y] at q
  | ex n w r1 => rw [z] at q; exact (show False from q).elim
  | no => rw [z] at q; exact (show False from q).elim
theorem nj_new (ha : FJ c.nog [] e F) (hb : NJ c es ms A) (hs : ∀ env, starEach (e :: es) env = (false, eval e env) :: starEach es env := by intro _; rfl) : NJ c (e :: es) (true :: ms) (cCons F A) := by
  obtain ⟨ta, pa, ra⟩ := ha.ex
  obtain ⟨tb, pb, rb⟩ := hb.ex
  refine ⟨tCons ta tb, fun X h => pa_cons (pa X (nog_is h)) (pb X h) (hs _), fun r σ H0 H Q s f q => ra r σ _ H H _ f ?_⟩
  unfold cCons at q
  cases z : F r with
  | ok t r1 =>
    rw [z] at q
    intro O1 H1 B1 f1 g1 p ws us et hO _ hp rw'
    subst et
    have s1 := grow_same g1 f1.sub
    have hn : H0 p = none := by
      cases e0 : H0 p with
      | none => rfl
      | some o =>
        have := g1.bb _ _ (s _ _ e0)
        rw [f1.out p hO] at this
        cases this
    refine rb r1 σ H0 H1 _ (s.trans s1) f1.seen ?_
    cases y : A r1 with
    | ok vs0 r2 =>
      simp only [Out.bind, y] at q ⊢
      obtain ⟨q1, q2⟩ := Bool.and_eq_true_iff.mp (show (decide (us.length + 8 ≤ 1000000) && okM ms vs0) = true from q.1)
      refine ⟨q2, fun H2 vs s2 f2 rvs fl => q.2 H2 (V.ref p :: vs) (s1.trans s2) f2 (.cons ((Rep.lst (.of hp) (rw'.mono f1.sub)).mono s2) rvs) fun k hk => ?_⟩
      cases k with
      | zero => exact ⟨p, ws, rfl, s2 _ _ hp, hn, by rw [rw'.length]; exact of_decide_eq_true q1⟩
      | succ k => exact fl k hk
    | ex n w r2 => simp only [Out.bind, y] at q
    | no => simp only [Out.bind, y] at q
  | ex n w r1 => rw [z] at q; exact (show False from q).elim
  | no => rw [z] at q; exact (show False from q).elim
/-- slot i holds such items -/
def Told (H0 H : Hp) (n i : Nat) (ms : List Bool) (σ : L2.St) : Prop := ∃ (a : Addr) (vs : List V), σ[i]? = some (some (V.ref a)) ∧ H a = some (.lst vs) ∧ FrL H0 H n ms vs ∧ ∀ (k : Nat) (p : Addr), ms[k]? = some true → vs[k]? = some (V.ref p) → p ≠ a
theorem Told.mono {n : Nat} (h : Told H0 H n i ms σ) (s : Same H H') : Told H0 H' n i ms σ := by
  obtain ⟨a, vs, h1, h2, h3, h4⟩ := h
  exact ⟨a, vs, h1, s _ _ h2, h3.mono s, h4⟩
/-- behind it, nothing but what is seen of old -/
structure QP (c : SC) (j : JT) (n i : Nat) (ms : List Bool) (P P' : List Nat) (ss : List Stmt) (G : Sc) : Prop where
  ex : ∃ t : TS, (∀ X, c.Is X → PSs X ss t) ∧ ∀ r σ O H0 H B D, Same H0 H → Frm c.K c.G P r σ O H0 B → Told H0 H n i ms σ → SK c j P' O H0 B D (G r) → t D σ H
structure QJ (c : SC) (j : JT) (i : Nat) (ms : List Bool) (P P' : List Nat) (ss : List Stmt) (F : Sl → Sl → So) : Prop where
  ex : ∃ t : TS, (∀ X, c.Is X → PSs X ss t) ∧ ∀ rs ro σ O H0 H B D, Same H0 H → Frm c.K ⟨none, c.G.n, []⟩ [] rs σ (fun _ => False) H H → Frm c.K c.G P ro σ O H0 B → Told H0 H 8 i ms σ → SK c j P' O H0 B D (F rs ro) → t D σ H
def cQEnd (G : Sc) : Sl → Sl → So := fun _ ro => G ro
def cQIf (C : Cc) (Fb : Sc) (F : Sl → Sl → So) : Sl → Sl → So := fun rs ro => match C rs with
  | .ok true _ => (match Fb ro with
    | .nx _ => .no
    | o => o)
  | .ok false r1 => F r1 ro
  | _ => .no
def cTold (i : Nat) (ms : List Bool) (A : Ac) (F : Sl → Sl → So) : Sc := fun r => match A r with
  | .ok ts r1 => if (okM ms ts && decide (ts.length ≤ LIM)) = true then F (r1.set i (some (.lst ts))) (r.set i none) else .no
  | _ => .no
theorem old_pu {P : List Nat} (f : Frm c.K c.G P r σ O H0 B) (s : Same H0 H) : Pu H0 B H B := ⟨.refl _, f.sub.trans s, fun _ _ e => .inl e, s⟩
theorem qp_end {n : Nat} {G : Sc} (h : BJ c j P P' ss G) : QP c j n i ms P P' ss G := by
  obtain ⟨t, p, rd⟩ := h.ex
  exact ⟨t, p, fun r σ O H0 H B D s f _ q => rd r σ O H B D (f.pu (old_pu f s)) (q.later (.of_pu (old_pu f s)))⟩
theorem qj_end {G : Sc} (h : QP c j 8 i ms P P' ss G) : QJ c j i ms P P' ss (cQEnd G) := by
  obtain ⟨t, p, rd⟩ := h.ex
  exact ⟨t, p, fun rs ro σ O H0 H B D s _ f td q => rd ro σ O H0 H B D s f td q⟩
theorem qp_poke (k : Nat) {n : Nat} {G : Sc} {x : Str} {m : Int} {ix e : Expr} {p0 p1 p2 p3 : Pos} (hix : ∀ X, PE X ix (tC (.int k))) (he : ∀ X, PE X e (tC (.int m))) (hq : QP c j n i ms P P' ss G) (hk : ms[k]? = some true := by rfl)
    (hN : c.N[i]? = some x := by rfl) (hv : Vis c.sc x := by first | exact Or.inl rfl | exact Or.inr (Or.inl rfl) | exact Or.inr (Or.inr rfl))
    (hpi : PlainIx ix := by intro _ _; rfl) (hd : (x == ("__debug__" : Str)) = false := by decide) (hcd : (x == ("__classdict__" : Str)) = false := by decide)
    (hline : (p2.endLine == p3.line) = true := by rfl) (hst : ∀ env, starEach [e] env = [(false, eval e env)] := by intro _; rfl) (hbase : ∀ env, attributeBase (.Subscript (.Name x p0) ix p1) "append" env (eval (.Subscript (.Name x p0) ix p1) env) = eval (.Subscript (.Name x p0) ix p1) env := by intro _; rfl)
    (hsw : ∀ env, swapsWith (.Call (.Attribute (.Subscript (.Name x p0) ix p1) "append" p2) [e] [] p3) none pos.line env = pure false := by intro _; rfl) :
    QP c j (n + 1) i ms P P' (.Expr (.Call (.Attribute (.Subscript (.Name x p0) ix p1) "append" p2) [e] [] p3) pos :: ss) G := by
  obtain ⟨u', pu', ru⟩ := hq.ex
  refine ⟨tSeq (tDrop (tBM c.K "list" rAppend (tOp (rIx c.K) (tVar i) (tC (.int k))) (tCons (tC (.int m)) tNil))) u', fun X h => pss_cons ?_ (pu' X h), fun r σ O H0 H B D s f td q => ?_⟩
  · have z := pe_bm (X := X) (cpos := p3) (apos := p2) PySem.F.plainAttrs_list PySem.F.slot_list_append PySem.F.type_list_append mt_append
      (pe_ix (pos := p1) (ix_K X h) (pe_var (x := x) (i := i) (pos := p0) (by rw [h.N]; exact hN) (by rw [h.sc]; exact hv) hd hcd) (hix X) hpi) (pa_cons (he X) pa_nil (by rw [hst]; rfl)) (hbase _)
      (by rw [hst]; rfl) hline (by rw [hst]; rfl) rfl
    rw [h.K] at z
    exact ps_expr z (hsw _)
  · obtain ⟨a, vs, h1, h2, h3, h4⟩ := td
    obtain ⟨pk, ws, g1, g2, g3, g4⟩ := h3 k hk
    refine ⟨.ref a, h1, .inl ⟨a, vs, k, .ref pk, rfl, rfl, .inl (.inl h2), atI_nat g1, .inl ⟨rfl, _, .inl (.inl g2)⟩, pk, ws, .int m, rfl, rfl, g2, Nat.lt_of_lt_of_le (m := 1000001) (by omega) (by rw [sizeLine_eq]; decide), ?_⟩⟩
    refine ru r σ O H0 _ B D (fun b o eb => ?_) f ⟨a, vs, h1, ?_, fun k' hk' => ?_, h4⟩ q
    · rw [upd_ne (ne_of_none eb g3)]; exact s _ _ eb
    · rw [upd_ne (fun z => h4 k pk hk g1 z.symm)]; exact h2
    · obtain ⟨p', ws', x1, x2, x3, x4⟩ := h3 k' hk'
      by_cases e : p' = pk
      · subst e
        rw [g2] at x2
        cases x2
        exact ⟨p', _, x1, upd_same, x3, by rw [List.length_append, List.length_singleton]; omega⟩
      · exact ⟨p', ws', x1, by rw [upd_ne e]; exact x2, x3, by omega⟩
theorem qj_if {F : Sl → Sl → So} {Fb : Sc} {p : Pos} (hc : CJ c.nog [] test C) (hb : BJ c j P P' body Fb) (hq : QJ c j i ms P P' ss F) : QJ c j i ms P P' (.If test body [] p :: ss) (cQIf C Fb F) := by
  obtain ⟨tc, pc, rc⟩ := hc.ex
  obtain ⟨tb, pb, rb⟩ := hb.ex
  obtain ⟨tq, pq, rq⟩ := hq.ex
  refine ⟨tSeq (tIfS tc tb tNext) tq, fun X h => pss_cons (ps_if (pc X (nog_is h)) (pb X h) pss_nil) (pq X h), fun rs ro σ O H0 H B D s fs f td q => rc rs σ _ H H _ fs ?_⟩
  unfold cQIf at q
  cases z : C rs with
  | ok b r1 =>
    rw [z] at q
    intro O1 H1 B1 f1 g1
    have s1 := s.trans (grow_same g1 f1.sub)
    cases b with
    | true =>
      simp only at q
      refine rb ro σ O H1 B _ (f.pu (old_pu f s1)) ?_
      cases y : Fb ro with
      | nx r2 => rw [y] at q; exact (show False from q).elim
      | rt t r2 => rw [y] at q; exact SK.later (x := .rt t r2) (D := D) q (.of_pu (old_pu f s1))
      | bk r2 => rw [y] at q; exact SK.later (x := .bk r2) (D := D) q (.of_pu (old_pu f s1))
      | ct r2 => rw [y] at q; exact SK.later (x := .ct r2) (D := D) q (.of_pu (old_pu f s1))
      | ex n w r2 => rw [y] at q; exact SK.later (x := .ex n w r2) (D := D) q (.of_pu (old_pu f s1))
      | no => rw [y] at q; exact (show False from q).elim
    | false =>
      simp only at q
      exact rq r1 ro σ O H0 H1 B D s1 f1.seen f (td.mono (grow_same g1 f1.sub)) q
  | ex n w r1 => rw [z] at q; exact (show False from q).elim
  | no => rw [z] at q; exact (show False from q).elim
/-- a slot is forgotten -/
theorem Frm.drop {K : PySem.W.Frag} {G : GI} (f : Frm K G P r σ O H B) {v : V} (hi : i ∉ P) : Frm K G P (r.set i none) (σ.set i (some v)) O H B := by
  refine ⟨f.sub, f.out, f.liv, fun k t e n => ?_, fun k hk => ?_, fun k m p hk hm e1 e2 => ?_, by rw [List.length_set, List.length_set]; exact f.len, by rw [List.length_set]; exact f.siz, fun g e => ?_, f.tab⟩
  · by_cases hki : k = i
    · subst hki
      have hl : k < r.length := by
        have := (List.getElem?_eq_some_iff.mp e).1
        simpa using this
      rw [List.getElem?_set_self hl] at e
      cases e
    · rw [List.getElem?_set_ne (Ne.symm hki)] at e
      obtain ⟨w, e1, e2⟩ := f.var k t e n
      exact ⟨w, by rw [List.getElem?_set_ne (Ne.symm hki)]; exact e1, e2⟩
  · have hki : i ≠ k := fun z => hi (z ▸ hk)
    obtain ⟨p, vs, ts, e1, e2, e3⟩ := f.prv k hk
    exact ⟨p, vs, ts, by rw [List.getElem?_set_ne hki]; exact e1, by rw [List.getElem?_set_ne hki]; exact e2, e3⟩
  · rw [List.getElem?_set_ne fun z : i = k => hi (z ▸ hk)] at e1
    rw [List.getElem?_set_ne fun z : i = m => hi (z ▸ hm)] at e2
    exact f.sep k m p hk hm e1 e2
  · obtain ⟨z, y⟩ := f.inn g e
    exact ⟨z, by rw [List.getElem?_set_ne fun w : i = 0 => hi (w ▸ z)]; exact y⟩
theorem bj_told (i : Nat) {F : Sl → Sl → So} {x : Str} {p1 lpos : Pos} (hA : NJ c es ms A) (hq : QJ c j i ms P P' ss F) (hlen : Nat.ble (i + 1) c.G.n = true := by rfl) (hN : c.N[i]? = some x := by rfl) (hx : Loc c.sc x := by first | exact Or.inl rfl | exact Or.inr rfl) (hst : c.st x = true := by rfl)
    (hs : ∀ env, swapsWith (.List es lpos) (some (.Name x p1)) pos.line env = pure false := by intro _; rfl) (hi : i ∉ P := by decide) : BJ c j P P' (.Assign [.Name x p1] (.List es lpos) pos :: ss) (cTold i ms A F) := by
  obtain ⟨ta, pa, ra⟩ := hA.ex
  obtain ⟨tq, pq, rq⟩ := hq.ex
  refine ⟨tSeq (tAsg (tLst ta) (gName i)) tq, fun X h => pss_cons ?_ (pq X h), fun r σ O H B D f q => ?_⟩
  · have hl : Loc X.env.scope x := by rw [h.sc]; exact hx
    exact ps_set (by rw [h.N]; exact h.nd) (by rw [h.N]; exact hN) hl (pe_lst (pa X h)) (hs _) (h.fn x hst hl)
  · unfold cTold at q
    refine ra r σ H H _ (.refl _) f.all ?_
    cases z : A r with
    | ok ts r1 =>
      rw [z] at q
      by_cases hz : (okM ms ts && decide (ts.length ≤ LIM)) = true
      · simp only [hz, if_true] at q
        obtain ⟨z1, z2⟩ := Bool.and_eq_true_iff.mp hz
        refine ⟨z1, fun H1 vs s1 f1 rvs fl => ⟨by rw [rvs.length]; exact lim_line (of_decide_eq_true z2), fun a ha => ?_⟩⟩
        have s2 : Same H1 (upd H1 a (.lst vs)) := fun b o eb => by rw [upd_ne (ne_of_none eb ha)]; exact eb
        have il : i < σ.length := by rw [← f.len, f.siz]; exact Nat.le_of_ble_eq_true hlen
        have fs : Frm c.K ⟨none, c.G.n, []⟩ [] r1 σ (fun _ => False) (upd H1 a (.lst vs)) (upd H1 a (.lst vs)) := (f1.pu (Pu.new f1.sub ha))
        refine rq (r1.set i (some (.lst ts))) (r.set i none) (σ.set i (some (.ref a))) O H _ B D (s1.trans s2) (fs.set (.lst (.of upd_same) (rvs.mono s2)) (fun h => nomatch h) (fun k h => nomatch h) (fun k h => nomatch h) (.inl rfl)) (f.drop hi) ⟨a, vs, List.getElem?_set_self il, upd_same, fl.mono s2, fun k p hk hp e => ?_⟩ q
        obtain ⟨p', ws, y1, y2, _⟩ := fl k hk
        rw [hp] at y1
        cases y1
        rw [e, ha] at y2
        cases y2
      · simp only [hz] at q
        exact (show False from q).elim
    | ex n w r1 => rw [z] at q; exact (show False from q).elim
    | no => rw [z] at q; exact (show False from q).elim
end
/-! ### read backwards -/
section
variable {nx bk ct : Sl → Prop} {rt : T → Sl → Prop} {ex : Xp} {r rs ro : Sl}
theorem WS_told {i : Nat} {ms : List Bool} {A : Ac} {F : Sl → Sl → So} (h : WE (A r) (fun ts r1 => okM ms ts = true ∧ ts.length ≤ LIM ∧ WS (F (r1.set i (some (.lst ts))) (r.set i none)) nx rt bk ct ex) noX) : WS (cTold i ms A F r) nx rt bk ct ex := by
  unfold cTold
  cases z : A r with
  | ok ts r1 =>
    rw [z] at h
    obtain ⟨h1, h2, h3⟩ := h.go
    simp only [h1, decide_eq_true h2, Bool.and_self, if_true]
    exact h3
  | ex n w r1 => rw [z] at h; exact h.go.elim
  | no => rw [z] at h; exact h.go.elim
theorem WS_qif {C : Cc} {Fb : Sc} {F : Sl → Sl → So} (h : WE (C rs) (fun z r1 => (z = true → WS (Fb ro) noS rt bk ct ex) ∧ (z = false → WS (F r1 ro) nx rt bk ct ex)) noX) : WS (cQIf C Fb F rs ro) nx rt bk ct ex := by
  unfold cQIf
  cases z : C rs with
  | ok b r1 =>
    rw [z] at h
    cases b with
    | true =>
      have h := h.go.1 rfl
      simp only
      cases y : Fb ro with
      | nx r2 => rw [y] at h; exact h.go.elim
      | _ => rw [y] at h; exact ⟨h.go⟩
    | false => exact h.go.2 rfl
  | ex n w r1 => rw [z] at h; exact h.go.elim
  | no => rw [z] at h; exact h.go.elim
theorem WS_qend {G : Sc} (h : WS (G ro) nx rt bk ct ex) : WS (cQEnd G rs ro) nx rt bk ct ex := h
end
end Tc

/-! Tc: stores to names that inner blocks read. -/
namespace Tc
open PySem PySem.Spec L2
section
variable {c : SC} {j : JT} {P P1 P' : List Nat} {e : Expr} {E : Ec} {pos : Pos}
theorem sw_cell {elt : Expr} {gs : List Comprehension} {scope : Scope} {pos py : Pos} {y : Str} {l : Nat} {env : Env} {sc : Scope} (he : env.scope = sc) (hy : sc.names.lookup y = some .cell) : swapsWith (.ListComp elt gs scope pos) (some (.Name y py)) l env = pure false := by
  have ky : env.kindOf y = some .cell := by rw [← he] at hy; exact hy
  unfold swapsWith
  simp only [ky]
  have e : ∀ b : Bool, (b && ((some NameKind.cell : Option NameKind) == some .local)) = false := fun b => by cases b <;> rfl
  rw [e]
  rfl
theorem sj_setC (i : Nat) {x : Str} {p1 : Pos} (he : EJ c P e E) (hs : ∀ env : Env, env.scope = c.sc → swapsWith e (some (.Name x p1)) pos.line env = pure false) (hN : c.N[i]? = some x := by rfl) (hx : Loc c.sc x := by first | exact Or.inl rfl | exact Or.inr rfl) (hst : c.st x = true := by rfl)
    (hi : i ∉ P' := by decide) (h1 : ∀ k ∈ P', k ∈ P := by decide) (h2 : ∀ k ∈ P, k = i ∨ k ∈ P' := by decide)
    (hg : c.G.g = none ∨ 0 ∈ P' := by first | exact Or.inl rfl | exact Or.inr (by decide)) : SJ c j P P' (.Assign [.Name x p1] e pos) (cSet i E) := by
  obtain ⟨t, p, rd⟩ := he.ex
  refine ⟨tAsg t (gName i), fun X h => ?_, fun r σ O H B D f q => rd r σ O H B _ f ((SK.so q).imp fun u r1 O1 H1 B1 f1 g1 q1 v rv => ?_)⟩
  · have hl : Loc X.env.scope x := by rw [h.sc]; exact hx
    exact ps_set (by rw [h.N]; exact h.nd) (by rw [h.N]; exact hN) hl (p X h) (hs _ h.sc) (h.fn x hst hl)
  · exact (show SK c j P' O1 H1 B1 D (.nx _) from q1) _ O1 H1 B1 (f1.set rv hi h1 h2 hg) .refl
theorem sj_setCF (i : Nat) {x : Str} {p1 : Pos} (he : FJ c P e E) (hs : ∀ env : Env, env.scope = c.sc → swapsWith e (some (.Name x p1)) pos.line env = pure false) (hlen : Nat.ble (i + 1) c.G.n = true := by rfl) (hN : c.N[i]? = some x := by rfl) (hx : Loc c.sc x := by first | exact Or.inl rfl | exact Or.inr rfl) (hst : c.st x = true := by rfl)
    (h0 : i ∈ P' := by decide) (h1 : ∀ k ∈ P', k = i ∨ k ∈ P := by decide) (h2 : ∀ k ∈ P, k ∈ P' := by decide)
    (hg : c.G.g = none ∨ i ≠ 0 := by first | exact Or.inl rfl | exact Or.inr (by decide)) : SJ c j P P' (.Assign [.Name x p1] e pos) (cSet i E) := by
  obtain ⟨t, p, rd⟩ := he.ex
  refine ⟨tAsg t (gName i), fun X h => ?_, fun r σ O H B D f q => rd r σ O H B _ f ?_⟩
  · have hl : Loc X.env.scope x := by rw [h.sc]; exact hx
    exact ps_set (by rw [h.N]; exact h.nd) (by rw [h.N]; exact hN) hl (p X h) (hs _ h.sc) (h.fn x hst hl)
  · have q := SK.so (P := P) (σ := σ) q
    cases z : E r with
    | ok u r1 =>
      rw [z] at q
      intro O1 H1 B1 f1 g1 pp vs ts e hO hs hp rp
      subst e
      exact (show SK c j P' O1 H1 B1 D (.nx _) from q O1 H1 B1 f1 g1) _ O1 H1 B1 (f1.setF (by rw [f1.siz]; exact Nat.le_of_ble_eq_true hlen) hO hs hp rp h0 h1 h2 hg) .refl
    | ex n w r1 => rw [z] at q; exact q
    | no => rw [z] at q; exact q
end
end Tc

/-! Tc: a op b op c op d. -/
namespace Tc
open PySem PySem.Spec L2 PyProof.Rows
def tChain3 (r r' r'' : R2) (ta tb tc td : TE) : TE := fun σ H Q => ta σ H fun x H1 => tb σ H1 fun y H2 => r x y H2 fun z H3 => ∃ k, z = .bl k ∧
  (if k = true then tc σ H3 fun w' H4 => r' y w' H4 fun z' H5 => ∃ k', z' = .bl k' ∧ (if k' = true then td σ H5 fun u' H6 => r'' w' u' H6 Q else Q (.bl false) H5) else Q (.bl false) H3)
section
variable {X : Cx} {a b c d : Expr} {ta tb tc td : TE} {pos : Pos}
theorem pe_chain3 {op op' op'' : CmpOp} {r r' r'' : R2} (ho : OpR X (compareOp op) r) (ho' : OpR X (compareOp op') r') (ho'' : OpR X (compareOp op'') r'') (ha : PE X a ta) (hb : PE X b tb) (hc : PE X c tc) (hd : PE X d td)
    (hm : lastMarks [op, op', op''] [b, c, d] = false := by with_unfolding_all rfl) : PE X (.Compare a [op, op', op''] [b, c, d] pos) (tChain3 r r' r'' ta tb tc td) := by
  refine ⟨fun pins s σ H Q I h => ?_⟩
  refine Compare_chain (thn (ha.run pins s σ H _ I h) fun v s1 ⟨x, H1, I1, r1, q1⟩ => chain_link (thn (hb.run pins s1 σ H1 _ I1 q1) fun u s2 ⟨y, H2, I2, r2, q2⟩ =>
    thn (ho pins s2 σ H2 x y v u _ I2 r1 r2 q2) fun d s3 ⟨z, H3, I3, r3, k, e, q3⟩ => ?_)) hm
  subst e
  cases r3
  refine wpAny_truthy_bool ?_
  cases k with
  | false => exact ite_ff ⟨.bl false, H3, I3, rfl, q3⟩
  | true =>
    refine ite_tt (chain_link (thn (hc.run pins s3 σ H3 _ I3 q3) fun w' s4 ⟨z', H4, I4, r4, q4⟩ =>
      thn (ho' pins s4 σ H4 y z' u w' _ I4 r2 r4 q4) fun d s5 ⟨z, H5, I5, r5, k', e, q5⟩ => ?_))
    subst e
    cases r5
    refine wpAny_truthy_bool ?_
    cases k' with
    | false => exact ite_ff ⟨.bl false, H5, I5, rfl, q5⟩
    | true => exact ite_tt (chain_last (thn (hd.run pins s5 σ H5 _ I5 q5) fun w'' s6 ⟨z'', H6, I6, r6, q6⟩ => ho'' pins s6 σ H6 z' z'' w' w'' Q I6 r4 r6 q6))
end
def cChain3 (f g h : T → T → Option T) (a b d e : Ec) : Ec := fun r => (a r).bind fun x r1 => (b r1).bind fun y r2 => match f x y with
  | some (.bl z) => if z = true then (cChain g h (cK y) d e r2) else .ok (.bl false) r2
  | _ => .no
section
variable {c : SC} {P : List Nat} {a b d e : Expr} {Fa Fb Fd Fe : Ec} {pos : Pos}
theorem ej_chain3 {op op' op'' : CmpOp} {r2 r2' r2'' : R2} {f g h : T → T → Option T} (ho : ∀ X, c.Is X → OpR X (compareOp op) r2) (hf : Sd2 c.K r2 f) (ho' : ∀ X, c.Is X → OpR X (compareOp op') r2') (hg : Sd2 c.K r2' g) (ho'' : ∀ X, c.Is X → OpR X (compareOp op'') r2'') (hh : Sd2 c.K r2'' h)
    (ha : EJ c P a Fa) (hb : EJ c P b Fb) (hd : EJ c P d Fd) (he : EJ c P e Fe) (hm : lastMarks [op, op', op''] [b, d, e] = false := by with_unfolding_all rfl) : EJ c P (.Compare a [op, op', op''] [b, d, e] pos) (cChain3 f g h Fa Fb Fd Fe) := by
  obtain ⟨ta, pa, ra⟩ := ha.ex
  obtain ⟨tb, pb, rb⟩ := hb.ex
  obtain ⟨td, pd, rd⟩ := hd.ex
  obtain ⟨te, pe, re⟩ := he.ex
  refine ⟨tChain3 r2 r2' r2'' ta tb td te, fun X i => pe_chain3 (ho X i) (ho' X i) (ho'' X i) (pa X i) (pb X i) (pd X i) (pe X i) hm, fun r σ O H B Q fr q => ?_⟩
  refine ra r σ O H B _ fr ((PK.bind q).imp fun t r1 O1 H1 B1 f1 g1 q1 v rv => ?_)
  refine rb r1 σ O1 H1 B1 _ f1 ((PK.bind q1).imp fun u r2 O2 H2 B2 f2 g2 q2 w rw' => ?_)
  cases ez : f t u with
  | none => simp only [ez] at q2; exact (show False from q2).elim
  | some z =>
    simp only [ez] at q2
    cases z with
    | bl k =>
      refine hf H2 B2 v w t u _ _ f2.sub (rv.mono g2.bb) rw' ez fun v' H' B' p rp => ?_
      cases rp.bl_inv
      refine ⟨k, rfl, ?_⟩
      have f3 := f2.pu p
      cases k with
      | true =>
        have q3 := PK.later (show PK c P σ O2 H2 B2 (GoodT c Q) (cChain g h (cK u) Fd Fe r2) from q2) (Grow.of_pu (O := O2) p)
        have q3 : PK c P σ O2 H' B' (GoodT c Q) ((Fd r2).bind fun x r3 => match g u x with
          | some (.bl z) => if z = true then (Fe r3).bind fun y r4 => Out.opt r4 (h x y) else .ok (.bl false) r3
          | _ => .no) := q3
        rw [if_pos rfl]
        refine rd r2 σ O2 H' B' _ f3 ((PK.bind q3).imp fun u' r3 O4 H4 B4 f4 g4 q4 x rx => ?_)
        cases ez' : g u u' with
        | none => simp only [ez'] at q4; exact (show False from q4).elim
        | some z' =>
          simp only [ez'] at q4
          cases z' with
          | bl k' =>
            refine hg H4 B4 w x u u' _ _ f4.sub ((rw'.mono p.bb).mono g4.bb) rx ez' fun v'' H5 B5 p5 rp5 => ?_
            cases rp5.bl_inv
            refine ⟨k', rfl, ?_⟩
            have f5 := f4.pu p5
            have q5 := PK.later (show PK c P σ O4 H4 B4 (GoodT c Q) (if k' = true then (Fe r3).bind fun y r4 => Out.opt r4 (h u' y) else .ok (.bl false) r3) from q4) (Grow.of_pu (O := O4) p5)
            cases k' with
            | true =>
              rw [if_pos rfl] at q5 ⊢
              refine re r3 σ O4 H5 B5 _ f5 ((PK.bind q5).imp fun u'' r4 O6 H6 B6 f6 g6 q6 y ry => ?_)
              obtain ⟨z, ez'', q7⟩ := PK.opt q6
              exact hh H6 B6 x y u' u'' z Q f6.sub ((rx.mono p5.bb).mono g6.bb) ry ez'' fun v' H' B' p rp => q7.pu f6 p v' rp
            | false => exact PK.at (show PK c P σ O4 H5 B5 (GoodT c Q) (.ok (.bl false) r3) from q5) f5 _ (.bl false)
          | _ => exact (show False from q4).elim
      | false =>
        rw [if_neg Bool.false_ne_true]
        exact PK.at (PK.later (show PK c P σ O2 H2 B2 (GoodT c Q) (.ok (.bl false) r2) from q2) (Grow.of_pu (O := O2) p)) f3 _ (.bl false)
    | _ => exact (show False from q2).elim
end
section
variable {r : Sl} {ξ : Xp} {ψ : T → Sl → Prop} {a b d e : Ec}
theorem WE_chain3 {f g h : T → T → Option T} (q : WE (a r) (fun x r1 => WE (b r1) (fun y r2 => ∃ z, f x y = some (.bl z) ∧ (z = true → WE (cChain g h (cK y) d e r2) ψ ξ) ∧ (z = false → ψ (.bl false) r2)) ξ) ξ) : WE (cChain3 f g h a b d e r) ψ ξ :=
  WE_bind (q.imp fun x r1 h1 => WE_bind (h1.imp fun y r2 ⟨z, e, q⟩ => by
    rw [e]
    cases z with
    | true => exact q.1 rfl
    | false => exact ⟨q.2 rfl⟩))
end
end Tc

/-! Tc: a new list is lent, and dropped. -/
namespace Tc
open PySem PySem.Spec L2
def cCallGT (m : Fc) (F : Ec) (A : Ac) : Ec := fun r => (F r).bind fun t r1 => (A r1).bind fun ts r2 => match m (t :: ts) with
  | .ok u _ => .ok u r2
  | _ => .no
section
variable {c : SC} {P : List Nat} {e0 : Expr} {es : List Expr} {F0 : Ec} {A : Ac} {x : Str} {k : Nat} {f : Addr} {fd : FuncData} {ps : List Str} {m : Fc} {p pos : Pos}
theorem ej_callGT (C : Callee c k x f fd ps true false m) (h0 : FJ c P e0 F0) (ha : AJ c P es A) (hk : Nat.ble k c.k = true := by rfl) (hg : c.sc.names.lookup x = some .globalImplicit := by rfl) (hdb : (x == ("__debug__" : Str)) = false := by decide)
    (he : ∀ env, starEach (e0 :: es) env = (false, eval e0 env) :: starEach es env := by intro _; rfl) (hpl : ∀ env, (backTo pos (starEach es env)).any (·.1) = false := by intro _; rfl) (hn : es.length + 1 = ps.length := by rfl) :
    EJ c P (.Call (.Name x p) (e0 :: es) [] pos) (cCallGT m F0 A) := by
  obtain ⟨t0, p0, rd0⟩ := h0.ex
  obtain ⟨t, pt, rt⟩ := ha.ex
  refine ⟨tCallG (spX c.G.T c.K true false ps.length m) c.W (tCons t0 t), fun X h => pe_callee h C (Nat.le_of_ble_eq_true hk) hg (pa_cons (p0 X h) (pt X h) (he _)) hdb he hpl, fun r σ O H B Q fr q => ?_⟩
  refine rd0 r σ O H B _ fr ((PK.bind0 q).imp fun u r1 O1 H1 B1 f1 g1 q1 pp vs0 ts0 e hO hs hp rp => ?_)
  subst e
  have f1' : Frm c.K c.G P r1 σ (fun a => O1 a ∧ a ≠ pp) H1 B1 := by
    refine ⟨f1.sub, fun a h => f1.out a h.1, fun a h => f1.liv a h.1, f1.var, fun i hi => ?_, f1.sep, f1.len, f1.siz, f1.inn, f1.tab.le fun a h => .inl h.1⟩
    obtain ⟨q, vs, ts, x1, x2, x3, x4, x5⟩ := f1.prv i hi
    exact ⟨q, vs, ts, x1, x2, ⟨x3, fun z => hs i hi (by rw [x2, z])⟩, x4, x5⟩
  have g1' : Grow O H B (fun a => O1 a ∧ a ≠ pp) H1 B1 := ⟨g1.bb, g1.nb, g1.hh, fun a h => g1.oo a h.1⟩
  refine rt r1 σ _ H1 B1 _ f1' (((PK.bind0 q1).later g1').impE fun ts r2 O2 H2 B2 hts f2 g2 q2 vs rv => ?_)
  have hp2 : H2 pp = some (.lst vs0) := g2.lst hp (fun z => z.2 rfl)
  have hB1 : B1 pp = none := f1.out pp hO
  have hB2 : B2 pp = none := by
    cases e : B2 pp with
    | none => rfl
    | some o =>
      rcases g2.nb pp o e with z | z | z
      · rw [hB1] at z; cases z
      · rw [hp] at z; cases z
      · exact absurd rfl z.2
  have hO2 : ¬ O2 pp := fun z => by
    rcases g2.oo pp z with z | z
    · exact z.2 rfl
    · rw [hp] at z; cases z
  have tg : TabF c.G.T (fun a => some pp = some a) H2 B2 := fun p hp => by
    obtain ⟨t1, t2, _⟩ := f2.tab p hp
    refine ⟨t1, t2, fun z => ?_⟩
    obtain ⟨ps, e, _⟩ := t1
    cases z
    rw [hp2] at e; cases e
  refine ⟨by rw [List.length_cons, rv.length, ha.len _ _ _ hts, hn], some pp, B2, .lst ts0 :: ts, f2.sub, tg, ⟨pp, vs0, ts0, vs, ts, rfl, rfl, rfl, hB2, hp2, rp.mono g2.bb, rv⟩, ?_⟩
  cases z : m (.lst ts0 :: ts) with
  | ok t gs =>
    intro v O' H' B' sB hO' tb gr hg ov
    rw [z] at q2
    have G12 : Grow O H B O2 H2 B2 := g1'.trans g2
    have keep : ∀ a o, a ≠ pp → H2 a = some o → Kp o (H' a) := fun a o n e => gr.hh a o e fun z => n (Option.some.inj z).symm
    have key : ∀ a, H2 a = none → H a = none ∨ O a := fun a n => by
      cases e : H a with
      | none => exact .inl rfl
      | some o =>
        refine .inr (Classical.byContradiction fun q => ?_)
        exact (G12.hh a o e q).ne n
    refine (show PK c P σ O H B (GoodT c Q) (.ok t r2) from q2) O2 H' B' ⟨sB, fun a h => ?_, fun a h => ?_, fun i u e n => ?_, fun i hi => ?_, f2.sep, f2.len, f2.siz, f2.inn, fun p hp => ⟨tb p hp, (tg.grow gr tb p hp).2.1, (f2.tab p hp).2.2⟩⟩ ⟨G12.bb.trans gr.bb, fun a o e => ?_, fun a o e n => ?_, G12.oo⟩ v ov
    · cases e : B' a with
      | none => rfl
      | some o =>
        rcases gr.nb a o e with q | q | q
        · rw [f2.out a h] at q; cases q
        · exact absurd q (f2.liv a h)
        · cases q
          exact absurd h hO2
    · cases e : H2 a with
      | none => exact absurd e (f2.liv a h)
      | some o => exact (keep a o (fun z => hO2 (z ▸ h)) e).ne
    · obtain ⟨w, h1, h2⟩ := f2.var i u e n
      exact ⟨w, h1, h2.mono gr.bb⟩
    · obtain ⟨q, vs, ts, x1, x2, x3, x4, x5⟩ := f2.prv i hi
      exact ⟨q, vs, ts, x1, x2, x3, (keep q _ (fun z => hO2 (z ▸ x3)) x4).lst, x5.mono gr.bb⟩
    · rcases gr.nb a o e with q | q | q
      · exact G12.nb a o q
      · exact .inr (key a q)
      · cases q
        exact .inr ((g1.oo pp hO).symm)
    · by_cases ha : a = pp
      · subst ha
        rcases g1.oo a hO with z | z
        · exact absurd z n
        · rw [e] at z; cases z
      · exact (G12.hh a o e n).trans fun u eu => keep a u ha eu
  | ex n w => rw [z] at q2; exact (show False from q2).elim
  | no => rw [z] at q2; exact (show False from q2).elim
end
section
variable {c : SC} {j : JT} {P P' : List Nat} {a b : Expr} {A : Ac} {pos : Pos}
theorem Mx.hid {K : PySem.W.Frag} {σ : L2.St} {O : Addr → Prop} {H B : Hp} {p : Addr} {o : HO} (hp : H p = none) : ∀ {ks : List Bool} {vs : List V} {ts : List T}, Mx K P σ H B O ks vs ts → Mx K P σ (upd H p o) B O ks vs ts := by
  intro ks vs ts m
  induction m with
  | nil => exact .nil
  | consE r _ ih => exact .consE r ih
  | consF h1 h2 h3 h4 _ ih => exact .consF h1 h2 (by rw [upd_ne (ne_of_none h3 hp)]; exact h3) h4 ih
/-- x, y = a, b, where inner blocks read x or y -/
theorem sj_par2C (i k : Nat) {k1 k2 : Bool} {x y : Str} {px py pt p2 : Pos} {kt kv} (P1 : List Nat) (ha : MJ c P [k1, k2] [a, b] A) (hi : c.N[i]? = some x := by rfl) (hk : c.N[k]? = some y := by rfl)
    (hx : Loc c.sc x := by first | exact Or.inl rfl | exact Or.inr rfl) (hy : Loc c.sc y := by first | exact Or.inl rfl | exact Or.inr rfl) (sx : c.st x = true := by rfl) (sy : c.st y = true := by rfl)
    (h1 : stOk c.G.g.isNone c.G.n i k1 P P1 = true := by rfl) (h2 : stOk c.G.g.isNone c.G.n k k2 P1 P' = true := by rfl)
    (hw : ∀ env : Env, swappedStores [.Tuple [.Name x px, .Name y py] kt pt] (.Tuple [a, b] kv p2) { env with scope := c.sc } = pure none := by intro _; rfl)
    (hs : ∀ env, swapsWithSole [.Tuple [.Name x px, .Name y py] kt pt] (.Tuple [a, b] kv p2) pos.line env = pure false := by intro _; rfl) :
    SJ c j P P' (.Assign [.Tuple [.Name x px, .Name y py] kt pt] (.Tuple [a, b] kv p2) pos) (cPar2 i k A) := by
  obtain ⟨t, pt', rt⟩ := ha.ex
  refine ⟨tAsg (tTup t) (gTup c.K 2 (gCons (gName i) (gCons (gName k) gNil))), fun X h => ?_, fun r σ O H B D f q => ?_⟩
  · have lx : Loc X.env.scope x := by rw [h.sc]; exact hx
    have ly : Loc X.env.scope y := by rw [h.sc]; exact hy
    have z := ps_asg (pos := pos) (pe_tup (pos := p2) (x1 := kv) (pt' X h)) (pg_tup (k := kt) (pos := pt) (n := 2) h.calm (pgs_cons (pg_name (pos := px) (by rw [h.N]; exact h.nd) (by rw [h.N]; exact hi) lx (h.fn x sx lx)) (pgs_cons (pg_name (pos := py) (by rw [h.N]; exact h.nd) (by rw [h.N]; exact hk) ly (h.fn y sy ly)) pgs_nil))) (hs _) (sw_of hw h)
    rw [h.K] at z
    exact z
  · refine rt r σ O H B _ f ((SK.so q).imp fun ts r1 O1 H1 B1 f1 g1 q1 vs m => ?_)
    obtain ⟨e1, e2⟩ := m.len
    match vs, ts, e1, e2, m, q1 with
    | [v1, v2], [t1, t2], _, _, m, q1 =>
      refine ⟨by rw [sizeLine_eq]; show 2 ≤ _; decide, fun p hp => ⟨p, [v1, v2], rfl, .inl (.inl upd_same), rfl, v1, [v2], rfl, v2, [], rfl, rfl, ?_⟩⟩
      have pu : Pu H1 B1 (upd H1 p (.tup [v1, v2])) B1 := .hid f1.sub hp
      obtain ⟨f2, O2, s2, m2⟩ := (m.hid hp).store (f1.pu pu) (fun _ h => h) h1
      obtain ⟨f3, _, _, _⟩ := m2.store f2 s2 h2
      exact (show SK c j P' O1 H1 B1 D (.nx _) from q1) _ O1 _ B1 f3 (.of_pu pu)
end
section
variable {r : Sl} {ξ : Xp} {ψ : T → Sl → Prop} {a : Ec} {A : Ac}
theorem WE_callGT {m : Fc} (h : WE (a r) (fun t r1 => WE (A r1) (fun ts r2 => WR (m (t :: ts)) (fun u _ => ψ u r2) noR) ξ) ξ) : WE (cCallGT m a A r) ψ ξ :=
  WE_bind (h.imp fun t r1 h1 => WE_bind (h1.imp fun ts r2 q => by
    cases z : m (t :: ts) with
    | ok u g => rw [z] at q; exact ⟨q.go⟩
    | ex c w => rw [z] at q; exact q.go.elim
    | no => rw [z] at q; exact q.go.elim))
end
end Tc

/-! Tc: x in y, y a list or a tuple of data. -/
namespace Tc
open PySem PySem.Spec L2 PyProof.Rows
def inB (t : T) (xs : List T) : Bool := xs.any fun y => eqB y t
def inT : T → T → Option T
  | t, .lst xs => if (dOk 30 t && dOk 30 (.lst xs)) = true then some (.bl (inB t xs)) else none
  | t, .tup xs => if (dOk 30 t && dOk 30 (.tup xs)) = true then some (.bl (inB t xs)) else none
  | _, _ => none
def notInT : T → T → Option T
  | t, .lst xs => if (dOk 30 t && dOk 30 (.lst xs)) = true then some (.bl (!inB t xs)) else none
  | t, .tup xs => if (dOk 30 t && dOk 30 (.tup xs)) = true then some (.bl (!inB t xs)) else none
  | _, _ => none
def rInQ (K : PySem.W.Frag) (b : Bool → Bool) : R2 := fun x y H Q => ∃ d ds, Dp K H x d ∧ (Dp K H y (.list ds) ∨ Dp K H y (.tuple ds)) ∧ d.canLay0 = true ∧ d.depth ≤ 30 ∧ PyData.canLayAll0 ds = true ∧ Q (.bl (b (ds.any fun z => PyData.eqv z d))) H
section
variable {X : Cx} {c : SC}
theorem op_inQ (hu : X.A.units + 64 < cLine) : OpR X (compareOp .In) (rInQ X.K fun b => b) := by
  intro pins s σ H x y v u Q I rx ry h
  obtain ⟨d, ds, hd, he, c1, c2, c3, q⟩ := h
  obtain ⟨as, r1⟩ := Dp.reads I d x v hd rx
  rcases he with he | he
  · obtain ⟨bs, r2⟩ := Dp.reads I (.list ds) y u he ry
    exact SeqAt.in_list_reads r2 r1 c3 c1 (by omega) ⟨.bl _, H, I, rfl, q⟩
  · obtain ⟨bs, r2⟩ := Dp.reads I (.tuple ds) y u he ry
    exact SeqAt.in_tuple_reads r2 r1 c3 c1 (by omega) ⟨.bl _, H, I, rfl, q⟩
theorem op_notInQ (hu : X.A.units + 64 < cLine) : OpR X (compareOp .NotIn) (rInQ X.K fun b => !b) := by
  intro pins s σ H x y v u Q I rx ry h
  obtain ⟨d, ds, hd, he, c1, c2, c3, q⟩ := h
  obtain ⟨as, r1⟩ := Dp.reads I d x v hd rx
  rcases he with he | he
  · obtain ⟨bs, r2⟩ := Dp.reads I (.list ds) y u he ry
    exact SeqAt.notIn_list_reads r2 r1 c3 c1 (by omega) ⟨.bl _, H, I, rfl, q⟩
  · obtain ⟨bs, r2⟩ := Dp.reads I (.tuple ds) y u he ry
    exact SeqAt.notIn_tuple_reads r2 r1 c3 c1 (by omega) ⟨.bl _, H, I, rfl, q⟩
theorem op_inK : ∀ X, c.Is X → OpR X (compareOp .In) (rInQ c.K fun b => b) := fun X h => by
  have z := op_inQ (X := X) h.room.units
  rw [h.K] at z; exact z
theorem op_ninK : ∀ X, c.Is X → OpR X (compareOp .NotIn) (rInQ c.K fun b => !b) := fun X h => by
  have z := op_notInQ (X := X) h.room.units
  rw [h.K] at z; exact z
theorem any_toD {n m : Nat} {y : T} (hy : dOk m y = true) : ∀ {ts : List T}, dOks n ts = true → (toDs ts).any (fun z => PyData.eqv z (toD y)) = ts.any (fun x => eqB x y)
  | [], _ => rfl
  | t :: ts, h => by
    obtain ⟨h1, h2⟩ := Bool.and_eq_true_iff.mp (show (dOk n t && dOks n ts) = true from h)
    show (PyData.eqv (toD t) (toD y) || (toDs ts).any _) = (eqB t y || ts.any _)
    rw [any_toD hy h2, eqv_eq n m t y h1 hy]
theorem sd_inQ {K : PySem.W.Frag} {b : Bool → Bool} {f : T → T → Option T} (hf : ∀ t u z, f t u = some z → ∃ xs, (u = .lst xs ∨ u = .tup xs) ∧ dOk 30 t = true ∧ dOk 30 u = true ∧ z = .bl (b (inB t xs))) : Sd2 K (rInQ K b) f := by
  intro H B x y t u z Q sB rx ry e q
  obtain ⟨xs, hu, h1, h2, rfl⟩ := hf t u z e
  obtain ⟨l1, l2⟩ := toD_lay 30 t h1
  have hd := dp_of 30 (rx.mono sB) h1
  have hy := dp_of 30 (ry.mono sB) h2
  have hxs : dOks 29 xs = true := by rcases hu with rfl | rfl <;> exact h2
  refine ⟨toD t, toDs xs, hd, ?_, l1, l2, (toDs_lay 29 xs hxs).1, ?_⟩
  · rcases hu with rfl | rfl
    · exact .inl hy
    · exact .inr hy
  · rw [any_toD h1 hxs]
    exact q _ H B (.refl sB) (.bl _)
theorem sd_in {K : PySem.W.Frag} : Sd2 K (rInQ K fun b => b) inT := sd_inQ fun t u z e => by
  unfold inT at e
  split at e
  · split at e
    · rename_i h
      cases e
      obtain ⟨a, b⟩ := Bool.and_eq_true_iff.mp h
      exact ⟨_, .inl rfl, a, b, rfl⟩
    · cases e
  · split at e
    · rename_i h
      cases e
      obtain ⟨a, b⟩ := Bool.and_eq_true_iff.mp h
      exact ⟨_, .inr rfl, a, b, rfl⟩
    · cases e
  · cases e
theorem sd_nin {K : PySem.W.Frag} : Sd2 K (rInQ K fun b => !b) notInT := sd_inQ fun t u z e => by
  unfold notInT at e
  split at e
  · split at e
    · rename_i h
      cases e
      obtain ⟨a, b⟩ := Bool.and_eq_true_iff.mp h
      exact ⟨_, .inl rfl, a, b, rfl⟩
    · cases e
  · split at e
    · rename_i h
      cases e
      obtain ⟨a, b⟩ := Bool.and_eq_true_iff.mp h
      exact ⟨_, .inr rfl, a, b, rfl⟩
    · cases e
  · cases e
end
end Tc

/-! Tc: bool - bool. -/
namespace Tc
open PySem PySem.Spec L2 PyProof.Rows
def bInt (a : Bool) : Int := if a = true then 1 else 0
def subBT : T → T → Option T
  | .bl a, .bl b => some (.int (bInt a - bInt b))
  | _, _ => none
def rSubB : R2 := fun x y H Q => ∃ a b, x = .bl a ∧ y = .bl b ∧ Q (.int (bInt a - bInt b)) H
theorem gives_bool_sub (a b : Bool) :
    Gives (Builtin.«int.__sub__» ⟨[.bool a, .bool b], []⟩) (.int ((if a = true then (1 : Int) else 0) - (if b = true then (1 : Int) else 0))) :=
  .of_wp fun M A E s Q h => by obtain ⟨hp, g, d, tk, os⟩ := s; wp_walk; exact ⟨_, rfl, h⟩
theorem op_subB {X : Cx} : OpR X (binaryOp .Sub) rSubB := by
  intro pins s σ H x y v u Q I rx ry h
  obtain ⟨a, b, rfl, rfl, q⟩ := h
  cases rx
  cases ry
  exact binaryOp_gives (op := .Sub) (T := "bool") rfl rfl F.fills_bool_sub F.slot_bool_sub F.entry_int_sub (F.args_int_sub_2 _ _) (gives_bool_sub a b) trivial
    ⟨.int (bInt a - bInt b), H, I.tok _, ⟨_, rfl⟩, q⟩
theorem sd_subB {K : PySem.W.Frag} : Sd2 K rSubB subBT := by
  intro H B x y t u z Q sB rx ry e q
  cases rx with
  | bl i =>
    cases ry with
    | bl j => cases e; exact ⟨i, j, rfl, rfl, q _ H B (.refl sB) (.int _)⟩
    | _ => cases e
  | _ => cases e
end Tc

/-! Tc: lambdas without parameters, handed to defs and called there. -/
namespace Tc
open PySem PySem.Spec L2 PyProof.Rows

/-! ### objects that are tracked for a while -/
def ov (cs : Addr → Option Obj) (H : Hp) : Hp := fun b => match cs b with
  | some o => some (PinO b o)
  | none => H b
def cut (cs : Addr → Option Obj) (H : Hp) : Hp := fun b => match cs b with
  | some _ => none
  | none => H b
section
variable {cs : Addr → Option Obj} {H H' : Hp} {b : Addr} {o : Obj} {P : Program} {w : World} {h h' : Heap}
theorem ov_at (e : cs b = some o) : ov cs H b = some (PinO b o) := by unfold ov; rw [e]
theorem ov_ne (e : cs b = none) : ov cs H b = H b := by unfold ov; rw [e]
theorem cut_at (e : cs b = some o) : cut cs H b = none := by unfold cut; rw [e]
theorem cut_ne (e : cs b = none) : cut cs H b = H b := by unfold cut; rw [e]
theorem pin_own {x : Addr} : PinO b o ≠ .own x := fun z => by unfold PinO at z; cases z
theorem pin_tup {xs : List V} : PinO b o ≠ .tup xs := fun z => by unfold PinO at z; cases z
theorem pin_lst {xs : List V} : PinO b o ≠ .lst xs := fun z => by unfold PinO at z; cases z
theorem pin_frz {o' : Obj} {u : HO} : PinO b o ≠ .frz o' u := fun z => by unfold PinO at z; cases z
theorem pin_tbl {ps : Array Value} : PinO b o ≠ .tbl ps := fun z => by unfold PinO at z; cases z
theorem pin_ok (e : h.get? b = some o) : ObjOk P w H h b (PinO b o) := ⟨e, ⟨o, e⟩, fun _ _ q k => k _ q⟩
theorem pin_get (x : HOk P w H h) (e : H b = some (PinO b o)) : h.get? b = some o := (x b _ e).1
/-- more is tracked -/
theorem hok_ov (x : HOk P w H h) (hn : ∀ b o, cs b = some o → H b = none) (hg : ∀ b o, cs b = some o → h.get? b = some o) : HOk P w (ov cs H) h := fun b u e => by
  cases z : cs b with
  | some o =>
    rw [ov_at z] at e
    cases e
    exact pin_ok (hg b o z)
  | none =>
    rw [ov_ne z] at e
    have nc : ∀ c v, H c = some v → cs c = none := fun c v q => by
      cases y : cs c with
      | none => rfl
      | some o => rw [hn c o y] at q; cases q
    exact (x b u e).stay (fun _ _ _ q => q) (fun c q => by rw [ov_ne (nc c _ q)]; exact q) fun c xs q => by rw [ov_ne (nc c _ q)]; exact q
/-- less is tracked -/
theorem hok_cut (x : HOk P w H h) (ht : ∀ b o, cs b = some o → H b = some (PinO b o)) : HOk P w (cut cs H) h := fun b u e => by
  cases z : cs b with
  | some o => rw [cut_at z] at e; cases e
  | none =>
    rw [cut_ne z] at e
    have nc : ∀ c v, H c = some v → (∀ o, v ≠ PinO c o) → cs c = none := fun c v q n => by
      cases y : cs c with
      | none => rfl
      | some o => rw [ht c o y] at q; cases q; exact absurd rfl (n o)
    exact (x b u e).stay (fun _ _ _ q => q) (fun c q => by rw [cut_ne (nc c _ q fun _ => (Ne.symm pin_own))]; exact q) fun c xs q => by rw [cut_ne (nc c _ q fun _ => (Ne.symm pin_tup))]; exact q
theorem cut_ov (hn : ∀ b o, cs b = some o → H b = none) : cut cs (ov cs H) = H := by
  funext b
  cases z : cs b with
  | some o => rw [cut_at z, hn b o z]
  | none => rw [cut_ne z, ov_ne z]
end
section
variable {P : Program} {w : World} {K : PySem.W.Frag} {mg : Str → Option Value} {base : Heap} {A : Around} {outer : List Env} {s s' : Shared} {H : Hp} {cs : Addr → Option Obj} {Q : VK} {E : XK} {u : Value} {r : Result}
theorem env0_ov (e : Env0 P w K mg base A outer s H) (hn : ∀ b o, cs b = some o → H b = none) (hg : ∀ b o, cs b = some o → s.heap.get? b = some o) (hb : ∀ b o, cs b = some o → base.get? b = none) (hf : ∀ b o, cs b = some o → b ∉ frs outer) : Env0 P w K mg base A outer s (ov cs H) := by
  refine ⟨e.frames, e.mod, fun b o q => ?_, e.bsz, e.funs, fun b q => ?_, hok_ov e.hok hn hg, e.bare⟩
  · obtain ⟨h1, h2⟩ := e.bs b o q
    refine ⟨h1, ?_⟩
    cases z : cs b with
    | some o' => rw [hb b o' z] at q; cases q
    | none => rw [ov_ne z]; exact h2
  · cases z : cs b with
    | some o => exact absurd q (hf b o z)
    | none => rw [ov_ne z]; exact e.frf b q
/-- a call in which more was tracked -/
theorem ce_ov (hn : ∀ b o, cs b = some o → H b = none) (hf : ∀ b o, cs b = some o → b ∉ frs outer) (hg : ∀ b o, cs b = some o → s.heap.get? b = some o)
    (h : CE outer P w (ov cs H) s (fun v H' => (∀ b o, cs b = some o → H' b = some (PinO b o)) ∧ Q v (cut cs H')) u s') : CE outer P w H s Q u s' := by
  obtain ⟨v, H', os, bare, un, hok, rv, ht, q⟩ := h
  have nc : ∀ c v, H c = some v → cs c = none := fun c v q => by
    cases y : cs c with
    | none => rfl
    | some o => rw [hn c o y] at q; cases q
  refine ⟨v, cut cs H', os, bare, ⟨fun b o e n n1 n2 => ?_, fun b o e n n1 n2 => ?_, fun b o e n n2 => ?_, un.there, fun b xs e => ?_, fun b o xs e => ?_, fun b ps e => ?_⟩, hok_cut hok ht, rv, q⟩
  · cases z : cs b with
    | some o' =>
      have e1 := pin_get hok (ht b o' z)
      rw [hg b o' z] at e
      cases e
      exact e1
    | none => exact un.keep b o e (by rw [ov_ne z]; exact n) n1 n2
  · cases z : cs b with
    | some o' => exact absurd n1 (hf b o' z)
    | none => exact un.slot b o e (by rw [ov_ne z]; exact n) n1 n2
  · cases z : cs b with
    | some o' => exact cut_at z
    | none => rw [cut_ne z]; exact un.free b o e (by rw [ov_ne z]; exact n) n2
  · rw [cut_ne (nc b _ e)]; exact un.tups b xs (by rw [ov_ne (nc b _ e)]; exact e)
  · rw [cut_ne (nc b _ e)]; exact un.frzs b o xs (by rw [ov_ne (nc b _ e)]; exact e)
  · rw [cut_ne (nc b _ e)]; exact un.tbls b ps (by rw [ov_ne (nc b _ e)]; exact e)
/-- less is tracked in a call -/
theorem env0_unov (e : Env0 P w K mg base A outer s (ov cs H)) (hn : ∀ b o, cs b = some o → H b = none) : Env0 P w K mg base A outer s H := by
  have le : ∀ b, ov cs H b = none → H b = none := fun b q => by
    cases z : cs b with
    | some o => exact hn b o z
    | none => rw [ov_ne z] at q; exact q
  refine ⟨e.frames, e.mod, fun b o q => ⟨(e.bs b o q).1, le b (e.bs b o q).2⟩, e.bsz, e.funs, fun b q => le b (e.frf b q), ?_, e.bare⟩
  have := hok_cut e.hok (cs := cs) fun b o z => ov_at z
  rw [cut_ov hn] at this
  exact this
theorem un_reov {h h' : Heap} {fs : List Addr} {H' : Hp} (hn : ∀ b o, cs b = some o → H b = none) (un : Un fs [] H H' h h') : Un fs [] (ov cs H) (ov cs H') h h' := by
  have le : ∀ b, ov cs H b = none → H b = none ∧ cs b = none := fun b q => by
    cases z : cs b with
    | some o => rw [ov_at z] at q; cases q
    | none => rw [ov_ne z] at q; exact ⟨q, rfl⟩
  have nc : ∀ c v, ov cs H c = some v → (∀ o, v ≠ PinO c o) → cs c = none := fun c v q n => by
    cases y : cs c with
    | none => rfl
    | some o => rw [ov_at y] at q; cases q; exact absurd rfl (n o)
  refine ⟨fun b o e n => un.keep b o e (le b n).1, fun b o e n => un.slot b o e (le b n).1, fun b o e n n2 => ?_, un.there, fun b xs e => ?_, fun b o xs e => ?_, fun b ps e => ?_⟩
  · rw [ov_ne (le b n).2]; exact un.free b o e (le b n).1 n2
  · have z := nc b _ e fun _ => Ne.symm pin_tup
    rw [ov_ne z] at e ⊢; exact un.tups b xs e
  · have z := nc b _ e fun _ => Ne.symm pin_frz
    rw [ov_ne z] at e ⊢; exact un.frzs b o xs e
  · have z := nc b _ e fun _ => Ne.symm pin_tbl
    rw [ov_ne z] at e ⊢; exact un.tbls b ps e
theorem ce_reov (hn : ∀ b o, cs b = some o → H b = none) (hf : ∀ b o, cs b = some o → b ∉ frs outer) (hg : ∀ b o, cs b = some o → s.heap.get? b = some o) (h : CE outer P w H s (fun v H' => (∀ b o, cs b = some o → H' b = none) → Q v (ov cs H')) u s') : CE outer P w (ov cs H) s Q u s' := by
  obtain ⟨v, H', os, bare, un, hok, rv, q⟩ := h
  refine ⟨v, ov cs H', os, bare, un_reov hn un, hok_ov hok (fun b o z => un.free b o (hg b o z) (hn b o z) (fun y => nomatch y)) fun b o z => un.keep b o (hg b o z) (hn b o z) (hf b o z) (fun y => nomatch y), rv, q fun b o z => un.free b o (hg b o z) (hn b o z) (fun y => nomatch y)⟩
theorem cx_reov (hn : ∀ b o, cs b = some o → H b = none) (hf : ∀ b o, cs b = some o → b ∉ frs outer) (hg : ∀ b o, cs b = some o → s.heap.get? b = some o) (h : L2.CX P w outer H s (fun c d H' => (∀ b o, cs b = some o → H' b = none) → E c d (ov cs H')) u s') : L2.CX P w outer (ov cs H) s E u s' := by
  obtain ⟨a, B, H', cls, d, rfl, fl, hok, ub, na, os, ag, hE⟩ := h
  have inB : ∀ b o, cs b = some o → B.get? b = some o := fun b o z => ub.keep b o (hg b o z) (hn b o z) (hf b o z)
  have le : ∀ b, ov cs H b = none → H b = none ∧ cs b = none := fun b q => by
    cases z : cs b with
    | some o => rw [ov_at z] at q; cases q
    | none => rw [ov_ne z] at q; exact ⟨q, rfl⟩
  have nc : ∀ c v, ov cs H c = some v → (∀ o, v ≠ PinO c o) → cs c = none := fun c v q n => by
    cases y : cs c with
    | none => rfl
    | some o => rw [ov_at y] at q; cases q; exact absurd rfl (n o)
  refine ⟨a, B, ov cs H', cls, d, rfl, fl, hok_ov hok (fun b o z => ub.free b o (hg b o z) (hn b o z)) inB, ⟨fun b o e n => ub.keep b o e (le b n).1, ub.slot, fun b o e n => ?_, ub.there, fun b xs e => ?_, fun b o xs e => ?_, fun b ps e => ?_⟩, ?_, os, ag, hE fun b o z => ub.free b o (hg b o z) (hn b o z)⟩
  · rw [ov_ne (le b n).2]; exact ub.free b o e (le b n).1
  · have z := nc b _ e fun _ => Ne.symm pin_tup
    rw [ov_ne z] at e ⊢; exact ub.tups b xs e
  · have z := nc b _ e fun _ => Ne.symm pin_frz
    rw [ov_ne z] at e ⊢; exact ub.frzs b o xs e
  · have z := nc b _ e fun _ => Ne.symm pin_tbl
    rw [ov_ne z] at e ⊢; exact ub.tbls b ps e
  · have hz : cs a = none := by
      cases z : cs a with
      | none => rfl
      | some o =>
        have := inB a o z
        rw [fl.2.1] at this; cases this
    rw [ov_ne hz]; exact na
theorem cr_reov (hn : ∀ b o, cs b = some o → H b = none) (hf : ∀ b o, cs b = some o → b ∉ frs outer) (hg : ∀ b o, cs b = some o → s.heap.get? b = some o) (h : CR (L2.CX P w) outer P w H s (fun v H' => (∀ b o, cs b = some o → H' b = none) → Q v (ov cs H')) (fun c d H' => (∀ b o, cs b = some o → H' b = none) → E c d (ov cs H')) r s') : CR (L2.CX P w) outer P w (ov cs H) s Q E r s' := by
  cases r with
  | error e => exact cx_reov hn hf hg h
  | ok fl =>
    cases fl with
    | ret u => exact ce_reov hn hf hg h
    | next => exact False.elim h
    | brk => exact False.elim h
    | cont => exact False.elim h
theorem cr_ov (hn : ∀ b o, cs b = some o → H b = none) (hf : ∀ b o, cs b = some o → b ∉ frs outer) (hg : ∀ b o, cs b = some o → s.heap.get? b = some o)
    (h : CR (L2.CX P w) outer P w (ov cs H) s (fun v H' => (∀ b o, cs b = some o → H' b = some (PinO b o)) ∧ Q v (cut cs H')) (fun _ _ _ => False) r s') : CR (L2.CX P w) outer P w H s Q (fun _ _ _ => False) r s' := by
  cases r with
  | error e =>
    obtain ⟨_, _, _, _, _, _, _, _, _, _, _, _, no⟩ := h
    exact no.elim
  | ok fl =>
    cases fl with
    | ret u => exact ce_ov hn hf hg h
    | next => exact False.elim h
    | brk => exact False.elim h
    | cont => exact False.elim h
end
end Tc

/-! Tc: a lambda is made. -/
namespace Tc
open PySem PySem.Spec L2 PyProof.Rows LamX

/-- what the making of a lambda does to what is tracked: the maker's table at P, its code object -/
structure LamStep (P : Addr) (q : Str) (H H1 : Hp) (c' : Addr) : Prop where
  at_ : ∃ ps qs : Array Value, H P = some (.tbl ps) ∧ H1 P = some (.tbl qs) ∧ TriplesOk qs.toList ∧ ∀ (pos : Pos) (cv : Value), codeAmong pos qs.toList = some cv → codeAmong pos ps.toList = some cv ∨ cv = .ref c'
  old : ∀ a, a ≠ P → a ≠ c' → H1 a = H a
  co : H1 c' = some (CodeO c' q)
  new : H c' = none ∨ ∃ (pos : Pos) (ps : Array Value), H P = some (.tbl ps) ∧ codeAmong pos ps.toList = some (.ref c')
/-- the table tells code objects of that name -/
def TabH (H : Hp) (P : Addr) (q : Str) : Prop := ∃ ps : Array Value, H P = some (.tbl ps) ∧ TriplesOk ps.toList ∧ ∀ (pos : Pos) (cv : Value), codeAmong pos ps.toList = some cv → ∃ c, cv = .ref c ∧ H c = some (CodeO c q)
section
variable {X : Cx} {pins : List (Addr × Obj)} {σ : L2.St} {H : Hp} {s : Shared}
theorem lam_mk {c P : Addr} {params : Arguments} {body : Expr} {scope : Scope} {pos : Pos} {E : Value → Shared → Prop} {Q : Value → Shared → Prop} (I : Inv X pins σ H s) (TB : TabB X.base X.mg c P) (hcode : X.env.code = .ref c)
    (hT : TabH H P (X.env.qual ++ "<lambda>")) (hdef : defaultsOf params X.env = ([], [])) (hfree : ∀ y ∈ scope.names, y.2 = .free → ∃ c, X.env.cells.lookup y.1 = some c)
    (h : ∀ (f c' : Addr) (pm ctv : Value) (H1 : Hp) (s' : Shared), Inv X pins σ (upd H1 f (PinO f (PySem.W.kla_obj "<lambda>" (X.env.qual ++ "<lambda>") params body scope (cloFrom X.env.cells scope.names []) pm c' ctv))) s' →
      LamStep P (X.env.qual ++ "<lambda>") H H1 c' → H f = none → H1 f = none → f ≠ c' → Q (.ref f) s') :
    wpAny (model X.prog X.w) X.A (eval (.Lambda params body scope pos) X.env) Q E s := by
  obtain ⟨ps, hP, ht, ha⟩ := hT
  refine PySem.W.kla_eval hdef ?_
  have bP : s.heap.BuiltinsAt X.mg P := TB.bm.keeps I.bk
  have hP' : s.heap.get? P = some { cls := .none, data := .fields ps } := I.hok P _ hP
  cases hc : codeAmong pos ps.toList with
  | none =>
    refine PySem.W.kla_makeFunction (mg := X.mg) (c := c) (P := P) (ps := ps) (closure_ok hfree) I.ok.glob (I.mod.glob.keeps I.bk) hcode (TB.code.keeps I.bk) hP' ht hc TB.gP bP fun c' ctv h' tk hx hge hlt hrec htb => ?_
    obtain ⟨c2, oc, vs, t, e2, hoc, hd, hv⟩ := hrec
    cases e2
    have hsz : s.heap.objs.size ≤ h'.objs.size := Nat.le_trans hge (Nat.le_of_lt hlt)
    have nC : H c' = none := I.hok.fresh hge
    have nF : H h'.objs.size = none := I.hok.fresh hsz
    have nFc : h'.objs.size ≠ c' := Nat.ne_of_gt hlt
    have nFP : h'.objs.size ≠ P := Nat.ne_of_gt (Nat.lt_of_lt_of_le (Heap.lt_size hP') hsz)
    have nCP : c' ≠ P := fun z => by rw [z, hP] at nC; cases nC
    have I1 := inv_table (t' := tk) (more := #[rawInt pos.line, rawInt pos.col, .ref c']) (h' := h') I hP hx htb hge ⟨oc, vs, t, hoc, hd, hv⟩
    have n1 : upd (upd H P (.tbl (ps ++ #[rawInt pos.line, rawInt pos.col, .ref c']))) c' (CodeO c' (X.env.qual ++ "<lambda>")) h'.objs.size = none := by
      rw [upd_ne nFc, upd_ne nFP]; exact nF
    refine h h'.objs.size c' ((X.mg "__name__").getD .none) ctv _ _ (I1.laid (t' := tk) (fun b o e => Heap.get?_push_of_some _ e) (Nat.le_refl _) (pin_ok (Heap.get?_push_size _ rfl))) ⟨⟨ps, _, hP, by rw [upd_ne nCP.symm, upd_same], ?_, fun p cv hcv => ?_⟩, fun a h1 h2 => by rw [upd_ne h2, upd_ne h1], upd_same, .inl nC⟩ nF n1 nFc
    · have eL : (ps ++ #[rawInt pos.line, rawInt pos.col, .ref c']).toList = ps.toList ++ [rawInt pos.line, rawInt pos.col, .ref c'] := by simp
      rw [eL]; exact PySem.TriplesOk_snoc _ _ _ _ ht
    · have eL : (ps ++ #[rawInt pos.line, rawInt pos.col, .ref c']).toList = ps.toList ++ [rawInt pos.line, rawInt pos.col, .ref c'] := by simp
      rw [eL] at hcv
      exact among_app _ ht hcv
  | some cv =>
    obtain ⟨c', e, hco⟩ := ha pos cv hc
    subst e
    refine PySem.W.kla_makeFunctionHit (mg := X.mg) (c := c) (P := P) (ps := ps) (closure_ok hfree) I.ok.glob (I.mod.glob.keeps I.bk) hcode (TB.code.keeps I.bk) hP' ht hc bP fun ctv h' tk hx hsz => ?_
    have nF : H h'.objs.size = none := I.hok.fresh hsz
    have I1 : Inv X pins σ H { s with heap := h', toks := tk } := I.kept hx
    refine h h'.objs.size c' ((X.mg "__name__").getD .none) ctv H _ (I1.laid (t' := tk) (fun b o e => Heap.get?_push_of_some _ e) (Nat.le_refl _) (pin_ok (Heap.get?_push_size _ rfl))) ⟨⟨ps, ps, hP, hP, ht, fun _ _ e => .inl e⟩, fun _ _ _ => rfl, hco, .inr ⟨pos, ps, hP, hc⟩⟩ nF nF fun z => ?_
    rw [z, hco] at nF; cases nF
end
end Tc

/-! Tc: a def is called with lambdas. -/
namespace Tc
open PySem PySem.Spec L2 PyProof.Rows LamX

/-! ### what does not lean on closures and exceptions -/
mutual
def plT : T → Bool
  | .lst xs => plTs xs
  | .tup xs => plTs xs
  | .exc _ _ => false
  | .clo _ _ => false
  | _ => true
def plTs : List T → Bool
  | [] => true
  | x :: xs => plT x && plTs xs
end
section
variable {K : PySem.W.Frag} {B B2 : Hp}
def LsX (B B2 : Hp) : Prop := ∀ a o, B a = some o → (∀ φ, o ≠ .ext φ) → B2 a = some o
theorem LsX.ls {a : Addr} {vs : List V} (e : LsX B B2) (h : LsAt K B a vs) : LsAt K B2 a vs := by
  rcases h with (h | ⟨o, h⟩) | h
  · exact .inl (.inl (e _ _ h fun _ z => nomatch z))
  · exact .inl (.inr ⟨o, e _ _ h fun _ z => nomatch z⟩)
  · exact .inr h
theorem LsX.tp {a : Addr} {vs : List V} (e : LsX B B2) (h : SqT K B a vs) : SqT K B2 a vs := by
  rcases h with (h | ⟨o, h⟩) | h
  · exact .inl (.inl (e _ _ h fun _ z => nomatch z))
  · exact .inl (.inr ⟨o, e _ _ h fun _ z => nomatch z⟩)
  · exact .inr h
mutual
theorem Rep.plain (e : LsX B B2) : ∀ {v : V} {t : T}, Rep K B v t → plT t = true → Rep K B2 v t
  | _, _, .non, _ => .non
  | _, _, .bl b, _ => .bl b
  | _, _, .int i, _ => .int i
  | _, _, .str x, _ => .str x
  | _, _, .lst s r, h => .lst (e.ls s) (Reps.plain e r h)
  | _, _, .tup s r, h => .tup (e.tp s) (Reps.plain e r h)
  | _, _, .emp q, _ => .emp (e _ _ q fun _ z => nomatch z)
  | _, _, .ty n, _ => .ty n
  | _, _, .cls n, _ => .cls n
  | _, _, .exc _ _ _, h => nomatch h
  | _, _, .clo _ _ _ _ _, h => nomatch h
theorem Reps.plain (e : LsX B B2) : ∀ {vs : List V} {ts : List T}, Reps K B vs ts → plTs ts = true → Reps K B2 vs ts
  | _, _, .nil, _ => .nil
  | _, _, .cons r rs, h => .cons (Rep.plain e r (Bool.and_eq_true_iff.mp h).1) (Reps.plain e rs (Bool.and_eq_true_iff.mp h).2)
end
end

/-! ### a lambda's value -/
def tLamE (P : Addr) (ec : List (Str × Addr)) (D : LamD) : TE := fun _ H Q => TabH H P D.q ∧ ∀ (f c' : Addr) (pm ctv : Value) (H1 : Hp), LamStep P D.q H H1 c' → H f = none → H1 f = none → f ≠ c' →
  Q (.ref f) (upd H1 f (PinO f (lamO D (cloFrom ec D.scope.names []) pm ctv c')))
theorem pe_lam {X : Cx} {c P : Addr} {D : LamD} {pos : Pos} (TB : TabB X.base X.mg c P) (hcode : X.env.code = .ref c) (hq : X.env.qual ++ "<lambda>" = D.q) (hdef : defaultsOf D.params X.env = ([], []))
    (hfree : ∀ y ∈ D.scope.names, y.2 = .free → X.env.scope.names.lookup y.1 = some .cell) : PE X (.Lambda D.params D.body D.scope pos) (tLamE P X.env.cells D) := by
  obtain ⟨id, q, params, body, scope, caps⟩ := D
  cases hq
  refine ⟨fun pins s σ H Q I h => ?_⟩
  refine lam_mk I TB hcode h.1 hdef (fun y hy e => I.ok.has _ (.inl (hfree y hy e))) fun f c' pm ctv H1 s' I1 st n n1 nc => ?_
  exact ⟨.ref f, _, I1, rfl, h.2 f c' pm ctv H1 st n n1 nc⟩

/-- the lambda's object is seen -/
def LamAt (B : Hp) (ec : List (Str × Addr)) (D : LamD) (v : V) : Prop := ∃ (f c' : Addr) (pm ctv : Value), v = .ref f ∧ B f = some (PinO f (lamO D (cloFrom ec D.scope.names []) pm ctv c')) ∧ B c' = some (CodeO c' D.q)
theorem LamAt.mono {B B' : Hp} {ec : List (Str × Addr)} {D : LamD} {v : V} (e : Same B B') (h : LamAt B ec D v) : LamAt B' ec D v := by
  obtain ⟨f, c', pm, ctv, h1, h2, h3⟩ := h
  exact ⟨f, c', pm, ctv, h1, e _ _ h2, e _ _ h3⟩
section
variable {K : PySem.W.Frag} {G : GI} {Ps : List Nat} {r : Sl} {σ : L2.St} {O : Addr → Prop} {H B H1 : Hp}
theorem Frm.lam (f : Frm K G Ps r σ O H B) {P : Addr} {q : Str} (hm : (P, q) ∈ G.T) (hu : ∀ p ∈ G.T, p.1 = P → p.2 = q) {fa c' : Addr} {o : Obj} (st : LamStep P q H H1 c') (nf : H fa = none) (nf1 : H1 fa = none) (nfc : fa ≠ c') :
    Frm K G Ps r σ O (upd H1 fa (PinO fa o)) (upd (upd B c' (CodeO c' q)) fa (PinO fa o)) ∧ Grow O H B O (upd H1 fa (PinO fa o)) (upd (upd B c' (CodeO c' q)) fa (PinO fa o)) := by
  obtain ⟨ps, qs, hP, hP1, htq, hent⟩ := st.at_
  obtain ⟨t1, t2, t3⟩ := f.tab _ hm
  obtain ⟨ps', hP', _, hs⟩ := t1
  have e : ps' = ps := by rw [hP] at hP'; cases hP'; rfl
  subst e
  have cB : H c' = none ∨ B c' = some (CodeO c' q) := by
    rcases st.new with n | ⟨pos, ps2, e1, e2⟩
    · exact .inl n
    · rw [hP] at e1
      cases e1
      obtain ⟨c, e3, e4⟩ := hs pos _ e2
      cases e3
      exact .inr e4
  have cH : H c' = none ∨ H c' = some (CodeO c' q) := cB.imp id (f.sub _ _)
  have nPc : P ≠ c' := fun z => by
    rcases cH with n | n
    · rw [← z, hP] at n; cases n
    · rw [← z, hP] at n; unfold CodeO at n; cases n
  have nPf : P ≠ fa := fun z => by rw [← z, hP] at nf; cases nf
  have keep : ∀ a u, a ≠ P → H a = some u → H1 a = some u := fun a u n e => by
    by_cases hc : a = c'
    · subst hc
      rcases cH with z | z
      · rw [z] at e; cases e
      · rw [z] at e; cases e; exact st.co
    · rw [st.old a n hc]; exact e
  have keepF : ∀ a u, a ≠ P → H a = some u → upd H1 fa (PinO fa o) a = some u := fun a u n e => by
    rw [upd_ne (ne_of_none e nf)]; exact keep a u n e
  have bb : Same B (upd (upd B c' (CodeO c' q)) fa (PinO fa o)) := fun a u e => by
    have e' := f.sub _ _ e
    rw [upd_ne (ne_of_none e' nf)]
    by_cases hc : a = c'
    · subst hc
      rcases cB with z | z
      · rw [e'] at z; cases z
      · rw [z] at e; cases e; exact upd_same
    · rw [upd_ne hc]; exact e
  have bP : ∀ a u, B a = some u → a ≠ P := fun a u e z => by rw [z, t2] at e; cases e
  have G1 : Grow O H B O (upd H1 fa (PinO fa o)) (upd (upd B c' (CodeO c' q)) fa (PinO fa o)) := by
    refine ⟨bb, fun a u e => ?_, fun a u e _ => ?_, fun _ h => .inl h⟩
    · by_cases h1 : a = fa
      · exact .inr (.inl (h1 ▸ nf))
      · rw [upd_ne h1] at e
        by_cases h2 : a = c'
        · subst h2
          rcases cB with z | z
          · exact .inr (.inl z)
          · rw [upd_same] at e; cases e; exact .inl z
        · rw [upd_ne h2] at e; exact .inl e
    · by_cases h1 : a = P
      · subst h1
        rw [hP] at e
        cases e
        exact .inr ⟨⟨_, rfl⟩, qs, by rw [upd_ne nPf]; exact hP1⟩
      · exact .inl (keepF a u h1 e)
  have oc : ∀ a, O a → a ≠ c' ∧ a ≠ fa ∧ a ≠ P := fun a h => by
    refine ⟨fun z => ?_, fun z => f.liv a h (z ▸ nf), fun z => t3 (z ▸ h)⟩
    subst z
    rcases cB with n | n
    · exact f.liv _ h n
    · rw [f.out _ h] at n; cases n
  refine ⟨⟨fun a u e => ?_, fun a h => ?_, fun a h => ?_, fun i t e n => ?_, fun i hi => ?_, f.sep, f.len, f.siz, f.inn, f.tab.grow G1 fun p hp => ?_⟩, G1⟩
  · by_cases h1 : a = fa
    · subst h1; rw [upd_same] at e ⊢; exact e
    · rw [upd_ne h1] at e ⊢
      by_cases h2 : a = c'
      · subst h2; rw [upd_same] at e; cases e; exact st.co
      · rw [upd_ne h2] at e; exact keep a u (bP a u e) (f.sub a u e)
  · obtain ⟨n1, n2, _⟩ := oc a h
    rw [upd_ne n2, upd_ne n1]; exact f.out a h
  · obtain ⟨n1, n2, n3⟩ := oc a h
    rw [upd_ne n2, st.old a n3 n1]; exact f.liv a h
  · obtain ⟨v, h1, h2⟩ := f.var i t e n
    exact ⟨v, h1, h2.mono bb⟩
  · obtain ⟨p, vs, ts, h1, h2, h3, h4, h5⟩ := f.prv i hi
    exact ⟨p, vs, ts, h1, h2, h3, keepF p _ (oc p h3).2.2 h4, h5.mono bb⟩
  · by_cases hp1 : p.1 = P
    · rw [hu p hp hp1, hp1]
      refine ⟨qs, by rw [upd_ne nPf]; exact hP1, htq, fun pos cv hc => ?_⟩
      rcases hent pos cv hc with z | z
      · obtain ⟨c, e1, e2⟩ := hs pos cv z
        exact ⟨c, e1, bb _ _ e2⟩
      · exact ⟨c', z, by rw [upd_ne nfc.symm, upd_same]⟩
    · exact (f.tab p hp).1.step (fun ps e => keepF p.1 _ hp1 e) bb
/-- a lambda's reading -/
theorem lam_read (f : Frm K G Ps r σ O H B) {P : Addr} {ec : List (Str × Addr)} {D : LamD} {Q : VK} (hm : (P, D.q) ∈ G.T) (hu : ∀ p ∈ G.T, p.1 = P → p.2 = D.q)
    (h : ∀ v H' B', Frm K G Ps r σ O H' B' → Grow O H B O H' B' → LamAt B' ec D v → Q v H') : tLamE P ec D σ H Q := by
  refine ⟨?_, fun fa c' pm ctv H1 st n n1 nc => ?_⟩
  · obtain ⟨ps, h1, h2, h3⟩ := (f.tab _ hm).1
    refine ⟨ps, h1, h2, fun pos cv hc => ?_⟩
    obtain ⟨c, e1, e2⟩ := h3 pos cv hc
    exact ⟨c, e1, f.sub _ _ e2⟩
  · obtain ⟨f1, g1⟩ := f.lam hm hu (o := lamO D (cloFrom ec D.scope.names []) pm ctv c') st n n1 nc
    exact h _ _ _ f1 g1 ⟨fa, c', pm, ctv, rfl, upd_same, by rw [upd_ne nc.symm, upd_same]⟩
def tLams (P : Addr) (ec : List (Str × Addr)) : List LamD → TA
  | [] => tNil
  | D :: Ds => tCons (tLamE P ec D) (tLams P ec Ds)
theorem lams_read {P : Addr} {ec : List (Str × Addr)} : ∀ {Ds : List LamD} {H B : Hp} {Q : List V → Hp → Prop}, Frm K G Ps r σ O H B → (∀ D ∈ Ds, (P, D.q) ∈ G.T ∧ ∀ p ∈ G.T, p.1 = P → p.2 = D.q) →
    (∀ vs H' B', Frm K G Ps r σ O H' B' → Grow O H B O H' B' → Paired (LamAt B' ec) Ds vs → Q vs H') → tLams P ec Ds σ H Q
  | [], H, B, Q, f, _, h => h [] H B f .refl .nil
  | D :: Ds, H, B, Q, f, hm, h => by
    show tLamE P ec D σ H fun v H1 => tLams P ec Ds σ H1 fun vs H2 => Q (v :: vs) H2
    refine lam_read f (hm D (List.mem_cons_self ..)).1 (hm D (List.mem_cons_self ..)).2 fun v H1 B1 f1 g1 a1 => ?_
    refine lams_read f1 (fun D hD => hm D (List.mem_cons_of_mem _ hD)) fun vs H2 B2 f2 g2 a2 => ?_
    exact h (v :: vs) H2 B2 f2 (g1.trans g2) (.cons (a1.mono g2.bb) a2)
end
end Tc

/-! Tc: a def is called with lambdas: the cells of their names are seen by the called def. -/
namespace Tc
open PySem PySem.Spec L2 PyProof.Rows LamX

structure CsOk (ec : List (Str × Addr)) (caps N : List Str) (σ : L2.St) (H : Hp) (cs : Addr → Option Obj) : Prop where
  none : ∀ b o, cs b = some o → H b = none
  heap : ∃ h : Heap, ∀ b o, cs b = some o → h.get? b = some o ∧ ∃ u, o.data = .cell u
  at_ : ∀ (i : Nat) (y : Str) (v : V), y ∈ caps → N[i]? = some y → σ[i]? = some (some v) → ∃ (a : Addr) (o : Obj) (u : Value), ec.lookup y = some a ∧ cs a = some o ∧ o.data = .cell (some u) ∧ RelV v u
def QOv (cs : Addr → Option Obj) (Q : VK) : VK := fun v H' => (∀ b o, cs b = some o → H' b = some (PinO b o)) ∧ Q v (cut cs H')
def tCallL (sp : Sp) (ec : List (Str × Addr)) (caps N : List Str) (t : TA) : TE := fun σ H Q => t σ H fun vs H1 => ∀ cs, CsOk ec caps N σ H1 cs → sp vs (ov cs H1) (QOv cs Q) fun _ _ _ => False
section
variable {X : Cx} {k : Nat} {f : Addr} {fd : FuncData} {ps caps : List Str} {sp : Sp} {x : Str} {p pos : Pos} {e : Expr} {es : List Expr} {t : TA}
theorem pe_callL (F : FnG X.prog X.w X.K X.mg X.base k f fd ps sp) (hr : Room k X.A) (hgd : X.A.guards = some []) (hg : Gl X x) (hm : X.mg x = some (.ref f)) (hk : PySem.W.keepIn X.K (.ref f) = true) (hb : Binds X.K fd ps [])
    (hcap : ∀ y ∈ caps, X.fn y = true ∧ X.env.scope.names.lookup y = some .cell)
    (ha : PA X (e :: es) t) (hdb : (x == ("__debug__" : Str)) = false) (he : starEach (e :: es) X.env = (false, eval e X.env) :: starEach es X.env) (hpl : (backTo pos (starEach es X.env)).any (·.1) = false) :
    PE X (.Call (.Name x p) (e :: es) [] pos) (tCallL sp X.env.cells caps X.N t) := by
  classical
  refine ⟨fun pins s σ H Q I h => ?_⟩
  refine wpAny_Call_Name_kw (ld_glob I hg hm ?_ hdb)
  refine PySem.W.callWith_K (h₀ := X.base) I.ok.mod.kin hk (thn (ha.run pos pins s σ H _ I h) fun us s1 ⟨vs, H1, I1, r, q⟩ => ⟨I1.kIn, ?_⟩) he hpl
  let cs : Addr → Option Obj := fun b => if ∃ y ∈ caps, X.env.cells.lookup y = some b then s1.heap.get? b else none
  have key : ∀ b o, cs b = some o → s1.heap.get? b = some o ∧ ∃ y ∈ caps, X.env.cells.lookup y = some b := fun b o z => by
    have z' : (if ∃ y ∈ caps, X.env.cells.lookup y = some b then s1.heap.get? b else none) = some o := z
    by_cases hz : ∃ y ∈ caps, X.env.cells.lookup y = some b
    · rw [if_pos hz] at z'; exact ⟨z', hz⟩
    · rw [if_neg hz] at z'; cases z'
  have hn : ∀ b o, cs b = some o → H1 b = none := fun b o z => by
    obtain ⟨_, y, _, hy⟩ := key b o z
    exact I1.freeC y b hy
  have ge : ∀ b o, cs b = some o → X.s_0.heap.objs.size ≤ b := fun b o z => by
    obtain ⟨_, y, hc, hy⟩ := key b o z
    exact I1.ok.cab y b (hcap y hc).1 hy
  have hbs : ∀ b o, cs b = some o → X.base.get? b = none := fun b o z => Heap.get?_none_of_le (Nat.le_trans I1.ok.bsz (ge b o z))
  have hf : ∀ b o, cs b = some o → b ∉ frs X.stack := fun b o z hm => by
    obtain ⟨_, y, hc, hy⟩ := key b o z
    rcases List.mem_cons.mp (I1.stkSub b hm) with e | hm
    · exact I1.cne y b hy e
    · obtain ⟨_, o', e', _⟩ := I1.ok.funs.mem hm
      exact absurd (Nat.lt_of_lt_of_le (Heap.lt_size e') (ge b o z)) (Nat.lt_irrefl _)
  have hgt : ∀ b o, cs b = some o → s1.heap.get? b = some o := fun b o z => (key b o z).1
  have ok : CsOk X.env.cells caps X.N σ H1 cs := by
    refine ⟨hn, ⟨s1.heap, fun b o z => ?_⟩, fun i y v hy e1 e2 => ?_⟩
    · obtain ⟨h1, y, _, hy⟩ := key b o z
      obtain ⟨v, o', ho', hd⟩ := I1.cell y b hy
      rw [h1] at ho'
      cases ho'
      exact ⟨h1, v, hd⟩
    · obtain ⟨m, _, hl⟩ := I1.loc
      have hc := (hcap y hy).2
      obtain ⟨u, rv, lk⟩ := hl i y v e1 e2 (.inr (.inl hc))
      rcases lk with ⟨k', _⟩ | ⟨_, a, ea, o, ho, hd⟩
      · have k' : X.env.scope.names.lookup y = some .local := k'
        rw [hc] at k'; cases k'
      · refine ⟨a, o, u, ea, ?_, hd, rv⟩
        show (if ∃ y ∈ caps, X.env.cells.lookup y = some a then s1.heap.get? a else none) = some o
        rw [if_pos ⟨y, hy, ea⟩]; exact ho
  have hs := q cs ok
  have b := hb s1 us I1.kIn (by rw [List.append_nil, ← r.length]; exact F.len _ _ _ _ hs)
  rw [List.append_nil] at b
  refine wpAny_call (codeAny_mono (F.run X.A X.stack s1 (ov cs H1) ⟨us, []⟩ us vs _ _ hr hgd (env0_ov I1.env0 hn hgt hbs hf) b r hs) fun r s' hq => ?_)
  have hq := cr_ov (P := X.prog) (w := X.w) hn hf hgt hq
  cases r with
  | error e =>
    obtain ⟨_, _, _, _, _, _, _, _, _, _, _, _, no⟩ := hq
    exact no.elim
  | ok fl =>
    cases fl with
    | ret u => exact I1.after hq
    | next => exact False.elim hq
    | brk => exact False.elim hq
    | cont => exact False.elim hq
end

/-! ### the mirror -/
/-- the slots' values, all plain -/
def capT : List Nat → Sl → Option (List T)
  | [], _ => some []
  | i :: is, r => match r[i]? with
    | some (some t) => if plT t = true then (capT is r).map (t :: ·) else none
    | _ => none
def lamsT : List (LamD × List Nat) → Sl → Option (List T)
  | [], _ => some []
  | (D, is) :: ds, r => match capT is r, lamsT ds r with
    | some xs, some us => some (.clo D xs :: us)
    | _, _ => none
def cResL (r1 : Sl) : Res → Out T
  | .ok t _ => if plT t = true then .ok t r1 else .no
  | _ => .no
/-- f([lambda: .., ..], e, ..) -/
def cCallLs (m : Fc) (ls : List (LamD × List Nat)) (A : Ac) : Ec := fun r => (A r).bind fun ts r1 => match lamsT ls r1 with
  | some us => cResL r1 (m (.lst us :: ts))
  | none => .no
/-- f(lambda: .., e, ..) -/
def cCallL (m : Fc) (D : LamD) (is : List Nat) (A : Ac) : Ec := fun r => (A r).bind fun ts r1 => match capT is r1 with
  | some xs => cResL r1 (m (.clo D xs :: ts))
  | none => .no

/-! ### what the called def sees -/
section
variable {K : PySem.W.Frag} {G : GI} {Ps : List Nat} {r : Sl} {σ : L2.St} {O O' : Addr → Prop} {H B H' B' : Hp} {cs : Addr → Option Obj}
theorem pin_code {ec : List (Str × Addr)} {caps N : List Str} (c : CsOk ec caps N σ H cs) {b : Addr} {o : Obj} {q : Str} (e : cs b = some o) : PinO b o ≠ CodeO b q := fun z => by
  obtain ⟨h, hh⟩ := c.heap
  obtain ⟨h1, u, hd⟩ := hh b o e
  unfold PinO CodeO at z
  have z := HO.ext.inj z
  have : (∃ (oc : Obj) (vs : Array Value) (t : Tok), h.get? b = some oc ∧ oc.data = .fields vs ∧ vs[1]? = some (.str q t)) := by
    have := congrFun z h
    exact this ▸ h1
  obtain ⟨oc, vs, t, e1, e2, _⟩ := this
  rw [h1] at e1
  cases e1
  rw [hd] at e2; cases e2
theorem cs_B (f : Frm K G Ps r σ O H B) (hn : ∀ b o, cs b = some o → H b = none) {b : Addr} {o : HO} (e : B b = some o) : cs b = none := by
  cases z : cs b with
  | none => rfl
  | some o' => rw [f.sub.free (hn b o' z)] at e; cases e
theorem same_ov (f : Frm K G Ps r σ O H B) (hn : ∀ b o, cs b = some o → H b = none) : Same B (ov cs B) := fun a o e => by
  rw [ov_ne (cs_B f hn e)]; exact e
theorem ov_sub (f : Frm K G Ps r σ O H B) : Same (ov cs B) (ov cs H) := fun a o e => by
  cases z : cs a with
  | some o' => rw [ov_at z] at e ⊢; exact e
  | none => rw [ov_ne z] at e ⊢; exact f.sub a o e
theorem tab_ov (f : Frm K G Ps r σ O H B) (hn : ∀ b o, cs b = some o → H b = none) : TabF G.T (fun a => (none : Option Addr) = some a) (ov cs H) (ov cs B) := fun p hp => by
  obtain ⟨t1, t2, t3⟩ := f.tab p hp
  have nc : cs p.1 = none := by
    cases z : cs p.1 with
    | none => rfl
    | some o =>
      obtain ⟨ps, e, _⟩ := t1
      rw [hn _ o z] at e; cases e
  exact ⟨t1.step (fun ps e => by rw [ov_ne nc]; exact e) (same_ov f hn), by rw [ov_ne nc]; exact t2, fun z => nomatch z⟩
/-- behind it -/
theorem Frm.unov {ec : List (Str × Addr)} {caps N : List Str} (f : Frm K G Ps r σ O H B) (c : CsOk ec caps N σ H cs) (sB : Same B' H') (tb : TabV G.T H' B') (gr : Grow (fun a => (none : Option Addr) = some a) (ov cs H) (ov cs B) O' H' B') :
    (∀ b o, cs b = some o → H' b = some (PinO b o)) ∧ Frm K G Ps r σ O (cut cs H') (cut cs B') ∧ Grow O H B O (cut cs H') (cut cs B') ∧ LsX B' (cut cs B') := by
  have inB : ∀ b o, cs b = some o → B' b = some (PinO b o) := fun b o z => gr.bb b _ (ov_at z)
  have le : ∀ b, ov cs H b = none → H b = none := fun b q => by
    cases z : cs b with
    | some o => rw [ov_at z] at q; cases q
    | none => rw [ov_ne z] at q; exact q
  have hc : ∀ a o, H a = some o → cs a = none := fun a o e => by
    cases z : cs a with
    | none => rfl
    | some o' => rw [c.none a o' z] at e; cases e
  have sB2 : Same (cut cs B') (cut cs H') := fun a o e => by
    cases z : cs a with
    | some o' => rw [cut_at z] at e; cases e
    | none => rw [cut_ne z] at e ⊢; exact sB a o e
  have tb2 : TabV G.T (cut cs H') (cut cs B') := fun p hp => by
    obtain ⟨ps, e1, e2, e3⟩ := tb p hp
    have nc : cs p.1 = none := by
      obtain ⟨qs, e, _⟩ := (f.tab p hp).1
      exact hc _ _ e
    refine ⟨ps, by rw [cut_ne nc]; exact e1, e2, fun pos cv h => ?_⟩
    obtain ⟨cc, e4, e5⟩ := e3 pos cv h
    refine ⟨cc, e4, ?_⟩
    cases z : cs cc with
    | none => rw [cut_ne z]; exact e5
    | some o =>
      rw [inB cc o z] at e5
      exact absurd (Option.some.inj e5) (pin_code c z)
  have gr2 : Grow (fun a => (none : Option Addr) = some a) H B (fun _ => False) (cut cs H') (cut cs B') := by
    refine ⟨fun a o e => ?_, fun a o e => ?_, fun a o e n => ?_, fun _ h => h.elim⟩
    · rw [cut_ne (cs_B f c.none e)]; exact gr.bb a o (same_ov f c.none a o e)
    · cases z : cs a with
      | some o' => rw [cut_at z] at e; cases e
      | none =>
        rw [cut_ne z] at e
        rcases gr.nb a o e with q | q | q
        · rw [ov_ne z] at q; exact .inl q
        · exact .inr (.inl (le a q))
        · exact nomatch q
    · have z := hc a o e
      rw [cut_ne z]
      exact gr.hh a o (by rw [ov_ne z]; exact e) n
  obtain ⟨f2, g2⟩ := f.back sB2 tb2 gr2
  refine ⟨fun b o z => sB _ _ (inB b o z), f2, g2, fun a o e n => ?_⟩
  cases z : cs a with
  | none => rw [cut_ne z]; exact e
  | some o' =>
    rw [inB a o' z] at e
    cases e
    exact absurd rfl (n _)
end
end Tc

/-! Tc: the rules of calls with lambdas. -/
namespace Tc
open PySem PySem.Spec L2 PyProof.Rows LamX

theorem clo_look {ec : List (Str × Addr)} {names : List (Str × NameKind)} {y : Str} {a : Addr} (h : (y, NameKind.free) ∈ names) (e : ec.lookup y = some a) : (cloFrom ec names []).lookup y = some a := by
  obtain ⟨c, hc⟩ := mem_lookup (cloFrom_has (cells := ec) (acc := []) h)
  rcases cloFrom_mem (PySem.mem_of_lookup hc) with z | ⟨_, z⟩
  · cases z
  · rw [e] at z; rw [hc, z]; rfl
theorem CapsV.cons {B : Hp} {y : Str} {caps : List Str} {cl : List (Str × Addr)} {v : V} {vs : List V} (h : ∃ (a : Addr) (o : Obj) (u : Value), cl.lookup y = some a ∧ B a = some (PinO a o) ∧ o.data = .cell (some u) ∧ RelV v u) (t : CapsV B caps cl vs) : CapsV B (y :: caps) cl (v :: vs) := by
  refine ⟨congrArg Nat.succ t.1, fun i z e => ?_⟩
  cases i with
  | zero =>
    cases e
    obtain ⟨a, o, u, h1, h2, h3, h4⟩ := h
    exact ⟨a, o, u, v, h1, h2, h3, rfl, h4⟩
  | succ i => exact t.2 i z e
/-- the maker's cells -/
structure EcOk (c : SC) (ec : List (Str × Addr)) : Prop where
  inj : ∀ y z a, ec.lookup y = some a → ec.lookup z = some a → y = z
  has : ∀ y, c.sc.names.lookup y = some .cell → ∃ a, ec.lookup y = some a
theorem EcOk.of {c : SC} {X : Cx} (h : c.Is X) {pins : List (Addr × Obj)} {σ : L2.St} {H : Hp} {s : Shared} (I : Inv X pins σ H s) : EcOk c X.env.cells :=
  ⟨fun y z a e1 e2 => I.ok.inj y z a e1 e2, fun y e => I.ok.has y (.inl (by show X.env.scope.names.lookup y = _; rw [h.sc]; exact e))⟩
/-- what the text says of a lambda: no defaults, its outer names are the maker's cells -/
structure LamF (c : SC) (P : List Nat) (D : LamD) (is : List Nat) : Prop where
  df : ∀ env, defaultsOf D.params env = ([], [])
  fr : D.scope.names.all (fun y => y.2 != .free || decide (c.sc.names.lookup y.1 = some .cell)) = true
  cp : D.caps.all (fun y => decide ((y, NameKind.free) ∈ D.scope.names) && c.st y && decide (c.sc.names.lookup y = some .cell)) = true
  fc : D.scope.names.all (fun y => y.2 != .free || decide (y.1 ∈ D.caps)) = true
  ix : is.map (c.N[·]?) = D.caps.map some
  np : ∀ i ∈ is, i ∉ P
/-- the maker: its code object, its table -/
structure Maker (c : SC) (Pt : Addr) (q : Str) : Prop where
  ex : ∃ (q0 : Str) (cd : Addr), c.lc = some (q0, .ref cd) ∧ q0 ++ "<lambda>" = q ∧ TabB c.base c.mg cd Pt
  mem : (Pt, q) ∈ c.G.T
  un : ∀ p ∈ c.G.T, p.1 = Pt → p.2 = q
def lamOk : List Expr → List LamD → Prop
  | [], [] => True
  | .Lambda a b s _ :: es, D :: Ds => (a = D.params ∧ b = D.body ∧ s = D.scope) ∧ lamOk es Ds
  | _, _ => False
section
variable {c : SC} {P : List Nat} {K : PySem.W.Frag} {G : GI} {r : Sl} {σ : L2.St} {O : Addr → Prop} {H B : Hp} {cs : Addr → Option Obj}
theorem caps_rep (f : Frm K G P r σ O H B) {ec : List (Str × Addr)} {caps N : List Str} (cok : CsOk ec caps N σ H cs) {cl : List (Str × Addr)} : ∀ {is : List Nat} {ys : List Str} {xs : List T}, capT is r = some xs → is.map (N[·]?) = ys.map some → (∀ i ∈ is, i ∉ P) →
    (∀ y ∈ ys, y ∈ caps ∧ ∀ a, ec.lookup y = some a → cl.lookup y = some a) → ∃ vs, CapsV (ov cs B) ys cl vs ∧ Reps K B vs xs
  | [], ys, xs, e, m, _, _ => by
    cases e
    cases ys with
    | nil => exact ⟨[], ⟨rfl, fun i y z => nomatch z⟩, .nil⟩
    | cons y ys => cases m
  | i :: is, ys, xs, e, m, np, hy => by
    cases ys with
    | nil => cases m
    | cons y ys =>
      obtain ⟨m1, m2⟩ := List.cons.inj m
      unfold capT at e
      cases z : r[i]? with
      | none => rw [z] at e; cases e
      | some ot =>
        rw [z] at e
        cases ot with
        | none => cases e
        | some t =>
          by_cases hp : plT t = true
          · simp only [hp, if_true] at e
            cases z2 : capT is r with
            | none => rw [z2] at e; cases e
            | some xs2 =>
              rw [z2] at e
              cases e
              obtain ⟨vs, h1, h2⟩ := caps_rep f cok z2 m2 (fun i hi => np i (List.mem_cons_of_mem _ hi)) fun y h => hy y (List.mem_cons_of_mem _ h)
              obtain ⟨v, e1, rv⟩ := f.var i t z (np i (List.mem_cons_self ..))
              obtain ⟨hc, hl⟩ := hy y (List.mem_cons_self ..)
              obtain ⟨a, o, u, a1, a2, a3, a4⟩ := cok.at_ i y v hc m1 e1
              exact ⟨v :: vs, .cons ⟨a, o, u, hl a a1, ov_at a2, a3, a4⟩ h1, .cons rv h2⟩
          · simp only [hp] at e
            cases e
theorem clo_ok {ec : List (Str × Addr)} {D : LamD} {is : List Nat} (F : LamF c P D is) (ok : EcOk c ec) : ClOk D (cloFrom ec D.scope.names []) := by
  have key : ∀ y a, (cloFrom ec D.scope.names []).lookup y = some a → ec.lookup y = some a ∧ y ∈ D.caps := fun y a e => by
    rcases cloFrom_mem (PySem.mem_of_lookup e) with z | ⟨h1, h2⟩
    · cases z
    · have k1 := List.all_eq_true.mp F.fr _ h1
      have k2 := List.all_eq_true.mp F.fc _ h1
      have k1 : c.sc.names.lookup y = some .cell := by simpa using k1
      have k2 : y ∈ D.caps := by simpa using k2
      obtain ⟨a', ha⟩ := ok.has y k1
      rw [ha] at h2
      exact ⟨by rw [h2]; exact ha, k2⟩
  exact ⟨fun y z a e1 e2 => ok.inj y z a (key y a e1).1 (key z a e2).1, fun y a e => (key y a e).2⟩
theorem clo_rep (f : Frm K G P r σ O H B) {ec : List (Str × Addr)} {caps N : List Str} (cok : CsOk ec caps N σ H cs) {D : LamD} {is : List Nat} {xs : List T} {v : V} (la : LamAt B ec D v) (e : capT is r = some xs) (m : is.map (N[·]?) = D.caps.map some) (np : ∀ i ∈ is, i ∉ P)
    (hc : ∀ y ∈ D.caps, y ∈ caps ∧ (y, NameKind.free) ∈ D.scope.names) (hcl : ClOk D (cloFrom ec D.scope.names [])) : Rep K (ov cs B) v (.clo D xs) := by
  obtain ⟨fa, c', pm, ctv, rfl, h1, h2⟩ := la
  obtain ⟨vs, h3, h4⟩ := caps_rep f cok (cl := cloFrom ec D.scope.names []) e m np fun y hy => ⟨(hc y hy).1, fun a ea => clo_look (hc y hy).2 ea⟩
  have sm := same_ov f cok.none
  exact .clo (sm _ _ h1) (sm _ _ h2) h3 hcl (h4.mono sm)
theorem clos_rep (f : Frm K G P r σ O H B) {ec : List (Str × Addr)} {caps N : List Str} (cok : CsOk ec caps N σ H cs) : ∀ {ls : List (LamD × List Nat)} {vs : List V} {us : List T}, Paired (LamAt B ec) (ls.map Prod.fst) vs → lamsT ls r = some us →
    (∀ l ∈ ls, l.2.map (N[·]?) = l.1.caps.map some ∧ (∀ i ∈ l.2, i ∉ P) ∧ (∀ y ∈ l.1.caps, y ∈ caps ∧ (y, NameKind.free) ∈ l.1.scope.names) ∧ ClOk l.1 (cloFrom ec l.1.scope.names [])) → Reps K (ov cs B) vs us
  | [], _, _, .nil, e, _ => by cases e; exact .nil
  | (D, is) :: ls, _, us, .cons la ps, e, h => by
    unfold lamsT at e
    cases z : capT is r with
    | none => rw [z] at e; cases e
    | some xs =>
      cases z2 : lamsT ls r with
      | none => rw [z, z2] at e; cases e
      | some us2 =>
        rw [z, z2] at e
        cases e
        obtain ⟨a1, a2, a3, a4⟩ := h (D, is) (List.mem_cons_self ..)
        exact .cons (clo_rep f cok la z a1 a2 a3 a4) (clos_rep f cok ps z2 fun l hl => h l (List.mem_cons_of_mem _ hl))

theorem lam_pe {X : Cx} (h : c.Is X) {Pt : Addr} {D : LamD} {is : List Nat} (M : Maker c Pt D.q) (F : LamF c P D is) {pos : Pos} : PE X (.Lambda D.params D.body D.scope pos) (tLamE Pt X.env.cells D) := by
  obtain ⟨q0, cd, e1, e2, tb⟩ := M.ex
  obtain ⟨x1, x2, _⟩ := h.lc _ e1
  have x1 : X.env.qual = q0 := x1
  have x2 : X.env.code = .ref cd := x2
  refine pe_lam (c := cd) (by rw [h.base, h.mg]; exact tb) x2 (by rw [x1]; exact e2) (F.df _) fun y hy e => ?_
  have := List.all_eq_true.mp F.fr y hy
  rw [e] at this
  rw [h.sc]
  simpa using this
theorem lams_pa {X : Cx} (h : c.Is X) {Pt : Addr} : ∀ {es : List Expr} {ls : List (LamD × List Nat)}, lamOk es (ls.map Prod.fst) → (∀ l ∈ ls, Maker c Pt l.1.q ∧ LamF c P l.1 l.2) → PA X es (tLams Pt X.env.cells (ls.map Prod.fst))
  | [], [], _, _ => pa_nil
  | e :: es, (D, is) :: ls, hl, hm => by
    cases e with
    | Lambda a b s pos =>
      obtain ⟨⟨rfl, rfl, rfl⟩, h2⟩ := hl
      exact pa_cons (lam_pe h (hm _ (List.mem_cons_self ..)).1 (hm _ (List.mem_cons_self ..)).2) (lams_pa h h2 fun l hl => hm l (List.mem_cons_of_mem _ hl)) (by rfl)
    | _ => exact (show False from hl).elim
  | [], _ :: _, hl, _ => (show False from hl).elim
  | e :: es, [], hl, _ => by
    cases e <;> exact (show False from hl).elim

variable {e : Expr} {es lams : List Expr} {A : Ac} {pos p lpos : Pos} {k : Nat} {f : Addr} {fd : FuncData} {ps : List Str} {x : Str} {m : Fc} {n : Nat}
/-- the names that the lambdas take -/
def capsOf (ls : List (LamD × List Nat)) : List Str := ls.flatMap fun l => l.1.caps
theorem lamF_cap {D : LamD} {is : List Nat} (F : LamF c P D is) {y : Str} (hy : y ∈ D.caps) : (y, NameKind.free) ∈ D.scope.names ∧ c.st y = true ∧ c.sc.names.lookup y = some .cell := by
  have := List.all_eq_true.mp F.cp y hy
  simp only [Bool.and_eq_true, decide_eq_true_eq] at this
  exact ⟨this.1.1, this.1.2, this.2⟩
/-- the call's end -/
theorem callL_end {Q : VK} {r1 : Sl} {ec : List (Str × Addr)} {caps : List Str} (f1 : Frm c.K c.G P r1 σ O H B) (cok : CsOk ec caps c.N σ H cs) {R : Res} (q : PK c P σ O H B (GoodT c Q) (cResL r1 R)) :
    ResK c.G.T c.K false false none (ov cs H) (ov cs B) (QOv cs Q) (fun _ _ _ => False) R := by
  cases R with
  | ok t gs =>
    intro v O' H' B' sB _ tb gr _ ov'
    obtain ⟨k1, f2, g2, lx⟩ := f1.unov cok sB tb gr
    refine ⟨k1, ?_⟩
    by_cases hp : plT t = true
    · have q : PK c P σ O H B (GoodT c Q) (if plT t = true then .ok t r1 else .no) := q
      rw [if_pos hp] at q
      exact q O _ _ f2 g2 v (Rep.plain lx ov' hp)
    · have q : PK c P σ O H B (GoodT c Q) (if plT t = true then .ok t r1 else .no) := q
      rw [if_neg hp] at q
      exact (show False from q).elim
  | ex n w => exact (show False from q).elim
  | no => exact (show False from q).elim
theorem pe_calleeL {X : Cx} {t : TA} {caps : List Str} (h : c.Is X) (C : Callee c k x f fd ps false false m) (hk : k ≤ c.k) (hg : c.sc.names.lookup x = some .globalImplicit) (ha : PA X (e :: es) t) (hcap : ∀ y ∈ caps, c.st y = true ∧ c.sc.names.lookup y = some .cell) (hdb : (x == ("__debug__" : Str)) = false)
    (he : ∀ env, starEach (e :: es) env = (false, eval e env) :: starEach es env) (hpl : ∀ env, (backTo pos (starEach es env)).any (·.1) = false) : PE X (.Call (.Name x p) (e :: es) [] pos) (tCallL (spX c.G.T c.K false false ps.length m) X.env.cells caps c.N t) := by
  have F := C.fn
  rw [← h.prog, ← h.w, ← h.mg, ← h.base] at F
  have z := pe_callL (X := X) (p := p) (pos := pos) (caps := caps) (f := f) (fd := fd) (ps := ps) (k := k) (sp := spX c.G.T c.K false false ps.length m) (by rw [h.K]; exact F) (h.room.mono hk) h.grd (by show X.env.scope.names.lookup x = _; rw [h.sc]; exact hg) (by rw [h.mg]; exact C.mg) (by rw [h.K]; exact C.kp) (by rw [h.K]; exact C.bd) (fun y hy => ?_) ha hdb (he _) (hpl _)
  · rw [h.N] at z; exact z
  · obtain ⟨h1, h2⟩ := hcap y hy
    have h2' : X.env.scope.names.lookup y = some .cell := by rw [h.sc]; exact h2
    refine ⟨(h.fn y h1 (.inr h2')).elim id fun z => ?_, h2'⟩
    rw [h2'] at z; cases z
/-- f([lambda: .., ..], e, ..) -/
theorem ej_callLs (Pt : Addr) (ls : List (LamD × List Nat)) (C : Callee c k x f fd ps false false m) (hl : lamOk lams (ls.map Prod.fst)) (hm : ∀ l ∈ ls, Maker c Pt l.1.q ∧ LamF c P l.1 l.2) (ha : AJ c P es A) (hk : Nat.ble k c.k = true := by rfl) (hg : c.sc.names.lookup x = some .globalImplicit := by rfl) (hdb : (x == ("__debug__" : Str)) = false := by decide)
    (hz : Nat.ble ls.length 1000 = true := by rfl) (he : ∀ env, starEach (.List lams lpos :: es) env = (false, eval (.List lams lpos) env) :: starEach es env := by intro _; rfl) (hpl : ∀ env, (backTo pos (starEach es env)).any (·.1) = false := by intro _; rfl) (hn : es.length + 1 = ps.length := by rfl) :
    EJ c P (.Call (.Name x p) (.List lams lpos :: es) [] pos) (cCallLs m ls A) := by
  obtain ⟨t, pt, rt⟩ := ha.ex
  refine ⟨fun σ H Q => ∀ ec, EcOk c ec → tCallL (spX c.G.T c.K false false ps.length m) ec (capsOf ls) c.N (tCons (tLst (tLams Pt ec (ls.map Prod.fst))) t) σ H Q, fun X h => ?_, fun r σ O H B Q fr q ec eok => ?_⟩
  · refine ⟨fun pins s σ H Q I hq => (pe_calleeL h C (Nat.le_of_ble_eq_true hk) hg (pa_cons (pe_lst (lams_pa h hl hm)) (pt X h) (he _)) (fun y hy => ?_) hdb he hpl).run pins s σ H Q I (hq X.env.cells (EcOk.of h I))⟩
    obtain ⟨l, hl1, hl2⟩ := List.mem_flatMap.mp hy
    exact (lamF_cap (hm l hl1).2 hl2).2
  · show tLams Pt ec (ls.map Prod.fst) σ H fun xs H1 => xs.length ≤ sizeLine ∧ ∀ pp, H1 pp = none → t σ (upd H1 pp (.lst xs)) fun vs H2 => ∀ cs, CsOk ec (capsOf ls) c.N σ H2 cs → spX c.G.T c.K false false ps.length m (.ref pp :: vs) (ov cs H2) (QOv cs Q) fun _ _ _ => False
    refine lams_read fr (fun D hD => ?_) fun vs0 H1 B1 f1 g1 la => ?_
    · obtain ⟨l, hl1, rfl⟩ := List.mem_map.mp hD
      exact ⟨(hm l hl1).1.mem, (hm l hl1).1.un⟩
    · have lv : vs0.length = ls.length := by rw [← Paired.length la, List.length_map]
      refine ⟨by rw [lv]; exact Nat.le_trans (Nat.le_of_ble_eq_true hz) (by rw [sizeLine_eq]; decide), fun pp hpp => ?_⟩
      have pu := Pu.new (o := .lst vs0) f1.sub hpp
      have f2 := f1.pu pu
      have g2 := g1.trans (Grow.of_pu (O := O) pu)
      refine rt r σ O _ _ _ f2 ((((PK.bind0 q).later g2)).impE fun ts r1 O3 H3 B3 hts f3 g3 q3 vs rv cs cok => ?_)
      have lv2 : vs.length = es.length := by rw [rv.length, ha.len _ _ _ hts]
      cases z : lamsT ls r1 with
      | none => rw [z] at q3; exact (show False from q3).elim
      | some us =>
        rw [z] at q3
        have sm := same_ov f3 cok.none
        have lst : B3 pp = some (.lst vs0) := g3.bb _ _ upd_same
        have rl : Reps c.K (ov cs B3) vs0 us := clos_rep f3 cok (Paired.mapP la fun D v h => (h.mono pu.bb).mono g3.bb) z fun l hl1 => ⟨(hm l hl1).2.ix, (hm l hl1).2.np, fun y hy => ⟨List.mem_flatMap.mpr ⟨l, hl1, hy⟩, (lamF_cap (hm l hl1).2 hy).1⟩, clo_ok (hm l hl1).2 eok⟩
        exact ⟨by rw [List.length_cons, lv2, hn], none, ov cs B3, .lst us :: ts, ov_sub f3, tab_ov f3 cok.none, ⟨rfl, .cons (.lst (.of (sm _ _ lst)) rl) (rv.mono sm)⟩, callL_end f3 cok (q3.later (g2.trans g3))⟩
/-- f(lambda: .., e, ..) -/
theorem ej_callL (Pt : Addr) (D : LamD) (is : List Nat) {pa : Arguments} {eb : Expr} {sb : Scope} (C : Callee c k x f fd ps false false m) (hl : pa = D.params ∧ eb = D.body ∧ sb = D.scope) (M : Maker c Pt D.q) (F : LamF c P D is) (ha : AJ c P es A) (hk : Nat.ble k c.k = true := by rfl) (hg : c.sc.names.lookup x = some .globalImplicit := by rfl) (hdb : (x == ("__debug__" : Str)) = false := by decide)
    (he : ∀ env, starEach (.Lambda pa eb sb lpos :: es) env = (false, eval (.Lambda pa eb sb lpos) env) :: starEach es env := by intro _; rfl) (hpl : ∀ env, (backTo pos (starEach es env)).any (·.1) = false := by intro _; rfl) (hn : es.length + 1 = ps.length := by rfl) :
    EJ c P (.Call (.Name x p) (.Lambda pa eb sb lpos :: es) [] pos) (cCallL m D is A) := by
  obtain ⟨rfl, rfl, rfl⟩ := hl
  obtain ⟨t, pt, rt⟩ := ha.ex
  refine ⟨fun σ H Q => ∀ ec, EcOk c ec → tCallL (spX c.G.T c.K false false ps.length m) ec D.caps c.N (tCons (tLamE Pt ec D) t) σ H Q, fun X h => ?_, fun r σ O H B Q fr q ec eok => ?_⟩
  · exact ⟨fun pins s σ H Q I hq => (pe_calleeL h C (Nat.le_of_ble_eq_true hk) hg (pa_cons (lam_pe h M F) (pt X h) (he _)) (fun y hy => (lamF_cap F hy).2) hdb he hpl).run pins s σ H Q I (hq X.env.cells (EcOk.of h I))⟩
  · show tLamE Pt ec D σ H fun v0 H1 => t σ H1 fun vs H2 => ∀ cs, CsOk ec D.caps c.N σ H2 cs → spX c.G.T c.K false false ps.length m (v0 :: vs) (ov cs H2) (QOv cs Q) fun _ _ _ => False
    refine lam_read fr M.mem M.un fun v0 H1 B1 f1 g1 la => ?_
    refine rt r σ O _ _ _ f1 ((((PK.bind0 q).later g1)).impE fun ts r1 O3 H3 B3 hts f3 g3 q3 vs rv cs cok => ?_)
    have lv2 : vs.length = es.length := by rw [rv.length, ha.len _ _ _ hts]
    cases z : capT is r1 with
    | none => rw [z] at q3; exact (show False from q3).elim
    | some xs =>
      rw [z] at q3
      have sm := same_ov f3 cok.none
      have rl : Rep c.K (ov cs B3) v0 (.clo D xs) := clo_rep f3 cok (la.mono g3.bb) z F.ix F.np (fun y hy => ⟨hy, (lamF_cap F hy).1⟩) (clo_ok F eok)
      exact ⟨by rw [List.length_cons, lv2, hn], none, ov cs B3, .clo D xs :: ts, ov_sub f3, tab_ov f3 cok.none, ⟨rfl, .cons rl (rv.mono sm)⟩, callL_end f3 cok (q3.later (g1.trans g3))⟩
end
end Tc

/-! Tc: a lambda is called. -/
namespace Tc
open PySem PySem.Spec L2 PyProof.Rows LamX

/-- what its text says -/
structure LamB (D : LamD) : Prop where
  kind : D.scope.kind = .function
  co : D.scope.isCoroutine = false
  gen : D.scope.isGenerator = false
  own : D.scope.names.all (fun y => y.2 != .local && y.2 != .cell) = true
  fc : D.scope.names.all (fun y => y.2 != .free || decide (y.1 ∈ D.caps)) = true
  nd : D.caps.Nodup
  vis : D.caps.all (fun y => decide (D.scope.names.lookup y = some .free)) = true
  bind : ∀ (cl : List (Str × Addr)) (pm cv ctv : Value), bindArgs (PySem.W.kla_fn "<lambda>" D.q D.params D.body D.scope cl pm cv ctv) ⟨[], []⟩ = pure []
/-- the context of its body -/
def lamC (P : Program) (w : World) (K : PySem.W.Frag) (mg : Str → Option Value) (base : Heap) (D : LamD) (f c' : Addr) (cl : List (Str × Addr)) (A : Around) (outer : List Env) (s : Shared) (H : Hp) (E : XK) : Cx where
  prog := P
  w := w
  K := K
  mg := mg
  base := base
  A := A.deeper (PySem.W.envX D.q D.scope s.heap.objs.size f (.ref c') cl)
  N := D.caps
  s_0 := s
  H_0 := H
  env := PySem.W.envX D.q D.scope s.heap.objs.size f (.ref c') cl
  outer := outer
  stack := PySem.W.envX D.q D.scope s.heap.objs.size f (.ref c') cl :: outer
  ex := []
  fn := fun _ => false
  calm := true
  pn := []
  xe := fun e s' => wpAny (model P w) (A.deeper (PySem.W.envX D.q D.scope s.heap.objs.size f (.ref c') cl)) (leaving (PySem.W.envX D.q D.scope s.heap.objs.size f (.ref c') cl) e) (fun _ s'' => L2.CX P w outer H s E e s'') (fun e' s'' => L2.CX P w outer H s E e' s'') s'
def lamSC (T : TB) (P : Program) (w : World) (K : PySem.W.Frag) (mg : Str → Option Value) (base : Heap) (D : LamD) (k : Nat) (E : XK) : SC :=
  ⟨P, w, K, mg, base, D.caps, D.scope, k, fun cls d _ H => E cls d H, ⟨none, D.caps.length, T⟩, fun _ => false, none⟩
/-- what the cells hold -/
def CellsAt (D : LamD) (cl : List (Str × Addr)) (vs : List V) (cs : Addr → Option Obj) : Prop := vs.length = D.caps.length ∧ ∀ (i : Nat) (y : Str), D.caps[i]? = some y →
  ∃ (a : Addr) (o : Obj) (u : Value) (v : V), cl.lookup y = some a ∧ cs a = some o ∧ o.data = .cell (some u) ∧ vs[i]? = some v ∧ RelV v u
section
variable {P : Program} {w : World} {K : PySem.W.Frag} {mg : Str → Option Value} {base : Heap} {D : LamD} {f c' : Addr} {cl : List (Str × Addr)} {A : Around} {outer : List Env} {s : Shared} {H : Hp} {E : XK} {vs : List V} {cs : Addr → Option Obj}
theorem lam_inv (L : LamB D) (ok : ClOk D cl) (e0 : Env0 P w K mg base A outer s H) (hd : A.handled = none) (ca : CellsAt D cl vs cs) (hn : ∀ b o, cs b = some o → H b = none) (hg : ∀ b o, cs b = some o → s.heap.get? b = some o)
    {h1 : Heap} {tk : Nat} (hns : h1.Ns s.heap.objs.size fun y => ([] : List (Str × Value)).reverse.lookup y) (kp : ∀ b o, s.heap.get? b = some o → h1.get? b = some o) :
    Inv (lamC P w K mg base D f c' cl A outer s H E) [] (vs.map some) H { s with heap := h1, toks := tk } := by
  have noA : ∀ b : Addr, b ∉ (lamC P w K mg base D f c' cl A outer s H E).ex := fun b z => absurd (show b ∈ ([] : List Addr) from z) (by simp)
  have own : ∀ y k, (y, k) ∈ D.scope.names → k ≠ .local ∧ k ≠ .cell := fun y k hy => by
    have := List.all_eq_true.mp L.own _ hy
    simpa using this
  have at_ : ∀ y c, cl.lookup y = some c → ∃ o u, cs c = some o ∧ o.data = .cell (some u) := fun y c e => by
    obtain ⟨i, hi⟩ := List.getElem?_of_mem (ok.of y c e)
    obtain ⟨a, o, u, v, e1, e2, e3, _⟩ := ca.2 i y hi
    rw [e] at e1
    cases e1
    exact ⟨o, u, e2, e3⟩
  refine ⟨⟨e0.mod, L.kind, rfl, rfl, Nat.le_refl _, fun y z c e1 e2 => ok.inj y z c e1 e2, fun y hy => ?_, fun y c z _ => ?_, fun _ => hd, Around.frames_deeper e0.frames, .inr ⟨rfl, rfl⟩, fun b z => absurd z (noA b), e0.bs, e0.bsz, fun b _ _ => noA b,
      fun b z => absurd z (noA b), e0.funs, e0.frf⟩,
    rfl, e0.bare, Un.kept kp, ⟨_, hns, fun i y v e1 e2 e3 => ?_⟩, fun y c e => ?_, e0.hok.fresh (Nat.le_refl _), fun y c e => ?_, fun q hq => absurd (show q ∈ ([] : List (Addr × Obj)) ++ [] from hq) (by simp), e0.hok.kept kp, by show (vs.map some).length = D.caps.length; rw [List.length_map]; exact ca.1⟩
  · have hy : D.scope.names.lookup y = some .cell ∨ D.scope.names.lookup y = some .free := hy
    rcases hy with hy | hy
    · exact absurd rfl (own _ _ (PySem.mem_of_lookup hy)).2
    · have := List.all_eq_true.mp L.fc _ (PySem.mem_of_lookup hy)
      have hc : y ∈ D.caps := by simpa using this
      obtain ⟨i, hi⟩ := List.getElem?_of_mem hc
      obtain ⟨a, _, _, _, e1, _⟩ := ca.2 i y hi
      exact ⟨a, e1⟩
  · have z : false = true := z
    cases z
  · have e1 : D.caps[i]? = some y := e1
    obtain ⟨a, o, u, v', x1, x2, x3, x4, x5⟩ := ca.2 i y e1
    have ev : v' = v := by
      rw [List.getElem?_map, x4] at e2
      exact Option.some.inj (Option.some.inj e2)
    subst ev
    have kf : D.scope.names.lookup y = some .free := by
      have := List.all_eq_true.mp L.vis y (List.mem_of_getElem? e1)
      simpa using this
    exact ⟨u, x5, .inr ⟨.inr kf, a, x1, o, kp _ _ (hg _ _ x2), x3⟩⟩
  · obtain ⟨o, u, h1, h2⟩ := at_ y c e
    exact ⟨_, o, kp _ _ (hg _ _ h1), h2⟩
  · obtain ⟨o, u, h1, _⟩ := at_ y c e
    exact hn c o h1
end
/-- a() -/
def tAct (P : Program) (w : World) (W : WX) (i : Nat) (tb : LamD → XK → TE) (ok : LamD → Prop) : TE := fun σ H Q => ∀ hh : Heap, HOk P w H hh → ∃ (f c' : Addr) (D : LamD) (cl : List (Str × Addr)) (pm ctv : Value) (vs : List V) (cs : Addr → Option Obj) (H0 : Hp),
  σ[i]? = some (some (.ref f)) ∧ H = ov cs H0 ∧ (∀ b o, cs b = some o → H0 b = none) ∧ H f = some (PinO f (lamO D cl pm ctv c')) ∧ H c' = some (CodeO c' D.q) ∧ ClOk D cl ∧ CellsAt D cl vs cs ∧ ok D ∧
    tb D (fun cls d H' => (∀ b o, cs b = some o → H' b = none) → W cls d σ (ov cs H')) (vs.map some) H0 (fun v H' => (∀ b o, cs b = some o → H' b = none) → Q v (ov cs H'))
theorem pe_actC {c : SC} {X : Cx} (h : c.Is X) {k i : Nat} {a : Str} {p1 p2 : Pos} {tb : LamD → XK → TE} {ok : LamD → Prop} (hk : k + 1 ≤ c.k) (hN : c.N[i]? = some a) (hv : Vis c.sc a)
    (hb : ∀ D, ok D → LamB D ∧ ∀ E (f c' : Addr) (cl : List (Str × Addr)) (A : Around) (outer : List Env) (s : Shared) (H : Hp), (lamSC c.G.T c.prog c.w c.K c.mg c.base D k E).Is (lamC c.prog c.w c.K c.mg c.base D f c' cl A outer s H E) → PE (lamC c.prog c.w c.K c.mg c.base D f c' cl A outer s H E) D.body (tb D E))
    (hd : (a == ("__debug__" : Str)) = false) (hcd : (a == ("__classdict__" : Str)) = false) : PE X (.Call (.Name a p1) [] [] p2) (tAct c.prog c.w c.W i tb ok) := by
  refine ⟨fun pins s σ H Q I hq => ?_⟩
  obtain ⟨f, c', D, cl, pm, ctv, vs, cs, H0, hs, eH, hn, hf, hc, cok, ca, kD, ht⟩ := hq s.heap (by rw [← h.prog, ← h.w]; exact I.hok)
  obtain ⟨L, hbody⟩ := hb D kD
  refine wpAny_Call_Name_kw (thn ((pe_var (pos := p1) (i := i) (by rw [h.N]; exact hN) (by rw [h.sc]; exact hv) hd hcd).run pins s σ H (fun v H1 => v = .ref f ∧ H1 = H) I ⟨.ref f, hs, rfl, rfl⟩) fun u s1 ⟨v, H1, I1, r1, q1⟩ => ?_)
  obtain ⟨ev, eH1⟩ := q1
  subst ev
  rw [eH1] at I1
  obtain rfl : u = Value.ref f := r1
  have of1 : s1.heap.get? f = some (lamO D cl pm ctv c') := pin_get I1.hok hf
  refine PySem.W.callWith_F0 ⟨_, _, _, _, of1⟩ ?_
  obtain ⟨⟨oc, ws, t, hoc, hdc, hvc⟩, _, _⟩ := I1.hok c' _ hc
  have hfr : ∀ b o, cs b = some o → b ∉ frs X.stack := fun b o z hm => by
    have := I1.stkFree b hm
    rw [eH, ov_at z] at this; cases this
  have hg : ∀ b o, cs b = some o → s1.heap.get? b = some o := fun b o z => pin_get (b := b) (o := o) I1.hok (by rw [eH, ov_at z])
  have e0 : Env0 X.prog X.w X.K X.mg X.base X.A X.stack s1 H0 := env0_unov (by rw [← eH]; exact I1.env0) hn
  have hr := h.room.mono hk
  have rc : codeAny (model X.prog X.w) X.A (.call (.ref f) ⟨[], []⟩) (CR (L2.CX X.prog X.w) X.stack X.prog X.w H0 s1 (fun v H' => (∀ b o, cs b = some o → H' b = none) → Q v (ov cs H')) (fun cls d H' => (∀ b o, cs b = some o → H' b = none) → c.W cls d σ (ov cs H'))) s1 := by
    refine PySem.W.kla_callFunE hr.depth of1 rfl L.co L.gen rfl ⟨c', oc, ws, t, rfl, hoc, hdc, hvc⟩ ?_
    rw [L.bind cl pm (.ref c') ctv]
    have own : ∀ y ∈ D.scope.names, y.2 ≠ .cell := fun y hy => by
      have := List.all_eq_true.mp L.own _ hy
      have : y.2 ≠ .local ∧ y.2 ≠ .cell := by simpa using this
      exact this.2
    refine wpAny_pure (wpAny_newFunctionEnv own (fun y hy => absurd hy (by simp)) (fun h₁ hns hsb => ⟨I1.nolimit.fresh _ hsb, ?_⟩) L.kind)
    show codeAny _ _ (.expr D.body (PySem.W.envX D.q D.scope s1.heap.objs.size f (.ref c') cl)) _ _
    have kp : ∀ b o, s1.heap.get? b = some o → h₁.get? b = some o := fun b o e => hsb.extBut b o (Nat.ne_of_lt (Heap.lt_size e)) (Heap.get?_push_of_some _ e)
    have J : Inv (lamC X.prog X.w X.K X.mg X.base D f c' cl X.A X.stack s1 H0 (fun cls d H' => (∀ b o, cs b = some o → H' b = none) → c.W cls d σ (ov cs H'))) [] (vs.map some) H0 { s1 with heap := h₁, toks := s1.toks + ([] : List (Str × Value)).length } :=
      lam_inv L cok e0 hr.hd ca hn hg hns kp
    have isX : (lamSC c.G.T c.prog c.w c.K c.mg c.base D k (fun cls d H' => (∀ b o, cs b = some o → H' b = none) → c.W cls d σ (ov cs H'))).Is (lamC c.prog c.w c.K c.mg c.base D f c' cl X.A X.stack s1 H0 (fun cls d H' => (∀ b o, cs b = some o → H' b = none) → c.W cls d σ (ov cs H'))) :=
      ⟨rfl, rfl, rfl, rfl, rfl, rfl, L.nd, rfl, rfl, hr.deeper _, h.grd, takes_of rfl rfl rfl rfl, passes_of rfl, (fun _ z => nomatch z), fun _ z => nomatch z⟩
    have hp := hbody _ f c' cl X.A X.stack s1 H0 isX
    rw [← h.prog, ← h.w, ← h.K, ← h.mg, ← h.base] at hp
    refine PySem.W.kla_codeExpr (wpAny_mono (hp.run [] _ _ H0 _ J ht) (fun v s' hq => ?_) fun e s' hq => hq)
    obtain ⟨w', H', J', rv, q⟩ := hq
    exact ⟨w', H', J'.os, J'.bare, J'.base, J'.hok, rv, q⟩
  refine wpAny_call (codeAny_mono rc fun r s' hq => ?_)
  have hq := cr_reov (E := fun cls d H' => c.W cls d σ H') (Q := Q) hn hfr hg hq
  rw [← eH] at hq
  cases r with
  | error e => exact h.tk e s' (XE.of_call I1 (fun cls d H' h => h) hq)
  | ok fl =>
    cases fl with
    | ret u => exact I1.after hq
    | next => exact False.elim hq
    | brk => exact False.elim hq
    | cont => exact False.elim hq
end Tc

/-! Tc: the rule of a lambda's call. -/
namespace Tc
open PySem PySem.Spec L2 PyProof.Rows LamX

def outR : Out T → Res
  | .ok t _ => .ok t []
  | .ex c w _ => .ex c w
  | .no => .no
/-- the lambda's body says m of the values of its names -/
def LamOk (Tb : TB) (P : Program) (w : World) (K : PySem.W.Frag) (mg : Str → Option Value) (base : Heap) (k : Nat) (D : LamD) (m : List T → Res) : Prop :=
  LamB D ∧ ∃ F : Ec, (∀ E, EJ (lamSC Tb P w K mg base D k E) [] D.body F) ∧ ∀ xs, m xs = outR (F (xs.map some))
/-- a(), the lambda in slot i -/
def cAct (mA : LamD → List T → Res) (i : Nat) : Ec := fun r => match r[i]? with
  | some (some (.clo D xs)) => if plTs xs = true then cRes r (mA D xs) else .no
  | _ => .no
section
variable {c : SC} {P : List Nat} {r : Sl} {σ : L2.St} {O O' : Addr → Prop} {H B H' B' H0 : Hp} {cs : Addr → Option Obj}
/-- behind it -/
theorem Frm.acted (f : Frm c.K c.G P r σ O H B) (hB : ∀ b o, cs b = some o → B b = some (PinO b o)) (sB : Same B' H') (tb : TabV c.G.T H' B') (g : Grow (fun _ => False) (cut cs H) (cut cs B) O' H' B') (hn : ∀ b o, cs b = some o → H' b = none) :
    Frm c.K c.G P r σ O (ov cs H') (ov cs B') ∧ Grow O H B O (ov cs H') (ov cs B') ∧ Same B' (ov cs B') := by
  have nB : ∀ b o, B' b = some o → cs b = none := fun b o e => by
    cases z : cs b with
    | none => rfl
    | some o' => rw [sB.free (hn b o' z)] at e; cases e
  have sm : Same B' (ov cs B') := fun b o e => by rw [ov_ne (nB b o e)]; exact e
  have sB2 : Same (ov cs B') (ov cs H') := fun b o e => by
    cases z : cs b with
    | some o' => rw [ov_at z] at e ⊢; exact e
    | none => rw [ov_ne z] at e ⊢; exact sB b o e
  have nT : ∀ p ∈ c.G.T, cs p.1 = none := fun p hp => by
    cases z : cs p.1 with
    | none => rfl
    | some o => have := (f.tab p hp).2.1; rw [hB _ o z] at this; cases this
  have tb2 : TabV c.G.T (ov cs H') (ov cs B') := fun p hp => (tb p hp).step (fun ps e => by rw [ov_ne (nT p hp)]; exact e) sm
  have gr : Grow (fun a => (none : Option Addr) = some a) H B (fun _ => False) (ov cs H') (ov cs B') := by
    refine ⟨fun a o e => ?_, fun a o e => ?_, fun a o e n => ?_, fun _ h => h.elim⟩
    · cases z : cs a with
      | some o' => rw [hB a o' z] at e; rw [ov_at z]; exact e
      | none => exact sm _ _ (g.bb a o (by rw [cut_ne z]; exact e))
    · cases z : cs a with
      | some o' => rw [ov_at z] at e; exact .inl (by rw [hB a o' z]; exact e)
      | none =>
        rw [ov_ne z] at e
        rcases g.nb a o e with q | q | q
        · rw [cut_ne z] at q; exact .inl q
        · rw [cut_ne z] at q; exact .inr (.inl q)
        · exact q.elim
    · cases z : cs a with
      | some o' =>
        have := f.sub _ _ (hB a o' z)
        rw [this] at e
        cases e
        exact .inl (ov_at z)
      | none => rw [ov_ne z]; exact g.hh a o (by rw [cut_ne z]; exact e) fun q => q
  obtain ⟨f2, g2⟩ := f.back sB2 tb2 gr
  exact ⟨f2, g2, sm⟩
theorem ej_act (k i : Nat) (mA : LamD → List T → Res) {a : Str} {p1 p2 : Pos} (hA : ∀ D xs, mA D xs ≠ .no → LamOk c.G.T c.prog c.w c.K c.mg c.base k D (mA D)) (hk : Nat.ble (k + 1) c.k = true := by rfl) (hN : c.N[i]? = some a := by rfl)
    (hv : Vis c.sc a := by first | exact Or.inl rfl | exact Or.inr (Or.inl rfl) | exact Or.inr (Or.inr rfl)) (hd : (a == ("__debug__" : Str)) = false := by decide) (hcd : (a == ("__classdict__" : Str)) = false := by decide) :
    EJ c P (.Call (.Name a p1) [] [] p2) (cAct mA i) := by
  classical
  let ok : LamD → Prop := fun D => LamOk c.G.T c.prog c.w c.K c.mg c.base k D (mA D)
  let tb : LamD → XK → TE := fun D E => if h : ok D then ((Classical.choose_spec h.2).1 E).ex.choose else fun _ _ _ => False
  have tbe : ∀ D E (h : ok D), tb D E = ((Classical.choose_spec h.2).1 E).ex.choose := fun D E h => dif_pos h
  refine ⟨tAct c.prog c.w c.W i tb ok, fun X h => pe_actC h (Nat.le_of_ble_eq_true hk) hN hv (fun D hD => ⟨hD.1, fun E f c' cl A outer s H is => ?_⟩) hd hcd, fun r σ O H B Q f q hh hok => ?_⟩
  · rw [tbe D E hD]
    exact ((Classical.choose_spec hD.2).1 E).ex.choose_spec.1 _ is
  · unfold cAct at q
    cases e : r[i]? with
    | none => rw [e] at q; exact (show False from q).elim
    | some ot =>
      rw [e] at q
      cases ot with
      | none => exact (show False from q).elim
      | some t =>
        cases t with
        | clo D xs =>
          by_cases hp : plTs xs = true
          · simp only [hp, if_true] at q
            have kD : ok D := hA D xs fun z => by rw [z] at q; exact (show False from q).elim
            have ni : i ∉ P := fun hi => by
              obtain ⟨_, _, _, e1, _⟩ := f.prv i hi
              rw [e] at e1; cases e1
            obtain ⟨v, hv1, rv⟩ := f.var i _ e ni
            cases rv with
            | @clo fa c' _ _ vs cl pm ctv h1 h2 h3 h4 rs =>
              let Pq : Addr → Obj → Prop := fun b o => ∃ (j : Nat) (y : Str) (u : Value) (v : V), D.caps[j]? = some y ∧ cl.lookup y = some b ∧ B b = some (PinO b o) ∧ o.data = .cell (some u) ∧ vs[j]? = some v ∧ RelV v u
              let cs : Addr → Option Obj := fun b => if h : ∃ o, Pq b o then some h.choose else none
              have key : ∀ b o, cs b = some o → Pq b o := fun b o z => by
                have z' : (if h : ∃ o, Pq b o then some h.choose else none) = some o := z
                by_cases hz : ∃ o, Pq b o
                · rw [dif_pos hz] at z'
                  cases z'
                  exact hz.choose_spec
                · rw [dif_neg hz] at z'; cases z'
              have hB : ∀ b o, cs b = some o → B b = some (PinO b o) := fun b o z => by
                obtain ⟨_, _, _, _, _, _, x, _⟩ := key b o z
                exact x
              have ca : CellsAt D cl vs cs := by
                refine ⟨h3.1, fun j y hj => ?_⟩
                obtain ⟨a, o, u, v, x1, x2, x3, x4, x5⟩ := h3.2 j y hj
                have hz : ∃ o, Pq a o := ⟨o, j, y, u, v, hj, x1, x2, x3, x4, x5⟩
                have ez : cs a = some hz.choose := dif_pos hz
                obtain ⟨j', y', u', v', z1, z2, z3, z4, z5, z6⟩ := hz.choose_spec
                have ey : y' = y := h4.inj _ _ _ z2 x1
                subst ey
                have ej : j' = j := by
                  have n1 := (List.getElem?_eq_some_iff.mp z1)
                  have n2 := (List.getElem?_eq_some_iff.mp hj)
                  obtain ⟨l1, e1⟩ := n1
                  obtain ⟨l2, e2⟩ := n2
                  exact (List.getElem_inj kD.1.nd).mp (e1.trans e2.symm)
                subst ej
                exact ⟨a, hz.choose, u', v', x1, ez, z4, z5, z6⟩
              have eH : H = ov cs (cut cs H) := by
                funext b
                cases z : cs b with
                | some o => rw [ov_at z]; exact f.sub _ _ (hB b o z)
                | none => rw [ov_ne z, cut_ne z]
              have cn : ∀ b q, B b = some (CodeO b q) → cs b = none := fun b q eb => by
                cases z : cs b with
                | none => rfl
                | some o =>
                  have y1 := hB b o z
                  obtain ⟨_, _, u, _, _, _, _, hd, _⟩ := key b o z
                  have g1 : hh.get? b = some o := pin_get hok (f.sub _ _ y1)
                  obtain ⟨⟨oc, ws, tk, g2, g3, _⟩, _⟩ := hok b _ (f.sub _ _ eb)
                  rw [g1] at g2
                  cases g2
                  rw [hd] at g3; cases g3
              refine ⟨fa, c', D, cl, pm, ctv, vs, cs, cut cs H, hv1, eH, fun b o z => cut_at z, f.sub _ _ h1, f.sub _ _ h2, h4, ca, kD, ?_⟩
              rw [tbe D _ kD]
              have hm : mA D xs = outR (Classical.choose kD.2 (xs.map some)) := (Classical.choose_spec kD.2).2 xs
              have lx : LsX B (cut cs B) := fun b o eb n => by
                cases z : cs b with
                | none => rw [cut_ne z]; exact eb
                | some o' => rw [hB b o' z] at eb; cases eb; exact absurd rfl (n _)
              have rs2 : Reps c.K (cut cs B) vs xs := Reps.plain lx rs hp
              have lc : Same (cut cs B) (cut cs H) := fun b o eb => by
                cases z : cs b with
                | some o' => rw [cut_at z] at eb; cases eb
                | none => rw [cut_ne z] at eb ⊢; exact f.sub _ _ eb
              have nT : ∀ p ∈ c.G.T, cs p.1 = none := fun p hp' => by
                cases z : cs p.1 with
                | none => rfl
                | some o => have := (f.tab p hp').2.1; rw [hB _ o z] at this; cases this
              have f0 : Frm c.K ⟨none, D.caps.length, c.G.T⟩ [] (xs.map some) (vs.map some) (fun _ => False) (cut cs H) (cut cs B) := by
                refine ⟨lc, fun _ h => h.elim, fun _ h => h.elim, fun j t ej _ => ?_, (fun j h => nomatch h), (fun j _ _ h => nomatch h), by rw [List.length_map, List.length_map, rs.length], by rw [List.length_map, ← rs.length]; exact h3.1, (fun g h => nomatch h), fun p hp' => ⟨?_, by rw [cut_ne (nT p hp')]; exact (f.tab p hp').2.1, fun z => z⟩⟩
                · rw [List.getElem?_map] at ej
                  cases z : xs[j]? with
                  | none => rw [z] at ej; cases ej
                  | some t' =>
                    rw [z] at ej
                    have et : t' = t := Option.some.inj (Option.some.inj ej)
                    subst et
                    obtain ⟨v', e1, e2⟩ := rs2.get z
                    exact ⟨v', by rw [List.getElem?_map, e1]; rfl, e2⟩
                · obtain ⟨ps, e1, e2, e3⟩ := (f.tab p hp').1
                  refine ⟨ps, by rw [cut_ne (nT p hp')]; exact e1, e2, fun pos cv hc => ?_⟩
                  obtain ⟨cc, e4, e5⟩ := e3 pos cv hc
                  exact ⟨cc, e4, by rw [cut_ne (cn cc _ e5)]; exact e5⟩
              have rd := ((Classical.choose_spec kD.2).1 (fun cls d H' => (∀ b o, cs b = some o → H' b = none) → c.W cls d σ (ov cs H'))).ex.choose_spec.2 (xs.map some) (vs.map some) (fun _ => False) (cut cs H) (cut cs B) (fun v H' => (∀ b o, cs b = some o → H' b = none) → Q v (ov cs H')) f0
              refine rd ?_
              rw [hm] at q
              cases z : Classical.choose kD.2 (xs.map some) with
              | ok t r1 =>
                rw [z] at q
                intro O2 H2 B2 f2 g2 v2 rv2 hn2
                obtain ⟨f3, g3, sm⟩ := f.acted hB f2.sub f2.tab.tabs g2 hn2
                exact (show PK c P σ O H B (GoodT c Q) (.ok t r) from q) O _ _ f3 g3 v2 (rv2.mono sm)
              | ex n w r1 =>
                rw [z] at q
                intro v2 d2 O2 H2 B2 f2 g2 hx rv2 hn2
                obtain ⟨f3, g3, sm⟩ := f.acted hB f2.sub f2.tab.tabs g2 hn2
                have nd : cs d2 = none := by
                  cases y : cs d2 with
                  | none => rfl
                  | some o => rw [f2.sub.free (hn2 d2 o y)] at hx; cases hx
                exact (show PK c P σ O H B (GoodT c Q) (.ex n w r) from q) v2 d2 O _ _ f3 g3 (sm _ _ hx) (rv2.mono sm)
              | no => rw [z] at q; exact (show False from q).elim
          · simp only [hp] at q
            exact (show False from q).elim
        | _ => exact (show False from q).elim
end
end Tc

/-! Te: an own error's __init__: super().__init__(value); self.value = value. -/
namespace Tc
open PySem PySem.Spec L2 PyProof.Rows

abbrev iniArgs (d : Expr) (q1 q2 : Pos) : Arguments := ⟨[], [⟨"self", none, q1⟩, ⟨"value", none, q2⟩], none, [], [], none, [d]⟩
abbrev iniBody (p0 p1 p2 p3 p4 p5 p6 p7 p8 p9 : Pos) : List Stmt :=
  [.Expr (.Call (.Attribute (.Call (.Name "super" p0) [] [] p1) "__init__" p2) [.Name "value" p3] [] p4) p5, .Assign [.Attribute (.Name "self" p6) "value" p7] (.Name "value" p8) p9]
/-- the def stands in K, its class cell, its code object -/
structure IniK (P : Program) (K : PySem.W.Frag) (C fI : Addr) : Prop where
  ex : ∃ (q : Str) (d : Expr) (a1 a2 p0 p1 p2 p3 p4 p5 p6 p7 p8 p9 : Pos) (T : Addr) (oT : Obj) (n : Nat) (kV doc pm : Value) (an : Option Addr) (cda cc : Addr) (ct oc ccl cl : Value) (od cdd cld : Option Addr) (osl ccs csl : Array (Option Value)) (vs : Array Value) (file : Str) (tf : Tok),
    K.lookup fI = some ⟨oc, od, .func (PySem.W.ksFn "__init__" q (iniArgs d a1 a2) (iniBody p0 p1 p2 p3 p4 p5 p6 p7 p8 p9) iniScope (.ref T) kV doc pm an (.ref cda) ct cc), osl⟩ ∧ PySem.W.codeIn K (.ref cda) q = true ∧ (K.lookup T = some oT ∧ oT.data = .seq #[.none] n) ∧
      K.lookup cda = some ⟨ccl, cdd, .fields vs, ccs⟩ ∧ vs[2]? = some (.str file tf) ∧ ((P.main.file : Str) == file) = true ∧ K.lookup cc = some ⟨cl, cld, .cell (some (.ref C)), csl⟩ ∧ (p2.endLine == p4.line) = true
/-- an own error's class: over ValueError by classes without __init__ -/
structure ErrK (P : Program) (K : PySem.W.Frag) (C : Addr) : Prop where
  oex : OexC K C
  ini : ∃ fI, IniK P K C fI ∧ PySem.W.findIn K (.ref C) "__init__" = some (some (.ref fI)) ∧ PySem.W.typeIn K (.ref fI) = some (.type "function")
  cls : (PySem.W.clsIn K C).isSome = true
  sup : PySem.W.ks_superIn K C C "__init__" = some (some (.builtin "ValueError.__init__"))
  any : PySem.W.nsIn K cStatics "thirdparty.any" = some none
  sub : PySem.W.subIn K (.ref C) (.type "ValueError") = some true
  own : PySem.W.mroIn K C (.ref C) = some true
  hno : PySem.W.findIn K (.ref C) "value" = some none
  top : (P.main.scope.names.lookup ("super" : Str)).isSome = false
  ga : PySem.W.findIn K (.ref C) "__getattribute__" = some (some (.builtin "BaseException.__getattribute__"))
  gg : PySem.W.findIn K (.ref C) "__getattr__" = some none
  hd : PySem.W.hasDictIn K C = true
  ha : PySem.W.findIn K (.ref C) "__class__" = some (some (.builtin "object.__class__"))
  hn : PySem.W.specialIn K (.builtin "object.__class__") "__get__" = some (some (.builtin "getset_descriptor.__get__"))
  ht : PySem.W.takesIn K (.builtin "object.__class__") = some true
  ob : PySem.W.mroIn K C (.type "object") = some true
section
open PySem.W
variable {P : Program} {w : World} {A : Around} {E : Value → Shared → Prop} {R : Result → Shared → Prop} {hp : Heap} {g : Array GenState} {d : Drawn} {t : Nat} {os : OsState} {K : PySem.W.Frag} {C fI e t0 : Addr} {u : Value} {mg mb : Str → Option Value}
theorem ini_binds {s : Shared} {q : Str} {dx : Expr} {a1 a2 : Pos} {body : List Stmt} {T : Addr} {oT : Obj} {n : Nat} {kV doc pm cdv ct : Value} {an : Option Addr} {cc : Addr} (X : K.In s.heap) (lT : K.lookup T = some oT) (oTd : oT.data = .seq #[.none] n) :
    BindsTo s (PySem.W.ksFn "__init__" q (iniArgs dx a1 a2) body iniScope (.ref T) kV doc pm an cdv ct cc) ⟨[.ref e, u], []⟩ [("self", .ref e), ("value", u)] := by
  refine BindsTo.of_looks fun M => ?_
  obtain ⟨k, h1, h2⟩ : ∃ k : Option (Array Value) → Sem (List (Str × Value)), bindArgs (PySem.W.ksFn "__init__" q (iniArgs dx a1 a2) body iniScope (.ref T) kV doc pm an cdv ct cc) ⟨[.ref e, u], []⟩ = seqItems? (.ref T) >>= k ∧ k (some #[.none]) = pure [(("self" : Str), Value.ref e), (("value" : Str), u)] := ⟨_, rfl, rfl⟩
  rw [h1]
  exact looks_items X lT oTd (.of_pure h2)
theorem ini_call {env : Env} {o : Expr} {p2 p3 p4 : Pos} (hl : (p2.endLine == p4.line) = true) : eval (.Call (.Attribute o "__init__" p2) [.Name "value" p3] [] p4) env = (do
    let ov ← attributeBase o "__init__" env (eval o env)
    standAt p2.atName
    let (f, first) ← holding [ov] (getMethod ov "__init__" (do return (← importBound o env).getD true))
    callWith p4 f first (backTo p4 (starEach [.Name "value" p3] env)) []) := by
  have hform : methodCallForm ([Expr.Name "value" p3].length + ([] : List Keyword).length) (backTo p4 (starEach [.Name "value" p3] env)) (backToKw p4 (keywordEach [] env)) = true := rfl
  have hpos : methodCallPos true o env p2 p4 = pure p4 := by unfold methodCallPos; simp [hl]
  rw [arm_eval_Call]
  unfold methodCall
  rw [hform]
  simp only [hpos, pure_bind]
  rfl
theorem ini_cells : ∀ x ∈ iniScope.names, x.2 ≠ .cell := by decide
theorem init_run (X : K.In hp) (D : IniK P K C fI) (T : ErrK P K C) (hlim : hp.NoLimit) (hg : hp.Ns mainGlobals mg) (hms : mg "super" = none) (hb : hp.Ns builtinsNs mb) (hbb : mb "super" = some (.type "super")) (hroom : A.depth < recursionLimit) (he : hp.get? e = some (PySem.HandSPX.excO C t0)) (hKe : K.lookup e = none)
    (hq : ∀ h' tk' dx t1, (∀ b o, b ≠ e → hp.get? b = some o → h'.get? b = some o) → hp.objs.size ≤ dx → h'.get? e = some { cls := .ref C, dict := some dx, data := .fields #[.ref t1, .none, .none, .none, .bool false, .none] } → h'.Ns1 dx (fun y => if y = "value" then some u else none) → R (.ok (.ret .none)) ⟨h', g, d, tk', os⟩) :
    codeAny (model P w) A (.call (.ref fI) ⟨[.ref e, u], []⟩) R ⟨hp, g, d, t, os⟩ := by
  obtain ⟨q, dd, a1, a2, p0, p1, p2, p3, p4, p5, p6, p7, p8, p9, Ta, oT, n, kV, doc, pm, an, cda, cc, ct, oc, ccl, cl, od, cdd, cld, osl, ccs, csl, vs, file, tf, lk, hcd, ⟨lT, oTd⟩, lcode, hvs, hfile, lcell, hline⟩ := D.ex
  obtain ⟨cd, hcl⟩ := Option.isSome_iff_exists.mp T.cls
  obtain ⟨oD, hD1, hD2⟩ : ∃ oD, K.lookup C = some oD ∧ oD.data = .cls cd := by
    unfold clsIn at hcl
    split at hcl
    · rename_i ho
      cases hcl
      exact ⟨_, ho, rfl⟩
    · cases hcl
  refine ks_codeAny_call_defAt (fd := ksFn "__init__" q (iniArgs dd a1 a2) (iniBody p0 p1 p2 p3 p4 p5 p6 p7 p8 p9) iniScope (.ref Ta) kV doc pm an (.ref cda) ct cc) hroom (X _ _ lk) rfl hlim (codeRec_of X hcd) rfl (ini_binds (s := ⟨hp, g, d, t, os⟩) X lT oTd) ini_cells (locs rfl) (fun h₀ hns k0 => ?_)
  have X0 : K.In h₀ := X.keeps k0
  have he0 := k0 _ _ he
  have hg0 : h₀.Ns mainGlobals mg := hg.keeps k0
  have hb0 : h₀.Ns builtinsNs mb := hb.keeps k0
  show PySem.wpAt (model P w) (A.deeper (ksEnv q iniScope hp.objs.size fI (.ref cda) cc)) (.func (iniBody p0 p1 p2 p3 p4 p5 p6 p7 p8 p9) (ksEnv q iniScope hp.objs.size fI (.ref cda) cc)) (execs (iniBody p0 p1 p2 p3 p4 p5 p6 p7 p8 p9) (ksEnv q iniScope hp.objs.size fI (.ref cda) cc)) _ _ _
  refine ks_wpAt_execs_cons (ks_wpAt_Expr_any (ks_wpAt_MethodCall (he := ini_call hline) (ks_wpAt_super_base (env := ksEnv q iniScope hp.objs.size fI (.ref cda) cc) rfl rfl (by decide) rfl (k0 _ _ (X _ _ lk)) rfl rfl rfl (k0 _ _ (X _ _ lcode)) rfl hvs hfile T.top ?_)))
  refine ks_loadName_global rfl rfl (Calls.loadGlobal_builtin (env := ksEnv q iniScope hp.objs.size fI (.ref cda) cc) hg0 hms hb0 hbb ⟨rfl, ?_⟩)
  refine wpAny_loadName_free rfl rfl rfl ⟨_, k0 _ _ (X _ _ lcell), rfl⟩ ?_
  refine wpAny_loadName_local rfl rfl hns rfl ?_
  refine ks_wpAny_isType_cls (k0 _ _ (X _ _ hD1)) hD2 ⟨rfl, ?_⟩
  refine ks_wpAny_call_super (k0 _ _ (X _ _ hD1)) hD2 he0 rfl (fun c z => nomatch z) (looks_mroIn X0 T.own) (fun h1 e1 k1 => ?_)
  have X1 : K.In h1 := X0.keeps k1
  have he1 := k1 _ _ he0
  have hI : Looks (model P w) h1 (isInstance (.ref e) (.type "ValueError")) true := (show Looks (model P w) h1 (typeOf (.ref e)) (.ref C) from fun A Q E s k q => wpAny_typeOf_ref (k _ _ he1) q).andThen (looks_subIn X1 T.sub)
  have hm := T.sup
  unfold ks_superIn at hm
  rw [hcl] at hm
  have neC : e ≠ C := fun z => by
    rw [z] at he
    rw [X _ _ hD1] at he
    cases he
    cases hD2
  refine kxs_getMethod kxs_ValueError e1 (looks_opaque X1 T.any) (l₀ := cd.mro) (fun A Q E s k q => wpAny_bind ((looks_clsIn X1 hcl) A _ E s k (wpAny_pure q))) rfl X1 hm hI neC (by decide) ?_
  have ns1 : h1.Ns hp.objs.size (fun x => ([(("self" : Str), Value.ref e), (("value" : Str), u)] : List (Str × Value)).reverse.lookup x) := hns.keeps k1
  have pk : ∀ b o, h1.get? b = some o → (h1.push (kxs_mw "ValueError.__init__" e)).get? b = some o := fun b o z => Heap.get?_push_of_some _ z
  have hu : (h1.push (kxs_mw "ValueError.__init__" e)).get? h1.objs.size = some (kxs_mw "ValueError.__init__" e) := Heap.get?_push_at rfl rfl
  refine kxs_callWith (i := "ValueError.__init__") (x := e) rfl (Calls.evalArgs_plain ?_)
  refine Calls.spliced_cons ?_
  refine wpAny_Name (wpAny_loadName_local rfl rfl (ns1.keeps pk) rfl ?_) (by decide)
  refine Calls.spliced_nil ⟨hu, ?_⟩
  obtain ⟨nm, qn, Nn, bs, bm, sn, sub, ab, col, ddd, k0', k1', k2', k3', k5', hC, hbm⟩ := T.oex.cls
  refine wpAny_call (codeAny_of_tree ?_)
  show wpAny _ _ (callAny (.ref _) ⟨[u], []⟩) _ _ _
  simp only [callAny]
  refine wpAny_bind (wpAny_load hu ?_)
  simp only [kxs_mw, show (Value.type "method-wrapper" == Value.type "method" || Value.type "method-wrapper" == Value.type "builtin_function_or_method" || Value.type "method-wrapper" == Value.type "method-wrapper") = true by decide, if_true]
  refine KFB.if_so (by decide) ?_
  refine wpAny_bind (check_bound_init F.excBase_ValueError.toExcCallFacts (pk _ _ (X1 _ _ hC)) (pk _ _ he1) rfl ?_)
  refine wpAny_bind (wpAny_pure (wpAny_pure ?_))
  refine ⟨plainId_quiet F.excBase_ValueError.init.plain _, codeAny_builtin F.excBase_ValueError.initEntry ?_⟩
  refine exc_init_tree (cls := .ref C) (t0 := t0) (dv := none) (c2 := .none) (c3 := .none) (b4 := .bool false) (pk _ _ he1) (by rw [sizeLine_eq]; exact Nat.le_of_ble_eq_true rfl) fun h2 k2 he2 ht2 => ?_
  have neL : hp.objs.size ≠ e := Nat.ne_of_gt (Heap.lt_size he)
  have k02 : ∀ b o, b ≠ e → h₀.get? b = some o → h2.get? b = some o := fun b o hb z => k2 b o hb (pk _ _ (k1 _ _ z))
  have kp2 : ∀ b o, b ≠ e → hp.get? b = some o → h2.get? b = some o := fun b o hb z => k02 b o hb (k0 _ _ z)
  have X2 : K.In h2 := fun b o z => kp2 b o (fun y => by rw [y, hKe] at z; cases z) (X b o z)
  have hns2 : h2.Ns hp.objs.size (fun x => ([(("self" : Str), Value.ref e), (("value" : Str), u)] : List (Str × Value)).reverse.lookup x) := by
    obtain ⟨o, es, ep, ho, r⟩ := hns
    exact ⟨o, es, ep, k02 _ _ neL ho, r⟩
  refine ks_wpAt_execs_cons (ks_wpAt_Assign_Attr (wpAt_of_wpAny (wpAny_Name (wpAny_loadName_local rfl rfl hns2 rfl ?_) (by decide))))
  refine wpAny_Name (wpAny_loadName_local rfl rfl hns2 rfl ?_) (by decide)
  refine set_plain X2 (ox := { cls := .ref C, dict := none, data := .fields #[.ref _, .none, .none, .none, .bool false, .none] }) (od := none) ⟨he2, rfl, rfl, trivial⟩ T.oex.sa ?_
  have ec : cd.mro = .ref C :: bm ∧ cd.hasDict = true := by
    unfold clsIn at hcl
    rw [hC] at hcl
    cases hcl
    exact ⟨rfl, rfl⟩
  refine PySem.HandSPX.exc_osa X2 he2 hcl (by rw [ec.1]; exact hbm) ec.2 T.hno (fun h' tk' dx k3 dn dne hx hn => ?_)
  show PySem.wpAt _ _ _ (execs [] _) _ _ _
  refine wpAt_of_wpAny (wpAny_execs_nil ?_)
  refine hq h' tk' dx _ (fun b o hb z => k3 b o hb (kp2 b o hb z)) ?_ hx hn
  exact Nat.le_trans (Nat.le_of_lt hns2.lt) dn
end

/-! ### the exception that is made -/
section
variable {X : Cx} {x : Str} {C : Addr} {e : Expr} {te : TE} {p pos : Pos} {k : Nat}
/-- C(e): the exception's dict is new -/
theorem pmk_err (T : ErrK X.prog X.K C) (hr : Room (k + 2) X.A) (hg : Gl X x) (hm : X.mg x = some (.ref C)) (hms : X.mg "super" = none) (he : PE X e te)
    (hdb : (x == ("__debug__" : Str)) = false := by decide) (hst : starEach [e] X.env = (false, eval e X.env) :: starEach [] X.env := by rfl) :
    PMk X (.Call (.Name x p) [e] [] pos) (fun σ H Q => te σ H fun v H1 => ∀ d, H1 d = none → Q (.ref C) (some d) (upd H1 d (.xd [("value", v)]))) := by
  intro pins s σ H Q I h
  obtain ⟨nm, q, N, bs, bm, sn, sub, ab, col, dd, k0, k1, k2, k3, k5, hC, hbm⟩ := T.oex.cls
  obtain ⟨fI, D, iC, tI⟩ := T.ini
  refine wpAny_Call_Name_kw (ld_glob I hg hm ?_ hdb)
  refine PySem.W.callWith_K (h₀ := X.base) I.ok.mod.kin T.oex.kC ?_ hst (by rfl)
  rw [hst]
  show wpAny _ _ (spliced ((false, eval e X.env) :: backTo pos (starEach [] X.env))) _ _ s
  refine Calls.spliced_cons (thn (he.run pins s σ H _ I h) fun u s1 ⟨v, H1, I1, r1, q1⟩ => ?_)
  refine Calls.spliced_nil ⟨I1.kIn, ?_⟩
  show wpAny _ _ (call (.ref C) [u]) _ _ _
  obtain ⟨hp, g, dr, tk, os⟩ := s1
  have hn1 : hp.get? (hp.objs.size + 1) = none := Heap.get?_none_of_le (Nat.le_succ _)
  have kk : ∀ b o, hp.get? b = some o → ((hp.push (PySem.W.kdv_tup [u])).push (PySem.HandSPX.excO C hp.objs.size)).get? b = some o := fun b o e => Heap.get?_push_of_some _ (Heap.get?_push_of_some _ e)
  have hget : ((hp.push (PySem.W.kdv_tup [u])).push (PySem.HandSPX.excO C hp.objs.size)).get? (hp.objs.size + 1) = some (PySem.HandSPX.excO C hp.objs.size) := by heap_get
  have hKe : X.K.lookup (hp.objs.size + 1) = none := by
    cases z : X.K.lookup (hp.objs.size + 1) with
    | none => rfl
    | some o => rw [I1.kIn _ _ z] at hn1; cases hn1
  obtain ⟨mb, hb1, hb2⟩ := I1.mod.blt
  refine wpAny_call (PySem.HandSPX.call_own F.excBase_ValueError (fun Y => PySem.HandSPX.refsVE_contains Y bm hbm) (I1.kIn _ _ hC) (PySem.W.looks_findIn I1.kIn iC) (fun self => PySem.W.bind_fn I1.kIn self tI) (by rw [sizeLine_eq]; exact Nat.le_of_ble_eq_true rfl) ?_)
  refine init_run (K := X.K) (C := C) (mg := X.mg) (mb := mb) (t0 := hp.objs.size) (I1.kIn.keeps kk) D T (I1.nolimit.keeps kk) ((I1.mod.glob.keeps I1.bk).keeps kk) hms ((hb1.keeps I1.bk).keeps kk) ((hb2 _ (by decide)).trans (by rfl)) ?_ hget hKe (fun h' tk' dx t1 k3 dn hx hns => ?_)
  · have := (hr.make C [u] []).depth
    exact this
  · have sz : ((hp.push (PySem.W.kdv_tup [u])).push (PySem.HandSPX.excO C hp.objs.size)).objs.size = hp.objs.size + 2 := by rw [Heap.size_push, Heap.size_push]
    rw [sz] at dn
    have dne : dx ≠ hp.objs.size + 1 := by omega
    have nd : H1 dx = none := I1.hok.fresh (by show hp.objs.size ≤ dx; omega)
    have na : H1 (hp.objs.size + 1) = none := I1.hok.fresh (Nat.le_succ _)
    obtain ⟨G, g1, g2⟩ := restrict h' fun b => decide (b ≠ hp.objs.size + 1)
    have gk : ∀ b, b ≠ hp.objs.size + 1 → G.get? b = h'.get? b := fun b hb => g1 b (decide_eq_true hb)
    have ga : G.get? (hp.objs.size + 1) = none := g2 _ (by simp)
    have gs : ∀ b o, G.get? b = some o → h'.get? b = some o := fun b o z => by
      by_cases hb : b = hp.objs.size + 1
      · rw [hb, ga] at z; cases z
      · rw [← gk b hb]; exact z
    have gh : ∀ b o, hp.get? b = some o → G.get? b = some o := fun b o z => by
      have hb : b ≠ hp.objs.size + 1 := Nat.ne_of_lt (Nat.lt_succ_of_lt (Heap.lt_size z))
      rw [gk b hb]
      exact k3 b o hb (kk b o z)
    have J : Inv X pins σ (upd H1 dx (.xd [("value", v)])) ⟨G, g, dr, tk', os⟩ := I1.laid (t' := tk') (a := dx) (o := .xd [("value", v)]) (h' := G) gh (by show hp.objs.size ≤ dx; omega) ⟨_, hns.at fun o z => (gk dx dne).trans z, fun f => by
      have := relO_put (fs := []) (mA := fun _ => none) (f := "value") (y := v) (u := u) r1 (fun g => True.intro) f
      exact this⟩
    refine ⟨rfl, hp.objs.size + 1, _, _, ⟨G, g, dr, tk', os⟩, _, .ref C, some dx, rfl, J, gs, ga, hx, ⟨rfl, rfl⟩, rfl, rfl, ?_, rfl, I1.bare, raises_own T.oex.exC T.oex.tyC, q1 dx nd⟩
    rw [upd_ne (Ne.symm dne)]; exact na
end
end Tc

/-! Te: try: body / except C as n: y = n: the exception is held. -/
namespace Tc
open PySem PySem.Spec L2 PyProof.Rows

theorem exc_own {C d a x : Addr} : ExcO C d a ≠ .own x := fun z => by unfold ExcO at z; cases z
theorem exc_tup {C d a : Addr} {xs : List V} : ExcO C d a ≠ .tup xs := fun z => by unfold ExcO at z; cases z
theorem exc_ok {P : Program} {w : World} {H : Hp} {h : Heap} {a C d : Addr} {oe : Obj} {vs : Array Value} (he : h.get? a = some oe) (hz : Zc (.ref C) (some d) oe) (hd : oe.data = .fields vs) : ObjOk P w H h a (ExcO C d a) :=
  ⟨⟨oe, vs, he, hz, hd⟩, ⟨oe, he⟩, fun h1 h2 z k => by
    obtain ⟨o, v, e1, e2⟩ := z
    exact ⟨o, v, k _ e1, e2⟩⟩
theorem exc_get {P : Program} {w : World} {H : Hp} {h : Heap} {a C d : Addr} (x : HOk P w H h) (e : H a = some (ExcO C d a)) : ∃ (oe : Obj) (vs : Array Value), h.get? a = some oe ∧ Zc (.ref C) (some d) oe ∧ oe.data = .fields vs := (x a _ e).1
/-- the exception that was caught is tracked, and held in slot j -/
def wHold (K : PySem.W.Frag) (c : Value) (i j : Nat) (D : Ends) : WX := fun cls d σ H => PySem.W.exmOne K cls c = some true ∧ ∃ C dd : Addr, cls = .ref C ∧ d = some dd ∧
  ∀ a, H a = none → D.nx (((σ.set i (some (.ref a))).set j (some (.ref a))).set i none) (upd H a (ExcO C dd a))
section
variable {X : Cx} {pins : List (Addr × Obj)} {σ : L2.St} {H : Hp} {s : Shared}
/-- within a suite, nothing new pinned -/
theorem suite0 (I : Inv X pins σ H s) (a : Addr) : Inv (X.suite a (X.pn ++ pins)) [] σ H s :=
  ⟨I.ok.suite _ _, I.os, I.bare, I.base, I.loc, I.cell, I.free, I.freeC, fun p hp => I.pin p (by rw [List.append_nil] at hp; exact hp), I.hok, I.len⟩
theorem unsuite0 {a : Addr} {pn' : List (Addr × Obj)} (I : Inv (X.suite a (X.pn ++ pins)) pn' σ H s) (ok : X.Ok) : Inv X pins σ H s :=
  ⟨ok, I.os, I.bare, I.base, I.loc, I.cell, I.free, I.freeC, fun p hp => I.pin p (List.mem_append_left _ hp), I.hok, I.len⟩
variable {x n y : Str} {c : Value} {i j : Nat} {body : List Stmt} {np p1 p2 p3 pos pos' : Pos} {tb : WX → TS}
theorem ps_try_hold (hs : X.stack = X.env :: X.outer) (hf : X.env.frame = some X.env.locals) (hex : X.ex = []) (hN : X.N.Nodup) (hi : X.N[i]? = some n) (hln : X.env.kindOf n = some .local) (hj : X.N[j]? = some y) (hly : X.env.kindOf y = some .local) (hc : Names X x c)
    (hb : ∀ (W : WX) (pn : List (Addr × Obj)) (xe : Value → Shared → Prop), Takes (X.tr pn xe) W → PassesOwn (model X.prog X.w) X.A X.env xe → PSs (X.tr pn xe) body (tb W))
    (hsw : ∀ env, swapsWith (.Name n p2) (some (.Name y p1)) p3.line env = pure false := by intro _; rfl) (hd : (n == ("__debug__" : Str)) = false := by decide) (hcd : (n == ("__classdict__" : Str)) = false := by decide) :
    PS X (.Try body [.ExceptHandler (some (.Name x np)) (some n) [.Assign [.Name y p1] (.Name n p2) p3] pos'] [] [] pos) (fun D σ H => tb (wHold X.K c i j D) D σ H) := by
  refine ⟨fun pins s σ H D I h => ?_⟩
  have ok := I.ok
  have hfr : X.A.frames = some (X.env :: X.outer) := by rw [ok.frames, hs]
  refine wpAny_Try_except ?_
  refine wpAny_mono ((hb (wHold X.K c i j D) (X.pn ++ pins) (fun e s₁ => wpAny (model X.prog X.w) X.A (noteFrame e X.env) (fun _ s₂ => wpAny (model X.prog X.w) X.A (setFlight e none) (fun _ s₃ =>
    wpAny (model X.prog X.w) X.A (handleBy e X.env [.ExceptHandler (some (.Name x np)) (some n) [.Assign [.Name y p1] (.Name n p2) p3] pos']) (SP X pins D) X.xe s₃) X.xe s₂) X.xe s₁) (fun u s' xx => ?_) PassesOwn.looking).run [] s σ H D (I.toTry _) h) (fun f s1 hsp => ?_) (fun e s1 he => he)
  · obtain ⟨a, B, sI, pins', σ', H', cls, d, rfl, J', nb, up, sky, na, os, ag, hb1, C, dd, rfl, rfl, hyes⟩ := xx
    have J : Inv X pins σ' H' sI := J'.ofTry ok
    have sky' : Sky B (X.env :: X.outer) a (Zc (.ref C) (some dd)) X.env.locals s'.heap := by rw [← hs]; exact sky
    show wpAny (model X.prog X.w) X.A (noteFrame (.ref a) X.env) _ _ _
    refine Sky.land Zc.steady hfr hf sky' fun h3 fl3 up3 => ?_
    have J3 : Inv X pins σ' H' { s' with heap := h3 } := J.landed nb fl3.1 (up.trans up3) os ag
    obtain ⟨oe3, vs3, he3, hz3, hd3⟩ := fl3.there
    refine wpAny_handleBy_cons (codeAny_handlers_test ?_) (by intro q; cases q)
    have LT : PySem.W.Looks (model X.prog X.w) h3 (typeOf (.ref a)) (.ref C) := fun A Q E s k q => wpAny_typeOf_ref (k _ _ he3) (by rw [hz3.1]; exact q)
    have LM := PySem.W.exm_one (M := model X.prog X.w) (J3.kIn) LT hb1
    have S3 := suite0 J3 a
    have test : ∀ {Q : Value → Shared → Prop} {E : Value → Shared → Prop}, Q c { s' with heap := h3 } → wpAny (model X.prog X.w) (X.A.mark (some (.ref a))) (eval (.Name x np) X.env) Q E { s' with heap := h3 } := fun {Q E} q => by
      obtain ⟨hg, hdbg, hm | ⟨hm, hv, hnn⟩⟩ := hc
      · exact ld_glob (X := X.suite a (X.pn ++ pins)) S3 hg hm q hdbg
      · exact ld_blt (X := X.suite a (X.pn ++ pins)) S3 hg hm hv q hnn hdbg
    refine test (LM.here ?_)
    refine codeAny_handlers_suite_as ?_
    refine HandSPX.lands_againZ fl3 fun h4 fl4 up4 => ?_
    have J4 : Inv X pins σ' H' { s' with heap := h4 } := J.landed nb fl4.1 ((up.trans up3).trans up4) os ag
    obtain ⟨oe4, vs4, he4, hz4, hd4⟩ := fl4.there
    -- the exception is tracked
    have nfr : a ∉ frs (X.env :: X.outer) := fun hm => by
      obtain ⟨_, o', e', hnf⟩ := fl4.2.2.1.mem hm
      rw [he4] at e'; cases e'
      exact hnf _ hd4
    have nI : sI.heap.get? a = none := by
      cases z : sI.heap.get? a with
      | none => rfl
      | some o => have := nb a o z (by rw [hs]; exact nfr); rw [fl4.2.1] at this; cases this
    have hex' : ∀ b, b ∉ X.ex := fun b hb => by rw [hex] at hb; cases hb
    have n0 : ∀ b o, X.s_0.heap.get? b = some o → b ≠ a := fun b o z q => by
      subst q
      obtain ⟨o', z'⟩ := J.base.there b o z (hex' b)
      rw [nI] at z'; cases z'
    have nL : X.env.locals ≠ a := fun z => nfr (List.mem_filterMap.mpr ⟨X.env, List.mem_cons_self, by rw [hf, z]⟩)
    have ex_ne : ∀ b u, H' b = some u → b ≠ a := fun b u e z => by rw [z, na] at e; cases e
    have J5 : Inv X pins σ' (upd H' a (ExcO C dd a)) { s' with heap := h4 } := by
      refine ⟨J4.ok, J4.os, J4.bare, ⟨J4.base.keep, J4.base.slot, fun b o e m hb => ?_, J4.base.there, fun b xs e => ?_, fun b o u e => ?_, fun b ps e => ?_⟩, J4.loc, J4.cell, ?_, fun y c e => ?_, fun p hp => ?_, fun b u e => ?_, J4.len⟩
      · rw [upd_ne (n0 b o e)]; exact J4.base.free b o e m hb
      · have z := J4.base.tups b xs e
        rw [upd_ne (ex_ne b _ z)]; exact z
      · have z := J4.base.frzs b o u e
        rw [upd_ne (ex_ne b _ z)]; exact z
      · obtain ⟨m, z⟩ := J4.base.tbls b ps e
        exact ⟨m, by rw [upd_ne (ex_ne b _ z)]; exact z⟩
      · rw [upd_ne nL]; exact J4.free
      · obtain ⟨v, o, ho, hd⟩ := J4.cell y c e
        rw [upd_ne fun z : c = a => by rw [z, he4] at ho; cases ho; rw [hd4] at hd; cases hd]
        exact J4.freeC y c e
      · obtain ⟨e1, e2, e3⟩ := J4.pin p hp
        obtain ⟨f1, _⟩ := J.pin p hp
        exact ⟨e1, by rw [upd_ne fun z : p.1 = a => by rw [z, nI] at f1; cases f1]; exact e2, e3⟩
      · by_cases hb : b = a
        · subst hb
          rw [upd_same] at e
          cases e
          exact exc_ok he4 hz4 hd4
        · rw [upd_ne hb] at e
          exact (J4.hok b u e).stay (fun _ _ _ q => q) (fun c q => by rw [upd_ne (ex_ne c _ q)]; exact q) fun c xs q => by rw [upd_ne (ex_ne c _ q)]; exact q
    have hil : i < σ'.length := by rw [J4.len]; exact (List.getElem?_eq_some_iff.mp hi).1
    refine store_ok (X := X.suite a (X.pn ++ pins)) (v := .ref a) (suite0 J5 a) hN hi (.inl hln) rfl (fun s5 S5 => ?_) (.inr hln)
    have P1 := pss_one (ps_set (X := X.suite a (X.pn ++ pins)) (pos := p3) (pos' := p1) hN hj (.inl hly) (pe_var (X := X.suite a (X.pn ++ pins)) (pos := p2) hi (.inl hln) hd hcd) (hsw _) (.inr hly))
    refine wpAny_mono (P1.run [] s5 _ _ { nx := fun σ6 H6 => σ6 = (σ'.set i (some (.ref a))).set j (some (.ref a)) ∧ H6 = upd H' a (ExcO C dd a), rt := fun _ _ => False, bk := fun _ _ => False, ct := fun _ _ => False } S5 ⟨.ref a, List.getElem?_set_self hil, rfl, rfl⟩) (fun f s6 hsp => ?_) (fun _ _ z => False.elim z)
    cases f with
    | next =>
      obtain ⟨σ6, H6, S6, rfl, rfl⟩ := hsp
      exact gone_ok (unsuite0 S6 ok) hN hi hln fun s7 J7 => ⟨_, _, J7, hyes a na⟩
    | brk => obtain ⟨_, _, _, z⟩ := hsp; exact z.elim
    | cont => obtain ⟨_, _, _, z⟩ := hsp; exact z.elim
    | ret u => obtain ⟨_, _, _, _, _, z⟩ := hsp; exact z.elim
  · cases f with
    | next =>
      obtain ⟨σ', H', J', q⟩ := hsp
      exact wpAny_execs_nil ⟨σ', H', J'.ofTry ok, q⟩
    | brk =>
      obtain ⟨σ', H', J', q⟩ := hsp
      exact ⟨σ', H', J'.ofTry ok, q⟩
    | cont =>
      obtain ⟨σ', H', J', q⟩ := hsp
      exact ⟨σ', H', J'.ofTry ok, q⟩
    | ret u =>
      obtain ⟨v, σ', H', J', r, q⟩ := hsp
      exact ⟨v, σ', H', J'.ofTry ok, r, q⟩
end
end Tc

/-! Te: own errors in the tree calculus: raise, try, isinstance, .value. -/
namespace Tc
open PySem PySem.Spec L2 PyProof.Rows

/-- the errors of the text: es, and what stands above them -/
structure ErrsK (P : Program) (K : PySem.W.Frag) (es ts : List Str) : Prop where
  err : ∀ n ∈ es, ErrK P K (He.ga K n)
  kit : ∀ n ∈ es, ∀ m ∈ ts, PySem.W.kitOne K (.ref (He.ga K n)) (.ref (He.ga K m)) = some (decide (n = m))

/-! ### isinstance(e, C), e.value -/
def rIsX (P : Program) (K : PySem.W.Frag) : List V → Hp → VK → Prop := fun xs H Q => ∃ (a C D d : Addr) (fs : List (Str × V)) (b : Bool), xs = [.ref a, .ref D] ∧ H a = some (ExcO C d a) ∧ H d = some (.xd fs) ∧ ErrK P K C ∧ PySem.W.kitOne K (.ref C) (.ref D) = some b ∧ Q (.bl b) H
section
variable {X : Cx} {pins : List (Addr × Obj)} {σ : L2.St} {H : Hp} {s : Shared}
theorem exc_inst (I : Inv X pins σ H s) {a C d : Addr} {fs : List (Str × V)} (h1 : H a = some (ExcO C d a)) (h2 : H d = some (.xd fs)) : ∃ oe od mA, PySem.W.InstAt s.heap a oe C (some od) ∧ s.heap.get? d = some od ∧ s.heap.Ns1 d mA ∧ ∀ f, RelO (fs.lookup f) (mA f) := by
  obtain ⟨oe, vs, e1, e2, e3⟩ := exc_get I.hok h1
  have hx : ObjOk X.prog X.w H s.heap d (.xd fs) := I.hok d _ h2
  obtain ⟨mA, hns, hr⟩ := hx
  obtain ⟨od, es, ep, ho, r⟩ := id hns
  refine ⟨oe, od, mA, ⟨e1, e2.1, by unfold PySem.W.notCls; rw [e3] <;> rfl, by rw [e2.2]; exact ho⟩, ho, hns, hr⟩
theorem call_isX : CallR X (.builtin "isinstance") (rIsX X.prog X.K) := by
  intro pins s σ H xs us Q I r h
  obtain ⟨a, C, D, d, fs, b, rfl, h1, h2, T, e, q⟩ := h
  cases r with
  | cons rx rr =>
    cases rr with
    | cons rt rr =>
      cases rr
      cases rx
      cases rt
      obtain ⟨oe, od, mA, J, _⟩ := exc_inst I h1 h2
      exact PySem.W.kia_one (PySem.W.kitx_exc T.cls T.ga T.gg T.oex.exC T.ha T.hn T.ht T.ob) I.kIn J e (fun z => nomatch z) fun tk => ⟨.bl b, H, I.kept (t' := tk) fun _ _ z => z, rfl, q⟩
def tXv (P : Program) (K : PySem.W.Frag) (te : TE) : TE := fun σ H Q => te σ H fun x H1 => ∃ (a C d : Addr) (fs : List (Str × V)) (v : V), x = .ref a ∧ H1 a = some (ExcO C d a) ∧ H1 d = some (.xd fs) ∧ ErrK P K C ∧ fs.lookup ("value" : Str) = some v ∧ Q v H1
theorem pe_xv {e : Expr} {te : TE} {pos : Pos} (he : PE X e te) (hb : attributeBase e "value" X.env (eval e X.env) = eval e X.env := by rfl) : PE X (.Attribute e "value" pos) (tXv X.prog X.K te) := by
  refine ⟨fun pins s σ H Q I h => ?_⟩
  refine attr_of hb (thn (he.run pins s σ H _ I h) fun u s1 hh => ?_)
  obtain ⟨x, H1, I1, rx, a, C, d, fs, v, rfl, h1, h2, T, l, q⟩ := hh
  obtain rfl : u = Value.ref a := rx
  obtain ⟨oe, od, mA, J, ho, hns, hr⟩ := exc_inst I1 h1 h2
  obtain ⟨od', ho', hl⟩ := lookIn_ns hns
  rw [ho] at ho'
  cases ho'
  obtain ⟨w, hw, rw'⟩ := RelO.some_of (v := v) (o := mA "value") (by rw [← l]; exact hr "value")
  exact HandSPX.exc_get I1.kIn J T.ga T.gg T.oex.exC (PySem.W.findObj_own T.hd T.hno rfl (by rw [hl, hw])) (handed_of rw') ⟨v, H1, I1.tok _, rw', q⟩
end

/-! ### mirrors -/
def isxT (es : List Str) (m : Str) : T → Option T
  | .exc n _ => if n ∈ es then some (.bl (decide (n = m))) else none
  | _ => none
def xvT (es : List Str) : T → Option T
  | .exc n w => if n ∈ es then some w else none
  | _ => none
def cRaise (n : Str) (E : Ec) : Sc := fun r => (E r).so fun t r1 => .ex n t r1
section
variable {c : SC} {j : JT} {P P' : List Nat} {e : Expr} {es ts : List Str} {E : Ec} {pos p p1 p2 p3 np pos' : Pos} {x y n m : Str}
theorem ej_isx (m : Str) (ha : EJ c P e E) (EK : ErrsK c.prog c.K es ts) (hmem : m ∈ ts := by decide) (hcm : c.mg m = some (.ref (He.ga c.K m))) (hg : c.sc.names.lookup ("isinstance" : Str) = some .globalImplicit := by rfl) (hm : c.mg "isinstance" = none := by rfl) (hg2 : c.sc.names.lookup m = some .globalImplicit := by rfl)
    (hd2 : (m == ("__debug__" : Str)) = false := by decide) (hs : ∀ env, starEach [e, .Name m p2] env = (false, eval e env) :: starEach [.Name m p2] env := by intro _; rfl) :
    EJ c P (.Call (.Name "isinstance" p1) [e, .Name m p2] [] pos) (cUn (isxT es m) E) := by
  obtain ⟨ta, pa, ra⟩ := ha.ex
  refine ⟨tCB (rIsX c.prog c.K) (tCons ta (tCons (tC (.ref (He.ga c.K m))) tNil)), fun X h => ?_, fun r σ O H B Q fr q => ?_⟩
  · have hc := call_isX (X := X)
    rw [h.K, h.prog] at hc
    exact pe_callB hc (by show X.env.scope.names.lookup _ = _; rw [h.sc]; exact hg) (by rw [h.mg]; exact hm) (by rfl) (pa_cons (pa X h) (pa_cons (pe_glob (by show X.env.scope.names.lookup _ = _; rw [h.sc]; exact hg2) (by rw [h.mg]; exact hcm) rfl hd2) pa_nil) (hs _)) (he := hs _)
  · refine ra r σ O H B _ fr ((PK.bind q).imp fun t r1 O1 H1 B1 f1 g1 q1 v rv => ?_)
    obtain ⟨z, ez, q3⟩ := PK.opt q1
    unfold isxT at ez
    cases rv with
    | exc h1 h2 r3 =>
      rename_i a d w k u
      simp only at ez
      by_cases hk : k ∈ es
      · rw [if_pos hk] at ez
        cases ez
        exact ⟨a, _, _, d, _, _, rfl, f1.sub _ _ h1, f1.sub _ _ h2, EK.err k hk, EK.kit k hk m hmem, PK.at q3 f1 _ (.bl _)⟩
      · rw [if_neg hk] at ez; cases ez
    | _ => cases ez
theorem ej_xv (ha : EJ c P e E) (EK : ErrsK c.prog c.K es ts) (hb : ∀ env, attributeBase e "value" env (eval e env) = eval e env := by intro _; rfl) : EJ c P (.Attribute e "value" pos) (cUn (xvT es) E) := by
  obtain ⟨ta, pa, ra⟩ := ha.ex
  refine ⟨tXv c.prog c.K ta, fun X h => ?_, fun r σ O H B Q fr q => ?_⟩
  · have z := pe_xv (pos := pos) (pa X h) (hb _)
    rw [h.K, h.prog] at z
    exact z
  · refine ra r σ O H B _ fr ((PK.bind q).imp fun t r1 O1 H1 B1 f1 g1 q1 v rv => ?_)
    obtain ⟨z, ez, q3⟩ := PK.opt q1
    unfold xvT at ez
    cases rv with
    | exc h1 h2 r3 =>
      rename_i a d w k u
      simp only at ez
      by_cases hk : k ∈ es
      · rw [if_pos hk] at ez
        cases ez
        exact ⟨a, _, d, _, _, rfl, f1.sub _ _ h1, f1.sub _ _ h2, EK.err k hk, rfl, PK.at q3 f1 _ r3⟩
      · rw [if_neg hk] at ez; cases ez
    | _ => cases ez
/-- raise n(e) -/
theorem sj_raise (n : Str) (ha : EJ c P e E) (EK : ErrsK c.prog c.K es ts) (hcm : c.mg n = some (.ref (He.ga c.K n))) (hms : c.mg "super" = none := by rfl) (hmem : n ∈ es := by decide) (hk : Nat.ble 2 c.k = true := by rfl) (hg : c.sc.names.lookup n = some .globalImplicit := by rfl) (hd : (n == ("__debug__" : Str)) = false := by decide)
    (hst : ∀ env, starEach [e] env = (false, eval e env) :: starEach [] env := by intro _; rfl) : SJ c j P P' (.Raise (some (.Call (.Name n p) [e] [] p2)) none pos) (cRaise n E) := by
  obtain ⟨ta, pa, ra⟩ := ha.ex
  refine ⟨fun _ σ H => ta σ H fun v H1 => ∀ d, H1 d = none → c.W (.ref (He.ga c.K n)) (some d) σ (upd H1 d (.xd [("value", v)])), fun X h => ?_, fun r σ O H B D f q => ra r σ O H B _ f ((SK.so q).imp fun u r1 O1 H1 B1 f1 g1 q1 v rv d hd1 => ?_)⟩
  · have T := EK.err n hmem
    rw [← h.K, ← h.prog] at T
    have z := ps_raise (W := c.W) (pos := pos) h.calm h.tk (pmk_err (k := c.k - 2) (p := p) (pos := p2) T (h.room.mono (by have := Nat.le_of_ble_eq_true hk; omega)) (by show X.env.scope.names.lookup _ = _; rw [h.sc]; exact hg) (by rw [h.mg, h.K]; exact hcm) (by rw [h.mg]; exact hms) (pa X h) hd (hst _))
    rw [h.K] at z
    exact z
  · have pu := Pu.new (o := .xd [("value", v)]) f1.sub hd1
    exact (show SK c j P' O1 H1 B1 D (.ex n u r1) from q1) v d σ P O1 _ _ (f1.pu pu) (.of_pu pu) upd_same (rv.mono pu.bb)
end
end Tc

/-! Te: try, read by trees. -/
namespace Tc
open PySem PySem.Spec L2 PyProof.Rows
theorem tr_is {c : SC} {X : Cx} (h : c.Is X) {W : WX} {pn : List (Addr × Obj)} {xe : Value → Shared → Prop} (tk : Takes (X.tr pn xe) W) (po : PassesOwn (model X.prog X.w) X.A X.env xe) : SC.Is { c with W := W } (X.tr pn xe) :=
  ⟨h.prog, h.w, h.K, h.mg, h.base, h.N, h.nd, h.sc, h.calm, h.room, h.grd, tk, po, h.fn, h.lc⟩
section
variable {K : PySem.W.Frag} {G : GI} {P : List Nat} {r : Sl} {σ : L2.St} {O : Addr → Prop} {H B : Hp} {i : Nat}
theorem Frm.unset (f : Frm K G P r σ O H B) (hi : i ∉ P) : Frm K G P (r.set i none) (σ.set i none) O H B := by
  refine ⟨f.sub, f.out, f.liv, fun k t e n => ?_, fun k hk => ?_, fun k m p hk hm e1 e2 => ?_, by rw [List.length_set, List.length_set]; exact f.len, by rw [List.length_set]; exact f.siz, fun g e => ?_, f.tab⟩
  · have hki : k ≠ i := fun z => by
      subst z
      by_cases hl : k < r.length
      · rw [List.getElem?_set_self hl] at e; cases e
      · rw [List.getElem?_eq_none (by simpa using hl)] at e; cases e
    rw [List.getElem?_set_ne (Ne.symm hki)] at e
    obtain ⟨w, e1, e2⟩ := f.var k t e n
    exact ⟨w, by rw [List.getElem?_set_ne (Ne.symm hki)]; exact e1, e2⟩
  · have hki : i ≠ k := fun z => hi (z ▸ hk)
    obtain ⟨p, vs, ts, e1, e2, e3⟩ := f.prv k hk
    exact ⟨p, vs, ts, by rw [List.getElem?_set_ne hki]; exact e1, by rw [List.getElem?_set_ne hki]; exact e2, e3⟩
  · rw [List.getElem?_set_ne fun z : i = k => hi (z ▸ hk)] at e1
    rw [List.getElem?_set_ne fun z : i = m => hi (z ▸ hm)] at e2
    exact f.sep k m p hk hm e1 e2
  · obtain ⟨z, y⟩ := f.inn g e
    exact ⟨z, by rw [List.getElem?_set_ne fun w : i = 0 => hi (w ▸ z)]; exact y⟩
/-- the exception is held in slot j, slot i is emptied -/
def heldT (i j : Nat) (n : Str) (w : T) (r : Sl) : Sl := ((r.set i (some (.exc n w))).set j (some (.exc n w))).set i none
theorem Frm.held (f : Frm K G P r σ O H B) {n : Str} {w : T} {v : V} {a d : Addr} {j : Nat} (ha : H a = none) (hd : B d = some (.xd [("value", v)])) (rv : Rep K B v w) (hi : i ∉ P) (hj : j ∉ P) (hg : G.g = none ∨ 0 ∈ P) :
    Frm K G P (heldT i j n w r) (((σ.set i (some (.ref a))).set j (some (.ref a))).set i none) O (upd H a (ExcO (He.ga K n) d a)) (upd B a (ExcO (He.ga K n) d a)) ∧ Pu H B (upd H a (ExcO (He.ga K n) d a)) (upd B a (ExcO (He.ga K n) d a)) := by
  have pu := Pu.new (o := ExcO (He.ga K n) d a) f.sub ha
  have rx : Rep K (upd B a (ExcO (He.ga K n) d a)) (.ref a) (.exc n w) := .exc upd_same (pu.bb _ _ hd) (rv.mono pu.bb)
  have f1 := f.pu pu
  have f2 := f1.set (i := i) (P' := P) rx hi (fun _ h => h) (fun _ h => .inr h) hg
  have f3 := f2.set (i := j) (P' := P) rx hj (fun _ h => h) (fun _ h => .inr h) hg
  exact ⟨f3.unset hi, pu⟩
end
def cTryE (es : List Str) (i j : Nat) (E : Ec) : Sc := fun r => match E r with
  | .ok _ r1 => .nx r1
  | .ex n w r1 => if n ∈ es then .nx (heldT i j n w r1) else .no
  | .no => .no
def cTryS (es : List Str) (l i j : Nat) (E : Ec) : Sc := fun r => match E r with
  | .ok t r1 => .nx (r1.set l (some t))
  | .ex n w r1 => if n ∈ es then .nx (heldT i j n w r1) else .no
  | .no => .no
section
variable {c : SC} {j : JT} {P P' : List Nat} {e : Expr} {es : List Str} {E : Ec} {pos p1 p2 p3 np pos' pe pl : Pos} {x y n z : Str} {C0 : Value}
theorem lc_get (h : c.lc.isSome = true) {X : Cx} (hX : c.Is X) : X.stack = X.env :: X.outer ∧ X.env.frame = some X.env.locals ∧ X.ex = [] := by
  obtain ⟨p, hp⟩ := Option.isSome_iff_exists.mp h
  exact (hX.lc p hp).2.2
theorem sj_tryE (i k : Nat) (ha : ∀ W, EJ { c with W := W } P e E) (hx : c.mg x = some C0) (hex : ∀ n ∈ es, PySem.W.exmOne c.K (.ref (He.ga c.K n)) C0 = some true) (hl : c.lc.isSome = true := by rfl) (hN : c.N[i]? = some n := by rfl) (hM : c.N[k]? = some y := by rfl)
    (hn : c.sc.names.lookup n = some .local := by rfl) (hy : c.sc.names.lookup y = some .local := by rfl) (hxg : c.sc.names.lookup x = some .globalImplicit := by rfl) (hi : i ∉ P := by decide) (hk : k ∉ P := by decide) (hg : c.G.g = none ∨ 0 ∈ P := by first | exact Or.inl rfl | exact Or.inr (by decide))
    (hxd : (x == ("__debug__" : Str)) = false := by decide) (hd : (n == ("__debug__" : Str)) = false := by decide) (hcd : (n == ("__classdict__" : Str)) = false := by decide)
    (hs : ∀ env, swapsWith e none pe.line env = pure false := by intro _; rfl) (hsw : ∀ env, swapsWith (.Name n p2) (some (.Name y p1)) p3.line env = pure false := by intro _; rfl) :
    SJ c j P P (.Try [.Expr e pe] [.ExceptHandler (some (.Name x np)) (some n) [.Assign [.Name y p1] (.Name n p2) p3] pos'] [] [] pos) (cTryE es i k E) := by
  refine ⟨fun D σ H => tDrop ((ha (wHold c.K C0 i k D)).ex.choose) D σ H, fun X h => ?_, fun r σ O H B D f q => ?_⟩
  · obtain ⟨s1, s2, s3⟩ := lc_get hl h
    have hkn : X.env.kindOf n = some .local := by show X.env.scope.names.lookup n = _; rw [h.sc]; exact hn
    have hky : X.env.kindOf y = some .local := by show X.env.scope.names.lookup y = _; rw [h.sc]; exact hy
    have w := ps_try_hold (X := X) (i := i) (j := k) (pos := pos) (pos' := pos') (np := np) (p1 := p1) (p2 := p2) (p3 := p3) (c := C0) (x := x) (tb := fun W => tDrop ((ha W).ex.choose)) (body := [.Expr e pe]) s1 s2 s3 (by rw [h.N]; exact h.nd) (by rw [h.N]; exact hN) hkn (by rw [h.N]; exact hM) hky
      ⟨by show X.env.scope.names.lookup _ = _; rw [h.sc]; exact hxg, hxd, .inl (by rw [h.mg]; exact hx)⟩ (fun W pn xe tk po => pss_one (ps_expr ((ha W).ex.choose_spec.1 _ (tr_is h tk po)) (hs _))) hsw hd hcd
    rw [h.K] at w
    exact w
  · refine (ha (wHold c.K C0 i k D)).ex.choose_spec.2 r σ O H B _ f ?_
    unfold cTryE at q
    cases z : E r with
    | ok t r1 =>
      rw [z] at q
      exact fun O' H' B' f' g' v _ => q σ O' H' B' f' g'
    | ex m w r1 =>
      rw [z] at q
      by_cases hm : m ∈ es
      · simp only [hm, if_true] at q
        refine fun v d O' H' B' f' g' hd' rv => ⟨hex m hm, _, d, rfl, rfl, fun a ha' => ?_⟩
        obtain ⟨f2, pu⟩ := f'.held (n := m) (i := i) (j := k) ha' hd' rv hi hk hg
        exact q _ O' _ _ f2 (g'.trans (.of_pu pu))
      · simp only [hm, if_false] at q; exact (show False from q).elim
    | no => rw [z] at q; exact (show False from q).elim
theorem sj_tryS (l i k : Nat) (ha : ∀ W, EJ { c with W := W } P e E) (hx : c.mg x = some C0) (hex : ∀ n ∈ es, PySem.W.exmOne c.K (.ref (He.ga c.K n)) C0 = some true) (hl : c.lc.isSome = true := by rfl) (hL : c.N[l]? = some z := by rfl) (hN : c.N[i]? = some n := by rfl) (hM : c.N[k]? = some y := by rfl)
    (hz : c.sc.names.lookup z = some .local := by rfl) (hn : c.sc.names.lookup n = some .local := by rfl) (hy : c.sc.names.lookup y = some .local := by rfl) (hxg : c.sc.names.lookup x = some .globalImplicit := by rfl) (hlP : l ∉ P := by decide) (hi : i ∉ P := by decide) (hk : k ∉ P := by decide) (hg : c.G.g = none ∨ 0 ∈ P := by first | exact Or.inl rfl | exact Or.inr (by decide))
    (hxd : (x == ("__debug__" : Str)) = false := by decide) (hd : (n == ("__debug__" : Str)) = false := by decide) (hcd : (n == ("__classdict__" : Str)) = false := by decide)
    (hs : ∀ env, swapsWith e (some (.Name z pl)) pe.line env = pure false := by intro _; rfl) (hsw : ∀ env, swapsWith (.Name n p2) (some (.Name y p1)) p3.line env = pure false := by intro _; rfl) :
    SJ c j P P (.Try [.Assign [.Name z pl] e pe] [.ExceptHandler (some (.Name x np)) (some n) [.Assign [.Name y p1] (.Name n p2) p3] pos'] [] [] pos) (cTryS es l i k E) := by
  refine ⟨fun D σ H => tAsg ((ha (wHold c.K C0 i k D)).ex.choose) (gName l) D σ H, fun X h => ?_, fun r σ O H B D f q => ?_⟩
  · obtain ⟨s1, s2, s3⟩ := lc_get hl h
    have hkn : X.env.kindOf n = some .local := by show X.env.scope.names.lookup n = _; rw [h.sc]; exact hn
    have hky : X.env.kindOf y = some .local := by show X.env.scope.names.lookup y = _; rw [h.sc]; exact hy
    have hkz : X.env.scope.names.lookup z = some .local := by rw [h.sc]; exact hz
    have w := ps_try_hold (X := X) (i := i) (j := k) (pos := pos) (pos' := pos') (np := np) (p1 := p1) (p2 := p2) (p3 := p3) (c := C0) (x := x) (tb := fun W => tAsg ((ha W).ex.choose) (gName l)) (body := [.Assign [.Name z pl] e pe]) s1 s2 s3 (by rw [h.N]; exact h.nd) (by rw [h.N]; exact hN) hkn (by rw [h.N]; exact hM) hky
      ⟨by show X.env.scope.names.lookup _ = _; rw [h.sc]; exact hxg, hxd, .inl (by rw [h.mg]; exact hx)⟩ (fun W pn xe tk po => pss_one (ps_set (X := X.tr pn xe) (by show X.N.Nodup; rw [h.N]; exact h.nd) (by show X.N[l]? = _; rw [h.N]; exact hL) (.inl hkz) ((ha W).ex.choose_spec.1 _ (tr_is h tk po)) (hs _) (.inr hkz))) hsw hd hcd
    rw [h.K] at w
    exact w
  · refine (ha (wHold c.K C0 i k D)).ex.choose_spec.2 r σ O H B _ f ?_
    unfold cTryS at q
    cases z : E r with
    | ok t r1 =>
      rw [z] at q
      exact fun O' H' B' f' g' v rv => q _ O' H' B' (f'.set (P' := P) rv hlP (fun _ h => h) (fun _ h => .inr h) hg) g'
    | ex m w r1 =>
      rw [z] at q
      by_cases hm : m ∈ es
      · simp only [hm, if_true] at q
        refine fun v d O' H' B' f' g' hd' rv => ⟨hex m hm, _, d, rfl, rfl, fun a ha' => ?_⟩
        obtain ⟨f2, pu⟩ := f'.held (n := m) (i := i) (j := k) ha' hd' rv hi hk hg
        exact q _ O' _ _ f2 (g'.trans (.of_pu pu))
      · simp only [hm, if_false] at q; exact (show False from q).elim
    | no => rw [z] at q; exact (show False from q).elim
end
end Tc

/-! Te: the law's def is called, tables of code objects tracked. -/
namespace Tc
open PySem PySem.Spec L2 PyProof.Rows LamX

/-- the makers of lambdas: code object, table, the lambdas' name -/
def tbOf (ms : MK) : TB := ms.map fun p => (p.2.1, p.2.2)
def TabBs (base : Heap) (mg : Str → Option Value) (ms : MK) : Prop := ∀ p ∈ ms, TabB base mg p.1 p.2.1
theorem TabBs.nil {base : Heap} {mg : Str → Option Value} : TabBs base mg [] := fun _ h => nomatch h
theorem nodup_un {ms : MK} (nd : (ms.map fun p => p.2.1).Nodup) {Pt : Addr} {q : Str} {cd : Addr} (hm : (cd, Pt, q) ∈ ms) : ∀ p ∈ tbOf ms, p.1 = Pt → p.2 = q := by
  induction ms with
  | nil => cases hm
  | cons m ms ih =>
    rw [List.map_cons, List.nodup_cons] at nd
    intro p hp e
    rcases List.mem_cons.mp hm with z | z
    · rcases List.mem_cons.mp hp with y | y
      · rw [y, ← z]
      · obtain ⟨m', hm', rfl⟩ := List.mem_map.mp y
        refine absurd (List.mem_map.mpr ⟨m', hm', ?_⟩) nd.1
        rw [← z]; exact e
    · rcases List.mem_cons.mp hp with y | y
      · refine absurd (List.mem_map.mpr ⟨_, z, ?_⟩) nd.1
        rw [y] at e; exact e.symm
      · exact ih nd.2 z p y e
theorem maker {c : SC} {ms : MK} {cd Pt : Addr} {q q0 : Str} (hm : (cd, Pt, q) ∈ ms) (nd : (ms.map fun p => p.2.1).Nodup) (Z : TabBs c.base c.mg ms) (hl : c.lc = some (q0, .ref cd)) (hT : c.G.T = tbOf ms := by rfl) (hq : q0 ++ "<lambda>" = q := by rfl) : Maker c Pt q :=
  ⟨⟨q0, cd, hl, hq, Z _ hm⟩, by rw [hT]; exact List.mem_map.mpr ⟨_, hm, rfl⟩, by rw [hT]; exact nodup_un nd hm⟩

section
variable {P : Program} {w : World} {K : PySem.W.Frag} {mg mb : Str → Option Value}
/-- nothing but the script and the empty tables may be seen -/
structure LoneT (K : PySem.W.Frag) (P : Program) (w : World) (z : Shared) (a : Addr) (ts : List Addr) (H : Hp) : Prop where
  ok : HOk P w H z.heap
  at_ : ∀ b, H b ≠ none → b = a ∨ b ∈ ts
  fz : H a ≠ none → (∃ o xs, H a = some (.frz o (.lst xs))) ∧ K.lookup a = none
  tb : ∀ b ∈ ts, H b = some (.tbl #[]) ∧ K.lookup b = none ∧ z.heap.get? b = some { cls := .none, data := .fields #[] }
theorem LoneT.ns {z : Shared} {a b : Addr} {ts : List Addr} {us : List Value} {H : Hp} {m : Str → Option Value} (A : Aft K mg mb z a us) (L : LoneT K P w z a ts H) (n : z.heap.Ns b m) : (hidT z.heap H).Ns b m := by
  obtain ⟨o, es, ep, h1, h2, h3⟩ := n
  refine ⟨o, es, ep, hidT_get h1 (Classical.byContradiction fun hb => ?_), h2, h3⟩
  rcases L.at_ b hb with hba | hba
  · rw [hba, A.ob] at h1
    cases h1
    have : (Data.seq us.toArray _ : Data) = .dict es ep := h2
    cases this
  · rw [(L.tb b hba).2.2] at h1
    cases h1
    cases h2
theorem law_goT {k : Nat} {fa a : Addr} {fd : FuncData} {x : Str} {sp : Sp} {z : Shared} {us : List Value} {H : Hp} {ms : MK} (A : Aft K mg mb z a us) (L : LoneT K P w z a (ms.map fun p => p.2.1) H) (hr : Room k callerA) (hb : ∀ (s : Shared) (u : Value), BindsTo s fd ⟨[u], []⟩ [(x, u)])
    (hcd : ∀ p ∈ ms, PySem.W.codeHdIn K p.1 p.2.1 = true)
    (hbm : ∃ (bm : Addr) (ob : Obj), mg "__builtins__" = some (.ref bm) ∧ bm ≠ builtinsNs ∧ z.heap.get? bm = some ob ∧ ob.cls = .type "module" ∧ ob.dict = some builtinsNs ∧ ob.data = .plain)
    (F : ∀ base : Heap, K.In base → base.Ns mainGlobals mg → TabBs base mg ms → FnG P w K mg base k fa fd [x] sp) (hs : sp [.ref a] H (fun v _ => v = .bl true) fun _ _ _ => False) :
    codeAny (model P w) callerA (.call (.ref fa) ⟨[.ref a], []⟩) (fun r z' => r = .ok (.ret (.bool true)) ∧ OldK z.heap z'.heap ∧ z'.os = z.os ∧ AllBare z'.gens) z := by
  have isT : ∀ p ∈ ms, H p.2.1 = some (.tbl #[]) ∧ K.lookup p.2.1 = none ∧ z.heap.get? p.2.1 = some { cls := .none, data := .fields #[] } := fun p hp => L.tb _ (List.mem_map.mpr ⟨p, hp, rfl⟩)
  have kb : K.In (hidT z.heap H) := fun b o e => hidT_get (A.kin b o e) (Classical.byContradiction fun hn => by
    rcases L.at_ b hn with hba | hba
    · rw [hba] at hn e
      rw [(L.fz hn).2] at e; cases e
    · rw [(L.tb b hba).2.1] at e; cases e)
  have gb := L.ns A A.gl
  obtain ⟨mc, c1, c2⟩ := A.nl
  have md : Mod K mg (hidT z.heap H) := ⟨kb, gb, ⟨mb, L.ns A A.bn, A.bs⟩, ⟨mc, L.ns A c1, c2⟩⟩
  have ev : Env0 P w K mg (hidT z.heap H) callerA [] z H := ⟨rfl, md, fun b o e => of_hidT e, Nat.le_of_eq (hidT_size _ _), trivial, (fun b hb => nomatch hb), L.ok, .of_eq A.ge⟩
  have tb : TabBs (hidT z.heap H) mg ms := fun p hp => by
    obtain ⟨_, _, e⟩ := isT p hp
    refine NdefX.tabB_of_K kb (hcd p hp) ?_ fun q => ?_
    · obtain ⟨bm, ob, b1, b2, b3, b4, b5, b6⟩ := hbm
      refine ⟨bm, ob, b1, b2, fun q => ?_, fun q => ?_, hidT_get b3 (Classical.byContradiction fun hn => ?_), b4, b5, b6⟩
      · obtain ⟨o, es, ep, g1, g2, _⟩ := A.gl
        rw [q, g1] at b3; cases b3; rw [g2] at b6; cases b6
      · rw [q, e] at b3; cases b3; cases b6
      · rcases L.at_ bm hn with y | y
        · rw [y, A.ob] at b3; cases b3; cases b6
        · rw [(L.tb bm y).2.2] at b3; cases b3; cases b6
    · obtain ⟨o, es, ep, g1, g2, _⟩ := A.gl
      rw [q, e] at g1; cases g1; cases g2
  refine codeAny_mono ((F _ kb gb tb).run callerA [] z H _ [.ref a] [.ref a] _ _ hr rfl ev (hb z (.ref a)) (.cons rfl .nil) hs) fun r z' q => ?_
  cases r with
  | error e =>
    obtain ⟨_, _, _, _, _, _, _, _, _, _, _, _, no⟩ := q
    exact no.elim
  | ok fl =>
    cases fl with
    | ret u =>
      obtain ⟨v, H', os, bare, un, ok', rv, e⟩ := q
      have e : v = .bl true := e
      subst e
      cases rv
      have grown : ∀ p ∈ ms, ∃ more : Array Value, z'.heap.get? p.2.1 = some { cls := .none, data := .fields more } := fun p hp => by
        obtain ⟨more, y⟩ := un.tbls _ #[] (isT p hp).1
        exact ⟨_, ok' _ _ y⟩
      have key : ∀ b o, b ∉ ms.map (fun p => p.2.1) → z.heap.get? b = some o → z'.heap.get? b = some o := fun b o nb e => by
        by_cases hn : H b = none
        · exact un.keep b o e hn (fun y => nomatch y) (fun y => nomatch y)
        · obtain rfl := (L.at_ b hn).resolve_right nb
          obtain ⟨⟨ob, xs, hz⟩, _⟩ := L.fz hn
          obtain ⟨e1, _⟩ := L.ok b _ hz
          obtain ⟨e2, _⟩ := ok' b _ (un.frzs b ob _ hz)
          rw [← e, e1]
          exact e2
      refine ⟨rfl, ⟨fun b o e => ?_, fun b o e => ?_⟩, os, bare⟩
      · by_cases hb : b ∈ ms.map (fun p => p.2.1)
        · obtain ⟨p, hp, rfl⟩ := List.mem_map.mp hb
          obtain ⟨more, hm⟩ := grown p hp
          rw [(isT p hp).2.2] at e
          cases e
          exact .inr (.inl ⟨((PySem.W.codeHd_of_K A.kin (hcd p hp)).tab (isT p hp).2.2).isCodeTable, rfl, #[], more, rfl, by rw [Array.empty_append]; exact hm⟩)
        · exact .inl (key b o hb e)
      · by_cases hb : b ∈ ms.map (fun p => p.2.1)
        · obtain ⟨p, hp, rfl⟩ := List.mem_map.mp hb
          obtain ⟨more, hm⟩ := grown p hp
          exact ⟨_, hm⟩
        · exact ⟨o, key b o hb e⟩
    | next => exact False.elim q
    | brk => exact False.elim q
    | cont => exact False.elim q
theorem law_runT {k : Nat} {fa a : Addr} {fd : FuncData} {x : Str} {sp : Sp} {z : Shared} {us : List Value} {ns : List Int} {ms : MK} (A : Aft K mg mb z a us) (hi : IntsAre us ns) (hl : ns.length ≤ sizeLine) (hr : Room k callerA) (hb : ∀ (s : Shared) (u : Value), BindsTo s fd ⟨[u], []⟩ [(x, u)])
    (hcd : ∀ p ∈ ms, PySem.W.codeHdIn K p.1 p.2.1 = true) (hT : ∀ p ∈ ms, K.lookup p.2.1 = none ∧ z.heap.get? p.2.1 = some { cls := .none, data := .fields #[] })
    (hbm : ∃ (bm : Addr) (ob : Obj), mg "__builtins__" = some (.ref bm) ∧ bm ≠ builtinsNs ∧ z.heap.get? bm = some ob ∧ ob.cls = .type "module" ∧ ob.dict = some builtinsNs ∧ ob.data = .plain)
    (F : ∀ base : Heap, K.In base → base.Ns mainGlobals mg → TabBs base mg ms → FnG P w K mg base k fa fd [x] sp)
    (hs : ∀ H : Hp, LsAt K H a (ns.map V.int) → (∀ p ∈ ms, H p.2.1 = some (.tbl #[])) → sp [.ref a] H (fun v _ => v = .bl true) fun _ _ _ => False) :
    codeAny (model P w) callerA (.call (.ref fa) ⟨[.ref a], []⟩) (fun r z' => r = .ok (.ret (.bool true)) ∧ OldK z.heap z'.heap ∧ z'.os = z.os ∧ AllBare z'.gens) z := by
  have rv := vals_ints hi
  have hlen : (ns.map V.int).length ≤ sizeLine := by rw [List.length_map]; exact hl
  let ts := ms.map fun p => p.2.1
  have hts : ∀ b ∈ ts, K.lookup b = none ∧ z.heap.get? b = some { cls := .none, data := .fields #[] } := fun b hb => by
    obtain ⟨p, hp, rfl⟩ := List.mem_map.mp hb
    exact hT p hp
  have aT : a ∉ ts := fun y => by
    have := (hts a y).2
    rw [A.ob] at this
    cases this
  cases hk : K.lookup a with
  | some o =>
    have e := A.kin a o hk
    rw [A.ob] at e
    cases e
    let H : Hp := fun b => if b ∈ ts then some (.tbl #[]) else none
    have hH : ∀ b ∈ ts, H b = some (.tbl #[]) := fun b hb => if_pos hb
    have only : ∀ b, H b ≠ none → b ∈ ts := fun b y => Classical.byContradiction fun hb => y (if_neg hb)
    have L : LoneT K P w z a ts H := by
      refine ⟨fun b u y => ?_, fun b y => .inr (only b y), fun y => absurd (only a y) aT, fun b hb => ⟨hH b hb, hts b hb⟩⟩
      have hb := only b (by rw [y]; exact fun q => nomatch q)
      rw [hH b hb] at y
      cases y
      exact (hts b hb).2
    exact law_goT A L hr hb hcd hbm F (hs _ (.inr ⟨us, _, hk, by rw [← rv.length]; exact hlen, rv⟩) fun p hp => hH _ (List.mem_map.mpr ⟨p, hp, rfl⟩))
  | none =>
    let H : Hp := fun b => if b = a then some (.frz { cls := .type "list", data := .seq us.toArray } (.lst (ns.map V.int))) else if b ∈ ts then some (.tbl #[]) else none
    have ha : H a = some (.frz { cls := .type "list", data := .seq us.toArray } (.lst (ns.map V.int))) := if_pos rfl
    have hH : ∀ b ∈ ts, H b = some (.tbl #[]) := fun b hb => (if_neg fun y : b = a => aT (by rw [← y]; exact hb)).trans (if_pos hb)
    have only : ∀ b, H b ≠ none → b = a ∨ b ∈ ts := fun b y => Classical.byContradiction fun hb => y ((if_neg fun z => hb (.inl z)).trans (if_neg fun z => hb (.inr z)))
    have L : LoneT K P w z a ts H := by
      refine ⟨fun b u y => ?_, only, fun _ => ⟨⟨_, _, ha⟩, hk⟩, fun b hb => ⟨hH b hb, hts b hb⟩⟩
      rcases only b (by rw [y]; exact fun q => nomatch q) with hba | hb
      · subst hba
        rw [ha] at y
        cases y
        exact ⟨A.ob, hlen, us, _, rv, A.ob⟩
      · rw [hH b hb] at y
        cases y
        exact (hts b hb).2
    exact law_goT A L hr hb hcd hbm F (hs H (.inl (.inr ⟨_, ha⟩)) fun p hp => hH _ (List.mem_map.mpr ⟨p, hp, rfl⟩))
end
open Classical in
theorem tabV_start {H : Hp} {ms : MK} {O : Addr → Prop} (h : ∀ p ∈ ms, H p.2.1 = some (.tbl #[])) {B : Hp} (hB : ∀ b, B b = if (∃ ps, H b = some (.tbl ps)) then none else H b) (hO : ∀ a, ¬ O a) : TabF (tbOf ms) O H B := fun p hp => by
  obtain ⟨m, hm, rfl⟩ := List.mem_map.mp hp
  refine ⟨⟨#[], h m hm, True.intro, fun pos cv hc => ?_⟩, ?_, hO _⟩
  · have z : codeAmong pos [] = some cv := hc
    simp [codeAmong] at z
  · rw [hB]; exact if_pos ⟨_, h m hm⟩
/-- the goal that the head leaves -/
theorem law_endsT {l : PySem.W.OpenLaw} {n k : Nat} {q : Program} {loose : List Str} {XP : (Str → Option Value) → Heap → Prop} {YP : World → Heap → Prop} {d : DefRec} {x : Str} (h1 : l.most = some n) (h2 : n ≤ sizeLine) (h3 : d.params.defaults = []) (hr : Room k callerA)
    (F : ∀ (w : World) (mg : Str → Option Value) (fa : Addr) (h : Heap), YP w h → h.Ns mainGlobals mg → mg d.name = some (.ref fa) → ∃ (K : PySem.W.Frag) (fd : FuncData) (m : Fc) (ms : MK), K.In h ∧ (∀ (s : Shared) (u : Value), BindsTo s fd ⟨[u], []⟩ [(x, u)]) ∧
      (∀ p ∈ ms, PySem.W.codeHdIn K p.1 p.2.1 = true) ∧ (∀ p ∈ ms, K.lookup p.2.1 = none ∧ h.get? p.2.1 = some { cls := .none, data := .fields #[] }) ∧
      (∀ ns : List Int, ns.length ≤ n → m [.lst (ns.map T.int)] = .ok (.bl true) []) ∧ ∀ base : Heap, K.In base → base.Ns mainGlobals mg → TabBs base mg ms → FnG l.prog w K mg base k fa fd [x] (spX (tbOf ms) K false false 1 m)) :
    PySem.W.WalkO q loose XP YP l.row.toRowW d [] (fun f vs => PySem.call f vs) := by
  classical
  refine Att.attach_call h1 h3 fun w s0 z mg mb fa o pm cd doc a us ns G Y ho hd hcd hmg hobj hints hlen hg => ?_
  obtain ⟨K, fd, m, ms, kx, hb, hc, hT, hm, hF⟩ := F w mg fa _ Y G.T.g hmg
  refine law_runT (sp := spX (tbOf ms) K false false 1 m) ⟨kx, G.T.g, G.T.b, G.T.builtins, G.T.nolimit, hg, hobj⟩ hints (Nat.le_trans hlen h2) hr hb hc hT G.T.bmain hF fun H s t => ?_
  let B : Hp := fun b => if (∃ ps, H b = some (.tbl ps)) then none else H b
  have sB : Same B H := fun b o e => by
    have e : (if (∃ ps, H b = some (.tbl ps)) then none else H b) = some o := e
    by_cases hb : ∃ ps, H b = some (.tbl ps)
    · rw [if_pos hb] at e; cases e
    · rw [if_neg hb] at e; exact e
  have lB : LsAt K B a (ns.map V.int) := by
    rcases s with (s | ⟨o, s⟩) | s
    · exact .inl (.inl ((if_neg fun ⟨ps, y⟩ => by rw [s] at y; cases y).trans s))
    · exact .inl (.inr ⟨o, (if_neg fun ⟨ps, y⟩ => by rw [s] at y; cases y).trans s⟩)
    · exact .inr s
  refine ⟨rfl, none, B, [.lst (ns.map T.int)], sB, tabV_start t (fun _ => rfl) (fun a z => nomatch z), ⟨rfl, .cons (.lst lB (Reps.ints ns)) .nil⟩, ?_⟩
  rw [hm ns hlen]
  intro v O' H' B' _ _ _ _ _ ov
  exact ov.bl_inv
theorem FunD.codeAt {K : PySem.W.Frag} {x qual : Str} {params : Arguments} {body : List Stmt} {scope : Scope} {dvs : List V} {kws : List (Str × V)} {p : He.Defn} {fd : FuncData} (F : FunD K x qual params body scope dvs kws (He.fAd K p) fd) : fd.code = .ref (He.codeOf K p) := by
  obtain ⟨oc, od, dV, kV, doc, pm, an, cdv, ct, osl, rfl, lk, hcd, _, _⟩ := F.ex
  obtain ⟨c, rfl⟩ := He.codeIn_ref hcd
  rw [He.codeOf_eq lk rfl]
end Tc

/-! Te: what is looked up at the head for own errors; lambdas by number; reading backwards. -/
namespace Tc
open PySem PySem.Spec L2 PyProof.Rows
theorem strN_ok {x : Str} {e : Expr} (h : strN x e = true) : ∃ p, e = .Name x p := by
  unfold strN at h
  split at h
  · exact ⟨_, by rw [of_decide_eq_true h]⟩
  · cases h
theorem iniB_ok {P : Program} {K : PySem.W.Frag} {C fI : Addr} (h : iniB P K C fI = true) : IniK P K C fI := by
  unfold iniB at h
  split at h
  · rename_i oc od name q params body scope g cl dV kV doc pm an cd ct bn osl lk
    simp only [Bool.and_eq_true, decide_eq_true_eq] at h
    obtain ⟨⟨⟨⟨⟨⟨⟨⟨⟨rfl, h2⟩, h3⟩, rfl⟩, rfl⟩, h6⟩, h7⟩, h8⟩, h9⟩, rfl⟩ := h
    unfold iniArgsB at h2
    split at h2
    · rename_i a1 b1 a2 b2 dd
      simp only [Bool.and_eq_true, decide_eq_true_eq] at h2
      obtain ⟨rfl, rfl⟩ := h2
      unfold iniBodyB at h3
      split at h3
      · simp only [Bool.and_eq_true, decide_eq_true_eq] at h3
        obtain ⟨⟨⟨⟨⟨⟨k1, rfl⟩, k3⟩, k4⟩, rfl⟩, k6⟩, k7⟩ := h3
        obtain ⟨_, rfl⟩ := strN_ok k1
        obtain ⟨_, rfl⟩ := strN_ok k3
        obtain ⟨_, rfl⟩ := strN_ok k4
        obtain ⟨_, rfl⟩ := strN_ok k6
        unfold cellIs at h6
        split at h6
        · rename_i x cc
          simp only [Bool.and_eq_true, decide_eq_true_eq] at h6
          obtain ⟨rfl, h6⟩ := h6
          split at h6
          · rename_i lcc
            have e := of_decide_eq_true h6
            subst e
            unfold tupNone at h7
            split at h7
            · split at h7
              · rename_i its _ _ lT
                split at h7
                · rename_i hits
                  have eits : its = #[Value.none] := by
                    obtain ⟨l⟩ := its
                    simp only at hits
                    rw [hits]
                  subst eits
                  unfold codeFile at h8
                  split at h8
                  · split at h8
                    · rename_i lc
                      split at h8
                      · rename_i hvs
                        exact ⟨_, _, _, _, _, _, _, _, _, _, _, _, _, _, _, _, _, _, _, _, _, _, _, _, _, _, _, _, _, _, _, _, _, _, _, _, lk, h9, ⟨lT, rfl⟩, lc, by rw [← hvs]; simp, h8, lcc, k7⟩
                      · cases h8
                    · cases h8
                  · cases h8
                · cases h7
              · cases h7
            · cases h7
          · cases h6
        · cases h6
      · cases h3
    · cases h2
  · cases h
theorem oexB_ok {K : PySem.W.Frag} {C : Addr} (h : oexB K C = true) : ∃ nm q N bs bm sn sub ab col dd k0 k1 k2 k3 k5, K.lookup C = some (excClassObj nm q C N bs bm true sn sub ab col dd k0 k1 k2 k3 k5 "ValueError.__new__") ∧ PySem.HandSPX.refsVE bm = true := by
  unfold oexB at h
  split at h
  · rename_i dd cd sl ho
    split at h
    · rename_i C' bm k0 k1 k2 k3 n k5 hm hs
      simp only [Bool.and_eq_true, beq_iff_eq, Bool.not_eq_true'] at h
      obtain ⟨⟨⟨⟨rfl, rfl⟩, hdel⟩, hdc⟩, ht⟩ := h
      obtain ⟨nm, bs, mro, ns, qn, hd, sn, sub, ab, col, del⟩ := cd
      dsimp only at hm hdel hdc
      subst hm hdel hdc
      have hsl : sl = #[k0, k1, k2, k3, some (.builtin "ValueError.__new__"), k5] := by
        obtain ⟨l⟩ := sl
        simp only at hs
        rw [hs]
      subst hsl
      exact ⟨nm, qn, ns, bs, bm, sn, sub, ab, col, dd, k0, k1, k2, k3, k5, ho, ht⟩
    · cases h
  · cases h
theorem errB_ok {P : Program} {K : PySem.W.Frag} {C : Addr} (h : errB P K C = true) : ErrK P K C := by
  unfold errB at h
  simp only [Bool.and_eq_true, decide_eq_true_eq, Bool.not_eq_true'] at h
  obtain ⟨⟨⟨⟨⟨⟨⟨⟨⟨⟨⟨⟨⟨⟨⟨⟨⟨⟨⟨h1, h2⟩, h3⟩, h4⟩, h5⟩, h6⟩, h7⟩, h8⟩, h9⟩, h10⟩, h11⟩, h12⟩, h13⟩, h14⟩, h15⟩, h16⟩, h17⟩, h18⟩, h19⟩, h20⟩ := h
  have hi : ∃ fI, IniK P K C fI ∧ PySem.W.findIn K (.ref C) "__init__" = some (some (.ref fI)) ∧ PySem.W.typeIn K (.ref fI) = some (.type "function") := by
    unfold iniOk at h2
    split at h2
    · rename_i fI e
      obtain ⟨a, b⟩ := Bool.and_eq_true_iff.mp h2
      exact ⟨fI, iniB_ok a, e, of_decide_eq_true b⟩
    · cases h2
  exact ⟨⟨oexB_ok h1, h7, h8, h9, h6⟩, hi, h3, h10, h11, h12, h13, h14, h4, h15, h16, h5, h17, h18, h19, h20⟩
theorem errsB_ok {P : Program} {K : PySem.W.Frag} {es ts : List Str} (h : errsB P K es ts = true) : ErrsK P K es ts := by
  obtain ⟨h1, h2⟩ := Bool.and_eq_true_iff.mp h
  exact ⟨fun n hn => errB_ok (List.all_eq_true.mp h1 n hn), fun n hn m hm => of_decide_eq_true (List.all_eq_true.mp (List.all_eq_true.mp h2 n hn) m hm)⟩
theorem excsB_ok {K : PySem.W.Frag} {es : List Str} {x : Str} (h : excsB K es x = true) : ∀ n ∈ es, PySem.W.exmOne K (.ref (He.ga K n)) (.ref (He.ga K x)) = some true := fun n hn => of_decide_eq_true (List.all_eq_true.mp h n hn)

/-! ### lambdas by number -/
section
variable {Tb : TB} {P : Program} {w : World} {K : PySem.W.Frag} {mg : Str → Option Value} {base : Heap} {k : Nat}
open Classical in
noncomputable def lamFind : List (LamD × (List T → Res)) → LamD → List T → Res
  | [], _ => fun _ => .no
  | l :: ls, D => if D = l.1 then l.2 else lamFind ls D
def LamAll (Tb : TB) (P : Program) (w : World) (K : PySem.W.Frag) (mg : Str → Option Value) (base : Heap) (k : Nat) (ls : List (LamD × (List T → Res))) : Prop := ∀ l ∈ ls, LamOk Tb P w K mg base k l.1 l.2
theorem LamAll.nil : LamAll Tb P w K mg base k [] := fun _ h => nomatch h
theorem LamAll.cons {D : LamD} {m : List T → Res} {ls : List (LamD × (List T → Res))} (h : LamOk Tb P w K mg base k D m) (t : LamAll Tb P w K mg base k ls) : LamAll Tb P w K mg base k ((D, m) :: ls) := fun l hl => by
  rcases List.mem_cons.mp hl with e | e
  · rw [e]; exact h
  · exact t l e
theorem lamFind_ok {ls : List (LamD × (List T → Res))} (h : LamAll Tb P w K mg base k ls) (D : LamD) (xs : List T) (hne : lamFind ls D xs ≠ .no) : LamOk Tb P w K mg base k D (lamFind ls D) := by
  induction ls with
  | nil => exact absurd rfl hne
  | cons l ls ih =>
    unfold lamFind at hne ⊢
    by_cases e : D = l.1
    · rw [if_pos e]
      rw [e]; exact h l (List.mem_cons_self ..)
    · rw [if_neg e] at hne ⊢
      exact ih (fun l hl => h l (List.mem_cons_of_mem _ hl)) hne
theorem lamFind_here {D : LamD} {m : List T → Res} {ls : List (LamD × (List T → Res))} : lamFind ((D, m) :: ls) D = m := if_pos rfl
theorem lamFind_next {D : LamD} {l : LamD × (List T → Res)} {ls : List (LamD × (List T → Res))} (h : D.id ≠ l.1.id) : lamFind (l :: ls) D = lamFind ls D := if_neg fun e => h (by rw [e])
end

/-! ### read backwards -/
section
variable {r : Sl} {ξ : Xp} {nx bk ct : Sl → Prop} {rt : T → Sl → Prop} {ex : Xp} {ψ : T → Sl → Prop} {i k : Nat}
theorem WS_raise {n : Str} {E : Ec} (h : WE (E r) (fun t r1 => ex n t r1) ex) : WS (cRaise n E r) nx rt bk ct ex := WS_so (h.imp fun _ _ q => ⟨q⟩)
theorem WS_tryE {es : List Str} {E : Ec} (h : WE (E r) (fun _ r1 => nx r1) (fun n w r1 => n ∈ es ∧ nx (heldT i k n w r1))) : WS (cTryE es i k E r) nx rt bk ct ex := by
  unfold cTryE
  cases z : E r with
  | ok t r1 => rw [z] at h; exact ⟨h.go⟩
  | ex n w r1 => rw [z] at h; obtain ⟨h1, h2⟩ := h.go; simp only [h1, if_true]; exact ⟨h2⟩
  | no => rw [z] at h; exact h.go.elim
theorem WS_tryS {es : List Str} {l : Nat} {E : Ec} (h : WE (E r) (fun t r1 => nx (r1.set l (some t))) (fun n w r1 => n ∈ es ∧ nx (heldT i k n w r1))) : WS (cTryS es l i k E r) nx rt bk ct ex := by
  unfold cTryS
  cases z : E r with
  | ok t r1 => rw [z] at h; exact ⟨h.go⟩
  | ex n w r1 => rw [z] at h; obtain ⟨h1, h2⟩ := h.go; simp only [h1, if_true]; exact ⟨h2⟩
  | no => rw [z] at h; exact h.go.elim
theorem WE_act {mA : LamD → List T → Res} {D : LamD} {xs : List T} (e : r[i]? = some (some (.clo D xs))) (hp : plTs xs = true) (h : WR (mA D xs) (fun t _ => ψ t r) (fun n w => ξ n w r)) : WE (cAct mA i r) ψ ξ := by
  unfold cAct
  simp only [e, hp, if_true]
  cases z : mA D xs with
  | ok t g => rw [z] at h; exact ⟨h.go⟩
  | ex n w => rw [z] at h; exact ⟨h.go⟩
  | no => rw [z] at h; exact h.go.elim
theorem WE_callL {m : Fc} {D : LamD} {is : List Nat} {A : Ac} (h : WE (A r) (fun ts r1 => ∃ xs, capT is r1 = some xs ∧ WR (m (.clo D xs :: ts)) (fun t _ => plT t = true ∧ ψ t r1) noR) ξ) : WE (cCallL m D is A r) ψ ξ :=
  WE_bind (h.imp fun ts r1 ⟨xs, e, q⟩ => by
    simp only [e]
    cases z : m (.clo D xs :: ts) with
    | ok t g => rw [z] at q; obtain ⟨q1, q2⟩ := q.go; refine ⟨?_⟩; simp only [cResL, q1, if_true]; exact q2
    | ex n w => rw [z] at q; exact q.go.elim
    | no => rw [z] at q; exact q.go.elim)
theorem WE_callLs {m : Fc} {ls : List (LamD × List Nat)} {A : Ac} (h : WE (A r) (fun ts r1 => ∃ us, lamsT ls r1 = some us ∧ WR (m (.lst us :: ts)) (fun t _ => plT t = true ∧ ψ t r1) noR) ξ) : WE (cCallLs m ls A r) ψ ξ :=
  WE_bind (h.imp fun ts r1 ⟨xs, e, q⟩ => by
    simp only [e]
    cases z : m (.lst xs :: ts) with
    | ok t g => rw [z] at q; obtain ⟨q1, q2⟩ := q.go; refine ⟨?_⟩; simp only [cResL, q1, if_true]; exact q2
    | ex n w => rw [z] at q; exact q.go.elim
    | no => rw [z] at q; exact q.go.elim)
theorem cRaise_nn {n : Str} {E : Ec} : NN (cRaise n E) := fun r r' h => by
  unfold cRaise at h
  cases z : E r with
  | ok t r1 => rw [z] at h; cases h
  | ex c w r1 => rw [z] at h; cases h
  | no => rw [z] at h; cases h
end
end Tc

/-! Te: nodes of the text by their path; what a text says of its lambdas; repr of {}. -/
namespace Tc
open PySem PySem.Spec L2 PyProof.Rows
inductive Nd where
  | s (x : Stmt)
  | e (x : Expr)
  | z
def kids : Nd → List Nd
  | .s (.FunctionDef _ _ b _ _ _ _ _ _ _) => b.map .s
  | .s (.If t b o _) => .e t :: (b.map .s ++ o.map .s)
  | .s (.For t i b _ _) => .e t :: .e i :: b.map .s
  | .s (.While t b _ _) => .e t :: b.map .s
  | .s (.Return (some v) _) => [.e v]
  | .s (.Assign _ v _) => [.e v]
  | .s (.Expr v _) => [.e v]
  | .e (.Call f as ks _) => .e f :: (as.map .e ++ ks.map fun k => .e k.value)
  | .e (.List es _) => es.map .e
  | .e (.Tuple es _ _) => es.map .e
  | .e (.UnaryOp _ v _) => [.e v]
  | .e (.BoolOp _ vs _) => vs.map .e
  | .e (.BinOp a _ b _) => [.e a, .e b]
  | .e (.Compare a _ bs _) => .e a :: bs.map .e
  | .e (.IfExp t a b _) => [.e t, .e a, .e b]
  | .e (.Subscript a b _) => [.e a, .e b]
  | _ => []
def ndAt : Nd → List Nat → Nd
  | n, [] => n
  | n, i :: is => ndAt ((kids n).getD i .z) is
def lamPa : Nd → Arguments
  | .e (.Lambda a _ _ _) => a
  | _ => ⟨[], [], none, [], [], none, []⟩
def lamBo : Nd → Expr
  | .e (.Lambda _ b _ _) => b
  | _ => .Name "" ⟨0, 0, 0, 0⟩
def lamSc : Nd → Scope
  | .e (.Lambda _ _ s _) => s
  | _ => ⟨.function, [], false, false, []⟩
/-- what the text says of a lambda within its maker -/
structure LamF0 (sc : Scope) (N : List Str) (D : LamD) (is : List Nat) : Prop where
  df : ∀ env, defaultsOf D.params env = ([], [])
  fr : D.scope.names.all (fun y => y.2 != .free || decide (sc.names.lookup y.1 = some .cell)) = true
  cp : D.caps.all (fun y => decide ((y, NameKind.free) ∈ D.scope.names) && decide (sc.names.lookup y = some .cell)) = true
  fc : D.scope.names.all (fun y => y.2 != .free || decide (y.1 ∈ D.caps)) = true
  ix : is.map (N[·]?) = D.caps.map some
theorem LamF0.at {c : SC} {P : List Nat} {sc : Scope} {N : List Str} {D : LamD} {is : List Nat} (h : LamF0 sc N D is) (np : ∀ i ∈ is, i ∉ P) (hs : c.sc = sc := by rfl) (hN : c.N = N := by rfl) (st : ∀ y, c.st y = true := by intro _; rfl) : LamF c P D is := by
  subst hs hN
  refine ⟨h.df, h.fr, ?_, h.fc, h.ix, np⟩
  refine List.all_eq_true.mpr fun y hy => ?_
  have := List.all_eq_true.mp h.cp y hy
  rw [st y, Bool.and_true]
  exact this
theorem lm_nil {Q : LamD × List Nat → Prop} : ∀ x ∈ ([] : List (LamD × List Nat)), Q x := fun _ h => nomatch h
theorem lm_cons {Q : LamD × List Nat → Prop} {l : LamD × List Nat} {ls : List (LamD × List Nat)} (h : Q l) (t : ∀ x ∈ ls, Q x) : ∀ x ∈ l :: ls, Q x := fun x hx => by
  rcases List.mem_cons.mp hx with e | e
  · rw [e]; exact h
  · exact t x e

theorem fa_nil {α : Type} {Q : α → Prop} : ∀ x ∈ ([] : List α), Q x := fun _ h => nomatch h
theorem fa_cons {α : Type} {Q : α → Prop} {a : α} {l : List α} (h : Q a) (t : ∀ x ∈ l, Q x) : ∀ x ∈ a :: l, Q x := fun x hx => by
  rcases List.mem_cons.mp hx with e | e
  · rw [e]; exact h
  · exact t x e

/-! ### repr({}) -/
def reprE : List T → Option T
  | [.emp] => some (.str "{}")
  | ts => reprT ts
def rReprE (K : PySem.W.Frag) : List V → Hp → VK → Prop := fun xs H Q => (∃ a, xs = [.ref a] ∧ H a = some (.dK []) ∧ Q (.str "{}") H) ∨ rRepr K xs H Q
section
variable {c : SC}
theorem cl_reprE : ∀ X, c.Is X → CallR X (.builtin "repr") (rReprE c.K) := by
  intro X hX pins s σ H xs us Q I r h
  rcases h with ⟨a, rfl, ha, q⟩ | h
  · obtain ⟨u, rfl, ru⟩ := vals1 r
    cases ru
    have hu := hX.room.units
    obtain ⟨_, hne, vs, kv, hd⟩ := I.hok a _ ha
    cases kv
    obtain ⟨o, es, ep, e1, ex, e2, kof, prs, nd⟩ := hd
    have hes : es.toList = [] := by
      cases z : es.toList with
      | nil => rfl
      | cons x xs => rw [z] at prs; exact absurd prs (by intro y; cases y)
    have r1 : Reads s.heap (.ref a) (.dict []) (a :: [] ++ []) := .dict e1 ex.1 e2 (by rw [hes]; exact .nil) (by rw [hes]; exact .nil)
    refine repr_of_reads' r1 (by decide) (fun _ z => ?_) hX.grd (by show X.A.units + _ < _; have : (PyData.dict []).depth ≤ 5 := by decide
                                                                    omega) (fun _ _ e => e) (fun h' u tk hk => ⟨.str "{}", H, I.kept hk, ⟨u, rfl⟩, q⟩) (by rw [sizeLine_eq]; decide)
    simp at z
    rw [← z] at hne
    simp at hne
  · exact cl_repr X hX pins s σ H xs us Q I r h
theorem sd_reprE {K : PySem.W.Frag} : SdA K (rReprE K) reprE := by
  intro H B xs ts z Q sB rx e q
  unfold reprE at e
  split at e
  · cases e
    obtain ⟨x, rfl, r⟩ := rx.one_inv
    cases r with
    | emp h => exact .inl ⟨_, rfl, sB _ _ h, q _ H B (.refl sB) (.str _)⟩
  · exact .inr (sd_repr H B xs _ z Q sB rx e q)
end

/-! ### {} == a text -/
section
open PySem.SeqAt AutoSeq1 MeetsSeq
theorem dict_declines_str (l : Addr) (es : Array DictEntry) (n : Nat) (dd : Option Addr) (sl : Array (Option Value)) (b : Str) (u : Tok) :
    Meets (Builtin.«dict.__eq__» ⟨[.ref l, .str b u], []⟩) (fun _ R s => s.heap.get? l = some { cls := .type "dict", dict := dd, data := .dict es n, slots := sl } ∧ R (.ok (.ret .notImplemented)) s) :=
  .of_wp fun prog w A R s h => by
    obtain ⟨hl, h⟩ := h
    show wpAny _ _ (Builtin.Dict.dictSlotArgs "__eq__" ⟨[.ref l, .str b u], []⟩ >>= _) _ _ s
    refine wpAny_bind ?_
    unfold Builtin.Dict.dictSlotArgs
    refine wpAny_bind (wpAny_notOrdered_dict ⟨_, hl, rfl⟩ ?_)
    show wpAny _ _ (pure (Value.ref l, Value.str b u)) _ _ s
    refine wpAny_pure ?_
    refine wpAny_bind (wpAny_isInstance (T := "str") (typeIs_str s b u) PySem.F.sub_str_dict ?_)
    simp only [Bool.not_false, if_true]
    repeat (first | exact ⟨_, rfl, h⟩ | refine wpAny_pure ?_ | refine wpAny_bind ?_ | refine wpAny_rule ?_)
theorem str_declines_dict (b : Str) (u : Tok) (l : Addr) (es : Array DictEntry) (n : Nat) (dd : Option Addr) (sl : Array (Option Value)) :
    Meets (Builtin.«str.__eq__» ⟨[.str b u, .ref l], []⟩) (fun _ R s => s.heap.get? l = some { cls := .type "dict", dict := dd, data := .dict es n, slots := sl } ∧ R (.ok (.ret .notImplemented)) s) :=
  .of_wp fun prog w A R s h => by obtain ⟨hp, g, d, tk, os⟩ := s; obtain ⟨hl, h⟩ := h; wp_walk using wpAny_loadPart' hl, wpAny_load hl; exact ⟨_, rfl, h⟩
theorem rc_dict_str {A : Around} {s : Shared} {l : Addr} {o : Obj} {es : Array DictEntry} {n : Nat} (b : Str) (u : Tok) (ho : s.heap.get? l = some o) (hc : o.cls = .type "dict") (hd : o.data = .dict es n) (hu : A.units < cLine) : RcAt A s (.ref l) (.str b u) false := fun prog w E Q h => by
  obtain ⟨cls, dd, data, sl⟩ := o
  simp only at hc hd
  subst hc hd
  exact rc_eq_decline_or (k := false) ⟨_, ho, rfl⟩ (typeIs_str s b u) (by decide) F.sub_str_dict F.slot_dict_eq F.slot_str_eq_refl
    (fun _ hq => call_meets F.slot_dict_eq ⟨_, ho, rfl⟩ F.entry_dict_eq (F.args_dict_eq_2 _ _) (dict_declines_str l es n dd sl b u) ⟨ho, hq⟩)
    (fun _ hq => call_meets F.slot_str_eq_refl (typeIs_str s b u) F.entry_str_eq (F.args_str_eq_2 _ _) (str_declines_dict b u l es n dd sl) ⟨ho, hq⟩)
    (fun _ hq => wpAny_of_eq (rfl : isSame (.ref l) (.str b u) = pure false) hq) (.inr hu) h
end

def eqE : T → T → Option T
  | .emp, .str _ => some (.bl false)
  | t, u => eqT t u
def rEqE (K : PySem.W.Frag) : R2 := fun x y H Q => (∃ a z, x = .ref a ∧ y = .str z ∧ H a = some (.dK []) ∧ Q (.bl false) H) ∨ rEqD K x y H Q
theorem op_eqE {c : SC} : ∀ X, c.Is X → OpR X (compareOp .Eq) (rEqE c.K) := fun X hX => by
  intro pins s σ H x y v u Q I rx ry h
  rcases h with ⟨a, z, rfl, rfl, ha, q⟩ | h
  · cases rx
    obtain ⟨t, rfl⟩ := ry
    obtain ⟨_, hne, vs, kv, o, es, ep, e1, ex, e2, _⟩ := I.hok a _ ha
    have hu := hX.room.units
    exact rc_dict_str z t e1 ex.1 e2 (by omega) _ _ _ _ ⟨.bl false, H, I, rfl, q⟩
  · exact op_eqK X hX pins s σ H x y v u Q I rx ry h
theorem sd_eqE {K : PySem.W.Frag} : Sd2 K (rEqE K) eqE := by
  intro H B x y t u z Q sB rx ry e q
  unfold eqE at e
  split at e
  · cases e
    cases rx with
    | emp h =>
      cases ry
      exact .inl ⟨_, _, rfl, rfl, sB _ _ h, q _ H B (.refl sB) (.bl _)⟩
  · exact .inr (sd_eq H B x y _ _ z Q sB rx ry e q)
end Tc

/-! Te: what is looked at behind the top: names in n steps, the interpreter's statics, tables left out. -/
namespace Tc
open PySem PySem.Spec L2 PyProof.Rows
end Tc

/-! Te: what is refused, read backwards; texts of numbers. -/
namespace Tc
open PySem PySem.Spec L2
local macro_rules | `(tactic| walk_at "ev") => `(tactic| (repeat' (first | with_reducible (first | refine WS_seq ?_ | refine WS_set ?_ | refine WS_ret ?_ | refine WS_if ?_ | refine WS_drop ?_ | refine WS_nx ?_ | refine WS_raise ?_ | refine WE_bin ?_ | refine WE_cons ?_ | refine WE_nil ?_ | refine WE_k ?_ | refine WE_app ?_ | refine WE_un ?_ | refine WE_B ?_ | refine WE_notC ?_ | refine WE_call ?_ | refine WE_callK ?_ | refine WE_callGT ?_ | refine WE_lst ?_ | refine WE_tup ?_ | refine WE_chain ?_ | refine WE_chain3 ?_ | refine WE_andV ?_ | refine WE_orV ?_ | refine WE_notV ?_ | refine WE_andC ?_ | refine WE_orC ?_ | refine WE_if ?_ | refine WS_par2 ?_ | refine WS_par3 ?_ | refine WE_rg1 ?_ | refine WE_rg2 ?_ | refine WE_items ?_ | refine WE_enum ?_ | refine WE_zip ?_ | refine WE_revd ?_ | refine WE_callG ?_ | refine WS_put ?_ | refine WS_app ?_ | refine WE_pix ?_ | refine WE_sl ?_ | refine WE_p0 ?_ | refine WE_p1 ?_ | refine WE_true ?_ | refine WE_bor ?_ | refine WE_borC ?_ | refine WE_mt ?_ | refine WS_asg ?_) | ((with_reducible apply WE_var); (case h => exact rfl)) | ((with_reducible refine And.intro ?_ ?_); (with_reducible first | exact ff1 | exact ff2 | exact ff3 | exact ff4 | exact ff5 | fail); (intro _)) | ((with_reducible refine And.intro ?_ ?_); rotate_left; (with_reducible first | exact tt1 | exact tt2 | exact tt3 | exact tt4 | exact tt5 | fail); (intro _)) | ((with_reducible apply Exists.intro); (with_reducible apply And.intro); first | ((with_reducible (first | show addT (.int _) (.int _) = some _ | show subT (.int _) (.int _) = some _ | show negT (.int _) = some _ | show ltT (.int _) (.int _) = some _ | show leT (.int _) (.int _) = some _ | show gtT (.int _) (.int _) = some _ | show geT (.int _) (.int _) = some _ | show intT [.int _] = some _ | show max2T [.int _, .int _] = some _ | show min2T [.int _, .int _] = some _ | show absT [.int _] = some _ | show eqT (.int _) (.int _) = some _ | show neT (.int _) (.int _) = some _ | show T.bl _ = T.bl _ | show T.int _ = T.int _)); exact rfl) | ((with_reducible (first | show isiT _ _ = some _ | show isT _ _ = some _ | show isNT _ _ = some _ | show isisT _ _ = some _)); first | exact (rfl : _ = some (T.bl true)) | exact (rfl : _ = some (T.bl false)) | exact rfl) | fail) | fail)))
local macro_rules | `(tactic| walk_at "norm") => `(tactic| (try simp only [List.map_cons, List.map_nil, List.cons_append, List.nil_append, List.length_cons, List.length_nil, Nat.zero_add, Nat.reduceAdd, Nat.reduceSub, Nat.sub_self, List.replicate_zero, List.replicate_succ, List.append_nil, List.set_cons_zero, List.set_cons_succ]))
/-! ### texts -/
def okS (x : Str) : Bool := x.cps.all (· < 0x110000)
theorem okS_app (x y : Str) : okS (x ++ y) = (okS x && okS y) := by
  unfold okS
  show (x.cps ++ y.cps).all _ = _
  rw [Array.all_append]
theorem okS_of (s : String) : okS (Str.ofString s) = true := by
  rw [Str.ofString_eq_toList]
  unfold okS
  rw [← Array.all_toList, List.all_eq_true]
  intro n hn
  obtain ⟨c, _, rfl⟩ := List.mem_map.mp hn
  refine decide_eq_true ?_
  rcases c.valid with h | ⟨_, h⟩
  · exact Nat.lt_trans (m := 0xd800) h (by decide)
  · exact h
theorem neT_str {x : Str} (h : okS x = true) : neT (.str x) (.str x) = some (.bl false) := by
  unfold neT
  have e : dOk 30 (.str x) = true := h
  rw [e]
  show some (T.bl (!(x == x))) = _
  simp
theorem eqT_str {x : Str} (h : okS x = true) : eqT (.str x) (.str x) = some (.bl true) := by
  unfold eqT
  have e : dOk 30 (.str x) = true := h
  rw [e]
  show some (T.bl (x == x)) = _
  simp
theorem okS_from : ∀ (ts : List Str) (k : Nat) (acc : Str), okS acc = true → (∀ t ∈ ts, okS t = true) → okS (textFrom k acc ts) = true
  | [], _, _, h, _ => h
  | t :: ts, k, acc, h, hs => by
    unfold textFrom
    refine okS_from ts (k + 1) _ ?_ fun x hx => hs x (List.mem_cons_of_mem _ hx)
    rw [okS_app, okS_app, h, hs t (List.mem_cons_self ..), okS_of]
    rfl
theorem okS_join : ∀ ts : List Str, (∀ t ∈ ts, okS t = true) → okS (Str.join ", " ts) = true
  | [], _ => by kernel_rfl
  | [x], h => h x (List.mem_cons_self ..)
  | x :: y :: r, h => by
    show okS (x ++ ", " ++ Str.join ", " (y :: r)) = true
    rw [okS_app, okS_app, h x (List.mem_cons_self ..), okS_of, okS_join (y :: r) fun t ht => h t (List.mem_cons_of_mem _ ht)]
    rfl
theorem okS_list {ts : List Str} (h : ∀ t ∈ ts, okS t = true) : okS (listText ts) = true := by
  unfold listText
  rw [okS_app, okS_from _ _ _ (okS_of _) h, okS_of]
  rfl
theorem okS_tup {ts : List Str} (h : ∀ t ∈ ts, okS t = true) : okS (tupleText ts) = true := by
  unfold tupleText
  rw [okS_app, okS_app, okS_of, okS_join _ h, okS_of]
  rfl
theorem len_list (ts : List Str) : (listText ts).length ≤ 2 + piled ts := by
  have e1 : Str.length (("]" : String) : Str) = 1 := rfl
  have e2 : Str.length (("[" : String) : Str) = 1 := rfl
  have e3 : Str.length (("" : String) : Str) = 0 := rfl
  unfold listText
  rw [strLen_append, e1]
  cases ts with
  | nil => show Str.length (("[" : String) : Str) + 1 ≤ _; rw [e2]; omega
  | cons t ts =>
    unfold textFrom
    rw [textFrom_length_pos _ _ _ (Nat.succ_pos 0), strLen_append, strLen_append, piled_cons, if_neg (by decide), e2, e3]
    omega
theorem len_tup (ts : List Str) : (tupleText ts).length ≤ 3 + piled ts := by
  have e1 : Str.length (("(" : String) : Str) = 1 := rfl
  have e3 : (((if ts.length == 1 then ",)" else ")" : String) : Str)).length ≤ 2 := by split <;> decide
  unfold tupleText
  rw [strLen_append, strLen_append, e1]
  by_cases h : ts = []
  · subst h
    have : Str.length (Str.join ", " []) = 0 := rfl
    omega
  · have := join_length_add ts h
    omega
mutual
/-- small numbers and rows of such -/
def nuT : T → Bool
  | .non => true
  | .bl _ => true
  | .int i => decide (-99999999999 ≤ i) && decide (i ≤ 99999999999)
  | .lst xs => nuTs xs
  | .tup xs => nuTs xs
  | _ => false
def nuTs : List T → Bool
  | [] => true
  | x :: xs => nuT x && nuTs xs
end
mutual
def wdT : T → Nat
  | .lst xs => 2 + wdTs xs
  | .tup xs => 3 + wdTs xs
  | _ => 13
def wdTs : List T → Nat
  | [] => 0
  | x :: xs => wdT x + 2 + wdTs xs
end
mutual
theorem nu_sh : ∀ t : T, nuT t = true → (toD t).showable = true ∧ okS (toD t).shown = true ∧ (toD t).shown.length ≤ wdT t
  | .non, _ => ⟨rfl, okS_of _, by show Str.length (("None" : String) : Str) ≤ 13; decide⟩
  | .bl true, _ => ⟨rfl, okS_of _, by show Str.length (("True" : String) : Str) ≤ 13; decide⟩
  | .bl false, _ => ⟨rfl, okS_of _, by show Str.length (("False" : String) : Str) ≤ 13; decide⟩
  | .int i, h => by
    obtain ⟨h1, h2⟩ := Bool.and_eq_true_iff.mp (show (decide (-99999999999 ≤ i) && decide (i ≤ 99999999999)) = true from h)
    have h1 := of_decide_eq_true h1
    have h2 := of_decide_eq_true h2
    refine ⟨?_, ?_, PyData.shown_int_le2 (by omega) (by omega)⟩
    · show PyData.showable (.int i) = true
      simp only [PyData.showable, decide_eq_true_eq]
      refine PySem.Spec.log2_small (Nat.lt_of_lt_of_le (m := 2 ^ 40) ?_ (Nat.pow_le_pow_right (by decide) (by decide)))
      have e : (2 : Nat) ^ 40 = 1099511627776 := by decide
      omega
    · show okS (PyData.shown (.int i)) = true
      simp only [PyData.shown]
      exact okS_of _
  | .lst xs, h => by
    obtain ⟨h1, h2, h3⟩ := nu_shs xs h
    have e : (toD (.lst xs)).shown = listText (PyData.shownAll (toDs xs)) := by show PyData.shown (.list (toDs xs)) = _; simp only [PyData.shown]
    refine ⟨?_, by rw [e]; exact okS_list h2, by rw [e]; exact Nat.le_trans (len_list _) (Nat.add_le_add_left h3 2)⟩
    show PyData.showable (.list (toDs xs)) = true
    simp only [PyData.showable]
    exact h1
  | .tup xs, h => by
    obtain ⟨h1, h2, h3⟩ := nu_shs xs h
    have e : (toD (.tup xs)).shown = tupleText (PyData.shownAll (toDs xs)) := by show PyData.shown (.tuple (toDs xs)) = _; simp only [PyData.shown]
    refine ⟨?_, by rw [e]; exact okS_tup h2, by rw [e]; exact Nat.le_trans (len_tup _) (Nat.add_le_add_left h3 3)⟩
    show PyData.showable (.tuple (toDs xs)) = true
    simp only [PyData.showable]
    exact h1
  | .str _, h => nomatch h
  | .emp, h => nomatch h
  | .exc _ _, h => nomatch h
  | .clo _ _, h => nomatch h
  | .ty _, h => nomatch h
  | .cls _, h => nomatch h
theorem nu_shs : ∀ ts : List T, nuTs ts = true → PyData.showableAll (toDs ts) = true ∧ (∀ s ∈ PyData.shownAll (toDs ts), okS s = true) ∧ piled (PyData.shownAll (toDs ts)) ≤ wdTs ts
  | [], _ => ⟨rfl, (fun _ h => nomatch h), Nat.le_refl _⟩
  | t :: ts, h => by
    obtain ⟨h1, h2⟩ := Bool.and_eq_true_iff.mp (show (nuT t && nuTs ts) = true from h)
    obtain ⟨a1, a2, a3⟩ := nu_sh t h1
    obtain ⟨b1, b2, b3⟩ := nu_shs ts h2
    refine ⟨?_, ?_, ?_⟩
    · show PyData.showableAll (toD t :: toDs ts) = true
      simp only [PyData.showableAll, a1, b1, Bool.and_self]
    · intro s hs
      have hs : s ∈ PyData.shownAll (toD t :: toDs ts) := hs
      simp only [PyData.shownAll] at hs
      rcases List.mem_cons.mp hs with e | e
      · rw [e]; exact a2
      · exact b2 s e
    · show piled (PyData.shownAll (toD t :: toDs ts)) ≤ wdT t + 2 + wdTs ts
      simp only [PyData.shownAll]
      rw [piled_cons]
      omega
end
/-- a text stands for it -/
def RepOk (t : T) : Prop := ∃ s, reprE [t] = some (.str s) ∧ okS s = true
def repB (t : T) : Bool := match reprE [t] with
  | some (.str s) => okS s
  | _ => false
theorem repB_ok {t : T} (h : repB t = true) : RepOk t := by
  unfold repB at h
  split at h
  · exact ⟨_, by assumption, h⟩
  · cases h
theorem rep_num {t : T} (h : nuT t = true) (hd : dOk 30 t = true) (hw : wdT t ≤ LIM) : RepOk t := by
  obtain ⟨h1, h2, h3⟩ := nu_sh t h
  have hne : t ≠ .emp := fun e => by subst e; cases h
  have e : reprE [t] = reprT [t] := by
    unfold reprE
    split
    · rename_i e; cases e; exact absurd rfl hne
    · rfl
  refine ⟨(toD t).shown, ?_, h2⟩
  rw [e]
  show (if (dOk 30 t && (toD t).showable && decide ((toD t).shown.length ≤ LIM)) = true then some (T.str (toD t).shown) else _) = _
  rw [hd, h1, decide_eq_true (Nat.le_trans h3 hw)]
  rfl
/-! ### a call that raises -/
section
variable {χ : T → List T → Prop} {ζ : Str → T → Prop} {o : Out T} {n : Str} {v : T}
theorem WR_out (h : WE o (fun t _ => χ t []) (fun c w _ => ζ c w)) : WR (outR o) χ ζ := by
  cases o with
  | ok t r => exact ⟨h.go⟩
  | ex c w r => exact ⟨h.go⟩
  | no => exact h.go.elim
theorem WR.ex_eq {o : Res} (h : WR o (fun _ _ => False) (fun c w => c = n ∧ w = v)) : o = .ex n v := by
  cases o with
  | ok t g => exact h.go.elim
  | ex c w => obtain ⟨rfl, rfl⟩ := (show c = n ∧ w = v from h.go); rfl
  | no => exact h.go.elim
theorem WR.of_ex {o : Res} (e : o = .ex n v) (h : ζ n v) : WR o χ ζ := by rw [e]; exact ⟨h⟩
end
/-! ### what is caught -/
def errNs : List Str := ["InvalidRow", "InvalidLine", "InvalidFraction", "InvalidNumber", "InvalidLengths", "InvalidCells", "InvalidWheels", "InvalidDate", "InvalidRule", "InvalidNames", "InvalidText", "InvalidEdit", "Uneven", "Unlike", "TooMany"]
def errWs : List T := [.str "row", .str "line", .str "fraction", .str "number", .str "lengths", .str "cells", .str "wheels", .str "date", .str "rule", .str "names", .str "text", .str "edit", .str "uneven", .str "unlike", .str "many"]
def kindsT (n : Str) : List T := errNs.map fun m => .bl (decide (n = m))
/-- error n is called w -/
structure Word (n w : Str) : Prop where
  c : countT (kindsT n) (.bl true) = some (.int 1)
  i : ∃ i, indexT (kindsT n) (.bl true) = some (.int i) ∧ ixT (.lst errWs) (.int i) = some (.str w)
  o : okS w = true
theorem w_row : Word "InvalidRow" "row" := ⟨by kernel_rfl, ⟨0, by kernel_rfl, by kernel_rfl⟩, by kernel_rfl⟩
theorem w_line : Word "InvalidLine" "line" := ⟨by kernel_rfl, ⟨1, by kernel_rfl, by kernel_rfl⟩, by kernel_rfl⟩
theorem w_fraction : Word "InvalidFraction" "fraction" := ⟨by kernel_rfl, ⟨2, by kernel_rfl, by kernel_rfl⟩, by kernel_rfl⟩
theorem w_number : Word "InvalidNumber" "number" := ⟨by kernel_rfl, ⟨3, by kernel_rfl, by kernel_rfl⟩, by kernel_rfl⟩
theorem w_lengths : Word "InvalidLengths" "lengths" := ⟨by kernel_rfl, ⟨4, by kernel_rfl, by kernel_rfl⟩, by kernel_rfl⟩
theorem w_cells : Word "InvalidCells" "cells" := ⟨by kernel_rfl, ⟨5, by kernel_rfl, by kernel_rfl⟩, by kernel_rfl⟩
theorem w_wheels : Word "InvalidWheels" "wheels" := ⟨by kernel_rfl, ⟨6, by kernel_rfl, by kernel_rfl⟩, by kernel_rfl⟩
theorem w_date : Word "InvalidDate" "date" := ⟨by kernel_rfl, ⟨7, by kernel_rfl, by kernel_rfl⟩, by kernel_rfl⟩
theorem w_rule : Word "InvalidRule" "rule" := ⟨by kernel_rfl, ⟨8, by kernel_rfl, by kernel_rfl⟩, by kernel_rfl⟩
theorem w_names : Word "InvalidNames" "names" := ⟨by kernel_rfl, ⟨9, by kernel_rfl, by kernel_rfl⟩, by kernel_rfl⟩
theorem w_text : Word "InvalidText" "text" := ⟨by kernel_rfl, ⟨10, by kernel_rfl, by kernel_rfl⟩, by kernel_rfl⟩
theorem w_edit : Word "InvalidEdit" "edit" := ⟨by kernel_rfl, ⟨11, by kernel_rfl, by kernel_rfl⟩, by kernel_rfl⟩
theorem w_uneven : Word "Uneven" "uneven" := ⟨by kernel_rfl, ⟨12, by kernel_rfl, by kernel_rfl⟩, by kernel_rfl⟩
theorem w_unlike : Word "Unlike" "unlike" := ⟨by kernel_rfl, ⟨13, by kernel_rfl, by kernel_rfl⟩, by kernel_rfl⟩
theorem w_many : Word "TooMany" "many" := ⟨by kernel_rfl, ⟨14, by kernel_rfl, by kernel_rfl⟩, by kernel_rfl⟩
noncomputable section
def caughtM (errs : List Str) (mA : LamD → List T → Res) : Fc := fnM false 5 (cSeq (cSet 1 (cK .non))
 (cSeq (cTryE errs 2 1 (cAct mA 0))
 (cSeq (cIfS (cB (cBin isT (cVar 1) (cK .non)))
 (cRet (cTup (cCons (cK (.str "let")) (cCons (cK .non) cNil))))
 cNx)
 (cSeq (cSet 3 (cLst (cCons (cUn (isxT errs "InvalidRow") (cVar 1)) (cCons (cUn (isxT errs "InvalidLine") (cVar 1)) (cCons (cUn (isxT errs "InvalidFraction") (cVar 1)) (cCons (cUn (isxT errs "InvalidNumber") (cVar 1)) cNil))))))
 (cSeq (cSet 3 (cBin addT (cVar 3) (cLst (cCons (cUn (isxT errs "InvalidLengths") (cVar 1)) (cCons (cUn (isxT errs "InvalidCells") (cVar 1)) (cCons (cUn (isxT errs "InvalidWheels") (cVar 1)) (cCons (cUn (isxT errs "InvalidDate") (cVar 1)) cNil)))))))
 (cSeq (cSet 3 (cBin addT (cVar 3) (cLst (cCons (cUn (isxT errs "InvalidRule") (cVar 1)) (cCons (cUn (isxT errs "InvalidNames") (cVar 1)) (cCons (cUn (isxT errs "InvalidText") (cVar 1)) (cCons (cUn (isxT errs "InvalidEdit") (cVar 1)) cNil)))))))
 (cSeq (cSet 3 (cBin addT (cVar 3) (cLst (cCons (cUn (isxT errs "Uneven") (cVar 1)) (cCons (cUn (isxT errs "Unlike") (cVar 1)) (cCons (cUn (isxT errs "TooMany") (cVar 1)) cNil))))))
 (cSeq (cSet 4 (cLst (cCons (cK (.str "row")) (cCons (cK (.str "line")) (cCons (cK (.str "fraction")) (cCons (cK (.str "number")) (cCons (cK (.str "lengths")) (cCons (cK (.str "cells")) (cCons (cK (.str "wheels")) (cCons (cK (.str "date")) (cCons (cK (.str "rule")) (cCons (cK (.str "names")) (cCons (cK (.str "text")) (cCons (cK (.str "edit")) (cCons (cK (.str "uneven")) (cCons (cK (.str "unlike")) (cCons (cK (.str "many")) cNil)))))))))))))))))
 (cRet (cIf (cB (cBin eqT (cMt countT (cVar 3) (cK (.bl true))) (cK (.int 1)))) (cTup (cCons (cBin ixT (cVar 4) (cMt indexT (cVar 3) (cK (.bl true)))) (cCons (cUn (xvT errs) (cVar 1)) cNil))) (cTup (cCons (cK (.str "odd")) (cCons (cK .non) cNil)))))))))))))
def alikeM : Fc := fnM false 2 (cRet (cBin eqT (cApp reprE (cCons (cVar 0) cNil)) (cApp reprE (cCons (cVar 1) cNil))))
def refusedM (errs : List Str) (mA : LamD → List T → Res) : Fc := fnM false 4 (cSeq (cSet 3 (cCall (caughtM errs mA) (cCons (cVar 0) cNil)))
 (cRet (cAndV (cBin eqT (cBin ixT (cVar 3) (cK (.int 0))) (cVar 1)) (cCall alikeM (cCons (cBin ixT (cVar 3) (cK (.int 1))) (cCons (cVar 2) cNil))))))
def allRefusedM (errs : List Str) (mA : LamD → List T → Res) : Fc := fnM false 4 (cRet (cBin eqT (cLc [3] (cItems (cVar 0)) (gSet 3) (cNotC (cB (cCall (refusedM errs mA) (cCons (cVar 3) (cCons (cVar 1) (cCons (cVar 2) cNil)))))) (cVar 3)) (cLst cNil)))
section
variable {χ : T → List T → Prop} {ζ : Str → T → Prop} {errs : List Str} {mA : LamD → List T → Res}
theorem isx_ok {n m : Str} {v : T} (h : n ∈ errs) : isxT errs m (.exc n v) = some (.bl (decide (n = m))) := if_pos h
theorem caught_ok {D : LamD} {xs : List T} {n w : Str} {v : T} (hw : Word n w) (h : mA D xs = .ex n v) (hn : n ∈ errs) (hp : plTs xs = true) (q : χ (.tup [.str w, v]) []) : WR (caughtM errs mA [.clo D xs]) χ ζ := by
  obtain ⟨wi, hi, hx⟩ := hw.i
  refine WR_fn ?_
  walk_at "norm"
  walk_at "ev"
  refine WS_tryE (WE_act rfl hp (WR.of_ex h ⟨hn, ?_⟩))
  show WS (cSeq _ _ [some (.clo D xs), some (.exc n v), none, none, none]) _ _ _ _ _
  walk_at "ev"
  refine ⟨_, isx_ok hn, ?_⟩
  walk_at "ev"
  refine ⟨_, isx_ok hn, ?_⟩
  walk_at "ev"
  refine ⟨_, isx_ok hn, ?_⟩
  walk_at "ev"
  refine ⟨_, isx_ok hn, ?_⟩
  walk_at "ev"
  refine ⟨by show 4 ≤ LIM; decide, ?_⟩
  walk_at "norm"
  walk_at "ev"
  refine ⟨_, isx_ok hn, ?_⟩
  walk_at "ev"
  refine ⟨_, isx_ok hn, ?_⟩
  walk_at "ev"
  refine ⟨_, isx_ok hn, ?_⟩
  walk_at "ev"
  refine ⟨_, isx_ok hn, ?_⟩
  walk_at "ev"
  refine ⟨by show 4 ≤ LIM; decide, _, rfl, ?_⟩
  walk_at "norm"
  walk_at "ev"
  refine ⟨_, isx_ok hn, ?_⟩
  walk_at "ev"
  refine ⟨_, isx_ok hn, ?_⟩
  walk_at "ev"
  refine ⟨_, isx_ok hn, ?_⟩
  walk_at "ev"
  refine ⟨_, isx_ok hn, ?_⟩
  walk_at "ev"
  refine ⟨by show 4 ≤ LIM; decide, _, rfl, ?_⟩
  walk_at "norm"
  walk_at "ev"
  refine ⟨_, isx_ok hn, ?_⟩
  walk_at "ev"
  refine ⟨_, isx_ok hn, ?_⟩
  walk_at "ev"
  refine ⟨_, isx_ok hn, ?_⟩
  walk_at "ev"
  refine ⟨by show 3 ≤ LIM; decide, _, rfl, ?_⟩
  walk_at "norm"
  walk_at "ev"
  refine ⟨by show 15 ≤ LIM; decide, ?_⟩
  walk_at "norm"
  walk_at "ev"
  refine ⟨_, rfl, ?_⟩
  walk_at "ev"
  refine ⟨_, hw.c, ?_⟩
  walk_at "ev"
  refine ⟨fun _ => ?_, fun z => nomatch (show true = false from z)⟩
  walk_at "ev"
  refine ⟨_, rfl, ?_⟩
  walk_at "ev"
  refine ⟨_, hi, _, hx, ?_⟩
  walk_at "ev"
  refine ⟨_, (if_pos hn), ?_⟩
  walk_at "ev"
  refine ⟨by show 2 ≤ LIM; decide, ?_⟩
  exact q
theorem refused_ok {D : LamD} {xs : List T} {n w : Str} {v : T} (hw : Word n w) (h : mA D xs = .ex n v) (hn : n ∈ errs) (hp : plTs xs = true) (hr : RepOk v) (q : χ (.bl true) []) : WR (refusedM errs mA [.clo D xs, .str w, v]) χ ζ := by
  obtain ⟨s, e, o⟩ := hr
  refine WR_fn ?_
  walk_at "norm"
  walk_at "ev"
  refine caught_ok hw h hn hp ?_
  walk_at "norm"
  walk_at "ev"
  refine ⟨.str w, rfl, ?_⟩
  walk_at "ev"
  refine ⟨_, eqT_str hw.o, ?_⟩
  walk_at "ev"
  refine ⟨v, rfl, ?_⟩
  walk_at "ev"
  refine WR_fn ?_
  walk_at "norm"
  walk_at "ev"
  refine ⟨_, e, ?_⟩
  walk_at "ev"
  refine ⟨_, e, ?_⟩
  walk_at "ev"
  refine ⟨_, eqT_str o, ?_⟩
  exact q
/-- the call raises so -/
def Refs (errs : List Str) (mA : LamD → List T → Res) (n : Str) (v : T) (c : T) : Prop := ∃ D xs, c = .clo D xs ∧ mA D xs = .ex n v ∧ plTs xs = true
theorem allRefused_ok {n w : Str} {v : T} {cs : List T} (hw : Word n w) (hn : n ∈ errs) (hr : RepOk v) (hl : cs.length < 1000000) (h : ∀ c ∈ cs, Refs errs mA n v c) (q : χ (.bl true) []) : WR (allRefusedM errs mA [.lst cs, .str w, v]) χ ζ := by
  refine WR_fn ?_
  walk_at "norm"
  walk_at "ev"
  refine WE_lcM (fun t => t) cs (fun _ => false) (fun t => t) ?_
  walk_at "ev"
  refine ⟨_, .inl rfl, by simp, hl, (fun k hk => by rw [List.mem_singleton.mp hk]; show 3 < 4; decide), fun a ha => ?_, ?_⟩
  · obtain ⟨D, xs, rfl, e, p⟩ := h a ha
    refine ⟨_, rfl, ?_⟩
    walk_at "norm"
    walk_at "ev"
    refine refused_ok hw e hn p hr ?_
    walk_at "ev"
    exact ⟨rfl, (fun _ => rfl), (fun h => nomatch h)⟩
  · have e0 : (cs.filter fun _ => false).map (fun t : T => t) = [] := by simp
    rw [e0]
    walk_at "ev"
    refine ⟨by show 0 ≤ LIM; decide, _, rfl, ?_⟩
    exact q
end
end
end Tc

/-! Te: draws below great bounds; three names at once that inner blocks read. -/
namespace Tc
open PySem PySem.Spec L2
local macro_rules | `(tactic| walk_at "ev") => `(tactic| (repeat' (first | with_reducible (first | refine WS_seq ?_ | refine WS_set ?_ | refine WS_ret ?_ | refine WS_if ?_ | refine WS_drop ?_ | refine WS_nx ?_ | refine WS_raise ?_ | refine WE_bin ?_ | refine WE_cons ?_ | refine WE_nil ?_ | refine WE_k ?_ | refine WE_app ?_ | refine WE_un ?_ | refine WE_B ?_ | refine WE_notC ?_ | refine WE_call ?_ | refine WE_callK ?_ | refine WE_callGT ?_ | refine WE_lst ?_ | refine WE_tup ?_ | refine WE_chain ?_ | refine WE_chain3 ?_ | refine WE_andV ?_ | refine WE_orV ?_ | refine WE_notV ?_ | refine WE_andC ?_ | refine WE_orC ?_ | refine WE_if ?_ | refine WS_par2 ?_ | refine WS_par3 ?_ | refine WE_rg1 ?_ | refine WE_rg2 ?_ | refine WE_items ?_ | refine WE_enum ?_ | refine WE_zip ?_ | refine WE_revd ?_ | refine WE_callG ?_ | refine WS_put ?_ | refine WS_app ?_ | refine WE_pix ?_ | refine WE_sl ?_ | refine WE_p0 ?_ | refine WE_p1 ?_ | refine WE_true ?_ | refine WE_bor ?_ | refine WE_borC ?_ | refine WE_mt ?_ | refine WS_asg ?_) | ((with_reducible apply WE_var); (case h => exact rfl)) | ((with_reducible refine And.intro ?_ ?_); (with_reducible first | exact ff1 | exact ff2 | exact ff3 | exact ff4 | exact ff5 | fail); (intro _)) | ((with_reducible refine And.intro ?_ ?_); rotate_left; (with_reducible first | exact tt1 | exact tt2 | exact tt3 | exact tt4 | exact tt5 | fail); (intro _)) | ((with_reducible apply Exists.intro); (with_reducible apply And.intro); first | ((with_reducible (first | show addT (.int _) (.int _) = some _ | show subT (.int _) (.int _) = some _ | show negT (.int _) = some _ | show ltT (.int _) (.int _) = some _ | show leT (.int _) (.int _) = some _ | show gtT (.int _) (.int _) = some _ | show geT (.int _) (.int _) = some _ | show intT [.int _] = some _ | show max2T [.int _, .int _] = some _ | show min2T [.int _, .int _] = some _ | show absT [.int _] = some _ | show eqT (.int _) (.int _) = some _ | show neT (.int _) (.int _) = some _ | show T.bl _ = T.bl _ | show T.int _ = T.int _)); exact rfl) | ((with_reducible (first | show isiT _ _ = some _ | show isT _ _ = some _ | show isNT _ _ = some _ | show isisT _ _ = some _)); first | exact (rfl : _ = some (T.bl true)) | exact (rfl : _ = some (T.bl false)) | exact rfl) | fail) | fail)))
local macro_rules | `(tactic| walk_at "norm") => `(tactic| (try simp only [List.map_cons, List.map_nil, List.cons_append, List.nil_append, List.length_cons, List.length_nil, Nat.zero_add, Nat.reduceAdd, Nat.reduceSub, Nat.sub_self, List.replicate_zero, List.replicate_succ, List.append_nil, List.set_cons_zero, List.set_cons_succ]))
theorem okSz_big {i : Int} (h1 : -1000000000000000000000000000000000000000000000000000000000000 ≤ i) (h2 : i ≤ 1000000000000000000000000000000000000000000000000000000000000) : okSz i = true := by
  have h : i.natAbs < 2 ^ 200 := by
    have e : (2 : Nat) ^ 200 = 1606938044258990275541962092341162602522202993782792835301376 := by decide
    omega
  refine decide_eq_true ?_
  by_cases z : i.natAbs = 0
  · rw [z]; decide
  · have := (Nat.log2_lt z).mpr h
    omega
theorem okDv_big {i : Int} (h1 : 0 < i) (h2 : i ≤ 1000000000000000000000000000000000000000000000000000000000000) : okDv i = true := by
  have h : i.natAbs < 2 ^ 200 := by
    have e : (2 : Nat) ^ 200 = 1606938044258990275541962092341162602522202993782792835301376 := by decide
    omega
  refine decide_eq_true ⟨h1, ?_⟩
  have := (Nat.log2_lt (by omega)).mpr h
  omega
theorem mulT_big {i j : Int} (h1 : -1000000000000000000000000000000000000000000000000000000000000 ≤ i) (h2 : i ≤ 1000000000000000000000000000000000000000000000000000000000000) (h3 : -1000000000000000000000000000000000000000000000000000000000000 ≤ j) (h4 : j ≤ 1000000000000000000000000000000000000000000000000000000000000) : mulT (.int i) (.int j) = some (.int (i * j)) := by
  simp only [mulT, okSz_big h1 h2, okSz_big h3 h4, Bool.and_true, if_true]
theorem fdivT_big {i j : Int} (h1 : 0 < j) (h2 : j ≤ 1000000000000000000000000000000000000000000000000000000000000) : fdivT (.int i) (.int j) = some (.int (i / j)) := by
  simp only [fdivT, okDv_big h1 h2, if_true]
theorem mulN {i j : Nat} (h2 : i ≤ 1000000000000000000000000000000000000000000000000000000000000) (h4 : j ≤ 1000000000000000000000000000000000000000000000000000000000000) : mulT (.int i) (.int j) = some (.int ((i * j : Nat) : Int)) := by
  rw [mulT_big (by omega) (by omega) (by omega) (by omega), Int.natCast_mul]
theorem fdivN {i j : Nat} (h1 : 0 < j) (h2 : j ≤ 1000000000000000000000000000000000000000000000000000000000000) : fdivT (.int i) (.int j) = some (.int ((i / j : Nat) : Int)) := by
  rw [fdivT_big (by omega) (by omega), Int.natCast_ediv]
section
variable {χ : T → List T → Prop} {ζ : Str → T → Prop}
theorem random_big {N b : Int} {us : List T} (hg : GenOk N us) (hN : N ≤ 900000000) (h1 : 1 ≤ b) (h2 : b ≤ 1000000000000000000000000000001) (q : ∀ d us', GenOk (N + 4) us' → 0 ≤ d → d < b → χ (.int d) [.lst us']) : WR (cm_law_random [.lst us, .int b]) χ ζ := by
  obtain ⟨a, s, k, rfl, g1, g2, g3, g4, g5⟩ := hg
  refine WR_fnG ?_
  walk_at "norm"
  walk_at "ev"
  refine ⟨_, _, _, rfl, rfl, rfl, ?_⟩
  walk_at "ev"
  refine ⟨fun hz => ?_, fun hz => ?_⟩
  · have hz : 0 < a := of_decide_eq_true hz
    walk_at "ev"
    refine ⟨_, _, _, rfl, rfl, rfl, ?_⟩
    walk_at "ev"
    refine ⟨_, modT_of (by omega), ?_⟩
    walk_at "norm"
    walk_at "ev"
    refine ⟨_, _, _, rfl, rfl, rfl, ?_⟩
    walk_at "ev"
    refine ⟨_, fdivT_big (by omega) (by omega), ?_⟩
    walk_at "ev"
    refine ⟨_, _, _, rfl, rfl, rfl, ?_⟩
    walk_at "norm"
    walk_at "ev"
    have m := mod_bd (a := a) (b := b) (by omega)
    exact ⟨_, rfl, q _ _ ⟨_, _, _, rfl, Int.ediv_nonneg (by omega) (by omega), g2, g3, g4, by omega⟩ m.1 m.2⟩
  · walk_at "ev"
    walk_at "norm"
    have hb : Builtin.Int.intBits b ≤ 100 := PyProof.Rows.intBits_le (by
      have e : (2 : Nat) ^ 100 = 1267650600228229401496703205376 := by decide
      omega)
    generalize hbb : ((Builtin.Int.intBits b : Nat) : Int) = bb at *
    have hb0 : 0 ≤ bb ∧ bb ≤ 100 := by omega
    refine WS_for (fun ts i r => ∃ d k' x, r = [some (.lst [.int a, .int s, .int k']), some (.int b), some (.int d), x] ∧ 0 ≤ k' ∧ k' = k + i ∧ 0 ≤ d ∧ i ≤ 4 ∧ (i = 0 → d ≤ 0) ∧ (i = 1 → d ≤ 2147483647) ∧ (i = 2 → d ≤ 4611686014132420609) ∧ (i = 3 → d ≤ 9903520314283042199192993792)) ?_
    refine WE_rg1 (WE_cons (WE_bin (WE_k (WE_bin (WE_un (WE_var rfl ⟨.int bb, ?_, WE_k ⟨_, fdivT_of (by omega) (by omega), _, rfl, WE_nil ⟨_, rfl, lim62_of (by omega) (by omega), ?_⟩⟩⟩))))))
    · show some (T.int _) = _
      rw [hbb]
    · have hlen : (rangeT 0 (1 + bb / 30)).length ≤ 4 := by
        unfold rangeT
        rw [List.length_map, List.length_range]
        omega
      refine ⟨⟨0, k, none, rfl, g4, by omega, by omega, by omega, by omega, by omega, by omega, by omega⟩, fun i t r ht hr => ?_, fun r hr => ?_⟩
      · obtain ⟨d, k', x, rfl, e0, e1, e2, e3, e4, e5, e6, e7⟩ := hr
        have hi : i < 4 := Nat.lt_of_lt_of_le (List.getElem?_eq_some_iff.mp ht).1 hlen
        refine ⟨_, rfl, ?_⟩
        walk_at "norm"
        walk_at "ev"
        refine ⟨_, _, _, rfl, rfl, rfl, ?_⟩
        walk_at "ev"
        refine ⟨_, _, _, rfl, rfl, rfl, ?_⟩
        walk_at "norm"
        have hd : d ≤ 9903520314283042199192993792 := by
          match i, hi with
          | 0, _ => have := e4 rfl; omega
          | 1, _ => have := e5 rfl; omega
          | 2, _ => have := e6 rfl; omega
          | 3, _ => have := e7 rfl; omega
        walk_at "ev"
        refine ⟨_, mulT_of (by omega) (by omega) (by omega) (by omega), ?_⟩
        walk_at "ev"
        refine ⟨_, _, _, rfl, rfl, rfl, ?_⟩
        walk_at "ev"
        refine ⟨_, _, _, rfl, rfl, rfl, ?_⟩
        walk_at "ev"
        refine hash_ok g2 g3 (by omega) (by omega) fun h q1 q2 => ?_
        walk_at "ev"
        walk_at "norm"
        refine ⟨_, _, _, rfl, by omega, by omega, by omega, by omega, by omega, fun z => ?_, fun z => ?_, fun z => ?_⟩
        · have := e4 (by omega); omega
        · have := e5 (by omega); omega
        · have := e6 (by omega); omega
      · obtain ⟨d, k', x, rfl, e0, e1, e2, e3, _⟩ := hr
        walk_at "ev"
        refine ⟨_, modT_of (by omega), ?_⟩
        have m := mod_bd (a := d) (b := b) (by omega)
        exact ⟨_, rfl, q _ _ ⟨_, _, _, rfl, g1, g2, g3, by omega, by omega⟩ m.1 m.2⟩
end
section
variable {c : SC} {j : JT} {P P' : List Nat} {a b d : Expr} {A : Ac} {pos : Pos}
/-- x, y, z = a, b, d, where inner blocks read some of them -/
theorem sj_par3C (i k l : Nat) {k1 k2 k3 : Bool} {x y z : Str} {px py pz pt p2 : Pos} {kt kv} (P1 P2 : List Nat) (ha : MJ c P [k1, k2, k3] [a, b, d] A) (hi : c.N[i]? = some x := by rfl) (hk : c.N[k]? = some y := by rfl) (hl : c.N[l]? = some z := by rfl)
    (hx : Loc c.sc x := by first | exact Or.inl rfl | exact Or.inr rfl) (hy : Loc c.sc y := by first | exact Or.inl rfl | exact Or.inr rfl) (hz : Loc c.sc z := by first | exact Or.inl rfl | exact Or.inr rfl) (sx : c.st x = true := by rfl) (sy : c.st y = true := by rfl) (sz : c.st z = true := by rfl)
    (h1 : stOk c.G.g.isNone c.G.n i k1 P P1 = true := by rfl) (h2 : stOk c.G.g.isNone c.G.n k k2 P1 P2 = true := by rfl) (h3 : stOk c.G.g.isNone c.G.n l k3 P2 P' = true := by rfl)
    (hw : ∀ env : Env, swappedStores [.Tuple [.Name x px, .Name y py, .Name z pz] kt pt] (.Tuple [a, b, d] kv p2) { env with scope := c.sc } = pure none := by intro _; rfl)
    (hs : ∀ env, swapsWithSole [.Tuple [.Name x px, .Name y py, .Name z pz] kt pt] (.Tuple [a, b, d] kv p2) pos.line env = pure false := by intro _; rfl) :
    SJ c j P P' (.Assign [.Tuple [.Name x px, .Name y py, .Name z pz] kt pt] (.Tuple [a, b, d] kv p2) pos) (cPar3 i k l A) := by
  obtain ⟨t, pt', rt⟩ := ha.ex
  refine ⟨tAsg (tTup t) (gTup c.K 3 (gCons (gName i) (gCons (gName k) (gCons (gName l) gNil)))), fun X h => ?_, fun r σ O H B D f q => ?_⟩
  · have lx : Loc X.env.scope x := by rw [h.sc]; exact hx
    have ly : Loc X.env.scope y := by rw [h.sc]; exact hy
    have lz : Loc X.env.scope z := by rw [h.sc]; exact hz
    have w := ps_asg (pos := pos) (pe_tup (pos := p2) (x1 := kv) (pt' X h)) (pg_tup (k := kt) (pos := pt) (n := 3) h.calm (pgs_cons (pg_name (pos := px) (by rw [h.N]; exact h.nd) (by rw [h.N]; exact hi) lx (h.fn x sx lx)) (pgs_cons (pg_name (pos := py) (by rw [h.N]; exact h.nd) (by rw [h.N]; exact hk) ly (h.fn y sy ly)) (pgs_cons (pg_name (pos := pz) (by rw [h.N]; exact h.nd) (by rw [h.N]; exact hl) lz (h.fn z sz lz)) pgs_nil)))) (hs _) (sw_of hw h)
    rw [h.K] at w
    exact w
  · refine rt r σ O H B _ f ((SK.so q).imp fun ts r1 O1 H1 B1 f1 g1 q1 vs m => ?_)
    obtain ⟨e1, e2⟩ := m.len
    match vs, ts, e1, e2, m, q1 with
    | [v1, v2, v3], [t1, t2, t3], _, _, m, q1 =>
      refine ⟨by rw [sizeLine_eq]; show 3 ≤ _; decide, fun p hp => ⟨p, [v1, v2, v3], rfl, .inl (.inl upd_same), rfl, v1, [v2, v3], rfl, v2, [v3], rfl, v3, [], rfl, rfl, ?_⟩⟩
      have pu : Pu H1 B1 (upd H1 p (.tup [v1, v2, v3])) B1 := .hid f1.sub hp
      obtain ⟨f2, O2, s2, m2⟩ := (m.hid hp).store (f1.pu pu) (fun _ h => h) h1
      obtain ⟨f3, O3, s3, m3⟩ := m2.store f2 s2 h2
      obtain ⟨f4, _, _, _⟩ := m3.store f3 s3 h3
      exact (show SK c j P' O1 H1 B1 D (.nx _) from q1) _ O1 _ B1 f4 (.of_pu pu)
end
end Tc

/-! Te: x = [..new lists..], then y = e, looked at, poked. -/
namespace Tc
open PySem PySem.Spec L2
def cQSet (k : Nat) (E : Ec) (F : Sl → Sl → So) : Sl → Sl → So := fun rs ro => match E rs with
  | .ok t r1 => F (r1.set k (some t)) (ro.set k none)
  | _ => .no
section
variable {c : SC} {j : JT} {P P' : List Nat} {e : Expr} {ss : List Stmt} {E : Ec} {ms : List Bool} {pos : Pos} {i : Nat}
theorem qj_set (k : Nat) {F : Sl → Sl → So} {x : Str} {p1 : Pos} (he : EJ c.nog [] e E) (hq : QJ c j i ms P P' ss F) (hki : k ≠ i := by decide) (hlen : Nat.ble (k + 1) c.G.n = true := by rfl) (hN : c.N[k]? = some x := by rfl) (hx : Loc c.sc x := by first | exact Or.inl rfl | exact Or.inr rfl) (hst : c.st x = true := by rfl)
    (hs : ∀ env, swapsWith e (some (.Name x p1)) pos.line env = pure false := by intro _; rfl) (hk : k ∉ P := by decide) : QJ c j i ms P P' (.Assign [.Name x p1] e pos :: ss) (cQSet k E F) := by
  obtain ⟨te, pe, re⟩ := he.ex
  obtain ⟨tq, pq, rq⟩ := hq.ex
  refine ⟨tSeq (tAsg te (gName k)) tq, fun X h => pss_cons ?_ (pq X h), fun rs ro σ O H0 H B D s fs f td q => re rs σ _ H H _ fs ?_⟩
  · have hl : Loc X.env.scope x := by rw [h.sc]; exact hx
    exact ps_set (by rw [h.N]; exact h.nd) (by rw [h.N]; exact hN) hl (pe X (nog_is h)) (hs _) (h.fn x hst hl)
  · unfold cQSet at q
    cases z : E rs with
    | ok t r1 =>
      rw [z] at q
      intro O1 H1 B1 f1 g1 v rv
      have s1 := grow_same g1 f1.sub
      have fs1 : Frm c.K ⟨none, c.G.n, []⟩ [] r1 σ (fun _ => False) H1 H1 := f1.seen
      have td1 := td.mono s1
      obtain ⟨a, vs, y1, y2, y3, y4⟩ := td1
      refine rq (r1.set k (some t)) (ro.set k none) (σ.set k (some v)) O H0 H1 B D (s.trans s1) (fs1.set (rv.mono f1.sub) (fun h => nomatch h) (fun k h => nomatch h) (fun k h => nomatch h) (.inl rfl)) (f.drop hk) ⟨a, vs, ?_, y2, y3, y4⟩ q
      rw [List.getElem?_set_ne hki]
      exact y1
    | ex n w r1 => rw [z] at q; exact (show False from q).elim
    | no => rw [z] at q; exact (show False from q).elim
end
section
variable {nx bk ct : Sl → Prop} {rt : T → Sl → Prop} {ex : Xp} {rs ro : Sl}
theorem WS_qset {k : Nat} {E : Ec} {F : Sl → Sl → So} (h : WE (E rs) (fun t r1 => WS (F (r1.set k (some t)) (ro.set k none)) nx rt bk ct ex) noX) : WS (cQSet k E F rs ro) nx rt bk ct ex := by
  unfold cQSet
  cases z : E rs with
  | ok t r1 => rw [z] at h; exact h.go
  | ex n w r1 => rw [z] at h; exact h.go.elim
  | no => rw [z] at h; exact h.go.elim
end
end Tc

/-! Te: xs[::-1], list(range(n)). -/
namespace Tc
open PySem PySem.Spec L2
def revT : T → Option T
  | .lst xs => some (.lst xs.reverse)
  | _ => none
def lrgT : T → Option T
  | .int n => if 0 ≤ n ∧ n ≤ 1000000 then some (.lst (rangeT 0 n)) else none
  | _ => none
section
variable {K : PySem.W.Frag} {B : Hp}
theorem Reps.reverse : ∀ {vs : List V} {ts : List T}, Reps K B vs ts → Reps K B vs.reverse ts.reverse
  | _, _, .nil => .nil
  | _, _, .cons r rs => by
    rw [List.reverse_cons, List.reverse_cons]
    exact (Reps.reverse rs).append (.cons r .nil)
theorem reps_ints : ∀ is : List Int, Reps K B (is.map V.int) (is.map T.int)
  | [] => .nil
  | i :: is => .cons (.int i) (reps_ints is)
theorem reps_rg (n : Int) : Reps K B (rgV 0 n) (rangeT 0 n) := by
  have e1 : rgV 0 n = ((List.range (n - 0).toNat).map fun (k : Nat) => (0 : Int) + (k : Int)).map V.int := by unfold rgV; rw [List.map_map]; rfl
  have e2 : rangeT 0 n = ((List.range (n - 0).toNat).map fun (k : Nat) => (0 : Int) + (k : Int)).map T.int := by unfold rangeT; rw [List.map_map]; rfl
  rw [e1, e2]
  exact reps_ints _
end
section
variable {c : SC} {P : List Nat} {e : Expr} {F : Ec} {pos p p1 p2 p3 p4 : Pos}
theorem ej_revL {k : Nat} (he : EJ c P e F) : EJ c P (.Subscript e (.Slice none none (some (.UnaryOp .USub (.Constant (.int 1) k p1) p2)) p3) pos) (cUn revT F) := by
  obtain ⟨t, pt, rd⟩ := he.ex
  refine ⟨tRevL c.K t, fun X h => ?_, fun r σ O H B Q fr q => ?_⟩
  · have z := pe_revL (k := k) (p1 := p1) (p2 := p2) (p3 := p3) (pos := pos) (pt X h)
    rw [h.K] at z
    exact z
  · refine rd r σ O H B _ fr ((PK.bind q).imp fun t r1 O1 H1 B1 f1 g1 q1 v rv => ?_)
    obtain ⟨z, ez, q2⟩ := PK.opt q1
    cases rv with
    | lst s rs =>
      cases ez
      refine ⟨_, _, rfl, (s.mono f1.sub).sq, fun p hp => ?_⟩
      obtain ⟨pu, rp⟩ := Rep.newL f1.sub rs.reverse hp
      exact q2.pu f1 pu _ rp
    | _ => cases ez
theorem ej_listRg (ha : EJ c P e F) (hl : c.sc.names.lookup ("list" : Str) = some .globalImplicit := by rfl) (hr : c.sc.names.lookup ("range" : Str) = some .globalImplicit := by rfl) (hml : c.mg "list" = none) (hmr : c.mg "range" = none)
    (hs : ∀ env, starEach [e] env = [(false, eval e env)] := by intro _; rfl) : EJ c P (.Call (.Name "list" p) [.Call (.Name "range" p1) [e] [] p2] [] pos) (cUn lrgT F) := by
  obtain ⟨t, pt, rd⟩ := ha.ex
  refine ⟨tLstRg (tRg1 t), fun X h => ?_, fun r σ O H B Q fr q => ?_⟩
  · exact pe_listRg h.calm (by show X.env.scope.names.lookup _ = _; rw [h.sc]; exact hl) (by rw [h.mg]; exact hml) (prg_1 (by show X.env.scope.names.lookup _ = _; rw [h.sc]; exact hr) (by rw [h.mg]; exact hmr) (pt X h) (by rw [hs]; rfl))
  · refine rd r σ O H B _ fr ((PK.bind q).imp fun t r1 O1 H1 B1 f1 g1 q1 v rv => ?_)
    obtain ⟨z, ez, q2⟩ := PK.opt q1
    cases rv with
    | int n =>
      have ez : (if 0 ≤ n ∧ n ≤ 1000000 then some (T.lst (rangeT 0 n)) else none) = some z := ez
      by_cases hn : 0 ≤ n ∧ n ≤ 1000000
      · rw [if_pos hn] at ez
        cases ez
        refine ⟨n, rfl, RgOk.of_le (by omega) (by omega) (by omega) (by omega), fun p hp => ?_⟩
        obtain ⟨pu, rp⟩ := Rep.newL f1.sub (reps_rg n) hp
        exact q2.pu f1 pu _ rp
      · rw [if_neg hn] at ez
        cases ez
    | _ => cases ez
end
end Tc

/-! Te: four names at once. -/
namespace Tc
open PySem PySem.Spec L2
def cPar4 (i k l m : Nat) (A : Ac) : Sc := fun r => (A r).so fun ts r1 => match ts with
  | [t, u, v, w] => .nx ((((r1.set i (some t)).set k (some u)).set l (some v)).set m (some w))
  | _ => .no
section
variable {c : SC} {j : JT} {P P' : List Nat} {a b d e : Expr} {A : Ac} {pos : Pos}
/-- x, y, z, u = a, b, d, e -/
theorem sj_par4C (i k l m : Nat) {k1 k2 k3 k4 : Bool} {x y z u : Str} {px py pz pu pt p2 : Pos} {kt kv} (P1 P2 P3 : List Nat) (ha : MJ c P [k1, k2, k3, k4] [a, b, d, e] A) (hi : c.N[i]? = some x := by rfl) (hk : c.N[k]? = some y := by rfl) (hl : c.N[l]? = some z := by rfl) (hm : c.N[m]? = some u := by rfl)
    (hx : Loc c.sc x := by first | exact Or.inl rfl | exact Or.inr rfl) (hy : Loc c.sc y := by first | exact Or.inl rfl | exact Or.inr rfl) (hz : Loc c.sc z := by first | exact Or.inl rfl | exact Or.inr rfl) (hu : Loc c.sc u := by first | exact Or.inl rfl | exact Or.inr rfl) (sx : c.st x = true := by rfl) (sy : c.st y = true := by rfl) (sz : c.st z = true := by rfl) (su : c.st u = true := by rfl)
    (h1 : stOk c.G.g.isNone c.G.n i k1 P P1 = true := by rfl) (h2 : stOk c.G.g.isNone c.G.n k k2 P1 P2 = true := by rfl) (h3 : stOk c.G.g.isNone c.G.n l k3 P2 P3 = true := by rfl) (h4 : stOk c.G.g.isNone c.G.n m k4 P3 P' = true := by rfl)
    (hw : ∀ env : Env, swappedStores [.Tuple [.Name x px, .Name y py, .Name z pz, .Name u pu] kt pt] (.Tuple [a, b, d, e] kv p2) { env with scope := c.sc } = pure none := by intro _; rfl)
    (hs : ∀ env, swapsWithSole [.Tuple [.Name x px, .Name y py, .Name z pz, .Name u pu] kt pt] (.Tuple [a, b, d, e] kv p2) pos.line env = pure false := by intro _; rfl) :
    SJ c j P P' (.Assign [.Tuple [.Name x px, .Name y py, .Name z pz, .Name u pu] kt pt] (.Tuple [a, b, d, e] kv p2) pos) (cPar4 i k l m A) := by
  obtain ⟨t, pt', rt⟩ := ha.ex
  refine ⟨tAsg (tTup t) (gTup c.K 4 (gCons (gName i) (gCons (gName k) (gCons (gName l) (gCons (gName m) gNil))))), fun X h => ?_, fun r σ O H B D f q => ?_⟩
  · have lx : Loc X.env.scope x := by rw [h.sc]; exact hx
    have ly : Loc X.env.scope y := by rw [h.sc]; exact hy
    have lz : Loc X.env.scope z := by rw [h.sc]; exact hz
    have lu : Loc X.env.scope u := by rw [h.sc]; exact hu
    have w := ps_asg (pos := pos) (pe_tup (pos := p2) (x1 := kv) (pt' X h)) (pg_tup (k := kt) (pos := pt) (n := 4) h.calm (pgs_cons (pg_name (pos := px) (by rw [h.N]; exact h.nd) (by rw [h.N]; exact hi) lx (h.fn x sx lx)) (pgs_cons (pg_name (pos := py) (by rw [h.N]; exact h.nd) (by rw [h.N]; exact hk) ly (h.fn y sy ly)) (pgs_cons (pg_name (pos := pz) (by rw [h.N]; exact h.nd) (by rw [h.N]; exact hl) lz (h.fn z sz lz)) (pgs_cons (pg_name (pos := pu) (by rw [h.N]; exact h.nd) (by rw [h.N]; exact hm) lu (h.fn u su lu)) pgs_nil))))) (hs _) (sw_of hw h)
    rw [h.K] at w
    exact w
  · refine rt r σ O H B _ f ((SK.so q).imp fun ts r1 O1 H1 B1 f1 g1 q1 vs mx => ?_)
    obtain ⟨e1, e2⟩ := mx.len
    match vs, ts, e1, e2, mx, q1 with
    | [v1, v2, v3, v4], [t1, t2, t3, t4], _, _, mx, q1 =>
      refine ⟨by rw [sizeLine_eq]; show 4 ≤ _; decide, fun p hp => ⟨p, [v1, v2, v3, v4], rfl, .inl (.inl upd_same), rfl, v1, [v2, v3, v4], rfl, v2, [v3, v4], rfl, v3, [v4], rfl, v4, [], rfl, rfl, ?_⟩⟩
      have ppu : Pu H1 B1 (upd H1 p (.tup [v1, v2, v3, v4])) B1 := .hid f1.sub hp
      obtain ⟨f2, O2, s2, m2⟩ := (mx.hid hp).store (f1.pu ppu) (fun _ h => h) h1
      obtain ⟨f3, O3, s3, m3⟩ := m2.store f2 s2 h2
      obtain ⟨f4, O4, s4, m4⟩ := m3.store f3 s3 h3
      obtain ⟨f5, _, _, _⟩ := m4.store f4 s4 h4
      exact (show SK c j P' O1 H1 B1 D (.nx _) from q1) _ O1 _ B1 f5 (.of_pu ppu)
end
section
variable {r : Sl} {nx bk ct : Sl → Prop} {rt : T → Sl → Prop} {ex : Xp} {i k l m : Nat}
theorem WS_par4 {A : Ac} (h : WE (A r) (fun ts r1 => ∃ t u v w, ts = [t, u, v, w] ∧ nx ((((r1.set i (some t)).set k (some u)).set l (some v)).set m (some w))) ex) : WS (cPar4 i k l m A r) nx rt bk ct ex :=
  WS_so (h.imp fun z r1 ⟨t, u, v, w, e, q⟩ => by subst e; exact ⟨q⟩)
end
end Tc

/-! Te: tuple(x) of a list, of a tuple. -/
namespace Tc
open PySem PySem.Spec L2
def tupleT : List T → Option T
  | [.lst xs] => some (.tup xs)
  | [.tup xs] => some (.tup xs)
  | _ => none
def rTupleOf (K : PySem.W.Frag) : List V → Hp → VK → Prop := fun xs H Q => ∃ p ys, xs = [.ref p] ∧ ((SqL K H p ys ∧ ∀ l, H l = none → Q (.ref l) (upd H l (.tup ys))) ∨ (SqT K H p ys ∧ Q (.ref p) H))
section
variable {c : SC} {K : PySem.W.Frag}
theorem cl_tupleOf : ∀ X, c.Is X → CallR X (.type "tuple") (rTupleOf c.K) := fun X h => by
  have z := call_tuple_of (X := X)
  rw [h.K] at z; exact z
theorem sd_tupleOf : SdA K (rTupleOf K) tupleT := by
  intro H B xs ts z Q sB rx e q
  unfold tupleT at e
  split at e
  · obtain ⟨x, rfl, r⟩ := rx.one_inv
    cases e
    cases r with
    | lst s rs =>
      refine ⟨_, _, rfl, .inl ⟨(s.mono sB).sq, fun l hl => ?_⟩⟩
      obtain ⟨pu, rp⟩ := Rep.newT sB rs hl
      exact q _ _ _ pu rp
  · obtain ⟨x, rfl, r⟩ := rx.one_inv
    cases e
    cases r with
    | tup s rs => exact ⟨_, _, rfl, .inr ⟨same_tup sB s, q _ H B (.refl sB) (.tup s rs)⟩⟩
  · cases e
end
theorem limA {ts : List T} {p : Prop} (h : decide (ts.length ≤ LIM) = true) (q : p) : ts.length ≤ LIM ∧ p := ⟨of_decide_eq_true h, q⟩
end Tc

/-! Te15: fractions, the common defs over them. -/
namespace Tc
open PySem PySem.Spec L2
local macro_rules | `(tactic| walk_at "ew") => `(tactic| (repeat' (first | with_reducible (first | refine WS_seq ?_ | refine WS_set ?_ | refine WS_ret ?_ | refine WS_if ?_ | refine WS_drop ?_ | refine WS_nx ?_ | refine WS_raise ?_ | refine WE_bin ?_ | refine WE_cons ?_ | refine WE_nil ?_ | refine WE_k ?_ | refine WE_app ?_ | refine WE_un ?_ | refine WE_B ?_ | refine WE_notC ?_ | refine WE_call ?_ | refine WE_callK ?_ | refine WE_callGT ?_ | refine WE_lst ?_ | refine WE_tup ?_ | refine WE_chain ?_ | refine WE_chain3 ?_ | refine WE_andV ?_ | refine WE_orV ?_ | refine WE_notV ?_ | refine WE_andC ?_ | refine WE_orC ?_ | refine WE_if ?_ | refine WS_par2 ?_ | refine WS_par3 ?_ | refine WE_rg1 ?_ | refine WE_rg2 ?_ | refine WE_items ?_ | refine WE_enum ?_ | refine WE_zip ?_ | refine WE_revd ?_ | refine WE_callG ?_ | refine WS_put ?_ | refine WS_app ?_ | refine WE_pix ?_ | refine WE_sl ?_ | refine WE_p0 ?_ | refine WE_p1 ?_ | refine WE_true ?_ | refine WE_bor ?_ | refine WE_borC ?_ | refine WE_mt ?_ | refine WS_asg ?_ | refine WS_par4 ?_) | ((with_reducible apply WE_var); (case h => exact rfl)) | ((with_reducible refine And.intro ?_ ?_); (with_reducible first | exact ff1 | exact ff2 | exact ff3 | exact ff4 | exact ff5 | fail); (intro _)) | ((with_reducible refine And.intro ?_ ?_); rotate_left; (with_reducible first | exact tt1 | exact tt2 | exact tt3 | exact tt4 | exact tt5 | fail); (intro _)) | ((with_reducible apply Exists.intro); (with_reducible apply And.intro); first | ((with_reducible (first | show addT (.int _) (.int _) = some _ | show subT (.int _) (.int _) = some _ | show negT (.int _) = some _ | show ltT (.int _) (.int _) = some _ | show leT (.int _) (.int _) = some _ | show gtT (.int _) (.int _) = some _ | show geT (.int _) (.int _) = some _ | show intT [.int _] = some _ | show max2T [.int _, .int _] = some _ | show min2T [.int _, .int _] = some _ | show absT [.int _] = some _ | show eqT (.int _) (.int _) = some _ | show neT (.int _) (.int _) = some _ | show gcdT [.int _, .int _] = some _ | show subBT (.bl _) (.bl _) = some _ | show gTupT _ _ _ = some _ | show ixT (.tup (_ :: _)) (.int _) = some _ | show ixT (.lst (_ :: _)) (.int _) = some _ | show T.bl _ = T.bl _ | show T.int _ = T.int _)); exact rfl) | ((with_reducible (first | show isiT _ _ = some _ | show isT _ _ = some _ | show isNT _ _ = some _ | show isisT _ _ = some _)); first | exact (rfl : _ = some (T.bl true)) | exact (rfl : _ = some (T.bl false)) | exact rfl) | fail) | ((with_reducible refine limA ?_ ?_); (first | exact rfl | fail)) | fail)))
local macro_rules | `(tactic| walk_at "ev") => `(tactic| (repeat' (first | with_reducible (first | refine WS_seq ?_ | refine WS_set ?_ | refine WS_ret ?_ | refine WS_if ?_ | refine WS_drop ?_ | refine WS_nx ?_ | refine WS_raise ?_ | refine WE_bin ?_ | refine WE_cons ?_ | refine WE_nil ?_ | refine WE_k ?_ | refine WE_app ?_ | refine WE_un ?_ | refine WE_B ?_ | refine WE_notC ?_ | refine WE_call ?_ | refine WE_callK ?_ | refine WE_callGT ?_ | refine WE_lst ?_ | refine WE_tup ?_ | refine WE_chain ?_ | refine WE_chain3 ?_ | refine WE_andV ?_ | refine WE_orV ?_ | refine WE_notV ?_ | refine WE_andC ?_ | refine WE_orC ?_ | refine WE_if ?_ | refine WS_par2 ?_ | refine WS_par3 ?_ | refine WE_rg1 ?_ | refine WE_rg2 ?_ | refine WE_items ?_ | refine WE_enum ?_ | refine WE_zip ?_ | refine WE_revd ?_ | refine WE_callG ?_ | refine WS_put ?_ | refine WS_app ?_ | refine WE_pix ?_ | refine WE_sl ?_ | refine WE_p0 ?_ | refine WE_p1 ?_ | refine WE_true ?_ | refine WE_bor ?_ | refine WE_borC ?_ | refine WE_mt ?_ | refine WS_asg ?_) | ((with_reducible apply WE_var); (case h => exact rfl)) | ((with_reducible refine And.intro ?_ ?_); (with_reducible first | exact ff1 | exact ff2 | exact ff3 | exact ff4 | exact ff5 | fail); (intro _)) | ((with_reducible refine And.intro ?_ ?_); rotate_left; (with_reducible first | exact tt1 | exact tt2 | exact tt3 | exact tt4 | exact tt5 | fail); (intro _)) | ((with_reducible apply Exists.intro); (with_reducible apply And.intro); first | ((with_reducible (first | show addT (.int _) (.int _) = some _ | show subT (.int _) (.int _) = some _ | show negT (.int _) = some _ | show ltT (.int _) (.int _) = some _ | show leT (.int _) (.int _) = some _ | show gtT (.int _) (.int _) = some _ | show geT (.int _) (.int _) = some _ | show intT [.int _] = some _ | show max2T [.int _, .int _] = some _ | show min2T [.int _, .int _] = some _ | show absT [.int _] = some _ | show eqT (.int _) (.int _) = some _ | show neT (.int _) (.int _) = some _ | show T.bl _ = T.bl _ | show T.int _ = T.int _)); exact rfl) | ((with_reducible (first | show isiT _ _ = some _ | show isT _ _ = some _ | show isNT _ _ = some _ | show isisT _ _ = some _)); first | exact (rfl : _ = some (T.bl true)) | exact (rfl : _ = some (T.bl false)) | exact rfl) | fail) | fail)))
local macro_rules | `(tactic| walk_at "norm") => `(tactic| (try simp only [List.map_cons, List.map_nil, List.cons_append, List.nil_append, List.length_cons, List.length_nil, Nat.zero_add, Nat.reduceAdd, Nat.reduceSub, Nat.sub_self, List.replicate_zero, List.replicate_succ, List.append_nil, List.set_cons_zero, List.set_cons_succ]))
/-! ### sizes -/
def Bd (k : Nat) (i : Int) : Prop := i.natAbs < 2 ^ k
theorem Bd.mono {k l : Nat} {i : Int} (h : Bd k i) (hl : k ≤ l := by decide) : Bd l i := Nat.lt_of_lt_of_le h (Nat.pow_le_pow_right (by decide) hl)
theorem Bd.of {k N : Nat} {i : Int} (h1 : -(N : Int) ≤ i) (h2 : i ≤ (N : Int)) (h : N < 2 ^ k) : Bd k i := by
  unfold Bd
  omega
theorem Bd.ofN {k N n : Nat} (h2 : n ≤ N) (h : N < 2 ^ k) : Bd k (n : Int) := by
  unfold Bd
  omega
theorem Bd.le {k : Nat} {i j : Int} (h : Bd k j) (hl : i.natAbs ≤ j.natAbs) : Bd k i := Nat.lt_of_le_of_lt hl h
theorem Bd.mul {k l : Nat} {i j : Int} (h : Bd k i) (g : Bd l j) : Bd (k + l) (i * j) := by
  unfold Bd
  rw [Int.natAbs_mul, Nat.pow_add]
  exact Nat.mul_lt_mul'' h g
theorem Bd.add {k : Nat} {i j : Int} (h : Bd k i) (g : Bd k j) : Bd (k + 1) (i + j) := by
  unfold Bd at *
  rw [Nat.pow_succ]
  omega
theorem Bd.neg {k : Nat} {i : Int} (h : Bd k i) : Bd k (-i) := by
  unfold Bd at *
  omega
theorem Bd.sub {k : Nat} {i j : Int} (h : Bd k i) (g : Bd k j) : Bd (k + 1) (i - j) := by
  unfold Bd at *
  rw [Nat.pow_succ]
  omega
theorem Bd.nat {k : Nat} {i : Int} (h : Bd k i) : Bd k (i.natAbs : Int) := h
theorem Bd.div {k : Nat} {i j : Int} (h : Bd k i) (h0 : 0 < j) : Bd k (i / j) := by
  unfold Bd at *
  have := Int.natAbs_ediv_le_natAbs i j
  omega
theorem Bd.cast {k : Nat} {n : Nat} (h : n < 2 ^ k) : Bd k (n : Int) := h
theorem okSz_bd {i : Int} (h : Bd 8000 i) : okSz i = true := by
  refine decide_eq_true ?_
  by_cases z : i.natAbs = 0
  · rw [z]; decide
  · have := (Nat.log2_lt z).mpr h
    omega
theorem okDv_bd {i : Int} (h1 : 0 < i) (h : Bd 8000 i) : okDv i = true := by
  refine decide_eq_true ⟨h1, ?_⟩
  have := (Nat.log2_lt (show i.natAbs ≠ 0 by omega)).mpr h
  omega
theorem mulT_bd {i j : Int} (h1 : Bd 8000 i) (h2 : Bd 8000 j) : mulT (.int i) (.int j) = some (.int (i * j)) := by
  simp only [mulT, okSz_bd h1, okSz_bd h2, Bool.and_true, if_true]
theorem fdivT_bd {i j : Int} (h1 : 0 < j) (h2 : Bd 8000 j) : fdivT (.int i) (.int j) = some (.int (i / j)) := by
  simp only [fdivT, okDv_bd h1 h2, if_true]
/-! ### lowest terms -/
abbrev fr (a b : Int) : T := .tup [.int a, .int b]
def lO (a b : Int) : Int := a / (Int.gcd a b : Int)
def lU (a b : Int) : Int := b / (Int.gcd a b : Int)
abbrev lowF (a b : Int) : T := fr (lO a b) (lU a b)
theorem gcd_pos' {a b : Int} (h : 0 < b) : 0 < (Int.gcd a b : Int) := by
  have : 0 < Int.gcd a b := Int.gcd_pos_of_ne_zero_right a (by omega)
  omega
theorem lO_mul (a b : Int) : lO a b * (Int.gcd a b : Int) = a := Int.ediv_mul_cancel (Int.gcd_dvd_left a b)
theorem lU_mul (a b : Int) : lU a b * (Int.gcd a b : Int) = b := Int.ediv_mul_cancel (Int.gcd_dvd_right a b)
theorem lU_pos {a b : Int} (h : 0 < b) : 0 < lU a b := by
  have g := gcd_pos' (a := a) h
  have e := lU_mul a b
  refine Classical.byContradiction fun n => ?_
  have : lU a b * (Int.gcd a b : Int) ≤ 0 * (Int.gcd a b : Int) := Int.mul_le_mul_of_nonneg_right (by omega) (by omega)
  omega
theorem lU_le {a b : Int} (h : 0 < b) : lU a b ≤ b := by
  have g := gcd_pos' (a := a) h
  have e := lU_mul a b
  have p := lU_pos (a := a) h
  have : lU a b * 1 ≤ lU a b * (Int.gcd a b : Int) := Int.mul_le_mul_of_nonneg_left (by omega) (by omega)
  omega
theorem low_cross {a b : Int} : lO a b * b = a * lU a b := by
  have e1 := lO_mul a b
  have e2 := lU_mul a b
  generalize lO a b = x at *
  generalize lU a b = y at *
  generalize (Int.gcd a b : Int) = g at *
  subst e1
  subst e2
  rw [Int.mul_comm y g, ← Int.mul_assoc]
theorem low_cop {a b : Int} (h : 0 < b) : Int.gcd (lO a b) (lU a b) = 1 := by
  have g : 0 < Int.gcd a b := Int.gcd_pos_of_ne_zero_right a (by omega)
  unfold lO lU
  exact Int.gcd_ediv_gcd_ediv_gcd g
theorem low_cop_eq {a b c d : Int} (hb : 0 < b) (hd : 0 < d) (h1 : Int.gcd a b = 1) (h2 : Int.gcd c d = 1) (e : a * d = c * b) : a = c ∧ b = d := by
  have en : a.natAbs * d.natAbs = c.natAbs * b.natAbs := by rw [← Int.natAbs_mul, ← Int.natAbs_mul, e]
  have d1 : b ∣ d := Int.natAbs_dvd_natAbs.mp (Nat.Coprime.dvd_of_dvd_mul_left (k := b.natAbs) (m := a.natAbs) (by rw [Nat.coprime_comm]; exact h1) ⟨c.natAbs, by rw [en, Nat.mul_comm]⟩)
  have d2 : d ∣ b := Int.natAbs_dvd_natAbs.mp (Nat.Coprime.dvd_of_dvd_mul_left (k := d.natAbs) (m := c.natAbs) (by rw [Nat.coprime_comm]; exact h2) ⟨a.natAbs, by rw [← en, Nat.mul_comm]⟩)
  have e2 : b = d := by
    have x := Int.le_of_dvd hd d1
    have y := Int.le_of_dvd hb d2
    omega
  subst e2
  exact ⟨Int.eq_of_mul_eq_mul_right (by omega) e, rfl⟩
theorem low_eq {a b c d : Int} (hb : 0 < b) (hd : 0 < d) (e : a * d = c * b) : lO a b = lO c d ∧ lU a b = lU c d := by
  refine low_cop_eq (lU_pos hb) (lU_pos hd) (low_cop hb) (low_cop hd) ?_
  have e1 : lO a b * b = a * lU a b := low_cross
  have e2 : lO c d * d = c * lU c d := low_cross
  have p : b * d ≠ 0 := Int.ne_of_gt (Int.mul_pos hb hd)
  refine Int.eq_of_mul_eq_mul_right p ?_
  generalize lO a b = x at *
  generalize lO c d = y at *
  generalize lU a b = u at *
  generalize lU c d = v at *
  grind
theorem lowF_eq {a b c d : Int} (hb : 0 < b) (hd : 0 < d) (e : a * d = c * b) : lowF a b = lowF c d := by
  obtain ⟨e1, e2⟩ := low_eq hb hd e
  show fr _ _ = fr _ _
  rw [e1, e2]
theorem low_of_cop {a b : Int} (h : Int.gcd a b = 1) : lO a b = a ∧ lU a b = b := by
  unfold lO lU
  rw [h]
  simp
theorem lowF_cop {a b : Int} (h : Int.gcd a b = 1) : lowF a b = fr a b := by
  show fr _ _ = fr _ _
  rw [(low_of_cop h).1, (low_of_cop h).2]
theorem lowF_inj {a b c d : Int} (hb : 0 < b) (hd : 0 < d) (e : lowF a b = lowF c d) : a * d = c * b := by
  have e1 : lO a b = lO c d ∧ lU a b = lU c d := by
    injection e with e
    injection e with e1 e2
    injection e1 with e1
    injection e2 with e2
    injection e2 with e2
    exact ⟨e1, e2⟩
  have e2 : lO a b * b = a * lU a b := low_cross
  have e3 : lO c d * d = c * lU c d := low_cross
  have p : 0 < lU c d := lU_pos hd
  rw [e1.1, e1.2] at e2
  generalize lO c d = x at *
  generalize lU c d = y at *
  refine Int.eq_of_mul_eq_mul_right (a := y) (by omega) ?_
  grind
theorem lO_natAbs (a b : Int) : (lO a b).natAbs ≤ a.natAbs := Int.natAbs_ediv_le_natAbs _ _
theorem lU_natAbs (a b : Int) : (lU a b).natAbs ≤ b.natAbs := Int.natAbs_ediv_le_natAbs _ _
theorem Bd.lO {k : Nat} {a b : Int} (h : Bd k a) : Bd k (lO a b) := h.le (lO_natAbs a b)
theorem Bd.lU {k : Nat} {a b : Int} (h : Bd k b) : Bd k (lU a b) := h.le (lU_natAbs a b)
theorem lO_nonneg {a b : Int} (h : 0 < b) : 0 ≤ lO a b ↔ 0 ≤ a := by
  have g := gcd_pos' (a := a) h
  have e := lO_mul a b
  constructor
  · intro k
    have := Int.mul_nonneg k (Int.le_of_lt g)
    omega
  · intro k
    exact Int.ediv_nonneg k (Int.le_of_lt g)
section
variable {χ : T → List T → Prop} {ζ : Str → T → Prop}
def cm_lowest : Fc := fnM false 3 (cSeq (cSet 2 (cApp gcdT (cCons (cVar 0) (cCons (cVar 1) cNil))))
 (cSeq (cIfS (cB (cBin ltT (cVar 1) (cK (.int 0))))
 (cSet 2 (cUn negT (cVar 2)))
 cNx)
 (cRet (cTup (cCons (cBin fdivT (cVar 0) (cVar 2)) (cCons (cBin fdivT (cVar 1) (cVar 2)) cNil))))))
def cm_is_fraction : Fc := fnM false 1 (cSeq (cIfS (cOrC (cNotC (cB (cUn (isiT .tuple) (cVar 0)))) (cOrC (cB (cBin neT (cApp lenT (cCons (cVar 0) cNil)) (cK (.int 2)))) (cOrC (cNotC (cB (cCall cm_is_whole (cCons (cBin ixT (cVar 0) (cK (.int 0))) cNil)))) (cNotC (cB (cCall cm_is_whole (cCons (cBin ixT (cVar 0) (cK (.int 1))) cNil)))))))
 (cRet (cK (.bl false)))
 cNx)
 (cRet (cAndV (cBin geT (cBin ixT (cVar 0) (cK (.int 1))) (cK (.int 1))) (cBin eqT (cApp gcdT (cCons (cBin ixT (cVar 0) (cK (.int 0))) (cCons (cBin ixT (cVar 0) (cK (.int 1))) cNil))) (cK (.int 1))))))
def cm_compared : Fc := fnM false 3 (cSeq (cSet 2 (cBin subT (cBin mulT (cBin ixT (cVar 0) (cK (.int 0))) (cBin ixT (cVar 1) (cK (.int 1)))) (cBin mulT (cBin ixT (cVar 1) (cK (.int 0))) (cBin ixT (cVar 0) (cK (.int 1))))))
 (cRet (cBin subBT (cBin gtT (cVar 2) (cK (.int 0))) (cBin ltT (cVar 2) (cK (.int 0))))))
def cm_minus : Fc := fnM false 2 (cRet (cCall cm_lowest (cCons (cBin subT (cBin mulT (cBin ixT (cVar 0) (cK (.int 0))) (cBin ixT (cVar 1) (cK (.int 1)))) (cBin mulT (cBin ixT (cVar 1) (cK (.int 0))) (cBin ixT (cVar 0) (cK (.int 1))))) (cCons (cBin mulT (cBin ixT (cVar 0) (cK (.int 1))) (cBin ixT (cVar 1) (cK (.int 1)))) cNil))))
def cm_plus : Fc := fnM false 2 (cRet (cCall cm_lowest (cCons (cBin addT (cBin mulT (cBin ixT (cVar 0) (cK (.int 0))) (cBin ixT (cVar 1) (cK (.int 1)))) (cBin mulT (cBin ixT (cVar 1) (cK (.int 0))) (cBin ixT (cVar 0) (cK (.int 1))))) (cCons (cBin mulT (cBin ixT (cVar 0) (cK (.int 1))) (cBin ixT (cVar 1) (cK (.int 1)))) cNil))))
def cm_times : Fc := fnM false 2 (cRet (cCall cm_lowest (cCons (cBin mulT (cBin ixT (cVar 0) (cK (.int 0))) (cBin ixT (cVar 1) (cK (.int 0)))) (cCons (cBin mulT (cBin ixT (cVar 0) (cK (.int 1))) (cBin ixT (cVar 1) (cK (.int 1)))) cNil))))
def cm_over : Fc := fnM false 2 (cRet (cCall cm_lowest (cCons (cBin mulT (cBin ixT (cVar 0) (cK (.int 0))) (cBin ixT (cVar 1) (cK (.int 1)))) (cCons (cBin mulT (cBin ixT (cVar 0) (cK (.int 1))) (cBin ixT (cVar 1) (cK (.int 0)))) cNil))))
def cm_is_less : Fc := fnM false 2 (cRet (cBin ltT (cBin mulT (cBin ixT (cVar 0) (cK (.int 0))) (cBin ixT (cVar 1) (cK (.int 1)))) (cBin mulT (cBin ixT (cVar 1) (cK (.int 0))) (cBin ixT (cVar 0) (cK (.int 1))))))
def cm_scaled : Fc := fnM false 2 (cRet (cCall cm_lowest (cCons (cBin mulT (cBin ixT (cVar 0) (cK (.int 0))) (cVar 1)) (cCons (cBin ixT (cVar 0) (cK (.int 1))) cNil))))
def cm_is_rate : Fc := fnM false 1 (cRet (cAndV (cCall cm_is_fraction (cCons (cVar 0) cNil)) (cAndV (cBin geT (cCall cm_compared (cCons (cVar 0) (cCons (cK (.tup [.int 0, .int 1])) cNil))) (cK (.int 0))) (cBin leT (cCall cm_compared (cCons (cVar 0) (cCons (cK (.tup [.int 1, .int 1])) cNil))) (cK (.int 0))))))
def cm_is_shift : Fc := fnM false 1 (cRet (cAndV (cCall cm_is_fraction (cCons (cVar 0) cNil)) (cAndV (cBin geT (cCall cm_compared (cCons (cVar 0) (cCons (cK (.tup [.int 0, .int 1])) cNil))) (cK (.int 0))) (cBin ltT (cCall cm_compared (cCons (cVar 0) (cCons (cK (.tup [.int 1, .int 1])) cNil))) (cK (.int 0))))))
def cm_is_line : Fc := fnM false 1 (cRet (cAndV (cUn (isiT .tuple) (cVar 0)) (cAndV (cBin eqT (cApp lenT (cCons (cVar 0) cNil)) (cK (.int 2))) (cAndV (cCall cm_is_rate (cCons (cBin ixT (cVar 0) (cK (.int 0))) cNil)) (cCall cm_is_shift (cCons (cBin ixT (cVar 0) (cK (.int 1))) cNil))))))
def cm_is_part : Fc := fnM false 1 (cRet (cAndV (cCall cm_is_fraction (cCons (cVar 0) cNil)) (cBin geT (cBin ixT (cVar 0) (cK (.int 0))) (cK (.int 0)))))
def cm_check_part : Fc := fnM false 1 (cIfS (cNotC (cB (cCall cm_is_part (cCons (cVar 0) cNil))))
 (cRaise "InvalidFraction" (cVar 0))
 cNx)
def cm_check_above : Fc := fnM false 1 (cIfS (cOrC (cNotC (cB (cCall cm_is_part (cCons (cVar 0) cNil)))) (cB (cBin eqT (cBin ixT (cVar 0) (cK (.int 0))) (cK (.int 0)))))
 (cRaise "InvalidFraction" (cVar 0))
 cNx)
def cm_check_rate : Fc := fnM false 1 (cIfS (cNotC (cB (cCall cm_is_rate (cCons (cVar 0) cNil))))
 (cRaise "InvalidFraction" (cVar 0))
 cNx)
def cm_is_row : Fc := fnM false 2 (cSeq (cIfS (cOrC (cNotC (cB (cUn (isiT .list) (cVar 0)))) (cB (cBin gtT (cApp lenT (cCons (cVar 0) cNil)) (cK (.int 60)))))
 (cRet (cK (.bl false)))
 cNx)
 (cRet (cBin eqT (cLc [1] (cItems (cVar 0)) (gSet 1) (cNotC (cB (cCall cm_is_below (cCons (cVar 1) (cCons (cK (.int 2)) cNil))))) (cVar 1)) (cLst cNil))))
def cm_check_row : Fc := fnM false 1 (cIfS (cNotC (cB (cCall cm_is_row (cCons (cVar 0) cNil))))
 (cRaise "InvalidRow" (cVar 0))
 cNx)
def cm_heights : Fc := fnM false 3 (cSeq (cSet 1 (cLst (cCons (cK (.int 0)) cNil)))
 (cSeq (cFor (cItems (cVar 0)) (gSet 2)
 (cApnd 1 (cBin addT (cPix 1 (cUn negT (cK (.int 1)))) (cVar 2))))
 (cRet (cVar 1))))
def cm_law_gcd : Fc := fnM false 3 (cSeq (cPar2 0 1 (cCons (cApp absT (cCons (cVar 0) cNil)) (cCons (cApp absT (cCons (cVar 1) cNil)) cNil)))
 (cSeq (cFor (cRange1 (cCons (cK (.int 100000)) cNil)) (gSet 2)
 (cSeq (cIfS (cB (cBin eqT (cVar 1) (cK (.int 0))))
 cBk
 cNx)
 (cPar2 0 1 (cCons (cVar 1) (cCons (cBin modT (cApp intT (cCons (cVar 0) cNil)) (cVar 1)) cNil)))))
 (cRet (cVar 0))))
def cm_law_low : Fc := fnM false 3 (cSeq (cSet 2 (cCall cm_law_gcd (cCons (cVar 0) (cCons (cVar 1) cNil))))
 (cRet (cTup (cCons (cBin fdivT (cVar 0) (cVar 2)) (cCons (cBin fdivT (cVar 1) (cVar 2)) cNil)))))
def cm_law_minus : Fc := fnM false 2 (cRet (cCall cm_law_low (cCons (cBin subT (cBin mulT (cBin ixT (cVar 0) (cK (.int 0))) (cBin ixT (cVar 1) (cK (.int 1)))) (cBin mulT (cBin ixT (cVar 1) (cK (.int 0))) (cBin ixT (cVar 0) (cK (.int 1))))) (cCons (cBin mulT (cBin ixT (cVar 0) (cK (.int 1))) (cBin ixT (cVar 1) (cK (.int 1)))) cNil))))
def cm_law_plus : Fc := fnM false 2 (cRet (cCall cm_law_low (cCons (cBin addT (cBin mulT (cBin ixT (cVar 0) (cK (.int 0))) (cBin ixT (cVar 1) (cK (.int 1)))) (cBin mulT (cBin ixT (cVar 1) (cK (.int 0))) (cBin ixT (cVar 0) (cK (.int 1))))) (cCons (cBin mulT (cBin ixT (cVar 0) (cK (.int 1))) (cBin ixT (cVar 1) (cK (.int 1)))) cNil))))
def cm_law_times : Fc := fnM false 2 (cRet (cCall cm_law_low (cCons (cBin mulT (cBin ixT (cVar 0) (cK (.int 0))) (cBin ixT (cVar 1) (cK (.int 0)))) (cCons (cBin mulT (cBin ixT (cVar 0) (cK (.int 1))) (cBin ixT (cVar 1) (cK (.int 1)))) cNil))))
def cm_law_less : Fc := fnM false 2 (cRet (cBin ltT (cBin mulT (cBin ixT (cVar 0) (cK (.int 0))) (cBin ixT (cVar 1) (cK (.int 1)))) (cBin mulT (cBin ixT (cVar 1) (cK (.int 0))) (cBin ixT (cVar 0) (cK (.int 1))))))
def cm_law_heights : Fc := fnM false 3 (cSeq (cSet 1 (cLst (cCons (cK (.int 0)) cNil)))
 (cSeq (cFor (cItems (cVar 0)) (gSet 2)
 (cApnd 1 (cBin addT (cPix 1 (cUn negT (cK (.int 1)))) (cVar 2))))
 (cRet (cVar 1))))

theorem eqI' {a b : Int} {z : Bool} (h : eqB (.int a) (.int b) = z) : z = decide (a = b) := by
  subst h
  show (a == b) = _
  by_cases e : a = b
  · subst e; simp
  · simp [e]
theorem lowest_ok {a b : Int} (hb : 0 < b) (bb : Bd 8000 b) (q : χ (lowF a b) []) : WR (cm_lowest [.int a, .int b]) χ ζ := by
  have g := gcd_pos' (a := a) hb
  have gb : Bd 8000 (Int.gcd a b : Int) := bb.le (by
    have := Nat.le_of_dvd (show 0 < b.natAbs by omega) (Nat.gcd_dvd_right a.natAbs b.natAbs)
    exact this)
  refine WR_fn ?_
  walk_at "norm"
  walk_at "ew"
  walk_at "norm"
  walk_at "ew"
  refine ⟨fun hz => ?_, fun _ => ?_⟩
  · have := of_decide_eq_true hz
    omega
  · walk_at "norm"
    walk_at "ew"
    refine ⟨_, fdivT_bd g gb, ?_⟩
    walk_at "ew"
    refine ⟨_, fdivT_bd g gb, ?_⟩
    walk_at "ew"
    exact q
theorem gcdL_ok {a b : Int} (bb : Bd 8000 b) (q : χ (.int (Int.gcd a b : Int)) []) : WR (cm_law_gcd [.int a, .int b]) χ ζ := by
  have bb : b.natAbs < 2 ^ 8000 := bb
  have qq : χ (.int ((Nat.gcd a.natAbs b.natAbs : Nat) : Int)) [] := q
  have ea : (if 0 ≤ a then a else -a) = (a.natAbs : Int) := by split <;> omega
  refine WR_fn ?_
  walk_at "norm"
  walk_at "ev"
  have ab : ∀ x : Int, absT [.int x] = some (.int (x.natAbs : Int)) := fun x => by
    simp only [absT]
    first | (congr 2; done) | (congr 2; split <;> omega) | (congr 2; omega)
  refine ⟨_, _, rfl, ?_⟩
  have ab' := ab a
  have ab2 := ab b
  simp only [absT, Option.some.injEq, T.int.injEq] at ab' ab2
  rw [ab', ab2]
  generalize a.natAbs = a at *
  generalize b.natAbs = b at *
  walk_at "norm"
  walk_at "ev"
  refine WS_for (fun ts i s => ∃ (x y : Nat) (z : Option T), s = [some (.int x), some (.int y), z] ∧ Nat.gcd x y = Nat.gcd a b ∧ (i = 0 → x = a ∧ y = b) ∧ (1 ≤ i → y < x ∧ x * y * 2 ^ (i - 1) ≤ b * b) ∧ ts = rangeT 0 100000) ?_
  walk_at "ev"
  refine ⟨_, rfl, lim62_of (by decide) (by decide), ⟨a, b, none, rfl, rfl, (fun _ => ⟨rfl, rfl⟩), (fun h => by omega), rfl⟩, fun i t s ht hs => ?_, fun s hs => ?_⟩
  · obtain ⟨x, y, z, rfl, e, h0, h1, -⟩ := hs
    obtain ⟨rfl, hi⟩ := range0_get ht
    refine ⟨_, rfl, ?_⟩
    walk_at "norm"
    walk_at "ev"
    refine ⟨fun hz => ?_, fun hz => ?_⟩
    · have hz : (y : Int) = 0 := of_decide_eq_true (eqI' (b := 0) hz).symm
      have hz : y = 0 := by omega
      subst hz
      rw [Nat.gcd_zero_right] at e
      walk_at "ev"
      refine WS_bk ?_
      walk_at "ev"
      rw [e]
      exact qq
    · have hz : ¬ (y : Int) = 0 := of_decide_eq_false (eqI' (b := 0) hz).symm
      have hz : y ≠ 0 := by omega
      walk_at "ev"
      refine ⟨_, modT_of (by omega), ?_⟩
      walk_at "ev"
      refine ⟨_, _, rfl, ?_⟩
      walk_at "norm"
      have hm := Nat.mod_lt x (show y > 0 by omega)
      refine ⟨y, x % y, some (.int i), ?_, by rw [Nat.gcd_comm, ← Nat.gcd_rec, Nat.gcd_comm, e], (fun h => by omega), (fun _ => ⟨hm, ?_⟩), trivial⟩
      · rw [Int.natCast_emod]
      · rw [Nat.add_sub_cancel]
        by_cases h : i = 0
        · obtain ⟨hx, hy⟩ := h0 h
          rw [h, Nat.pow_zero, Nat.mul_one, hy]
          exact Nat.mul_le_mul_left b (by rw [← hy]; exact Nat.le_of_lt hm)
        · obtain ⟨k1, k2⟩ := h1 (by omega)
          have hd := Nat.div_add_mod x y
          have hq : 1 ≤ x / y := Nat.div_pos (Nat.le_of_lt k1) (by omega)
          have h2 : y * 1 ≤ y * (x / y) := Nat.mul_le_mul_left y hq
          have h3 : x % y * 2 ≤ x := by omega
          have h4 : y * (x % y) * 2 ≤ x * y := by
            rw [Nat.mul_assoc, Nat.mul_comm x y]
            exact Nat.mul_le_mul_left y h3
          obtain ⟨j, hj⟩ : ∃ j, i = j + 1 := ⟨i - 1, by omega⟩
          rw [hj, Nat.add_sub_cancel] at k2
          rw [hj, Nat.pow_succ, Nat.mul_comm (2 ^ j) 2, ← Nat.mul_assoc]
          exact Nat.le_trans (Nat.mul_le_mul_right _ h4) k2
  · obtain ⟨x, y, z, rfl, e, h0, h1, -⟩ := hs
    rw [rangeT_len] at h0 h1
    obtain ⟨k1, k2⟩ := h1 (by decide)
    have hy : y = 0 := by
      refine Classical.byContradiction fun hy => ?_
      have hx : 1 ≤ x * y := Nat.mul_pos (by omega) (by omega)
      have h5 : 1 * 2 ^ 16000 ≤ x * y * 2 ^ ((100000 - 0 : Int).toNat - 1) := Nat.mul_le_mul hx (Nat.pow_le_pow_right (by decide) (by decide))
      have h6 : b * b < 2 ^ 8000 * 2 ^ 8000 := Nat.mul_lt_mul'' bb bb
      have h7 : 2 ^ 8000 * 2 ^ 8000 = 1 * 2 ^ 16000 := by rw [← Nat.pow_add, Nat.one_mul]
      rw [h7] at h6
      exact absurd (Nat.le_trans h5 k2) (Nat.not_le.mpr h6)
    subst hy
    rw [Nat.gcd_zero_right] at e
    walk_at "ev"
    rw [e]
    exact qq
theorem lowL_ok {a b : Int} (hb : 0 < b) (bb : Bd 8000 b) (q : χ (lowF a b) []) : WR (cm_law_low [.int a, .int b]) χ ζ := by
  have g := gcd_pos' (a := a) hb
  have gb : Bd 8000 (Int.gcd a b : Int) := bb.le (by
    have := Nat.le_of_dvd (show 0 < b.natAbs by omega) (Nat.gcd_dvd_right a.natAbs b.natAbs)
    exact this)
  refine WR_fn ?_
  walk_at "norm"
  walk_at "ew"
  refine gcdL_ok bb ?_
  walk_at "norm"
  walk_at "ew"
  refine ⟨_, fdivT_bd g gb, ?_⟩
  walk_at "ew"
  refine ⟨_, fdivT_bd g gb, ?_⟩
  walk_at "ew"
  exact q
theorem fracok {a b : Int} (h1 : 0 < b) (g : Int.gcd a b = 1) (q : χ (.bl true) []) : WR (cm_is_fraction [fr a b]) χ ζ := by
  refine WR_fn ?_
  walk_at "norm"
  walk_at "ew"
  refine ⟨.int 2, rfl, ?_⟩
  walk_at "ew"
  refine ⟨(fun z => nomatch z), fun _ => ?_⟩
  walk_at "ew"
  refine WR.of_eq whole_ok ?_
  walk_at "ew"
  refine WR.of_eq whole_ok ?_
  walk_at "ew"
  refine ⟨fun _ => ?_, fun hz => ?_⟩
  · have g' : ((Nat.gcd a.natAbs b.natAbs : Nat) : Int) = 1 := congrArg Nat.cast g
    walk_at "ew"
    rw [g']
    exact q
  · have := of_decide_eq_false hz
    omega
/-- which of two is greater -/
def cmpI (x : Int) : Int := bInt (decide (x > 0)) - bInt (decide (x < 0))
theorem cmpI_cases (x : Int) : x > 0 ∧ cmpI x = 1 ∨ x = 0 ∧ cmpI x = 0 ∨ x < 0 ∧ cmpI x = -1 := by
  unfold cmpI
  rcases Int.lt_trichotomy x 0 with h | h | h
  · refine .inr (.inr ⟨h, ?_⟩)
    rw [decide_eq_false (show ¬ x > 0 by omega), decide_eq_true h]; rfl
  · subst h
    exact .inr (.inl ⟨rfl, rfl⟩)
  · refine .inl ⟨h, ?_⟩
    rw [decide_eq_true h, decide_eq_false (show ¬ x < 0 by omega)]; rfl
theorem comp_ok {a b c d : Int} (ha : Bd 8000 a) (hb : Bd 8000 b) (hc : Bd 8000 c) (hd : Bd 8000 d) (q : χ (.int (cmpI (a * d - c * b))) []) : WR (cm_compared [fr a b, fr c d]) χ ζ := by
  refine WR_fn ?_
  walk_at "norm"
  walk_at "ew"
  refine ⟨_, mulT_bd ha hd, ?_⟩
  walk_at "ew"
  refine ⟨_, mulT_bd hc hb, ?_⟩
  walk_at "ew"
  walk_at "norm"
  walk_at "ew"
  exact q
theorem bd0 : Bd 200 0 := Nat.pow_pos (by decide)
theorem bd1 : Bd 200 1 := Nat.one_lt_pow (by decide) (by decide)
theorem bd {i : Int} (h1 : -1000000000000000000000000000000000000000000000000000000000000 ≤ i := by omega) (h2 : i ≤ 1000000000000000000000000000000000000000000000000000000000000 := by omega) : Bd 200 i := Bd.of (N := 1000000000000000000000000000000000000000000000000000000000000) h1 h2 (by decide)
theorem rateok {a b : Int} (h1 : 0 < b) (h0 : 0 ≤ a) (h2 : a ≤ b) (g : Int.gcd a b = 1) (bb : Bd 8000 b) (q : χ (.bl true) []) : WR (cm_is_rate [fr a b]) χ ζ := by
  have ba : Bd 8000 a := bb.le (by omega)
  refine WR_fn ?_
  walk_at "norm"
  walk_at "ew"
  refine fracok h1 g ?_
  walk_at "ew"
  refine comp_ok ba bb bd0.mono bd1.mono ?_
  have c1 := cmpI_cases (a * 1 - 0 * b)
  walk_at "ew"
  refine ⟨fun _ => ?_, fun z => ?_⟩
  · walk_at "ew"
    refine comp_ok ba bb bd1.mono bd1.mono ?_
    have c2 := cmpI_cases (a * 1 - 1 * b)
    walk_at "ew"
    rw [decide_eq_true (by omega)]
    exact q
  · have := of_decide_eq_false z
    omega
theorem shiftok {a b : Int} (h0 : 0 ≤ a) (h2 : a < b) (g : Int.gcd a b = 1) (bb : Bd 8000 b) (q : χ (.bl true) []) : WR (cm_is_shift [fr a b]) χ ζ := by
  have ba : Bd 8000 a := bb.le (by omega)
  refine WR_fn ?_
  walk_at "norm"
  walk_at "ew"
  refine fracok (by omega) g ?_
  walk_at "ew"
  refine comp_ok ba bb bd0.mono bd1.mono ?_
  have c1 := cmpI_cases (a * 1 - 0 * b)
  walk_at "ew"
  refine ⟨fun _ => ?_, fun z => ?_⟩
  · walk_at "ew"
    refine comp_ok ba bb bd1.mono bd1.mono ?_
    have c2 := cmpI_cases (a * 1 - 1 * b)
    walk_at "ew"
    rw [decide_eq_true (by omega)]
    exact q
  · have := of_decide_eq_false z
    omega
theorem partok {a b : Int} (h1 : 0 < b) (h0 : 0 ≤ a) (g : Int.gcd a b = 1) (q : χ (.bl true) []) : WR (cm_is_part [fr a b]) χ ζ := by
  refine WR_fn ?_
  walk_at "norm"
  walk_at "ew"
  refine fracok h1 g ?_
  walk_at "ew"
  rw [decide_eq_true h0]
  exact q
theorem cpartok {a b : Int} (h1 : 0 < b) (h0 : 0 ≤ a) (g : Int.gcd a b = 1) (q : χ .non []) : WR (cm_check_part [fr a b]) χ ζ := by
  refine WR_fn ?_
  walk_at "norm"
  walk_at "ew"
  refine partok h1 h0 g ?_
  walk_at "ew"
  exact q
theorem cabove_ok {a b : Int} (h1 : 0 < b) (h0 : 0 < a) (g : Int.gcd a b = 1) (q : χ .non []) : WR (cm_check_above [fr a b]) χ ζ := by
  refine WR_fn ?_
  walk_at "norm"
  walk_at "ew"
  refine partok h1 (by omega) g ?_
  walk_at "ew"
  refine ⟨fun z => ?_, fun _ => ?_⟩
  · have := of_decide_eq_true (eqI' (b := 0) z).symm
    omega
  · walk_at "ew"
    exact q
theorem crateok {a b : Int} (h1 : 0 < b) (h0 : 0 ≤ a) (h2 : a ≤ b) (g : Int.gcd a b = 1) (bb : Bd 8000 b) (q : χ .non []) : WR (cm_check_rate [fr a b]) χ ζ := by
  refine WR_fn ?_
  walk_at "norm"
  walk_at "ew"
  refine rateok h1 h0 h2 g bb ?_
  walk_at "ew"
  exact q
/-! ### reckoning -/
theorem minusok {a b c d : Int} (hb : 0 < b) (hd : 0 < d) (ba : Bd 3000 a) (bb : Bd 3000 b) (bc : Bd 3000 c) (be : Bd 3000 d) (q : χ (lowF (a * d - c * b) (b * d)) []) : WR (cm_minus [fr a b, fr c d]) χ ζ := by
  refine WR_fn ?_
  walk_at "norm"
  walk_at "ew"
  refine ⟨_, mulT_bd ba.mono be.mono, ?_⟩
  walk_at "ew"
  refine ⟨_, mulT_bd bc.mono bb.mono, ?_⟩
  walk_at "ew"
  refine ⟨_, mulT_bd bb.mono be.mono, ?_⟩
  walk_at "ew"
  exact lowest_ok (Int.mul_pos hb hd) (bb.mul be).mono q
theorem plusok {a b c d : Int} (hb : 0 < b) (hd : 0 < d) (ba : Bd 3000 a) (bb : Bd 3000 b) (bc : Bd 3000 c) (be : Bd 3000 d) (q : χ (lowF (a * d + c * b) (b * d)) []) : WR (cm_plus [fr a b, fr c d]) χ ζ := by
  refine WR_fn ?_
  walk_at "norm"
  walk_at "ew"
  refine ⟨_, mulT_bd ba.mono be.mono, ?_⟩
  walk_at "ew"
  refine ⟨_, mulT_bd bc.mono bb.mono, ?_⟩
  walk_at "ew"
  refine ⟨_, mulT_bd bb.mono be.mono, ?_⟩
  walk_at "ew"
  exact lowest_ok (Int.mul_pos hb hd) (bb.mul be).mono q
theorem timesok {a b c d : Int} (hb : 0 < b) (hd : 0 < d) (ba : Bd 3000 a) (bb : Bd 3000 b) (bc : Bd 3000 c) (be : Bd 3000 d) (q : χ (lowF (a * c) (b * d)) []) : WR (cm_times [fr a b, fr c d]) χ ζ := by
  refine WR_fn ?_
  walk_at "norm"
  walk_at "ew"
  refine ⟨_, mulT_bd ba.mono bc.mono, ?_⟩
  walk_at "ew"
  refine ⟨_, mulT_bd bb.mono be.mono, ?_⟩
  walk_at "ew"
  exact lowest_ok (Int.mul_pos hb hd) (bb.mul be).mono q
theorem overok {a b c d : Int} (hb : 0 < b) (hc : 0 < c) (ba : Bd 3000 a) (bb : Bd 3000 b) (bc : Bd 3000 c) (be : Bd 3000 d) (q : χ (lowF (a * d) (b * c)) []) : WR (cm_over [fr a b, fr c d]) χ ζ := by
  refine WR_fn ?_
  walk_at "norm"
  walk_at "ew"
  refine ⟨_, mulT_bd ba.mono be.mono, ?_⟩
  walk_at "ew"
  refine ⟨_, mulT_bd bb.mono bc.mono, ?_⟩
  walk_at "ew"
  exact lowest_ok (Int.mul_pos hb hc) (bb.mul bc).mono q
theorem scaledok {a b n : Int} (hb : 0 < b) (ba : Bd 8000 a) (bb : Bd 8000 b) (bn : Bd 8000 n) (q : χ (lowF (a * n) b) []) : WR (cm_scaled [fr a b, .int n]) χ ζ := by
  refine WR_fn ?_
  walk_at "norm"
  walk_at "ew"
  refine ⟨_, mulT_bd ba bn, ?_⟩
  walk_at "ew"
  exact lowest_ok hb bb q
theorem lessok {a b c d : Int} (ba : Bd 8000 a) (bb : Bd 8000 b) (bc : Bd 8000 c) (be : Bd 8000 d) (q : χ (.bl (decide (a * d < c * b))) []) : WR (cm_is_less [fr a b, fr c d]) χ ζ := by
  refine WR_fn ?_
  walk_at "norm"
  walk_at "ew"
  refine ⟨_, mulT_bd ba be, ?_⟩
  walk_at "ew"
  refine ⟨_, mulT_bd bc bb, ?_⟩
  walk_at "ew"
  exact q
theorem minusL {a b c d : Int} (hb : 0 < b) (hd : 0 < d) (ba : Bd 3000 a) (bb : Bd 3000 b) (bc : Bd 3000 c) (be : Bd 3000 d) (q : χ (lowF (a * d - c * b) (b * d)) []) : WR (cm_law_minus [fr a b, fr c d]) χ ζ := by
  refine WR_fn ?_
  walk_at "norm"
  walk_at "ew"
  refine ⟨_, mulT_bd ba.mono be.mono, ?_⟩
  walk_at "ew"
  refine ⟨_, mulT_bd bc.mono bb.mono, ?_⟩
  walk_at "ew"
  refine ⟨_, mulT_bd bb.mono be.mono, ?_⟩
  walk_at "ew"
  exact lowL_ok (Int.mul_pos hb hd) (bb.mul be).mono q
theorem plusL {a b c d : Int} (hb : 0 < b) (hd : 0 < d) (ba : Bd 3000 a) (bb : Bd 3000 b) (bc : Bd 3000 c) (be : Bd 3000 d) (q : χ (lowF (a * d + c * b) (b * d)) []) : WR (cm_law_plus [fr a b, fr c d]) χ ζ := by
  refine WR_fn ?_
  walk_at "norm"
  walk_at "ew"
  refine ⟨_, mulT_bd ba.mono be.mono, ?_⟩
  walk_at "ew"
  refine ⟨_, mulT_bd bc.mono bb.mono, ?_⟩
  walk_at "ew"
  refine ⟨_, mulT_bd bb.mono be.mono, ?_⟩
  walk_at "ew"
  exact lowL_ok (Int.mul_pos hb hd) (bb.mul be).mono q
theorem timesL {a b c d : Int} (hb : 0 < b) (hd : 0 < d) (ba : Bd 3000 a) (bb : Bd 3000 b) (bc : Bd 3000 c) (be : Bd 3000 d) (q : χ (lowF (a * c) (b * d)) []) : WR (cm_law_times [fr a b, fr c d]) χ ζ := by
  refine WR_fn ?_
  walk_at "norm"
  walk_at "ew"
  refine ⟨_, mulT_bd ba.mono bc.mono, ?_⟩
  walk_at "ew"
  refine ⟨_, mulT_bd bb.mono be.mono, ?_⟩
  walk_at "ew"
  exact lowL_ok (Int.mul_pos hb hd) (bb.mul be).mono q
theorem lessL {a b c d : Int} (ba : Bd 8000 a) (bb : Bd 8000 b) (bc : Bd 8000 c) (be : Bd 8000 d) (q : χ (.bl (decide (a * d < c * b))) []) : WR (cm_law_less [fr a b, fr c d]) χ ζ := by
  refine WR_fn ?_
  walk_at "norm"
  walk_at "ew"
  refine ⟨_, mulT_bd ba be, ?_⟩
  walk_at "ew"
  refine ⟨_, mulT_bd bc bb, ?_⟩
  walk_at "ew"
  exact q
/-! ### of lowest terms -/
theorem low_lt {a b c d : Int} (hb : 0 < b) (hd : 0 < d) : lO a b * lU c d < lO c d * lU a b ↔ a * d < c * b := by
  have e1 : lO a b * b = a * lU a b := low_cross
  have e2 : lO c d * d = c * lU c d := low_cross
  have p1 : 0 < lU a b := lU_pos hb
  have p2 : 0 < lU c d := lU_pos hd
  generalize lO a b = x at *
  generalize lO c d = y at *
  generalize lU a b = u at *
  generalize lU c d = v at *
  have pbd : 0 < b * d := Int.mul_pos hb hd
  have puv : 0 < u * v := Int.mul_pos p1 p2
  have f1 : (x * v) * (b * d) = (a * d) * (u * v) := by grind
  have f2 : (y * u) * (b * d) = (c * b) * (u * v) := by grind
  constructor
  · intro h
    have := Int.mul_lt_mul_of_pos_right h pbd
    rw [f1, f2] at this
    exact Int.lt_of_mul_lt_mul_right this (Int.le_of_lt puv)
  · intro h
    have := Int.mul_lt_mul_of_pos_right h puv
    rw [← f1, ← f2] at this
    exact Int.lt_of_mul_lt_mul_right this (Int.le_of_lt pbd)
/-! ### rows -/
def Bits (r : List Int) : Prop := ∀ x ∈ r, 0 ≤ x ∧ x < 2
def hts (r : List Int) (m : Nat) : List Int := (List.range (m + 1)).map fun j => (r.take j).sum
theorem atI_end (ts : List T) (t : T) : atI (ts ++ [t]) (-1) = some t := by
  have e : ixN (ts ++ [t]).length (-1) = some ts.length := by
    rw [List.length_append, List.length_singleton]
    unfold ixN
    first | (simp; done) | (simp; omega) | skip
  unfold atI
  rw [e]
  simp
theorem hts_succ {r : List Int} {i : Nat} (h : i < r.length) : hts r (i + 1) = hts r i ++ [(r.take i).sum + r[i]] := by
  unfold hts
  rw [List.range_succ, List.map_append]
  simp only [List.map_cons, List.map_nil]
  rw [List.take_succ_eq_append_getElem h, List.sum_append]
  simp
theorem hts_last (r : List Int) (i : Nat) : ∃ p, hts r i = p ++ [(r.take i).sum] := by
  unfold hts
  rw [List.range_succ, List.map_append]
  exact ⟨_, rfl⟩
theorem hts_len (r : List Int) (m : Nat) : (hts r m).length = m + 1 := by unfold hts; rw [List.length_map, List.length_range]
theorem hts_get {r : List Int} {m k : Nat} (h : k < (hts r m).length) : (hts r m)[k] = (r.take k).sum := by simp [hts]
theorem isrowok {r : List Int} (h2 : r.length ≤ 60) (hb : Bits r) (q : χ (.bl true) []) : WR (cm_is_row [rowT r]) χ ζ := by
  refine WR_fn ?_
  walk_at "norm"
  walk_at "ev"
  refine ⟨_, lenT_row (by simp only [LIM]; omega), ?_⟩
  walk_at "ev"
  refine ⟨fun hz => ?_, fun _ => ?_⟩
  · have := of_decide_eq_true hz
    omega
  · walk_at "ev"
    refine WE_lcM .int r (fun _ => false) (fun a => .int a) ?_
    walk_at "ev"
    refine ⟨_, .inl rfl, rfl, by omega, (fun k hk => by rw [List.mem_singleton.mp hk]; show 1 < 2; decide), fun a ha => ?_, ?_⟩
    · refine ⟨_, rfl, ?_⟩
      walk_at "ev"
      refine WR.of_eq below_ok ?_
      have hd : decide (0 ≤ a ∧ a < 2) = true := decide_eq_true (hb a ha)
      rw [hd]
      walk_at "ev"
      exact ⟨rfl, (fun _ => rfl), (fun h => nomatch h)⟩
    · have e : T.lst ((r.filter fun _ => false).map fun a => T.int a) = rowT [] := by simp [rowT]
      rw [e]
      walk_at "ev"
      exact ⟨by show 0 ≤ LIM; decide, _, eqT_row [] [], q⟩
theorem crowok {r : List Int} (h2 : r.length ≤ 60) (hb : Bits r) (q : χ .non []) : WR (cm_check_row [rowT r]) χ ζ := by
  refine WR_fn ?_
  walk_at "norm"
  walk_at "ev"
  refine isrowok h2 hb ?_
  walk_at "ev"
  exact q
theorem heightsL {r : List Int} (h2 : r.length ≤ 10000) (q : χ (rowT (hts r r.length)) []) : WR (cm_law_heights [rowT r]) χ ζ := by
  refine WR_fn ?_
  walk_at "norm"
  walk_at "ev"
  refine ⟨by show 1 ≤ LIM; decide, ?_⟩
  walk_at "norm"
  walk_at "ev"
  refine WS_for (fun ts i s => ∃ x, s = [some (rowT r), some (rowT (hts r i)), x] ∧ ts = r.map .int) ?_
  walk_at "ev"
  refine ⟨_, .inl rfl, ⟨none, rfl, rfl⟩, fun i t s ht hs => ?_, fun s hs => ?_⟩
  · obtain ⟨x, rfl, -⟩ := hs
    rw [List.getElem?_map] at ht
    cases hx : r[i]? with
    | none => rw [hx] at ht; cases ht
    | some a =>
      rw [hx] at ht
      cases ht
      obtain ⟨hi, hx⟩ := List.getElem?_eq_some_iff.mp hx
      subst hx
      refine ⟨_, rfl, ?_⟩
      obtain ⟨p, hp⟩ := hts_last r i
      walk_at "norm"
      walk_at "ev"
      refine ⟨_, _, .int (r.take i).sum, rfl, rfl, ?_, ?_⟩
      · rw [hp, List.map_append]
        exact atI_end _ _
      · walk_at "ev"
        refine ⟨_, rfl, ?_, ?_⟩
        · unfold hts; simp; omega
        · walk_at "norm"
          refine ⟨some (.int r[i]), ?_, trivial⟩
          rw [hts_succ hi]
          unfold rowT
          simp
  · obtain ⟨x, rfl, -⟩ := hs
    walk_at "ev"
    rw [List.length_map]
    exact q
theorem heightsok {r : List Int} (h2 : r.length ≤ 10000) (q : χ (rowT (hts r r.length)) []) : WR (cm_heights [rowT r]) χ ζ := heightsL h2 q
theorem sameok {t : T} (h : pl 11 t = true) (q : χ (.bl true) []) : WR (cm_law_same 12 [t, t]) χ ζ := WR.of_eq (same_refl 11 _ h) q
end
end Tc

/-! Te16: loops over what is refused; rows that are drawn; small helps. -/
namespace Tc
open PySem PySem.Spec L2
section
variable {α : Type} {r : Sl} {ξ : Xp} {nx bk ct : Sl → Prop} {rt : T → Sl → Prop} {ex : Xp} {k : Nat}
theorem WE.of_eq {o : Out α} {a : α} {ψ : α → Sl → Prop} (e : o = .ok a r) (q : ψ a r) : WE o ψ ξ := by rw [e]; exact ⟨q⟩
theorem WE_kr {E : Sl → Out α} {a : α} {ψ : α → Sl → Prop} (e : E r = .ok a r) (q : ψ a r) : WE (E r) ψ ξ := WE.of_eq e q
theorem lamsT_at {b : T} (h : r[k]? = some (some b)) (hp : plT b = true) : ∀ ls : List (LamD × List Nat), (∀ p ∈ ls, ∀ i ∈ p.2, i = k) → lamsT ls r = some (ls.map fun p => .clo p.1 (p.2.map fun _ => b))
  | [], _ => rfl
  | (D, is) :: ls, hc => by
    have ih := lamsT_at h hp ls fun p hp' => hc p (List.mem_cons_of_mem _ hp')
    have key : ∀ is : List Nat, (∀ i ∈ is, i = k) → capT is r = some (is.map fun _ => b) := by
      intro is
      induction is with
      | nil => intro _; rfl
      | cons i is ih2 =>
        intro hi
        have e := hi i (List.mem_cons_self ..)
        subst e
        unfold capT
        rw [h]
        simp only [hp, if_true]
        rw [ih2 fun j hj => hi j (List.mem_cons_of_mem _ hj)]
        rfl
    unfold lamsT
    rw [key is (hc (D, is) (List.mem_cons_self ..)), ih]
    rfl
theorem plTs_map {b : T} (hp : plT b = true) : ∀ is : List Nat, plTs (is.map fun _ => b) = true
  | [] => rfl
  | _ :: is => by
    show (plT b && plTs (is.map fun _ => b)) = true
    rw [hp, plTs_map hp is]; rfl
/-- what is refused: b by error n, from all of these -/
def RefB (mA : LamD → List T → Res) (ls : List (LamD × List Nat)) (n : Str) (b : T) : Prop := plT b = true ∧ repB b = true ∧ ∀ p ∈ ls, mA p.1 (p.2.map fun _ => b) = .ex n b
/-- a loop over values that are refused by all of these calls -/
theorem WS_refN (errs : List Str) (mA : LamD → List T → Res) {I : Ac} {ls : List (LamD × List Nat)} {n w : Str} {bads : List T} (hw : Word n w) (hn : n ∈ errs) (hI : I r = .ok bads r) (hb : ∀ b ∈ bads, RefB mA ls n b) (q : ∀ c, nx (r.set k c)) (hc : ∀ p ∈ ls, ∀ i ∈ p.2, i = k := by decide) (hl : decide (ls.length < 1000000) = true := by rfl) (hk' : Nat.blt k r.length = true := by rfl) :
    WS (cFor I (gSet k) (cIfS (cNotC (cB (cCallLs (allRefusedM errs mA) ls (cCons (cK (.str w)) (cCons (cVar k) cNil))))) (cRet (cK (.bl false))) cNx) r) nx rt bk ct ex := by
  have hk : k < r.length := Nat.le_of_ble_eq_true hk'
  refine WS_for (fun ts i s => ts = bads ∧ ∃ c, s = r.set k c) ?_
  refine WE.of_eq hI ⟨⟨rfl, r[k], (List.set_getElem_self hk).symm⟩, fun i t s ht hs => ?_, fun s hs => ?_⟩
  · obtain ⟨-, c, rfl⟩ := hs
    obtain ⟨h1, h2, h3⟩ := hb t (List.mem_of_getElem? ht)
    refine ⟨r.set k (some t), by show some ((r.set k c).set k (some t)) = _; rw [List.set_set], ?_⟩
    have hg : (r.set k (some t))[k]? = some (some t) := List.getElem?_set_self hk
    refine WS_if ?_
    refine WE_notC ?_
    refine WE_B ?_
    refine WE_callLs ?_
    refine WE_cons (WE_k (WE_cons (WE_var hg (WE_nil ?_))))
    refine ⟨_, lamsT_at hg h1 ls hc, ?_⟩
    refine allRefused_ok hw hn (repB_ok h2) (by rw [List.length_map]; exact of_decide_eq_true hl) (fun c' hc' => ?_) ⟨rfl, _, rfl, (fun h => nomatch h), fun _ => WS_nx ⟨rfl, _, rfl⟩⟩
    obtain ⟨p, hp, rfl⟩ := List.mem_map.mp hc'
    exact ⟨_, _, rfl, h3 p hp, plTs_map h1 _⟩
  · obtain ⟨-, c, rfl⟩ := hs
    exact q c
theorem WS_ref1 (errs : List Str) (mA : LamD → List T → Res) {I : Ac} {D : LamD} {is : List Nat} {n w : Str} {bads : List T} (hw : Word n w) (hn : n ∈ errs) (hI : I r = .ok bads r) (hb : ∀ b ∈ bads, RefB mA [(D, is)] n b) (q : ∀ c, nx (r.set k c)) (hc : ∀ i ∈ is, i = k := by decide) (hk' : Nat.blt k r.length = true := by rfl) :
    WS (cFor I (gSet k) (cIfS (cNotC (cB (cCallL (refusedM errs mA) D is (cCons (cK (.str w)) (cCons (cVar k) cNil))))) (cRet (cK (.bl false))) cNx) r) nx rt bk ct ex := by
  have hk : k < r.length := Nat.le_of_ble_eq_true hk'
  refine WS_for (fun ts i s => ts = bads ∧ ∃ c, s = r.set k c) ?_
  refine WE.of_eq hI ⟨⟨rfl, r[k], (List.set_getElem_self hk).symm⟩, fun i t s ht hs => ?_, fun s hs => ?_⟩
  · obtain ⟨-, c, rfl⟩ := hs
    obtain ⟨h1, h2, h3⟩ := hb t (List.mem_of_getElem? ht)
    refine ⟨r.set k (some t), by show some ((r.set k c).set k (some t)) = _; rw [List.set_set], ?_⟩
    have hg : (r.set k (some t))[k]? = some (some t) := List.getElem?_set_self hk
    have hcap := lamsT_at hg h1 [(D, is)] (fun p hp i hi => by rw [List.mem_singleton.mp hp] at hi; exact hc i hi)
    have hcap2 : capT is (r.set k (some t)) = some (is.map fun _ => t) := by
      unfold lamsT at hcap
      cases z : capT is (r.set k (some t)) with
      | none => rw [z] at hcap; cases hcap
      | some xs =>
        rw [z] at hcap
        have e : T.clo D xs = T.clo D (is.map fun _ => t) := by
          have := Option.some.inj hcap
          exact (List.cons.inj this).1
        injection e with _ e
        rw [e]
    refine WS_if ?_
    refine WE_notC ?_
    refine WE_B ?_
    refine WE_callL ?_
    refine WE_cons (WE_k (WE_cons (WE_var hg (WE_nil ?_))))
    refine ⟨_, hcap2, ?_⟩
    refine refused_ok hw (h3 (D, is) (List.mem_singleton.mpr rfl)) hn (plTs_map h1 _) (repB_ok h2) ⟨rfl, _, rfl, (fun h => nomatch h), fun _ => WS_nx ⟨rfl, _, rfl⟩⟩
  · obtain ⟨-, c, rfl⟩ := hs
    exact q c
/-- one list of calls, a value given -/
theorem WE_refV (errs : List Str) (mA : LamD → List T → Res) {ls : List (LamD × List Nat)} {n w : Str} {v : T} {cs : List T} {A : Ac} {ψ : T → Sl → Prop} (hw : Word n w) (hn : n ∈ errs) (hA : A r = .ok [.str w, v] r) (hcs : lamsT ls r = some cs) (hr : RepOk v) (hb : ∀ c ∈ cs, Refs errs mA n v c) (q : ψ (.bl true) r) (hl : cs.length < 1000000) :
    WE (cCallLs (allRefusedM errs mA) ls A r) ψ ξ :=
  WE_callLs (WE.of_eq hA ⟨_, hcs, allRefused_ok hw hn hr hl hb ⟨rfl, q⟩⟩)
end
/-! ### texts of rows -/
theorem rep_ints {x : List Int} (h : ∀ i ∈ x, -99999999999 ≤ i ∧ i ≤ 99999999999) (hl : x.length ≤ 60000) : RepOk (rowT x) := by
  have key : ∀ x : List Int, (∀ i ∈ x, -99999999999 ≤ i ∧ i ≤ 99999999999) → nuTs (x.map T.int) = true ∧ wdTs (x.map T.int) = 15 * x.length := by
    intro x
    induction x with
    | nil => intro _; exact ⟨rfl, rfl⟩
    | cons b w ih =>
      intro h
      have hb := h b (List.mem_cons_self ..)
      have ih := ih fun i hi => h i (List.mem_cons_of_mem _ hi)
      refine ⟨?_, ?_⟩
      · show (nuT (.int b) && nuTs (w.map T.int)) = true
        rw [ih.1]
        show (decide (-99999999999 ≤ b) && decide (b ≤ 99999999999) && true) = true
        rw [decide_eq_true hb.1, decide_eq_true hb.2]; rfl
      · show 13 + 2 + wdTs (w.map T.int) = _
        rw [ih.2, List.length_cons]
        omega
  have k := key x h
  refine rep_num (t := rowT x) k.1 (dOk_row _) ?_
  show 2 + wdTs (x.map T.int) ≤ LIM
  rw [k.2]
  simp only [LIM]
  omega
theorem rep_bits {x : List Int} (h : Bits x) (hl : x.length ≤ 60000) : RepOk (rowT x) := rep_ints (fun i hi => by have := h i hi; omega) hl
/-! ### what is enumerated -/
theorem enumT_at : ∀ (xs : List T) (k i : Nat), (enumT k xs)[i]? = xs[i]?.map fun x => .tup [.int ((k + i : Nat) : Int), x]
  | [], k, i => by simp [enumT]
  | x :: xs, k, 0 => by simp [enumT]
  | x :: xs, k, i + 1 => by
    unfold enumT
    rw [List.getElem?_cons_succ, List.getElem?_cons_succ, enumT_at xs (k + 1) i, show k + 1 + i = k + (i + 1) by omega]
theorem enum_range (f : Nat → T) (n : Nat) : enumT 0 ((List.range n).map f) = (List.range n).map fun (p : Nat) => .tup [.int (p : Int), f p] := by
  refine List.ext_getElem? fun i => ?_
  rw [enumT_at, List.getElem?_map, List.getElem?_map, Nat.zero_add]
  by_cases h : i < n
  · rw [List.getElem?_range h]; rfl
  · rw [List.getElem?_eq_none (by rw [List.length_range]; omega)]; rfl
theorem enum_hts (r : List Int) (m : Nat) : enumT 0 ((hts r m).map T.int) = (List.range (m + 1)).map fun (p : Nat) => .tup [.int (p : Int), .int (r.take p).sum] := by
  unfold hts
  rw [List.map_map]
  exact enum_range (fun p => T.int (r.take p).sum) (m + 1)
theorem map_true {α β : Type} (xs : List α) (f : α → β) : (xs.filter fun _ => true).map f = xs.map f := by rw [List.filter_eq_self.mpr fun _ _ => rfl]
theorem foldl_take {α β : Type} (f : β → α → β) (s : β) (v : List α) (i : Nat) (h : i < v.length) : (v.take (i + 1)).foldl f s = f ((v.take i).foldl f s) v[i] := by
  rw [List.take_succ_eq_append_getElem h, List.foldl_append]
  rfl
theorem map_get {α : Type} {f : α → T} {xs : List α} {i : Nat} {t : T} (h : (xs.map f)[i]? = some t) : ∃ hi : i < xs.length, t = f xs[i] := by
  rw [List.getElem?_map] at h
  cases hx : xs[i]? with
  | none => rw [hx] at h; cases h
  | some a =>
    rw [hx] at h
    cases h
    obtain ⟨hi, e⟩ := List.getElem?_eq_some_iff.mp hx
    exact ⟨hi, by rw [e]⟩
/-! ### equality of things without texts of their own -/
theorem eqT_self {t : T} (h : dOk 30 t = true) (hr : eqB t t = true) : eqT t t = some (.bl true) := by
  unfold eqT
  rw [h]
  show some (T.bl (eqB t t)) = _
  rw [hr]
theorem eqB_fr (a b c d : Int) : eqB (fr a b) (fr c d) = decide (a = c ∧ b = d) := by
  show ((a == c) && ((b == d) && true)) = _
  by_cases h1 : a = c <;> by_cases h2 : b = d <;> simp [h1, h2]
theorem eqT_fr (a b c d : Int) : eqT (fr a b) (fr c d) = some (.bl (decide (a = c ∧ b = d))) := by
  unfold eqT
  rw [show dOk 30 (fr a b) = true from rfl, show dOk 30 (fr c d) = true from rfl]
  show some (T.bl (eqB (fr a b) (fr c d))) = _
  rw [eqB_fr]
theorem neT_fr (a b c d : Int) : neT (fr a b) (fr c d) = some (.bl (!decide (a = c ∧ b = d))) := by
  unfold neT
  rw [show dOk 30 (fr a b) = true from rfl, show dOk 30 (fr c d) = true from rfl]
  show some (T.bl (!eqB (fr a b) (fr c d))) = _
  rw [eqB_fr]
theorem neT_frs (a b : Int) : neT (fr a b) (fr a b) = some (.bl false) := by rw [neT_fr]; simp
theorem eqT_frs (a b : Int) : eqT (fr a b) (fr a b) = some (.bl true) := by rw [eqT_fr]; simp
theorem lO_neg (a b : Int) : lO (-a) b = -(lO a b) := by
  unfold lO
  rw [Int.neg_gcd, Int.neg_ediv_of_dvd (Int.gcd_dvd_left a b)]
theorem lU_neg (a b : Int) : lU (-a) b = lU a b := by
  unfold lU
  rw [Int.neg_gcd]
end Tc

/-! Te17: texts and equality of lists of like things; products of lowest terms. -/
namespace Tc
open PySem PySem.Spec L2
theorem rep_map {α : Type} {f : α → T} {xs : List α} (C : Nat) (h1 : ∀ x ∈ xs, nuT (f x) = true) (h2 : ∀ x ∈ xs, dOk 29 (f x) = true) (h3 : ∀ x ∈ xs, wdT (f x) ≤ C) (hl : 2 + xs.length * (C + 2) ≤ 1000000) : RepOk (.lst (xs.map f)) := by
  have key : ∀ xs : List α, (∀ x ∈ xs, nuT (f x) = true) → (∀ x ∈ xs, dOk 29 (f x) = true) → (∀ x ∈ xs, wdT (f x) ≤ C) → nuTs (xs.map f) = true ∧ dOks 29 (xs.map f) = true ∧ wdTs (xs.map f) ≤ xs.length * (C + 2) := by
    intro xs
    induction xs with
    | nil => intro _ _ _; exact ⟨rfl, rfl, Nat.zero_le _⟩
    | cons x xs ih =>
      intro h1 h2 h3
      have a1 := h1 x (List.mem_cons_self ..)
      have a2 := h2 x (List.mem_cons_self ..)
      have a3 := h3 x (List.mem_cons_self ..)
      obtain ⟨i1, i2, i3⟩ := ih (fun y hy => h1 y (List.mem_cons_of_mem _ hy)) (fun y hy => h2 y (List.mem_cons_of_mem _ hy)) (fun y hy => h3 y (List.mem_cons_of_mem _ hy))
      refine ⟨?_, ?_, ?_⟩
      · show (nuT (f x) && nuTs (xs.map f)) = true
        rw [a1, i1]; rfl
      · show (dOk 29 (f x) && dOks 29 (xs.map f)) = true
        rw [a2, i2]; rfl
      · show wdT (f x) + 2 + wdTs (xs.map f) ≤ _
        rw [List.length_cons, Nat.add_mul]
        omega
  obtain ⟨k1, k2, k3⟩ := key xs h1 h2 h3
  refine rep_num (t := .lst (xs.map f)) k1 k2 ?_
  show 2 + wdTs (xs.map f) ≤ LIM
  simp only [LIM]
  omega
theorem nu_int {i : Int} (h1 : -99999999999 ≤ i := by omega) (h2 : i ≤ 99999999999 := by omega) : nuT (.int i) = true := by
  show (decide (-99999999999 ≤ i) && decide (i ≤ 99999999999)) = true
  rw [decide_eq_true h1, decide_eq_true h2]; rfl
theorem nu_fr {a b : Int} (ha : nuT (.int a) = true) (hb : nuT (.int b) = true) : nuT (fr a b) = true := by
  show (nuT (.int a) && (nuT (.int b) && true)) = true
  rw [ha, hb]; rfl
theorem pl_map {α : Type} {f : α → T} {xs : List α} (n : Nat) (hl : xs.length < 1000000) (h : ∀ x ∈ xs, pl n (f x) = true) : pl (n + 1) (.lst (xs.map f)) = true := by
  unfold pl
  rw [List.length_map]
  refine Bool.and_eq_true_iff.mpr ⟨decide_eq_true hl, List.all_eq_true.mpr fun t ht => ?_⟩
  obtain ⟨i, hi, rfl⟩ := List.mem_map.mp ht
  exact h i hi
/-- a product of two fractions, each in lowest terms -/
theorem low_mulF {a b c d : Int} (hb : 0 < b) (hd : 0 < d) : lowF (lO a b * lO c d) (lU a b * lU c d) = lowF (a * c) (b * d) := by
  have e1 : lO a b * b = a * lU a b := low_cross
  have e2 : lO c d * d = c * lU c d := low_cross
  refine lowF_eq (Int.mul_pos (lU_pos hb) (lU_pos hd)) (Int.mul_pos hb hd) ?_
  generalize lO a b = x at *
  generalize lO c d = y at *
  generalize lU a b = u at *
  generalize lU c d = v at *
  grind
theorem low_addF {a b c d : Int} (hb : 0 < b) (hd : 0 < d) : lowF (lO a b * lU c d + lO c d * lU a b) (lU a b * lU c d) = lowF (a * d + c * b) (b * d) := by
  have e1 : lO a b * b = a * lU a b := low_cross
  have e2 : lO c d * d = c * lU c d := low_cross
  refine lowF_eq (Int.mul_pos (lU_pos hb) (lU_pos hd)) (Int.mul_pos hb hd) ?_
  generalize lO a b = x at *
  generalize lO c d = y at *
  generalize lU a b = u at *
  generalize lU c d = v at *
  grind
theorem low_subF {a b c d : Int} (hb : 0 < b) (hd : 0 < d) : lowF (lO a b * lU c d - lO c d * lU a b) (lU a b * lU c d) = lowF (a * d - c * b) (b * d) := by
  have e1 : lO a b * b = a * lU a b := low_cross
  have e2 : lO c d * d = c * lU c d := low_cross
  refine lowF_eq (Int.mul_pos (lU_pos hb) (lU_pos hd)) (Int.mul_pos hb hd) ?_
  generalize lO a b = x at *
  generalize lO c d = y at *
  generalize lU a b = u at *
  generalize lU c d = v at *
  grind
end Tc

/-! Te18: the simplest fraction of a stretch. -/
namespace Tc
open PySem PySem.Spec L2
local macro_rules | `(tactic| walk_at "ew") => `(tactic| (repeat' (first | with_reducible (first | refine WS_seq ?_ | refine WS_set ?_ | refine WS_ret ?_ | refine WS_if ?_ | refine WS_drop ?_ | refine WS_nx ?_ | refine WS_raise ?_ | refine WE_bin ?_ | refine WE_cons ?_ | refine WE_nil ?_ | refine WE_k ?_ | refine WE_app ?_ | refine WE_un ?_ | refine WE_B ?_ | refine WE_notC ?_ | refine WE_call ?_ | refine WE_callK ?_ | refine WE_callGT ?_ | refine WE_lst ?_ | refine WE_tup ?_ | refine WE_chain ?_ | refine WE_chain3 ?_ | refine WE_andV ?_ | refine WE_orV ?_ | refine WE_notV ?_ | refine WE_andC ?_ | refine WE_orC ?_ | refine WE_if ?_ | refine WS_par2 ?_ | refine WS_par3 ?_ | refine WE_rg1 ?_ | refine WE_rg2 ?_ | refine WE_items ?_ | refine WE_enum ?_ | refine WE_zip ?_ | refine WE_revd ?_ | refine WE_callG ?_ | refine WS_put ?_ | refine WS_app ?_ | refine WE_pix ?_ | refine WE_sl ?_ | refine WE_p0 ?_ | refine WE_p1 ?_ | refine WE_true ?_ | refine WE_bor ?_ | refine WE_borC ?_ | refine WE_mt ?_ | refine WS_asg ?_ | refine WS_par4 ?_) | ((with_reducible apply WE_var); (case h => exact rfl)) | ((with_reducible refine And.intro ?_ ?_); (with_reducible first | exact ff1 | exact ff2 | exact ff3 | exact ff4 | exact ff5 | fail); (intro _)) | ((with_reducible refine And.intro ?_ ?_); rotate_left; (with_reducible first | exact tt1 | exact tt2 | exact tt3 | exact tt4 | exact tt5 | fail); (intro _)) | ((with_reducible apply Exists.intro); (with_reducible apply And.intro); first | ((with_reducible (first | show addT (.int _) (.int _) = some _ | show subT (.int _) (.int _) = some _ | show negT (.int _) = some _ | show ltT (.int _) (.int _) = some _ | show leT (.int _) (.int _) = some _ | show gtT (.int _) (.int _) = some _ | show geT (.int _) (.int _) = some _ | show intT [.int _] = some _ | show max2T [.int _, .int _] = some _ | show min2T [.int _, .int _] = some _ | show absT [.int _] = some _ | show eqT (.int _) (.int _) = some _ | show neT (.int _) (.int _) = some _ | show gcdT [.int _, .int _] = some _ | show subBT (.bl _) (.bl _) = some _ | show gTupT _ _ _ = some _ | show ixT (.tup (_ :: _)) (.int _) = some _ | show ixT (.lst (_ :: _)) (.int _) = some _ | show T.bl _ = T.bl _ | show T.int _ = T.int _)); exact rfl) | ((with_reducible (first | show isiT _ _ = some _ | show isT _ _ = some _ | show isNT _ _ = some _ | show isisT _ _ = some _)); first | exact (rfl : _ = some (T.bl true)) | exact (rfl : _ = some (T.bl false)) | exact rfl) | fail) | ((with_reducible refine limA ?_ ?_); (first | exact rfl | fail)) | fail)))
local macro_rules | `(tactic| walk_at "norm") => `(tactic| (try simp only [List.map_cons, List.map_nil, List.cons_append, List.nil_append, List.length_cons, List.length_nil, Nat.zero_add, Nat.reduceAdd, Nat.reduceSub, Nat.sub_self, List.replicate_zero, List.replicate_succ, List.append_nil, List.set_cons_zero, List.set_cons_succ]))
/-! ### how many steps -/
def eu : Nat → Nat → Nat
  | _, 0 => 0
  | n, d + 1 => 1 + eu (d + 1) (n % (d + 1))
termination_by n d => d
decreasing_by exact Nat.mod_lt _ (Nat.succ_pos d)
theorem eu_zero (n : Nat) : eu n 0 = 0 := by rw [eu]
theorem eu_pos {n d : Nat} (h : 0 < d) : eu n d = 1 + eu d (n % d) := by
  obtain ⟨k, rfl⟩ : ∃ k, d = k + 1 := ⟨d - 1, by omega⟩
  rw [eu]
theorem eu_len : ∀ (k n d : Nat), d < 2 ^ k → eu n d ≤ 2 * k
  | 0, n, d, h => by
    have : d = 0 := by simpa using h
    rw [this, eu_zero]; simp
  | k + 1, n, d, h => by
    by_cases z : d = 0
    · rw [z, eu_zero]; simp
    · rw [eu_pos (by omega)]
      by_cases y : n % d = 0
      · rw [y, eu_zero]; omega
      · rw [eu_pos (by omega)]
        have h1 := Nat.mod_lt n (show d > 0 by omega)
        have h2 := Nat.mod_lt d (show n % d > 0 by omega)
        have h3 := Nat.div_add_mod d (n % d)
        have h4 : 1 ≤ d / (n % d) := Nat.div_pos (by omega) (by omega)
        have h5 := Nat.mul_le_mul_left (n % d) h4
        rw [Nat.pow_succ] at h
        have := eu_len k (n % d) (d % (n % d)) (by omega)
        omega
/-- steps of a / b -/
def stE (a b : Int) : Nat := if b ≤ 0 then 0 else 1 + eu b.toNat (a % b).toNat
theorem stE_zero (a : Int) : stE a 0 = 0 := rfl
theorem stE_pos {a b : Int} (h : 0 < b) : stE a b = 1 + stE b (a % b) := by
  have h0 := Int.emod_nonneg a (show b ≠ 0 by omega)
  unfold stE
  rw [if_neg (by omega)]
  by_cases z : a % b = 0
  · rw [if_pos (by omega), z]
    show 1 + eu b.toNat 0 = _
    rw [eu_zero]
  · rw [if_neg (by omega), eu_pos (show 0 < (a % b).toNat by omega)]
    congr 3
    rw [Int.toNat_emod (by omega) h0]
theorem stE_ge {a b : Int} (h : 0 < b) : 1 ≤ stE a b := by rw [stE_pos h]; omega
theorem stE_len {a b : Int} {k : Nat} (h : Bd k b) : stE a b ≤ 1 + 2 * k := by
  unfold stE
  split
  · omega
  · have hm := Int.emod_lt_of_pos a (show 0 < b by omega)
    have h0 := Int.emod_nonneg a (show b ≠ 0 by omega)
    have : (a % b).toNat < 2 ^ k := by
      unfold Bd at h
      omega
    have := eu_len k b.toNat _ this
    omega
/-! ### the simplest one -/
/-- x / y from l0 / l1 to m0 / m1; strictly between them (m1 may be 0) -/
def inC (l0 l1 m0 m1 x y : Int) : Prop := l0 * y ≤ x * l1 ∧ x * m1 ≤ m0 * y
def inO (l0 l1 m0 m1 x y : Int) : Prop := l0 * y < x * l1 ∧ x * m1 < m0 * y
/-- simpler than all, but for whole ones below -/
structure Bm (R : Int → Int → Prop) (f x y : Int) : Prop where
  y1 : 1 ≤ y
  mem : R x y
  min : ∀ x' y', 1 ≤ y' → R x' y' → y ≤ y' ∧ x - f * y ≤ x' - f * y'
/-- the least bottom, then the least number -/
structure Simp (R : Int → Int → Prop) (x y : Int) : Prop where
  y1 : 1 ≤ y
  mem : R x y
  min : ∀ x' y', 1 ≤ y' → R x' y' → y ≤ y' ∧ (y' = y → x ≤ x')
theorem Bm.simp {R : Int → Int → Prop} {f x y : Int} (h : Bm R f x y) : Simp R x y :=
  ⟨h.y1, h.mem, fun x' y' hy hR => by
    obtain ⟨a, b⟩ := h.min x' y' hy hR
    exact ⟨a, fun e => by subst e; omega⟩⟩
theorem Simp.one {R : Int → Int → Prop} {x y x' y' : Int} (a : Simp R x y) (b : Simp R x' y') : x = x' ∧ y = y' := by
  obtain ⟨a1, a2⟩ := a.min x' y' b.y1 b.mem
  obtain ⟨b1, b2⟩ := b.min x y a.y1 a.mem
  have e : y = y' := by omega
  exact ⟨by have := a2 e.symm; have := b2 e; omega, e⟩
theorem Simp.cop {l0 l1 m0 m1 x y : Int} {R : Int → Int → Prop} (hR : R = inC l0 l1 m0 m1 ∨ R = inO l0 l1 m0 m1) (h : Simp R x y) : Int.gcd x y = 1 := by
  have hy := h.y1
  have gp := gcd_pos' (a := x) (b := y) (by omega)
  have e1 := lO_mul x y
  have e2 := lU_mul x y
  have p := lU_pos (a := x) (b := y) (by omega)
  have key : R (lO x y) (lU x y) := by
    have hm := h.mem
    generalize lO x y = u at *
    generalize lU x y = v at *
    generalize (Int.gcd x y : Int) = g at *
    rcases hR with rfl | rfl
    · obtain ⟨a, b⟩ := hm
      rw [← e1, ← e2] at a b
      refine ⟨?_, ?_⟩
      · refine Int.le_of_mul_le_mul_right (a := g) ?_ gp
        grind
      · refine Int.le_of_mul_le_mul_right (a := g) ?_ gp
        grind
    · obtain ⟨a, b⟩ := hm
      rw [← e1, ← e2] at a b
      refine ⟨?_, ?_⟩
      · refine Int.lt_of_mul_lt_mul_right (a := g) ?_ (Int.le_of_lt gp)
        grind
      · refine Int.lt_of_mul_lt_mul_right (a := g) ?_ (Int.le_of_lt gp)
        grind
  have hle := (h.min _ _ (by omega) key).1
  have : (Int.gcd x y : Int) ≤ 1 := by
    refine Classical.byContradiction fun n => ?_
    have := Int.mul_le_mul_of_nonneg_left (c := lU x y) (show (2 : Int) ≤ Int.gcd x y by omega) (by omega)
    omega
  omega
/-- no whole one within: one step -/
theorem Bm.stepO {l0 l1 m0 m1 w u v : Int} {f' : Int} (hl : 0 < l1) (h1 : w * l1 ≤ l0) (hm : 0 < m1) (h3 : m0 ≤ (w + 1) * m1) (h4 : l0 * m1 < m0 * l1) (f0 : 0 ≤ f')
    {n0 n1 : Int} (hn : l0 = w * l1 ∧ n0 = 1 ∧ n1 = 0 ∨ l0 ≠ w * l1 ∧ n0 = l1 ∧ n1 = l0 - w * l1) (h : Bm (inO m1 (m0 - w * m1) n0 n1) f' u v) : Bm (inO l0 l1 m0 m1) w (w * u + v) u := by
  have key : ∀ x y : Int, 1 ≤ y → inO l0 l1 m0 m1 x y → inO m1 (m0 - w * m1) n0 n1 y (x - w * y) ∧ 1 ≤ x - w * y := by
    rintro x y hy ⟨a, b⟩
    have c1 : 0 < (x - w * y) * l1 := by
      have := Int.mul_le_mul_of_nonneg_right h1 (show 0 ≤ y by omega)
      have e : (x - w * y) * l1 = x * l1 - w * l1 * y := by grind
      omega
    have c2 : 1 ≤ x - w * y := by
      have := Int.pos_of_mul_pos_left c1 hl
      omega
    refine ⟨⟨?_, ?_⟩, c2⟩
    · grind
    · rcases hn with ⟨_, rfl, rfl⟩ | ⟨_, rfl, rfl⟩
      · omega
      · grind
  have hv : 1 ≤ v := h.y1
  obtain ⟨p1, p2⟩ := h.mem
  have dm : 0 < m0 - w * m1 := by
    have : 0 < (m0 - w * m1) * l1 := by
      have := Int.mul_le_mul_of_nonneg_right h1 (show 0 ≤ m1 by omega)
      have e : (m0 - w * m1) * l1 = m0 * l1 - w * l1 * m1 := by grind
      omega
    exact Int.pos_of_mul_pos_left this hl
  have hu : 1 ≤ u := by
    have : 0 < u * (m0 - w * m1) := by
      have := Int.mul_pos hm (show 0 < v by omega)
      omega
    have := Int.pos_of_mul_pos_left this dm
    omega
  refine ⟨hu, ⟨?_, ?_⟩, fun x y hy hR => ?_⟩
  · rcases hn with ⟨e, rfl, rfl⟩ | ⟨_, rfl, rfl⟩
    · have : 0 < v * l1 := Int.mul_pos (by omega) hl
      rw [e]
      grind
    · grind
  · grind
  · obtain ⟨k1, k2⟩ := key x y hy hR
    obtain ⟨q1, q2⟩ := h.min _ _ k2 k1
    have : f' * v ≤ f' * (x - w * y) := Int.mul_le_mul_of_nonneg_left q1 f0
    refine ⟨by omega, ?_⟩
    have e : w * u + v - w * u = v := by omega
    omega
theorem Bm.stepC {l0 l1 m0 m1 w u v : Int} {f' : Int} (hl : 0 < l1) (h1 : w * l1 < l0) (hm : 0 < m1) (h3 : m0 < (w + 1) * m1) (h4 : l0 * m1 ≤ m0 * l1) (f0 : 0 ≤ f')
    (h : Bm (inC m1 (m0 - w * m1) l1 (l0 - w * l1)) f' u v) : Bm (inC l0 l1 m0 m1) w (w * u + v) u := by
  have key : ∀ x y : Int, 1 ≤ y → inC l0 l1 m0 m1 x y → inC m1 (m0 - w * m1) l1 (l0 - w * l1) y (x - w * y) ∧ 1 ≤ x - w * y := by
    rintro x y hy ⟨a, b⟩
    have c1 : 0 < (x - w * y) * l1 := by
      have := Int.mul_lt_mul_of_pos_right h1 (show 0 < y by omega)
      have e : (x - w * y) * l1 = x * l1 - w * l1 * y := by grind
      omega
    have c2 : 1 ≤ x - w * y := by
      have := Int.pos_of_mul_pos_left c1 hl
      omega
    exact ⟨⟨by grind, by grind⟩, c2⟩
  have hv : 1 ≤ v := h.y1
  obtain ⟨p1, p2⟩ := h.mem
  have dm : 0 < m0 - w * m1 := by
    have : 0 < (m0 - w * m1) * l1 := by
      have := Int.mul_lt_mul_of_pos_right h1 hm
      have e : (m0 - w * m1) * l1 = m0 * l1 - w * l1 * m1 := by grind
      omega
    exact Int.pos_of_mul_pos_left this hl
  have hu : 1 ≤ u := by
    have : 0 < u * (m0 - w * m1) := by
      have := Int.mul_pos hm (show 0 < v by omega)
      omega
    have := Int.pos_of_mul_pos_left this dm
    omega
  refine ⟨hu, ⟨by grind, by grind⟩, fun x y hy hR => ?_⟩
  obtain ⟨k1, k2⟩ := key x y hy hR
  obtain ⟨q1, q2⟩ := h.min _ _ k2 k1
  have : f' * v ≤ f' * (x - w * y) := Int.mul_le_mul_of_nonneg_left q1 f0
  refine ⟨by omega, ?_⟩
  have e : w * u + v - w * u = v := by omega
  omega
/-- a whole one within -/
theorem Bm.stopO {l0 l1 m0 m1 w : Int} (hl : 0 < l1) (h1 : w * l1 ≤ l0) (h2 : l0 < (w + 1) * l1) (h3 : (w + 1) * m1 < m0) : Bm (inO l0 l1 m0 m1) w (w + 1) 1 := by
  refine ⟨Int.le_refl _, ⟨by omega, by omega⟩, fun x y hy hR => ⟨hy, ?_⟩⟩
  obtain ⟨a, b⟩ := hR
  have c1 : 0 < (x - w * y) * l1 := by
    have := Int.mul_le_mul_of_nonneg_right h1 (show 0 ≤ y by omega)
    have e : (x - w * y) * l1 = x * l1 - w * l1 * y := by grind
    omega
  have := Int.pos_of_mul_pos_left c1 hl
  omega
theorem Bm.stopC {l0 l1 m0 m1 w f : Int} (hl : 0 < l1) (h1 : l0 ≤ w * l1) (h2 : (w - 1) * l1 < l0) (hf : f * l1 ≤ l0) (hf2 : l0 < (f + 1) * l1) (h3 : w * m1 ≤ m0) : Bm (inC l0 l1 m0 m1) f w 1 := by
  refine ⟨Int.le_refl _, ⟨by omega, by omega⟩, fun x y hy hR => ⟨hy, ?_⟩⟩
  obtain ⟨a, b⟩ := hR
  have fw : w - 1 ≤ f ∧ f ≤ w := by
    constructor
    · have := Int.lt_of_mul_lt_mul_right (show (w - 1) * l1 < (f + 1) * l1 by omega) (by omega)
      omega
    · exact Int.le_of_mul_le_mul_right (show f * l1 ≤ w * l1 by omega) hl
  have hk := Int.mul_le_mul_of_nonneg_right hf (show 0 ≤ y by omega)
  have e : (x - f * y) * l1 = x * l1 - f * l1 * y := by grind
  by_cases z : f = w
  · have : 0 ≤ (x - f * y) * l1 := by omega
    have : 0 ≤ x - f * y := by
      refine Classical.byContradiction fun n => ?_
      have := Int.mul_lt_mul_of_pos_right (show x - f * y < 0 by omega) hl
      omega
    omega
  · have e2 : w = f + 1 := by omega
    have hs : f * l1 < l0 := by
      rw [e2] at h2
      rw [show f + 1 - 1 = f by omega] at h2
      exact h2
    have := Int.mul_lt_mul_of_pos_right hs (show 0 < y by omega)
    have : 0 < (x - f * y) * l1 := by omega
    have := Int.pos_of_mul_pos_left this hl
    omega
/-! ### put together -/
def putU : List Int → Int × Int → Int × Int
  | [], p => p
  | w :: ws, p => (w * (putU ws p).1 + (putU ws p).2, (putU ws p).1)
theorem putU_app (ws : List Int) (w : Int) (p : Int × Int) : putU (ws ++ [w]) p = putU ws (w * p.1 + p.2, p.1) := by
  induction ws with
  | nil => rfl
  | cons x xs ih => simp only [List.cons_append, putU, ih]
/-! ### the program's way -/
theorem okSz_bd' {i : Int} (h : Bd 1000000 i) : okSz i = true := by
  refine decide_eq_true ?_
  by_cases z : i.natAbs = 0
  · rw [z]; decide
  · have := (Nat.log2_lt z).mpr h
    omega
theorem mulT_bd' {i j : Int} (h1 : Bd 1000000 i) (h2 : Bd 1000000 j) : mulT (.int i) (.int j) = some (.int (i * j)) := by
  simp only [mulT, okSz_bd' h1, okSz_bd' h2, Bool.and_true, if_true]
def cm_put_together : Fc := fnM false 5 (cSeq (cPar2 3 4 (cCons (cVar 1) (cCons (cK (.int 1)) cNil)))
 (cSeq (cFor (cItems (cUn revT (cVar 0))) (gSet 2)
 (cPar2 3 4 (cCons (cBin addT (cBin mulT (cVar 2) (cVar 3)) (cVar 4)) (cCons (cVar 3) cNil))))
 (cRet (cTup (cCons (cVar 3) (cCons (cVar 4) cNil))))))
def cm_found_from : Fc := fnM false 5 (cSeq (cSet 2 (cLst cNil))
 (cSeq (cSet 3 (cUn negT (cBin fdivT (cUn negT (cBin ixT (cVar 0) (cK (.int 0)))) (cBin ixT (cVar 0) (cK (.int 1))))))
 (cSeq (cWh 100000 (cB (cBin gtT (cBin mulT (cVar 3) (cBin ixT (cVar 1) (cK (.int 1)))) (cBin ixT (cVar 1) (cK (.int 0)))))
 (cSeq (cSet 4 (cBin subT (cVar 3) (cK (.int 1))))
 (cSeq (cApnd 2 (cVar 4))
 (cSeq (cPar2 0 1 (cCons (cTup (cCons (cBin ixT (cVar 1) (cK (.int 1))) (cCons (cBin subT (cBin ixT (cVar 1) (cK (.int 0))) (cBin mulT (cVar 4) (cBin ixT (cVar 1) (cK (.int 1))))) cNil))) (cCons (cTup (cCons (cBin ixT (cVar 0) (cK (.int 1))) (cCons (cBin subT (cBin ixT (cVar 0) (cK (.int 0))) (cBin mulT (cVar 4) (cBin ixT (cVar 0) (cK (.int 1))))) cNil))) cNil)))
 (cSet 3 (cUn negT (cBin fdivT (cUn negT (cBin ixT (cVar 0) (cK (.int 0)))) (cBin ixT (cVar 0) (cK (.int 1))))))))))
 (cRet (cCall cm_put_together (cCons (cVar 2) (cCons (cVar 3) cNil)))))))
def cm_found_inside : Fc := fnM false 5 (cSeq (cSet 2 (cLst cNil))
 (cSeq (cSet 3 (cBin fdivT (cBin ixT (cVar 0) (cK (.int 0))) (cBin ixT (cVar 0) (cK (.int 1)))))
 (cSeq (cWh 100000 (cB (cBin geT (cBin mulT (cBin addT (cVar 3) (cK (.int 1))) (cBin ixT (cVar 1) (cK (.int 1)))) (cBin ixT (cVar 1) (cK (.int 0)))))
 (cSeq (cApnd 2 (cVar 3))
 (cSeq (cSet 4 (cIf (cB (cBin eqT (cBin ixT (cVar 0) (cK (.int 0))) (cBin mulT (cVar 3) (cBin ixT (cVar 0) (cK (.int 1)))))) (cTup (cCons (cK (.int 1)) (cCons (cK (.int 0)) cNil))) (cTup (cCons (cBin ixT (cVar 0) (cK (.int 1))) (cCons (cBin subT (cBin ixT (cVar 0) (cK (.int 0))) (cBin mulT (cVar 3) (cBin ixT (cVar 0) (cK (.int 1))))) cNil)))))
 (cSeq (cPar2 0 1 (cCons (cTup (cCons (cBin ixT (cVar 1) (cK (.int 1))) (cCons (cBin subT (cBin ixT (cVar 1) (cK (.int 0))) (cBin mulT (cVar 3) (cBin ixT (cVar 1) (cK (.int 1))))) cNil))) (cCons (cVar 4) cNil)))
 (cSet 3 (cBin fdivT (cBin ixT (cVar 0) (cK (.int 0))) (cBin ixT (cVar 0) (cK (.int 1)))))))))
 (cRet (cCall cm_put_together (cCons (cVar 2) (cCons (cBin addT (cVar 3) (cK (.int 1))) cNil)))))))

section
variable {χ : T → List T → Prop} {ζ : Str → T → Prop}
theorem putU_bd {a : Int} (ha : Bd 210 a) : ∀ ws : List Int, (∀ w ∈ ws, Bd 210 w) → Bd (212 * (ws.length + 1)) (putU ws (a, 1)).1 ∧ Bd (212 * (ws.length + 1)) (putU ws (a, 1)).2
  | [], _ => ⟨ha.mono (by simp), (bd1).mono (by simp)⟩
  | w :: ws, h => by
    obtain ⟨i1, i2⟩ := putU_bd ha ws fun x hx => h x (List.mem_cons_of_mem _ hx)
    have hw := h w (List.mem_cons_self ..)
    have m := hw.mul i1
    have e : 210 + 212 * (ws.length + 1) + 1 ≤ 212 * ((w :: ws).length + 1) := by rw [List.length_cons]; omega
    exact ⟨((m.add (i2.mono (by omega))).mono e), i1.mono (by rw [List.length_cons]; omega)⟩
theorem drop_last {ws : List Int} {i : Nat} (h : i < ws.length) : ws.drop (ws.length - (i + 1)) = ws[ws.length - 1 - i] :: ws.drop (ws.length - i) := by
  have e := List.drop_eq_getElem_cons (l := ws) (i := ws.length - (i + 1)) (by omega)
  rw [e, show ws.length - (i + 1) + 1 = ws.length - i by omega]
  congr 2
  omega
theorem putok {ws : List Int} {a : Int} (hb : ∀ w ∈ ws, Bd 210 w) (ha : Bd 210 a) (hl : ws.length ≤ 2000) (q : χ (fr (putU ws (a, 1)).1 (putU ws (a, 1)).2) []) : WR (cm_put_together [rowT ws, .int a]) χ ζ := by
  refine WR_fn ?_
  walk_at "norm"
  walk_at "ew"
  refine ⟨_, _, rfl, ?_⟩
  walk_at "norm"
  walk_at "ew"
  refine WS_for (fun ts i s => ts = (ws.map T.int).reverse ∧ ∃ x, s = [some (rowT ws), some (.int a), x, some (.int (putU (ws.drop (ws.length - i)) (a, 1)).1), some (.int (putU (ws.drop (ws.length - i)) (a, 1)).2)]) ?_
  walk_at "ew"
  refine ⟨_, rfl, _, .inl rfl, ⟨rfl, none, by rw [Nat.sub_zero, List.drop_length]; rfl⟩, fun i t s ht hs => ?_, fun s hs => ?_⟩
  · obtain ⟨-, x, rfl⟩ := hs
    have hi : i < ws.length := by
      have := (List.getElem?_eq_some_iff.mp ht).1
      simpa using this
    have et : t = .int ws[ws.length - 1 - i] := by
      rw [List.getElem?_reverse (by simpa using hi), List.getElem?_map, List.length_map, List.getElem?_eq_getElem (by omega)] at ht
      exact (Option.some.inj ht).symm
    subst et
    rw [drop_last hi]
    have hbd := putU_bd ha (ws.drop (ws.length - i)) fun w hw => hb w (List.mem_of_mem_drop hw)
    rw [List.length_drop] at hbd
    have hw := hb _ (List.getElem_mem (show ws.length - 1 - i < ws.length by omega))
    refine ⟨_, rfl, ?_⟩
    walk_at "norm"
    walk_at "ew"
    refine ⟨_, mulT_bd' hw.mono (hbd.1.mono (by omega)), ?_⟩
    walk_at "ew"
    exact ⟨_, _, rfl, trivial, _, rfl⟩
  · obtain ⟨-, x, rfl⟩ := hs
    rw [List.length_reverse, List.length_map, Nat.sub_self, List.drop_zero]
    walk_at "ew"
    exact q
/-- the steps that are left -/
def stV (r : Sl) : Nat := match r with
  | some (.tup [.int a, .int b]) :: some (.tup [.int c, .int d]) :: _ => stE a b + stE c d
  | _ => 0
theorem floor_le {a b : Int} (h : 0 < b) : a / b * b ≤ a ∧ a < (a / b + 1) * b := ⟨Int.ediv_mul_le a (by omega), Int.lt_ediv_add_one_mul_self a h⟩
theorem floor_eq {a b w : Int} (h : 0 < b) (h1 : w * b ≤ a) (h2 : a < (w + 1) * b) : a / b = w := by
  obtain ⟨k1, k2⟩ := floor_le (a := a) h
  have a1 := Int.lt_of_mul_lt_mul_right (show a / b * b < (w + 1) * b by omega) (by omega)
  have a2 := Int.lt_of_mul_lt_mul_right (show w * b < (a / b + 1) * b by omega) (by omega)
  omega
theorem mod_eq (a b : Int) : a - a / b * b = a % b := by
  have := Int.mul_ediv_add_emod a b
  rw [Int.mul_comm] at this
  omega
theorem insideok {L0 L1 M0 M1 : Int} (hl : 0 < L1) (hm : 0 < M1 ∨ M1 = 0 ∧ M0 = 1) (hlt : L0 * M1 < M0 * L1) (b0 : Bd 200 L0) (b1 : Bd 200 L1) (b2 : Bd 200 M0) (b3 : Bd 200 M1)
    (q : ∀ x y, Simp (inO L0 L1 M0 M1) x y → χ (fr x y) []) : WR (cm_found_inside [fr L0 L1, fr M0 M1]) χ ζ := by
  refine WR_fn ?_
  walk_at "norm"
  walk_at "ew"
  walk_at "norm"
  walk_at "ew"
  refine ⟨_, fdivT_bd hl b1.mono, ?_⟩
  walk_at "norm"
  walk_at "ew"
  refine WS_wh (fun r => ∃ (ws : List Int) (l0 l1 m0 m1 : Int) (e : Option T), r = [some (fr l0 l1), some (fr m0 m1), some (rowT ws), some (.int (l0 / l1)), e] ∧ 0 < l1 ∧ (0 < m1 ∨ m1 = 0 ∧ m0 = 1) ∧ l0 * m1 < m0 * l1 ∧ (Bd 200 l0 ∧ Bd 200 l1 ∧ Bd 200 m0 ∧ Bd 200 m1) ∧ (∀ w ∈ ws, Bd 210 w) ∧
    ws.length + (stE l0 l1 + stE m0 m1) ≤ 900 ∧ ∀ u v, Bm (inO l0 l1 m0 m1) (l0 / l1) u v → Simp (inO L0 L1 M0 M1) (putU ws (u, v)).1 (putU ws (u, v)).2) stV ?_ ?_ ?_
  · refine ⟨[], L0, L1, M0, M1, none, rfl, hl, hm, hlt, ⟨b0, b1, b2, b3⟩, (fun w h => nomatch h), ?_, fun u v h => h.simp⟩
    have := stE_len (a := L0) b1
    have := stE_len (a := M0) b3
    simp
    omega
  · show stE L0 L1 + stE M0 M1 < 100000
    have := stE_len (a := L0) b1
    have := stE_len (a := M0) b3
    omega
  · rintro r ⟨ws, l0, l1, m0, m1, e, rfl, hl, hm, hlt, ⟨b0, b1, b2, b3⟩, hb, hn, hI⟩
    obtain ⟨f1, f2⟩ := floor_le (a := l0) hl
    have bw : Bd 200 (l0 / l1) := b0.div hl
    have hme := mod_eq l0 l1
    have hst := stE_pos (a := l0) hl
    generalize hw : l0 / l1 = w at *
    have bw1 : Bd 210 (w + 1) := (bw.add bd1).mono
    walk_at "ew"
    refine ⟨_, mulT_bd bw1.mono b3.mono, ?_⟩
    walk_at "ew"
    refine ⟨fun z => ?_, fun z => ?_⟩
    · have z : (w + 1) * m1 ≥ m0 := of_decide_eq_true z
      have hm : 0 < m1 := by
        rcases hm with h | ⟨h1, h2⟩
        · exact h
        · subst h1 h2
          rw [Int.mul_zero] at z
          omega
      have dm : 0 < m0 - w * m1 := by
        have : 0 < (m0 - w * m1) * l1 := by
          have := Int.mul_le_mul_of_nonneg_right f1 (show 0 ≤ m1 by omega)
          have e : (m0 - w * m1) * l1 = m0 * l1 - w * l1 * m1 := by grind
          omega
        exact Int.pos_of_mul_pos_left this hl
      have dm2 : m0 - w * m1 ≤ m1 := by
        rw [Int.add_mul] at z
        omega
      have bd' : Bd 200 (m0 - w * m1) := b3.le (by omega)
      have f0 : 0 ≤ m1 / (m0 - w * m1) := Int.ediv_nonneg (by omega) (by omega)
      have sm : stE m1 (m0 - w * m1) ≤ stE m0 m1 := by
        have g := stE_pos (a := m0) hm
        by_cases c : m0 - w * m1 = m1
        · have e0 : m0 % m1 = 0 := by
            rw [show m0 = (w + 1) * m1 by rw [Int.add_mul]; omega, Int.mul_emod_left]
          rw [c, stE_pos hm, Int.emod_self, g, e0, stE_zero]
          exact Nat.le_refl _
        · have e0 : m0 / m1 = w := floor_eq hm (by omega) (by rw [Int.add_mul]; omega)
          have := mod_eq m0 m1
          rw [e0] at this
          rw [this]
          omega
      refine WS_seq ?_
      refine WS_app ?_
      walk_at "ew"
      refine ⟨_, rfl, by rw [List.length_map]; omega, ?_⟩
      walk_at "norm"
      refine WS_seq ?_
      refine WS_set ?_
      have rest : ∀ (bk ct : Sl → Prop) (n0 n1 : Int), (l0 = w * l1 ∧ n0 = 1 ∧ n1 = 0 ∨ l0 ≠ w * l1 ∧ n0 = l1 ∧ n1 = l0 - w * l1) → WS (cSeq (cPar2 0 1 (cCons (cTup (cCons (cBin ixT (cVar 1) (cK (.int 1))) (cCons (cBin subT (cBin ixT (cVar 1) (cK (.int 0))) (cBin mulT (cVar 3) (cBin ixT (cVar 1) (cK (.int 1))))) cNil))) (cCons (cVar 4) cNil))) (cSet 3 (cBin fdivT (cBin ixT (cVar 0) (cK (.int 0))) (cBin ixT (cVar 0) (cK (.int 1))))) [some (fr l0 l1), some (fr m0 m1), some (.lst (ws.map T.int ++ [.int w])), some (.int w), some (fr n0 n1)])
          (fun r2 => (∃ (ws : List Int) (l0 l1 m0 m1 : Int) (e : Option T), r2 = [some (fr l0 l1), some (fr m0 m1), some (rowT ws), some (.int (l0 / l1)), e] ∧ 0 < l1 ∧ (0 < m1 ∨ m1 = 0 ∧ m0 = 1) ∧ l0 * m1 < m0 * l1 ∧ (Bd 200 l0 ∧ Bd 200 l1 ∧ Bd 200 m0 ∧ Bd 200 m1) ∧ (∀ w ∈ ws, Bd 210 w) ∧
            ws.length + (stE l0 l1 + stE m0 m1) ≤ 900 ∧ ∀ u v, Bm (inO l0 l1 m0 m1) (l0 / l1) u v → Simp (inO L0 L1 M0 M1) (putU ws (u, v)).1 (putU ws (u, v)).2) ∧ stV r2 < stV [some (fr l0 l1), some (fr m0 m1), some (rowT ws), some (.int w), e])
          (fun t x => χ t []) bk ct (fun c w x => ζ c w) := by
        intro bk ct n0 n1 hn
        have n1b : 0 ≤ n1 ∧ Bd 200 n0 ∧ Bd 200 n1 ∧ (0 < n1 ∨ n1 = 0 ∧ n0 = 1) ∧ stE n0 n1 < stE l0 l1 ∧ m1 * n1 < n0 * (m0 - w * m1) := by
          rcases hn with ⟨h1, h2, h3⟩ | ⟨h1, h2, h3⟩ <;> rw [h2, h3]
          · refine ⟨Int.le_refl _, bd1, bd0, .inr ⟨rfl, rfl⟩, ?_, by omega⟩
            rw [hst]
            show 0 < _
            omega
          · have hp : 0 < l0 - w * l1 := by omega
            refine ⟨by omega, b1, b1.le (by rw [Int.add_mul] at f2; omega), .inl hp, ?_, by grind⟩
            rw [hme, hst]
            omega
        obtain ⟨n1a, n0b, n1c, n2, n3, n4⟩ := n1b
        walk_at "ew"
        refine ⟨_, mulT_bd bw.mono b3.mono, ?_⟩
        walk_at "ew"
        refine ⟨_, _, rfl, ?_⟩
        walk_at "norm"
        walk_at "ew"
        refine ⟨_, fdivT_bd dm bd'.mono, ?_⟩
        walk_at "norm"
        refine ⟨⟨ws ++ [w], m1, m0 - w * m1, n0, n1, some (fr n0 n1), by unfold rowT; rw [List.map_append]; rfl, dm, n2, n4, ⟨b3, bd', n0b, n1c⟩, ?_, ?_, fun u v h => ?_⟩, ?_⟩
        · intro x hx
          rcases List.mem_append.mp hx with hx | hx
          · exact hb x hx
          · rw [List.mem_singleton.mp hx]; exact bw.mono
        · rw [List.length_append, List.length_singleton]
          omega
        · rw [putU_app]
          exact hI _ _ (h.stepO hl f1 hm (by omega) hlt f0 hn)
        · show stE m1 (m0 - w * m1) + stE n0 n1 < stE l0 l1 + stE m0 m1
          omega
      refine WE.imp (ψ := fun t r1 => ∃ n0 n1 : Int, t = fr n0 n1 ∧ r1 = [some (fr l0 l1), some (fr m0 m1), some (.lst (ws.map T.int ++ [.int w])), some (.int w), e] ∧ (l0 = w * l1 ∧ n0 = 1 ∧ n1 = 0 ∨ l0 ≠ w * l1 ∧ n0 = l1 ∧ n1 = l0 - w * l1)) ?_ fun t r1 h => ?_
      · walk_at "ew"
        refine ⟨_, mulT_bd bw.mono b1.mono, ?_⟩
        walk_at "ew"
        refine ⟨fun y => ?_, fun y => ?_⟩
        · have y := of_decide_eq_true (eqI' y).symm
          walk_at "ew"
          exact ⟨1, 0, rfl, rfl, .inl ⟨y, rfl, rfl⟩⟩
        · have y := of_decide_eq_false (eqI' y).symm
          walk_at "ew"
          refine ⟨_, mulT_bd bw.mono b1.mono, ?_⟩
          walk_at "ew"
          exact ⟨_, _, rfl, rfl, .inr ⟨y, rfl, rfl⟩⟩
      · obtain ⟨n0, n1, rfl, rfl, hn⟩ := h
        walk_at "norm"
        exact rest _ _ n0 n1 hn
    · have z : ¬ (w + 1) * m1 ≥ m0 := of_decide_eq_false z
      walk_at "ew"
      refine putok hb bw1 (by omega) ?_
      exact q _ _ (hI _ _ (Bm.stopO hl f1 f2 (by omega)))
theorem ceil_le {a b : Int} (h : 0 < b) : a ≤ -(-a / b) * b ∧ (-(-a / b) - 1) * b < a := by
  obtain ⟨h1, h2⟩ := floor_le (a := -a) h
  rw [Int.add_mul] at h2
  rw [Int.sub_mul, Int.neg_mul]
  omega
theorem fromok {L0 L1 M0 M1 : Int} (hl : 0 < L1) (hm : 0 < M1) (hlt : L0 * M1 ≤ M0 * L1) (b0 : Bd 200 L0) (b1 : Bd 200 L1) (b2 : Bd 200 M0) (b3 : Bd 200 M1)
    (q : ∀ x y, Simp (inC L0 L1 M0 M1) x y → χ (fr x y) []) : WR (cm_found_from [fr L0 L1, fr M0 M1]) χ ζ := by
  refine WR_fn ?_
  walk_at "norm"
  walk_at "ew"
  walk_at "norm"
  walk_at "ew"
  refine ⟨_, fdivT_bd hl b1.mono, ?_⟩
  walk_at "ew"
  walk_at "norm"
  walk_at "ew"
  refine WS_wh (fun r => ∃ (ws : List Int) (l0 l1 m0 m1 : Int) (e : Option T), r = [some (fr l0 l1), some (fr m0 m1), some (rowT ws), some (.int (-(-l0 / l1))), e] ∧ 0 < l1 ∧ 0 < m1 ∧ l0 * m1 ≤ m0 * l1 ∧ (Bd 200 l0 ∧ Bd 200 l1 ∧ Bd 200 m0 ∧ Bd 200 m1) ∧ (∀ w ∈ ws, Bd 210 w) ∧
    ws.length + (stE l0 l1 + stE m0 m1) ≤ 900 ∧ ∀ u v, Bm (inC l0 l1 m0 m1) (l0 / l1) u v → Simp (inC L0 L1 M0 M1) (putU ws (u, v)).1 (putU ws (u, v)).2) stV ?_ ?_ ?_
  · refine ⟨[], L0, L1, M0, M1, none, rfl, hl, hm, hlt, ⟨b0, b1, b2, b3⟩, (fun w h => nomatch h), ?_, fun u v h => h.simp⟩
    have := stE_len (a := L0) b1
    have := stE_len (a := M0) b3
    simp
    omega
  · show stE L0 L1 + stE M0 M1 < 100000
    have := stE_len (a := L0) b1
    have := stE_len (a := M0) b3
    omega
  · rintro r ⟨ws, l0, l1, m0, m1, e, rfl, hl, hm, hlt, ⟨b0, b1, b2, b3⟩, hb, hn, hI⟩
    obtain ⟨f1, f2⟩ := floor_le (a := l0) hl
    obtain ⟨c1, c2⟩ := ceil_le (a := l0) hl
    have bw : Bd 200 (-(-l0 / l1)) := (b0.neg.div hl).neg
    have hst := stE_pos (a := l0) hl
    have hme := mod_eq l0 l1
    generalize hw : -(-l0 / l1) = w at *
    walk_at "ew"
    refine ⟨_, mulT_bd bw.mono b3.mono, ?_⟩
    walk_at "ew"
    refine ⟨fun z => ?_, fun z => ?_⟩
    · have z : w * m1 > m0 := of_decide_eq_true z
      have hs : l0 < w * l1 := by
        rcases Int.lt_or_eq_of_le c1 with h | h
        · exact h
        · have := Int.mul_lt_mul_of_pos_right z hl
          rw [h] at hlt
          have e : w * l1 * m1 = w * m1 * l1 := by grind
          omega
      have ef : l0 / l1 = w - 1 := floor_eq hl (by omega) (by rw [show w - 1 + 1 = w by omega]; exact hs)
      rw [ef] at hI f1 f2 hme
      have bw1 : Bd 210 (w - 1) := (bw.sub bd1).mono
      have dm : 0 < m0 - (w - 1) * m1 := by
        have : 0 < (m0 - (w - 1) * m1) * l1 := by
          have := Int.mul_lt_mul_of_pos_right c2 hm
          have e : (m0 - (w - 1) * m1) * l1 = m0 * l1 - (w - 1) * l1 * m1 := by grind
          omega
        exact Int.pos_of_mul_pos_left this hl
      have dm2 : m0 - (w - 1) * m1 < m1 := by
        rw [Int.sub_mul]
        omega
      have bd' : Bd 200 (m0 - (w - 1) * m1) := b3.le (by omega)
      have f0 : 0 ≤ m1 / (m0 - (w - 1) * m1) := Int.ediv_nonneg (by omega) (by omega)
      have sm : stE m1 (m0 - (w - 1) * m1) < stE m0 m1 := by
        have g := stE_pos (a := m0) hm
        have e0 : m0 / m1 = w - 1 := floor_eq hm (by omega) (by rw [show w - 1 + 1 = w by omega]; omega)
        have := mod_eq m0 m1
        rw [e0] at this
        rw [this]
        omega
      have lp : 0 < l0 - (w - 1) * l1 := by omega
      have lb : Bd 200 (l0 - (w - 1) * l1) := b1.le (by have := Int.sub_mul w 1 l1; omega)
      have sl : stE l1 (l0 - (w - 1) * l1) < stE l0 l1 := by
        rw [hme, hst]
        omega
      walk_at "ew"
      walk_at "norm"
      walk_at "ew"
      refine ⟨_, rfl, by rw [List.length_map]; omega, ?_⟩
      walk_at "norm"
      walk_at "ew"
      refine ⟨_, mulT_bd bw1.mono b3.mono, ?_⟩
      walk_at "ew"
      refine ⟨_, mulT_bd bw1.mono b1.mono, ?_⟩
      walk_at "ew"
      refine ⟨_, _, rfl, ?_⟩
      walk_at "norm"
      walk_at "ew"
      refine ⟨_, fdivT_bd dm bd'.mono, ?_⟩
      walk_at "ew"
      walk_at "norm"
      refine ⟨⟨ws ++ [w - 1], m1, m0 - (w - 1) * m1, l1, l0 - (w - 1) * l1, some (.int (w - 1)), by unfold rowT; rw [List.map_append]; rfl, dm, lp, by grind, ⟨b3, bd', b1, lb⟩, ?_, ?_, fun u v h => ?_⟩, ?_⟩
      · intro x hx
        rcases List.mem_append.mp hx with hx | hx
        · exact hb x hx
        · rw [List.mem_singleton.mp hx]; exact bw1
      · rw [List.length_append, List.length_singleton]
        omega
      · rw [putU_app]
        exact hI _ _ (h.stepC hl c2 hm (by rw [show w - 1 + 1 = w by omega]; omega) hlt f0)
      · show stE m1 (m0 - (w - 1) * m1) + stE l1 (l0 - (w - 1) * l1) < stE l0 l1 + stE m0 m1
        omega
    · have z : ¬ w * m1 > m0 := of_decide_eq_false z
      walk_at "ew"
      refine putok hb bw.mono (by omega) ?_
      exact q _ _ (hI _ _ (Bm.stopC hl c1 c2 f1 f2 (by omega)))
end
end Tc

set_option maxHeartbeats 0
namespace G
open PySem PySem.Spec L2 Tc
noncomputable section
def L0 : LamD := ⟨0, ("law" : Str) ++ ".<locals>." ++ "<lambda>", lamPa (ndAt (.s (top 48)) [1, 6, 3, 0, 0, 1]), lamBo (ndAt (.s (top 48)) [1, 6, 3, 0, 0, 1]), lamSc (ndAt (.s (top 48)) [1, 6, 3, 0, 0, 1]), ["most", "least"]⟩
def L1 : LamD := ⟨1, ("law" : Str) ++ ".<locals>." ++ "<lambda>", lamPa (ndAt (.s (top 48)) [1, 7, 0, 0, 1]), lamBo (ndAt (.s (top 48)) [1, 7, 0, 0, 1]), lamSc (ndAt (.s (top 48)) [1, 7, 0, 0, 1]), ["most", "least"]⟩
def L2 : LamD := ⟨2, ("law" : Str) ++ ".<locals>." ++ "<lambda>", lamPa (ndAt (.s (top 48)) [7, 2, 0, 0, 1, 0]), lamBo (ndAt (.s (top 48)) [7, 2, 0, 0, 1, 0]), lamSc (ndAt (.s (top 48)) [7, 2, 0, 0, 1, 0]), ["bad"]⟩
def L3 : LamD := ⟨3, ("law" : Str) ++ ".<locals>." ++ "<lambda>", lamPa (ndAt (.s (top 48)) [7, 2, 0, 0, 1, 1]), lamBo (ndAt (.s (top 48)) [7, 2, 0, 0, 1, 1]), lamSc (ndAt (.s (top 48)) [7, 2, 0, 0, 1, 1]), ["bad"]⟩
def L4 : LamD := ⟨4, ("law" : Str) ++ ".<locals>." ++ "<lambda>", lamPa (ndAt (.s (top 48)) [7, 2, 0, 0, 1, 2]), lamBo (ndAt (.s (top 48)) [7, 2, 0, 0, 1, 2]), lamSc (ndAt (.s (top 48)) [7, 2, 0, 0, 1, 2]), ["bad"]⟩
def L5 : LamD := ⟨5, ("law" : Str) ++ ".<locals>." ++ "<lambda>", lamPa (ndAt (.s (top 48)) [7, 2, 0, 0, 1, 3]), lamBo (ndAt (.s (top 48)) [7, 2, 0, 0, 1, 3]), lamSc (ndAt (.s (top 48)) [7, 2, 0, 0, 1, 3]), ["bad"]⟩
/-! what each def computes -/
def m_law_alike : Fc := fnM false 2 (cRet (cBin eqT (cApp reprE (cCons (cVar 0) cNil)) (cApp reprE (cCons (cVar 1) cNil))))
abbrev m_is_whole := Tc.cm_is_whole
abbrev m_is_fraction := Tc.cm_is_fraction
abbrev m_is_part := Tc.cm_is_part
abbrev m_check_part := Tc.cm_check_part
abbrev m_put_together := Tc.cm_put_together
abbrev m_found_from := Tc.cm_found_from
abbrev m_is_less := Tc.cm_is_less
def m_simplest_from : Fc := fnM false 2 (cSeq (cDrop (cCall m_check_part (cCons (cVar 0) cNil)))
 (cSeq (cDrop (cCall m_check_part (cCons (cVar 1) cNil)))
 (cSeq (cIfS (cB (cCall m_is_less (cCons (cVar 1) (cCons (cVar 0) cNil))))
 (cRaise "InvalidFraction" (cVar 1))
 cNx)
 (cRet (cCall m_found_from (cCons (cVar 0) (cCons (cVar 1) cNil)))))))
abbrev m_found_inside := Tc.cm_found_inside
def m_simplest_inside : Fc := fnM false 2 (cSeq (cDrop (cCall m_check_part (cCons (cVar 0) cNil)))
 (cSeq (cDrop (cCall m_check_part (cCons (cVar 1) cNil)))
 (cSeq (cIfS (cNotC (cB (cCall m_is_less (cCons (cVar 0) (cCons (cVar 1) cNil)))))
 (cRaise "InvalidFraction" (cVar 1))
 cNx)
 (cRet (cCall m_found_inside (cCons (cVar 0) (cCons (cVar 1) cNil)))))))
def l0 : List T → Res := fun xs => outR ((cCall m_simplest_from (cCons (cVar 0) (cCons (cVar 1) cNil))) (xs.map some))
def l1 : List T → Res := fun xs => outR ((cCall m_simplest_inside (cCons (cVar 0) (cCons (cVar 1) cNil))) (xs.map some))
def l2 : List T → Res := fun xs => outR ((cCall m_simplest_from (cCons (cVar 0) (cCons (cK .non) cNil))) (xs.map some))
def l3 : List T → Res := fun xs => outR ((cCall m_simplest_from (cCons (cTup (cCons (cK (.int 1)) (cCons (cK (.int 2)) cNil))) (cCons (cVar 0) cNil))) (xs.map some))
def l4 : List T → Res := fun xs => outR ((cCall m_simplest_inside (cCons (cVar 0) (cCons (cK .non) cNil))) (xs.map some))
def l5 : List T → Res := fun xs => outR ((cCall m_simplest_inside (cCons (cTup (cCons (cK (.int 1)) (cCons (cK (.int 2)) cNil))) (cCons (cVar 0) cNil))) (xs.map some))
def lams : List (LamD × (List T → Res)) := [(L0, l0), (L1, l1), (L2, l2), (L3, l3), (L4, l4), (L5, l5)]
def mA : LamD → List T → Res := lamFind lams
theorem mA_0 : mA L0 = l0 := lamFind_here
theorem mA_1 : mA L1 = l1 := (lamFind_next (by decide)).trans (lamFind_here)
theorem mA_2 : mA L2 = l2 := (lamFind_next (by decide)).trans ((lamFind_next (by decide)).trans (lamFind_here))
theorem mA_3 : mA L3 = l3 := (lamFind_next (by decide)).trans ((lamFind_next (by decide)).trans ((lamFind_next (by decide)).trans (lamFind_here)))
theorem mA_4 : mA L4 = l4 := (lamFind_next (by decide)).trans ((lamFind_next (by decide)).trans ((lamFind_next (by decide)).trans ((lamFind_next (by decide)).trans (lamFind_here))))
theorem mA_5 : mA L5 = l5 := (lamFind_next (by decide)).trans ((lamFind_next (by decide)).trans ((lamFind_next (by decide)).trans ((lamFind_next (by decide)).trans ((lamFind_next (by decide)).trans (lamFind_here)))))
def m_law_caught : Fc := fnM false 5 (cSeq (cSet 1 (cK .non))
 (cSeq (cTryE errs 2 1 (cAct mA 0))
 (cSeq (cIfS (cB (cBin isT (cVar 1) (cK .non)))
 (cRet (cTup (cCons (cK (.str "let")) (cCons (cK .non) cNil))))
 cNx)
 (cSeq (cSet 3 (cLst (cCons (cUn (isxT errs "InvalidRow") (cVar 1)) (cCons (cUn (isxT errs "InvalidLine") (cVar 1)) (cCons (cUn (isxT errs "InvalidFraction") (cVar 1)) (cCons (cUn (isxT errs "InvalidNumber") (cVar 1)) cNil))))))
 (cSeq (cSet 3 (cBin addT (cVar 3) (cLst (cCons (cUn (isxT errs "InvalidLengths") (cVar 1)) (cCons (cUn (isxT errs "InvalidCells") (cVar 1)) (cCons (cUn (isxT errs "InvalidWheels") (cVar 1)) (cCons (cUn (isxT errs "InvalidDate") (cVar 1)) cNil)))))))
 (cSeq (cSet 3 (cBin addT (cVar 3) (cLst (cCons (cUn (isxT errs "InvalidRule") (cVar 1)) (cCons (cUn (isxT errs "InvalidNames") (cVar 1)) (cCons (cUn (isxT errs "InvalidText") (cVar 1)) (cCons (cUn (isxT errs "InvalidEdit") (cVar 1)) cNil)))))))
 (cSeq (cSet 3 (cBin addT (cVar 3) (cLst (cCons (cUn (isxT errs "Uneven") (cVar 1)) (cCons (cUn (isxT errs "Unlike") (cVar 1)) (cCons (cUn (isxT errs "TooMany") (cVar 1)) cNil))))))
 (cSeq (cSet 4 (cLst (cCons (cK (.str "row")) (cCons (cK (.str "line")) (cCons (cK (.str "fraction")) (cCons (cK (.str "number")) (cCons (cK (.str "lengths")) (cCons (cK (.str "cells")) (cCons (cK (.str "wheels")) (cCons (cK (.str "date")) (cCons (cK (.str "rule")) (cCons (cK (.str "names")) (cCons (cK (.str "text")) (cCons (cK (.str "edit")) (cCons (cK (.str "uneven")) (cCons (cK (.str "unlike")) (cCons (cK (.str "many")) cNil)))))))))))))))))
 (cRet (cIf (cB (cBin eqT (cMt countT (cVar 3) (cK (.bl true))) (cK (.int 1)))) (cTup (cCons (cBin ixT (cVar 4) (cMt indexT (cVar 3) (cK (.bl true)))) (cCons (cUn (xvT errs) (cVar 1)) cNil))) (cTup (cCons (cK (.str "odd")) (cCons (cK .non) cNil)))))))))))))
def m_law_refused : Fc := fnM false 4 (cSeq (cSet 3 (cCall m_law_caught (cCons (cVar 0) cNil)))
 (cRet (cAndV (cBin eqT (cBin ixT (cVar 3) (cK (.int 0))) (cVar 1)) (cCall m_law_alike (cCons (cBin ixT (cVar 3) (cK (.int 1))) (cCons (cVar 2) cNil))))))
def m_law_all_refused : Fc := fnM false 4 (cRet (cBin eqT (cLc [3] (cItems (cVar 0)) (gSet 3) (cNotC (cB (cCall m_law_refused (cCons (cVar 3) (cCons (cVar 1) (cCons (cVar 2) cNil)))))) (cVar 3)) (cLst cNil)))
abbrev m_law_cell := Tc.cm_law_cell
abbrev m_law_generator := Tc.cm_law_generator
abbrev m_law_less := Tc.cm_law_less
def m_law_pairs : Fc := fnM false 5 (cSeq (cAsg (gTupT (gConsT (gSet 2) (gConsT (gSet 3) gNilT))) (cTup (cCons (cTup (cCons (cK (.int 0)) (cCons (cK (.int 1)) cNil))) (cCons (cTup (cCons (cK (.int 1)) (cCons (cK (.int 0)) cNil))) cNil))))
 (cSeq (cFor (cItems (cVar 0)) (gSet 1)
 (cSeq (cSet 4 (cTup (cCons (cBin addT (cBin ixT (cVar 2) (cK (.int 0))) (cBin ixT (cVar 3) (cK (.int 0)))) (cCons (cBin addT (cBin ixT (cVar 2) (cK (.int 1))) (cBin ixT (cVar 3) (cK (.int 1)))) cNil))))
 (cAsg (gTupT (gConsT (gSet 2) (gConsT (gSet 3) gNilT))) (cIf (cB (cBin eqT (cVar 1) (cK (.int 1)))) (cTup (cCons (cVar 4) (cCons (cVar 3) cNil))) (cTup (cCons (cVar 2) (cCons (cVar 4) cNil)))))))
 (cRet (cTup (cCons (cVar 2) (cCons (cVar 3) cNil))))))
abbrev m_law_gcd := Tc.cm_law_gcd
abbrev m_law_low := Tc.cm_law_low
abbrev m_law_hash := Tc.cm_law_hash
abbrev m_law_random := Tc.cm_law_random
abbrev m_law_pick := Tc.cm_law_pick
def m_law_part : Fc := fnM true 4 (cSeq (cSet 2 (cCallG m_law_random 0 (cCons (cK (.int 4)) cNil)))
 (cSeq (cIfS (cB (cBin eqT (cVar 2) (cK (.int 0))))
 (cRet (cCall m_law_low (cCons (cCallG m_law_random 0 (cCons (cK (.int 9)) cNil)) (cCons (cBin addT (cK (.int 1)) (cCallG m_law_random 0 (cCons (cK (.int 9)) cNil))) cNil))))
 cNx)
 (cSeq (cSet 3 (cBin addT (cK (.int 1)) (cCallG m_law_random 0 (cCons (cCallG m_law_pick 0 (cCons (cLst (cCons (cK (.int 12)) (cCons (cVar 1) (cCons (cVar 1) cNil)))) cNil)) cNil))))
 (cRet (cCall m_law_low (cCons (cCallG m_law_random 0 (cCons (cBin addT (cCallG m_law_pick 0 (cCons (cLst (cCons (cVar 3) (cCons (cBin mulT (cK (.int 3)) (cVar 3)) cNil))) cNil)) (cK (.int 1))) cNil)) (cCons (cVar 3) cNil)))))))
abbrev m_law_same := Tc.cm_law_same
def m_law_simplest : Fc := fnM false 8 (cSeq (cFor (cRange2 (cCons (cK (.int 1)) (cCons (cK (.int 4000)) cNil))) (gSet 3)
 (cSeq (cSet 4 (cBin fdivT (cBin mulT (cBin ixT (cVar 0) (cK (.int 0))) (cVar 3)) (cBin ixT (cVar 0) (cK (.int 1)))))
 (cFor (cItems (cTup (cCons (cVar 4) (cCons (cBin addT (cVar 4) (cK (.int 1))) cNil)))) (gSet 5)
 (cSeq (cSet 6 (cBin subT (cBin mulT (cVar 5) (cBin ixT (cVar 0) (cK (.int 1)))) (cBin mulT (cBin ixT (cVar 0) (cK (.int 0))) (cVar 3))))
 (cSeq (cSet 7 (cBin subT (cBin mulT (cBin ixT (cVar 1) (cK (.int 0))) (cVar 3)) (cBin mulT (cVar 5) (cBin ixT (cVar 1) (cK (.int 1))))))
 (cIfS (cAndC (cB (cBin geT (cVar 6) (cApp intT (cCons (cVar 2) cNil)))) (cB (cBin geT (cVar 7) (cApp intT (cCons (cVar 2) cNil)))))
 (cRet (cCall m_law_low (cCons (cVar 5) (cCons (cVar 3) cNil))))
 cNx))))))
 (cRet (cK .non)))
def m_law_wrong_parts : Fc := fnM false 0 (cRet (cLst (cCons (cK .non) (cCons (cK (.int 7)) (cCons (cTup cNil) (cCons (cLst cNil) (cCons (cTup (cCons (cK (.int 1)) cNil)) (cCons (cLst (cCons (cK (.int 1)) (cCons (cK (.int 2)) cNil))) (cCons (cTup (cCons (cK (.int 1)) (cCons (cK (.int 2)) (cCons (cK (.int 3)) cNil)))) (cCons (cTup (cCons (cK (.int 2)) (cCons (cK (.int 4)) cNil))) (cCons (cTup (cCons (cK (.int 1)) (cCons (cK (.int 0)) cNil))) (cCons (cTup (cCons (cK (.int 1)) (cCons (cBin subT (cK (.int 0)) (cK (.int 2))) cNil))) (cCons (cTup (cCons (cBin subT (cK (.int 0)) (cK (.int 1))) (cCons (cK (.int 2)) cNil))) (cCons (cTup (cCons (cK (.bl true)) (cCons (cK (.int 2)) cNil))) (cCons (cTup (cCons (cK (.int 1)) (cCons (cK (.bl true)) cNil))) (cCons (cTup (cCons (cK (.str "1")) (cCons (cK (.int 2)) cNil))) (cCons (cTup (cCons (cK (.int 1)) (cCons (cK .non) cNil))) (cCons (cK (.str "1/2")) (cCons (cK .emp) cNil)))))))))))))))))))
def m_law : Fc := fnM false 17 (cSeq (cPar2 5 6 (cCons (cCall m_law_generator (cCons (cVar 0) (cCons (cK (.int 0)) cNil))) (cCons (cCall m_law_generator (cCons (cVar 0) (cCons (cK (.int 1)) cNil))) cNil)))
 (cSeq (cFor (cRange1 (cCons (cK (.int 4)) cNil)) (gSet 1)
 (cSeq (cPar2 12 13 (cCons (cCallG m_law_part 5 (cCons (cK (.int 60)) cNil)) (cCons (cCallG m_law_part 5 (cCons (cK (.int 60)) cNil)) cNil)))
 (cSeq (cAsg (gTupT (gConsT (gSet 14) (gConsT (gSet 15) gNilT))) (cIf (cB (cCall m_law_less (cCons (cVar 13) (cCons (cVar 12) cNil)))) (cTup (cCons (cVar 13) (cCons (cVar 12) cNil))) (cTup (cCons (cVar 12) (cCons (cVar 13) cNil)))))
 (cSeq (cSet 7 (cCall m_law_simplest (cCons (cVar 14) (cCons (cVar 15) (cCons (cK (.bl false)) cNil)))))
 (cSeq (cIfS (cNotC (cB (cCall (m_law_same 12) (cCons (cLst (cCons (cCall m_simplest_from (cCons (cVar 14) (cCons (cVar 15) cNil))) (cCons (cCallK m_simplest_from [1, 0] (cCons (cVar 15) (cCons (cVar 14) cNil))) cNil))) (cCons (cLst (cCons (cVar 7) (cCons (cVar 7) cNil))) cNil)))))
 (cRet (cK (.bl false)))
 cNx)
 (cSeq (cIfS (cB (cCall m_law_less (cCons (cVar 14) (cCons (cVar 15) cNil))))
 (cSeq (cSet 7 (cCall m_law_simplest (cCons (cVar 14) (cCons (cVar 15) (cCons (cK (.bl true)) cNil)))))
 (cSeq (cIfS (cNotC (cB (cCall (m_law_same 12) (cCons (cLst (cCons (cCall m_simplest_inside (cCons (cVar 14) (cCons (cVar 15) cNil))) (cCons (cCallK m_simplest_inside [1, 0] (cCons (cVar 15) (cCons (cVar 14) cNil))) cNil))) (cCons (cLst (cCons (cVar 7) (cCons (cVar 7) cNil))) cNil)))))
 (cRet (cK (.bl false)))
 cNx)
 (cIfS (cNotC (cB (cCallL m_law_refused L0 [15, 14] (cCons (cK (.str "fraction")) (cCons (cVar 14) cNil)))))
 (cRet (cK (.bl false)))
 cNx)))
 cNx)
 (cIfS (cNotC (cB (cCallL m_law_refused L1 [15, 14] (cCons (cK (.str "fraction")) (cCons (cVar 14) cNil)))))
 (cRet (cK (.bl false)))
 cNx)))))))
 (cSeq (cSet 2 (cLc [16] (cRange1 (cCons (cBin addT (cK (.int 20)) (cCallG m_law_random 6 (cCons (cK (.int 40)) cNil))) cNil)) (gSet 16) cTrue (cCallG m_law_random 6 (cCons (cK (.int 2)) cNil))))
 (cSeq (cAsg (gTupT (gConsT (gSet 8) (gConsT (gSet 9) gNilT))) (cCall m_law_pairs (cCons (cVar 2) cNil)))
 (cSeq (cSet 3 (cTup (cCons (cBin addT (cBin ixT (cVar 8) (cK (.int 0))) (cBin ixT (cVar 9) (cK (.int 0)))) (cCons (cBin addT (cBin ixT (cVar 8) (cK (.int 1))) (cBin ixT (cVar 9) (cK (.int 1)))) cNil))))
 (cSeq (cPar2 10 11 (cCons (cTup (cCons (cBin addT (cBin ixT (cVar 8) (cK (.int 0))) (cBin mulT (cK (.int 2)) (cBin ixT (cVar 3) (cK (.int 0))))) (cCons (cBin addT (cBin ixT (cVar 8) (cK (.int 1))) (cBin mulT (cK (.int 2)) (cBin ixT (cVar 3) (cK (.int 1))))) cNil))) (cCons (cTup (cCons (cBin addT (cBin ixT (cVar 9) (cK (.int 0))) (cBin mulT (cK (.int 3)) (cBin ixT (cVar 3) (cK (.int 0))))) (cCons (cBin addT (cBin ixT (cVar 9) (cK (.int 1))) (cBin mulT (cK (.int 3)) (cBin ixT (cVar 3) (cK (.int 1))))) cNil))) cNil)))
 (cSeq (cIfS (cNotC (cB (cCall (m_law_same 12) (cCons (cLst (cCons (cCall m_simplest_from (cCons (cVar 10) (cCons (cVar 11) cNil))) (cCons (cCall m_simplest_inside (cCons (cVar 10) (cCons (cVar 11) cNil))) (cCons (cCall m_simplest_from (cCons (cVar 3) (cCons (cVar 11) cNil))) (cCons (cCall m_simplest_from (cCons (cVar 10) (cCons (cVar 3) cNil))) cNil))))) (cCons (cBin mulT (cLst (cCons (cVar 3) cNil)) (cK (.int 4))) cNil)))))
 (cRet (cK (.bl false)))
 cNx)
 (cSeq (cFor (cItems (cCall m_law_wrong_parts cNil)) (gSet 4)
 (cIfS (cNotC (cB (cCallLs m_law_all_refused [(L2, [4]), (L3, [4]), (L4, [4]), (L5, [4])] (cCons (cK (.str "fraction")) (cCons (cVar 4) cNil)))))
 (cRet (cK (.bl false)))
 cNx))
 (cSeq (cSet 3 (cLst (cCons (cCall m_simplest_from (cCons (cTup (cCons (cK (.int 1)) (cCons (cK (.int 3)) cNil))) (cCons (cTup (cCons (cK (.int 1)) (cCons (cK (.int 2)) cNil))) cNil))) (cCons (cCall m_simplest_inside (cCons (cTup (cCons (cK (.int 1)) (cCons (cK (.int 3)) cNil))) (cCons (cTup (cCons (cK (.int 1)) (cCons (cK (.int 2)) cNil))) cNil))) (cCons (cCall m_simplest_inside (cCons (cTup (cCons (cK (.int 31)) (cCons (cK (.int 10)) cNil))) (cCons (cTup (cCons (cK (.int 16)) (cCons (cK (.int 5)) cNil))) cNil))) (cCons (cCall m_simplest_from (cCons (cTup (cCons (cK (.int 0)) (cCons (cK (.int 1)) cNil))) (cCons (cTup (cCons (cK (.int 0)) (cCons (cK (.int 1)) cNil))) cNil))) (cCons (cCall m_simplest_inside (cCons (cTup (cCons (cK (.int 0)) (cCons (cK (.int 1)) cNil))) (cCons (cTup (cCons (cK (.int 1)) (cCons (cK (.int 9)) cNil))) cNil))) cNil)))))))
 (cRet (cCall (m_law_same 12) (cCons (cVar 3) (cCons (cLst (cCons (cTup (cCons (cK (.int 1)) (cCons (cK (.int 2)) cNil))) (cCons (cTup (cCons (cK (.int 2)) (cCons (cK (.int 5)) cNil))) (cCons (cTup (cCons (cK (.int 19)) (cCons (cK (.int 6)) cNil))) (cCons (cTup (cCons (cK (.int 0)) (cCons (cK (.int 1)) cNil))) (cCons (cTup (cCons (cK (.int 1)) (cCons (cK (.int 10)) cNil))) cNil)))))) cNil)))))))))))))
end
end G
namespace G
open PySem PySem.Spec L2 Tc
/-! the text -/
structure Tp (P : Program) (K : PySem.W.Frag) (mg : Str → Option Value) : Type where
  a_law_alike : Addr
  d_law_alike : FuncData
  t_law_alike : TopD K mg "_law_alike" (top 41) a_law_alike d_law_alike
  a_is_whole : Addr
  d_is_whole : FuncData
  t_is_whole : TopD K mg "is_whole" (top 19) a_is_whole d_is_whole
  a_is_fraction : Addr
  d_is_fraction : FuncData
  t_is_fraction : TopD K mg "is_fraction" (top 20) a_is_fraction d_is_fraction
  a_is_part : Addr
  d_is_part : FuncData
  t_is_part : TopD K mg "is_part" (top 23) a_is_part d_is_part
  a_check_part : Addr
  d_check_part : FuncData
  t_check_part : TopD K mg "check_part" (top 24) a_check_part d_check_part
  a_put_together : Addr
  d_put_together : FuncData
  t_put_together : TopD K mg "put_together" (top 25) a_put_together d_put_together
  a_found_from : Addr
  d_found_from : FuncData
  t_found_from : TopD K mg "found_from" (top 26) a_found_from d_found_from
  a_is_less : Addr
  d_is_less : FuncData
  t_is_less : TopD K mg "is_less" (top 21) a_is_less d_is_less
  a_simplest_from : Addr
  d_simplest_from : FuncData
  t_simplest_from : TopD K mg "simplest_from" (top 27) a_simplest_from d_simplest_from
  a_found_inside : Addr
  d_found_inside : FuncData
  t_found_inside : TopD K mg "found_inside" (top 28) a_found_inside d_found_inside
  a_simplest_inside : Addr
  d_simplest_inside : FuncData
  t_simplest_inside : TopD K mg "simplest_inside" (top 29) a_simplest_inside d_simplest_inside
  a_law_caught : Addr
  d_law_caught : FuncData
  t_law_caught : TopD K mg "_law_caught" (top 40) a_law_caught d_law_caught
  a_law_refused : Addr
  d_law_refused : FuncData
  t_law_refused : TopD K mg "_law_refused" (top 42) a_law_refused d_law_refused
  a_law_all_refused : Addr
  d_law_all_refused : FuncData
  t_law_all_refused : TopD K mg "_law_all_refused" (top 43) a_law_all_refused d_law_all_refused
  a_law_cell : Addr
  d_law_cell : FuncData
  t_law_cell : TopD K mg "_law_cell" (top 33) a_law_cell d_law_cell
  a_law_generator : Addr
  d_law_generator : FuncData
  t_law_generator : TopD K mg "_law_generator" (top 34) a_law_generator d_law_generator
  a_law_less : Addr
  d_law_less : FuncData
  t_law_less : TopD K mg "_law_less" (top 39) a_law_less d_law_less
  a_law_pairs : Addr
  d_law_pairs : FuncData
  t_law_pairs : TopD K mg "_law_pairs" (top 47) a_law_pairs d_law_pairs
  a_law_gcd : Addr
  d_law_gcd : FuncData
  t_law_gcd : TopD K mg "_law_gcd" (top 37) a_law_gcd d_law_gcd
  a_law_low : Addr
  d_law_low : FuncData
  t_law_low : TopD K mg "_law_low" (top 38) a_law_low d_law_low
  a_law_hash : Addr
  d_law_hash : FuncData
  t_law_hash : TopD K mg "_law_hash" (top 31) a_law_hash d_law_hash
  a_law_random : Addr
  d_law_random : FuncData
  t_law_random : TopD K mg "_law_random" (top 32) a_law_random d_law_random
  a_law_pick : Addr
  d_law_pick : FuncData
  t_law_pick : TopD K mg "_law_pick" (top 35) a_law_pick d_law_pick
  a_law_part : Addr
  d_law_part : FuncData
  t_law_part : TopD K mg "_law_part" (top 44) a_law_part d_law_part
  a_law_same : Addr
  d_law_same : FuncData
  t_law_same : TopD K mg "_law_same" (top 36) a_law_same d_law_same
  a_law_simplest : Addr
  d_law_simplest : FuncData
  t_law_simplest : TopD K mg "_law_simplest" (top 46) a_law_simplest d_law_simplest
  a_law_wrong_parts : Addr
  d_law_wrong_parts : FuncData
  t_law_wrong_parts : TopD K mg "_law_wrong_parts" (top 45) a_law_wrong_parts d_law_wrong_parts
  a_law : Addr
  d_law : FuncData
  t_law : TopD K mg "law" (top 48) a_law d_law
  b_abs : mg "abs" = none
  b_bool : mg "bool" = none
  b_int : mg "int" = none
  b_isinstance : mg "isinstance" = none
  b_len : mg "len" = none
  b_list : mg "list" = none
  b_max : mg "max" = none
  b_range : mg "range" = none
  b_repr : mg "repr" = none
  b_str : mg "str" = none
  b_sum : mg "sum" = none
  b_super : mg "super" = none
  b_tuple : mg "tuple" = none
  n_gcd : mg "gcd" = some (.builtin "math.gcd")
  ek : ErrsK P K errs tsts
  x_InvalidCells : mg "InvalidCells" = some (.ref (He.ga K "InvalidCells"))
  x_InvalidDate : mg "InvalidDate" = some (.ref (He.ga K "InvalidDate"))
  x_InvalidEdit : mg "InvalidEdit" = some (.ref (He.ga K "InvalidEdit"))
  x_InvalidFraction : mg "InvalidFraction" = some (.ref (He.ga K "InvalidFraction"))
  x_InvalidLengths : mg "InvalidLengths" = some (.ref (He.ga K "InvalidLengths"))
  x_InvalidLine : mg "InvalidLine" = some (.ref (He.ga K "InvalidLine"))
  x_InvalidNames : mg "InvalidNames" = some (.ref (He.ga K "InvalidNames"))
  x_InvalidNumber : mg "InvalidNumber" = some (.ref (He.ga K "InvalidNumber"))
  x_InvalidRow : mg "InvalidRow" = some (.ref (He.ga K "InvalidRow"))
  x_InvalidRule : mg "InvalidRule" = some (.ref (He.ga K "InvalidRule"))
  x_InvalidText : mg "InvalidText" = some (.ref (He.ga K "InvalidText"))
  x_InvalidWheels : mg "InvalidWheels" = some (.ref (He.ga K "InvalidWheels"))
  x_SpreadError : mg "SpreadError" = some (.ref (He.ga K "SpreadError"))
  x_TooMany : mg "TooMany" = some (.ref (He.ga K "TooMany"))
  x_Uneven : mg "Uneven" = some (.ref (He.ga K "Uneven"))
  x_Unlike : mg "Unlike" = some (.ref (He.ga K "Unlike"))
  ex_SpreadError : ∀ n ∈ errs, PySem.W.exmOne K (.ref (He.ga K n)) (.ref (He.ga K "SpreadError")) = some true
  nd : ((mks K).map fun p => p.2.1).Nodup
  k_law : d_law.code = .ref (He.cT K ("law", none)).1
theorem bo_law_alike : BindOk "_law_alike" (top 41) ["told", "due"] := fun kV doc pm an cdv ct us hl => match us, hl with | [_, _], _ => rfl
theorem sc_law_alike : FnScope ["told", "due"] ["told", "due"] (defScope (top 41)) := ⟨rfl, rfl, rfl, by decide +kernel, rfl, by decide +kernel, by decide +kernel⟩
theorem bo_is_whole : BindOk "is_whole" (top 19) ["value"] := fun kV doc pm an cdv ct us hl => match us, hl with | [_], _ => rfl
theorem sc_is_whole : FnScope ["value"] ["value"] (defScope (top 19)) := ⟨rfl, rfl, rfl, by decide +kernel, rfl, by decide +kernel, by decide +kernel⟩
theorem bo_is_fraction : BindOk "is_fraction" (top 20) ["value"] := fun kV doc pm an cdv ct us hl => match us, hl with | [_], _ => rfl
theorem sc_is_fraction : FnScope ["value"] ["value"] (defScope (top 20)) := ⟨rfl, rfl, rfl, by decide +kernel, rfl, by decide +kernel, by decide +kernel⟩
theorem bo_is_part : BindOk "is_part" (top 23) ["value"] := fun kV doc pm an cdv ct us hl => match us, hl with | [_], _ => rfl
theorem sc_is_part : FnScope ["value"] ["value"] (defScope (top 23)) := ⟨rfl, rfl, rfl, by decide +kernel, rfl, by decide +kernel, by decide +kernel⟩
theorem bo_check_part : BindOk "check_part" (top 24) ["value"] := fun kV doc pm an cdv ct us hl => match us, hl with | [_], _ => rfl
theorem sc_check_part : FnScope ["value"] ["value"] (defScope (top 24)) := ⟨rfl, rfl, rfl, by decide +kernel, rfl, by decide +kernel, by decide +kernel⟩
theorem bo_put_together : BindOk "put_together" (top 25) ["wholes", "last"] := fun kV doc pm an cdv ct us hl => match us, hl with | [_, _], _ => rfl
theorem sc_put_together : FnScope ["wholes", "last", "whole", "number", "bottom"] ["wholes", "last"] (defScope (top 25)) := ⟨rfl, rfl, rfl, by decide +kernel, rfl, by decide +kernel, by decide +kernel⟩
theorem bo_found_from : BindOk "found_from" (top 26) ["least", "most"] := fun kV doc pm an cdv ct us hl => match us, hl with | [_, _], _ => rfl
theorem sc_found_from : FnScope ["least", "most", "wholes", "whole", "below"] ["least", "most"] (defScope (top 26)) := ⟨rfl, rfl, rfl, by decide +kernel, rfl, by decide +kernel, by decide +kernel⟩
theorem bo_is_less : BindOk "is_less" (top 21) ["one", "other"] := fun kV doc pm an cdv ct us hl => match us, hl with | [_, _], _ => rfl
theorem sc_is_less : FnScope ["one", "other"] ["one", "other"] (defScope (top 21)) := ⟨rfl, rfl, rfl, by decide +kernel, rfl, by decide +kernel, by decide +kernel⟩
theorem bo_simplest_from : BindOk "simplest_from" (top 27) ["least", "most"] := fun kV doc pm an cdv ct us hl => match us, hl with | [_, _], _ => rfl
theorem sc_simplest_from : FnScope ["least", "most"] ["least", "most"] (defScope (top 27)) := ⟨rfl, rfl, rfl, by decide +kernel, rfl, by decide +kernel, by decide +kernel⟩
theorem bo_found_inside : BindOk "found_inside" (top 28) ["least", "most"] := fun kV doc pm an cdv ct us hl => match us, hl with | [_, _], _ => rfl
theorem sc_found_inside : FnScope ["least", "most", "wholes", "whole", "end"] ["least", "most"] (defScope (top 28)) := ⟨rfl, rfl, rfl, by decide +kernel, rfl, by decide +kernel, by decide +kernel⟩
theorem bo_simplest_inside : BindOk "simplest_inside" (top 29) ["least", "most"] := fun kV doc pm an cdv ct us hl => match us, hl with | [_, _], _ => rfl
theorem sc_simplest_inside : FnScope ["least", "most"] ["least", "most"] (defScope (top 29)) := ⟨rfl, rfl, rfl, by decide +kernel, rfl, by decide +kernel, by decide +kernel⟩
theorem bo_law_caught : BindOk "_law_caught" (top 40) ["call"] := fun kV doc pm an cdv ct us hl => match us, hl with | [_], _ => rfl
theorem sc_law_caught : FnScope ["call", "caught", "e", "kinds", "words"] ["call"] (defScope (top 40)) := ⟨rfl, rfl, rfl, by decide +kernel, rfl, by decide +kernel, by decide +kernel⟩
theorem bo_law_refused : BindOk "_law_refused" (top 42) ["call", "word", "value"] := fun kV doc pm an cdv ct us hl => match us, hl with | [_, _, _], _ => rfl
theorem sc_law_refused : FnScope ["call", "word", "value", "told"] ["call", "word", "value"] (defScope (top 42)) := ⟨rfl, rfl, rfl, by decide +kernel, rfl, by decide +kernel, by decide +kernel⟩
theorem bo_law_all_refused : BindOk "_law_all_refused" (top 43) ["calls", "word", "value"] := fun kV doc pm an cdv ct us hl => match us, hl with | [_, _, _], _ => rfl
theorem sc_law_all_refused : FnScope ["calls", "word", "value", "call"] ["calls", "word", "value"] (defScope (top 43)) := ⟨rfl, rfl, rfl, by decide +kernel, rfl, by decide +kernel, by decide +kernel⟩
theorem bo_law_cell : BindOk "_law_cell" (top 33) ["script", "index"] := fun kV doc pm an cdv ct us hl => match us, hl with | [_, _], _ => rfl
theorem sc_law_cell : FnScope ["script", "index"] ["script", "index"] (defScope (top 33)) := ⟨rfl, rfl, rfl, by decide +kernel, rfl, by decide +kernel, by decide +kernel⟩
theorem bo_law_generator : BindOk "_law_generator" (top 34) ["script", "index"] := fun kV doc pm an cdv ct us hl => match us, hl with | [_, _], _ => rfl
theorem sc_law_generator : FnScope ["script", "index", "seed"] ["script", "index"] (defScope (top 34)) := ⟨rfl, rfl, rfl, by decide +kernel, rfl, by decide +kernel, by decide +kernel⟩
theorem bo_law_less : BindOk "_law_less" (top 39) ["one", "other"] := fun kV doc pm an cdv ct us hl => match us, hl with | [_, _], _ => rfl
theorem sc_law_less : FnScope ["one", "other"] ["one", "other"] (defScope (top 39)) := ⟨rfl, rfl, rfl, by decide +kernel, rfl, by decide +kernel, by decide +kernel⟩
theorem bo_law_pairs : BindOk "_law_pairs" (top 47) ["row"] := fun kV doc pm an cdv ct us hl => match us, hl with | [_], _ => rfl
theorem sc_law_pairs : FnScope ["row", "letter", "one", "other", "middle"] ["row"] (defScope (top 47)) := ⟨rfl, rfl, rfl, by decide +kernel, rfl, by decide +kernel, by decide +kernel⟩
theorem bo_law_gcd : BindOk "_law_gcd" (top 37) ["one", "other"] := fun kV doc pm an cdv ct us hl => match us, hl with | [_, _], _ => rfl
theorem sc_law_gcd : FnScope ["one", "other", "turn"] ["one", "other"] (defScope (top 37)) := ⟨rfl, rfl, rfl, by decide +kernel, rfl, by decide +kernel, by decide +kernel⟩
theorem bo_law_low : BindOk "_law_low" (top 38) ["over", "under"] := fun kV doc pm an cdv ct us hl => match us, hl with | [_, _], _ => rfl
theorem sc_law_low : FnScope ["over", "under", "divisor"] ["over", "under"] (defScope (top 38)) := ⟨rfl, rfl, rfl, by decide +kernel, rfl, by decide +kernel, by decide +kernel⟩
theorem bo_law_hash : BindOk "_law_hash" (top 31) ["seed", "index"] := fun kV doc pm an cdv ct us hl => match us, hl with | [_, _], _ => rfl
theorem sc_law_hash : FnScope ["seed", "index", "mixed"] ["seed", "index"] (defScope (top 31)) := ⟨rfl, rfl, rfl, by decide +kernel, rfl, by decide +kernel, by decide +kernel⟩
theorem bo_law_random : BindOk "_law_random" (top 32) ["generator", "bound"] := fun kV doc pm an cdv ct us hl => match us, hl with | [_, _], _ => rfl
theorem sc_law_random : FnScope ["generator", "bound", "drawn", "turn"] ["generator", "bound"] (defScope (top 32)) := ⟨rfl, rfl, rfl, by decide +kernel, rfl, by decide +kernel, by decide +kernel⟩
theorem bo_law_pick : BindOk "_law_pick" (top 35) ["generator", "things"] := fun kV doc pm an cdv ct us hl => match us, hl with | [_, _], _ => rfl
theorem sc_law_pick : FnScope ["generator", "things"] ["generator", "things"] (defScope (top 35)) := ⟨rfl, rfl, rfl, by decide +kernel, rfl, by decide +kernel, by decide +kernel⟩
theorem bo_law_part : BindOk "_law_part" (top 44) ["generator", "most"] := fun kV doc pm an cdv ct us hl => match us, hl with | [_, _], _ => rfl
theorem sc_law_part : FnScope ["generator", "most", "way", "bottom"] ["generator", "most"] (defScope (top 44)) := ⟨rfl, rfl, rfl, by decide +kernel, rfl, by decide +kernel, by decide +kernel⟩
theorem bo_law_same : BindOk "_law_same" (top 36) ["told", "due"] := fun kV doc pm an cdv ct us hl => match us, hl with | [_, _], _ => rfl
theorem sc_law_same : FnScope ["told", "due", "at"] ["told", "due"] (defScope (top 36)) := ⟨rfl, rfl, rfl, by decide +kernel, rfl, by decide +kernel, by decide +kernel⟩
theorem bo_law_simplest : BindOk "_law_simplest" (top 46) ["least", "most", "strict"] := fun kV doc pm an cdv ct us hl => match us, hl with | [_, _, _], _ => rfl
theorem sc_law_simplest : FnScope ["least", "most", "strict", "bottom", "number", "one", "ahead", "behind"] ["least", "most", "strict"] (defScope (top 46)) := ⟨rfl, rfl, rfl, by decide +kernel, rfl, by decide +kernel, by decide +kernel⟩
theorem bo_law_wrong_parts : BindOk "_law_wrong_parts" (top 45) [] := fun kV doc pm an cdv ct us hl => match us, hl with | [], _ => rfl
theorem sc_law_wrong_parts : FnScope [] [] (defScope (top 45)) := ⟨rfl, rfl, rfl, by decide +kernel, rfl, by decide +kernel, by decide +kernel⟩
theorem bo_law : BindOk "law" (top 48) ["script"] := fun kV doc pm an cdv ct us hl => match us, hl with | [_], _ => rfl
theorem sc_law : FnScope ["script", "turn", "way", "told", "bad", "generator", "other", "due", "first", "second", "low", "high", "one", "two", "least", "most", "letter"] ["script"] (defScope (top 48)) := ⟨rfl, rfl, rfl, by decide +kernel, rfl, by decide +kernel, by decide +kernel⟩
theorem kw_simplest_from_1_0 : ∀ (kV doc pm : Value) (an : Option Addr) (cdv ct : Value) (ws : List Value), ws.length = [("most" : Str), ("least" : Str)].length → bindArgs (PySem.W.fnOf "simplest_from" "simplest_from" (defArgs (top 27)) (defBody (top 27)) (defScope (top 27)) .none kV doc pm an cdv ct) ⟨[], (["most", "least"] : List Str).zip ws⟩ = pure ((["least", "most"] : List Str).zip (pick [1, 0] ws)) := fun kV doc pm an cdv ct ws hl => match ws, hl with | [_, _], _ => rfl
theorem kw_simplest_inside_1_0 : ∀ (kV doc pm : Value) (an : Option Addr) (cdv ct : Value) (ws : List Value), ws.length = [("most" : Str), ("least" : Str)].length → bindArgs (PySem.W.fnOf "simplest_inside" "simplest_inside" (defArgs (top 29)) (defBody (top 29)) (defScope (top 29)) .none kV doc pm an cdv ct) ⟨[], (["most", "least"] : List Str).zip ws⟩ = pure ((["least", "most"] : List Str).zip (pick [1, 0] ws)) := fun kV doc pm an cdv ct ws hl => match ws, hl with | [_, _], _ => rfl
theorem lb_0 : LamB L0 := ⟨rfl, rfl, rfl, by decide +kernel, by decide +kernel, by decide +kernel, by decide +kernel, fun cl pm cv ctv => rfl⟩
theorem lf_0 : LamF0 (defScope (top 48)) ["script", "turn", "way", "told", "bad", "generator", "other", "due", "first", "second", "low", "high", "one", "two", "least", "most", "letter"] L0 [15, 14] := ⟨fun _ => rfl, by decide +kernel, by decide +kernel, by decide +kernel, by decide +kernel⟩
theorem lb_1 : LamB L1 := ⟨rfl, rfl, rfl, by decide +kernel, by decide +kernel, by decide +kernel, by decide +kernel, fun cl pm cv ctv => rfl⟩
theorem lf_1 : LamF0 (defScope (top 48)) ["script", "turn", "way", "told", "bad", "generator", "other", "due", "first", "second", "low", "high", "one", "two", "least", "most", "letter"] L1 [15, 14] := ⟨fun _ => rfl, by decide +kernel, by decide +kernel, by decide +kernel, by decide +kernel⟩
theorem lb_2 : LamB L2 := ⟨rfl, rfl, rfl, by decide +kernel, by decide +kernel, by decide +kernel, by decide +kernel, fun cl pm cv ctv => rfl⟩
theorem lf_2 : LamF0 (defScope (top 48)) ["script", "turn", "way", "told", "bad", "generator", "other", "due", "first", "second", "low", "high", "one", "two", "least", "most", "letter"] L2 [4] := ⟨fun _ => rfl, by decide +kernel, by decide +kernel, by decide +kernel, by decide +kernel⟩
theorem lb_3 : LamB L3 := ⟨rfl, rfl, rfl, by decide +kernel, by decide +kernel, by decide +kernel, by decide +kernel, fun cl pm cv ctv => rfl⟩
theorem lf_3 : LamF0 (defScope (top 48)) ["script", "turn", "way", "told", "bad", "generator", "other", "due", "first", "second", "low", "high", "one", "two", "least", "most", "letter"] L3 [4] := ⟨fun _ => rfl, by decide +kernel, by decide +kernel, by decide +kernel, by decide +kernel⟩
theorem lb_4 : LamB L4 := ⟨rfl, rfl, rfl, by decide +kernel, by decide +kernel, by decide +kernel, by decide +kernel, fun cl pm cv ctv => rfl⟩
theorem lf_4 : LamF0 (defScope (top 48)) ["script", "turn", "way", "told", "bad", "generator", "other", "due", "first", "second", "low", "high", "one", "two", "least", "most", "letter"] L4 [4] := ⟨fun _ => rfl, by decide +kernel, by decide +kernel, by decide +kernel, by decide +kernel⟩
theorem lb_5 : LamB L5 := ⟨rfl, rfl, rfl, by decide +kernel, by decide +kernel, by decide +kernel, by decide +kernel, fun cl pm cv ctv => rfl⟩
theorem lf_5 : LamF0 (defScope (top 48)) ["script", "turn", "way", "told", "bad", "generator", "other", "due", "first", "second", "low", "high", "one", "two", "least", "most", "letter"] L5 [4] := ⟨fun _ => rfl, by decide +kernel, by decide +kernel, by decide +kernel, by decide +kernel⟩
section
variable {P : Program} {w : World} {K : PySem.W.Frag} {mg : Str → Option Value} {base : Heap}
theorem mk_law {c : SC} (T : Tp P K mg) (Z : TabBs base mg (mks K)) (hl : c.lc = some (("law" : Str) ++ ".<locals>.", T.d_law.code) := by rfl) (hb : c.base = base := by rfl) (hm : c.mg = mg := by rfl) (hT : c.G.T = tbOf (mks K) := by rfl) : Maker c (He.cT K ("law", none)).2 (("law" : Str) ++ ".<locals>." ++ "<lambda>") := by
  subst hb hm
  exact maker (cd := (He.cT K ("law", none)).1) (by simp [mks]) T.nd Z (by rw [hl, T.k_law]) hT rfl
theorem g_law_alike {Tb : TB} (T : Tp P K mg) : FnG P w K mg base 4 T.a_law_alike T.d_law_alike ["told", "due"] (spX Tb K false false 2 m_law_alike) :=
  FnG.of (N := ["told", "due"]) (F := cRet (cBin eqT (cApp reprE (cCons (cVar 0) cNil)) (cApp reprE (cCons (cVar 1) cNil)))) T.t_law_alike.fd sc_law_alike (fun h => nomatch h) (P' := []) (fun h => nomatch h) (fun E g hg => by
  obtain rfl : g = none := hg rfl
  exact (bj_one (sj_ret (P' := []) (ej_cmp op_eqK sd_eq (ej_callB cl_reprE sd_reprE (aj_cons (ej_var 0) aj_nil) (hm := by exact T.b_repr)) (ej_callB cl_reprE sd_reprE (aj_cons (ej_var 1) aj_nil) (hm := by exact T.b_repr)) (by rfl))))) (fun h => nomatch h)
theorem g_is_whole {Tb : TB} (T : Tp P K mg) : FnG P w K mg base 4 T.a_is_whole T.d_is_whole ["value"] (spX Tb K false false 1 m_is_whole) :=
  FnG.of (N := ["value"]) (F := cRet (cAndV (cUn (isiT .int) (cVar 0)) (cNotV (cUn (isiT .bool) (cVar 0))))) T.t_is_whole.fd sc_is_whole (fun h => nomatch h) (P' := []) (fun h => nomatch h) (fun E g hg => by
  obtain rfl : g = none := hg rfl
  exact (bj_one (sj_ret (P' := []) (ej_and (ej_isi .int (ej_var 0) (hm := by exact T.b_isinstance) (hm2 := by exact T.b_int)) (ej_one (ej_not (ej_isi .bool (ej_var 0) (hm := by exact T.b_isinstance) (hm2 := by exact T.b_bool)))))))) (fun h => nomatch h)
theorem g_is_fraction {Tb : TB} (T : Tp P K mg) : FnG P w K mg base 5 T.a_is_fraction T.d_is_fraction ["value"] (spX Tb K false false 1 m_is_fraction) :=
  FnG.of (N := ["value"]) (F := cSeq (cIfS (cOrC (cNotC (cB (cUn (isiT .tuple) (cVar 0)))) (cOrC (cB (cBin neT (cApp lenT (cCons (cVar 0) cNil)) (cK (.int 2)))) (cOrC (cNotC (cB (cCall m_is_whole (cCons (cBin ixT (cVar 0) (cK (.int 0))) cNil)))) (cNotC (cB (cCall m_is_whole (cCons (cBin ixT (cVar 0) (cK (.int 1))) cNil)))))))
 (cRet (cK (.bl false)))
 cNx)
 (cRet (cAndV (cBin geT (cBin ixT (cVar 0) (cK (.int 1))) (cK (.int 1))) (cBin eqT (cApp gcdT (cCons (cBin ixT (cVar 0) (cK (.int 0))) (cCons (cBin ixT (cVar 0) (cK (.int 1))) cNil))) (cK (.int 1)))))) T.t_is_fraction.fd sc_is_fraction (fun h => nomatch h) (P' := []) (fun h => nomatch h) (fun E g hg => by
  obtain rfl : g = none := hg rfl
  exact (bj_cons (sj_if (WJ.cj (wj_or (cj_not (cj_of (ej_isi .tuple (ej_var 0) (hm := by exact T.b_isinstance) (hm2 := by exact T.b_tuple)))) (wj_or (cj_cmp op_neK sd_ne (ej_callB cl_len sd_len (aj_cons (ej_var 0) aj_nil) (hm := by exact T.b_len)) ej_int (by rfl)) (wj_or (cj_not (cj_of (ej_call (T.t_is_whole.callee bo_is_whole (g_is_whole T) _) (aj_cons (ej_ix (ej_var 0) ej_int) aj_nil)))) (wj_or1 (cj_not (cj_of (ej_call (T.t_is_whole.callee bo_is_whole (g_is_whole T) _) (aj_cons (ej_ix (ej_var 0) ej_int) aj_nil)))))))))
 (bj_one (sj_ret (P' := []) ej_bl))
 bj_nil)
 (bj_one (sj_ret (P' := []) (ej_and (ej_cmp (fun X h => op_ge) sd_ge (ej_ix (ej_var 0) ej_int) ej_int (by rfl)) (ej_one (ej_cmp op_eqK sd_eq (ej_callN cl_gcd sd_gcd (aj_cons (ej_ix (ej_var 0) ej_int) (aj_cons (ej_ix (ej_var 0) ej_int) aj_nil)) (by exact T.n_gcd)) ej_int (by rfl)))))))) (fun h => nomatch h)
theorem g_is_part {Tb : TB} (T : Tp P K mg) : FnG P w K mg base 6 T.a_is_part T.d_is_part ["value"] (spX Tb K false false 1 m_is_part) :=
  FnG.of (N := ["value"]) (F := cRet (cAndV (cCall m_is_fraction (cCons (cVar 0) cNil)) (cBin geT (cBin ixT (cVar 0) (cK (.int 0))) (cK (.int 0))))) T.t_is_part.fd sc_is_part (fun h => nomatch h) (P' := []) (fun h => nomatch h) (fun E g hg => by
  obtain rfl : g = none := hg rfl
  exact (bj_one (sj_ret (P' := []) (ej_and (ej_call (T.t_is_fraction.callee bo_is_fraction (g_is_fraction T) _) (aj_cons (ej_var 0) aj_nil)) (ej_one (ej_cmp (fun X h => op_ge) sd_ge (ej_ix (ej_var 0) ej_int) ej_int (by rfl))))))) (fun h => nomatch h)
theorem g_check_part {Tb : TB} (T : Tp P K mg) : FnG P w K mg base 7 T.a_check_part T.d_check_part ["value"] (spX Tb K false false 1 m_check_part) :=
  FnG.of (N := ["value"]) (F := cIfS (cNotC (cB (cCall m_is_part (cCons (cVar 0) cNil))))
 (cRaise "InvalidFraction" (cVar 0))
 cNx) T.t_check_part.fd sc_check_part (fun h => nomatch h) (P' := []) (fun h => nomatch h) (fun E g hg => by
  obtain rfl : g = none := hg rfl
  exact (bj_one (sj_if (cj_not (cj_of (ej_call (T.t_is_part.callee bo_is_part (g_is_part T) _) (aj_cons (ej_var 0) aj_nil))))
 (bj_one (sj_raise (P' := []) "InvalidFraction" (ej_var 0) T.ek T.x_InvalidFraction (hms := by exact T.b_super)))
 bj_nil))) (fun h => nomatch h)
theorem g_put_together {Tb : TB} (T : Tp P K mg) : FnG P w K mg base 4 T.a_put_together T.d_put_together ["wholes", "last"] (spX Tb K false false 2 m_put_together) :=
  FnG.of (N := ["wholes", "last", "whole", "number", "bottom"]) (F := cSeq (cPar2 3 4 (cCons (cVar 1) (cCons (cK (.int 1)) cNil)))
 (cSeq (cFor (cItems (cUn revT (cVar 0))) (gSet 2)
 (cPar2 3 4 (cCons (cBin addT (cBin mulT (cVar 2) (cVar 3)) (cVar 4)) (cCons (cVar 3) cNil))))
 (cRet (cTup (cCons (cVar 3) (cCons (cVar 4) cNil)))))) T.t_put_together.fd sc_put_together (fun h => nomatch h) (P' := []) (fun h => nomatch h) (fun E g hg => by
  obtain rfl : g = none := hg rfl
  exact (bj_cons (sj_par2 (P' := []) 3 4 [] (mj_e (ej_var 1) (mj_e ej_int mj_nil)))
 (bj_cons (sj_for (ij_seq (ej_revL (ej_var 0))) (gj_name 2)
 (bj_one (sj_par2 (P' := []) 3 4 [] (mj_e (ej_bin op_add4 sd_add (ej_bin op_mul2 sd_mul (ej_var 2) (ej_var 3)) (ej_var 4)) (mj_e (ej_var 3) mj_nil)))))
 (bj_one (sj_ret (P' := []) (ej_tup (aj_cons (ej_var 3) (aj_cons (ej_var 4) aj_nil)))))))) (fun h => nomatch h)
theorem g_found_from {Tb : TB} (T : Tp P K mg) : FnG P w K mg base 5 T.a_found_from T.d_found_from ["least", "most"] (spX Tb K false false 2 m_found_from) :=
  FnG.of (N := ["least", "most", "wholes", "whole", "below"]) (F := cSeq (cSet 2 (cLst cNil))
 (cSeq (cSet 3 (cUn negT (cBin fdivT (cUn negT (cBin ixT (cVar 0) (cK (.int 0)))) (cBin ixT (cVar 0) (cK (.int 1))))))
 (cSeq (cWh 100000 (cB (cBin gtT (cBin mulT (cVar 3) (cBin ixT (cVar 1) (cK (.int 1)))) (cBin ixT (cVar 1) (cK (.int 0)))))
 (cSeq (cSet 4 (cBin subT (cVar 3) (cK (.int 1))))
 (cSeq (cApnd 2 (cVar 4))
 (cSeq (cPar2 0 1 (cCons (cTup (cCons (cBin ixT (cVar 1) (cK (.int 1))) (cCons (cBin subT (cBin ixT (cVar 1) (cK (.int 0))) (cBin mulT (cVar 4) (cBin ixT (cVar 1) (cK (.int 1))))) cNil))) (cCons (cTup (cCons (cBin ixT (cVar 0) (cK (.int 1))) (cCons (cBin subT (cBin ixT (cVar 0) (cK (.int 0))) (cBin mulT (cVar 4) (cBin ixT (cVar 0) (cK (.int 1))))) cNil))) cNil)))
 (cSet 3 (cUn negT (cBin fdivT (cUn negT (cBin ixT (cVar 0) (cK (.int 0)))) (cBin ixT (cVar 0) (cK (.int 1))))))))))
 (cRet (cCall m_put_together (cCons (cVar 2) (cCons (cVar 3) cNil))))))) T.t_found_from.fd sc_found_from (fun h => nomatch h) (P' := []) (fun h => nomatch h) (fun E g hg => by
  obtain rfl : g = none := hg rfl
  exact (bj_cons (sj_setF (P' := [2]) 2 (fj_lst aj_nil))
 (bj_cons (sj_set (P' := [2]) 3 (ej_un (fun X h => un_neg) sd_neg (ej_bin (fun X h => op_fdivW) sd_fdiv (ej_un (fun X h => un_neg) sd_neg (ej_ix (ej_var 0) ej_int)) (ej_ix (ej_var 0) ej_int))))
 (bj_cons (sj_while 100000 (cj_cmp (fun X h => op_gt) sd_gt (ej_bin op_mul2 sd_mul (ej_var 3) (ej_ix (ej_var 1) ej_int)) (ej_ix (ej_var 1) ej_int) (by rfl))
 (bj_cons (sj_set (P' := [2]) 4 (ej_bin (fun X h => op_sub) sd_sub (ej_var 3) ej_int))
 (bj_cons (sj_app 2 (ej_var 4))
 (bj_cons (sj_par2 (P' := [2]) 0 1 [2] (mj_e (ej_tup (aj_cons (ej_ix (ej_var 1) ej_int) (aj_cons (ej_bin (fun X h => op_sub) sd_sub (ej_ix (ej_var 1) ej_int) (ej_bin op_mul2 sd_mul (ej_var 4) (ej_ix (ej_var 1) ej_int))) aj_nil))) (mj_e (ej_tup (aj_cons (ej_ix (ej_var 0) ej_int) (aj_cons (ej_bin (fun X h => op_sub) sd_sub (ej_ix (ej_var 0) ej_int) (ej_bin op_mul2 sd_mul (ej_var 4) (ej_ix (ej_var 0) ej_int))) aj_nil))) mj_nil)))
 (bj_one (sj_set (P' := [2]) 3 (ej_un (fun X h => un_neg) sd_neg (ej_bin (fun X h => op_fdivW) sd_fdiv (ej_un (fun X h => un_neg) sd_neg (ej_ix (ej_var 0) ej_int)) (ej_ix (ej_var 0) ej_int)))))))))
 (bj_frz [] (bj_one (sj_ret (P' := []) (ej_call (T.t_put_together.callee bo_put_together (g_put_together T) _) (aj_cons (ej_var 2) (aj_cons (ej_var 3) aj_nil)))))))))) (fun h => nomatch h)
theorem g_is_less {Tb : TB} (T : Tp P K mg) : FnG P w K mg base 4 T.a_is_less T.d_is_less ["one", "other"] (spX Tb K false false 2 m_is_less) :=
  FnG.of (N := ["one", "other"]) (F := cRet (cBin ltT (cBin mulT (cBin ixT (cVar 0) (cK (.int 0))) (cBin ixT (cVar 1) (cK (.int 1)))) (cBin mulT (cBin ixT (cVar 1) (cK (.int 0))) (cBin ixT (cVar 0) (cK (.int 1)))))) T.t_is_less.fd sc_is_less (fun h => nomatch h) (P' := []) (fun h => nomatch h) (fun E g hg => by
  obtain rfl : g = none := hg rfl
  exact (bj_one (sj_ret (P' := []) (ej_cmp (fun X h => op_lt) sd_lt (ej_bin op_mul2 sd_mul (ej_ix (ej_var 0) ej_int) (ej_ix (ej_var 1) ej_int)) (ej_bin op_mul2 sd_mul (ej_ix (ej_var 1) ej_int) (ej_ix (ej_var 0) ej_int)) (by rfl))))) (fun h => nomatch h)
theorem g_simplest_from {Tb : TB} (T : Tp P K mg) : FnG P w K mg base 8 T.a_simplest_from T.d_simplest_from ["least", "most"] (spX Tb K false false 2 m_simplest_from) :=
  FnG.of (N := ["least", "most"]) (F := cSeq (cDrop (cCall m_check_part (cCons (cVar 0) cNil)))
 (cSeq (cDrop (cCall m_check_part (cCons (cVar 1) cNil)))
 (cSeq (cIfS (cB (cCall m_is_less (cCons (cVar 1) (cCons (cVar 0) cNil))))
 (cRaise "InvalidFraction" (cVar 1))
 cNx)
 (cRet (cCall m_found_from (cCons (cVar 0) (cCons (cVar 1) cNil))))))) T.t_simplest_from.fd sc_simplest_from (fun h => nomatch h) (P' := []) (fun h => nomatch h) (fun E g hg => by
  obtain rfl : g = none := hg rfl
  exact (bj_cons (sj_drop (ej_call (T.t_check_part.callee bo_check_part (g_check_part T) _) (aj_cons (ej_var 0) aj_nil)))
 (bj_cons (sj_drop (ej_call (T.t_check_part.callee bo_check_part (g_check_part T) _) (aj_cons (ej_var 1) aj_nil)))
 (bj_cons (sj_if (cj_of (ej_call (T.t_is_less.callee bo_is_less (g_is_less T) _) (aj_cons (ej_var 1) (aj_cons (ej_var 0) aj_nil))))
 (bj_one (sj_raise (P' := []) "InvalidFraction" (ej_var 1) T.ek T.x_InvalidFraction (hms := by exact T.b_super)))
 bj_nil)
 (bj_one (sj_ret (P' := []) (ej_call (T.t_found_from.callee bo_found_from (g_found_from T) _) (aj_cons (ej_var 0) (aj_cons (ej_var 1) aj_nil))))))))) (fun h => nomatch h)
theorem g_found_inside {Tb : TB} (T : Tp P K mg) : FnG P w K mg base 5 T.a_found_inside T.d_found_inside ["least", "most"] (spX Tb K false false 2 m_found_inside) :=
  FnG.of (N := ["least", "most", "wholes", "whole", "end"]) (F := cSeq (cSet 2 (cLst cNil))
 (cSeq (cSet 3 (cBin fdivT (cBin ixT (cVar 0) (cK (.int 0))) (cBin ixT (cVar 0) (cK (.int 1)))))
 (cSeq (cWh 100000 (cB (cBin geT (cBin mulT (cBin addT (cVar 3) (cK (.int 1))) (cBin ixT (cVar 1) (cK (.int 1)))) (cBin ixT (cVar 1) (cK (.int 0)))))
 (cSeq (cApnd 2 (cVar 3))
 (cSeq (cSet 4 (cIf (cB (cBin eqT (cBin ixT (cVar 0) (cK (.int 0))) (cBin mulT (cVar 3) (cBin ixT (cVar 0) (cK (.int 1)))))) (cTup (cCons (cK (.int 1)) (cCons (cK (.int 0)) cNil))) (cTup (cCons (cBin ixT (cVar 0) (cK (.int 1))) (cCons (cBin subT (cBin ixT (cVar 0) (cK (.int 0))) (cBin mulT (cVar 3) (cBin ixT (cVar 0) (cK (.int 1))))) cNil)))))
 (cSeq (cPar2 0 1 (cCons (cTup (cCons (cBin ixT (cVar 1) (cK (.int 1))) (cCons (cBin subT (cBin ixT (cVar 1) (cK (.int 0))) (cBin mulT (cVar 3) (cBin ixT (cVar 1) (cK (.int 1))))) cNil))) (cCons (cVar 4) cNil)))
 (cSet 3 (cBin fdivT (cBin ixT (cVar 0) (cK (.int 0))) (cBin ixT (cVar 0) (cK (.int 1)))))))))
 (cRet (cCall m_put_together (cCons (cVar 2) (cCons (cBin addT (cVar 3) (cK (.int 1))) cNil))))))) T.t_found_inside.fd sc_found_inside (fun h => nomatch h) (P' := []) (fun h => nomatch h) (fun E g hg => by
  obtain rfl : g = none := hg rfl
  exact (bj_cons (sj_setF (P' := [2]) 2 (fj_lst aj_nil))
 (bj_cons (sj_set (P' := [2]) 3 (ej_bin (fun X h => op_fdivW) sd_fdiv (ej_ix (ej_var 0) ej_int) (ej_ix (ej_var 0) ej_int)))
 (bj_cons (sj_while 100000 (cj_cmp (fun X h => op_ge) sd_ge (ej_bin op_mul2 sd_mul (ej_bin op_add4 sd_add (ej_var 3) ej_int) (ej_ix (ej_var 1) ej_int)) (ej_ix (ej_var 1) ej_int) (by rfl))
 (bj_cons (sj_app 2 (ej_var 3))
 (bj_cons (sj_set (P' := [2]) 4 (ej_if (cj_cmp op_eqK sd_eq (ej_ix (ej_var 0) ej_int) (ej_bin op_mul2 sd_mul (ej_var 3) (ej_ix (ej_var 0) ej_int)) (by rfl)) (ej_tup (aj_cons ej_int (aj_cons ej_int aj_nil))) (ej_tup (aj_cons (ej_ix (ej_var 0) ej_int) (aj_cons (ej_bin (fun X h => op_sub) sd_sub (ej_ix (ej_var 0) ej_int) (ej_bin op_mul2 sd_mul (ej_var 3) (ej_ix (ej_var 0) ej_int))) aj_nil)))))
 (bj_cons (sj_par2 (P' := [2]) 0 1 [2] (mj_e (ej_tup (aj_cons (ej_ix (ej_var 1) ej_int) (aj_cons (ej_bin (fun X h => op_sub) sd_sub (ej_ix (ej_var 1) ej_int) (ej_bin op_mul2 sd_mul (ej_var 3) (ej_ix (ej_var 1) ej_int))) aj_nil))) (mj_e (ej_var 4) mj_nil)))
 (bj_one (sj_set (P' := [2]) 3 (ej_bin (fun X h => op_fdivW) sd_fdiv (ej_ix (ej_var 0) ej_int) (ej_ix (ej_var 0) ej_int))))))))
 (bj_frz [] (bj_one (sj_ret (P' := []) (ej_call (T.t_put_together.callee bo_put_together (g_put_together T) _) (aj_cons (ej_var 2) (aj_cons (ej_bin op_add4 sd_add (ej_var 3) ej_int) aj_nil)))))))))) (fun h => nomatch h)
theorem g_simplest_inside {Tb : TB} (T : Tp P K mg) : FnG P w K mg base 8 T.a_simplest_inside T.d_simplest_inside ["least", "most"] (spX Tb K false false 2 m_simplest_inside) :=
  FnG.of (N := ["least", "most"]) (F := cSeq (cDrop (cCall m_check_part (cCons (cVar 0) cNil)))
 (cSeq (cDrop (cCall m_check_part (cCons (cVar 1) cNil)))
 (cSeq (cIfS (cNotC (cB (cCall m_is_less (cCons (cVar 0) (cCons (cVar 1) cNil)))))
 (cRaise "InvalidFraction" (cVar 1))
 cNx)
 (cRet (cCall m_found_inside (cCons (cVar 0) (cCons (cVar 1) cNil))))))) T.t_simplest_inside.fd sc_simplest_inside (fun h => nomatch h) (P' := []) (fun h => nomatch h) (fun E g hg => by
  obtain rfl : g = none := hg rfl
  exact (bj_cons (sj_drop (ej_call (T.t_check_part.callee bo_check_part (g_check_part T) _) (aj_cons (ej_var 0) aj_nil)))
 (bj_cons (sj_drop (ej_call (T.t_check_part.callee bo_check_part (g_check_part T) _) (aj_cons (ej_var 1) aj_nil)))
 (bj_cons (sj_if (cj_not (cj_of (ej_call (T.t_is_less.callee bo_is_less (g_is_less T) _) (aj_cons (ej_var 0) (aj_cons (ej_var 1) aj_nil)))))
 (bj_one (sj_raise (P' := []) "InvalidFraction" (ej_var 1) T.ek T.x_InvalidFraction (hms := by exact T.b_super)))
 bj_nil)
 (bj_one (sj_ret (P' := []) (ej_call (T.t_found_inside.callee bo_found_inside (g_found_inside T) _) (aj_cons (ej_var 0) (aj_cons (ej_var 1) aj_nil))))))))) (fun h => nomatch h)
theorem la_0 (T : Tp P K mg) : LamOk (tbOf (mks K)) P w K mg base 8 L0 l0 := ⟨lb_0, (cCall m_simplest_from (cCons (cVar 0) (cCons (cVar 1) cNil))), fun E => (ej_call (T.t_simplest_from.callee bo_simplest_from (g_simplest_from T) _) (aj_cons (ej_var 0) (aj_cons (ej_var 1) aj_nil))), fun xs => rfl⟩
theorem la_1 (T : Tp P K mg) : LamOk (tbOf (mks K)) P w K mg base 8 L1 l1 := ⟨lb_1, (cCall m_simplest_inside (cCons (cVar 0) (cCons (cVar 1) cNil))), fun E => (ej_call (T.t_simplest_inside.callee bo_simplest_inside (g_simplest_inside T) _) (aj_cons (ej_var 0) (aj_cons (ej_var 1) aj_nil))), fun xs => rfl⟩
theorem la_2 (T : Tp P K mg) : LamOk (tbOf (mks K)) P w K mg base 8 L2 l2 := ⟨lb_2, (cCall m_simplest_from (cCons (cVar 0) (cCons (cK .non) cNil))), fun E => (ej_call (T.t_simplest_from.callee bo_simplest_from (g_simplest_from T) _) (aj_cons (ej_var 0) (aj_cons ej_non aj_nil))), fun xs => rfl⟩
theorem la_3 (T : Tp P K mg) : LamOk (tbOf (mks K)) P w K mg base 8 L3 l3 := ⟨lb_3, (cCall m_simplest_from (cCons (cTup (cCons (cK (.int 1)) (cCons (cK (.int 2)) cNil))) (cCons (cVar 0) cNil))), fun E => (ej_call (T.t_simplest_from.callee bo_simplest_from (g_simplest_from T) _) (aj_cons (ej_tup (aj_cons ej_int (aj_cons ej_int aj_nil))) (aj_cons (ej_var 0) aj_nil))), fun xs => rfl⟩
theorem la_4 (T : Tp P K mg) : LamOk (tbOf (mks K)) P w K mg base 8 L4 l4 := ⟨lb_4, (cCall m_simplest_inside (cCons (cVar 0) (cCons (cK .non) cNil))), fun E => (ej_call (T.t_simplest_inside.callee bo_simplest_inside (g_simplest_inside T) _) (aj_cons (ej_var 0) (aj_cons ej_non aj_nil))), fun xs => rfl⟩
theorem la_5 (T : Tp P K mg) : LamOk (tbOf (mks K)) P w K mg base 8 L5 l5 := ⟨lb_5, (cCall m_simplest_inside (cCons (cTup (cCons (cK (.int 1)) (cCons (cK (.int 2)) cNil))) (cCons (cVar 0) cNil))), fun E => (ej_call (T.t_simplest_inside.callee bo_simplest_inside (g_simplest_inside T) _) (aj_cons (ej_tup (aj_cons ej_int (aj_cons ej_int aj_nil))) (aj_cons (ej_var 0) aj_nil))), fun xs => rfl⟩
theorem la_ok (T : Tp P K mg) (Z : TabBs base mg (mks K)) : ∀ D xs, mA D xs ≠ .no → LamOk (tbOf (mks K)) P w K mg base 8 D (mA D) := lamFind_ok (LamAll.cons (la_0 T) (LamAll.cons (la_1 T) (LamAll.cons (la_2 T) (LamAll.cons (la_3 T) (LamAll.cons (la_4 T) (LamAll.cons (la_5 T) LamAll.nil))))))
theorem g_law_caught (T : Tp P K mg) (Z : TabBs base mg (mks K)) : FnG P w K mg base 10 T.a_law_caught T.d_law_caught ["call"] (spX (tbOf (mks K)) K false false 1 m_law_caught) :=
  FnG.of (N := ["call", "caught", "e", "kinds", "words"]) (F := cSeq (cSet 1 (cK .non))
 (cSeq (cTryE errs 2 1 (cAct mA 0))
 (cSeq (cIfS (cB (cBin isT (cVar 1) (cK .non)))
 (cRet (cTup (cCons (cK (.str "let")) (cCons (cK .non) cNil))))
 cNx)
 (cSeq (cSet 3 (cLst (cCons (cUn (isxT errs "InvalidRow") (cVar 1)) (cCons (cUn (isxT errs "InvalidLine") (cVar 1)) (cCons (cUn (isxT errs "InvalidFraction") (cVar 1)) (cCons (cUn (isxT errs "InvalidNumber") (cVar 1)) cNil))))))
 (cSeq (cSet 3 (cBin addT (cVar 3) (cLst (cCons (cUn (isxT errs "InvalidLengths") (cVar 1)) (cCons (cUn (isxT errs "InvalidCells") (cVar 1)) (cCons (cUn (isxT errs "InvalidWheels") (cVar 1)) (cCons (cUn (isxT errs "InvalidDate") (cVar 1)) cNil)))))))
 (cSeq (cSet 3 (cBin addT (cVar 3) (cLst (cCons (cUn (isxT errs "InvalidRule") (cVar 1)) (cCons (cUn (isxT errs "InvalidNames") (cVar 1)) (cCons (cUn (isxT errs "InvalidText") (cVar 1)) (cCons (cUn (isxT errs "InvalidEdit") (cVar 1)) cNil)))))))
 (cSeq (cSet 3 (cBin addT (cVar 3) (cLst (cCons (cUn (isxT errs "Uneven") (cVar 1)) (cCons (cUn (isxT errs "Unlike") (cVar 1)) (cCons (cUn (isxT errs "TooMany") (cVar 1)) cNil))))))
 (cSeq (cSet 4 (cLst (cCons (cK (.str "row")) (cCons (cK (.str "line")) (cCons (cK (.str "fraction")) (cCons (cK (.str "number")) (cCons (cK (.str "lengths")) (cCons (cK (.str "cells")) (cCons (cK (.str "wheels")) (cCons (cK (.str "date")) (cCons (cK (.str "rule")) (cCons (cK (.str "names")) (cCons (cK (.str "text")) (cCons (cK (.str "edit")) (cCons (cK (.str "uneven")) (cCons (cK (.str "unlike")) (cCons (cK (.str "many")) cNil)))))))))))))))))
 (cRet (cIf (cB (cBin eqT (cMt countT (cVar 3) (cK (.bl true))) (cK (.int 1)))) (cTup (cCons (cBin ixT (cVar 4) (cMt indexT (cVar 3) (cK (.bl true)))) (cCons (cUn (xvT errs) (cVar 1)) cNil))) (cTup (cCons (cK (.str "odd")) (cCons (cK .non) cNil))))))))))))) T.t_law_caught.fd sc_law_caught (fun h => nomatch h) (P' := []) (fun h => nomatch h) (fun E g hg => by
  obtain rfl : g = none := hg rfl
  exact (bj_cons (sj_set (P' := []) 1 ej_non)
 (bj_cons (sj_tryE 2 1 (fun W => (ej_act 8 0 mA (la_ok T Z))) T.x_SpreadError (by exact T.ex_SpreadError))
 (bj_cons (sj_if (cj_cmp (fun X h => op_isC) sd_is (ej_var 1) ej_non (by rfl))
 (bj_one (sj_ret (P' := []) (ej_tup (aj_cons ej_str (aj_cons ej_non aj_nil)))))
 bj_nil)
 (bj_cons (sj_set (P' := []) 3 (ej_lst (aj_cons (ej_isx "InvalidRow" (ej_var 1) T.ek (hcm := by exact T.x_InvalidRow) (hm := by exact T.b_isinstance)) (aj_cons (ej_isx "InvalidLine" (ej_var 1) T.ek (hcm := by exact T.x_InvalidLine) (hm := by exact T.b_isinstance)) (aj_cons (ej_isx "InvalidFraction" (ej_var 1) T.ek (hcm := by exact T.x_InvalidFraction) (hm := by exact T.b_isinstance)) (aj_cons (ej_isx "InvalidNumber" (ej_var 1) T.ek (hcm := by exact T.x_InvalidNumber) (hm := by exact T.b_isinstance)) aj_nil))))))
 (bj_cons (sj_set (P' := []) 3 (ej_bin op_add4 sd_add (ej_var 3) (ej_lst (aj_cons (ej_isx "InvalidLengths" (ej_var 1) T.ek (hcm := by exact T.x_InvalidLengths) (hm := by exact T.b_isinstance)) (aj_cons (ej_isx "InvalidCells" (ej_var 1) T.ek (hcm := by exact T.x_InvalidCells) (hm := by exact T.b_isinstance)) (aj_cons (ej_isx "InvalidWheels" (ej_var 1) T.ek (hcm := by exact T.x_InvalidWheels) (hm := by exact T.b_isinstance)) (aj_cons (ej_isx "InvalidDate" (ej_var 1) T.ek (hcm := by exact T.x_InvalidDate) (hm := by exact T.b_isinstance)) aj_nil)))))))
 (bj_cons (sj_set (P' := []) 3 (ej_bin op_add4 sd_add (ej_var 3) (ej_lst (aj_cons (ej_isx "InvalidRule" (ej_var 1) T.ek (hcm := by exact T.x_InvalidRule) (hm := by exact T.b_isinstance)) (aj_cons (ej_isx "InvalidNames" (ej_var 1) T.ek (hcm := by exact T.x_InvalidNames) (hm := by exact T.b_isinstance)) (aj_cons (ej_isx "InvalidText" (ej_var 1) T.ek (hcm := by exact T.x_InvalidText) (hm := by exact T.b_isinstance)) (aj_cons (ej_isx "InvalidEdit" (ej_var 1) T.ek (hcm := by exact T.x_InvalidEdit) (hm := by exact T.b_isinstance)) aj_nil)))))))
 (bj_cons (sj_set (P' := []) 3 (ej_bin op_add4 sd_add (ej_var 3) (ej_lst (aj_cons (ej_isx "Uneven" (ej_var 1) T.ek (hcm := by exact T.x_Uneven) (hm := by exact T.b_isinstance)) (aj_cons (ej_isx "Unlike" (ej_var 1) T.ek (hcm := by exact T.x_Unlike) (hm := by exact T.b_isinstance)) (aj_cons (ej_isx "TooMany" (ej_var 1) T.ek (hcm := by exact T.x_TooMany) (hm := by exact T.b_isinstance)) aj_nil))))))
 (bj_cons (sj_set (P' := []) 4 (ej_lst (aj_cons ej_str (aj_cons ej_str (aj_cons ej_str (aj_cons ej_str (aj_cons ej_str (aj_cons ej_str (aj_cons ej_str (aj_cons ej_str (aj_cons ej_str (aj_cons ej_str (aj_cons ej_str (aj_cons ej_str (aj_cons ej_str (aj_cons ej_str (aj_cons ej_str aj_nil)))))))))))))))))
 (bj_one (sj_ret (P' := []) (ej_if (cj_cmp op_eqK sd_eq (ej_count (by rfl) (ej_var 3) ej_bl) ej_int (by rfl)) (ej_tup (aj_cons (ej_ix (ej_var 4) (ej_index (by rfl) (ej_var 3) ej_bl)) (aj_cons (ej_xv (ej_var 1) T.ek) aj_nil))) (ej_tup (aj_cons ej_str (aj_cons ej_non aj_nil))))))))))))))) (fun h => nomatch h)
theorem g_law_refused (T : Tp P K mg) (Z : TabBs base mg (mks K)) : FnG P w K mg base 11 T.a_law_refused T.d_law_refused ["call", "word", "value"] (spX (tbOf (mks K)) K false false 3 m_law_refused) :=
  FnG.of (N := ["call", "word", "value", "told"]) (F := cSeq (cSet 3 (cCall m_law_caught (cCons (cVar 0) cNil)))
 (cRet (cAndV (cBin eqT (cBin ixT (cVar 3) (cK (.int 0))) (cVar 1)) (cCall m_law_alike (cCons (cBin ixT (cVar 3) (cK (.int 1))) (cCons (cVar 2) cNil)))))) T.t_law_refused.fd sc_law_refused (fun h => nomatch h) (P' := []) (fun h => nomatch h) (fun E g hg => by
  obtain rfl : g = none := hg rfl
  exact (bj_cons (sj_set (P' := []) 3 (ej_call (T.t_law_caught.callee bo_law_caught (g_law_caught T Z) _) (aj_cons (ej_var 0) aj_nil)))
 (bj_one (sj_ret (P' := []) (ej_and (ej_cmp op_eqK sd_eq (ej_ix (ej_var 3) ej_int) (ej_var 1) (by rfl)) (ej_one (ej_call (T.t_law_alike.callee bo_law_alike (g_law_alike T) _) (aj_cons (ej_ix (ej_var 3) ej_int) (aj_cons (ej_var 2) aj_nil))))))))) (fun h => nomatch h)
theorem g_law_all_refused (T : Tp P K mg) (Z : TabBs base mg (mks K)) : FnG P w K mg base 12 T.a_law_all_refused T.d_law_all_refused ["calls", "word", "value"] (spX (tbOf (mks K)) K false false 3 m_law_all_refused) :=
  FnG.of (N := ["calls", "word", "value", "call"]) (F := cRet (cBin eqT (cLc [3] (cItems (cVar 0)) (gSet 3) (cNotC (cB (cCall m_law_refused (cCons (cVar 3) (cCons (cVar 1) (cCons (cVar 2) cNil)))))) (cVar 3)) (cLst cNil))) T.t_law_all_refused.fd sc_law_all_refused (fun h => nomatch h) (P' := []) (fun h => nomatch h) (fun E g hg => by
  obtain rfl : g = none := hg rfl
  exact (bj_one (sj_ret (P' := []) (ej_cmp op_eqK sd_eq (FJ.ej (fj_lc (on := [("call", 3)]) (ij_seq (ej_var 0)) (by rfl) (gj_name 3) (ifj_one (cj_not (cj_of (ej_call (T.t_law_refused.callee bo_law_refused (g_law_refused T Z) _) (aj_cons (ej_var 3) (aj_cons (ej_var 1) (aj_cons (ej_var 2) aj_nil))))))) (ej_var 3))) (ej_lst aj_nil) (by rfl))))) (fun h => nomatch h)
theorem g_law_cell {Tb : TB} (T : Tp P K mg) : FnG P w K mg base 4 T.a_law_cell T.d_law_cell ["script", "index"] (spX Tb K false false 2 m_law_cell) :=
  FnG.of (N := ["script", "index"]) (F := cSeq (cIfS (cB (cBin ltT (cVar 1) (cApp lenT (cCons (cVar 0) cNil))))
 (cRet (cBin ixT (cVar 0) (cVar 1)))
 cNx)
 (cRet (cBin modT (cApp sumT (cCons (cSl slT (cVar 0) cP0 (cP1 (cK (.int 1)))) cNil)) (cK (.int 1000003))))) T.t_law_cell.fd sc_law_cell (fun h => nomatch h) (P' := []) (fun h => nomatch h) (fun E g hg => by
  obtain rfl : g = none := hg rfl
  exact (bj_cons (sj_if (cj_cmp (fun X h => op_lt) sd_lt (ej_var 1) (ej_callB cl_len sd_len (aj_cons (ej_var 0) aj_nil) (hm := by exact T.b_len)) (by rfl))
 (bj_one (sj_ret (P' := []) (ej_ix (ej_var 0) (ej_var 1))))
 bj_nil)
 (bj_one (sj_ret (P' := []) (ej_bin (fun X h => op_mod) sd_mod (ej_callB cl_sum sd_sum (aj_cons (ej_sl (ej_var 0) oj_none (oj_some ej_int)) aj_nil) (hm := by exact T.b_sum)) ej_int))))) (fun h => nomatch h)
theorem g_law_generator {Tb : TB} (T : Tp P K mg) : FnG P w K mg base 5 T.a_law_generator T.d_law_generator ["script", "index"] (spX Tb K false true 2 m_law_generator) :=
  FnG.of (N := ["script", "index", "seed"]) (F := cSeq (cSet 2 (cCall m_law_cell (cCons (cVar 0) (cCons (cVar 1) cNil))))
 (cRet (cLst (cCons (cBin modT (cApp intT (cCons (cApp max2T (cCons (cBin subT (cVar 2) (cBin powT (cK (.int 10)) (cK (.int 18)))) (cCons (cK (.int 0)) cNil))) cNil)) (cBin powT (cBin powT (cK (.int 10)) (cK (.int 60))) (cK (.int 10)))) (cCons (cBin modT (cApp intT (cCons (cVar 2) cNil)) (cK (.int 2147483647))) (cCons (cBin mulT (cK (.int 1000)) (cVar 1)) cNil)))))) T.t_law_generator.fd sc_law_generator (fun h => nomatch h) (P' := []) (fun h => nomatch h) (fun E g hg => by
  obtain rfl : g = none := hg rfl
  exact (bj_cons (sj_set (P' := []) 2 (ej_call (T.t_law_cell.callee bo_law_cell (g_law_cell T) _) (aj_cons (ej_var 0) (aj_cons (ej_var 1) aj_nil))))
 (bj_one (sj_retF (P' := []) (fj_lst (aj_cons (ej_bin (fun X h => op_mod) sd_mod (ej_callTy cl_int sd_intF (aj_cons (ej_callB cl_max2 sd_max2 (aj_cons (ej_bin (fun X h => op_sub) sd_sub (ej_var 2) (ej_bin (fun X h => op_powW) sd_pow ej_int ej_int)) (aj_cons ej_int aj_nil)) (hm := by exact T.b_max)) aj_nil) (hm := by exact T.b_int)) (ej_bin (fun X h => op_powW) sd_pow (ej_bin (fun X h => op_powW) sd_pow ej_int ej_int) ej_int)) (aj_cons (ej_bin (fun X h => op_mod) sd_mod (ej_callTy cl_int sd_intF (aj_cons (ej_var 2) aj_nil) (hm := by exact T.b_int)) ej_int) (aj_cons (ej_bin op_mul2 sd_mul ej_int (ej_var 1)) aj_nil)))))))) (fun _ => (cSeq_nn cRet_nn))
theorem g_law_less {Tb : TB} (T : Tp P K mg) : FnG P w K mg base 4 T.a_law_less T.d_law_less ["one", "other"] (spX Tb K false false 2 m_law_less) :=
  FnG.of (N := ["one", "other"]) (F := cRet (cBin ltT (cBin mulT (cBin ixT (cVar 0) (cK (.int 0))) (cBin ixT (cVar 1) (cK (.int 1)))) (cBin mulT (cBin ixT (cVar 1) (cK (.int 0))) (cBin ixT (cVar 0) (cK (.int 1)))))) T.t_law_less.fd sc_law_less (fun h => nomatch h) (P' := []) (fun h => nomatch h) (fun E g hg => by
  obtain rfl : g = none := hg rfl
  exact (bj_one (sj_ret (P' := []) (ej_cmp (fun X h => op_lt) sd_lt (ej_bin op_mul2 sd_mul (ej_ix (ej_var 0) ej_int) (ej_ix (ej_var 1) ej_int)) (ej_bin op_mul2 sd_mul (ej_ix (ej_var 1) ej_int) (ej_ix (ej_var 0) ej_int)) (by rfl))))) (fun h => nomatch h)
theorem g_law_pairs {Tb : TB} (T : Tp P K mg) : FnG P w K mg base 4 T.a_law_pairs T.d_law_pairs ["row"] (spX Tb K false false 1 m_law_pairs) :=
  FnG.of (N := ["row", "letter", "one", "other", "middle"]) (F := cSeq (cAsg (gTupT (gConsT (gSet 2) (gConsT (gSet 3) gNilT))) (cTup (cCons (cTup (cCons (cK (.int 0)) (cCons (cK (.int 1)) cNil))) (cCons (cTup (cCons (cK (.int 1)) (cCons (cK (.int 0)) cNil))) cNil))))
 (cSeq (cFor (cItems (cVar 0)) (gSet 1)
 (cSeq (cSet 4 (cTup (cCons (cBin addT (cBin ixT (cVar 2) (cK (.int 0))) (cBin ixT (cVar 3) (cK (.int 0)))) (cCons (cBin addT (cBin ixT (cVar 2) (cK (.int 1))) (cBin ixT (cVar 3) (cK (.int 1)))) cNil))))
 (cAsg (gTupT (gConsT (gSet 2) (gConsT (gSet 3) gNilT))) (cIf (cB (cBin eqT (cVar 1) (cK (.int 1)))) (cTup (cCons (cVar 4) (cCons (cVar 3) cNil))) (cTup (cCons (cVar 2) (cCons (cVar 4) cNil)))))))
 (cRet (cTup (cCons (cVar 2) (cCons (cVar 3) cNil)))))) T.t_law_pairs.fd sc_law_pairs (fun h => nomatch h) (P' := []) (fun h => nomatch h) (fun E g hg => by
  obtain rfl : g = none := hg rfl
  exact (bj_cons (sj_asg (ej_tup (aj_cons (ej_tup (aj_cons ej_int (aj_cons ej_int aj_nil))) (aj_cons (ej_tup (aj_cons ej_int (aj_cons ej_int aj_nil))) aj_nil))) (gj_tup (gsj_cons (gj_name 2) (gsj_cons (gj_name 3) gsj_nil)) (hl := (gCons_len (gCons_len gNil_len)))))
 (bj_cons (sj_for (ij_seq (ej_var 0)) (gj_name 1)
 (bj_cons (sj_set (P' := []) 4 (ej_tup (aj_cons (ej_bin op_add4 sd_add (ej_ix (ej_var 2) ej_int) (ej_ix (ej_var 3) ej_int)) (aj_cons (ej_bin op_add4 sd_add (ej_ix (ej_var 2) ej_int) (ej_ix (ej_var 3) ej_int)) aj_nil))))
 (bj_one (sj_asg (ej_if (cj_cmp op_eqK sd_eq (ej_var 1) ej_int (by rfl)) (ej_tup (aj_cons (ej_var 4) (aj_cons (ej_var 3) aj_nil))) (ej_tup (aj_cons (ej_var 2) (aj_cons (ej_var 4) aj_nil)))) (gj_tup (gsj_cons (gj_name 2) (gsj_cons (gj_name 3) gsj_nil)) (hl := (gCons_len (gCons_len gNil_len))))))))
 (bj_one (sj_ret (P' := []) (ej_tup (aj_cons (ej_var 2) (aj_cons (ej_var 3) aj_nil)))))))) (fun h => nomatch h)
theorem g_law_gcd {Tb : TB} (T : Tp P K mg) : FnG P w K mg base 4 T.a_law_gcd T.d_law_gcd ["one", "other"] (spX Tb K false false 2 m_law_gcd) :=
  FnG.of (N := ["one", "other", "turn"]) (F := cSeq (cPar2 0 1 (cCons (cApp absT (cCons (cVar 0) cNil)) (cCons (cApp absT (cCons (cVar 1) cNil)) cNil)))
 (cSeq (cFor (cRange1 (cCons (cK (.int 100000)) cNil)) (gSet 2)
 (cSeq (cIfS (cB (cBin eqT (cVar 1) (cK (.int 0))))
 cBk
 cNx)
 (cPar2 0 1 (cCons (cVar 1) (cCons (cBin modT (cApp intT (cCons (cVar 0) cNil)) (cVar 1)) cNil)))))
 (cRet (cVar 0)))) T.t_law_gcd.fd sc_law_gcd (fun h => nomatch h) (P' := []) (fun h => nomatch h) (fun E g hg => by
  obtain rfl : g = none := hg rfl
  exact (bj_cons (sj_par2 (P' := []) 0 1 [] (mj_e (ej_callB cl_abs sd_abs (aj_cons (ej_var 0) aj_nil) (hm := by exact T.b_abs)) (mj_e (ej_callB cl_abs sd_abs (aj_cons (ej_var 1) aj_nil) (hm := by exact T.b_abs)) mj_nil)))
 (bj_cons (sj_for (ij_range1 (aj_cons ej_int aj_nil) (hm := by exact T.b_range)) (gj_name 2)
 (bj_cons (sj_if (cj_cmp op_eqK sd_eq (ej_var 1) ej_int (by rfl))
 (bj_one (sj_break (P' := [])))
 bj_nil)
 (bj_one (sj_par2 (P' := []) 0 1 [] (mj_e (ej_var 1) (mj_e (ej_bin (fun X h => op_mod) sd_mod (ej_callTy cl_int sd_intF (aj_cons (ej_var 0) aj_nil) (hm := by exact T.b_int)) (ej_var 1)) mj_nil))))))
 (bj_one (sj_ret (P' := []) (ej_var 0)))))) (fun h => nomatch h)
theorem g_law_low {Tb : TB} (T : Tp P K mg) : FnG P w K mg base 5 T.a_law_low T.d_law_low ["over", "under"] (spX Tb K false false 2 m_law_low) :=
  FnG.of (N := ["over", "under", "divisor"]) (F := cSeq (cSet 2 (cCall m_law_gcd (cCons (cVar 0) (cCons (cVar 1) cNil))))
 (cRet (cTup (cCons (cBin fdivT (cVar 0) (cVar 2)) (cCons (cBin fdivT (cVar 1) (cVar 2)) cNil))))) T.t_law_low.fd sc_law_low (fun h => nomatch h) (P' := []) (fun h => nomatch h) (fun E g hg => by
  obtain rfl : g = none := hg rfl
  exact (bj_cons (sj_set (P' := []) 2 (ej_call (T.t_law_gcd.callee bo_law_gcd (g_law_gcd T) _) (aj_cons (ej_var 0) (aj_cons (ej_var 1) aj_nil))))
 (bj_one (sj_ret (P' := []) (ej_tup (aj_cons (ej_bin (fun X h => op_fdivW) sd_fdiv (ej_var 0) (ej_var 2)) (aj_cons (ej_bin (fun X h => op_fdivW) sd_fdiv (ej_var 1) (ej_var 2)) aj_nil))))))) (fun h => nomatch h)
theorem g_law_hash {Tb : TB} (T : Tp P K mg) : FnG P w K mg base 4 T.a_law_hash T.d_law_hash ["seed", "index"] (spX Tb K false false 2 m_law_hash) :=
  FnG.of (N := ["seed", "index", "mixed"]) (F := cSeq (cSet 2 (cBin modT (cApp intT (cCons (cBin addT (cBin addT (cBin addT (cBin mulT (cVar 0) (cK (.int 1140671))) (cBin mulT (cBin mulT (cK (.int 27644437)) (cVar 1)) (cVar 1))) (cBin mulT (cK (.int 131)) (cVar 1))) (cK (.int 19))) cNil)) (cK (.int 2147483629))))
 (cSeq (cSet 2 (cBin modT (cApp intT (cCons (cBin addT (cBin addT (cBin mulT (cVar 2) (cVar 2)) (cBin mulT (cK (.int 62089)) (cVar 1))) (cK (.int 32416187))) cNil)) (cK (.int 2147483587))))
 (cRet (cBin modT (cApp intT (cCons (cBin mulT (cVar 2) (cK (.int 48271))) cNil)) (cK (.int 2147483647)))))) T.t_law_hash.fd sc_law_hash (fun h => nomatch h) (P' := []) (fun h => nomatch h) (fun E g hg => by
  obtain rfl : g = none := hg rfl
  exact (bj_cons (sj_set (P' := []) 2 (ej_bin (fun X h => op_mod) sd_mod (ej_callTy cl_int sd_intF (aj_cons (ej_bin op_add4 sd_add (ej_bin op_add4 sd_add (ej_bin op_add4 sd_add (ej_bin op_mul2 sd_mul (ej_var 0) ej_int) (ej_bin op_mul2 sd_mul (ej_bin op_mul2 sd_mul ej_int (ej_var 1)) (ej_var 1))) (ej_bin op_mul2 sd_mul ej_int (ej_var 1))) ej_int) aj_nil) (hm := by exact T.b_int)) ej_int))
 (bj_cons (sj_set (P' := []) 2 (ej_bin (fun X h => op_mod) sd_mod (ej_callTy cl_int sd_intF (aj_cons (ej_bin op_add4 sd_add (ej_bin op_add4 sd_add (ej_bin op_mul2 sd_mul (ej_var 2) (ej_var 2)) (ej_bin op_mul2 sd_mul ej_int (ej_var 1))) ej_int) aj_nil) (hm := by exact T.b_int)) ej_int))
 (bj_one (sj_ret (P' := []) (ej_bin (fun X h => op_mod) sd_mod (ej_callTy cl_int sd_intF (aj_cons (ej_bin op_mul2 sd_mul (ej_var 2) ej_int) aj_nil) (hm := by exact T.b_int)) ej_int)))))) (fun h => nomatch h)
theorem g_law_random {Tb : TB} (T : Tp P K mg) : FnG P w K mg base 5 T.a_law_random T.d_law_random ["generator", "bound"] (spX Tb K true false 2 m_law_random) :=
  FnG.of (N := ["generator", "bound", "drawn", "turn"]) (F := cSeq (cIfS (cB (cBin gtT (cPix 0 (cK (.int 0))) (cK (.int 0))))
 (cSeq (cSet 2 (cBin modT (cApp intT (cCons (cPix 0 (cK (.int 0))) cNil)) (cVar 1)))
 (cSeq (cPut 0 (cK (.int 0)) (cBin fdivT (cPix 0 (cK (.int 0))) (cVar 1)))
 (cRet (cVar 2))))
 cNx)
 (cSeq (cSet 2 (cK (.int 0)))
 (cSeq (cFor (cRange1 (cCons (cBin addT (cK (.int 1)) (cBin fdivT (cUn bitsT (cVar 1)) (cK (.int 30)))) cNil)) (gSet 3)
 (cSeq (cPut 0 (cK (.int 2)) (cBin addT (cPix 0 (cK (.int 2))) (cK (.int 1))))
 (cSet 2 (cBin addT (cBin mulT (cVar 2) (cK (.int 2147483587))) (cCall m_law_hash (cCons (cPix 0 (cK (.int 1))) (cCons (cPix 0 (cK (.int 2))) cNil)))))))
 (cRet (cBin modT (cApp intT (cCons (cVar 2) cNil)) (cVar 1)))))) T.t_law_random.fd sc_law_random (fun _ => by decide) (P' := [0]) (fun _ => by decide) (fun E g hg => by
  exact (bj_cons (sj_if (cj_cmp (fun X h => op_gt) sd_gt (ej_pix 0 ej_int) ej_int (by rfl))
 (bj_cons (sj_set (P' := [0]) 2 (ej_bin (fun X h => op_mod) sd_mod (ej_callTy cl_int sd_intF (aj_cons (ej_pix 0 ej_int) aj_nil) (hm := by exact T.b_int)) (ej_var 1)))
 (bj_cons (sj_put 0 (ej_bin (fun X h => op_fdivW) sd_fdiv (ej_pix 0 ej_int) (ej_var 1)) ej_int)
 (bj_one (sj_ret (P' := [0]) (ej_var 2)))))
 bj_nil)
 (bj_cons (sj_set (P' := [0]) 2 ej_int)
 (bj_cons (sj_for (ij_range1 (aj_cons (ej_bin op_add4 sd_add ej_int (ej_bin (fun X h => op_fdivW) sd_fdiv (ej_bits (ej_var 1)) ej_int)) aj_nil) (hm := by exact T.b_range)) (gj_name 3)
 (bj_cons (sj_put 0 (ej_bin op_add4 sd_add (ej_pix 0 ej_int) ej_int) ej_int)
 (bj_one (sj_set (P' := [0]) 2 (ej_bin op_add4 sd_add (ej_bin op_mul2 sd_mul (ej_var 2) ej_int) (ej_call (T.t_law_hash.callee bo_law_hash (g_law_hash T) _) (aj_cons (ej_pix 0 ej_int) (aj_cons (ej_pix 0 ej_int) aj_nil))))))))
 (bj_one (sj_ret (P' := [0]) (ej_bin (fun X h => op_mod) sd_mod (ej_callTy cl_int sd_intF (aj_cons (ej_var 2) aj_nil) (hm := by exact T.b_int)) (ej_var 1)))))))) (fun h => nomatch h)
theorem g_law_pick {Tb : TB} (T : Tp P K mg) : FnG P w K mg base 6 T.a_law_pick T.d_law_pick ["generator", "things"] (spX Tb K true false 2 m_law_pick) :=
  FnG.of (N := ["generator", "things"]) (F := cRet (cBin ixT (cVar 1) (cCallG m_law_random 0 (cCons (cApp lenT (cCons (cVar 1) cNil)) cNil)))) T.t_law_pick.fd sc_law_pick (fun _ => by decide) (P' := [0]) (fun _ => by decide) (fun E g hg => by
  exact (bj_one (sj_ret (P' := [0]) (ej_ix (ej_var 1) (ej_callG 0 (T.t_law_random.callee bo_law_random (g_law_random T) _) (aj_cons (ej_callB cl_len sd_len (aj_cons (ej_var 1) aj_nil) (hm := by exact T.b_len)) aj_nil)))))) (fun h => nomatch h)
theorem g_law_part {Tb : TB} (T : Tp P K mg) : FnG P w K mg base 7 T.a_law_part T.d_law_part ["generator", "most"] (spX Tb K true false 2 m_law_part) :=
  FnG.of (N := ["generator", "most", "way", "bottom"]) (F := cSeq (cSet 2 (cCallG m_law_random 0 (cCons (cK (.int 4)) cNil)))
 (cSeq (cIfS (cB (cBin eqT (cVar 2) (cK (.int 0))))
 (cRet (cCall m_law_low (cCons (cCallG m_law_random 0 (cCons (cK (.int 9)) cNil)) (cCons (cBin addT (cK (.int 1)) (cCallG m_law_random 0 (cCons (cK (.int 9)) cNil))) cNil))))
 cNx)
 (cSeq (cSet 3 (cBin addT (cK (.int 1)) (cCallG m_law_random 0 (cCons (cCallG m_law_pick 0 (cCons (cLst (cCons (cK (.int 12)) (cCons (cVar 1) (cCons (cVar 1) cNil)))) cNil)) cNil))))
 (cRet (cCall m_law_low (cCons (cCallG m_law_random 0 (cCons (cBin addT (cCallG m_law_pick 0 (cCons (cLst (cCons (cVar 3) (cCons (cBin mulT (cK (.int 3)) (cVar 3)) cNil))) cNil)) (cK (.int 1))) cNil)) (cCons (cVar 3) cNil))))))) T.t_law_part.fd sc_law_part (fun _ => by decide) (P' := [0]) (fun _ => by decide) (fun E g hg => by
  exact (bj_cons (sj_set (P' := [0]) 2 (ej_callG 0 (T.t_law_random.callee bo_law_random (g_law_random T) _) (aj_cons ej_int aj_nil)))
 (bj_cons (sj_if (cj_cmp op_eqK sd_eq (ej_var 2) ej_int (by rfl))
 (bj_one (sj_ret (P' := [0]) (ej_call (T.t_law_low.callee bo_law_low (g_law_low T) _) (aj_cons (ej_callG 0 (T.t_law_random.callee bo_law_random (g_law_random T) _) (aj_cons ej_int aj_nil)) (aj_cons (ej_bin op_add4 sd_add ej_int (ej_callG 0 (T.t_law_random.callee bo_law_random (g_law_random T) _) (aj_cons ej_int aj_nil))) aj_nil)))))
 bj_nil)
 (bj_cons (sj_set (P' := [0]) 3 (ej_bin op_add4 sd_add ej_int (ej_callG 0 (T.t_law_random.callee bo_law_random (g_law_random T) _) (aj_cons (ej_callG 0 (T.t_law_pick.callee bo_law_pick (g_law_pick T) _) (aj_cons (ej_lst (aj_cons ej_int (aj_cons (ej_var 1) (aj_cons (ej_var 1) aj_nil)))) aj_nil)) aj_nil))))
 (bj_one (sj_ret (P' := [0]) (ej_call (T.t_law_low.callee bo_law_low (g_law_low T) _) (aj_cons (ej_callG 0 (T.t_law_random.callee bo_law_random (g_law_random T) _) (aj_cons (ej_bin op_add4 sd_add (ej_callG 0 (T.t_law_pick.callee bo_law_pick (g_law_pick T) _) (aj_cons (ej_lst (aj_cons (ej_var 3) (aj_cons (ej_bin op_mul2 sd_mul ej_int (ej_var 3)) aj_nil))) aj_nil)) ej_int) aj_nil)) (aj_cons (ej_var 3) aj_nil))))))))) (fun h => nomatch h)
theorem g_law_same {Tb : TB} (T : Tp P K mg) : ∀ n, FnG P w K mg base (3 + n) T.a_law_same T.d_law_same ["told", "due"] (spX Tb K false false 2 (m_law_same n))
  | 0 => FnG.never
  | n + 1 => by
    have ih := g_law_same T (Tb := Tb) n
    exact FnG.of (N := ["told", "due", "at"]) (F := cSeq (cIfS (cOrC (cB (cBin isT (cVar 1) (cK .non))) (cOrC (cB (cBin isT (cVar 1) (cK (.bl true)))) (cB (cBin isT (cVar 1) (cK (.bl false))))))
 (cRet (cIf (cB (cBin isT (cVar 1) (cK .non))) (cBin isT (cVar 0) (cK .non)) (cIf (cB (cBin isT (cVar 1) (cK (.bl true)))) (cBin isT (cVar 0) (cK (.bl true))) (cBin isT (cVar 0) (cK (.bl false))))))
 cNx)
 (cSeq (cIfS (cB (cUn (isisT [.list, .tuple]) (cVar 1)))
 (cSeq (cIfS (cOrC (cAndC (cNotC (cB (cUn (isiT .list) (cVar 0)))) (cB (cUn (isiT .list) (cVar 1)))) (cAndC (cNotC (cB (cUn (isiT .tuple) (cVar 0)))) (cB (cUn (isiT .tuple) (cVar 1)))))
 (cRet (cK (.bl false)))
 cNx)
 (cRet (cAndV (cBin eqT (cApp lenT (cCons (cVar 0) cNil)) (cApp lenT (cCons (cVar 1) cNil))) (cBin eqT (cLc [2] (cRange1 (cCons (cApp lenT (cCons (cVar 1) cNil)) cNil)) (gSet 2) (cNotC (cB (cCall (m_law_same n) (cCons (cBin ixT (cVar 0) (cVar 2)) (cCons (cBin ixT (cVar 1) (cVar 2)) cNil))))) (cVar 2)) (cLst cNil)))))
 cNx)
 (cSeq (cIfS (cB (cUn (isiT .int) (cVar 1)))
 (cRet (cAndV (cUn (isiT .int) (cVar 0)) (cAndV (cNotV (cUn (isiT .bool) (cVar 0))) (cBin eqT (cVar 0) (cVar 1)))))
 cNx)
 (cRet (cAndV (cUn (isiT .str) (cVar 0)) (cBin eqT (cVar 0) (cVar 1))))))) T.t_law_same.fd sc_law_same (fun h => nomatch h) (P' := []) (fun h => nomatch h) (fun E g hg => by
  obtain rfl : g = none := hg rfl
  exact (bj_cons (sj_if (WJ.cj (wj_or (cj_cmp (fun X h => op_isC) sd_is (ej_var 1) ej_non (by rfl)) (wj_or (cj_cmp (fun X h => op_isC) sd_is (ej_var 1) ej_bl (by rfl)) (wj_or1 (cj_cmp (fun X h => op_isC) sd_is (ej_var 1) ej_bl (by rfl))))))
 (bj_one (sj_ret (P' := []) (ej_if (cj_cmp (fun X h => op_isC) sd_is (ej_var 1) ej_non (by rfl)) (ej_cmp (fun X h => op_isC) sd_is (ej_var 0) ej_non (by rfl)) (ej_if (cj_cmp (fun X h => op_isC) sd_is (ej_var 1) ej_bl (by rfl)) (ej_cmp (fun X h => op_isC) sd_is (ej_var 0) ej_bl (by rfl)) (ej_cmp (fun X h => op_isC) sd_is (ej_var 0) ej_bl (by rfl))))))
 bj_nil)
 (bj_cons (sj_if (cj_of (ej_isi2 .list .tuple (ej_var 1) (hm := by exact T.b_isinstance) (hm2 := by exact T.b_list) (hm3 := by exact T.b_tuple)))
 (bj_cons (sj_if (WJ.cj (wj_or (WJ.cj (wj_and (cj_not (cj_of (ej_isi .list (ej_var 0) (hm := by exact T.b_isinstance) (hm2 := by exact T.b_list)))) (wj_and1 (cj_of (ej_isi .list (ej_var 1) (hm := by exact T.b_isinstance) (hm2 := by exact T.b_list)))))) (wj_or1 (WJ.cj (wj_and (cj_not (cj_of (ej_isi .tuple (ej_var 0) (hm := by exact T.b_isinstance) (hm2 := by exact T.b_tuple)))) (wj_and1 (cj_of (ej_isi .tuple (ej_var 1) (hm := by exact T.b_isinstance) (hm2 := by exact T.b_tuple)))))))))
 (bj_one (sj_ret (P' := []) ej_bl))
 bj_nil)
 (bj_one (sj_ret (P' := []) (ej_and (ej_cmp op_eqK sd_eq (ej_callB cl_len sd_len (aj_cons (ej_var 0) aj_nil) (hm := by exact T.b_len)) (ej_callB cl_len sd_len (aj_cons (ej_var 1) aj_nil) (hm := by exact T.b_len)) (by rfl)) (ej_one (ej_cmp op_eqK sd_eq (FJ.ej (fj_lc (on := [("at", 2)]) (ij_range1 (aj_cons (ej_callB cl_len sd_len (aj_cons (ej_var 1) aj_nil) (hm := by exact T.b_len)) aj_nil) (hm := by exact T.b_range)) (by rfl) (gj_name 2) (ifj_one (cj_not (cj_of (ej_call (T.t_law_same.callee bo_law_same ih _) (aj_cons (ej_ix (ej_var 0) (ej_var 2)) (aj_cons (ej_ix (ej_var 1) (ej_var 2)) aj_nil)) (hk := by exact Nat.ble_eq_true_of_le (show 3 + n ≤ 3 + n by omega)))))) (ej_var 2))) (ej_lst aj_nil) (by rfl)))))))
 bj_nil)
 (bj_cons (sj_if (cj_of (ej_isi .int (ej_var 1) (hm := by exact T.b_isinstance) (hm2 := by exact T.b_int)))
 (bj_one (sj_ret (P' := []) (ej_and (ej_isi .int (ej_var 0) (hm := by exact T.b_isinstance) (hm2 := by exact T.b_int)) (ej_and (ej_not (ej_isi .bool (ej_var 0) (hm := by exact T.b_isinstance) (hm2 := by exact T.b_bool))) (ej_one (ej_cmp op_eqK sd_eq (ej_var 0) (ej_var 1) (by rfl)))))))
 bj_nil)
 (bj_one (sj_ret (P' := []) (ej_and (ej_isi .str (ej_var 0) (hm := by exact T.b_isinstance) (hm2 := by exact T.b_str)) (ej_one (ej_cmp op_eqK sd_eq (ej_var 0) (ej_var 1) (by rfl)))))))))) (fun h => nomatch h)
theorem g_law_simplest {Tb : TB} (T : Tp P K mg) : FnG P w K mg base 6 T.a_law_simplest T.d_law_simplest ["least", "most", "strict"] (spX Tb K false false 3 m_law_simplest) :=
  FnG.of (N := ["least", "most", "strict", "bottom", "number", "one", "ahead", "behind"]) (F := cSeq (cFor (cRange2 (cCons (cK (.int 1)) (cCons (cK (.int 4000)) cNil))) (gSet 3)
 (cSeq (cSet 4 (cBin fdivT (cBin mulT (cBin ixT (cVar 0) (cK (.int 0))) (cVar 3)) (cBin ixT (cVar 0) (cK (.int 1)))))
 (cFor (cItems (cTup (cCons (cVar 4) (cCons (cBin addT (cVar 4) (cK (.int 1))) cNil)))) (gSet 5)
 (cSeq (cSet 6 (cBin subT (cBin mulT (cVar 5) (cBin ixT (cVar 0) (cK (.int 1)))) (cBin mulT (cBin ixT (cVar 0) (cK (.int 0))) (cVar 3))))
 (cSeq (cSet 7 (cBin subT (cBin mulT (cBin ixT (cVar 1) (cK (.int 0))) (cVar 3)) (cBin mulT (cVar 5) (cBin ixT (cVar 1) (cK (.int 1))))))
 (cIfS (cAndC (cB (cBin geT (cVar 6) (cApp intT (cCons (cVar 2) cNil)))) (cB (cBin geT (cVar 7) (cApp intT (cCons (cVar 2) cNil)))))
 (cRet (cCall m_law_low (cCons (cVar 5) (cCons (cVar 3) cNil))))
 cNx))))))
 (cRet (cK .non))) T.t_law_simplest.fd sc_law_simplest (fun h => nomatch h) (P' := []) (fun h => nomatch h) (fun E g hg => by
  obtain rfl : g = none := hg rfl
  exact (bj_cons (sj_for (ij_range2 (aj_cons ej_int (aj_cons ej_int aj_nil)) (hm := by exact T.b_range)) (gj_name 3)
 (bj_cons (sj_set (P' := []) 4 (ej_bin (fun X h => op_fdivW) sd_fdiv (ej_bin op_mul2 sd_mul (ej_ix (ej_var 0) ej_int) (ej_var 3)) (ej_ix (ej_var 0) ej_int)))
 (bj_one (sj_for (ij_seq (ej_tup (aj_cons (ej_var 4) (aj_cons (ej_bin op_add4 sd_add (ej_var 4) ej_int) aj_nil)))) (gj_name 5)
 (bj_cons (sj_set (P' := []) 6 (ej_bin (fun X h => op_sub) sd_sub (ej_bin op_mul2 sd_mul (ej_var 5) (ej_ix (ej_var 0) ej_int)) (ej_bin op_mul2 sd_mul (ej_ix (ej_var 0) ej_int) (ej_var 3))))
 (bj_cons (sj_set (P' := []) 7 (ej_bin (fun X h => op_sub) sd_sub (ej_bin op_mul2 sd_mul (ej_ix (ej_var 1) ej_int) (ej_var 3)) (ej_bin op_mul2 sd_mul (ej_var 5) (ej_ix (ej_var 1) ej_int))))
 (bj_one (sj_if (WJ.cj (wj_and (cj_cmp (fun X h => op_ge) sd_ge (ej_var 6) (ej_callTy cl_int sd_intF (aj_cons (ej_var 2) aj_nil) (hm := by exact T.b_int)) (by rfl)) (wj_and1 (cj_cmp (fun X h => op_ge) sd_ge (ej_var 7) (ej_callTy cl_int sd_intF (aj_cons (ej_var 2) aj_nil) (hm := by exact T.b_int)) (by rfl)))))
 (bj_one (sj_ret (P' := []) (ej_call (T.t_law_low.callee bo_law_low (g_law_low T) _) (aj_cons (ej_var 5) (aj_cons (ej_var 3) aj_nil)))))
 bj_nil))))))))
 (bj_one (sj_ret (P' := []) ej_non)))) (fun h => nomatch h)
theorem g_law_wrong_parts {Tb : TB} (T : Tp P K mg) : FnG P w K mg base 4 T.a_law_wrong_parts T.d_law_wrong_parts [] (spX Tb K false false 0 m_law_wrong_parts) :=
  FnG.of (N := []) (F := cRet (cLst (cCons (cK .non) (cCons (cK (.int 7)) (cCons (cTup cNil) (cCons (cLst cNil) (cCons (cTup (cCons (cK (.int 1)) cNil)) (cCons (cLst (cCons (cK (.int 1)) (cCons (cK (.int 2)) cNil))) (cCons (cTup (cCons (cK (.int 1)) (cCons (cK (.int 2)) (cCons (cK (.int 3)) cNil)))) (cCons (cTup (cCons (cK (.int 2)) (cCons (cK (.int 4)) cNil))) (cCons (cTup (cCons (cK (.int 1)) (cCons (cK (.int 0)) cNil))) (cCons (cTup (cCons (cK (.int 1)) (cCons (cBin subT (cK (.int 0)) (cK (.int 2))) cNil))) (cCons (cTup (cCons (cBin subT (cK (.int 0)) (cK (.int 1))) (cCons (cK (.int 2)) cNil))) (cCons (cTup (cCons (cK (.bl true)) (cCons (cK (.int 2)) cNil))) (cCons (cTup (cCons (cK (.int 1)) (cCons (cK (.bl true)) cNil))) (cCons (cTup (cCons (cK (.str "1")) (cCons (cK (.int 2)) cNil))) (cCons (cTup (cCons (cK (.int 1)) (cCons (cK .non) cNil))) (cCons (cK (.str "1/2")) (cCons (cK .emp) cNil))))))))))))))))))) T.t_law_wrong_parts.fd sc_law_wrong_parts (fun h => nomatch h) (P' := []) (fun h => nomatch h) (fun E g hg => by
  obtain rfl : g = none := hg rfl
  exact (bj_one (sj_ret (P' := []) (ej_lst (aj_cons ej_non (aj_cons ej_int (aj_cons (ej_tup aj_nil) (aj_cons (ej_lst aj_nil) (aj_cons (ej_tup (aj_cons ej_int aj_nil)) (aj_cons (ej_lst (aj_cons ej_int (aj_cons ej_int aj_nil))) (aj_cons (ej_tup (aj_cons ej_int (aj_cons ej_int (aj_cons ej_int aj_nil)))) (aj_cons (ej_tup (aj_cons ej_int (aj_cons ej_int aj_nil))) (aj_cons (ej_tup (aj_cons ej_int (aj_cons ej_int aj_nil))) (aj_cons (ej_tup (aj_cons ej_int (aj_cons (ej_bin (fun X h => op_sub) sd_sub ej_int ej_int) aj_nil))) (aj_cons (ej_tup (aj_cons (ej_bin (fun X h => op_sub) sd_sub ej_int ej_int) (aj_cons ej_int aj_nil))) (aj_cons (ej_tup (aj_cons ej_bl (aj_cons ej_int aj_nil))) (aj_cons (ej_tup (aj_cons ej_int (aj_cons ej_bl aj_nil))) (aj_cons (ej_tup (aj_cons ej_str (aj_cons ej_int aj_nil))) (aj_cons (ej_tup (aj_cons ej_int (aj_cons ej_non aj_nil))) (aj_cons ej_str (aj_cons ej_emp aj_nil))))))))))))))))))))) (fun h => nomatch h)
theorem g_law (T : Tp P K mg) (Z : TabBs base mg (mks K)) : FnG P w K mg base 17 T.a_law T.d_law ["script"] (spX (tbOf (mks K)) K false false 1 m_law) :=
  FnG.of (N := ["script", "turn", "way", "told", "bad", "generator", "other", "due", "first", "second", "low", "high", "one", "two", "least", "most", "letter"]) (F := cSeq (cPar2 5 6 (cCons (cCall m_law_generator (cCons (cVar 0) (cCons (cK (.int 0)) cNil))) (cCons (cCall m_law_generator (cCons (cVar 0) (cCons (cK (.int 1)) cNil))) cNil)))
 (cSeq (cFor (cRange1 (cCons (cK (.int 4)) cNil)) (gSet 1)
 (cSeq (cPar2 12 13 (cCons (cCallG m_law_part 5 (cCons (cK (.int 60)) cNil)) (cCons (cCallG m_law_part 5 (cCons (cK (.int 60)) cNil)) cNil)))
 (cSeq (cAsg (gTupT (gConsT (gSet 14) (gConsT (gSet 15) gNilT))) (cIf (cB (cCall m_law_less (cCons (cVar 13) (cCons (cVar 12) cNil)))) (cTup (cCons (cVar 13) (cCons (cVar 12) cNil))) (cTup (cCons (cVar 12) (cCons (cVar 13) cNil)))))
 (cSeq (cSet 7 (cCall m_law_simplest (cCons (cVar 14) (cCons (cVar 15) (cCons (cK (.bl false)) cNil)))))
 (cSeq (cIfS (cNotC (cB (cCall (m_law_same 12) (cCons (cLst (cCons (cCall m_simplest_from (cCons (cVar 14) (cCons (cVar 15) cNil))) (cCons (cCallK m_simplest_from [1, 0] (cCons (cVar 15) (cCons (cVar 14) cNil))) cNil))) (cCons (cLst (cCons (cVar 7) (cCons (cVar 7) cNil))) cNil)))))
 (cRet (cK (.bl false)))
 cNx)
 (cSeq (cIfS (cB (cCall m_law_less (cCons (cVar 14) (cCons (cVar 15) cNil))))
 (cSeq (cSet 7 (cCall m_law_simplest (cCons (cVar 14) (cCons (cVar 15) (cCons (cK (.bl true)) cNil)))))
 (cSeq (cIfS (cNotC (cB (cCall (m_law_same 12) (cCons (cLst (cCons (cCall m_simplest_inside (cCons (cVar 14) (cCons (cVar 15) cNil))) (cCons (cCallK m_simplest_inside [1, 0] (cCons (cVar 15) (cCons (cVar 14) cNil))) cNil))) (cCons (cLst (cCons (cVar 7) (cCons (cVar 7) cNil))) cNil)))))
 (cRet (cK (.bl false)))
 cNx)
 (cIfS (cNotC (cB (cCallL m_law_refused L0 [15, 14] (cCons (cK (.str "fraction")) (cCons (cVar 14) cNil)))))
 (cRet (cK (.bl false)))
 cNx)))
 cNx)
 (cIfS (cNotC (cB (cCallL m_law_refused L1 [15, 14] (cCons (cK (.str "fraction")) (cCons (cVar 14) cNil)))))
 (cRet (cK (.bl false)))
 cNx)))))))
 (cSeq (cSet 2 (cLc [16] (cRange1 (cCons (cBin addT (cK (.int 20)) (cCallG m_law_random 6 (cCons (cK (.int 40)) cNil))) cNil)) (gSet 16) cTrue (cCallG m_law_random 6 (cCons (cK (.int 2)) cNil))))
 (cSeq (cAsg (gTupT (gConsT (gSet 8) (gConsT (gSet 9) gNilT))) (cCall m_law_pairs (cCons (cVar 2) cNil)))
 (cSeq (cSet 3 (cTup (cCons (cBin addT (cBin ixT (cVar 8) (cK (.int 0))) (cBin ixT (cVar 9) (cK (.int 0)))) (cCons (cBin addT (cBin ixT (cVar 8) (cK (.int 1))) (cBin ixT (cVar 9) (cK (.int 1)))) cNil))))
 (cSeq (cPar2 10 11 (cCons (cTup (cCons (cBin addT (cBin ixT (cVar 8) (cK (.int 0))) (cBin mulT (cK (.int 2)) (cBin ixT (cVar 3) (cK (.int 0))))) (cCons (cBin addT (cBin ixT (cVar 8) (cK (.int 1))) (cBin mulT (cK (.int 2)) (cBin ixT (cVar 3) (cK (.int 1))))) cNil))) (cCons (cTup (cCons (cBin addT (cBin ixT (cVar 9) (cK (.int 0))) (cBin mulT (cK (.int 3)) (cBin ixT (cVar 3) (cK (.int 0))))) (cCons (cBin addT (cBin ixT (cVar 9) (cK (.int 1))) (cBin mulT (cK (.int 3)) (cBin ixT (cVar 3) (cK (.int 1))))) cNil))) cNil)))
 (cSeq (cIfS (cNotC (cB (cCall (m_law_same 12) (cCons (cLst (cCons (cCall m_simplest_from (cCons (cVar 10) (cCons (cVar 11) cNil))) (cCons (cCall m_simplest_inside (cCons (cVar 10) (cCons (cVar 11) cNil))) (cCons (cCall m_simplest_from (cCons (cVar 3) (cCons (cVar 11) cNil))) (cCons (cCall m_simplest_from (cCons (cVar 10) (cCons (cVar 3) cNil))) cNil))))) (cCons (cBin mulT (cLst (cCons (cVar 3) cNil)) (cK (.int 4))) cNil)))))
 (cRet (cK (.bl false)))
 cNx)
 (cSeq (cFor (cItems (cCall m_law_wrong_parts cNil)) (gSet 4)
 (cIfS (cNotC (cB (cCallLs m_law_all_refused [(L2, [4]), (L3, [4]), (L4, [4]), (L5, [4])] (cCons (cK (.str "fraction")) (cCons (cVar 4) cNil)))))
 (cRet (cK (.bl false)))
 cNx))
 (cSeq (cSet 3 (cLst (cCons (cCall m_simplest_from (cCons (cTup (cCons (cK (.int 1)) (cCons (cK (.int 3)) cNil))) (cCons (cTup (cCons (cK (.int 1)) (cCons (cK (.int 2)) cNil))) cNil))) (cCons (cCall m_simplest_inside (cCons (cTup (cCons (cK (.int 1)) (cCons (cK (.int 3)) cNil))) (cCons (cTup (cCons (cK (.int 1)) (cCons (cK (.int 2)) cNil))) cNil))) (cCons (cCall m_simplest_inside (cCons (cTup (cCons (cK (.int 31)) (cCons (cK (.int 10)) cNil))) (cCons (cTup (cCons (cK (.int 16)) (cCons (cK (.int 5)) cNil))) cNil))) (cCons (cCall m_simplest_from (cCons (cTup (cCons (cK (.int 0)) (cCons (cK (.int 1)) cNil))) (cCons (cTup (cCons (cK (.int 0)) (cCons (cK (.int 1)) cNil))) cNil))) (cCons (cCall m_simplest_inside (cCons (cTup (cCons (cK (.int 0)) (cCons (cK (.int 1)) cNil))) (cCons (cTup (cCons (cK (.int 1)) (cCons (cK (.int 9)) cNil))) cNil))) cNil)))))))
 (cRet (cCall (m_law_same 12) (cCons (cVar 3) (cCons (cLst (cCons (cTup (cCons (cK (.int 1)) (cCons (cK (.int 2)) cNil))) (cCons (cTup (cCons (cK (.int 2)) (cCons (cK (.int 5)) cNil))) (cCons (cTup (cCons (cK (.int 19)) (cCons (cK (.int 6)) cNil))) (cCons (cTup (cCons (cK (.int 0)) (cCons (cK (.int 1)) cNil))) (cCons (cTup (cCons (cK (.int 1)) (cCons (cK (.int 10)) cNil))) cNil)))))) cNil))))))))))))) T.t_law.fd sc_law (fun h => nomatch h) (P' := []) (fun h => nomatch h) (fun E g hg => by
  obtain rfl : g = none := hg rfl
  exact (bj_cons (sj_par2C (P' := [5, 6]) 5 6 [5] (mj_f (fj_call (T.t_law_generator.callee bo_law_generator (g_law_generator T) _) (aj_cons (ej_var 0) (aj_cons ej_int aj_nil))) (mj_f (fj_call (T.t_law_generator.callee bo_law_generator (g_law_generator T) _) (aj_cons (ej_var 0) (aj_cons ej_int aj_nil))) mj_nil)))
 (bj_cons (sj_for (ij_range1 (aj_cons ej_int aj_nil) (hm := by exact T.b_range)) (gj_name 1)
 (bj_cons (sj_par2 (P' := [5, 6]) 12 13 [5, 6] (mj_e (ej_callG 5 (T.t_law_part.callee bo_law_part (g_law_part T) _) (aj_cons ej_int aj_nil)) (mj_e (ej_callG 5 (T.t_law_part.callee bo_law_part (g_law_part T) _) (aj_cons ej_int aj_nil)) mj_nil)))
 (bj_cons (sj_asg (ej_if (cj_of (ej_call (T.t_law_less.callee bo_law_less (g_law_less T) _) (aj_cons (ej_var 13) (aj_cons (ej_var 12) aj_nil)))) (ej_tup (aj_cons (ej_var 13) (aj_cons (ej_var 12) aj_nil))) (ej_tup (aj_cons (ej_var 12) (aj_cons (ej_var 13) aj_nil)))) (gj_tup (gsj_cons (gj_name 14) (gsj_cons (gj_name 15) gsj_nil)) (hl := (gCons_len (gCons_len gNil_len)))))
 (bj_cons (sj_set (P' := [5, 6]) 7 (ej_call (T.t_law_simplest.callee bo_law_simplest (g_law_simplest T) _) (aj_cons (ej_var 14) (aj_cons (ej_var 15) (aj_cons ej_bl aj_nil)))))
 (bj_cons (sj_if (cj_not (cj_of (ej_call (T.t_law_same.callee bo_law_same (g_law_same T 12) _) (aj_cons (ej_lst (aj_cons (ej_call (T.t_simplest_from.callee bo_simplest_from (g_simplest_from T) _) (aj_cons (ej_var 14) (aj_cons (ej_var 15) aj_nil))) (aj_cons (ej_callKw [1, 0] (T.t_simplest_from.callee bo_simplest_from (g_simplest_from T) _) (kj_cons (ej_var 15) (kj_cons (ej_var 14) kj_nil)) (T.t_simplest_from.kw kw_simplest_from_1_0)) aj_nil))) (aj_cons (ej_lst (aj_cons (ej_var 7) (aj_cons (ej_var 7) aj_nil))) aj_nil)))))
 (bj_frz [] (bj_one (sj_ret (P' := [5, 6]) ej_bl)))
 bj_nil)
 (bj_cons (sj_if (cj_of (ej_call (T.t_law_less.callee bo_law_less (g_law_less T) _) (aj_cons (ej_var 14) (aj_cons (ej_var 15) aj_nil))))
 (bj_cons (sj_set (P' := [5, 6]) 7 (ej_call (T.t_law_simplest.callee bo_law_simplest (g_law_simplest T) _) (aj_cons (ej_var 14) (aj_cons (ej_var 15) (aj_cons ej_bl aj_nil)))))
 (bj_cons (sj_if (cj_not (cj_of (ej_call (T.t_law_same.callee bo_law_same (g_law_same T 12) _) (aj_cons (ej_lst (aj_cons (ej_call (T.t_simplest_inside.callee bo_simplest_inside (g_simplest_inside T) _) (aj_cons (ej_var 14) (aj_cons (ej_var 15) aj_nil))) (aj_cons (ej_callKw [1, 0] (T.t_simplest_inside.callee bo_simplest_inside (g_simplest_inside T) _) (kj_cons (ej_var 15) (kj_cons (ej_var 14) kj_nil)) (T.t_simplest_inside.kw kw_simplest_inside_1_0)) aj_nil))) (aj_cons (ej_lst (aj_cons (ej_var 7) (aj_cons (ej_var 7) aj_nil))) aj_nil)))))
 (bj_frz [] (bj_one (sj_ret (P' := [5, 6]) ej_bl)))
 bj_nil)
 (bj_one (sj_if (cj_not (cj_of (ej_callL _ L0 [15, 14] (T.t_law_refused.callee bo_law_refused (g_law_refused T Z) _) (by exact ⟨rfl, rfl, rfl⟩) (mk_law T Z) (lf_0.at (by decide)) (aj_cons ej_str (aj_cons (ej_var 14) aj_nil)))))
 (bj_frz [] (bj_one (sj_ret (P' := [5, 6]) ej_bl)))
 bj_nil))))
 bj_nil)
 (bj_one (sj_if (cj_not (cj_of (ej_callL _ L1 [15, 14] (T.t_law_refused.callee bo_law_refused (g_law_refused T Z) _) (by exact ⟨rfl, rfl, rfl⟩) (mk_law T Z) (lf_1.at (by decide)) (aj_cons ej_str (aj_cons (ej_var 14) aj_nil)))))
 (bj_frz [] (bj_one (sj_ret (P' := [5, 6]) ej_bl)))
 bj_nil))))))))
 (bj_frz [6] (bj_cons (sj_setLc (P' := [6]) 2 (on := [("letter", 16)]) (ij_range1 (aj_cons (ej_bin op_add4 sd_add ej_int (ej_callG 6 (T.t_law_random.callee bo_law_random (g_law_random T) _) (aj_cons ej_int aj_nil))) aj_nil) (hm := by exact T.b_range)) (by rfl) (gj_name 16) ifj_nil (ej_callG 6 (T.t_law_random.callee bo_law_random (g_law_random T) _) (aj_cons ej_int aj_nil)) (fun env h => sw_lc h rfl rfl rfl rfl))
 (bj_frz [] (bj_cons (sj_asg (ej_call (T.t_law_pairs.callee bo_law_pairs (g_law_pairs T) _) (aj_cons (ej_var 2) aj_nil)) (gj_tup (gsj_cons (gj_name 8) (gsj_cons (gj_name 9) gsj_nil)) (hl := (gCons_len (gCons_len gNil_len)))))
 (bj_cons (sj_set (P' := []) 3 (ej_tup (aj_cons (ej_bin op_add4 sd_add (ej_ix (ej_var 8) ej_int) (ej_ix (ej_var 9) ej_int)) (aj_cons (ej_bin op_add4 sd_add (ej_ix (ej_var 8) ej_int) (ej_ix (ej_var 9) ej_int)) aj_nil))))
 (bj_cons (sj_par2 (P' := []) 10 11 [] (mj_e (ej_tup (aj_cons (ej_bin op_add4 sd_add (ej_ix (ej_var 8) ej_int) (ej_bin op_mul2 sd_mul ej_int (ej_ix (ej_var 3) ej_int))) (aj_cons (ej_bin op_add4 sd_add (ej_ix (ej_var 8) ej_int) (ej_bin op_mul2 sd_mul ej_int (ej_ix (ej_var 3) ej_int))) aj_nil))) (mj_e (ej_tup (aj_cons (ej_bin op_add4 sd_add (ej_ix (ej_var 9) ej_int) (ej_bin op_mul2 sd_mul ej_int (ej_ix (ej_var 3) ej_int))) (aj_cons (ej_bin op_add4 sd_add (ej_ix (ej_var 9) ej_int) (ej_bin op_mul2 sd_mul ej_int (ej_ix (ej_var 3) ej_int))) aj_nil))) mj_nil)))
 (bj_cons (sj_if (cj_not (cj_of (ej_call (T.t_law_same.callee bo_law_same (g_law_same T 12) _) (aj_cons (ej_lst (aj_cons (ej_call (T.t_simplest_from.callee bo_simplest_from (g_simplest_from T) _) (aj_cons (ej_var 10) (aj_cons (ej_var 11) aj_nil))) (aj_cons (ej_call (T.t_simplest_inside.callee bo_simplest_inside (g_simplest_inside T) _) (aj_cons (ej_var 10) (aj_cons (ej_var 11) aj_nil))) (aj_cons (ej_call (T.t_simplest_from.callee bo_simplest_from (g_simplest_from T) _) (aj_cons (ej_var 3) (aj_cons (ej_var 11) aj_nil))) (aj_cons (ej_call (T.t_simplest_from.callee bo_simplest_from (g_simplest_from T) _) (aj_cons (ej_var 10) (aj_cons (ej_var 3) aj_nil))) aj_nil))))) (aj_cons (ej_bin op_mul2 sd_mul (ej_lst (aj_cons (ej_var 3) aj_nil)) ej_int) aj_nil)))))
 (bj_one (sj_ret (P' := []) ej_bl))
 bj_nil)
 (bj_cons (sj_for (ij_seq (ej_call0 (T.t_law_wrong_parts.callee bo_law_wrong_parts (g_law_wrong_parts T) _))) (gj_name 4)
 (bj_one (sj_if (cj_not (cj_of (ej_callLs _ [(L2, [4]), (L3, [4]), (L4, [4]), (L5, [4])] (T.t_law_all_refused.callee bo_law_all_refused (g_law_all_refused T Z) _) (by exact ⟨⟨rfl, rfl, rfl⟩, ⟨⟨rfl, rfl, rfl⟩, ⟨⟨rfl, rfl, rfl⟩, ⟨⟨rfl, rfl, rfl⟩, trivial⟩⟩⟩⟩) (lm_cons ⟨(mk_law T Z), lf_2.at (by decide)⟩ (lm_cons ⟨(mk_law T Z), lf_3.at (by decide)⟩ (lm_cons ⟨(mk_law T Z), lf_4.at (by decide)⟩ (lm_cons ⟨(mk_law T Z), lf_5.at (by decide)⟩ lm_nil)))) (aj_cons ej_str (aj_cons (ej_var 4) aj_nil)))))
 (bj_one (sj_ret (P' := []) ej_bl))
 bj_nil)))
 (bj_cons (sj_set (P' := []) 3 (ej_lst (aj_cons (ej_call (T.t_simplest_from.callee bo_simplest_from (g_simplest_from T) _) (aj_cons (ej_tup (aj_cons ej_int (aj_cons ej_int aj_nil))) (aj_cons (ej_tup (aj_cons ej_int (aj_cons ej_int aj_nil))) aj_nil))) (aj_cons (ej_call (T.t_simplest_inside.callee bo_simplest_inside (g_simplest_inside T) _) (aj_cons (ej_tup (aj_cons ej_int (aj_cons ej_int aj_nil))) (aj_cons (ej_tup (aj_cons ej_int (aj_cons ej_int aj_nil))) aj_nil))) (aj_cons (ej_call (T.t_simplest_inside.callee bo_simplest_inside (g_simplest_inside T) _) (aj_cons (ej_tup (aj_cons ej_int (aj_cons ej_int aj_nil))) (aj_cons (ej_tup (aj_cons ej_int (aj_cons ej_int aj_nil))) aj_nil))) (aj_cons (ej_call (T.t_simplest_from.callee bo_simplest_from (g_simplest_from T) _) (aj_cons (ej_tup (aj_cons ej_int (aj_cons ej_int aj_nil))) (aj_cons (ej_tup (aj_cons ej_int (aj_cons ej_int aj_nil))) aj_nil))) (aj_cons (ej_call (T.t_simplest_inside.callee bo_simplest_inside (g_simplest_inside T) _) (aj_cons (ej_tup (aj_cons ej_int (aj_cons ej_int aj_nil))) (aj_cons (ej_tup (aj_cons ej_int (aj_cons ej_int aj_nil))) aj_nil))) aj_nil)))))))
 (bj_one (sj_ret (P' := []) (ej_call (T.t_law_same.callee bo_law_same (g_law_same T 12) _) (aj_cons (ej_var 3) (aj_cons (ej_lst (aj_cons (ej_tup (aj_cons ej_int (aj_cons ej_int aj_nil))) (aj_cons (ej_tup (aj_cons ej_int (aj_cons ej_int aj_nil))) (aj_cons (ej_tup (aj_cons ej_int (aj_cons ej_int aj_nil))) (aj_cons (ej_tup (aj_cons ej_int (aj_cons ej_int aj_nil))) (aj_cons (ej_tup (aj_cons ej_int (aj_cons ej_int aj_nil))) aj_nil)))))) aj_nil))))))))))))))))) (fun h => nomatch h)
end
end G
namespace G
open PySem PySem.Spec L2 Tc
theorem tops {K : PySem.W.Frag} {h : Heap} {mg : Str → Option Value} {w : World} (X : K.In h) (G : h.Ns mainGlobals mg) (cc : He.SaysX fas fns [] tf exF w h K) : Nonempty (Tp PySem.Challenge.rw_spreadline_k34_whole_simplest_fractions.prog K mg) := by
  have c := cc.t.d
  have more := cc.more
  unfold exF at more
  simp only [Bool.and_eq_true, decide_eq_true_eq] at more
  obtain ⟨⟨⟨cx, e1⟩, e_SpreadError⟩, nd⟩ := more
  obtain ⟨x_law_alike, y_law_alike⟩ := c.def_ 0 (d := dd_law_alike) rfl
  obtain ⟨x_is_whole, y_is_whole⟩ := c.def_ 1 (d := dd_is_whole) rfl
  obtain ⟨x_is_fraction, y_is_fraction⟩ := c.def_ 2 (d := dd_is_fraction) rfl
  obtain ⟨x_is_part, y_is_part⟩ := c.def_ 3 (d := dd_is_part) rfl
  obtain ⟨x_check_part, y_check_part⟩ := c.def_ 4 (d := dd_check_part) rfl
  obtain ⟨x_put_together, y_put_together⟩ := c.def_ 5 (d := dd_put_together) rfl
  obtain ⟨x_found_from, y_found_from⟩ := c.def_ 6 (d := dd_found_from) rfl
  obtain ⟨x_is_less, y_is_less⟩ := c.def_ 7 (d := dd_is_less) rfl
  obtain ⟨x_simplest_from, y_simplest_from⟩ := c.def_ 8 (d := dd_simplest_from) rfl
  obtain ⟨x_found_inside, y_found_inside⟩ := c.def_ 9 (d := dd_found_inside) rfl
  obtain ⟨x_simplest_inside, y_simplest_inside⟩ := c.def_ 10 (d := dd_simplest_inside) rfl
  obtain ⟨x_law_caught, y_law_caught⟩ := c.def_ 11 (d := dd_law_caught) rfl
  obtain ⟨x_law_refused, y_law_refused⟩ := c.def_ 12 (d := dd_law_refused) rfl
  obtain ⟨x_law_all_refused, y_law_all_refused⟩ := c.def_ 13 (d := dd_law_all_refused) rfl
  obtain ⟨x_law_cell, y_law_cell⟩ := c.def_ 14 (d := dd_law_cell) rfl
  obtain ⟨x_law_generator, y_law_generator⟩ := c.def_ 15 (d := dd_law_generator) rfl
  obtain ⟨x_law_less, y_law_less⟩ := c.def_ 16 (d := dd_law_less) rfl
  obtain ⟨x_law_pairs, y_law_pairs⟩ := c.def_ 17 (d := dd_law_pairs) rfl
  obtain ⟨x_law_gcd, y_law_gcd⟩ := c.def_ 18 (d := dd_law_gcd) rfl
  obtain ⟨x_law_low, y_law_low⟩ := c.def_ 19 (d := dd_law_low) rfl
  obtain ⟨x_law_hash, y_law_hash⟩ := c.def_ 20 (d := dd_law_hash) rfl
  obtain ⟨x_law_random, y_law_random⟩ := c.def_ 21 (d := dd_law_random) rfl
  obtain ⟨x_law_pick, y_law_pick⟩ := c.def_ 22 (d := dd_law_pick) rfl
  obtain ⟨x_law_part, y_law_part⟩ := c.def_ 23 (d := dd_law_part) rfl
  obtain ⟨x_law_same, y_law_same⟩ := c.def_ 24 (d := dd_law_same) rfl
  obtain ⟨x_law_simplest, y_law_simplest⟩ := c.def_ 25 (d := dd_law_simplest) rfl
  obtain ⟨x_law_wrong_parts, y_law_wrong_parts⟩ := c.def_ 26 (d := dd_law_wrong_parts) rfl
  obtain ⟨x_law, y_law⟩ := c.def_ 27 (d := dd_law) rfl
  exact ⟨⟨_,
    x_law_alike,
    ⟨y_law_alike, He.glo_ok X G (c.fact 0 (f := .glo "_law_alike") rfl)⟩,
    _,
    x_is_whole,
    ⟨y_is_whole, He.glo_ok X G (c.fact 1 (f := .glo "is_whole") rfl)⟩,
    _,
    x_is_fraction,
    ⟨y_is_fraction, He.glo_ok X G (c.fact 2 (f := .glo "is_fraction") rfl)⟩,
    _,
    x_is_part,
    ⟨y_is_part, He.glo_ok X G (c.fact 3 (f := .glo "is_part") rfl)⟩,
    _,
    x_check_part,
    ⟨y_check_part, He.glo_ok X G (c.fact 4 (f := .glo "check_part") rfl)⟩,
    _,
    x_put_together,
    ⟨y_put_together, He.glo_ok X G (c.fact 5 (f := .glo "put_together") rfl)⟩,
    _,
    x_found_from,
    ⟨y_found_from, He.glo_ok X G (c.fact 6 (f := .glo "found_from") rfl)⟩,
    _,
    x_is_less,
    ⟨y_is_less, He.glo_ok X G (c.fact 7 (f := .glo "is_less") rfl)⟩,
    _,
    x_simplest_from,
    ⟨y_simplest_from, He.glo_ok X G (c.fact 8 (f := .glo "simplest_from") rfl)⟩,
    _,
    x_found_inside,
    ⟨y_found_inside, He.glo_ok X G (c.fact 9 (f := .glo "found_inside") rfl)⟩,
    _,
    x_simplest_inside,
    ⟨y_simplest_inside, He.glo_ok X G (c.fact 10 (f := .glo "simplest_inside") rfl)⟩,
    _,
    x_law_caught,
    ⟨y_law_caught, He.glo_ok X G (c.fact 11 (f := .glo "_law_caught") rfl)⟩,
    _,
    x_law_refused,
    ⟨y_law_refused, He.glo_ok X G (c.fact 12 (f := .glo "_law_refused") rfl)⟩,
    _,
    x_law_all_refused,
    ⟨y_law_all_refused, He.glo_ok X G (c.fact 13 (f := .glo "_law_all_refused") rfl)⟩,
    _,
    x_law_cell,
    ⟨y_law_cell, He.glo_ok X G (c.fact 14 (f := .glo "_law_cell") rfl)⟩,
    _,
    x_law_generator,
    ⟨y_law_generator, He.glo_ok X G (c.fact 15 (f := .glo "_law_generator") rfl)⟩,
    _,
    x_law_less,
    ⟨y_law_less, He.glo_ok X G (c.fact 16 (f := .glo "_law_less") rfl)⟩,
    _,
    x_law_pairs,
    ⟨y_law_pairs, He.glo_ok X G (c.fact 17 (f := .glo "_law_pairs") rfl)⟩,
    _,
    x_law_gcd,
    ⟨y_law_gcd, He.glo_ok X G (c.fact 18 (f := .glo "_law_gcd") rfl)⟩,
    _,
    x_law_low,
    ⟨y_law_low, He.glo_ok X G (c.fact 19 (f := .glo "_law_low") rfl)⟩,
    _,
    x_law_hash,
    ⟨y_law_hash, He.glo_ok X G (c.fact 20 (f := .glo "_law_hash") rfl)⟩,
    _,
    x_law_random,
    ⟨y_law_random, He.glo_ok X G (c.fact 21 (f := .glo "_law_random") rfl)⟩,
    _,
    x_law_pick,
    ⟨y_law_pick, He.glo_ok X G (c.fact 22 (f := .glo "_law_pick") rfl)⟩,
    _,
    x_law_part,
    ⟨y_law_part, He.glo_ok X G (c.fact 23 (f := .glo "_law_part") rfl)⟩,
    _,
    x_law_same,
    ⟨y_law_same, He.glo_ok X G (c.fact 24 (f := .glo "_law_same") rfl)⟩,
    _,
    x_law_simplest,
    ⟨y_law_simplest, He.glo_ok X G (c.fact 25 (f := .glo "_law_simplest") rfl)⟩,
    _,
    x_law_wrong_parts,
    ⟨y_law_wrong_parts, He.glo_ok X G (c.fact 26 (f := .glo "_law_wrong_parts") rfl)⟩,
    _,
    x_law,
    ⟨y_law, He.glo_ok X G (c.fact 27 (f := .glo "law") rfl)⟩,
    He.free_ok X G (c.fact 28 (f := .free "abs") rfl),
    He.free_ok X G (c.fact 29 (f := .free "bool") rfl),
    He.free_ok X G (c.fact 30 (f := .free "int") rfl),
    He.free_ok X G (c.fact 31 (f := .free "isinstance") rfl),
    He.free_ok X G (c.fact 32 (f := .free "len") rfl),
    He.free_ok X G (c.fact 33 (f := .free "list") rfl),
    He.free_ok X G (c.fact 34 (f := .free "max") rfl),
    He.free_ok X G (c.fact 35 (f := .free "range") rfl),
    He.free_ok X G (c.fact 36 (f := .free "repr") rfl),
    He.free_ok X G (c.fact 37 (f := .free "str") rfl),
    He.free_ok X G (c.fact 38 (f := .free "sum") rfl),
    He.free_ok X G (c.fact 39 (f := .free "super") rfl),
    He.free_ok X G (c.fact 40 (f := .free "tuple") rfl),
    Tc.blt_ok X G (Tc.Cf.at_ cx 0 (f := .blt "gcd" "math.gcd") rfl),
    Tc.errsB_ok e1,
    He.glo_ok X G (c.fact 41 (f := .glo "InvalidCells") rfl),
    He.glo_ok X G (c.fact 42 (f := .glo "InvalidDate") rfl),
    He.glo_ok X G (c.fact 43 (f := .glo "InvalidEdit") rfl),
    He.glo_ok X G (c.fact 44 (f := .glo "InvalidFraction") rfl),
    He.glo_ok X G (c.fact 45 (f := .glo "InvalidLengths") rfl),
    He.glo_ok X G (c.fact 46 (f := .glo "InvalidLine") rfl),
    He.glo_ok X G (c.fact 47 (f := .glo "InvalidNames") rfl),
    He.glo_ok X G (c.fact 48 (f := .glo "InvalidNumber") rfl),
    He.glo_ok X G (c.fact 49 (f := .glo "InvalidRow") rfl),
    He.glo_ok X G (c.fact 50 (f := .glo "InvalidRule") rfl),
    He.glo_ok X G (c.fact 51 (f := .glo "InvalidText") rfl),
    He.glo_ok X G (c.fact 52 (f := .glo "InvalidWheels") rfl),
    He.glo_ok X G (c.fact 53 (f := .glo "SpreadError") rfl),
    He.glo_ok X G (c.fact 54 (f := .glo "TooMany") rfl),
    He.glo_ok X G (c.fact 55 (f := .glo "Uneven") rfl),
    He.glo_ok X G (c.fact 56 (f := .glo "Unlike") rfl),
    Tc.excsB_ok e_SpreadError,
    nd,
    Tc.FunD.codeAt (p := ("law", none)) y_law⟩⟩
end G
namespace G
open PySem L2 Tc
local macro_rules | `(tactic| walk_at "nw") => `(tactic| (try simp only [List.set_cons_zero, List.set_cons_succ]))
local macro_rules | `(tactic| walk_at "ew") => `(tactic| (repeat' (first | with_reducible (first | refine WS_seq ?_ | refine WS_set ?_ | refine WS_ret ?_ | refine WS_if ?_ | refine WS_drop ?_ | refine WS_nx ?_ | refine WS_raise ?_ | refine WE_bin ?_ | refine WE_cons ?_ | refine WE_nil ?_ | refine WE_k ?_ | refine WE_app ?_ | refine WE_un ?_ | refine WE_B ?_ | refine WE_notC ?_ | refine WE_call ?_ | refine WE_callK ?_ | refine WE_callGT ?_ | refine WE_lst ?_ | refine WE_tup ?_ | refine WE_chain ?_ | refine WE_chain3 ?_ | refine WE_andV ?_ | refine WE_orV ?_ | refine WE_notV ?_ | refine WE_andC ?_ | refine WE_orC ?_ | refine WE_if ?_ | refine WS_par2 ?_ | refine WS_par3 ?_ | refine WE_rg1 ?_ | refine WE_rg2 ?_ | refine WE_items ?_ | refine WE_enum ?_ | refine WE_zip ?_ | refine WE_revd ?_ | refine WE_callG ?_ | refine WS_put ?_ | refine WS_app ?_ | refine WE_pix ?_ | refine WE_sl ?_ | refine WE_p0 ?_ | refine WE_p1 ?_ | refine WE_true ?_ | refine WE_bor ?_ | refine WE_borC ?_ | refine WE_mt ?_ | refine WS_asg ?_ | refine WS_par4 ?_) | ((with_reducible apply WE_var); (case h => exact rfl)) | ((with_reducible refine And.intro ?_ ?_); (with_reducible first | exact ff1 | exact ff2 | exact ff3 | exact ff4 | exact ff5 | fail); (intro _)) | ((with_reducible refine And.intro ?_ ?_); rotate_left; (with_reducible first | exact tt1 | exact tt2 | exact tt3 | exact tt4 | exact tt5 | fail); (intro _)) | ((with_reducible apply Exists.intro); (with_reducible apply And.intro); first | ((with_reducible (first | show addT (.int _) (.int _) = some _ | show subT (.int _) (.int _) = some _ | show negT (.int _) = some _ | show ltT (.int _) (.int _) = some _ | show leT (.int _) (.int _) = some _ | show gtT (.int _) (.int _) = some _ | show geT (.int _) (.int _) = some _ | show intT [.int _] = some _ | show max2T [.int _, .int _] = some _ | show min2T [.int _, .int _] = some _ | show absT [.int _] = some _ | show eqT (.int _) (.int _) = some _ | show neT (.int _) (.int _) = some _ | show gcdT [.int _, .int _] = some _ | show subBT (.bl _) (.bl _) = some _ | show gTupT _ _ _ = some _ | show ixT (.tup (_ :: _)) (.int _) = some _ | show ixT (.lst (_ :: _)) (.int _) = some _ | show T.bl _ = T.bl _ | show T.int _ = T.int _)); exact rfl) | ((with_reducible (first | show isiT _ _ = some _ | show isT _ _ = some _ | show isNT _ _ = some _ | show isisT _ _ = some _)); first | exact (rfl : _ = some (T.bl true)) | exact (rfl : _ = some (T.bl false)) | exact rfl) | fail) | ((with_reducible refine limA ?_ ?_); (first | exact rfl | fail)) | fail)))
local macro_rules | `(tactic| walk_at "norm") => `(tactic| (try simp only [List.map_cons, List.map_nil, List.cons_append, List.nil_append, List.length_cons, List.length_nil, Nat.zero_add, Nat.reduceAdd, Nat.reduceSub, Nat.sub_self, List.replicate_zero, List.replicate_succ, List.append_nil, List.set_cons_zero, List.set_cons_succ]))
/-- by sums and strictness: s = 0 or 1 -/
def inS (s l0 l1 m0 m1 x y : Int) : Prop := l0 * y + s ≤ x * l1 ∧ x * m1 + s ≤ m0 * y
theorem inS0 (l0 l1 m0 m1 : Int) : inS 0 l0 l1 m0 m1 = inC l0 l1 m0 m1 := by
  funext x y
  unfold inS inC
  rw [Int.add_zero, Int.add_zero]
theorem inS1 (l0 l1 m0 m1 : Int) : inS 1 l0 l1 m0 m1 = inO l0 l1 m0 m1 := by
  funext x y
  unfold inS inO
  exact propext ⟨fun h => ⟨by omega, by omega⟩, fun h => ⟨by omega, by omega⟩⟩
/-- small fractions -/
structure Sm (a b : Int) : Prop where
  b1 : 1 ≤ b
  b2 : b ≤ 1000
  a0 : 0 ≤ a
  a2 : a ≤ 1000
  g : Int.gcd a b = 1
section
variable {χ : T → List T → Prop} {ζ : Str → T → Prop} {l0 l1 m0 m1 x y s : Int}
theorem two_x (h : Simp (inS s l0 l1 m0 m1) x y) (hs : s = 0 ∨ s = 1) (hl : 0 < l1) (hm1 : 0 ≤ m1) : x = l0 * y / l1 ∨ x = l0 * y / l1 + 1 := by
  obtain ⟨f1, f2⟩ := floor_le (a := l0 * y) hl
  have hm := h.mem
  obtain ⟨a, b⟩ := hm
  have ge : l0 * y / l1 ≤ x := by
    have := Int.lt_of_mul_lt_mul_right (show l0 * y / l1 * l1 < (x + 1) * l1 by rw [Int.add_mul]; omega) (by omega)
    omega
  refine Classical.byContradiction fun n => ?_
  have h2 : l0 * y / l1 + 2 ≤ x := by omega
  have hk := Int.mul_le_mul_of_nonneg_right (show l0 * y / l1 + 1 ≤ x - 1 by omega) (show 0 ≤ l1 by omega)
  have key : inS s l0 l1 m0 m1 (x - 1) y := by
    refine ⟨by omega, ?_⟩
    rw [Int.sub_mul]; omega
  have := (h.min _ _ h.y1 key).2 rfl
  omega
theorem cop_S (h : Simp (inS s l0 l1 m0 m1) x y) (hs : s = 0 ∨ s = 1) : Int.gcd x y = 1 := by
  rcases hs with rfl | rfl
  · exact Simp.cop (.inl (inS0 l0 l1 m0 m1)) h
  · exact Simp.cop (.inr (inS1 l0 l1 m0 m1)) h
theorem mul_bd4 {a b A B : Int} (h1 : 0 ≤ a) (h2 : a ≤ A) (h3 : 0 ≤ b) (h4 : b ≤ B) : 0 ≤ a * b ∧ a * b ≤ A * B := ⟨Int.mul_nonneg h1 h3, Int.mul_le_mul h2 h4 h3 (by omega)⟩
theorem simpL_ok {st : Bool} (hs : s = if st then 1 else 0) (hl : Sm l0 l1) (hm : Sm m0 m1) (h : Simp (inS s l0 l1 m0 m1) x y) (hy : y < 4000) (q : χ (fr x y) []) : WR (m_law_simplest [fr l0 l1, fr m0 m1, .bl st]) χ ζ := by
  have hs' : s = 0 ∨ s = 1 := by cases st <;> simp at hs <;> omega
  have si : intT [.bl st] = some (.int s) := by subst hs; cases st <;> rfl
  have hcop := cop_S h hs'
  have y1 := h.y1
  have l11 := hl.b1
  have l12 := hl.b2
  have l00 := hl.a0
  have l02 := hl.a2
  have m11 := hm.b1
  have m12 := hm.b2
  have m00 := hm.a0
  have m02 := hm.a2
  have hx := two_x h hs' (by omega) (by omega)
  refine WR_fn ?_
  walk_at "norm"
  walk_at "ew"
  refine WS_for (fun ts i r => (i : Int) < y ∧ ts = rangeT 1 4000 ∧ ∃ a b c d e, r = [some (fr l0 l1), some (fr m0 m1), some (.bl st), a, b, c, d, e]) ?_
  walk_at "ew"
  refine ⟨_, _, rfl, by decide, by decide, ⟨by omega, rfl, none, none, none, none, none, rfl⟩, fun i t r ht hr => ?_, fun r hr => ?_⟩
  · obtain ⟨hi, -, a, b, c, d, e, rfl⟩ := hr
    obtain ⟨rfl, hi2⟩ := rangeT_get ht
    refine ⟨_, rfl, ?_⟩
    walk_at "norm"
    walk_at "ew"
    obtain ⟨B, hB⟩ : ∃ B : Int, 1 + (i : Int) = B := ⟨_, rfl⟩
    rw [hB]
    have B1 : 1 ≤ B := by omega
    have By : B ≤ y := by omega
    refine ⟨_, mulT_bd (bd (by omega) (by omega)).mono (bd (by omega) (by omega)).mono, ?_⟩
    walk_at "ew"
    refine ⟨_, fdivT_bd (by omega) (bd (by omega) (by omega)).mono, ?_⟩
    walk_at "norm"
    have k1 := mul_bd4 l00 l02 (show 0 ≤ B by omega) (show B ≤ 4000 by omega)
    have k2 := mul_bd4 m00 m02 (show 0 ≤ B by omega) (show B ≤ 4000 by omega)
    have nb : 0 ≤ l0 * B / l1 ∧ l0 * B / l1 ≤ 4000000 := by
      refine ⟨Int.ediv_nonneg k1.1 (by omega), ?_⟩
      exact Int.le_trans (Int.ediv_le_self _ k1.1) (by omega)
    generalize hN : l0 * B / l1 = N at *
    refine WS_for (fun ts j r => (∀ j' : Nat, j' < j → j' < 2 → ¬ inS s l0 l1 m0 m1 (N + (j' : Int)) B) ∧ ts = [.int N, .int (N + 1)] ∧ ∃ c d e, r = [some (fr l0 l1), some (fr m0 m1), some (.bl st), some (.int B), some (.int N), c, d, e]) ?_
    walk_at "ew"
    refine ⟨_, .inr rfl, ⟨(fun j' h => by omega), rfl, _, _, _, rfl⟩, fun j u r hu hr => ?_, fun r hr => ?_⟩
    · obtain ⟨hj, -, c, d, e, rfl⟩ := hr
      have hj2 : j < 2 := (List.getElem?_eq_some_iff.mp hu).1
      have eu : u = .int (N + (j : Int)) := by
        rcases (show j = 0 ∨ j = 1 by omega) with rfl | rfl
        · have e : some (T.int N) = some u := hu
          cases e
          show T.int N = T.int (N + 0)
          rw [Int.add_zero]
        · have e : some (T.int (N + 1)) = some u := hu
          cases e
          rfl
      subst eu
      generalize hone : N + (j : Int) = one at *
      have o1 : 0 ≤ one ∧ one ≤ 4000001 := by omega
      have k3 := mul_bd4 o1.1 o1.2 (show 0 ≤ l1 by omega) l12
      refine ⟨_, rfl, ?_⟩
      walk_at "norm"
      walk_at "ew"
      refine ⟨_, mulT_bd (bd (by omega) (by omega)).mono (bd (by omega) (by omega)).mono, ?_⟩
      walk_at "ew"
      refine ⟨_, mulT_bd (bd (by omega) (by omega)).mono (bd (by omega) (by omega)).mono, ?_⟩
      walk_at "ew"
      walk_at "norm"
      walk_at "ew"
      refine ⟨_, mulT_bd (bd (by omega) (by omega)).mono (bd (by omega) (by omega)).mono, ?_⟩
      walk_at "ew"
      refine ⟨_, mulT_bd (bd (by omega) (by omega)).mono (bd (by omega) (by omega)).mono, ?_⟩
      walk_at "ew"
      walk_at "norm"
      walk_at "ew"
      have hno : ¬ inS s l0 l1 m0 m1 one B → (∀ j' : Nat, j' < j + 1 → j' < 2 → ¬ inS s l0 l1 m0 m1 (N + (j' : Int)) B) := fun hn j' h1 h2 => by
        by_cases z : j' = j
        · subst z; rw [hone]; exact hn
        · exact hj j' (by omega) h2
      refine ⟨_, si, ?_⟩
      walk_at "ew"
      refine ⟨fun z => ?_, fun z => ?_⟩
      · have z := of_decide_eq_true z
        walk_at "ew"
        refine ⟨_, si, ?_⟩
        walk_at "ew"
        refine ⟨fun z2 => ?_, fun z2 => ?_⟩
        · have z2 := of_decide_eq_true z2
          have hin : inS s l0 l1 m0 m1 one B := ⟨by omega, by omega⟩
          obtain ⟨q1, q2⟩ := h.min one B B1 hin
          have eB : B = y := by omega
          subst eB
          have q2 := q2 rfl
          have ex : one = x := by
            rcases hx with e | e
            · rw [hN] at e
              rcases (show j = 0 ∨ j = 1 by omega) with rfl | rfl
              · omega
              · exfalso
                refine hj 0 (by decide) (by decide) ?_
                have hm := h.mem
                rw [e] at hm
                simpa using hm
            · rw [hN] at e
              omega
          rw [ex]
          walk_at "ew"
          refine lowL_ok (by omega) (bd (by omega) (by omega)).mono ?_
          rw [lowF_cop hcop]
          exact q
        · have z2 := of_decide_eq_false z2
          walk_at "ew"
          exact ⟨hno (fun hi => z2 (by have := hi.2; omega)), trivial, _, _, _, rfl⟩
      · have z := of_decide_eq_false z
        walk_at "ew"
        exact ⟨hno (fun hi => z (by have := hi.1; omega)), trivial, _, _, _, rfl⟩
    · obtain ⟨hj, -, c, d, e, rfl⟩ := hr
      refine ⟨?_, trivial, _, _, _, _, _, rfl⟩
      by_cases z : B = y
      · exfalso
        subst z
        rcases hx with e | e
        · rw [hN] at e
          exact hj 0 (by simp) (by decide) (by have := h.mem; rw [e] at this; simpa using this)
        · rw [hN] at e
          exact hj 1 (by simp) (by decide) (by have := h.mem; rw [e] at this; exact this)
      · omega
  · obtain ⟨hi, -, a, b, c, d, e, rfl⟩ := hr
    rw [rangeT_len] at hi
    exfalso
    omega
/-- what lies between exists -/
theorem part_ok {N : Int} {us : List T} (hg : GenOk N us) (hN : N ≤ 90000000) (q : ∀ a b us', Sm a b → b ≤ 60 → GenOk (N + 50) us' → χ (fr a b) [.lst us']) : WR (m_law_part [.lst us, .int 60]) χ ζ := by
  have low : ∀ (a b : Int) (us' : List T), 0 ≤ a → a ≤ 1000 → 1 ≤ b → b ≤ 60 → GenOk (N + 50) us' → χ (lowF a b) [.lst us'] := fun a b us' h1 h2 h3 h4 g => by
    have e1 := lO_natAbs a b
    have e2 := (lO_nonneg (a := a) (b := b) (by omega)).mpr h1
    have e3 := lU_pos (a := a) (b := b) (by omega)
    have e4 := lU_le (a := a) (b := b) (by omega)
    exact q _ _ us' ⟨by omega, by omega, e2, by omega, low_cop (by omega)⟩ (by omega) g
  refine WR_fnG ?_
  walk_at "norm"
  walk_at "ew"
  refine ⟨_, rfl, random_ok hg (by omega) (by decide) (by decide) fun way us1 g1 w0 w1 => ⟨_, rfl, ?_⟩⟩
  walk_at "norm"
  walk_at "ew"
  refine ⟨fun _ => ?_, fun _ => ?_⟩
  · walk_at "ew"
    refine ⟨_, rfl, random_ok g1 (by omega) (by decide) (by decide) fun a us2 g2 a0 a1 => ⟨_, rfl, ?_⟩⟩
    walk_at "ew"
    refine ⟨_, rfl, random_ok g2 (by omega) (by decide) (by decide) fun b us3 g3 b0 b1 => ⟨_, rfl, ?_⟩⟩
    walk_at "ew"
    refine lowL_ok (by omega) (bd (by omega) (by omega)).mono ?_
    exact ⟨_, rfl, low _ _ us3 a0 (by omega) (by omega) (by omega) (g3.mono (by omega))⟩
  · walk_at "ew"
    refine ⟨_, rfl, pick_ok g1 (by omega) (by show 1 ≤ 3; decide) (by show 3 ≤ LIM; decide) fun u us2 g2 hu => ⟨_, rfl, ?_⟩⟩
    obtain ⟨m, rfl, m1, m2⟩ : ∃ m : Int, u = .int m ∧ 1 ≤ m ∧ m ≤ 60 := by
      simp only [List.mem_cons, List.not_mem_nil, or_false] at hu
      rcases hu with rfl | rfl | rfl <;> exact ⟨_, rfl, by decide, by decide⟩
    walk_at "ew"
    refine ⟨_, rfl, random_ok g2 (by omega) (by omega) (by omega) fun b us3 g3 b0 b1 => ⟨_, rfl, ?_⟩⟩
    walk_at "ew"
    obtain ⟨bot, hb⟩ : ∃ n : Int, 1 + b = n := ⟨_, rfl⟩
    rw [hb]
    walk_at "nw"
    walk_at "ew"
    refine ⟨_, mulT_bd (bd (by omega) (by omega)).mono (bd (by omega) (by omega)).mono, ?_⟩
    walk_at "ew"
    refine ⟨_, rfl, pick_ok g3 (by omega) (by show 1 ≤ 2; decide) (by show 2 ≤ LIM; decide) fun u us4 g4 hu => ⟨_, rfl, ?_⟩⟩
    obtain ⟨k, rfl, k1, k2⟩ : ∃ m : Int, u = .int m ∧ 1 ≤ m ∧ m ≤ 180 := by
      simp only [List.mem_cons, List.not_mem_nil, or_false] at hu
      rcases hu with rfl | rfl <;> exact ⟨_, rfl, by omega, by omega⟩
    walk_at "ew"
    refine ⟨_, rfl, random_ok g4 (by omega) (by omega) (by omega) fun a us5 g5 a0 a1 => ⟨_, rfl, ?_⟩⟩
    walk_at "ew"
    refine lowL_ok (by omega) (bd (by omega) (by omega)).mono ?_
    exact ⟨_, rfl, low _ _ us5 a0 (by omega) (by omega) (by omega) (g5.mono (by omega))⟩
/-- calls of the program -/
structure Big (a b : Int) : Prop where
  b1 : 1 ≤ b
  a0 : 0 ≤ a
  g : Int.gcd a b = 1
  ba : Bd 200 a
  bb : Bd 200 b
theorem Sm.big {a b : Int} (h : Sm a b) : Big a b := ⟨h.b1, h.a0, h.g, bd (by have := h.a0; omega) (by have := h.a2; omega), bd (by have := h.b1; omega) (by have := h.b2; omega)⟩
theorem from_ok (hl : Big l0 l1) (hm : Big m0 m1) (hle : l0 * m1 ≤ m0 * l1) (q : ∀ x y, Simp (inC l0 l1 m0 m1) x y → χ (fr x y) []) : WR (m_simplest_from [fr l0 l1, fr m0 m1]) χ ζ := by
  have a1 := hl.b1
  have a2 := hm.b1
  refine WR_fn ?_
  walk_at "norm"
  walk_at "ew"
  refine cpartok (by omega) hl.a0 hl.g ?_
  walk_at "ew"
  refine cpartok (by omega) hm.a0 hm.g ?_
  walk_at "ew"
  refine lessok hm.ba.mono hm.bb.mono hl.ba.mono hl.bb.mono ?_
  rw [decide_eq_false (by omega)]
  walk_at "ew"
  exact fromok (by omega) (by omega) hle hl.ba hl.bb hm.ba hm.bb q
theorem inside_ok (hl : Big l0 l1) (hm : Big m0 m1) (hle : l0 * m1 < m0 * l1) (q : ∀ x y, Simp (inO l0 l1 m0 m1) x y → χ (fr x y) []) : WR (m_simplest_inside [fr l0 l1, fr m0 m1]) χ ζ := by
  have a1 := hl.b1
  have a2 := hm.b1
  refine WR_fn ?_
  walk_at "norm"
  walk_at "ew"
  refine cpartok (by omega) hl.a0 hl.g ?_
  walk_at "ew"
  refine cpartok (by omega) hm.a0 hm.g ?_
  walk_at "ew"
  refine lessok hl.ba.mono hl.bb.mono hm.ba.mono hm.bb.mono ?_
  rw [decide_eq_true (by omega)]
  walk_at "ew"
  exact insideok (by omega) (.inl (by omega)) hle hl.ba hl.bb hm.ba hm.bb q
theorem from_ex (hl : Big l0 l1) (hm : Big m0 m1) (hle : m0 * l1 < l0 * m1) (q : ζ "InvalidFraction" (fr m0 m1)) : WR (m_simplest_from [fr l0 l1, fr m0 m1]) χ ζ := by
  have a1 := hl.b1
  have a2 := hm.b1
  refine WR_fn ?_
  walk_at "norm"
  walk_at "ew"
  refine cpartok (by omega) hl.a0 hl.g ?_
  walk_at "ew"
  refine cpartok (by omega) hm.a0 hm.g ?_
  walk_at "ew"
  refine lessok hm.ba.mono hm.bb.mono hl.ba.mono hl.bb.mono ?_
  rw [decide_eq_true (by omega)]
  walk_at "ew"
  exact q
theorem inside_ex (hl : Big l0 l1) (hm : Big m0 m1) (hle : m0 * l1 ≤ l0 * m1) (q : ζ "InvalidFraction" (fr m0 m1)) : WR (m_simplest_inside [fr l0 l1, fr m0 m1]) χ ζ := by
  have a1 := hl.b1
  have a2 := hm.b1
  refine WR_fn ?_
  walk_at "norm"
  walk_at "ew"
  refine cpartok (by omega) hl.a0 hl.g ?_
  walk_at "ew"
  refine cpartok (by omega) hm.a0 hm.g ?_
  walk_at "ew"
  refine lessok hl.ba.mono hl.bb.mono hm.ba.mono hm.bb.mono ?_
  rw [decide_eq_false (by omega)]
  walk_at "ew"
  exact q
end
end G
namespace G
open PySem L2 Tc
local macro_rules | `(tactic| walk_at "ew") => `(tactic| (repeat' (first | with_reducible (first | refine WS_seq ?_ | refine WS_set ?_ | refine WS_ret ?_ | refine WS_if ?_ | refine WS_drop ?_ | refine WS_nx ?_ | refine WS_raise ?_ | refine WE_bin ?_ | refine WE_cons ?_ | refine WE_nil ?_ | refine WE_k ?_ | refine WE_app ?_ | refine WE_un ?_ | refine WE_B ?_ | refine WE_notC ?_ | refine WE_call ?_ | refine WE_callK ?_ | refine WE_callGT ?_ | refine WE_lst ?_ | refine WE_tup ?_ | refine WE_chain ?_ | refine WE_chain3 ?_ | refine WE_andV ?_ | refine WE_orV ?_ | refine WE_notV ?_ | refine WE_andC ?_ | refine WE_orC ?_ | refine WE_if ?_ | refine WS_par2 ?_ | refine WS_par3 ?_ | refine WE_rg1 ?_ | refine WE_rg2 ?_ | refine WE_items ?_ | refine WE_enum ?_ | refine WE_zip ?_ | refine WE_revd ?_ | refine WE_callG ?_ | refine WS_put ?_ | refine WS_app ?_ | refine WE_pix ?_ | refine WE_sl ?_ | refine WE_p0 ?_ | refine WE_p1 ?_ | refine WE_true ?_ | refine WE_bor ?_ | refine WE_borC ?_ | refine WE_mt ?_ | refine WS_asg ?_ | refine WS_par4 ?_) | ((with_reducible apply WE_var); (case h => exact rfl)) | ((with_reducible refine And.intro ?_ ?_); (with_reducible first | exact ff1 | exact ff2 | exact ff3 | exact ff4 | exact ff5 | fail); (intro _)) | ((with_reducible refine And.intro ?_ ?_); rotate_left; (with_reducible first | exact tt1 | exact tt2 | exact tt3 | exact tt4 | exact tt5 | fail); (intro _)) | ((with_reducible apply Exists.intro); (with_reducible apply And.intro); first | ((with_reducible (first | show addT (.int _) (.int _) = some _ | show subT (.int _) (.int _) = some _ | show negT (.int _) = some _ | show ltT (.int _) (.int _) = some _ | show leT (.int _) (.int _) = some _ | show gtT (.int _) (.int _) = some _ | show geT (.int _) (.int _) = some _ | show intT [.int _] = some _ | show max2T [.int _, .int _] = some _ | show min2T [.int _, .int _] = some _ | show absT [.int _] = some _ | show eqT (.int _) (.int _) = some _ | show neT (.int _) (.int _) = some _ | show gcdT [.int _, .int _] = some _ | show subBT (.bl _) (.bl _) = some _ | show gTupT _ _ _ = some _ | show ixT (.tup (_ :: _)) (.int _) = some _ | show ixT (.lst (_ :: _)) (.int _) = some _ | show T.bl _ = T.bl _ | show T.int _ = T.int _)); exact rfl) | ((with_reducible (first | show isiT _ _ = some _ | show isT _ _ = some _ | show isNT _ _ = some _ | show isisT _ _ = some _)); first | exact (rfl : _ = some (T.bl true)) | exact (rfl : _ = some (T.bl false)) | exact rfl) | fail) | ((with_reducible refine limA ?_ ?_); (first | exact rfl | fail)) | fail)))
local macro_rules | `(tactic| walk_at "norm") => `(tactic| (try simp only [List.map_cons, List.map_nil, List.cons_append, List.nil_append, List.length_cons, List.length_nil, Nat.zero_add, Nat.reduceAdd, Nat.reduceSub, Nat.sub_self, List.replicate_zero, List.replicate_succ, List.append_nil, List.set_cons_zero, List.set_cons_succ]))
/-! ### the way -/
structure Ps (k : Nat) (f0 f1 s0 s1 : Int) : Prop where
  det : s0 * f1 - f0 * s1 = 1
  f0p : 0 ≤ f0
  f1p : 1 ≤ f1
  s0p : 1 ≤ s0
  s1p : 0 ≤ s1
  b : Bd k f0 ∧ Bd k f1 ∧ Bd k s0 ∧ Bd k s1
section
variable {χ : T → List T → Prop} {ζ : Str → T → Prop} {f0 f1 s0 s1 : Int}
theorem pairs_ok {w : List Int} (hw : w.length ≤ 60) (q : ∀ f0 f1 s0 s1, Ps 61 f0 f1 s0 s1 → χ (.tup [fr f0 f1, fr s0 s1]) []) : WR (m_law_pairs [rowT w]) χ ζ := by
  refine WR_fn ?_
  walk_at "norm"
  walk_at "ew"
  walk_at "norm"
  refine WS_for (fun ts i r => ts = w.map T.int ∧ ∃ f0 f1 s0 s1 : Int, Ps (1 + i) f0 f1 s0 s1 ∧ ∃ x y, r = [some (rowT w), x, some (fr f0 f1), some (fr s0 s1), y]) ?_
  walk_at "ew"
  refine ⟨_, .inl rfl, ⟨rfl, 0, 1, 1, 0, ⟨by decide, by decide, by decide, by decide, by decide, by refine ⟨?_, ?_, ?_, ?_⟩ <;> (show Int.natAbs _ < 2 ^ 1; decide)⟩, none, none, rfl⟩, fun i t r ht hr => ?_, fun r hr => ?_⟩
  · obtain ⟨-, f0, f1, s0, s1, h, x, y, rfl⟩ := hr
    obtain ⟨hi, rfl⟩ := map_get ht
    have hd := h.det
    have h1 := h.f0p
    have h2 := h.f1p
    have h3 := h.s0p
    have h4 := h.s1p
    obtain ⟨b1, b2, b3, b4⟩ := h.b
    have eA : 1 + i + 1 = 1 + (i + 1) := by omega
    have c1 : Bd (1 + (i + 1)) (f0 + s0) := by have := b1.add b3; rwa [eA] at this
    have c2 : Bd (1 + (i + 1)) (f1 + s1) := by have := b2.add b4; rwa [eA] at this
    have e1 := Int.mul_add s0 f1 s1
    have e2 := Int.add_mul f0 s0 s1
    have e3 := Int.add_mul f0 s0 f1
    have e4 := Int.mul_add f0 f1 s1
    have ha : Ps (1 + (i + 1)) (f0 + s0) (f1 + s1) s0 s1 := ⟨by omega, by omega, by omega, h3, h4, c1, c2, b3.mono (by omega), b4.mono (by omega)⟩
    have hb : Ps (1 + (i + 1)) f0 f1 (f0 + s0) (f1 + s1) := ⟨by omega, h1, h2, by omega, by omega, b1.mono (by omega), b2.mono (by omega), c1, c2⟩
    refine ⟨_, rfl, ?_⟩
    walk_at "norm"
    walk_at "ew"
    walk_at "norm"
    walk_at "ew"
    refine ⟨fun z => ?_, fun z => ?_⟩
    · walk_at "ew"
      exact ⟨trivial, _, _, _, _, ha, _, _, rfl⟩
    · walk_at "ew"
      exact ⟨trivial, _, _, _, _, hb, _, _, rfl⟩
  · obtain ⟨-, f0, f1, s0, s1, h, x, y, rfl⟩ := hr
    rw [List.length_map] at h
    walk_at "ew"
    exact q _ _ _ _ ⟨h.det, h.f0p, h.f1p, h.s0p, h.s1p, h.b.1.mono (by omega), h.b.2.1.mono (by omega), h.b.2.2.1.mono (by omega), h.b.2.2.2.mono (by omega)⟩
/-- between two neighbours nothing is simpler than their mediant -/
theorem med_min (h : Ps 61 f0 f1 s0 s1) {x y : Int} (h1 : f0 * y < x * f1) (h2 : x * s1 < s0 * y) : f1 + s1 ≤ y ∧ f0 + s0 ≤ x := by
  have hd := h.det
  have p1 := h.f0p
  have p2 := h.f1p
  have p3 := h.s0p
  have p4 := h.s1p
  obtain ⟨a, ha⟩ : ∃ a, s0 * y - x * s1 = a := ⟨_, rfl⟩
  obtain ⟨b, hb⟩ : ∃ b, x * f1 - f0 * y = b := ⟨_, rfl⟩
  have ey : y = a * f1 + b * s1 := by rw [← ha, ← hb]; grind
  have ex : x = a * f0 + b * s0 := by rw [← ha, ← hb]; grind
  have a1 : 1 ≤ a := by omega
  have b1 : 1 ≤ b := by omega
  have k1 := Int.mul_le_mul_of_nonneg_right a1 (show 0 ≤ f1 by omega)
  have k2 := Int.mul_le_mul_of_nonneg_right b1 p4
  have k3 := Int.mul_le_mul_of_nonneg_right a1 p1
  have k4 := Int.mul_le_mul_of_nonneg_right b1 (show 0 ≤ s0 by omega)
  omega
theorem lt_left {p q l0 l1 x y : Int} (h : p * l1 < l0 * q) (hl : l0 * y ≤ x * l1) (hy : 0 < y) (hl1 : 0 < l1) (hq : 0 ≤ q) : p * y < x * q := by
  have k1 := Int.mul_lt_mul_of_pos_right h hy
  have k2 := Int.mul_le_mul_of_nonneg_right hl hq
  refine Int.lt_of_mul_lt_mul_right (a := l1) ?_ (by omega)
  have e1 : p * y * l1 = p * l1 * y := by grind
  have e2 : x * q * l1 = x * l1 * q := by grind
  have e3 : l0 * q * y = l0 * y * q := by grind
  omega
theorem lt_right {p q m0 m1 x y : Int} (h : m0 * q < p * m1) (hm : x * m1 ≤ m0 * y) (hy : 0 < y) (hm1 : 0 < m1) (hq : 0 ≤ q) : x * q < p * y := by
  have k1 := Int.mul_lt_mul_of_pos_right h hy
  have k2 := Int.mul_le_mul_of_nonneg_right hm hq
  refine Int.lt_of_mul_lt_mul_right (a := m1) ?_ (by omega)
  have e1 : x * q * m1 = x * m1 * q := by grind
  have e2 : p * y * m1 = p * m1 * y := by grind
  have e3 : m0 * y * q = m0 * q * y := by grind
  omega
theorem simp_med (h : Ps 61 f0 f1 s0 s1) {R : Int → Int → Prop} {l0 l1 m0 m1 : Int} (hR : ∀ x y, R x y → l0 * y ≤ x * l1 ∧ x * m1 ≤ m0 * y) (hl : 0 < l1) (hm : 0 < m1) (h1 : f0 * l1 < l0 * f1) (h2 : m0 * s1 < s0 * m1) (hmem : R (f0 + s0) (f1 + s1)) : Simp R (f0 + s0) (f1 + s1) := by
  have p2 := h.f1p
  have p4 := h.s1p
  refine ⟨by omega, hmem, fun x y hy hx => ?_⟩
  obtain ⟨a, b⟩ := hR x y hx
  obtain ⟨c, d⟩ := med_min h (lt_left h1 a (by omega) hl (by omega)) (lt_right h2 b (by omega) hm p4)
  exact ⟨c, fun _ => d⟩
theorem gcd_det {a b c d : Int} (h : a * d - c * b = 1) : Int.gcd a b = 1 := by
  have d1 : (Int.gcd a b : Int) ∣ 1 := by
    rw [← h]
    exact Int.dvd_sub (Int.dvd_mul_of_dvd_left (Int.gcd_dvd_left a b)) (Int.dvd_mul_of_dvd_right (Int.gcd_dvd_right a b))
  have := Int.le_of_dvd (by decide) d1
  have h0 : Int.gcd a b ≠ 0 := fun z => by
    obtain ⟨z1, z2⟩ := Int.gcd_eq_zero_iff.mp z
    rw [z1, z2] at h
    omega
  omega
theorem simp_exC {l0 l1 m0 m1 : Int} (hl : 0 < l1) (hm : 0 < m1) (hlt : l0 * m1 ≤ m0 * l1) (b0 : Bd 200 l0) (b1 : Bd 200 l1) (b2 : Bd 200 m0) (b3 : Bd 200 m1) : ∃ x y, Simp (inC l0 l1 m0 m1) x y := by
  have h := fromok (χ := fun _ _ => ∃ x y, Simp (inC l0 l1 m0 m1) x y) (ζ := noR) hl hm hlt b0 b1 b2 b3 fun x y h => ⟨x, y, h⟩
  cases e : cm_found_from [fr l0 l1, fr m0 m1] with
  | ok t g => rw [e] at h; exact h.go
  | ex c w => rw [e] at h; exact h.go.elim
  | no => rw [e] at h; exact h.go.elim
theorem simp_exO {l0 l1 m0 m1 : Int} (hl : 0 < l1) (hm : 0 < m1) (hlt : l0 * m1 < m0 * l1) (b0 : Bd 200 l0) (b1 : Bd 200 l1) (b2 : Bd 200 m0) (b3 : Bd 200 m1) : ∃ x y, Simp (inO l0 l1 m0 m1) x y := by
  have h := insideok (χ := fun _ _ => ∃ x y, Simp (inO l0 l1 m0 m1) x y) (ζ := noR) hl (.inl hm) hlt b0 b1 b2 b3 fun x y h => ⟨x, y, h⟩
  cases e : cm_found_inside [fr l0 l1, fr m0 m1] with
  | ok t g => rw [e] at h; exact h.go
  | ex c w => rw [e] at h; exact h.go.elim
  | no => rw [e] at h; exact h.go.elim
/-! ### what is refused -/
def badP : List T := [.non, .int 7, .tup [], .lst [], .tup [.int 1], .lst [.int 1, .int 2], .tup [.int 1, .int 2, .int 3], .tup [.int 2, .int 4], .tup [.int 1, .int 0], .tup [.int 1, .int (-2)], .tup [.int (-1), .int 2], .tup [.bl true, .int 2], .tup [.int 1, .bl true], .tup [.str "1", .int 2], .tup [.int 1, .non], .str "1/2", .emp]
theorem ref_P : ∀ b ∈ badP, RefB mA [(L2, [4]), (L3, [4]), (L4, [4]), (L5, [4])] "InvalidFraction" b := by
  unfold badP
  repeat' (first | refine fa_cons ⟨by kernel_rfl, by kernel_rfl, (fa_cons (show mA L2 [_] = _ by rw [mA_2]; kernel_rfl) (fa_cons (show mA L3 [_] = _ by rw [mA_3]; kernel_rfl) (fa_cons (show mA L4 [_] = _ by rw [mA_4]; kernel_rfl) (fa_cons (show mA L5 [_] = _ by rw [mA_5]; kernel_rfl) fa_nil))))⟩ ?_ | exact fa_nil)
theorem n_frac : (("InvalidFraction" : String) : Str) ∈ errs := by simp [errs]
theorem ref_from {l0 l1 m0 m1 : Int} (hl : Big l0 l1) (hm : Big m0 m1) (hlt : l0 * m1 < m0 * l1) : mA L0 [fr m0 m1, fr l0 l1] = .ex "InvalidFraction" (fr l0 l1) := by
  rw [mA_0]
  refine WR.ex_eq (WR_out ?_)
  walk_at "norm"
  walk_at "ew"
  exact from_ex hm hl hlt ⟨rfl, rfl⟩
theorem ref_inside {l0 l1 m0 m1 : Int} (hl : Big l0 l1) (hm : Big m0 m1) (hlt : l0 * m1 ≤ m0 * l1) : mA L1 [fr m0 m1, fr l0 l1] = .ex "InvalidFraction" (fr l0 l1) := by
  rw [mA_1]
  refine WR.ex_eq (WR_out ?_)
  walk_at "norm"
  walk_at "ew"
  exact inside_ex hm hl hlt ⟨rfl, rfl⟩
theorem rep_fr {a b : Int} (h : Sm a b) : RepOk (fr a b) := by
  refine rep_num (nu_fr (nu_int (by have := h.a0; omega) (by have := h.a2; omega)) (nu_int (by have := h.b1; omega) (by have := h.b2; omega))) rfl ?_
  show 3 + (13 + 2 + (13 + 2 + 0)) ≤ LIM
  decide
end
end G
namespace G
open PySem L2 Tc
local macro_rules | `(tactic| walk_at "nw") => `(tactic| (try simp only [List.set_cons_zero, List.set_cons_succ]))
local macro_rules | `(tactic| walk_at "ew") => `(tactic| (repeat' (first | with_reducible (first | refine WS_seq ?_ | refine WS_set ?_ | refine WS_ret ?_ | refine WS_if ?_ | refine WS_drop ?_ | refine WS_nx ?_ | refine WS_raise ?_ | refine WE_bin ?_ | refine WE_cons ?_ | refine WE_nil ?_ | refine WE_k ?_ | refine WE_app ?_ | refine WE_un ?_ | refine WE_B ?_ | refine WE_notC ?_ | refine WE_call ?_ | refine WE_callK ?_ | refine WE_callGT ?_ | refine WE_lst ?_ | refine WE_tup ?_ | refine WE_chain ?_ | refine WE_chain3 ?_ | refine WE_andV ?_ | refine WE_orV ?_ | refine WE_notV ?_ | refine WE_andC ?_ | refine WE_orC ?_ | refine WE_if ?_ | refine WS_par2 ?_ | refine WS_par3 ?_ | refine WE_rg1 ?_ | refine WE_rg2 ?_ | refine WE_items ?_ | refine WE_enum ?_ | refine WE_zip ?_ | refine WE_revd ?_ | refine WE_callG ?_ | refine WS_put ?_ | refine WS_app ?_ | refine WE_pix ?_ | refine WE_sl ?_ | refine WE_p0 ?_ | refine WE_p1 ?_ | refine WE_true ?_ | refine WE_bor ?_ | refine WE_borC ?_ | refine WE_mt ?_ | refine WS_asg ?_ | refine WS_par4 ?_) | ((with_reducible apply WE_var); (case h => exact rfl)) | ((with_reducible refine And.intro ?_ ?_); (with_reducible first | exact ff1 | exact ff2 | exact ff3 | exact ff4 | exact ff5 | fail); (intro _)) | ((with_reducible refine And.intro ?_ ?_); rotate_left; (with_reducible first | exact tt1 | exact tt2 | exact tt3 | exact tt4 | exact tt5 | fail); (intro _)) | ((with_reducible apply Exists.intro); (with_reducible apply And.intro); first | ((with_reducible (first | show addT (.int _) (.int _) = some _ | show subT (.int _) (.int _) = some _ | show negT (.int _) = some _ | show ltT (.int _) (.int _) = some _ | show leT (.int _) (.int _) = some _ | show gtT (.int _) (.int _) = some _ | show geT (.int _) (.int _) = some _ | show intT [.int _] = some _ | show max2T [.int _, .int _] = some _ | show min2T [.int _, .int _] = some _ | show absT [.int _] = some _ | show eqT (.int _) (.int _) = some _ | show neT (.int _) (.int _) = some _ | show gcdT [.int _, .int _] = some _ | show subBT (.bl _) (.bl _) = some _ | show gTupT _ _ _ = some _ | show ixT (.tup (_ :: _)) (.int _) = some _ | show ixT (.lst (_ :: _)) (.int _) = some _ | show T.bl _ = T.bl _ | show T.int _ = T.int _)); exact rfl) | ((with_reducible (first | show isiT _ _ = some _ | show isT _ _ = some _ | show isNT _ _ = some _ | show isisT _ _ = some _)); first | exact (rfl : _ = some (T.bl true)) | exact (rfl : _ = some (T.bl false)) | exact rfl) | fail) | ((with_reducible refine limA ?_ ?_); (first | exact rfl | fail)) | fail)))
local macro_rules | `(tactic| walk_at "norm") => `(tactic| (try simp only [List.map_cons, List.map_nil, List.cons_append, List.nil_append, List.length_cons, List.length_nil, Nat.zero_add, Nat.reduceAdd, Nat.reduceSub, Nat.sub_self, List.replicate_zero, List.replicate_succ, List.append_nil, List.set_cons_zero, List.set_cons_succ]))
theorem law_true (ns : List Int) (hl : ns.length ≤ 63) : m_law [.lst (ns.map T.int)] = .ok (.bl true) [] := by
  refine WR.eq (WR_fn ?_)
  walk_at "norm"
  walk_at "ew"
  refine generator_ok (by decide) (by decide) hl fun us1 g1 => ?_
  walk_at "ew"
  refine generator_ok (by decide) (by decide) hl fun vs1 e1 => ?_
  walk_at "ew"
  refine ⟨_, _, rfl, ?_⟩
  walk_at "nw"
  walk_at "ew"
  refine WS_for (fun ts i s => ts = rangeT 0 4 ∧ ∃ us x1 x7 x12 x13 x14 x15, GenOk (100000 + 100 * (i : Int)) us ∧ s = [some (.lst (ns.map T.int)), x1, none, none, none, some (.lst us), some (.lst vs1), x7, none, none, none, none, x12, x13, x14, x15, none]) ?_
  walk_at "ew"
  refine ⟨_, rfl, by decide, ⟨rfl, us1, none, none, none, none, none, none, g1.mono (by omega), rfl⟩, fun i t s ht hs => ?_, fun s hs => ?_⟩
  · obtain ⟨-, us, x1, x7, x12, x13, x14, x15, g, rfl⟩ := hs
    obtain ⟨rfl, hi⟩ := range0_get ht
    refine ⟨_, rfl, ?_⟩
    walk_at "nw"
    walk_at "ew"
    refine ⟨_, rfl, part_ok g (by omega) fun a1 b1 us2 s1 sb1 g2 => ⟨_, rfl, ?_⟩⟩
    walk_at "ew"
    refine ⟨_, rfl, part_ok g2 (by omega) fun a2 b2 us3 s2 sb2 g3 => ⟨_, rfl, ?_⟩⟩
    walk_at "ew"
    refine ⟨_, _, rfl, ?_⟩
    walk_at "nw"
    refine WS_seq ?_
    refine WS_asg ?_
    refine WE.imp (ψ := fun t r1 => ∃ l0 l1 m0 m1 : Int, t = .tup [fr l0 l1, fr m0 m1] ∧ Sm l0 l1 ∧ Sm m0 m1 ∧ l1 ≤ 60 ∧ m1 ≤ 60 ∧ l0 * m1 ≤ m0 * l1 ∧ r1 = [some (.lst (ns.map T.int)), some (.int i), none, none, none, some (.lst us3), some (.lst vs1), x7, none, none, none, none, some (fr a1 b1), some (fr a2 b2), x14, x15, none]) ?_ fun t r1 h => ?_
    · walk_at "ew"
      refine lessL s2.big.ba.mono s2.big.bb.mono s1.big.ba.mono s1.big.bb.mono ?_
      walk_at "ew"
      refine ⟨fun z => ?_, fun z => ?_⟩
      · have z := of_decide_eq_true z
        walk_at "ew"
        exact ⟨a2, b2, a1, b1, rfl, s2, s1, sb2, sb1, by omega, rfl⟩
      · have z := of_decide_eq_false z
        walk_at "ew"
        exact ⟨a1, b1, a2, b2, rfl, s1, s2, sb1, sb2, by omega, rfl⟩
    · obtain ⟨l0, l1, m0, m1, rfl, sl, sm, l60, m60, hle, rfl⟩ := h
      refine ⟨_, rfl, ?_⟩
      walk_at "nw"
      have bl := sl.big
      have bm := sm.big
      have l11 := sl.b1
      have m11 := sm.b1
      obtain ⟨x, y, hs⟩ := simp_exC (by omega) (by omega) hle bl.ba bl.bb bm.ba bm.bb
      have hy : y < 4000 := by
        have := (hs.min l0 l1 (by omega) ⟨Int.le_refl _, hle⟩).1
        omega
      walk_at "ew"
      refine simpL_ok (s := 0) rfl sl sm (by rw [inS0]; exact hs) hy ?_
      walk_at "nw"
      walk_at "ew"
      refine from_ok bl bm hle fun x' y' hs' => ?_
      obtain ⟨e1, e2⟩ := hs'.one hs
      subst e1 e2
      walk_at "ew"
      refine from_ok bl bm hle fun x2 y2 hs2 => ?_
      obtain ⟨e1, e2⟩ := hs2.one hs
      subst e1 e2
      walk_at "ew"
      refine sameok (by rfl) ?_
      walk_at "ew"
      refine lessL bl.ba.mono bl.bb.mono bm.ba.mono bm.bb.mono ?_
      walk_at "ew"
      have hrep := rep_fr sl
      have hp : plTs [fr m0 m1, fr l0 l1] = true := rfl
      refine ⟨fun z => ?_, fun z => ?_⟩
      · have z := of_decide_eq_true z
        obtain ⟨u, v, ho⟩ := simp_exO (by omega) (by omega) z bl.ba bl.bb bm.ba bm.bb
        have hv : v < 4000 := by
          have := (ho.min (l0 + m0) (l1 + m1) (by omega) ⟨by rw [Int.mul_add, Int.add_mul]; have := Int.mul_comm l0 l1; omega, by rw [Int.add_mul, Int.mul_add]; have := Int.mul_comm m0 m1; omega⟩).1
          omega
        walk_at "ew"
        refine simpL_ok (s := 1) rfl sl sm (by rw [inS1]; exact ho) hv ?_
        walk_at "nw"
        walk_at "ew"
        refine inside_ok bl bm z fun x' y' hs' => ?_
        obtain ⟨e1, e2⟩ := hs'.one ho
        subst e1 e2
        walk_at "ew"
        refine inside_ok bl bm z fun x2 y2 hs2 => ?_
        obtain ⟨e1, e2⟩ := hs2.one ho
        subst e1 e2
        walk_at "ew"
        refine sameok (by rfl) ?_
        walk_at "ew"
        refine WE_callL ?_
        walk_at "ew"
        refine ⟨[fr m0 m1, fr l0 l1], rfl, ?_⟩
        refine refused_ok w_fraction (ref_from bl bm z) n_frac hp hrep ⟨rfl, ?_⟩
        walk_at "ew"
        refine WE_callL ?_
        walk_at "ew"
        refine ⟨[fr m0 m1, fr l0 l1], rfl, ?_⟩
        refine refused_ok w_fraction (ref_inside bl bm hle) n_frac hp hrep ⟨rfl, ?_⟩
        walk_at "ew"
        exact ⟨trivial, _, _, _, _, _, _, _, g3.mono (by omega), rfl⟩
      · walk_at "ew"
        refine WE_callL ?_
        walk_at "ew"
        refine ⟨[fr m0 m1, fr l0 l1], rfl, ?_⟩
        refine refused_ok w_fraction (ref_inside bl bm hle) n_frac hp hrep ⟨rfl, ?_⟩
        walk_at "ew"
        exact ⟨trivial, _, _, _, _, _, _, _, g3.mono (by omega), rfl⟩
  · obtain ⟨-, us, x1, x7, x12, x13, x14, x15, g, rfl⟩ := hs
    walk_at "ew"
    refine WE_lcJ (fun ts i acc r => ∃ (us9 : List T) (w : List Int), acc = w.map T.int ∧ w.length = i ∧ ts.length ≤ 60 ∧ GenOk (100010 + 3 * i) us9 ∧ r = [some (.lst (ns.map T.int)), x1, none, none, none, some (.lst us), some (.lst us9), x7, none, none, none, none, x12, x13, x14, x15, none]) ?_
    walk_at "ew"
    refine ⟨_, rfl, random_ok e1 (by omega) (by decide) (by decide) fun d us1 g1 d0 d1 => ⟨_, rfl, ?_⟩⟩
    walk_at "ew"
    refine ⟨_, rfl, lim62_of (by omega) (by omega), by rw [rangeT_len]; omega, ⟨us1, [], rfl, rfl, by rw [rangeT_len]; omega, g1.mono (by omega), rfl⟩, fun i t acc r ht hJ => ?_, fun acc r hJ => ?_⟩
    · obtain ⟨us9, w, rfl, hw, hl, g9, rfl⟩ := hJ
      have hi := (List.getElem?_eq_some_iff.mp ht).1
      refine ⟨_, rfl, WE_true ⟨fun _ => ?_, (fun h => nomatch h)⟩⟩
      walk_at "nw"
      walk_at "ew"
      refine ⟨_, rfl, random_ok g9 (by omega) (by decide) (by decide) fun e us10 g10 e0 e1 => ⟨_, rfl, ?_⟩⟩
      exact ⟨us10, w ++ [e], by simp, by simp [hw], hl, g10.mono (by omega), rfl⟩
    · obtain ⟨us9, w, rfl, hw, hl, g9, rfl⟩ := hJ
      have hw6 : w.length ≤ 60 := by omega
      simp only [backT, List.getD_eq_getElem?_getD, List.getElem?_cons_succ, List.getElem?_cons_zero, Option.getD_some]
      walk_at "nw"
      walk_at "ew"
      refine pairs_ok hw6 fun f0 f1 s0 s1 h => ?_
      walk_at "ew"
      walk_at "nw"
      walk_at "ew"
      walk_at "nw"
      walk_at "ew"
      have hd := h.det
      have p1 := h.f0p
      have p2 := h.f1p
      have p3 := h.s0p
      have p4 := h.s1p
      obtain ⟨b1, b2, b3, b4⟩ := h.b
      have c0 : Bd 62 (f0 + s0) := b1.add b3
      have c1 : Bd 62 (f1 + s1) := b2.add b4
      have m2 : Bd 8000 2 := (bd (by decide) (by decide)).mono
      have m3 : Bd 8000 3 := (bd (by decide) (by decide)).mono
      have bt : Bd 10 2 := by show Int.natAbs 2 < 2 ^ 10; decide
      have bt3 : Bd 10 3 := by show Int.natAbs 3 < 2 ^ 10; decide
      refine ⟨_, mulT_bd m2 c0.mono, ?_⟩
      walk_at "ew"
      refine ⟨_, mulT_bd m2 c1.mono, ?_⟩
      walk_at "ew"
      refine ⟨_, mulT_bd m3 c0.mono, ?_⟩
      walk_at "ew"
      refine ⟨_, mulT_bd m3 c1.mono, ?_⟩
      walk_at "ew"
      refine ⟨_, _, rfl, ?_⟩
      walk_at "nw"
      have bigT : Big (f0 + s0) (f1 + s1) := ⟨by omega, by omega, gcd_det (c := f0) (d := f1) (by rw [Int.add_mul, Int.mul_add]; omega), c0.mono, c1.mono⟩
      have el : (f0 + s0) * (f1 + 2 * (f1 + s1)) - (f0 + 2 * (f0 + s0)) * (f1 + s1) = 1 := by grind
      have eh : (s0 + 3 * (f0 + s0)) * (f1 + s1) - (f0 + s0) * (s1 + 3 * (f1 + s1)) = 1 := by grind
      have bigL : Big (f0 + 2 * (f0 + s0)) (f1 + 2 * (f1 + s1)) := ⟨by omega, by omega, gcd_det (c := -(f0 + s0)) (d := -(f1 + s1)) (by grind), ((b1.mono).add ((bt.mul c0).mono (l := 80))).mono, ((b2.mono).add ((bt.mul c1).mono (l := 80))).mono⟩
      have bigH : Big (s0 + 3 * (f0 + s0)) (s1 + 3 * (f1 + s1)) := ⟨by omega, by omega, gcd_det eh, ((b3.mono).add ((bt3.mul c0).mono (l := 80))).mono, ((b4.mono).add ((bt3.mul c1).mono (l := 80))).mono⟩
      have o1 : f0 * (f1 + 2 * (f1 + s1)) < (f0 + 2 * (f0 + s0)) * f1 := by grind
      have o2 : (s0 + 3 * (f0 + s0)) * s1 < s0 * (s1 + 3 * (f1 + s1)) := by grind
      have o3 : f0 * (f1 + s1) < (f0 + s0) * f1 := by grind
      have o4 : (f0 + s0) * s1 < s0 * (f1 + s1) := by grind
      have q1 : (f0 + 2 * (f0 + s0)) * (f1 + s1) < (f0 + s0) * (f1 + 2 * (f1 + s1)) := by omega
      have q2 : (f0 + s0) * (s1 + 3 * (f1 + s1)) < (s0 + 3 * (f0 + s0)) * (f1 + s1) := by omega
      have q3 : (f0 + 2 * (f0 + s0)) * (s1 + 3 * (f1 + s1)) < (s0 + 3 * (f0 + s0)) * (f1 + 2 * (f1 + s1)) := by grind
      have L1 := bigL.b1
      have H1 := bigH.b1
      have T1 := bigT.b1
      have sA := simp_med h (R := inC (f0 + 2 * (f0 + s0)) (f1 + 2 * (f1 + s1)) (s0 + 3 * (f0 + s0)) (s1 + 3 * (f1 + s1))) (fun x y h => h) (by omega) (by omega) o1 o2 ⟨by omega, by omega⟩
      have sB := simp_med h (R := inO (f0 + 2 * (f0 + s0)) (f1 + 2 * (f1 + s1)) (s0 + 3 * (f0 + s0)) (s1 + 3 * (f1 + s1))) (fun x y h => ⟨Int.le_of_lt h.1, Int.le_of_lt h.2⟩) (by omega) (by omega) o1 o2 ⟨by omega, by omega⟩
      have sC := simp_med h (R := inC (f0 + s0) (f1 + s1) (s0 + 3 * (f0 + s0)) (s1 + 3 * (f1 + s1))) (fun x y h => h) (by omega) (by omega) o3 o2 ⟨by omega, by omega⟩
      have sD := simp_med h (R := inC (f0 + 2 * (f0 + s0)) (f1 + 2 * (f1 + s1)) (f0 + s0) (f1 + s1)) (fun x y h => h) (by omega) (by omega) o1 o4 ⟨by omega, by omega⟩
      generalize f0 + 2 * (f0 + s0) = L0 at *
      generalize f1 + 2 * (f1 + s1) = L1' at *
      generalize s0 + 3 * (f0 + s0) = H0 at *
      generalize s1 + 3 * (f1 + s1) = H1' at *
      generalize f0 + s0 = t0 at *
      generalize f1 + s1 = t1 at *
      walk_at "ew"
      refine from_ok bigL bigH (by omega) fun x' y' hs' => ?_
      obtain ⟨e1, e2⟩ := hs'.one sA
      subst e1 e2
      walk_at "ew"
      refine inside_ok bigL bigH (by omega) fun x2 y2 hs' => ?_
      obtain ⟨e1, e2⟩ := hs'.one sB
      subst e1 e2
      walk_at "ew"
      refine from_ok bigT bigH (by omega) fun x3 y3 hs' => ?_
      obtain ⟨e1, e2⟩ := hs'.one sC
      subst e1 e2
      walk_at "ew"
      refine from_ok bigL bigT (by omega) fun x4 y4 hs' => ?_
      obtain ⟨e1, e2⟩ := hs'.one sD
      subst e1 e2
      walk_at "ew"
      refine ⟨.lst [fr x4 y4, fr x4 y4, fr x4 y4, fr x4 y4], rfl, ?_⟩
      walk_at "ew"
      refine sameok (by rfl) ?_
      walk_at "ew"
      refine WS_refN errs mA w_fraction n_frac (by kernel_rfl) ref_P fun c => ?_
      walk_at "nw"
      refine WS_seq (WS_set (WE_kr (a := .lst [fr 1 2, fr 2 5, fr 19 6, fr 0 1, fr 1 10]) (by kernel_rfl) ?_))
      refine WS_ret (WE_kr (a := .bl true) (by kernel_rfl) ⟨rfl, trivial⟩)
end G

open PySem PySem.W PySem.Calls PyProof.Rows
theorem PySem.Challenge.cw_spreadline_k34_whole_simplest_fractions_holds : PySem.Challenge.rw_spreadline_k34_whole_simplest_fractions.Holds := by
  w_on; o_law
  refine HandSHeadRun.head_imp (r := OpenLaw.row PySem.Challenge.rw_spreadline_k34_whole_simplest_fractions) (q := view (OpenLaw.row PySem.Challenge.rw_spreadline_k34_whole_simplest_fractions).prog [0, 48])
    (H := G.hook) (ob := G.seen) (M := 20000) (loose := G.nms) (d := HandSHeadRun.topDef (OpenLaw.row PySem.Challenge.rw_spreadline_k34_whole_simplest_fractions).prog 48) (kwd := [])
    G.seen_eq G.runs (by kernel_rfl) (by kernel_rfl) (by kernel_rfl) (by rfl)
    (by first | assumption | decide +kernel) (by decide +kernel) ⟨rfl, rfl, rfl, rfl, rfl, by decide +kernel⟩ ?hw ?hc
  case hw => w_witness2
  case hc =>
    refine Tc.law_endsT (l := PySem.Challenge.rw_spreadline_k34_whole_simplest_fractions) (n := 63) (k := 17) (x := "script") rfl (by decide) (by kernel_rfl) ⟨rfl, by decide, by decide⟩ ?F
    intro w mg fa h Y hNs hmg0
    obtain ⟨K, KX, c⟩ := Y
    obtain ⟨T⟩ := G.tops KX hNs c
    have hmg : mg ("law" : PySem.Str) = some (.ref fa) := by
      have e : (HandSHeadRun.topDef (OpenLaw.row PySem.Challenge.rw_spreadline_k34_whole_simplest_fractions).prog 48).name = ("law" : PySem.Str) := by kernel_rfl
      rw [← e]
      exact hmg0
    have ea := hmg.symm.trans T.t_law.mg
    cases ea
    exact ⟨K, T.d_law, G.m_law, G.mks K, KX, fun s v => (T.t_law.fd.bindsA (ps := ["script"]) G.bo_law) s [v] rfl, (Tc.fa_cons (c.hd _ (by simp [G.tf])) Tc.fa_nil), (Tc.fa_cons (⟨c.out _ (by simp [G.tf]), c.empty _ (by simp [G.tf])⟩) Tc.fa_nil), G.law_true, fun base _ _ Z => G.g_law T Z⟩
