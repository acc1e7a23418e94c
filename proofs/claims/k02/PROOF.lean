import PyProof.Rows.All
import Wide.All
import OpenK.AllK
import Wide.FinOn
import HandS.ForMost
import HandS.ForExc
import HandS.CallSlots
import HandS.IsInst
import HandS.TupAny
import HandS.TupMul
import HandS.Deep
import HandS.Style
import HandS.Small
import HandS.TryMany
import HandS.RaiseFrom
import KE.SortData
import HandS.Zip
import KE.GoesEnum
import PySem.Challenge.RW_flipstones_k02_counts
set_option Elab.async false
set_option linter.all false
set_option maxRecDepth 100000
set_option maxHeartbeats 4000000
/-! The pure layer, part 1: data, outcomes, environments, what a reading of a pure function is. -/
namespace PL
open PySem PySem.Spec PyProof.Rows L2

abbrev D := PyData


/-- an exception of the program's own: its class's name, its one field (if it has one) -/
structure Exn where
  cls : Str
  arg : Option D

/-- how a piece of code ends: with a value, with an exception, or in a way that is not followed -/
inductive O (α : Type) where
  | ok (a : α)
  | ex (x : Exn)
  | st

def O.bind {α β : Type} : O α → (α → O β) → O β
  | .ok a, f => f a
  | .ex x, _ => .ex x
  | .st, _ => .st
instance : Monad O where
  pure := .ok
  bind := O.bind
@[simp] theorem O.bind_ok {α β : Type} (a : α) (f : α → O β) : (O.ok a >>= f) = f a := rfl
@[simp] theorem O.bind_ex {α β : Type} (x : Exn) (f : α → O β) : ((O.ex x : O α) >>= f) = .ex x := rfl
@[simp] theorem O.bind_st {α β : Type} (f : α → O β) : ((O.st : O α) >>= f) = .st := rfl
def O.of {α : Type} : Option α → O α
  | some a => .ok a
  | none => .st
@[simp] theorem O.of_some {α : Type} (a : α) : O.of (some a) = .ok a := rfl
@[simp] theorem O.of_none {α : Type} : O.of (none : Option α) = .st := rfl

/-- a slot: a datum that never changes, or a list that this frame alone holds -/
inductive Sl where
  | v (d : D)
  | l (ds : List D)
abbrev En := List (Option Sl)

/-! ### two heaps: the fixed part B within the whole H -/
theorem Same.tup {K : PySem.W.Frag} {H H' : Hp} {a : Addr} {xs : List V} (e : Same H H') (h : SqT K H a xs) : SqT K H' a xs := by
  rcases h with (h | ⟨o, h⟩) | h
  · exact .inl (.inl (e _ _ h))
  · exact .inl (.inr ⟨o, e _ _ h⟩)
  · exact .inr h
mutual
theorem Dp.up {K : PySem.W.Frag} {H H' : Hp} (e : Same H H') : ∀ (d : D) (v : V), Dp K H v d → Dp K H' v d
  | .none, _, h => by cases h; exact .non
  | .bool b, _, h => by cases h; exact .bl b
  | .int i, _, h => by cases h; exact .int i
  | .str x, _, h => by cases h; exact .str x
  | .list ds, _, h => by
    cases h with
    | lst hs ha => exact .lst (e.seq hs) (DpAll.up e ds _ ha)
  | .tuple ds, _, h => by
    cases h with
    | tup hs ha => exact .tup (Same.tup e hs) (DpAll.up e ds _ ha)
  | .dict _, _, h => by cases h
theorem DpAll.up {K : PySem.W.Frag} {H H' : Hp} (e : Same H H') : ∀ (ds : List D) (vs : List V), DpAll K H vs ds → DpAll K H' vs ds
  | [], _, h => by cases h; exact .nil
  | d :: ds, _, h => by
    cases h with
    | cons h1 h2 => exact .cons (Dp.up e d _ h1) (DpAll.up e ds _ h2)
end
section
variable {K : PySem.W.Frag} {H : Hp}
theorem DpAll.length : ∀ {vs : List V} {ds : List D}, DpAll K H vs ds → vs.length = ds.length
  | _, _, .nil => rfl
  | _, _, .cons _ t => congrArg (· + 1) (DpAll.length t)
theorem DpAll.get : ∀ {vs : List V} {ds : List D} {i : Nat} {d : D}, DpAll K H vs ds → ds[i]? = some d → ∃ v, vs[i]? = some v ∧ Dp K H v d
  | _, _, _, _, .nil, e => by simp at e
  | _, _, 0, _, .cons r _, e => by simp at e; subst e; exact ⟨_, rfl, r⟩
  | _, _, i + 1, d, .cons _ t, e => by
    obtain ⟨v, h1, h2⟩ := DpAll.get (i := i) (d := d) t (by simpa using e)
    exact ⟨v, by simpa using h1, h2⟩
theorem DpAll.append : ∀ {vs ws : List V} {ds es : List D}, DpAll K H vs ds → DpAll K H ws es → DpAll K H (vs ++ ws) (ds ++ es)
  | _, _, _, _, .nil, s => s
  | _, _, _, _, .cons r t, s => .cons r (DpAll.append t s)
theorem DpAll.take : ∀ {vs : List V} {ds : List D} (n : Nat), DpAll K H vs ds → DpAll K H (vs.take n) (ds.take n)
  | _, _, 0, _ => .nil
  | _, _, _ + 1, .nil => .nil
  | _, _, n + 1, .cons r t => .cons r (DpAll.take n t)
theorem DpAll.drop : ∀ {vs : List V} {ds : List D} (n : Nat), DpAll K H vs ds → DpAll K H (vs.drop n) (ds.drop n)
  | _, _, 0, r => r
  | _, _, _ + 1, .nil => .nil
  | _, _, n + 1, .cons _ t => DpAll.drop n t
theorem DpAll.one {v : V} {d : D} (h : Dp K H v d) : DpAll K H [v] [d] := .cons h .nil
theorem DpAll.isEmpty {vs : List V} {ds : List D} (h : DpAll K H vs ds) : vs.isEmpty = ds.isEmpty := by cases h <;> rfl
theorem DpAll.ints : ∀ {ns : List Int} {vs : List V}, DpAll K H vs (ns.map .int) → vs = ns.map V.int
  | [], _, h => by cases h; rfl
  | n :: ns, _, h => by
    cases h with
    | cons h1 h2 => cases h1; rw [DpAll.ints h2]; rfl
theorem DpAll.strs : ∀ {ns : List Str} {vs : List V}, DpAll K H vs (ns.map .str) → vs = ns.map V.str
  | [], _, h => by cases h; rfl
  | n :: ns, _, h => by
    cases h with
    | cons h1 h2 => cases h1; rw [DpAll.strs h2]; rfl
theorem DpAll.bls : ∀ {ns : List Bool} {vs : List V}, DpAll K H vs (ns.map .bool) → vs = ns.map V.bl
  | [], _, h => by cases h; rfl
  | n :: ns, _, h => by
    cases h with
    | cons h1 h2 => cases h1; rw [DpAll.bls h2]; rfl
end

/-- from (B, H) on to (B', H'): both grow, what is new to the fixed part is new to all -/
structure Ext (B H B' H' : Hp) : Prop where
  h : Same H H'
  b : Same B B'
  s : Same B' H'
  n : ∀ a o, B' a = some o → B a = some o ∨ H a = none
theorem Ext.refl {B H : Hp} (s : Same B H) : Ext B H B H := ⟨Same.refl _, Same.refl _, s, fun _ _ e => .inl e⟩
theorem Ext.trans {B H B1 H1 B2 H2 : Hp} (a : Ext B H B1 H1) (c : Ext B1 H1 B2 H2) : Ext B H B2 H2 :=
  ⟨Same.trans a.h c.h, Same.trans a.b c.b, c.s, fun x o e => by
    rcases c.n x o e with z | z
    · exact a.n x o z
    · exact .inr (a.h.free z)⟩
/-- a new object that is fixed from now on -/
theorem Ext.new {B H : Hp} {p : Addr} {o : HO} (s : Same B H) (hp : H p = none) : Ext B H (upd B p o) (upd H p o) := by
  have hb : B p = none := s.free hp
  refine ⟨fun b u e => ?_, fun b u e => ?_, fun b u e => ?_, fun b u e => ?_⟩
  · rw [upd_ne (ne_of_none e hp)]; exact e
  · rw [upd_ne (ne_of_none e hb)]; exact e
  · by_cases h : b = p
    · subst h; rw [upd_same] at e ⊢; exact e
    · rw [upd_ne h] at e ⊢; exact s _ _ e
  · by_cases h : b = p
    · subst h; exact .inr hp
    · rw [upd_ne h] at e; exact .inl e
/-- a new object that is not (yet) fixed -/
theorem Ext.loose {B H : Hp} {p : Addr} {o : HO} (s : Same B H) (hp : H p = none) : Ext B H B (upd H p o) := by
  have hb : B p = none := s.free hp
  refine ⟨fun b u e => ?_, Same.refl _, fun b u e => ?_, fun b u e => .inl e⟩
  · rw [upd_ne (ne_of_none e hp)]; exact e
  · rw [upd_ne (ne_of_none e hb)]; exact s _ _ e
/-- a loose object is fixed -/
theorem Ext.fix {B H : Hp} {p : Addr} {o : HO} (s : Same B H) (hp : B p = none) (ho : H p = some o) : Same B (upd B p o) ∧ Same (upd B p o) H := by
  refine ⟨fun b u e => ?_, fun b u e => ?_⟩
  · rw [upd_ne (ne_of_none e hp)]; exact e
  · by_cases h : b = p
    · subst h; rw [upd_same] at e; rw [ho]; exact e
    · rw [upd_ne h] at e; exact s _ _ e

/-! ### environments over slots -/
structure RE (K : PySem.W.Frag) (B0 H0 B H : Hp) (σ : L2.St) (env : En) : Prop where
  ext : Ext B0 H0 B H
  len : env.length = σ.length
  val : ∀ (i : Nat) (d : D), env[i]? = some (some (Sl.v d)) → ∃ v, σ[i]? = some (some v) ∧ Dp K B v d
  own : ∀ (i : Nat) (ds : List D), env[i]? = some (some (Sl.l ds)) → ∃ p vs, σ[i]? = some (some (V.ref p)) ∧ B p = none ∧ H0 p = none ∧ H p = some (.lst vs) ∧ DpAll K B vs ds
  apart : ∀ (i j : Nat) (ds es : List D), env[i]? = some (some (Sl.l ds)) → env[j]? = some (some (Sl.l es)) → i ≠ j → σ[i]? ≠ σ[j]?
section
variable {K : PySem.W.Frag} {B0 H0 B H B1 H1 : Hp} {σ : L2.St} {env : En}
theorem RE.on (R : RE K B0 H0 B H σ env) (e : Ext B H B1 H1) : RE K B0 H0 B1 H1 σ env := by
  refine ⟨R.ext.trans e, R.len, fun i d h => ?_, fun i ds h => ?_, R.apart⟩
  · obtain ⟨v, h1, h2⟩ := R.val i d h
    exact ⟨v, h1, Dp.up e.b _ _ h2⟩
  · obtain ⟨p, vs, h1, h2, h3, h4, h5⟩ := R.own i ds h
    refine ⟨p, vs, h1, ?_, h3, e.h _ _ h4, DpAll.up e.b _ _ h5⟩
    cases q : B1 p with
    | none => rfl
    | some o =>
      rcases e.n p o q with z | z
      · rw [h2] at z; cases z
      · rw [h4] at z; cases z
end

/-- an exception as it lies -/
def XOk (K : PySem.W.Frag) (mg : Str → Option Value) (x : Exn) (cls : Value) (d : Option Addr) (B H : Hp) : Prop :=
  mg x.cls = some cls ∧ match x.arg with
    | none => d = none
    | some a => ∃ p v, d = some p ∧ H p = some (.xd [("at", v)]) ∧ Dp K B v a

/-! ### readings -/
section
variable (K : PySem.W.Frag) (mg : Str → Option Value) (W : WX) (σ : L2.St)
/-- what an outcome wants of the rest -/
def GP {α β : Type} (rel : Hp → Hp → Hp → β → α → Prop) (o : O α) (B H : Hp) (Q : β → Hp → Prop) : Prop :=
  match o with
  | .ok a => ∀ v B' H', Ext B H B' H' → rel H B' H' v a → Q v H'
  | .ex x => ∀ cls d B' H', Ext B H B' H' → XOk K mg x cls d B' H' → W cls d σ H'
  | .st => False
end
def relD (K : PySem.W.Frag) : Hp → Hp → Hp → V → D → Prop := fun _ B' _ v d => Dp K B' v d
def relB : Hp → Hp → Hp → Bool → Bool → Prop := fun _ _ _ b c => b = c
def relA (K : PySem.W.Frag) : Hp → Hp → Hp → List V → List D → Prop := fun _ B' _ vs ds => DpAll K B' vs ds
def relF (K : PySem.W.Frag) : Hp → Hp → Hp → V → List D → Prop := fun H B' H' v ds => ∃ p vs, v = .ref p ∧ H p = none ∧ B' p = none ∧ H' p = some (.lst vs) ∧ DpAll K B' vs ds
def Mono {α β : Type} (rel : Hp → Hp → Hp → β → α → Prop) : Prop := ∀ H H1 B' H' v a, Same H H1 → rel H1 B' H' v a → rel H B' H' v a
theorem mono_D {K : PySem.W.Frag} : Mono (relD K) := fun _ _ _ _ _ _ _ h => h
theorem mono_B : Mono relB := fun _ _ _ _ _ _ _ h => h
theorem mono_A {K : PySem.W.Frag} : Mono (relA K) := fun _ _ _ _ _ _ _ h => h
theorem mono_F {K : PySem.W.Frag} : Mono (relF K) := fun _ _ _ _ _ _ s ⟨p, vs, a, b, c, d, e⟩ => ⟨p, vs, a, s.free b, c, d, e⟩
section
variable {K : PySem.W.Frag} {mg : Str → Option Value} {W : WX} {σ : L2.St} {B H : Hp}
theorem GP.bind {α β γ δ : Type} {r1 : Hp → Hp → Hp → β → α → Prop} {r2 : Hp → Hp → Hp → δ → γ → Prop} (m : Mono r2) {o : O α} {g : α → O γ} {Q : δ → Hp → Prop} {R : β → Hp → Prop} (h : GP K mg W σ r2 (o >>= g) B H Q)
    (k : ∀ a v B1 H1, o = .ok a → Ext B H B1 H1 → r1 H B1 H1 v a → GP K mg W σ r2 (g a) B1 H1 Q → R v H1) : GP K mg W σ r1 o B H R := by
  cases o with
  | ok a =>
    intro v B1 H1 e r
    refine k a v B1 H1 rfl e r ?_
    have h' : GP K mg W σ r2 (g a) B H Q := h
    cases q : g a with
    | ok c =>
      rw [q] at h'
      intro v2 B2 H2 e2 r2'
      exact h' v2 B2 H2 (e.trans e2) (m _ _ _ _ _ _ e.h r2')
    | ex x =>
      rw [q] at h'
      intro cls d B2 H2 e2 r2'
      exact h' cls d B2 H2 (e.trans e2) r2'
    | st => rw [q] at h'; exact h'.elim
  | ex x => exact h
  | st => exact h
theorem GP.of {α β : Type} {rel : Hp → Hp → Hp → β → α → Prop} {o : Option α} {Q : β → Hp → Prop} (h : GP K mg W σ rel (O.of o) B H Q) : ∃ a, o = some a ∧ ∀ v B' H', Ext B H B' H' → rel H B' H' v a → Q v H' := by
  cases o with
  | some a => exact ⟨a, rfl, h⟩
  | none => exact h.elim
theorem GP.imp {α β : Type} {rel : Hp → Hp → Hp → β → α → Prop} {o : O α} {Q Q' : β → Hp → Prop} (h : GP K mg W σ rel o B H Q) (k : ∀ v H', Q v H' → Q' v H') : GP K mg W σ rel o B H Q' := by
  cases o with
  | ok a => exact fun v B' H' e r => k _ _ (h v B' H' e r)
  | ex x => exact h
  | st => exact h
end

/-- the reading of a pure function of the environment -/
def T {α β : Type} (K : PySem.W.Frag) (mg : Str → Option Value) (W : WX) (rel : Hp → Hp → Hp → β → α → Prop) (f : En → O α) : L2.St → Hp → (β → Hp → Prop) → Prop := fun σ H Q =>
  ∃ B0 H0 B env, RE K B0 H0 B H σ env ∧ GP K mg W σ rel (f env) B H Q
abbrev tD (K : PySem.W.Frag) (mg : Str → Option Value) (W : WX) (f : En → O D) : TE := T K mg W (relD K) f
abbrev tL (K : PySem.W.Frag) (mg : Str → Option Value) (W : WX) (f : En → O (List D)) : TE := T K mg W (relF K) f
abbrev tB (K : PySem.W.Frag) (mg : Str → Option Value) (W : WX) (f : En → O Bool) : TT := T K mg W relB f
abbrev tA (K : PySem.W.Frag) (mg : Str → Option Value) (W : WX) (f : En → O (List D)) : TA := T K mg W (relA K) f

section
variable {X : Cx} {e : Expr} {t t' : TE}
theorem pe_weak (h : PE X e t) (i : ∀ σ H Q, t' σ H Q → t σ H Q) : PE X e t' := ⟨fun pins s σ H Q I q => h.run pins s σ H Q I (i _ _ _ q)⟩
theorem pt_weak {t t' : TT} (h : PT X e t) (i : ∀ σ H Q, t' σ H Q → t σ H Q) : PT X e t' := ⟨fun pins s σ H Q I q => h.run pins s σ H Q I (i _ _ _ q)⟩
theorem pw_weak {t t' : TT} (h : PW X e t) (i : ∀ σ H Q, t' σ H Q → t σ H Q) : PW X e t' := ⟨fun w pins s σ H Q I q => h.run w pins s σ H Q I (i _ _ _ q)⟩
theorem pa_weak {es : List Expr} {t t' : TA} (h : PA X es t) (i : ∀ σ H Q, t' σ H Q → t σ H Q) : PA X es t' := ⟨fun p pins s σ H Q I q => h.run p pins s σ H Q I (i _ _ _ q)⟩
theorem ps_weak {st : Stmt} {t t' : TS} (h : PS X st t) (i : ∀ D σ H, t' D σ H → t D σ H) : PS X st t' := ⟨fun pins s σ H D I q => h.run pins s σ H D I (i _ _ _ q)⟩
theorem pss_weak {st : List Stmt} {t t' : TS} (h : PSs X st t) (i : ∀ D σ H, t' D σ H → t D σ H) : PSs X st t' := ⟨fun pins s σ H D I q => h.run pins s σ H D I (i _ _ _ q)⟩
end
end PL

/-! The pure layer, part 2: expressions. -/
namespace PL
open PySem PySem.Spec PyProof.Rows L2

/-! ### rules by values, over data -/
/-- a two-place operation is the partial function h on data -/
def OpG {α : Type} (K : PySem.W.Frag) (rel : Hp → Hp → Hp → V → α → Prop) (r : R2) (h : D → D → Option α) : Prop := ∀ (B H : Hp) (x y : V) (d e : D) (c : α) (Q : VK),
  Same B H → Dp K B x d → Dp K B y e → h d e = some c → (∀ v B' H', Ext B H B' H' → rel H B' H' v c → Q v H') → r x y H Q
def UnG {α : Type} (K : PySem.W.Frag) (rel : Hp → Hp → Hp → V → α → Prop) (r : V → Hp → VK → Prop) (h : D → Option α) : Prop := ∀ (B H : Hp) (x : V) (d : D) (c : α) (Q : VK),
  Same B H → Dp K B x d → h d = some c → (∀ v B' H', Ext B H B' H' → rel H B' H' v c → Q v H') → r x H Q
def CaG {α : Type} (K : PySem.W.Frag) (rel : Hp → Hp → Hp → V → α → Prop) (r : List V → Hp → VK → Prop) (h : List D → Option α) : Prop := ∀ (B H : Hp) (xs : List V) (ds : List D) (c : α) (Q : VK),
  Same B H → DpAll K B xs ds → h ds = some c → (∀ v B' H', Ext B H B' H' → rel H B' H' v c → Q v H') → r xs H Q
def MtG {α : Type} (K : PySem.W.Frag) (rel : Hp → Hp → Hp → V → α → Prop) (r : V → List V → Hp → VK → Prop) (h : D → List D → Option α) : Prop := ∀ (B H : Hp) (x : V) (xs : List V) (d : D) (ds : List D) (c : α) (Q : VK),
  Same B H → Dp K B x d → DpAll K B xs ds → h d ds = some c → (∀ v B' H', Ext B H B' H' → rel H B' H' v c → Q v H') → r x xs H Q

/-! ### the functions -/
def sN (i : Nat) : En → O D := fun env => match env[i]? with
  | some (some (.v d)) => .ok d
  | _ => .st
def sK {α : Type} (d : α) : En → O α := fun _ => .ok d
def sBin {α : Type} (h : D → D → Option α) (fa fb : En → O D) : En → O α := fun env => do
  let x ← fa env
  let y ← fb env
  O.of (h x y)
def sUn {α : Type} (h : D → Option α) (fa : En → O D) : En → O α := fun env => do
  let x ← fa env
  O.of (h x)
def sCa {α : Type} (h : List D → Option α) (fa : En → O (List D)) : En → O α := fun env => do
  let x ← fa env
  O.of (h x)
def sMt {α : Type} (h : D → List D → Option α) (fo : En → O D) (fa : En → O (List D)) : En → O α := fun env => do
  let o ← fo env
  let x ← fa env
  O.of (h o x)
def sLst (f : En → O (List D)) : En → O D := fun env => do
  let x ← f env
  .ok (.list x)
def sTup (f : En → O (List D)) : En → O D := fun env => do
  let x ← f env
  O.of (if x.length ≤ 16777216 then some (.tuple x) else none)
def sLstL (f : En → O (List D)) : En → O (List D) := fun env => do
  let x ← f env
  O.of (if x.length ≤ 16777216 then some x else none)
def sNil : En → O (List D) := fun _ => .ok []
def sCons (f : En → O D) (g : En → O (List D)) : En → O (List D) := fun env => do
  let x ← f env
  let xs ← g env
  .ok (x :: xs)
def D.truth : D → Option Bool
  | .none => some false
  | .bool b => some b
  | .int i => some (i != 0)
  | .str s => if s.length ≤ 16777216 then some ((s.length : Int) != 0) else none
  | .list ds => some (!ds.isEmpty)
  | .tuple ds => some (!ds.isEmpty)
  | .dict _ => none
def sTru (f : En → O D) : En → O Bool := fun env => do
  let d ← f env
  O.of (D.truth d)
def D.asBool : D → Option Bool
  | .bool b => some b
  | _ => none
def sTest (f : En → O D) : En → O Bool := fun env => do
  let d ← f env
  O.of (D.asBool d)
def sAnd (f g : En → O Bool) : En → O Bool := fun env => do
  let c ← f env
  if c = true then g env else .ok false
def sOr (f g : En → O Bool) : En → O Bool := fun env => do
  let c ← f env
  if c = true then .ok true else g env
def sNot (f : En → O Bool) : En → O Bool := fun env => do
  let c ← f env
  .ok (!c)
/-- and, or, not as values: the left ones are truths -/
def sAndV (f g : En → O D) : En → O D := fun env => do
  let d ← f env
  let c ← O.of (D.asBool d)
  if c = true then g env else .ok (.bool false)
def sOrV (f g : En → O D) : En → O D := fun env => do
  let d ← f env
  let c ← O.of (D.asBool d)
  if c = true then .ok (.bool true) else g env
def sNotV (f : En → O D) : En → O D := fun env => do
  let d ← f env
  let c ← O.of (D.asBool d)
  .ok (.bool (!c))
def sIfE {α : Type} (c : En → O Bool) (f g : En → O α) : En → O α := fun env => do
  let b ← c env
  if b = true then f env else g env
/-- a chain of two comparisons -/
def sChain (h h' : D → D → Option D) (fa fb fc : En → O D) : En → O D := fun env => do
  let x ← fa env
  let y ← fb env
  let d ← O.of (h x y)
  let c ← O.of (D.asBool d)
  if c = true then do
    let z ← fc env
    O.of (h' y z)
  else .ok (.bool false)

section
variable {X : Cx} {K : PySem.W.Frag} {mg : Str → Option Value} {W : WX} {a b c e o : Expr} {es : List Expr} {fa fb fc : En → O D} {fs : En → O (List D)} {ga gb : En → O Bool} {pos : Pos} {α : Type}

/-! ### from a pure reading to the layer's -/
theorem T.bind {β γ δ : Type} {r1 : Hp → Hp → Hp → β → α → Prop} {r2 : Hp → Hp → Hp → δ → γ → Prop} (m : Mono r2) {f : En → O α} {g : α → En → O γ} {σ : L2.St} {H : Hp} {Q : δ → Hp → Prop} {R : β → Hp → Prop} (h : T K mg W r2 (fun env => f env >>= fun a => g a env) σ H Q)
    (k : ∀ B0 H0 a v B1 H1 env, RE K B0 H0 B1 H1 σ env → r1 H B1 H1 v a → GP K mg W σ r2 (g a env) B1 H1 Q → R v H1) : T K mg W r1 f σ H R := by
  obtain ⟨B0, H0, B, env, re, q⟩ := h
  exact ⟨B0, H0, B, env, re, q.bind m fun a v B1 H1 _ e r q' => k B0 H0 a v B1 H1 env (re.on e) r q'⟩

theorem pv_n (i : Nat) {x : Str} (hN : X.N[i]? = some x := by rfl) (hv : Vis X.env.scope x := by first | exact Or.inl rfl | exact Or.inr (Or.inl rfl) | exact Or.inr (Or.inr rfl)) (hd : (x == ("__debug__" : Str)) = false := by decide)
    (hcd : (x == ("__classdict__" : Str)) = false := by decide) : PE X (.Name x pos) (tD K mg W (sN i)) := by
  refine pe_weak (pe_var (i := i) hN hv hd hcd) fun σ H Q h => ?_
  obtain ⟨B0, H0, B, env, R, q⟩ := h
  unfold sN at q
  split at q
  · rename_i d he
    obtain ⟨v, h1, h2⟩ := R.val i d he
    exact ⟨v, h1, q v B H (Ext.refl R.ext.s) h2⟩
  · exact q.elim
theorem pv_const {t : V} {d : D} (h : PE X e (tC t)) (hd : ∀ H, Dp K H t d) : PE X e (tD K mg W (sK d)) := by
  refine pe_weak h fun σ H Q hq => ?_
  obtain ⟨B0, H0, B, env, R, q⟩ := hq
  exact q _ B H (Ext.refl R.ext.s) (hd B)
theorem pv_int {i : Int} {j : Nat} : PE X (.Constant (.int i) j pos) (tD K mg W (sK (.int i))) := pv_const pe_int fun _ => .int i
theorem pv_str {i : Str} {j : Nat} : PE X (.Constant (.str i) j pos) (tD K mg W (sK (.str i))) := pv_const pe_str fun _ => .str i
theorem pv_bl {i : Bool} {j : Nat} : PE X (.Constant (.bool i) j pos) (tD K mg W (sK (.bool i))) := pv_const pe_bl fun _ => .bl i
theorem pv_non {j : Nat} : PE X (.Constant .none j pos) (tD K mg W (sK .none)) := pv_const pe_non fun _ => .non
/-- a module's constant -/
theorem pv_g {x : Str} {v : V} {u : Value} {d : D} (hg : Gl X x) (hm : X.mg x = some u) (r : RelV v u) (hd : ∀ H, Dp K H v d) (hb : (x == ("__debug__" : Str)) = false := by decide) : PE X (.Name x pos) (tD K mg W (sK d)) :=
  pv_const (pe_glob hg hm r hb) hd

theorem t_op {α : Type} {rel : Hp → Hp → Hp → V → α → Prop} (m : Mono rel) {r : R2} {h : D → D → Option α} (hd : OpG K rel r h) {σ : L2.St} {H : Hp} {Q : VK} (q : T K mg W rel (sBin h fa fb) σ H Q) : tOp r (tD K mg W fa) (tD K mg W fb) σ H Q := by
  refine T.bind m q fun B0 H0 d v B1 H1 env R rv q1 => ⟨B0, H0, B1, env, R, ?_⟩
  refine q1.bind m fun d2 v2 B2 H2 _ e rv2 q2 => ?_
  obtain ⟨c, hc, q3⟩ := q2.of
  exact hd B2 H2 v v2 d d2 c Q e.s (Dp.up e.b _ _ rv) rv2 hc q3
theorem pg_bin {op : Operator} {rel : Hp → Hp → Hp → V → α → Prop} (m : Mono rel) {r : R2} {h : D → D → Option α} (ho : OpR X (binaryOp op) r) (hd : OpG K rel r h) (ha : PE X a (tD K mg W fa)) (hb : PE X b (tD K mg W fb)) :
    PE X (.BinOp a op b pos) (T K mg W rel (sBin h fa fb)) := pe_weak (pe_op ho ha hb) fun _ _ _ q => t_op m hd q
theorem pv_un {op : UnaryOp} {r : V → Hp → VK → Prop} {h : D → Option D} (ho : UnR X (unaryOp op) r) (hd : UnG K (relD K) r h) (ha : PE X a (tD K mg W fa)) :
    PE X (.UnaryOp op a pos) (tD K mg W (sUn h fa)) := pe_weak (pe_un ho ha) fun σ H Q q => by
  refine T.bind mono_D q fun B0 H0 d v B1 H1 env R rv q1 => ?_
  obtain ⟨c, hc, q3⟩ := q1.of
  exact hd B1 H1 v d c Q R.ext.s rv hc q3
theorem pv_cmp {op : CmpOp} {r : R2} {h : D → D → Option D} (ho : OpR X (compareOp op) r) (hd : OpG K (relD K) r h) (ha : PE X a (tD K mg W fa)) (hb : PE X b (tD K mg W fb)) (hm : behindInMarks op b = false) :
    PE X (.Compare a [op] [b] pos) (tD K mg W (sBin h fa fb)) := pe_weak (pe_cmpR ho ha hb hm) fun _ _ _ q => t_op mono_D hd q
theorem t_test {t : TE} {f : En → O D} (ht : ∀ σ H Q, tD K mg W f σ H Q → t σ H Q) {σ : L2.St} {H : Hp} {Q : Bool → Hp → Prop} (q : tB K mg W (sTest f) σ H Q) : tTest t σ H Q := by
  refine ht _ _ _ (T.bind mono_B q fun B0 H0 d v B1 H1 env R rv q1 => ?_)
  obtain ⟨c, hc, q3⟩ := q1.of
  cases d with
  | bool b =>
    have e : b = c := Option.some.inj hc
    subst e
    cases rv
    exact ⟨b, rfl, q3 b B1 H1 (Ext.refl R.ext.s) rfl⟩
  | none => cases hc
  | int _ => cases hc
  | str _ => cases hc
  | list _ => cases hc
  | tuple _ => cases hc
  | dict _ => cases hc
theorem qt_cmp {op : CmpOp} {r : R2} {h : D → D → Option D} (ho : OpR X (compareOp op) r) (hd : OpG K (relD K) r h) (ha : PE X a (tD K mg W fa)) (hb : PE X b (tD K mg W fb)) (hm : behindInMarks op b = false) :
    PT X (.Compare a [op] [b] pos) (tB K mg W (sTest (sBin h fa fb))) := pt_weak (pt_cmpR ho ha hb hm) fun _ _ _ q => t_test (fun _ _ _ q => t_op mono_D hd q) q
theorem t_chain {r r' : R2} {h h' : D → D → Option D} (hd : OpG K (relD K) r h) (hd' : OpG K (relD K) r' h') {σ : L2.St} {H : Hp} {Q : VK} (q : tD K mg W (sChain h h' fa fb fc) σ H Q) : tChain r r' (tD K mg W fa) (tD K mg W fb) (tD K mg W fc) σ H Q := by
  refine T.bind mono_D q fun B0 H0 d v B1 H1 env R rv q1 => ⟨B0, H0, B1, env, R, ?_⟩
  refine q1.bind mono_D fun d2 v2 B2 H2 _ e rv2 q2 => ?_
  have R2 := R.on e
  cases hh : h d d2 with
  | none =>
    rw [hh] at q2
    exact q2.elim
  | some c =>
    rw [hh] at q2
    refine hd B2 H2 v v2 d d2 c _ e.s (Dp.up e.b _ _ rv) rv2 hh fun z B3 H3 e3 rz => ?_
    have q3 : GP K mg W σ (relD K) (O.of (D.asBool c) >>= fun c => if c = true then (do let z ← fc env; O.of (h' d2 z)) else O.ok (.bool false)) B2 H2 Q := q2
    cases c with
    | bool k =>
      cases rz
      refine ⟨k, rfl, ?_⟩
      cases k with
      | true =>
        refine ⟨B0, H0, B3, env, R2.on e3, ?_⟩
        have q4 : GP K mg W σ (relD K) (fc env >>= fun z => O.of (h' d2 z)) B2 H2 Q := q3
        have q5 : GP K mg W σ (relD K) (fc env >>= fun z => O.of (h' d2 z)) B3 H3 Q := by
          cases w : (fc env >>= fun z => O.of (h' d2 z)) with
          | ok a => rw [w] at q4; exact fun v B' H' x r => q4 v B' H' (e3.trans x) r
          | ex a => rw [w] at q4; exact fun v d B' H' x r => q4 v d B' H' (e3.trans x) r
          | st => rw [w] at q4; exact q4.elim
        refine q5.bind mono_D fun d3 v3 B4 H4 _ e4 rv4 q6 => ?_
        obtain ⟨c, hc, q7⟩ := q6.of
        exact hd' B4 H4 v2 v3 d2 d3 c Q e4.s (Dp.up e4.b _ _ (Dp.up e3.b _ _ rv2)) rv4 hc q7
      | false => exact q3 _ B3 H3 e3 (.bl false)
    | none => exact q3.elim
    | int _ => exact q3.elim
    | str _ => exact q3.elim
    | list _ => exact q3.elim
    | tuple _ => exact q3.elim
    | dict _ => exact q3.elim
theorem pv_chain {op op' : CmpOp} {r r' : R2} {h h' : D → D → Option D} (ho : OpR X (compareOp op) r) (hd : OpG K (relD K) r h) (ho' : OpR X (compareOp op') r') (hd' : OpG K (relD K) r' h') (ha : PE X a (tD K mg W fa)) (hb : PE X b (tD K mg W fb)) (hc : PE X c (tD K mg W fc))
    (hm : lastMarks [op, op'] [b, c] = false := by with_unfolding_all rfl) : PE X (.Compare a [op, op'] [b, c] pos) (tD K mg W (sChain h h' fa fb fc)) := pe_weak (pe_chain ho ho' ha hb hc hm) fun _ _ _ q => t_chain hd hd' q
theorem qt_chain {op op' : CmpOp} {r r' : R2} {h h' : D → D → Option D} (ho : OpR X (compareOp op) r) (hd : OpG K (relD K) r h) (ho' : OpR X (compareOp op') r') (hd' : OpG K (relD K) r' h') (ha : PE X a (tD K mg W fa)) (hb : PE X b (tD K mg W fb)) (hc : PE X c (tD K mg W fc))
    (hm : lastMarks [op, op'] [b, c] = false := by with_unfolding_all rfl) : PT X (.Compare a [op, op'] [b, c] pos) (tB K mg W (sTest (sChain h h' fa fb fc))) := pt_weak (pt_chain ho ho' ha hb hc hm) fun _ _ _ q => t_test (fun _ _ _ q => t_chain hd hd' q) q
theorem truV {H : Hp} {v : V} {d : D} {k : Bool} (h : Dp K H v d) (e : D.truth d = some k) : TruV K v H k := by
  cases h with
  | non => exact (Option.some.inj e).symm
  | bl b => exact (Option.some.inj e).symm
  | int i => exact (Option.some.inj e).symm
  | str x =>
    have e' : (if x.length ≤ 16777216 then some ((x.length : Int) != 0) else none) = some k := e
    by_cases hz : x.length ≤ 16777216
    · rw [if_pos hz] at e'
      exact ⟨by rw [sizeLine_eq]; exact hz, (Option.some.inj e').symm⟩
    · rw [if_neg hz] at e'
      cases e'
  | lst hs ha => exact .inl ⟨_, hs, by rw [DpAll.isEmpty ha]; exact (Option.some.inj e).symm⟩
  | tup hs ha => exact .inr (.inl ⟨_, hs, by rw [DpAll.isEmpty ha]; exact (Option.some.inj e).symm⟩)
theorem TruV.up {H H' : Hp} {v : V} {k : Bool} (s : Same H H') (h : TruV K v H k) : TruV K v H' k := by
  cases v with
  | ref p =>
    rcases h with ⟨xs, h, e⟩ | ⟨xs, h, e⟩ | ⟨kvs, h, e⟩
    · exact .inl ⟨xs, s.seq h, e⟩
    · exact .inr (.inl ⟨xs, Same.tup s h, e⟩)
    · exact .inr (.inr ⟨kvs, s _ _ h, e⟩)
  | non => exact h
  | bl _ => exact h
  | int _ => exact h
  | str _ => exact h
  | byt _ => exact h
  | flt _ => exact h
  | ty _ => exact h
/-- any expression but a comparison, and, or, not, as a test -/
theorem qt_v (ha : PE X a (tD K mg W fa)) (hK : X.K = K := by rfl) (he : ∀ whole, isTrue a X.env whole = (do let v ← whole; standAt a.pos; holding [v] (truthy v)) := by intro _; rfl) : PT X a (tB K mg W (sTru fa)) := by
  subst hK
  refine pt_weak (pt_truth ha he) fun σ H Q q => ?_
  refine T.bind mono_B q fun B0 H0 d v B1 H1 env R rv q1 => ?_
  obtain ⟨k, hk, q2⟩ := q1.of
  exact ⟨k, TruV.up R.ext.s (truV rv hk), q2 k B1 H1 (Ext.refl R.ext.s) rfl⟩
theorem qw_and1 (ha : PT X a (tB K mg W ga)) : PW X (.BoolOp .And [a] pos) (tB K mg W ga) := pw_and1 ha
theorem qw_or1 (ha : PT X a (tB K mg W ga)) : PW X (.BoolOp .Or [a] pos) (tB K mg W ga) := pw_or1 ha
theorem qw_and (ha : PT X a (tB K mg W ga)) (hb : PW X (.BoolOp .And (b :: es) pos) (tB K mg W gb)) : PW X (.BoolOp .And (a :: b :: es) pos) (tB K mg W (sAnd ga gb)) := by
  refine pw_weak (pw_and ha hb) fun σ H Q q => ?_
  refine T.bind mono_B q fun B0 H0 d v B1 H1 env R rv q1 => ?_
  cases rv
  cases d with
  | true => exact iteT ⟨B0, H0, B1, env, R, q1⟩
  | false => exact iteF (q1 false B1 H1 (Ext.refl R.ext.s) rfl)
theorem qw_or (ha : PT X a (tB K mg W ga)) (hb : PW X (.BoolOp .Or (b :: es) pos) (tB K mg W gb)) : PW X (.BoolOp .Or (a :: b :: es) pos) (tB K mg W (sOr ga gb)) := by
  refine pw_weak (pw_or ha hb) fun σ H Q q => ?_
  refine T.bind mono_B q fun B0 H0 d v B1 H1 env R rv q1 => ?_
  cases rv
  cases d with
  | true => exact iteT (q1 true B1 H1 (Ext.refl R.ext.s) rfl)
  | false => exact iteF ⟨B0, H0, B1, env, R, q1⟩
theorem qt_w (h : PW X e (tB K mg W ga)) : PT X e (tB K mg W ga) := h.pt
theorem qt_not (ha : PT X a (tB K mg W ga)) : PT X (.UnaryOp .Not a pos) (tB K mg W (sNot ga)) := by
  refine pt_weak (pt_not ha) fun σ H Q q => ?_
  refine T.bind mono_B q fun B0 H0 d v B1 H1 env R rv q1 => ?_
  cases rv
  exact q1 _ B1 H1 (Ext.refl R.ext.s) rfl
theorem asBool_of {H : Hp} {v : V} {d : D} {k : Bool} (h : Dp K H v d) (e : D.asBool d = some k) : v = .bl k := by
  cases d with
  | bool b => cases h; exact congrArg V.bl (Option.some.inj e)
  | none => cases e
  | int _ => cases e
  | str _ => cases e
  | list _ => cases e
  | tuple _ => cases e
  | dict _ => cases e
theorem pv_one {op : BoolOp} (h : PE X a (tD K mg W fa)) : PE X (.BoolOp op [a] pos) (tD K mg W fa) := pe_one h
theorem GP.ofB {σ : L2.St} {γ δ : Type} {r2 : Hp → Hp → Hp → δ → γ → Prop} {o : Option α} {g : α → O γ} {B H : Hp} {Q : δ → Hp → Prop} (h : GP K mg W σ r2 (O.of o >>= g) B H Q) : ∃ a, o = some a ∧ GP K mg W σ r2 (g a) B H Q := by
  cases o with
  | some a => exact ⟨a, rfl, h⟩
  | none => exact h.elim
theorem pv_and (ha : PE X a (tD K mg W fa)) (hb : PE X (.BoolOp .And (b :: es) pos) (tD K mg W fb)) : PE X (.BoolOp .And (a :: b :: es) pos) (tD K mg W (sAndV fa fb)) := by
  refine pe_weak (pe_and ha hb) fun σ H Q q => ?_
  refine T.bind mono_D q fun B0 H0 d v B1 H1 env R rv q1 => ?_
  obtain ⟨k, hk, q2⟩ := q1.ofB
  refine ⟨k, asBool_of rv hk, ?_⟩
  cases k with
  | true => exact iteT ⟨B0, H0, B1, env, R, q2⟩
  | false => exact iteF (q2 _ B1 H1 (Ext.refl R.ext.s) (.bl false))
theorem pv_or (ha : PE X a (tD K mg W fa)) (hb : PE X (.BoolOp .Or (b :: es) pos) (tD K mg W fb)) : PE X (.BoolOp .Or (a :: b :: es) pos) (tD K mg W (sOrV fa fb)) := by
  refine pe_weak (pe_or ha hb) fun σ H Q q => ?_
  refine T.bind mono_D q fun B0 H0 d v B1 H1 env R rv q1 => ?_
  obtain ⟨k, hk, q2⟩ := q1.ofB
  refine ⟨k, asBool_of rv hk, ?_⟩
  cases k with
  | true => exact iteT (q2 _ B1 H1 (Ext.refl R.ext.s) (.bl true))
  | false => exact iteF ⟨B0, H0, B1, env, R, q2⟩
theorem pv_not (ha : PE X a (tD K mg W fa)) : PE X (.UnaryOp .Not a pos) (tD K mg W (sNotV fa)) := by
  refine pe_weak (pe_not ha) fun σ H Q q => ?_
  refine T.bind mono_D q fun B0 H0 d v B1 H1 env R rv q1 => ?_
  obtain ⟨k, hk, q2⟩ := q1.ofB
  exact ⟨k, asBool_of rv hk, q2 _ B1 H1 (Ext.refl R.ext.s) (.bl _)⟩
theorem pg_ifE {rel : Hp → Hp → Hp → V → α → Prop} (m : Mono rel) {f g : En → O α} (hc : PT X c (tB K mg W ga)) (ha : PE X a (T K mg W rel f)) (hb : PE X b (T K mg W rel g)) : PE X (.IfExp c a b pos) (T K mg W rel (sIfE ga f g)) := by
  refine pe_weak (pe_ifExp hc ha hb) fun σ H Q q => ?_
  refine T.bind m q fun B0 H0 d v B1 H1 env R rv q1 => ?_
  cases rv
  cases d with
  | true => exact iteT ⟨B0, H0, B1, env, R, q1⟩
  | false => exact iteF ⟨B0, H0, B1, env, R, q1⟩

/-! ### lists of expressions, displays -/
theorem qa_nil : PA X [] (tA K mg W sNil) := pa_weak pa_nil fun σ H Q q => by
  obtain ⟨B0, H0, B, env, R, q⟩ := q
  exact q [] B H (Ext.refl R.ext.s) .nil
theorem qa_cons (ha : PE X e (tD K mg W fa)) (hr : PA X es (tA K mg W fs)) (hs : starEach (e :: es) X.env = (false, eval e X.env) :: starEach es X.env := by rfl) : PA X (e :: es) (tA K mg W (sCons fa fs)) := by
  refine pa_weak (pa_cons ha hr hs) fun σ H Q q => ?_
  refine T.bind mono_A q fun B0 H0 d v B1 H1 env R rv q1 => ⟨B0, H0, B1, env, R, ?_⟩
  refine q1.bind mono_A fun ds vs B2 H2 _ x rvs q2 => ?_
  exact q2 _ B2 H2 (Ext.refl x.s) (.cons (Dp.up x.b _ _ rv) rvs)
theorem pv_tup {k : Nat} (h : PA X es (tA K mg W fs)) : PE X (.Tuple es k pos) (tD K mg W (sTup fs)) := by
  refine pe_weak (pe_tup h) fun σ H Q q => ?_
  refine T.bind mono_D q fun B0 H0 ds vs B1 H1 env R rvs q1 => ?_
  obtain ⟨c, hc, q2⟩ := q1.of
  have rvs' : DpAll K B1 vs ds := rvs
  split at hc
  · rename_i hl
    cases hc
    refine ⟨by rw [sizeLine_eq, DpAll.length rvs']; exact hl, fun p hp => ?_⟩
    have x := Ext.new (o := .tup vs) R.ext.s hp
    exact q2 _ _ _ x (.tup (.inl (.inl upd_same)) (DpAll.up x.b _ _ rvs'))
  · cases hc
theorem pl_lst (h : PA X es (tA K mg W fs)) : PE X (.List es pos) (tL K mg W (sLstL fs)) := by
  refine pe_weak (pe_lst h) fun σ H Q q => ?_
  refine T.bind mono_F q fun B0 H0 ds vs B1 H1 env R rvs q1 => ?_
  obtain ⟨c, hc, q2⟩ := q1.of
  have rvs' : DpAll K B1 vs ds := rvs
  split at hc
  · rename_i hl
    cases hc
    refine ⟨by rw [sizeLine_eq, DpAll.length rvs']; exact hl, fun p hp => ?_⟩
    have x := Ext.loose (o := .lst vs) R.ext.s hp
    exact q2 _ _ _ x ⟨p, vs, rfl, hp, R.ext.s.free hp, upd_same, rvs'⟩
  · cases hc
/-- a new list as a datum: it will never change -/
theorem pv_l (h : PE X e (tL K mg W fs)) : PE X e (tD K mg W (sLst fs)) := by
  refine pe_weak h fun σ H Q q => ?_
  obtain ⟨B0, H0, B, env, R, q⟩ := q
  refine ⟨B0, H0, B, env, R, ?_⟩
  have q' : GP K mg W σ (relD K) (fs env >>= fun x => .ok (.list x)) B H Q := q
  cases hf : fs env with
  | ok ds =>
    rw [hf] at q'
    intro v B1 H1 x r
    obtain ⟨p, vs, rfl, hp, hb, ho, ha⟩ := r
    obtain ⟨y1, y2⟩ := Ext.fix x.s hb ho
    refine q' _ (upd B1 p (.lst vs)) H1 ⟨x.h, Same.trans x.b y1, y2, fun a o e => ?_⟩ (.lst (.inl (.inl upd_same)) (DpAll.up y1 _ _ ha))
    by_cases h : a = p
    · subst h; exact .inr hp
    · rw [upd_ne h] at e; exact x.n _ _ e
  | ex z => rw [hf] at q'; exact q'
  | st => rw [hf] at q'; exact q'

end
end PL

/-! The pure layer, part 3: statements. -/
namespace PL
open PySem PySem.Spec PyProof.Rows L2

/-! ### environments written -/
section
variable {K : PySem.W.Frag} {B0 H0 B H : Hp} {σ : L2.St} {env : En}
theorem set_same {α : Type} {l : List α} {i : Nat} {a b : α} (h : (l.set i a)[i]? = some b) : b = a := by
  by_cases hi : i < l.length
  · rw [List.getElem?_set_self hi] at h; exact (Option.some.inj h).symm
  · rw [List.getElem?_eq_none (by simpa using hi)] at h; cases h
theorem RE.set (R : RE K B0 H0 B H σ env) (i : Nat) {v : V} {d : D} (h : Dp K B v d) : RE K B0 H0 B H (σ.set i (some v)) (env.set i (some (.v d))) := by
  have hl := R.len
  refine ⟨R.ext, by simp [hl], fun j e hj => ?_, fun j ds hj => ?_, fun j k ds es hj hk hne => ?_⟩
  · by_cases hij : i = j
    · subst hij
      have e1 := set_same hj
      cases e1
      have hi : i < env.length := by
        by_cases hi : i < env.length
        · exact hi
        · rw [List.getElem?_eq_none (by simpa using hi)] at hj; cases hj
      exact ⟨v, List.getElem?_set_self (by omega), h⟩
    · rw [List.getElem?_set_ne hij] at hj ⊢
      exact R.val j e hj
  · by_cases hij : i = j
    · subst hij
      have e1 := set_same hj
      cases e1
    · rw [List.getElem?_set_ne hij] at hj ⊢
      exact R.own j ds hj
  · by_cases hij : i = j
    · subst hij
      have e1 := set_same hj
      cases e1
    · by_cases hik : i = k
      · subst hik
        have e1 := set_same hk
        cases e1
      · rw [List.getElem?_set_ne hij] at hj ⊢
        rw [List.getElem?_set_ne hik] at hk ⊢
        exact R.apart j k ds es hj hk hne
/-- a new list for a slot: no other own slot holds it -/
theorem RE.setL (R : RE K B0 H0 B H σ env) (i : Nat) {p : Addr} {vs : List V} {ds : List D} (h1 : B p = none) (h2 : H0 p = none) (h3 : H p = some (.lst vs)) (h4 : DpAll K B vs ds)
    (h5 : ∀ (j : Nat) (es : List D), j ≠ i → env[j]? = some (some (Sl.l es)) → σ[j]? ≠ some (some (V.ref p))) : RE K B0 H0 B H (σ.set i (some (.ref p))) (env.set i (some (.l ds))) := by
  have hl := R.len
  have inr : ∀ {s : Sl}, (env.set i (some s))[i]? = some (some s) → i < env.length := fun {s} hj => by
    by_cases hi : i < env.length
    · exact hi
    · rw [List.getElem?_eq_none (by simpa using hi)] at hj; cases hj
  refine ⟨R.ext, by simp [hl], fun j e hj => ?_, fun j es hj => ?_, fun j k ds1 es hj hk hne => ?_⟩
  · by_cases hij : i = j
    · subst hij
      have e1 := set_same hj
      cases e1
    · rw [List.getElem?_set_ne hij] at hj ⊢
      exact R.val j e hj
  · by_cases hij : i = j
    · subst hij
      have e1 := set_same hj
      cases e1
      have hi := inr hj
      exact ⟨p, vs, List.getElem?_set_self (by omega), h1, h2, h3, h4⟩
    · rw [List.getElem?_set_ne hij] at hj ⊢
      exact R.own j es hj
  · by_cases hij : i = j
    · subst hij
      have e1 := set_same hj
      cases e1
      have hi := inr hj
      have hik : i ≠ k := hne
      rw [List.getElem?_set_self (by omega)]
      rw [List.getElem?_set_ne hik] at hk ⊢
      exact fun z => h5 k es (Ne.symm hik) hk z.symm
    · by_cases hik : i = k
      · subst hik
        have e1 := set_same hk
        cases e1
        have hi := inr hk
        rw [List.getElem?_set_self (by omega)]
        rw [List.getElem?_set_ne hij] at hj ⊢
        exact h5 j ds1 (Ne.symm hij) hj
      · rw [List.getElem?_set_ne hij] at hj ⊢
        rw [List.getElem?_set_ne hik] at hk ⊢
        exact R.apart j k ds1 es hj hk hne
/-- an own list is changed -/
theorem RE.change (R : RE K B0 H0 B H σ env) {i : Nat} {es ds : List D} {p : Addr} {vs : List V} (hi : env[i]? = some (some (.l es))) (hp : σ[i]? = some (some (.ref p))) (h1 : B p = none) (h2 : H0 p = none) (h4 : DpAll K B vs ds) :
    RE K B0 H0 B (upd H p (.lst vs)) σ (env.set i (some (.l ds))) := by
  have hl := R.len
  have hlt : i < env.length := (List.getElem?_eq_some_iff.mp hi).1
  refine ⟨⟨fun b o e => ?_, R.ext.b, fun b o e => ?_, R.ext.n⟩, by simp [hl], fun j e hj => ?_, fun j e hj => ?_, fun j k ds1 ds2 hj hk hne => ?_⟩
  · rw [upd_ne (ne_of_none e h2)]; exact R.ext.h _ _ e
  · rw [upd_ne (ne_of_none e h1)]; exact R.ext.s _ _ e
  · by_cases hij : i = j
    · subst hij
      have e1 := set_same hj
      cases e1
    · rw [List.getElem?_set_ne hij] at hj
      exact R.val j e hj
  · by_cases hij : i = j
    · subst hij
      have e1 := set_same hj
      cases e1
      exact ⟨p, vs, hp, h1, h2, upd_same, h4⟩
    · rw [List.getElem?_set_ne hij] at hj
      obtain ⟨q, ws, g1, g2, g3, g4, g5⟩ := R.own j e hj
      have hne : q ≠ p := fun z => R.apart i j es e hi hj hij (by rw [hp, g1, z])
      exact ⟨q, ws, g1, g2, g3, by rw [upd_ne hne]; exact g4, g5⟩
  · have back : ∀ {j : Nat} {e : List D}, (env.set i (some (.l ds)))[j]? = some (some (Sl.l e)) → ∃ e', env[j]? = some (some (Sl.l e')) := fun {j e} hj => by
      by_cases hij : i = j
      · subst hij; exact ⟨_, hi⟩
      · rw [List.getElem?_set_ne hij] at hj; exact ⟨_, hj⟩
    obtain ⟨e1, q1⟩ := back hj
    obtain ⟨e2, q2⟩ := back hk
    exact R.apart j k e1 e2 q1 q2 hne
/-- less is known -/
theorem RE.less {env' : En} (R : RE K B0 H0 B H σ env) (hl : env'.length = env.length) (h : ∀ (i : Nat) s, env'[i]? = some (some s) → env[i]? = some (some s)) : RE K B0 H0 B H σ env' :=
  ⟨R.ext, hl.trans R.len, fun i d e => R.val i d (h _ _ e), fun i ds e => R.own i ds (h _ _ e), fun i j ds es e1 e2 => R.apart i j ds es (h _ _ e1) (h _ _ e2)⟩
/-- an own list is fixed -/
theorem RE.frz (R : RE K B0 H0 B H σ env) {i : Nat} {ds : List D} (hi : env[i]? = some (some (.l ds))) : ∃ B', RE K B0 H0 B' H σ (env.set i (some (.v (.list ds)))) := by
  obtain ⟨p, vs, g1, g2, g3, g4, g5⟩ := R.own i ds hi
  obtain ⟨y1, y2⟩ := Ext.fix R.ext.s g2 g4
  have hlt : i < env.length := (List.getElem?_eq_some_iff.mp hi).1
  refine ⟨upd B p (.lst vs), ⟨R.ext.h, Same.trans R.ext.b y1, y2, fun b o e => ?_⟩, by simp [R.len], fun j d hj => ?_, fun j es hj => ?_, fun j k ds1 ds2 hj hk hne => ?_⟩
  · by_cases h : b = p
    · subst h; exact .inr g3
    · rw [upd_ne h] at e; exact R.ext.n _ _ e
  · by_cases hij : i = j
    · subst hij
      have e1 := set_same hj
      cases e1
      exact ⟨_, g1, .lst (.inl (.inl upd_same)) (DpAll.up y1 _ _ g5)⟩
    · rw [List.getElem?_set_ne hij] at hj
      obtain ⟨v, q1, q2⟩ := R.val j d hj
      exact ⟨v, q1, Dp.up y1 _ _ q2⟩
  · by_cases hij : i = j
    · subst hij
      have e1 := set_same hj
      cases e1
    · rw [List.getElem?_set_ne hij] at hj
      obtain ⟨q, ws, a1, a2, a3, a4, a5⟩ := R.own j es hj
      have hne : q ≠ p := fun z => R.apart i j ds es hi hj hij (by rw [g1, a1, z])
      exact ⟨q, ws, a1, by rw [upd_ne hne]; exact a2, a3, a4, DpAll.up y1 _ _ a5⟩
  · have back : ∀ {j : Nat} {e : List D}, (env.set i (some (.v (.list ds))))[j]? = some (some (Sl.l e)) → env[j]? = some (some (Sl.l e)) := fun {j e} hj => by
      by_cases hij : i = j
      · subst hij
        have e1 := set_same hj
        cases e1
      · rw [List.getElem?_set_ne hij] at hj; exact hj
    exact R.apart j k ds1 ds2 (back hj) (back hk) hne
/-- another ground -/
theorem RE.base {B1 : Hp} (R : RE K B0 H0 B H σ env) (h : Same B0 B1) (h2 : Same B1 B) : RE K B1 H0 B H σ env :=
  ⟨⟨R.ext.h, h2, R.ext.s, fun a o e => by
    rcases R.ext.n a o e with z | z
    · exact .inl (h _ _ z)
    · exact .inr z⟩, R.len, R.val, R.own, R.apart⟩
theorem Ext.down {B1 B2 H1 H2 : Hp} (x : Ext B1 H0 B2 H2) (y : Ext B0 H0 B1 H1) : Ext B0 H0 B2 H2 := ⟨x.h, Same.trans y.b x.b, x.s, fun a o e => by
  rcases x.n a o e with z | z
  · exact y.n a o z
  · exact .inr z⟩
theorem RE.debase {B1 H1 : Hp} (R : RE K B1 H0 B H σ env) (y : Ext B0 H0 B1 H1) : RE K B0 H0 B H σ env := ⟨Ext.down R.ext y, R.len, R.val, R.own, R.apart⟩
end

/-! ### how a statement ends -/
inductive Fl where
  | nx (env : En) | bk (env : En) | ct (env : En)
  | rt (d : D) | rl (ds : List D)
  | ex (x : Exn) (env : En)
  | st
def Fl.mapE (f : En → En) : Fl → Fl
  | .nx e => .nx (f e)
  | .bk e => .bk (f e)
  | .ct e => .ct (f e)
  | o => o
section
variable (K : PySem.W.Frag) (mg : Str → Option Value) (W : WX)
def SPo (B0 H0 : Hp) (o : Fl) (Z : Ends) : Prop :=
  match o with
  | .nx env => ∀ σ B H, RE K B0 H0 B H σ env → Z.nx σ H
  | .bk env => ∀ σ B H, RE K B0 H0 B H σ env → Z.bk σ H
  | .ct env => ∀ σ B H, RE K B0 H0 B H σ env → Z.ct σ H
  | .rt d => ∀ v B H, Ext B0 H0 B H → Dp K B v d → Z.rt v H
  | .rl ds => ∀ p vs B H, Ext B0 H0 B H → H0 p = none → B p = none → H p = some (.lst vs) → DpAll K B vs ds → Z.rt (.ref p) H
  | .ex x env => ∀ cls d σ B H, RE K B0 H0 B H σ env → XOk K mg x cls d B H → W cls d σ H
  | .st => False
def tS (g : En → Fl) : TS := fun Z σ H => ∃ B0 H0 B env, RE K B0 H0 B H σ env ∧ SPo K mg W B0 H0 (g env) Z
end
/-- another ground -/
theorem SPo.base {K : PySem.W.Frag} {mg : Str → Option Value} {W : WX} {B0 H0 B1 H1 : Hp} {o : Fl} {Z : Ends} (h : SPo K mg W B0 H0 o Z) (y : Ext B0 H0 B1 H1) : SPo K mg W B1 H0 o Z := by
  cases o with
  | nx env => exact fun σ B H R => h σ B H (R.debase y)
  | bk env => exact fun σ B H R => h σ B H (R.debase y)
  | ct env => exact fun σ B H R => h σ B H (R.debase y)
  | rt d => exact fun v B H x r => h v B H (Ext.down x y) r
  | rl ds => exact fun p vs B H x a b c r => h p vs B H (Ext.down x y) a b c r
  | ex x env => exact fun c d σ B H R r => h c d σ B H (R.debase y) r
  | st => exact h

def sSeq (g h : En → Fl) : En → Fl := fun env => match g env with
  | .nx e => h e
  | o => o
def sSkip : En → Fl := fun env => .nx env
def sBrk : En → Fl := fun env => .bk env
def sCnt : En → Fl := fun env => .ct env
def fO {α : Type} (o : O α) (env : En) (k : α → Fl) : Fl := match o with
  | .ok a => k a
  | .ex x => .ex x env
  | .st => .st
def sSet (i : Nat) (f : En → O D) : En → Fl := fun env => fO (f env) env fun d => .nx (env.set i (some (.v d)))
def sSetL (i : Nat) (f : En → O (List D)) : En → Fl := fun env => fO (f env) env fun d => .nx (env.set i (some (.l d)))
def sRet (f : En → O D) : En → Fl := fun env => fO (f env) env fun d => .rt d
def sRetL (f : En → O (List D)) : En → Fl := fun env => fO (f env) env fun d => .rl d
def sRetI (i : Nat) : En → Fl := fun env => match env[i]? with
  | some (some (.l ds)) => .rl ds
  | _ => .st
def sRetN : En → Fl := fun _ => .rt .none
def sIf (c : En → O Bool) (g h : En → Fl) : En → Fl := fun env => fO (c env) env fun b => if b = true then g env else h env
def sDrop (f : En → O D) : En → Fl := fun env => fO (f env) env fun _ => .nx env
def sApp (i : Nat) (f : En → O D) : En → Fl := fun env => match env[i]? with
  | some (some (.l ds)) => fO (f env) env fun d => if ds.length < 16777216 then .nx (env.set i (some (.l (ds ++ [d])))) else .st
  | _ => .st
def sExt (i : Nat) (f : En → O (List D)) : En → Fl := fun env => match env[i]? with
  | some (some (.l ds)) => fO (f env) env fun es => if ds.length + es.length ≤ 16777216 then .nx (env.set i (some (.l (ds ++ es)))) else .st
  | _ => .st
def frz (i : Nat) (env : En) : En := match env[i]? with
  | some (some (.l ds)) => env.set i (some (.v (.list ds)))
  | _ => env
def sFrz (i : Nat) (g : En → Fl) : En → Fl := fun env => g (frz i env)
def forget : List Nat → En → En
  | [], env => env
  | i :: is, env => forget is (env.set i none)
def sFg (is : List Nat) (g : En → Fl) : En → Fl := fun env => (g env).mapE (forget is)
def whGo (c : En → O Bool) (g : En → Fl) : Nat → En → Fl
  | 0, _ => .st
  | n + 1, env => fO (c env) env fun b => if b = true then (match g env with
    | .nx e => whGo c g n e
    | .ct e => whGo c g n e
    | .bk e => .nx e
    | o => o) else .nx env
def sWhile (n : Nat) (c : En → O Bool) (g : En → Fl) : En → Fl := fun env => whGo c g n env
/-- a target: a name, or a tuple of names -/
inductive Tg where
  | n (i : Nat) | t (is : List Nat)
def setMany : List Nat → List D → En → Option En
  | [], [], env => some env
  | i :: is, d :: ds, env => setMany is ds (env.set i (some (.v d)))
  | [], _ :: _, _ => none
  | _ :: _, [], _ => none
def Tg.set : Tg → D → En → Option En
  | .n i, d, env => some (env.set i (some (.v d)))
  | .t is, .tuple ds, env => setMany is ds env
  | .t _, .none, _ => none
  | .t _, .bool _, _ => none
  | .t _, .int _, _ => none
  | .t _, .str _, _ => none
  | .t _, .list _, _ => none
  | .t _, .dict _, _ => none
def Tg.slots : Tg → List Nat
  | .n i => [i]
  | .t is => is
def fS (o : Option En) (k : En → Fl) : Fl := match o with
  | some e => k e
  | none => .st
def sAsg (tg : Tg) (f : En → O D) : En → Fl := fun env => fO (f env) env fun d => fS (tg.set d env) .nx
def forGo (tg : Tg) (g : En → Fl) : List D → En → Fl
  | [], env => .nx env
  | d :: ds, env => fS (tg.set d env) fun e1 => match g e1 with
    | .nx e => forGo tg g ds e
    | .ct e => forGo tg g ds e
    | .bk e => .nx e
    | o => o
def sFor (f : En → O (List D)) (tg : Tg) (g : En → Fl) : En → Fl := fun env => fO (f env) env fun ds => forGo tg g ds env

section
variable {X : Cx} {K : PySem.W.Frag} {mg : Str → Option Value} {W : WX} {a b c e o : Expr} {es : List Expr} {st : Stmt} {sts : List Stmt} {fa fb fc : En → O D} {fs : En → O (List D)} {ga gb : En → O Bool} {g h : En → Fl} {pos : Pos}

theorem tS.seq {Z : Ends} {σ : L2.St} {H : Hp} (q : tS K mg W (sSeq g h) Z σ H) : tSeq (tS K mg W g) (tS K mg W h) Z σ H := by
  obtain ⟨B0, H0, B, env, R, q⟩ := q
  refine ⟨B0, H0, B, env, R, ?_⟩
  unfold sSeq at q
  cases w : g env with
  | nx e => rw [w] at q; exact fun σ' B' H' R' => ⟨B0, H0, B', e, R', q⟩
  | bk e => rw [w] at q; exact q
  | ct e => rw [w] at q; exact q
  | rt d => rw [w] at q; exact q
  | rl d => rw [w] at q; exact q
  | ex x e => rw [w] at q; exact q
  | st => rw [w] at q; exact q
theorem z_nil : PSs X [] (tS K mg W sSkip) := pss_weak pss_nil fun Z σ H q => by
  obtain ⟨B0, H0, B, env, R, q⟩ := q
  exact q σ B H R
theorem z_cons (h1 : PS X st (tS K mg W g)) (h2 : PSs X sts (tS K mg W h)) : PSs X (st :: sts) (tS K mg W (sSeq g h)) := pss_weak (pss_cons h1 h2) fun _ _ _ q => tS.seq q
theorem z_one (h1 : PS X st (tS K mg W g)) : PSs X [st] (tS K mg W g) := pss_one h1
theorem z_pass : PS X (.Pass pos) (tS K mg W sSkip) := ps_weak ps_pass fun Z σ H q => by
  obtain ⟨B0, H0, B, env, R, q⟩ := q
  exact q σ B H R
theorem z_break : PS X (.Break pos) (tS K mg W sBrk) := ps_weak ps_break fun Z σ H q => by
  obtain ⟨B0, H0, B, env, R, q⟩ := q
  exact q σ B H R
theorem z_continue : PS X (.Continue pos) (tS K mg W sCnt) := ps_weak ps_continue fun Z σ H q => by
  obtain ⟨B0, H0, B, env, R, q⟩ := q
  exact q σ B H R
theorem z_doc {x : Str} {j : Nat} {pos' : Pos} : PS X (.Expr (.Constant (.str x) j pos) pos') (tS K mg W sSkip) := ps_weak ps_doc fun Z σ H q => by
  obtain ⟨B0, H0, B, env, R, q⟩ := q
  exact q σ B H R

/-- what a statement's value wants -/
theorem GP.fO {α β : Type} {rel : Hp → Hp → Hp → β → α → Prop} {f : O α} {k : α → Fl} {B0 H0 B H : Hp} {σ : L2.St} {env : En} {Z : Ends} (R : RE K B0 H0 B H σ env) (q : SPo K mg W B0 H0 (fO f env k) Z) {Q : β → Hp → Prop}
    (hk : ∀ a v B' H', Ext B H B' H' → RE K B0 H0 B' H' σ env → rel H B' H' v a → SPo K mg W B0 H0 (k a) Z → Q v H') : GP K mg W σ rel f B H Q := by
  cases f with
  | ok a => exact fun v B' H' x r => hk a v B' H' x (R.on x) r q
  | ex x => exact fun cls d B' H' y r => q cls d σ B' H' (R.on y) r
  | st => exact q
theorem tS.val {α β : Type} {rel : Hp → Hp → Hp → β → α → Prop} {f : En → O α} {k : En → α → Fl} {Z : Ends} {σ : L2.St} {H : Hp} (q : tS K mg W (fun env => fO (f env) env (k env)) Z σ H) {Q : β → Hp → Prop}
    (hk : ∀ B0 H0 env a v B B' H', RE K B0 H0 B H σ env → Ext B H B' H' → RE K B0 H0 B' H' σ env → rel H B' H' v a → SPo K mg W B0 H0 (k env a) Z → Q v H') : T K mg W rel f σ H Q := by
  obtain ⟨B0, H0, B, env, R, q⟩ := q
  exact ⟨B0, H0, B, env, R, GP.fO R q fun a v B' H' x R' r q' => hk B0 H0 env a v B B' H' R x R' r q'⟩

theorem z_set {i : Nat} {x : Str} {pos' : Pos} (hN : X.N.Nodup) (hi : X.N[i]? = some x) (hx : Loc X.env.scope x) (he : PE X e (tD K mg W fa)) (hs : swapsWith e (some (.Name x pos')) pos.line X.env = pure false := by rfl)
    (hf : X.fn x = true ∨ X.env.scope.names.lookup x = some .local := by first | exact .inl rfl | exact .inr rfl | assumption) : PS X (.Assign [.Name x pos'] e pos) (tS K mg W (sSet i fa)) := by
  refine ps_weak (ps_set hN hi hx he hs hf) fun Z σ H q => ?_
  exact tS.val q fun B0 H0 env a v B B' H' R x R' r q' => q' _ B' H' (R'.set i r)
theorem z_setL {i : Nat} {x : Str} {pos' : Pos} (hN : X.N.Nodup) (hi : X.N[i]? = some x) (hx : Loc X.env.scope x) (he : PE X e (tL K mg W fs)) (hs : swapsWith e (some (.Name x pos')) pos.line X.env = pure false := by rfl)
    (hf : X.fn x = true ∨ X.env.scope.names.lookup x = some .local := by first | exact .inl rfl | exact .inr rfl | assumption) : PS X (.Assign [.Name x pos'] e pos) (tS K mg W (sSetL i fs)) := by
  refine ps_weak (ps_set hN hi hx he hs hf) fun Z σ H q => ?_
  refine tS.val q fun B0 H0 env a v B B' H' R x R' r q' => ?_
  obtain ⟨p, vs, rfl, hp, hb, ho, ha⟩ := r
  refine q' _ B' H' (R'.setL i hb (R.ext.h.free hp) ho ha fun j es _ hj z => ?_)
  obtain ⟨p', vs', g1, _, _, g4, _⟩ := R.own j es hj
  rw [g1] at z
  cases z
  rw [hp] at g4
  cases g4
theorem z_ret (he : PE X e (tD K mg W fa)) : PS X (.Return (some e) pos) (tS K mg W (sRet fa)) := by
  refine ps_weak (ps_ret he) fun Z σ H q => ?_
  exact tS.val q fun B0 H0 env a v B B' H' R x R' r q' => q' v B' H' R'.ext r
theorem z_retL (he : PE X e (tL K mg W fs)) : PS X (.Return (some e) pos) (tS K mg W (sRetL fs)) := by
  refine ps_weak (ps_ret he) fun Z σ H q => ?_
  refine tS.val q fun B0 H0 env a v B B' H' R x R' r q' => ?_
  obtain ⟨p, vs, rfl, hp, hb, ho, ha⟩ := r
  exact q' p vs B' H' R'.ext (R.ext.h.free hp) hb ho ha
theorem z_retI (i : Nat) {x : Str} {p : Pos} (hN : X.N[i]? = some x := by rfl) (hv : Vis X.env.scope x := by first | exact Or.inl rfl | exact Or.inr (Or.inl rfl) | exact Or.inr (Or.inr rfl)) (hd : (x == ("__debug__" : Str)) = false := by decide)
    (hcd : (x == ("__classdict__" : Str)) = false := by decide) : PS X (.Return (some (.Name x p)) pos) (tS K mg W (sRetI i)) := by
  refine ps_weak (ps_ret (pe_var (i := i) hN hv hd hcd)) fun Z σ H q => ?_
  obtain ⟨B0, H0, B, env, R, q⟩ := q
  unfold sRetI at q
  split at q
  · rename_i ds he
    obtain ⟨p, vs, g1, g2, g3, g4, g5⟩ := R.own i ds he
    exact ⟨_, g1, q p vs B H R.ext g3 g2 g4 g5⟩
  · exact q.elim
theorem z_retN : PS X (.Return none pos) (tS K mg W sRetN) := ps_weak ps_retN fun Z σ H q => by
  obtain ⟨B0, H0, B, env, R, q⟩ := q
  exact q _ B H R.ext .non
theorem z_if (hc : PT X c (tB K mg W ga)) (ha : PSs X sts (tS K mg W g)) {sts' : List Stmt} (hb : PSs X sts' (tS K mg W h)) : PS X (.If c sts sts' pos) (tS K mg W (sIf ga g h)) := by
  refine ps_weak (ps_if hc ha hb) fun Z σ H q => ?_
  refine tS.val q fun B0 H0 env a v B B' H' R x R' r q' => ?_
  cases r
  cases a with
  | true => exact iteT ⟨B0, H0, B', env, R', q'⟩
  | false => exact iteF ⟨B0, H0, B', env, R', q'⟩
theorem z_frz (i : Nat) (hs : PS X st (tS K mg W g)) : PS X st (tS K mg W (sFrz i g)) := by
  refine ps_weak hs fun Z σ H q => ?_
  obtain ⟨B0, H0, B, env, R, q⟩ := q
  unfold sFrz frz at q
  split at q
  · rename_i ds he
    obtain ⟨B', R'⟩ := R.frz he
    exact ⟨B0, H0, B', _, R', q⟩
  · exact ⟨B0, H0, B, env, R, q⟩
theorem forget_length : ∀ (is : List Nat) (env : En), (forget is env).length = env.length
  | [], _ => rfl
  | i :: is, env => by unfold forget; rw [forget_length is]; simp
theorem forget_some : ∀ (is : List Nat) (env : En) (j : Nat) (s : Sl), (forget is env)[j]? = some (some s) → env[j]? = some (some s)
  | [], _, _, _, h => h
  | i :: is, env, j, s, h => by
    unfold forget at h
    have h1 := forget_some is _ j s h
    by_cases hij : i = j
    · subst hij
      have e := set_same h1
      cases e
    · rw [List.getElem?_set_ne hij] at h1; exact h1
theorem SPo.forget {B0 H0 : Hp} {o : Fl} {is : List Nat} {Z : Ends} (q : SPo K mg W B0 H0 (o.mapE (forget is)) Z) : SPo K mg W B0 H0 o Z := by
  cases o with
  | nx e => exact fun σ B H R => q σ B H (R.less (forget_length _ _) (forget_some _ _))
  | bk e => exact fun σ B H R => q σ B H (R.less (forget_length _ _) (forget_some _ _))
  | ct e => exact fun σ B H R => q σ B H (R.less (forget_length _ _) (forget_some _ _))
  | rt d => exact q
  | rl d => exact q
  | ex x e => exact q
  | st => exact q
theorem z_fg (is : List Nat) (hs : PS X st (tS K mg W g)) : PS X st (tS K mg W (sFg is g)) := by
  refine ps_weak hs fun Z σ H q => ?_
  obtain ⟨B0, H0, B, env, R, q⟩ := q
  exact ⟨B0, H0, B, env, R, SPo.forget q⟩
theorem z_while {n : Nat} (hp : PassesOwn (model X.prog X.w) X.A X.env X.xe) (hc : PT X c (tB K mg W ga)) (hb : PSs X sts (tS K mg W g)) : PS X (.While c sts [] pos) (tS K mg W (sWhile n ga g)) := by
  refine ps_weak (ps_while hp hc hb) fun Z σ H q => ?_
  obtain ⟨B0, H0, B, env, R, q⟩ := q
  refine ⟨fun m σ H => ∃ B env, RE K B0 H0 B H σ env ∧ SPo K mg W B0 H0 (whGo ga g m env) Z, ⟨n, B, env, R, q⟩, ?_⟩
  rintro m σ1 H1 ⟨B1, env1, R1, q1⟩
  cases m with
  | zero => exact q1.elim
  | succ m =>
    refine ⟨B0, H0, B1, env1, R1, GP.fO R1 q1 fun a v B' H' x R' r q' => ?_⟩
    cases r
    cases a with
    | true =>
      refine iteT ⟨fun σ' H' => ∃ B env, RE K B0 H0 B H' σ' env ∧ SPo K mg W B0 H0 (whGo ga g m env) Z, fun σ' H' w => ⟨m, Nat.lt_succ_self m, w⟩, B0, H0, B', env1, R', ?_⟩
      have q2 : SPo K mg W B0 H0 (match g env1 with | .nx e => whGo ga g m e | .ct e => whGo ga g m e | .bk e => .nx e | o => o) Z := q'
      cases w : g env1 with
      | nx e => rw [w] at q2; exact fun σ B H R => ⟨B, e, R, q2⟩
      | ct e => rw [w] at q2; exact fun σ B H R => ⟨B, e, R, q2⟩
      | bk e => rw [w] at q2; exact q2
      | rt d => rw [w] at q2; exact q2
      | rl d => rw [w] at q2; exact q2
      | ex x e => rw [w] at q2; exact q2
      | st => rw [w] at q2; exact q2
    | false => exact iteF (q' _ B' H' R')

/-! ### targets -/
def tG (K : PySem.W.Frag) (tg : Tg) : TG := fun v σ H Q => ∃ B0 H0 B env d env', RE K B0 H0 B H σ env ∧ Dp K B v d ∧ tg.set d env = some env' ∧
  ∀ σ', (∀ vs : List Nat, (∀ i ∈ tg.slots, i ∈ vs) → wipe σ' vs = wipe σ vs) → RE K B0 H0 B H σ' env' → Q σ' H
theorem wipe_set {σ : L2.St} {i : Nat} {v : Option V} : ∀ {vs : List Nat}, i ∈ vs → wipe (σ.set i v) vs = wipe σ vs
  | [], h => by cases h
  | x :: vs, h => by
    unfold wipe
    by_cases hm : i ∈ vs
    · rw [wipe_set hm]
    · have e : i = x := by
        rcases List.mem_cons.mp h with e | m
        · exact e
        · exact absurd m hm
      subst e
      have comm : ∀ (vs : List Nat) (τ : L2.St), i ∉ vs → wipe (τ.set i v) vs = (wipe τ vs).set i v := by
        intro vs
        induction vs with
        | nil => intro τ _; rfl
        | cons y ys ih =>
          intro τ hy
          unfold wipe
          rw [ih τ (fun m => hy (List.mem_cons_of_mem _ m)), List.set_comm]
          intro z
          exact hy (by rw [z]; exact List.mem_cons_self)
      rw [comm vs σ hm, List.set_set]
def gNames : List Nat → TGs
  | [] => gNil
  | i :: is => gCons (gName i) (gNames is)
theorem qg_nil : PGs X [] (gNames []) := pgs_nil
theorem qg_cons {i : Nat} {is : List Nat} (h1 : PG X e (gName i)) (h2 : PGs X es (gNames is)) (hs : (assignEach (e :: es) X.env).map (·.2) = assign e X.env :: (assignEach es X.env).map (·.2) := by rfl) : PGs X (e :: es) (gNames (i :: is)) := pgs_cons h1 h2 hs
theorem gNames_run {H : Hp} {B0 H0 B : Hp} {Q : L2.St → Hp → Prop} {ws : List Nat} : ∀ (is : List Nat) (ds : List D) (vs : List V) (σ τ : L2.St) (env env' : En), RE K B0 H0 B H σ env → DpAll K B vs ds → setMany is ds env = some env' →
    (∀ i ∈ is, i ∈ ws) → (∀ vs : List Nat, (∀ i ∈ ws, i ∈ vs) → wipe σ vs = wipe τ vs) →
    (∀ σ', (∀ vs : List Nat, (∀ i ∈ ws, i ∈ vs) → wipe σ' vs = wipe τ vs) → RE K B0 H0 B H σ' env' → Q σ' H) → gNames is vs σ H Q
  | [], [], _, σ, τ, env, env', R, .nil, he, _, hw, k => by
    cases he
    exact ⟨rfl, k σ hw R⟩
  | [], d :: ds, _, _, _, _, _, _, _, he, _, _, _ => by cases he
  | i :: is, [], _, _, _, _, _, _, _, he, _, _, _ => by cases he
  | i :: is, d :: ds, _, σ, τ, env, env', R, .cons h1 h2, he, hs, hw, k => by
    refine ⟨_, _, rfl, ?_⟩
    refine gNames_run is ds _ _ τ _ env' (R.set i h1) h2 he (fun j hj => hs j (List.mem_cons_of_mem _ hj)) (fun vs hv => ?_) k
    rw [wipe_set (hv i (hs i List.mem_cons_self)), hw vs hv]
theorem q_name {i : Nat} {x : Str} (hN : X.N.Nodup) (hi : X.N[i]? = some x) (hx : Loc X.env.scope x) (hf : X.fn x = true ∨ X.env.scope.names.lookup x = some .local := by first | exact .inl rfl | exact .inr rfl | assumption) : PG X (.Name x pos) (tG K (.n i)) := by
  have h := pg_name (X := X) (pos := pos) hN hi hx hf
  refine ⟨fun pins s σ H v u Q I r hw => h.run pins s σ H v u Q I r ?_⟩
  obtain ⟨B0, H0, B, env, d, env', R, hd, he, q⟩ := hw
  cases he
  exact q _ (fun vs hv => wipe_set (hv i List.mem_cons_self)) (R.set i hd)
theorem q_tup {is : List Nat} {k : Nat} (hc : X.calm = true) (h : PGs X es (gNames is)) (hK : X.K = K := by rfl)
    (hn : (assignEach es X.env).length = is.length := by rfl) (hst : (assignEach es X.env).findIdx? (·.1) = none := by rfl) : PG X (.Tuple es k pos) (tG K (.t is)) := by
  subst hK
  have h' := pg_tup (X := X) (pos := pos) (k := k) (n := is.length) hc h hn hst
  refine ⟨fun pins s σ H v u Q I r hw => h'.run pins s σ H v u Q I r ?_⟩
  obtain ⟨B0, H0, B, env, d, env', R, hd, he, q⟩ := hw
  cases d with
  | tuple ds =>
    cases hd with
    | tup hs ha =>
      rename_i a xs
      have hlen : ∀ (is : List Nat) (ds : List D) (env : En), setMany is ds env = some env' → is.length = ds.length := by
        intro is
        induction is with
        | nil => intro ds env h; cases ds with
          | nil => rfl
          | cons _ _ => cases h
        | cons i is ih => intro ds env h; cases ds with
          | nil => cases h
          | cons d ds => exact congrArg (· + 1) (ih ds _ h)
      refine ⟨a, xs, rfl, Same.tup R.ext.s hs, by rw [DpAll.length ha, hlen is ds env he], ?_⟩
      exact gNames_run (ws := is) is ds xs σ σ env env' R ha he (fun _ h => h) (fun _ _ => rfl) q
  | none => cases he
  | bool _ => cases he
  | int _ => cases he
  | str _ => cases he
  | list _ => cases he
  | dict _ => cases he
theorem z_asg {tg : Tg} {t : Expr} (he : PE X e (tD K mg W fa)) (hg : PG X t (tG K tg)) (hs : swapsWithSole [t] e pos.line X.env = pure false := by rfl) (hw : swappedStores [t] e X.env = pure none := by rfl)
    (h1 : (assignEach [t] X.env).map (·.2) = [assign t X.env] := by rfl) : PS X (.Assign [t] e pos) (tS K mg W (sAsg tg fa)) := by
  refine ps_weak (ps_asg he hg hs hw h1) fun Z σ H q => ?_
  refine tS.val q fun B0 H0 env a v B B' H' R x R' r q' => ?_
  cases w : tg.set a env with
  | none => rw [w] at q'; exact q'.elim
  | some env' => rw [w] at q'; exact ⟨B0, H0, B', env, a, env', R', r, w, fun σ' _ R2 => q' _ _ _ R2⟩

/-! ### lists that grow -/
theorem z_app (i : Nat) {x : Str} {apos cpos p : Pos} (hN : X.N[i]? = some x := by rfl) (hv : Vis X.env.scope x := by first | exact Or.inl rfl | exact Or.inr (Or.inl rfl) | exact Or.inr (Or.inr rfl)) (he : PE X e (tD K mg W fa)) (hd : (x == ("__debug__" : Str)) = false := by decide)
    (hcd : (x == ("__classdict__" : Str)) = false := by decide) (hss : swapsWith (.Call (.Attribute (.Name x p) "append" apos) [e] [] cpos) none pos.line X.env = pure false := by rfl)
    (hbase : attributeBase (.Name x p) "append" X.env (eval (.Name x p) X.env) = eval (.Name x p) X.env := by rfl)
    (hfew : ((backTo cpos (starEach [e] X.env)).all (fun x => !x.1) && (backToKw cpos (keywordEach [] X.env)).all (fun x => x.1.isSome)
      && decide (([e] : List Expr).length + ([] : List Keyword).length + (if ([] : List Keyword).isEmpty then 0 else 1) < 30)) = true := by rfl)
    (hline : (apos.endLine == cpos.line) = true := by rfl) (hs : starEach [e] X.env = (false, eval e X.env) :: starEach [] X.env := by rfl) (hplain : (backTo cpos (starEach [] X.env)).any (·.1) = false := by rfl) :
    PS X (.Expr (.Call (.Attribute (.Name x p) "append" apos) [e] [] cpos) pos) (tS K mg W (sApp i fa)) := by
  refine ps_weak (ps_expr (pe_bm PySem.F.plainAttrs_list PySem.F.slot_list_append PySem.F.type_list_append mt_append (pe_var (i := i) hN hv hd hcd) (pa_cons he pa_nil hs) hbase hfew hline hs hplain) hss) fun Z σ H q => ?_
  obtain ⟨B0, H0, B, env, R, q⟩ := q
  unfold sApp at q
  split at q
  · rename_i ds hi
    obtain ⟨p, vs, g1, g2, g3, g4, g5⟩ := R.own i ds hi
    refine ⟨.ref p, g1, .inl ⟨rfl, vs, .inl (.inl g4)⟩, B0, H0, B, env, R, GP.fO R q fun d v B' H' x R' r q' => ?_⟩
    obtain ⟨p', vs', a1, a2, a3, a4, a5⟩ := R'.own i ds hi
    rw [g1] at a1
    cases a1
    split at q'
    · rename_i hz
      refine ⟨p, vs', v, rfl, rfl, a4, by rw [sizeLine_eq, DpAll.length a5]; exact hz, ?_⟩
      exact q' _ _ _ (R'.change hi g1 a2 a3 (DpAll.append a5 (DpAll.one r)))
    · exact q'.elim
  · exact q.elim
theorem z_ext (i : Nat) {x : Str} {apos cpos p : Pos} (hN : X.N[i]? = some x := by rfl) (hv : Vis X.env.scope x := by first | exact Or.inl rfl | exact Or.inr (Or.inl rfl) | exact Or.inr (Or.inr rfl)) (he : PE X e (tL K mg W fs)) (hd : (x == ("__debug__" : Str)) = false := by decide)
    (hcd : (x == ("__classdict__" : Str)) = false := by decide) (hss : swapsWith (.Call (.Attribute (.Name x p) "extend" apos) [e] [] cpos) none pos.line X.env = pure false := by rfl)
    (hbase : attributeBase (.Name x p) "extend" X.env (eval (.Name x p) X.env) = eval (.Name x p) X.env := by rfl)
    (hfew : ((backTo cpos (starEach [e] X.env)).all (fun x => !x.1) && (backToKw cpos (keywordEach [] X.env)).all (fun x => x.1.isSome)
      && decide (([e] : List Expr).length + ([] : List Keyword).length + (if ([] : List Keyword).isEmpty then 0 else 1) < 30)) = true := by rfl)
    (hline : (apos.endLine == cpos.line) = true := by rfl) (hs : starEach [e] X.env = (false, eval e X.env) :: starEach [] X.env := by rfl) (hplain : (backTo cpos (starEach [] X.env)).any (·.1) = false := by rfl) :
    PS X (.Expr (.Call (.Attribute (.Name x p) "extend" apos) [e] [] cpos) pos) (tS K mg W (sExt i fs)) := by
  refine ps_weak (ps_expr (pe_bm PySem.F.plainAttrs_list PySem.F.slot_list_extend PySem.F.type_list_extend mt_extend (pe_var (i := i) hN hv hd hcd) (pa_cons he pa_nil hs) hbase hfew hline hs hplain) hss) fun Z σ H q => ?_
  obtain ⟨B0, H0, B, env, R, q⟩ := q
  unfold sExt at q
  split at q
  · rename_i ds hi
    obtain ⟨p, vs, g1, g2, g3, g4, g5⟩ := R.own i ds hi
    refine ⟨.ref p, g1, .inl ⟨rfl, vs, .inl (.inl g4)⟩, B0, H0, B, env, R, GP.fO R q fun es v B' H' x R' r q' => ?_⟩
    obtain ⟨p', vs', a1, a2, a3, a4, a5⟩ := R'.own i ds hi
    rw [g1] at a1
    cases a1
    obtain ⟨p2, vs2, rfl, b1, b2, b3, b4⟩ := r
    split at q'
    · rename_i hz
      refine ⟨p, p2, vs', vs2, rfl, rfl, a4, b3, by rw [sizeLine_eq, DpAll.length a5, DpAll.length b4]; exact hz, ?_⟩
      exact q' _ _ _ (R'.change hi g1 a2 a3 (DpAll.append a5 b4))
    · exact q'.elim
  · exact q.elim

/-! ### what is walked -/
def ItOk (K : PySem.W.Frag) (B : Hp) (J : It) (items : List D) : Prop := ∀ (i : Nat) (B1 H1 : Hp), Same B B1 → Same B1 H1 →
  (∀ d, items[i]? = some d → J.go i H1 ∧ ∀ x H2, J.yld i H1 x H2 → ∃ B2, Ext B1 H1 B2 H2 ∧ Dp K B2 x d) ∧ (items.length ≤ i → J.stop i H1)
def relI (K : PySem.W.Frag) : Hp → Hp → Hp → It → List D → Prop := fun _ B' _ J items => ItOk K B' J items
theorem mono_I : Mono (relI K) := fun _ _ _ _ _ _ _ h => h
abbrev tI (K : PySem.W.Frag) (mg : Str → Option Value) (W : WX) (f : En → O (List D)) : TI := T K mg W (relI K) f
theorem z_for {tg : Tg} {t iter : Expr} (hp : PassesOwn (model X.prog X.w) X.A X.env X.xe) (hc : X.calm = true) (hi : PI X t iter (tI K mg W fs)) (hg : PG X t (tG K tg)) (hb : PSs X sts (tS K mg W g))
    (hs : ∀ x, foldedSetIterable iter X.env x = pure x := by intro _; rfl) : PS X (.For t iter sts [] pos) (tS K mg W (sFor fs tg g)) := by
  refine ps_weak (ps_for hp hc hi hg hb hs) fun Z σ H q => ?_
  refine tS.val q fun B0 H0 env items J B Bs H' R x R' ok q' => ?_
  have ok' : ItOk K Bs J items := ok
  -- the ground from here on is Bs
  have x0 : Ext B0 H0 Bs H' := R'.ext
  refine ⟨fun i m σ H => m = items.length - i ∧ ∃ B env, RE K Bs H0 B H σ env ∧ SPo K mg W B0 H0 (forGo tg g (items.drop i) env) Z, ⟨items.length, by simp, Bs, env, R'.base R'.ext.b (Same.refl _), by simpa using q'⟩, ?_⟩
  rintro i m σ1 H1 ⟨rfl, B1, env1, R1, q1⟩
  obtain ⟨go, stop⟩ := ok' i B1 H1 R1.ext.b R1.ext.s
  by_cases hlt : i < items.length
  · have hget : items[i]? = some items[i] := List.getElem?_eq_getElem hlt
    obtain ⟨hgo, hyld⟩ := go _ hget
    have hdrop : items.drop i = items[i] :: items.drop (i + 1) := List.drop_eq_getElem_cons hlt
    rw [hdrop] at q1
    have q2 : SPo K mg W B0 H0 (fS (tg.set items[i] env1) fun e1 => match g e1 with | .nx e => forGo tg g (items.drop (i + 1)) e | .ct e => forGo tg g (items.drop (i + 1)) e | .bk e => .nx e | o => o) Z := q1
    cases w : tg.set items[i] env1 with
    | none => rw [w] at q2; exact q2.elim
    | some e1 =>
      rw [w] at q2
      have q3 : SPo K mg W B0 H0 (match g e1 with | .nx e => forGo tg g (items.drop (i + 1)) e | .ct e => forGo tg g (items.drop (i + 1)) e | .bk e => .nx e | o => o) Z := q2
      refine .inr ⟨hgo, fun σ' H' => ∃ B env, RE K Bs H0 B H' σ' env ∧ SPo K mg W B0 H0 (forGo tg g (items.drop (i + 1)) env) Z, fun σ' H' w => ⟨items.length - (i + 1), by omega, rfl, w⟩, fun y H2 hy => ?_⟩
      obtain ⟨B2, x2, hd⟩ := hyld y H2 hy
      refine ⟨Bs, H0, B2, env1, items[i], e1, R1.on x2, hd, w, fun σ2 _ R2 => ⟨Bs, H0, B2, e1, R2, ?_⟩⟩
      cases w2 : g e1 with
      | nx e => rw [w2] at q3; exact fun σ B H R => ⟨B, e, R, q3⟩
      | ct e => rw [w2] at q3; exact fun σ B H R => ⟨B, e, R, q3⟩
      | bk e => rw [w2] at q3; exact fun σ B H R => q3 σ B H (R.debase x0)
      | rt d => rw [w2] at q3; exact fun v B H x r => q3 v B H (Ext.down x x0) r
      | rl d => rw [w2] at q3; exact fun p vs B H x a b c r => q3 p vs B H (Ext.down x x0) a b c r
      | ex z e => rw [w2] at q3; exact fun c d σ B H R r => q3 c d σ B H (R.debase x0) r
      | st => rw [w2] at q3; exact q3.elim
  · refine .inl ⟨stop (by omega), ?_⟩
    rw [List.drop_eq_nil_of_le (by omega)] at q1
    exact q1 σ1 B1 H1 (R1.debase x0)

/-! the sources -/
def D.items : D → Option (List D)
  | .list ds => some ds
  | .tuple ds => some ds
  | .str s => some (s.cps.toList.map fun c => .str ⟨#[c]⟩)
  | .none => none
  | .bool _ => none
  | .int _ => none
  | .dict _ => none
def D.itemsL : D → Option (List D)
  | .list ds => some ds
  | _ => none
def D.itemsT : D → Option (List D)
  | .tuple ds => some ds
  | _ => none
def D.itemsS : D → Option (List D)
  | .str s => some (s.cps.toList.map fun c => .str ⟨#[c]⟩)
  | _ => none
/-- over a list that stays, a tuple -/
theorem itl_ok {B : Hp} {a : Addr} {vs : List V} {ds : List D} (hs : SqL K B a vs) (ha : DpAll K B vs ds) : ItOk K B (Itl K a) ds := fun i B1 H1 s1 s2 => by
  have h2 : SqL K H1 a vs := s2.seq (s1.seq hs)
  refine ⟨fun d hd => ?_, fun hl => ⟨vs, h2, by rw [DpAll.length ha]; exact hl⟩⟩
  obtain ⟨v, g1, g2⟩ := DpAll.get ha hd
  refine ⟨⟨vs, v, h2, g1⟩, fun x H2 hy => ?_⟩
  obtain ⟨rfl, hy⟩ := hy
  have e := hy vs h2
  rw [g1] at e
  cases e
  exact ⟨B1, Ext.refl s2, Dp.up s1 _ _ g2⟩
theorem itt_ok {B : Hp} {a : Addr} {vs : List V} {ds : List D} (hs : SqT K B a vs) (ha : DpAll K B vs ds) : ItOk K B (Itt K a) ds := fun i B1 H1 s1 s2 => by
  have h2 : SqT K H1 a vs := Same.tup s2 (Same.tup s1 hs)
  refine ⟨fun d hd => ?_, fun hl => ⟨vs, h2, by rw [DpAll.length ha]; exact hl⟩⟩
  obtain ⟨v, g1, g2⟩ := DpAll.get ha hd
  refine ⟨⟨vs, v, h2, g1⟩, fun x H2 hy => ?_⟩
  obtain ⟨rfl, hy⟩ := hy
  have e := hy vs h2
  rw [g1] at e
  cases e
  exact ⟨B1, Ext.refl s2, Dp.up s1 _ _ g2⟩
theorem its_ok {B : Hp} {x : Str} : ItOk K B (Its x) (x.cps.toList.map fun c => .str ⟨#[c]⟩) := fun i B1 H1 s1 s2 => by
  refine ⟨fun d hd => ?_, fun hl => show x.cps.size ≤ i by simpa using hl⟩
  rw [List.getElem?_map] at hd
  cases hc : x.cps.toList[i]? with
  | none => rw [hc] at hd; cases hd
  | some c =>
    rw [hc] at hd
    cases hd
    have hc' : x.cps[i]? = some c := by simpa using hc
    refine ⟨(Array.getElem?_eq_some_iff.mp hc').1, fun y H2 hy => ?_⟩
    obtain ⟨rfl, c', e1, rfl⟩ := hy
    rw [hc'] at e1
    cases e1
    exact ⟨B1, Ext.refl s2, .str _⟩
theorem pi_weak {tg iter : Expr} {t t' : TI} (h : PI X tg iter t) (i : ∀ σ H R, t' σ H R → t σ H R) : PI X tg iter t' := ⟨fun pins s σ H R I q => h.run pins s σ H R I (i _ _ _ q)⟩
/-- an expression that is a list: walked -/
theorem i_list {t : Expr} (he : PE X e (tD K mg W fa)) (hK : X.K = K := by rfl) : PI X t e (tI K mg W (sUn D.itemsL fa)) := by
  subst hK
  refine pi_weak (pi_list he) fun σ H R q => ?_
  refine T.bind mono_I q fun B0 H0 d v B1 H1 env RR rv q1 => ?_
  obtain ⟨c, hc, q2⟩ := q1.of
  cases d with
  | list ds =>
    cases hc
    cases rv with
    | lst hs ha => exact ⟨_, rfl, ⟨_, RR.ext.s.seq hs⟩, q2 _ B1 H1 (Ext.refl RR.ext.s) (itl_ok hs ha)⟩
  | none => cases hc
  | bool _ => cases hc
  | int _ => cases hc
  | str _ => cases hc
  | tuple _ => cases hc
  | dict _ => cases hc
theorem i_tup {t : Expr} (he : PE X e (tD K mg W fa)) (hK : X.K = K := by rfl) : PI X t e (tI K mg W (sUn D.itemsT fa)) := by
  subst hK
  refine pi_weak (pi_tup he) fun σ H R q => ?_
  refine T.bind mono_I q fun B0 H0 d v B1 H1 env RR rv q1 => ?_
  obtain ⟨c, hc, q2⟩ := q1.of
  cases d with
  | tuple ds =>
    cases hc
    cases rv with
    | tup hs ha => exact ⟨_, rfl, ⟨_, Same.tup RR.ext.s hs⟩, q2 _ B1 H1 (Ext.refl RR.ext.s) (itt_ok hs ha)⟩
  | none => cases hc
  | bool _ => cases hc
  | int _ => cases hc
  | str _ => cases hc
  | list _ => cases hc
  | dict _ => cases hc
theorem i_str {t : Expr} (he : PE X e (tD K mg W fa)) : PI X t e (tI K mg W (sUn D.itemsS fa)) := by
  refine pi_weak (pi_str he) fun σ H R q => ?_
  refine T.bind mono_I q fun B0 H0 d v B1 H1 env RR rv q1 => ?_
  obtain ⟨c, hc, q2⟩ := q1.of
  cases d with
  | str x =>
    cases hc
    cases rv
    exact ⟨x, rfl, q2 _ B1 H1 (Ext.refl RR.ext.s) its_ok⟩
  | none => cases hc
  | bool _ => cases hc
  | int _ => cases hc
  | list _ => cases hc
  | tuple _ => cases hc
  | dict _ => cases hc
/-- range -/
def D.rng1 : List D → Option (List D)
  | [.int j] => if -(2 ^ 62) ≤ j ∧ j < 2 ^ 62 then some ((List.range j.toNat).map fun i : Nat => .int (i : Int)) else none
  | _ => none
def D.rng2 : List D → Option (List D)
  | [.int i, .int j] => if -(2 ^ 62) ≤ i ∧ i < 2 ^ 62 ∧ -(2 ^ 62) ≤ j ∧ j < 2 ^ 62 then some ((List.range (j - i).toNat).map fun k : Nat => .int (i + (k : Int))) else none
  | _ => none
theorem itr_ok {B : Hp} {lo : Int} {n : Nat} : ItOk K B (Itr lo n) ((List.range n).map fun k : Nat => .int (lo + (k : Int))) := fun i B1 H1 s1 s2 => by
  refine ⟨fun d hd => ?_, fun hl => show n ≤ i by simpa using hl⟩
  rw [List.getElem?_map] at hd
  by_cases hi : i < n
  · rw [List.getElem?_range hi] at hd
    cases hd
    refine ⟨hi, fun y H2 hy => ?_⟩
    obtain ⟨rfl, rfl⟩ := hy
    exact ⟨B1, Ext.refl s2, .int _⟩
  · rw [List.getElem?_eq_none (by simpa using hi)] at hd
    cases hd
theorem i_rng1 {t : Expr} {p : Pos} (hg : Gl X "range") (hm : X.mg "range" = none) (ha : PA X [a] (tA K mg W fs)) (hs : starEach [a] X.env = [(false, eval a X.env)] := by rfl) : PI X t (.Call (.Name "range" p) [a] [] pos) (tI K mg W (sCa D.rng1 fs)) := by
  refine pi_weak (pi_range1 hg hm ha hs) fun σ H R q => ?_
  refine T.bind mono_I q fun B0 H0 ds vs B1 H1 env RR rvs q1 => ?_
  obtain ⟨c, hc, q2⟩ := q1.of
  unfold D.rng1 at hc
  split at hc
  · rename_i j
    cases rvs with
    | cons h1 h2 =>
      cases h1
      cases h2
      split at hc
      · rename_i hj
        cases hc
        refine ⟨j, rfl, hj.1, hj.2, q2 _ B1 H1 (Ext.refl RR.ext.s) ?_⟩
        have h := itr_ok (K := K) (B := B1) (lo := 0) (n := j.toNat)
        simp only [Int.zero_add] at h
        exact h
      · cases hc
  · cases hc
theorem i_rng2 {t : Expr} {p : Pos} (hg : Gl X "range") (hm : X.mg "range" = none) (ha : PA X [a, b] (tA K mg W fs)) (hs : starEach [a, b] X.env = [(false, eval a X.env), (false, eval b X.env)] := by rfl) (hs2 : starEach [b] X.env = [(false, eval b X.env)] := by rfl) :
    PI X t (.Call (.Name "range" p) [a, b] [] pos) (tI K mg W (sCa D.rng2 fs)) := by
  refine pi_weak (pi_range2 hg hm ha hs hs2) fun σ H R q => ?_
  refine T.bind mono_I q fun B0 H0 ds vs B1 H1 env RR rvs q1 => ?_
  obtain ⟨c, hc, q2⟩ := q1.of
  unfold D.rng2 at hc
  split at hc
  · rename_i i j
    cases rvs with
    | cons h1 h2 =>
      cases h1
      cases h2 with
      | cons h3 h4 =>
        cases h3
        cases h4
        split at hc
        · rename_i hj
          cases hc
          exact ⟨i, j, rfl, hj, q2 _ B1 H1 (Ext.refl RR.ext.s) itr_ok⟩
        · cases hc
  · cases hc
end
end PL

/-! The pure layer, part 4: enumerate over tuples and texts, zip, comprehensions, calls of defs. -/
namespace PL
open PySem PySem.Spec PyProof.Rows L2

/-! ### enumerate(v), one argument, over anything that begins -/
theorem enum_new1 {v : Value} {o : Obj} {C : Heap → Prop} (Y : Begins v o C) :
    Meets (Builtin.«enumerate.__new__» ⟨[.type "enumerate", v], []⟩) (fun _ R s => C s.heap ∧
      R (.ok (.ret (.ref (s.heap.push o).objs.size))) { s with heap := (s.heap.push o).push { cls := .type "enumerate", data := .fields #[.none, .bool false, .ref s.heap.objs.size, rawInt 0, .none, .none] } }) :=
  Meets.of_wp fun pr wo ar re st hyp => by
    obtain ⟨hp, gn, dr, tk, oz⟩ := st; obtain ⟨c1, hyp⟩ := hyp
    have hsub := sub_enumerate
    have go : ∀ {A' : Around} {E : Value → Shared → Prop} {Q : Value → Shared → Prop}, Q (.ref hp.objs.size) ⟨hp.push o, gn, dr, tk, oz⟩ → wpAny (model pr wo) A' (pyIter v) Q E ⟨hp, gn, dr, tk, oz⟩ := fun q => Y.iter pr wo _ _ ⟨hp, gn, dr, tk, oz⟩ _ c1 q
    wp_walk using go
    refine wpAny_stack_any fun _ => ?_; refine wpAny_pure ?_
    split
    · rename_i c _ _ _ _ _
      cases (c == Value.type "enumerate")
      all_goals (wp_walk using go; exact ⟨_, rfl, hyp⟩)
    · wp_walk using go
      exact ⟨_, rfl, hyp⟩
section
variable {P : Program} {w : World} {A : Around} {E : Value → Shared → Prop} {s : Shared}
theorem call_enum1 {v : Value} {o : Obj} {C : Heap → Prop} {Q : Value → Shared → Prop} (Y : Begins v o C) (c : C s.heap)
    (h : ∀ h', IsEnum h' (s.heap.objs.size + 1) s.heap.objs.size 0 .none → h'.get? s.heap.objs.size = some o → h'.objs.size = s.heap.objs.size + 2 → (∀ b o, s.heap.get? b = some o → h'.get? b = some o) → Q (.ref (s.heap.objs.size + 1)) { s with heap := h' }) :
    wpAny (model P w) A (call (.type "enumerate") [v]) Q E s := by
  refine callType_new F.called_enumerate (by decide) (F.typeCall_enumerate_1 _) (F.newCall_enumerate_1 _) (fun obj => F.args_object_init_2 obj _) F.entry_enumerate_new (enum_new1 Y) ⟨c, ?_⟩
  have hz : (s.heap.push o).objs.size = s.heap.objs.size + 1 := Heap.size_push ..
  show _ ∧ _
  rw [hz]
  have he := Heap.get?_push_size (s.heap.push o) (o := { cls := .type "enumerate", data := .fields #[.none, .bool false, .ref s.heap.objs.size, rawInt 0, .none, .none] }) rfl
  rw [hz] at he
  exact ⟨⟨_, he, rfl⟩, h _ he (Heap.get?_push_of_some _ (Heap.get?_push_size _ Y.free)) (by rw [Heap.size_push, hz]) fun b o x => Heap.get?_push_of_some _ (Heap.get?_push_of_some _ x)⟩
end

def IteT (K : PySem.W.Frag) (a : Addr) (n : Nat) : It where
  go := fun i H => i < n ∧ ∃ (xs : List V) (x : V), SqT K H a xs ∧ xs.length = n ∧ xs[i]? = some x
  yld := fun i H v H' => ∃ T x, v = .ref T ∧ H T = none ∧ H' = upd H T (.tup [.int (i : Nat), x]) ∧ ∀ xs, SqT K H a xs → xs[i]? = some x
  stop := fun i H => n ≤ i ∧ ∃ xs : List V, SqT K H a xs ∧ xs.length = n
def IteS (x : Str) : It where
  go := fun i _ => i < x.cps.size
  yld := fun i H v H' => ∃ T c, v = .ref T ∧ H T = none ∧ H' = upd H T (.tup [.int (i : Nat), .str ⟨#[c]⟩]) ∧ x.cps[i]? = some c
  stop := fun i _ => x.cps.size ≤ i
section
variable {P : Program} {w : World} {K : PySem.W.Frag}
/-- one turn of an enumerate over a drawn thing -/
theorem enum_turn {X : Cx} {elts : List Expr} {kk i n : Nat} {tpos : Pos} {e it : Addr} {fp : List Addr} {R : Nat → Value → Prop} {S : Nat → Heap → Prop} {pins : List (Addr × Obj)} {s : Shared} {σ : L2.St} {H : Hp} {E : Value → Shared → Prop}
    {Y : V → Hp → Prop} (Dr : Draws X.prog X.w X.A.in1 it fp n R S) (I : Inv X pins σ H s) (hf : ∀ b ∈ [e, it], FpOk X pins H b) {old : Value} (he : IsEnum s.heap e it ((i : Nat) : Int) old) (hst : S i s.heap) (hne : e ≠ it) (hef : e ∉ fp) (hlt : i < n)
    (hv : ∀ u, R i u → ∃ x, RelV x u ∧ Y (.ref s.heap.objs.size) (upd H s.heap.objs.size (.tup [.int (i : Nat), x]))) :
    wpAny (model X.prog X.w) X.A (pyNext (.ref e)) (fun r s1 => ∃ u, r = some u ∧
      wpAny (model X.prog X.w) X.A (letOwnedTupleGo (.Tuple elts kk tpos) (.ref e) u) (fun _ s2 => ∃ x H', Inv X pins σ H' s2 ∧ RelV x u ∧ Y x H' ∧ ((∃ old, IsEnum s2.heap e it (((i + 1 : Nat)) : Int) old) ∧ S (i + 1) s2.heap ∧ e ≠ it ∧ e ∉ fp) ∧ ∀ b ∈ [e, it], H' b = none) E s1) E s := by
  have hel : e < s.heap.objs.size := Heap.lt_size he
  have hil : it < s.heap.objs.size := by obtain ⟨_, q⟩ := Dr.live _ _ hst; exact Heap.lt_size q
  refine wpAny_pyNext_enum_itemD Dr he hst hlt hne hef fun u h' tk hu ho hs' hT hsz hk => ?_
  obtain ⟨x, rx, y⟩ := hv u hu
  refine ⟨_, rfl, wpAny_letOwnedTupleGo_enum (s := { s with heap := h', toks := tk + 1 }) ho fun h'' he' sb => ?_⟩
  have hT2 : h''.get? s.heap.objs.size = some { cls := .type "tuple", data := .seq #[.int i tk, u] } := (sb.2 _ (Nat.ne_of_gt hel)).trans hT
  have new : ObjOk X.prog X.w (upd H s.heap.objs.size (.tup [.int (i : Nat), x])) h'' s.heap.objs.size (.tup [.int (i : Nat), x]) :=
    ⟨by show 2 ≤ sizeLine; decide, [.int i tk, u], .cons ⟨_, rfl⟩ (.cons rx .nil), ⟨_, hT2, rfl, _, rfl⟩⟩
  have I1 : Inv X pins σ (upd H s.heap.objs.size (.tup [.int (i : Nat), x])) { s with heap := h'', toks := tk + 1 } :=
    I.turnedNew (ch := [e, it]) (fun b ob hb q => (sb.2 b (fun z => hb (by simp [z]))).trans (hk b ob (fun z => hb (by simp [z])) (fun z => hb (by simp [z])) q)) hf (Nat.le_refl _) new
  have e1 : ((i + 1 : Nat) : Int) = (i : Int) + 1 := by omega
  refine ⟨.ref s.heap.objs.size, _, I1, rfl, y, ⟨⟨u, by rw [e1]; exact he'⟩, Dr.frame _ _ _ hs' fun b hb o q => (sb.2 b fun z => hef (z ▸ hb)).trans q, hne, hef⟩, fun b hb => ?_⟩
  have hb' : b < s.heap.objs.size := by
    have z : b = e ∨ b = it := by simpa using hb
    rcases z with z | z <;> rw [z] <;> assumption
  rw [upd_ne (Nat.ne_of_lt hb')]
  exact (hf b hb).1
theorem turn_enumT {elts : List Expr} {kk : Nat} {tpos : Pos} (a e it : Addr) (n : Nat) (hae : a ≠ e) (hai : a ≠ it) : Turn P w K (.Tuple elts kk tpos) (IteT K a n) [e, it] e
    (fun i h => i ≤ n ∧ (∃ old, IsEnum h e it ((i : Nat) : Int) old) ∧ h.IsTupleIter it a i ∧ e ≠ it) where
  mem := by simp
  obj := fun i h st b hb => by
    obtain ⟨_, ⟨old, he⟩, ⟨o, ho, hc, hd⟩, _⟩ := st
    have z : b = e ∨ b = it := by simpa using hb
    rcases z with z | z
    · subst z; exact ⟨_, he, fun v q => nomatch q⟩
    · subst z; exact ⟨o, ho, fun v q => by rw [hd] at q; cases q⟩
  keep := fun i h h' st k => by
    obtain ⟨hi0, ⟨old, he⟩, hi, hne⟩ := st
    exact ⟨hi0, ⟨old, k e (by simp) _ he⟩, hi.at fun o q => k it (by simp) o q, hne⟩
  item := by
    intro X hP hw hK hc i pins s σ H E I hf st hg
    subst hP hw hK
    obtain ⟨hi0, ⟨old, he⟩, hit, hne⟩ := st
    obtain ⟨hin, xs, x, hq, hxl, hx⟩ := hg
    obtain ⟨its, rv, p, hz⟩ := I.tuple hq
    have hlt : i < its.toArray.size := by
      have := (List.getElem?_eq_some_iff.mp hx).1
      rw [List.size_toArray, ← rv.length]; exact this
    have Dr := Draws.tuple (prog := X.prog) (w := X.w) (A := X.A.in1) (I.ok.hd hc) it a hai its.toArray
    refine thn (enum_turn (Y := fun v H' => (IteT X.K a n).yld i H v H') Dr I hf he ⟨hit, p⟩ hne (by simp [hne, Ne.symm hae]) hlt fun u hu => ?_) fun r s1 ⟨u, e1, h1⟩ => ⟨u, e1, thn h1 fun _ s2 ⟨y, H', I', ry, yy, ⟨ho, hs, hn, _⟩, hb⟩ => ⟨y, H', I', ry, yy, ⟨hin, ho, hs.1, hn⟩, hb⟩⟩
    obtain ⟨u', hu', ru⟩ := rv.get hx
    have e2 : u = u' := by
      have q : its.toArray[i]? = some u := hu
      rw [show its.toArray[i]? = its[i]? by simp, hu'] at q
      exact (Option.some.inj q).symm
    subst e2
    exact ⟨x, ru, _, x, rfl, I.hok.fresh (Nat.le_refl _), rfl, fun ys hy => by rw [I.tuple_inj hy hq]; exact hx⟩
  done := by
    intro X hP hw hK hc i pins s σ H E I hf st hg
    subst hP hw hK
    obtain ⟨hi0, ⟨old, he⟩, hit, hne⟩ := st
    obtain ⟨hni, xs, hq, hxl⟩ := hg
    obtain ⟨its, rv, p, hz⟩ := I.tuple hq
    obtain ⟨f0, f1, f2, f3, f4, f5⟩ := hf it (by simp)
    have Dr := Draws.tuple (prog := X.prog) (w := X.w) (A := X.A.in1) (I.ok.hd hc) it a hai its.toArray
    have hsz : its.toArray.size = i := by
      rw [List.size_toArray, ← rv.length, hxl]; omega
    exact wpAny_pyNext_enum_endD Dr he ⟨by rw [hsz]; exact hit, p⟩ fun h' eb => ⟨rfl, I.turned (t' := s.toks) (fun b o hb q => eb b o hb q) f0 f1 f3 f4 f5⟩
  self := fun A i s Q E st h => let ⟨_, ⟨_, he⟩, _⟩ := st; wpAny_pyIter_enum he h
theorem turn_enumS {elts : List Expr} {kk : Nat} {tpos : Pos} (x : Str) (t : Tok) (e it : Addr) : Turn P w K (.Tuple elts kk tpos) (IteS x) [e, it] e
    (fun i h => i ≤ x.cps.size ∧ (∃ old, IsEnum h e it ((i : Nat) : Int) old) ∧ h.IsStrIter it (strIterType x) x t i ∧ e ≠ it) where
  mem := by simp
  obj := fun i h st b hb => by
    obtain ⟨_, ⟨old, he⟩, ⟨o, ho, hc, hd⟩, _⟩ := st
    have z : b = e ∨ b = it := by simpa using hb
    rcases z with z | z
    · subst z; exact ⟨_, he, fun v q => nomatch q⟩
    · subst z; exact ⟨o, ho, fun v q => by rw [hd] at q; cases q⟩
  keep := fun i h h' st k => by
    obtain ⟨hi0, ⟨old, he⟩, ⟨o, ho, hc, hd⟩, hne⟩ := st
    exact ⟨hi0, ⟨old, k e (by simp) _ he⟩, ⟨o, k it (by simp) o ho, hc, hd⟩, hne⟩
  item := by
    intro X hP hw hK hc i pins s σ H E I hf st hg
    subst hP hw hK
    obtain ⟨hi0, ⟨old, he⟩, hit, hne⟩ := st
    have hin : i < x.cps.size := hg
    have go : ∀ {Dr : Draws X.prog X.w X.A.in1 it [it] x.cps.size (fun i v => ∃ c u, x.cps[i]? = some c ∧ v = .str ⟨#[c]⟩ u) (fun i h => h.IsStrIter it (strIterType x) x t i)}, wpAny (model X.prog X.w) X.A (pyNext (.ref e)) (fun r s1 => ∃ u, r = some u ∧
      wpAny (model X.prog X.w) X.A (letOwnedTupleGo (.Tuple elts kk tpos) (.ref e) u) (fun _ s2 => ∃ y H', Inv X pins σ H' s2 ∧ RelV y u ∧ (IteS x).yld i H y H' ∧ (i + 1 ≤ x.cps.size ∧ (∃ old, IsEnum s2.heap e it (((i + 1 : Nat)) : Int) old) ∧ s2.heap.IsStrIter it (strIterType x) x t (i + 1) ∧ e ≠ it) ∧ ∀ b ∈ [e, it], H' b = none) E s1) E s := by
      intro Dr
      refine thn (enum_turn (Y := fun v H' => (IteS x).yld i H v H') Dr I hf he hit hne (by simp [hne]) hin fun u hu => ?_) fun r s1 ⟨u, e1, h1⟩ => ⟨u, e1, thn h1 fun _ s2 ⟨y, H', I', ry, yy, ⟨ho, hs, hn, _⟩, hb⟩ => ⟨y, H', I', ry, yy, ⟨hin, ho, hs, hn⟩, hb⟩⟩
      obtain ⟨c, tk, hc, rfl⟩ := hu
      exact ⟨.str ⟨#[c]⟩, ⟨_, rfl⟩, _, c, rfl, I.hok.fresh (Nat.le_refl _), rfl, hc⟩
    have hh : X.A.in1.handled = none := I.ok.hd hc
    cases ha : x.cps.all (· < 128)
    · have e3 : strIterType x = "str_iterator" := by simp [strIterType, ha]
      exact go (Dr := by rw [e3]; exact Draws.strWide hh it x t)
    · have e3 : strIterType x = "str_ascii_iterator" := by simp [strIterType, ha]
      exact go (Dr := by rw [e3]; exact Draws.strAscii hh it x t)
  done := by
    intro X hP hw hK hc i pins s σ H E I hf st hg
    subst hP hw hK
    obtain ⟨hi0, ⟨old, he⟩, hit, hne⟩ := st
    have hni : x.cps.size ≤ i := hg
    obtain ⟨f0, f1, f2, f3, f4, f5⟩ := hf it (by simp)
    have hi : i = x.cps.size := by omega
    subst hi
    have go : ∀ {Dr : Draws X.prog X.w X.A.in1 it [it] x.cps.size (fun i v => ∃ c u, x.cps[i]? = some c ∧ v = .str ⟨#[c]⟩ u) (fun i h => h.IsStrIter it (strIterType x) x t i)}, wpAny (model X.prog X.w) X.A (pyNext (.ref e)) (fun r s1 => r = none ∧ Inv X pins σ H s1) E s := by
      intro Dr
      exact wpAny_pyNext_enum_endD Dr he hit fun h' eb => ⟨rfl, I.turned (t' := s.toks) (fun b o hb q => eb b o hb q) f0 f1 f3 f4 f5⟩
    have hh : X.A.in1.handled = none := I.ok.hd hc
    cases ha : x.cps.all (· < 128)
    · have e3 : strIterType x = "str_iterator" := by simp [strIterType, ha]
      exact go (Dr := by rw [e3]; exact Draws.strWide hh it x t)
    · have e3 : strIterType x = "str_ascii_iterator" := by simp [strIterType, ha]
      exact go (Dr := by rw [e3]; exact Draws.strAscii hh it x t)
  self := fun A i s Q E st h => let ⟨_, ⟨_, he⟩, _⟩ := st; wpAny_pyIter_enum he h
end
def iEnumA (K : PySem.W.Frag) (ta : TA) : TI := fun σ H R => ta σ H fun vs H1 => ∃ v, vs = [v] ∧ ((∃ a xs, v = .ref a ∧ SqL K H1 a xs ∧ R (Ite K a) H1) ∨ (∃ a xs, v = .ref a ∧ SqT K H1 a xs ∧ R (IteT K a xs.length) H1) ∨ ∃ x, v = .str x ∧ R (IteS x) H1)
theorem pi_enumA {X : Cx} {e : Expr} {ta : TA} {p pos tpos : Pos} {elts : List Expr} {kk : Nat} (hg : Gl X "enumerate") (hm : X.mg "enumerate" = none) (ha : PA X [e] ta) (hs : starEach [e] X.env = [(false, eval e X.env)] := by rfl) :
    PI X (.Tuple elts kk tpos) (.Call (.Name "enumerate" p) [e] [] pos) (iEnumA X.K ta) := by
  refine ⟨fun pins s σ H R I h => ?_⟩
  refine Call_ (ld_blt I hg hm boot_enumerate (PyProof.Rows.callWith_type1 (thn (ha.run pos pins s σ H _ I h) fun us s1 ⟨vs, H1, I1, r1, q1⟩ => ?_) hs rfl))
  obtain ⟨v, rfl, q⟩ := q1
  have two : ∀ b, b ∈ [s1.heap.objs.size + 1, s1.heap.objs.size] → FpOk X pins H1 b := fun b hb => by
    have z : b = s1.heap.objs.size + 1 ∨ b = s1.heap.objs.size := by simpa using hb
    have hle : s1.heap.objs.size ≤ b := by
      rcases z with z | z
      · rw [z]; exact Nat.le_add_right _ _
      · rw [z]; exact Nat.le_refl _
    exact I1.fpOk hle (I1.hok.fresh hle)
  cases r1 with
  | cons r rr =>
    cases rr
    rcases q with ⟨a, xs, rfl, hq, q⟩ | ⟨a, xs, rfl, hq, q⟩ | ⟨x, rfl, q⟩
    · cases r
      obtain ⟨its, rv, p', hz⟩ := I1.list hq
      refine call_enumerate_list p'.isList fun h' he hit hsz hk => wpAny_pyIter_enum he ?_
      have I2 : Inv X pins σ H1 { s1 with heap := h' } := I1.kept (t' := s1.toks) hk
      exact ⟨s1.heap.objs.size + 1, [s1.heap.objs.size + 1, s1.heap.objs.size], _, _, H1, rfl, I2, turn_enum a (s1.heap.objs.size + 1) s1.heap.objs.size, ⟨⟨.none, he⟩, hit, Nat.succ_ne_self _⟩, two, q⟩
    · cases r
      obtain ⟨its, rv, p', hz⟩ := I1.tuple hq
      have hal : a < s1.heap.objs.size := by obtain ⟨_, ho, _⟩ := id p'; exact Heap.lt_size ho
      refine call_enum1 (begins_tuple a its.toArray) p' fun h' he hit hsz hk => wpAny_pyIter_enum he ?_
      have I2 : Inv X pins σ H1 { s1 with heap := h' } := I1.kept (t' := s1.toks) hk
      exact ⟨s1.heap.objs.size + 1, [s1.heap.objs.size + 1, s1.heap.objs.size], _, _, H1, rfl, I2, turn_enumT a (s1.heap.objs.size + 1) s1.heap.objs.size xs.length (Nat.ne_of_lt (Nat.lt_succ_of_lt hal)) (Nat.ne_of_lt hal), ⟨Nat.zero_le _, ⟨.none, he⟩, ⟨_, hit, rfl, rfl⟩, Nat.succ_ne_self _⟩, two, q⟩
    · obtain ⟨t, rfl⟩ := r
      refine call_enum1 (begins_text x t) trivial fun h' he hit hsz hk => wpAny_pyIter_enum he ?_
      have I2 : Inv X pins σ H1 { s1 with heap := h' } := I1.kept (t' := s1.toks) hk
      exact ⟨s1.heap.objs.size + 1, [s1.heap.objs.size + 1, s1.heap.objs.size], _, _, H1, rfl, I2, turn_enumS x t (s1.heap.objs.size + 1) s1.heap.objs.size, ⟨Nat.zero_le _, ⟨.none, he⟩, ⟨_, hit, rfl, rfl⟩, Nat.succ_ne_self _⟩, two, q⟩

/-! ### enumerate, zip over data -/
def enumD (i : Nat) : List D → List D
  | [] => []
  | d :: ds => .tuple [.int (i : Int), d] :: enumD (i + 1) ds
def D.enum : List D → Option (List D)
  | [.list ds] => some (enumD 0 ds)
  | [.tuple ds] => some (enumD 0 ds)
  | [.str s] => some (enumD 0 (s.cps.toList.map fun c => .str ⟨#[c]⟩))
  | _ => none
theorem enumD_get : ∀ (ds : List D) (k i : Nat), (enumD k ds)[i]? = (ds[i]?).map fun d => .tuple [.int ((k + i : Nat) : Int), d]
  | [], _, _ => by simp [enumD]
  | d :: ds, k, 0 => by simp [enumD]
  | d :: ds, k, i + 1 => by
    have h := enumD_get ds (k + 1) i
    simp only [enumD, List.getElem?_cons_succ]
    rw [h, show k + 1 + i = k + (i + 1) by omega]
theorem enumD_length : ∀ (ds : List D) (k : Nat), (enumD k ds).length = ds.length
  | [], _ => rfl
  | d :: ds, k => congrArg (· + 1) (enumD_length ds (k + 1))
/-- pairs in new tuples -/
theorem new_pair {K : PySem.W.Frag} {B H : Hp} {T : Addr} {v1 v2 : V} {d1 d2 : D} (s : Same B H) (hT : H T = none) (h1 : Dp K B v1 d1) (h2 : Dp K B v2 d2) :
    ∃ B2, Ext B H B2 (upd H T (.tup [v1, v2])) ∧ Dp K B2 (.ref T) (.tuple [d1, d2]) := by
  have x := Ext.new (o := .tup [v1, v2]) s hT
  exact ⟨_, x, .tup (.inl (.inl upd_same)) (.cons (Dp.up x.b _ _ h1) (.cons (Dp.up x.b _ _ h2) .nil))⟩
section
variable {X : Cx} {K : PySem.W.Frag} {mg : Str → Option Value} {W : WX} {a b c e o : Expr} {es : List Expr} {st : Stmt} {sts : List Stmt} {fa fb fc : En → O D} {fs : En → O (List D)} {ga gb : En → O Bool} {g h : En → Fl} {pos : Pos}
theorem i_enum {elts : List Expr} {kk : Nat} {p tpos : Pos} (hg : Gl X "enumerate") (hm : X.mg "enumerate" = none) (ha : PA X [e] (tA K mg W fs)) (hs : starEach [e] X.env = [(false, eval e X.env)] := by rfl) (hK : X.K = K := by rfl) :
    PI X (.Tuple elts kk tpos) (.Call (.Name "enumerate" p) [e] [] pos) (tI K mg W (sCa D.enum fs)) := by
  subst hK
  refine pi_weak (pi_enumA hg hm ha hs) fun σ H R q => ?_
  refine T.bind mono_I q fun B0 H0 ds vs B1 H1 env RR rvs q1 => ?_
  obtain ⟨c, hc, q2⟩ := q1.of
  have q3 := fun J (ok : ItOk X.K B1 J c) => q2 J B1 H1 (Ext.refl RR.ext.s) ok
  have rvs' : DpAll X.K B1 vs ds := rvs
  clear q1 q2 rvs
  unfold D.enum at hc
  split at hc
  · rename_i ds
    cases hc
    cases rvs' with
    | cons r1 r2 =>
      cases r2
      cases r1 with
      | lst hs ha =>
        rename_i p xs
        refine ⟨_, rfl, .inl ⟨p, xs, rfl, RR.ext.s.seq hs, q3 _ fun i B2 H2 s1 s2 => ?_⟩⟩
        have hq : SqL X.K H2 p xs := s2.seq (s1.seq hs)
        refine ⟨fun d hd => ?_, fun hl => ⟨xs, hq, by rw [DpAll.length ha, ← enumD_length ds 0]; exact hl⟩⟩
        rw [enumD_get] at hd
        cases hd' : ds[i]? with
        | none => rw [hd'] at hd; cases hd
        | some d' =>
          rw [hd'] at hd
          obtain ⟨v, g1, g2⟩ := DpAll.get ha hd'
          refine ⟨⟨xs, v, hq, g1⟩, fun y H3 hy => ?_⟩
          obtain ⟨T, x, rfl, hT, rfl, hx⟩ := hy
          have e1 := hx xs hq
          rw [g1] at e1
          cases e1
          cases hd
          rw [Nat.zero_add]
          exact new_pair s2 hT (.int _) (Dp.up s1 _ _ g2)
  · rename_i ds
    cases hc
    cases rvs' with
    | cons r1 r2 =>
      cases r2
      cases r1 with
      | tup hs ha =>
        rename_i p xs
        refine ⟨_, rfl, .inr (.inl ⟨p, xs, rfl, Same.tup RR.ext.s hs, q3 _ fun i B2 H2 s1 s2 => ?_⟩)⟩
        have hq : SqT X.K H2 p xs := Same.tup s2 (Same.tup s1 hs)
        refine ⟨fun d hd => ?_, fun hl => ⟨by rw [DpAll.length ha, ← enumD_length ds 0]; exact hl, xs, hq, rfl⟩⟩
        rw [enumD_get] at hd
        cases hd' : ds[i]? with
        | none => rw [hd'] at hd; cases hd
        | some d' =>
          rw [hd'] at hd
          obtain ⟨v, g1, g2⟩ := DpAll.get ha hd'
          refine ⟨⟨(List.getElem?_eq_some_iff.mp g1).1, xs, v, hq, rfl, g1⟩, fun y H3 hy => ?_⟩
          obtain ⟨T, x, rfl, hT, rfl, hx⟩ := hy
          have e1 := hx xs hq
          rw [g1] at e1
          cases e1
          cases hd
          rw [Nat.zero_add]
          exact new_pair s2 hT (.int _) (Dp.up s1 _ _ g2)
  · rename_i x
    cases hc
    cases rvs' with
    | cons r1 r2 =>
      cases r2
      cases r1
      refine ⟨_, rfl, .inr (.inr ⟨x, rfl, q3 _ fun i B2 H2 s1 s2 => ?_⟩)⟩
      refine ⟨fun d hd => ?_, fun hl => show x.cps.size ≤ i by rw [enumD_length] at hl; simpa using hl⟩
      rw [enumD_get, List.getElem?_map] at hd
      cases hd' : x.cps.toList[i]? with
      | none => rw [hd'] at hd; cases hd
      | some c =>
        rw [hd'] at hd
        have hc' : x.cps[i]? = some c := by simpa using hd'
        refine ⟨(Array.getElem?_eq_some_iff.mp hc').1, fun y H3 hy => ?_⟩
        obtain ⟨T, c', rfl, hT, rfl, hx⟩ := hy
        rw [hc'] at hx
        cases hx
        cases hd
        rw [Nat.zero_add]
        exact new_pair s2 hT (.int _) (.str _)
  · cases hc
def zipD : List D → List D → List D
  | x :: xs, y :: ys => .tuple [x, y] :: zipD xs ys
  | [], _ => []
  | _ :: _, [] => []
def D.zip : List D → Option (List D)
  | [.list ds, .list es] => some (zipD ds es)
  | [.tuple ds, .tuple es] => some (zipD ds es)
  | _ => none
theorem zipD_get : ∀ (ds es : List D) (i : Nat) (z : D), (zipD ds es)[i]? = some z → ∃ x y, ds[i]? = some x ∧ es[i]? = some y ∧ z = .tuple [x, y]
  | [], _, _, _, h => by simp [zipD] at h
  | _ :: _, [], _, _, h => by simp [zipD] at h
  | d :: ds, e :: es, 0, z, h => by
    simp [zipD] at h
    exact ⟨d, e, rfl, rfl, h.symm⟩
  | d :: ds, e :: es, i + 1, z, h => by
    have h' : (zipD ds es)[i]? = some z := by simpa [zipD] using h
    obtain ⟨x, y, h1, h2, h3⟩ := zipD_get ds es i z h'
    exact ⟨x, y, by simpa using h1, by simpa using h2, h3⟩
theorem zipD_end : ∀ (ds es : List D) (i : Nat), (zipD ds es).length ≤ i → ds.length ≤ i ∨ es.length ≤ i
  | [], _, _, _ => .inl (Nat.zero_le _)
  | _ :: _, [], _, _ => .inr (Nat.zero_le _)
  | d :: ds, e :: es, 0, h => by simp [zipD] at h
  | d :: ds, e :: es, i + 1, h => by
    rcases zipD_end ds es i (by simpa [zipD] using h) with z | z
    · exact .inl (by simpa using z)
    · exact .inr (by simpa using z)
theorem i_zip {elts : List Expr} {kk : Nat} {p tpos : Pos} (hg : Gl X "zip") (hm : X.mg "zip" = none) (ha : PA X [a, b] (tA K mg W fs))
    (hs : starEach [a, b] X.env = (false, eval a X.env) :: starEach [b] X.env := by rfl) (hpl : (backTo pos (starEach [b] X.env)).any (·.1) = false := by rfl) (hK : X.K = K := by rfl) :
    PI X (.Tuple elts kk tpos) (.Call (.Name "zip" p) [a, b] [] pos) (tI K mg W (sCa D.zip fs)) := by
  subst hK
  refine pi_weak (RZ.pi_zipA hg hm ha hs hpl) fun σ H R q => ?_
  refine T.bind mono_I q fun B0 H0 ds vs B1 H1 env RR rvs q1 => ?_
  obtain ⟨c, hc, q2⟩ := q1.of
  have q3 := fun J (ok : ItOk X.K B1 J c) => q2 J B1 H1 (Ext.refl RR.ext.s) ok
  have rvs' : DpAll X.K B1 vs ds := rvs
  clear q1 q2 rvs
  unfold D.zip at hc
  split at hc
  · rename_i ds es
    cases hc
    cases rvs' with
    | cons r1 r2 =>
      cases r2 with
      | cons r2 r3 =>
        cases r3
        cases r1 with
        | lst hs ha =>
          rename_i p1 xs
          cases r2 with
          | lst hs2 ha2 =>
            rename_i p2 ys
            refine ⟨p1, p2, xs, ys, rfl, .inl ⟨RR.ext.s.seq hs, RR.ext.s.seq hs2, q3 _ fun i B2 H2 s1 s2 => ?_⟩⟩
            have hq : SqL X.K H2 p1 xs := s2.seq (s1.seq hs)
            have hq2 : SqL X.K H2 p2 ys := s2.seq (s1.seq hs2)
            refine ⟨fun d hd => ?_, fun hl => ⟨xs, ys, hq, hq2, ?_⟩⟩
            · obtain ⟨x, y, h1, h2, rfl⟩ := zipD_get _ _ _ _ hd
              obtain ⟨v, g1, g2⟩ := DpAll.get ha h1
              obtain ⟨v', g1', g2'⟩ := DpAll.get ha2 h2
              refine ⟨⟨xs, ys, v, v', hq, hq2, g1, g1'⟩, fun y H3 hy => ?_⟩
              obtain ⟨T, x1, x2, rfl, hT, rfl, hx1, hx2⟩ := hy
              have e1 := hx1 xs hq
              have e2 := hx2 ys hq2
              rw [g1] at e1
              rw [g1'] at e2
              cases e1
              cases e2
              exact new_pair s2 hT (Dp.up s1 _ _ g2) (Dp.up s1 _ _ g2')
            · rw [DpAll.length ha, DpAll.length ha2]
              exact zipD_end _ _ _ hl
  · rename_i ds es
    cases hc
    cases rvs' with
    | cons r1 r2 =>
      cases r2 with
      | cons r2 r3 =>
        cases r3
        cases r1 with
        | tup hs ha =>
          rename_i p1 xs
          cases r2 with
          | tup hs2 ha2 =>
            rename_i p2 ys
            refine ⟨p1, p2, xs, ys, rfl, .inr ⟨Same.tup RR.ext.s hs, Same.tup RR.ext.s hs2, q3 _ fun i B2 H2 s1 s2 => ?_⟩⟩
            have hq : SqT X.K H2 p1 xs := Same.tup s2 (Same.tup s1 hs)
            have hq2 : SqT X.K H2 p2 ys := Same.tup s2 (Same.tup s1 hs2)
            refine ⟨fun d hd => ?_, fun hl => ⟨xs, ys, hq, hq2, ?_⟩⟩
            · obtain ⟨x, y, h1, h2, rfl⟩ := zipD_get _ _ _ _ hd
              obtain ⟨v, g1, g2⟩ := DpAll.get ha h1
              obtain ⟨v', g1', g2'⟩ := DpAll.get ha2 h2
              refine ⟨⟨xs, ys, v, v', hq, hq2, g1, g1'⟩, fun y H3 hy => ?_⟩
              obtain ⟨T, x1, x2, rfl, hT, rfl, hx1, hx2⟩ := hy
              have e1 := hx1 xs hq
              have e2 := hx2 ys hq2
              rw [g1] at e1
              rw [g1'] at e2
              cases e1
              cases e2
              exact new_pair s2 hT (Dp.up s1 _ _ g2) (Dp.up s1 _ _ g2')
            · rw [DpAll.length ha, DpAll.length ha2]
              exact zipD_end _ _ _ hl
  · cases hc
end
end PL

/-! The pure layer, part 5: comprehensions, defs and their calls, raises, tries. -/
namespace PL
open PySem PySem.Spec PyProof.Rows L2

def wipeE (env : En) : List Nat → En
  | [] => env
  | i :: is => (wipeE env is).set i none
def lcGo (tg : Tg) (gt : En → O Bool) (fe : En → O D) (env : En) : List D → Option (List D)
  | [] => some []
  | d :: ds => (tg.set d env).bind fun e1 => match gt e1 with
    | .ok true => (match fe e1 with
      | .ok y => (lcGo tg gt fe env ds).map (y :: ·)
      | .ex _ => none
      | .st => none)
    | .ok false => lcGo tg gt fe env ds
    | .ex _ => none
    | .st => none
/-- [fe for tg in fi if gt]: vs are the block's own slots -/
def sLc (fi : En → O (List D)) (tg : Tg) (gt : En → O Bool) (fe : En → O D) (vs : List Nat) : En → O (List D) := fun env => do
  let items ← fi env
  O.of (if items.length ≤ 16777216 then lcGo tg gt fe (wipeE env vs) items else none)
section
variable {K : PySem.W.Frag} {B0 H0 B H : Hp} {σ : L2.St} {env : En}
theorem RE.unset (R : RE K B0 H0 B H σ env) (i : Nat) : RE K B0 H0 B H (σ.set i none) (env.set i none) := by
  have keep : ∀ {j : Nat} {s : Sl}, (env.set i none)[j]? = some (some s) → j ≠ i ∧ env[j]? = some (some s) := fun {j s} h => by
    by_cases hij : i = j
    · subst hij
      have e := set_same h
      cases e
    · rw [List.getElem?_set_ne hij] at h
      exact ⟨Ne.symm hij, h⟩
  refine ⟨R.ext, by simp [R.len], fun j d h => ?_, fun j ds h => ?_, fun j k ds es h1 h2 hne => ?_⟩
  · obtain ⟨hj, h⟩ := keep h
    rw [List.getElem?_set_ne (Ne.symm hj)]
    exact R.val j d h
  · obtain ⟨hj, h⟩ := keep h
    rw [List.getElem?_set_ne (Ne.symm hj)]
    exact R.own j ds h
  · obtain ⟨hj, h1⟩ := keep h1
    obtain ⟨hk, h2⟩ := keep h2
    rw [List.getElem?_set_ne (Ne.symm hj), List.getElem?_set_ne (Ne.symm hk)]
    exact R.apart j k ds es h1 h2 hne
theorem RE.wipe (R : RE K B0 H0 B H σ env) : ∀ vs : List Nat, RE K B0 H0 B H (wipe σ vs) (wipeE env vs)
  | [] => R
  | i :: is => (RE.wipe R is).unset i
theorem wipe_none {σ : L2.St} {i : Nat} : ∀ {vs : List Nat}, i ∈ vs → (wipe σ vs).set i none = wipe σ vs
  | [], h => by cases h
  | x :: vs, h => by
    show ((wipe σ vs).set x none).set i none = (wipe σ vs).set x none
    by_cases hx : x = i
    · subst hx; rw [List.set_set]
    · have hm : i ∈ vs := by
        rcases List.mem_cons.mp h with e | m
        · exact absurd e.symm hx
        · exact m
      rw [List.set_comm _ _ hx, wipe_none hm]
theorem wipe_twice {σ : L2.St} (vs : List Nat) : wipe (wipe σ vs) vs = wipe σ vs := by
  have h : ∀ us : List Nat, (∀ i ∈ us, i ∈ vs) → wipe (wipe σ vs) us = wipe σ vs := by
    intro us
    induction us with
    | nil => intro _; rfl
    | cons u us ih =>
      intro hu
      show (wipe (wipe σ vs) us).set u none = wipe σ vs
      rw [ih fun i hi => hu i (List.mem_cons_of_mem _ hi), wipe_none (hu u List.mem_cons_self)]
  exact h vs fun _ h => h
end
abbrev WF : WX := fun _ _ _ _ => False
section
variable {X : Cx} {K : PySem.W.Frag} {mg : Str → Option Value} {W : WX} {a b c e o : Expr} {es : List Expr} {st : Stmt} {sts : List Stmt} {fa fb fc : En → O D} {fs : En → O (List D)} {ga gb : En → O Bool} {g h : En → Fl} {pos : Pos}
theorem qts_nil : PTs X [] (tB K mg W (sK true)) := ⟨fun pins s σ H Q I q => pts_nil.run pins s σ H Q I (by
  obtain ⟨B0, H0, B, env, R, q⟩ := q
  exact q true B H (Ext.refl R.ext.s) rfl)⟩
theorem qts_one (h : PT X c (tB K mg W ga)) : PTs X [c] (tB K mg W ga) := pts_one h
theorem t_lc {σ : L2.St} {H : Hp} {Q : VK} {fi : En → O (List D)} {tg : Tg} {vs : List Nat} (hv : ∀ i ∈ tg.slots, i ∈ vs) (q : tL K mg W (sLc fi tg ga fa vs) σ H Q) : tLc (tI K mg W fi) (tG K tg) (tB K mg WF ga) (tD K mg WF fa) vs σ H Q := by
  obtain ⟨B0, H0, B, env, R, q⟩ := q
  refine ⟨B0, H0, B, env, R, ?_⟩
  refine q.bind (r1 := relI K) mono_F fun items J Bs H1 _ x0 ok q1 => ?_
  obtain ⟨tot, ht, q2⟩ := q1.of
  have R1 := R.on x0
  split at ht
  case isFalse => cases ht
  rename_i hsz
  intro Da hDa
  have ok' : ItOk K Bs J items := ok
  have hBD : Bs Da = none := x0.s.free hDa
  refine ⟨fun i m H => m = items.length - i ∧ ∃ B accV acc rest, Ext Bs H1 B H ∧ H Da = some (.lst accV) ∧ B Da = none ∧ DpAll K B accV acc ∧ acc.length ≤ i ∧ lcGo tg ga fa (wipeE env vs) (items.drop i) = some rest ∧ acc ++ rest = tot,
    ⟨items.length, by simp, Bs, [], [], tot, Ext.loose x0.s hDa, upd_same, hBD, .nil, Nat.le_refl _, by simpa using ht, rfl⟩, ?_⟩
  rintro i m H2 ⟨rfl, B2, accV, acc, rest, x2, hD2, hB2, ha2, hl2, hr2, e2⟩
  obtain ⟨go, stop⟩ := ok' i B2 H2 x2.b x2.s
  by_cases hlt : i < items.length
  · have hget : items[i]? = some items[i] := List.getElem?_eq_getElem hlt
    obtain ⟨hgo, hyld⟩ := go _ hget
    rw [List.drop_eq_getElem_cons hlt] at hr2
    have hr3 : ((tg.set items[i] (wipeE env vs)).bind fun e1 => match ga e1 with
      | .ok true => (match fa e1 with
        | .ok y => (lcGo tg ga fa (wipeE env vs) (items.drop (i + 1))).map (y :: ·)
        | .ex _ => none
        | .st => none)
      | .ok false => lcGo tg ga fa (wipeE env vs) (items.drop (i + 1))
      | .ex _ => none
      | .st => none) = some rest := hr2
    cases w : tg.set items[i] (wipeE env vs) with
    | none => rw [w] at hr3; cases hr3
    | some e1 =>
      rw [w] at hr3
      simp only [Option.bind_some] at hr3
      refine .inr ⟨hgo, fun H' => ∃ B accV acc rest, Ext Bs H1 B H' ∧ H' Da = some (.lst accV) ∧ B Da = none ∧ DpAll K B accV acc ∧ acc.length ≤ i + 1 ∧ lcGo tg ga fa (wipeE env vs) (items.drop (i + 1)) = some rest ∧ acc ++ rest = tot,
        fun H' n => ⟨items.length - (i + 1), by omega, rfl, n⟩, fun y H3 hy => ?_⟩
      obtain ⟨B3, x3, hd⟩ := hyld y H3 hy
      have x23 := x2.trans x3
      have nB : ∀ {B' H' B'' H'' : Hp}, Ext B' H' B'' H'' → B' Da = none → H' Da = some (.lst accV) → B'' Da = none := fun {B' H' B'' H''} x h1 h2 => by
        cases z : B'' Da with
        | none => rfl
        | some o =>
          rcases x.n _ _ z with z | z
          · rw [h1] at z; cases z
          · rw [h2] at z; cases z
      have hD3 : H3 Da = some (.lst accV) := x3.h _ _ hD2
      have hB3 : B3 Da = none := nB x3 hB2 hD2
      refine ⟨B0, H0, B3, wipeE env vs, items[i], e1, ((R1.on x23).wipe vs), hd, w, fun σ2 hw R2 => ⟨?_, B0, H0, B3, e1, R2, ?_⟩⟩
      · rw [hw vs hv, wipe_twice]
      cases w2 : ga e1 with
      | ok k =>
        rw [w2] at hr3
        intro k' B4 H4 x4 rk
        cases rk
        have hD4 : H4 Da = some (.lst accV) := x4.h _ _ hD3
        have hB4 : B4 Da = none := nB x4 hB3 hD3
        cases k with
        | true =>
          refine iteT ⟨B0, H0, B4, e1, R2.on x4, ?_⟩
          cases w3 : fa e1 with
          | ok z =>
            rw [w3] at hr3
            have hr4 : (lcGo tg ga fa (wipeE env vs) (items.drop (i + 1))).map (z :: ·) = some rest := hr3
            intro v B5 H5 x5 rv
            have hD5 : H5 Da = some (.lst accV) := x5.h _ _ hD4
            have hB5 : B5 Da = none := nB x5 hB4 hD4
            have x25 := (x23.trans x4).trans x5
            have ha5 : DpAll K B5 accV acc := DpAll.up (Same.trans x3.b (Same.trans x4.b x5.b)) _ _ ha2
            refine ⟨accV, hD5, by rw [sizeLine_eq, DpAll.length ha5]; omega, ?_⟩
            cases w4 : lcGo tg ga fa (wipeE env vs) (items.drop (i + 1)) with
            | none => rw [w4] at hr4; cases hr4
            | some r =>
              rw [w4] at hr4
              cases hr4
              refine ⟨B5, accV ++ [v], acc ++ [z], r, ⟨fun b u e => ?_, x25.b, fun b u e => ?_, x25.n⟩, upd_same, hB5, DpAll.append ha5 (DpAll.one rv), by simp; omega, rfl, by rw [List.append_assoc]; exact e2⟩
              · rw [upd_ne (ne_of_none e hDa)]; exact x25.h _ _ e
              · rw [upd_ne (ne_of_none e hB5)]; exact x25.s _ _ e
          | ex z => rw [w3] at hr3; cases hr3
          | st => rw [w3] at hr3; cases hr3
        | false =>
          exact iteF ⟨B4, accV, acc, rest, x23.trans x4, hD4, hB4, DpAll.up (Same.trans x3.b x4.b) _ _ ha2, by omega, hr3, e2⟩
      | ex z => rw [w2] at hr3; cases hr3
      | st => rw [w2] at hr3; cases hr3
  · rw [List.drop_eq_nil_of_le (by omega)] at hr2
    cases hr2
    rw [List.append_nil] at e2
    subst e2
    exact .inl ⟨stop (by omega), q2 _ B2 H2 x2 ⟨Da, accV, rfl, hDa, hB2, hD2, ha2⟩⟩
theorem pl_lc {elt t iter : Expr} {ifs : List Expr} {scope : Scope} {own : List (Str × Nat)} {fi : En → O (List D)} {tg : Tg} (hc : X.calm = true) (hN : X.N.Nodup) (hi : PI X t iter (tI K mg W fi)) (ok : BlkOk X.N X.env.scope scope own)
    (hg : ∀ (s : Shared) (H : Hp) (C : Addr) (cl : List (Str × Addr)) (fp : List Addr), PG (X.blk s H scope (compEnvC scope cl C X.env) fp) t (tG K tg)) (ht : ∀ (s : Shared) (H : Hp) (C : Addr) (cl : List (Str × Addr)) (fp : List Addr), PTs (X.blk s H scope (compEnvC scope cl C X.env) fp) ifs (tB K mg WF ga))
    (he : ∀ (s : Shared) (H : Hp) (C : Addr) (cl : List (Str × Addr)) (fp : List Addr), PE (X.blk s H scope (compEnvC scope cl C X.env) fp) elt (tD K mg WF fa)) (hv : ∀ i ∈ tg.slots, i ∈ own.map (·.2) := by decide) (hs : ∀ x, foldedSetIterable iter X.env x = pure x := by intro _; rfl) :
    PE X (.ListComp elt [⟨t, iter, ifs, 0⟩] scope pos) (tL K mg W (sLc fi tg ga fa (own.map (·.2)))) := pe_weak (pe_lc hc hN hi ok hg ht he hs) fun _ _ _ q => t_lc hv q
theorem tL_D {σ : L2.St} {H : Hp} {Q : VK} (q : tD K mg W (sLst fs) σ H Q) : tL K mg W fs σ H Q := by
  obtain ⟨B0, H0, B, env, R, q⟩ := q
  refine ⟨B0, H0, B, env, R, ?_⟩
  have q' : GP K mg W σ (relD K) (fs env >>= fun x => .ok (.list x)) B H Q := q
  cases hf : fs env with
  | ok ds =>
    rw [hf] at q'
    intro v B1 H1 x r
    obtain ⟨p, vs, rfl, hp, hb, ho, ha⟩ := r
    obtain ⟨y1, y2⟩ := Ext.fix x.s hb ho
    refine q' _ (upd B1 p (.lst vs)) H1 ⟨x.h, Same.trans x.b y1, y2, fun a o e => ?_⟩ (.lst (.inl (.inl upd_same)) (DpAll.up y1 _ _ ha))
    by_cases h : a = p
    · subst h; exact .inr hp
    · rw [upd_ne h] at e; exact x.n _ _ e
  | ex z => rw [hf] at q'; exact q'
  | st => rw [hf] at q'; exact q'
/-- y = [.. for ..], stored within the block: as a list of the slot's own, as a datum -/
theorem z_setLc {i : Nat} {y : Str} {py spos : Pos} {elt t iter : Expr} {ifs : List Expr} {scope : Scope} {own : List (Str × Nat)} {fi : En → O (List D)} {tg : Tg} (hc : X.calm = true) (hN : X.N.Nodup) (hy : X.N[i]? = some y) (hyl : X.env.scope.names.lookup y = some .local)
    (hsw : swapsWith (.ListComp elt [⟨t, iter, ifs, 0⟩] scope pos) (some (.Name y py)) spos.line X.env = pure true) (hi : PI X t iter (tI K mg W fi)) (ok : BlkOk X.N X.env.scope scope own)
    (hg : ∀ (s : Shared) (H : Hp) (C : Addr) (cl : List (Str × Addr)) (fp : List Addr), PG (X.blk s H scope (compEnvC scope cl C X.env) fp) t (tG K tg)) (ht : ∀ (s : Shared) (H : Hp) (C : Addr) (cl : List (Str × Addr)) (fp : List Addr), PTs (X.blk s H scope (compEnvC scope cl C X.env) fp) ifs (tB K mg WF ga))
    (he : ∀ (s : Shared) (H : Hp) (C : Addr) (cl : List (Str × Addr)) (fp : List Addr), PE (X.blk s H scope (compEnvC scope cl C X.env) fp) elt (tD K mg WF fa)) (hv : ∀ i ∈ tg.slots, i ∈ own.map (·.2) := by decide) (hs : ∀ x, foldedSetIterable iter X.env x = pure x := by intro _; rfl) :
    PS X (.Assign [.Name y py] (.ListComp elt [⟨t, iter, ifs, 0⟩] scope pos) spos) (tS K mg W (sSetL i (sLc fi tg ga fa (own.map (·.2))))) := by
  refine ps_weak (ps_setLc hc hN hy hyl hsw hi ok hg ht he hs) fun Z σ H q => t_lc hv ?_
  refine tS.val q fun B0 H0 env a v B B' H' R x R' r q' => ?_
  obtain ⟨p, vs, rfl, hp, hb, ho, ha⟩ := r
  refine q' _ B' H' (R'.setL i hb (R.ext.h.free hp) ho ha fun j es _ hj z => ?_)
  obtain ⟨p', vs', g1, _, _, g4, _⟩ := R.own j es hj
  rw [g1] at z
  cases z
  rw [hp] at g4
  cases g4

/-! ### defs -/
def fnD (n m : Nat) (g : En → Fl) : List D → O D := fun ds => if ds.length = n then (match g (ds.map (fun d => some (.v d)) ++ List.replicate (m - n) none) with
  | .rt d => .ok d
  | .nx _ => .ok .none
  | .ex x _ => .ex x
  | .rl _ => .st
  | .bk _ => .st
  | .ct _ => .st
  | .st => .st) else .st
def fnL (n m : Nat) (g : En → Fl) : List D → O (List D) := fun ds => if ds.length = n then (match g (ds.map (fun d => some (.v d)) ++ List.replicate (m - n) none) with
  | .rl d => .ok d
  | .ex x _ => .ex x
  | .rt _ => .st
  | .nx _ => .st
  | .bk _ => .st
  | .ct _ => .st
  | .st => .st) else .st
def spG {α : Type} (K : PySem.W.Frag) (mg : Str → Option Value) (rel : Hp → Hp → Hp → V → α → Prop) (F : List D → O α) : Sp := fun vs H Q E => ∃ B ds, Same B H ∧ DpAll K B vs ds ∧ GP K mg (fun c d _ H => E c d H) [] rel (F ds) B H Q
abbrev spD (K : PySem.W.Frag) (mg : Str → Option Value) (F : List D → O D) : Sp := spG K mg (relD K) F
abbrev spL (K : PySem.W.Frag) (mg : Str → Option Value) (F : List D → O (List D)) : Sp := spG K mg (relF K) F
def sCall {α : Type} (F : List D → O α) (fs : En → O (List D)) : En → O α := fun env => do
  let ds ← fs env
  F ds
theorem pg_call {α : Type} {rel : Hp → Hp → Hp → V → α → Prop} (m : Mono rel) {F : List D → O α} {k : Nat} {f : Addr} {fd : FuncData} {ps : List Str} {x : Str} {p : Pos} (G : FnOk X.prog X.w X.K X.mg X.base (L2.CX X.prog X.w) k f fd ps (spG K mg rel F)) (hr : Room k X.A) (hg : Gl X x) (hm : X.mg x = some (.ref f))
    (hk : PySem.W.keepIn X.K (.ref f) = true) (hb : Binds X.K fd ps []) (tk : Takes X W) (ha : PA X (e :: es) (tA K mg W fs)) (hdb : (x == ("__debug__" : Str)) = false := by decide) (he : starEach (e :: es) X.env = (false, eval e X.env) :: starEach es X.env := by rfl)
    (hpl : (backTo pos (starEach es X.env)).any (·.1) = false := by rfl) : PE X (.Call (.Name x p) (e :: es) [] pos) (T K mg W rel (sCall F fs)) := by
  refine pe_weak (pe_callS G hr hg hm hk hb (fun σ => passAt tk σ) ha hdb he hpl) fun σ H Q q => ?_
  refine T.bind m q fun B0 H0 ds vs B1 H1 env R rvs q1 => ⟨B1, ds, R.ext.s, rvs, ?_⟩
  cases w : F ds with
  | ok a => rw [w] at q1; exact q1
  | ex z => rw [w] at q1; exact q1
  | st => rw [w] at q1; exact q1
section
variable {P : Program} {w : World} {base : Heap} {x qual : Str} {f : Addr} {fd : FuncData} {N ps : List Str} {k : Nat}
theorem RE.start {B H : Hp} {vs : List V} {ds : List D} (s : Same B H) (h : DpAll K B vs ds) (N : List Str) (n : Nat) (hn : vs.length = n) : RE K B H B H (L2.start N vs) (ds.map (fun d => some (.v d)) ++ List.replicate (N.length - n) none) := by
  have hl := DpAll.length h
  subst hn
  have get : ∀ {i : Nat} {s : Sl}, (ds.map (fun d => some (Sl.v d)) ++ List.replicate (N.length - vs.length) none)[i]? = some (some s) → ∃ d, s = .v d ∧ ds[i]? = some d := fun {i s} hi => by
    by_cases hlt : i < ds.length
    · rw [List.getElem?_append_left (by simpa using hlt), List.getElem?_map, List.getElem?_eq_getElem hlt] at hi
      cases hi
      exact ⟨_, rfl, List.getElem?_eq_getElem hlt⟩
    · rw [List.getElem?_append_right (by simpa using hlt), List.getElem?_replicate] at hi
      split at hi <;> cases hi
  refine ⟨Ext.refl s, ?_, fun i d hi => ?_, fun i ds hi => ?_, fun i j ds1 es hi => ?_⟩
  · unfold L2.start
    simp [hl]
  · obtain ⟨d', e, hd⟩ := get hi
    cases e
    obtain ⟨v, g1, g2⟩ := DpAll.get h hd
    refine ⟨v, ?_, g2⟩
    unfold L2.start
    rw [List.getElem?_append_left (by simpa using (List.getElem?_eq_some_iff.mp g1).1), List.getElem?_map, g1]
    rfl
  · obtain ⟨d', e, _⟩ := get hi
    cases e
  · obtain ⟨d', e, _⟩ := get hi
    cases e
theorem fn_D {n m : Nat} (F : Fun K x qual st f fd) (S : FnScope N ps (defScope st)) (hn : ps.length = n) (hm : N.length = m)
    (hbody : ∀ (cdv : Value) (A : Around) (outer : List Env) (s : Shared) (H : Hp) (E : XK), Room k (A.deeper (envOfC qual (defScope st) s.heap.objs.size f cdv)) →
      Takes (cxOf (L2.CX P w) P w K mg base N qual (defScope st) f cdv A outer s H E) (fun c d _ H => E c d H) → PassesOwn (model P w) (A.deeper (envOfC qual (defScope st) s.heap.objs.size f cdv)) (envOfC qual (defScope st) s.heap.objs.size f cdv) (cxOf (L2.CX P w) P w K mg base N qual (defScope st) f cdv A outer s H E).xe →
      PSs (cxOf (L2.CX P w) P w K mg base N qual (defScope st) f cdv A outer s H E) (defBody st) (tS K mg (fun c d _ H => E c d H) g)) : FnOk P w K mg base (L2.CX P w) (k + 1) f fd ps (spD K mg (fnD n m g)) := by
  subst hn hm
  have len : ∀ vs H Q E, spD K mg (fnD ps.length N.length g) vs H Q E → vs.length = ps.length := fun vs H Q E h => by
    obtain ⟨B, ds, s, ha, q⟩ := h
    rw [DpAll.length ha]
    by_cases hd : ds.length = ps.length
    · exact hd
    · unfold fnD at q
      rw [if_neg hd] at q
      exact q.elim
  refine F.okX S len fun cdv A outer s H vs Q E hr h => ⟨_, hbody cdv A outer s H E hr (takes_of rfl rfl rfl rfl) (passes_of (X := cxOf (L2.CX P w) P w K mg base N qual (defScope st) f cdv A outer s H E) rfl), ?_⟩
  have hl := len vs H Q E h
  obtain ⟨B, ds, sm, ha, q⟩ := h
  have hd : ds.length = ps.length := by rw [← DpAll.length ha]; exact hl
  unfold fnD at q
  rw [if_pos hd] at q
  refine ⟨B, H, B, _, RE.start sm ha N ps.length hl, ?_⟩
  cases w : g (ds.map (fun d => some (.v d)) ++ List.replicate (N.length - ps.length) none) with
  | rt d => rw [w] at q; exact fun v B' H' x r => q v B' H' x r
  | nx e => rw [w] at q; exact fun σ' B' H' R => q _ B' H' R.ext .non
  | ex z e => rw [w] at q; exact fun c d σ' B' H' R r => q c d B' H' R.ext r
  | rl d => rw [w] at q; exact q.elim
  | bk e => rw [w] at q; exact q.elim
  | ct e => rw [w] at q; exact q.elim
  | st => rw [w] at q; exact q.elim
theorem fn_L {n m : Nat} (F : Fun K x qual st f fd) (S : FnScope N ps (defScope st)) (hn : ps.length = n) (hm : N.length = m)
    (hbody : ∀ (cdv : Value) (A : Around) (outer : List Env) (s : Shared) (H : Hp) (E : XK), Room k (A.deeper (envOfC qual (defScope st) s.heap.objs.size f cdv)) →
      Takes (cxOf (L2.CX P w) P w K mg base N qual (defScope st) f cdv A outer s H E) (fun c d _ H => E c d H) → PassesOwn (model P w) (A.deeper (envOfC qual (defScope st) s.heap.objs.size f cdv)) (envOfC qual (defScope st) s.heap.objs.size f cdv) (cxOf (L2.CX P w) P w K mg base N qual (defScope st) f cdv A outer s H E).xe →
      PSs (cxOf (L2.CX P w) P w K mg base N qual (defScope st) f cdv A outer s H E) (defBody st) (tS K mg (fun c d _ H => E c d H) g)) : FnOk P w K mg base (L2.CX P w) (k + 1) f fd ps (spL K mg (fnL n m g)) := by
  subst hn hm
  have len : ∀ vs H Q E, spL K mg (fnL ps.length N.length g) vs H Q E → vs.length = ps.length := fun vs H Q E h => by
    obtain ⟨B, ds, s, ha, q⟩ := h
    rw [DpAll.length ha]
    by_cases hd : ds.length = ps.length
    · exact hd
    · unfold fnL at q
      rw [if_neg hd] at q
      exact q.elim
  refine F.okX S len fun cdv A outer s H vs Q E hr h => ⟨_, hbody cdv A outer s H E hr (takes_of rfl rfl rfl rfl) (passes_of (X := cxOf (L2.CX P w) P w K mg base N qual (defScope st) f cdv A outer s H E) rfl), ?_⟩
  have hl := len vs H Q E h
  obtain ⟨B, ds, sm, ha, q⟩ := h
  have hd : ds.length = ps.length := by rw [← DpAll.length ha]; exact hl
  unfold fnL at q
  rw [if_pos hd] at q
  refine ⟨B, H, B, _, RE.start sm ha N ps.length hl, ?_⟩
  cases w : g (ds.map (fun d => some (.v d)) ++ List.replicate (N.length - ps.length) none) with
  | rl d => rw [w] at q; exact fun p vs B' H' x a b c r => q _ B' H' x ⟨p, vs, rfl, a, b, c, r⟩
  | ex z e => rw [w] at q; exact fun c d σ' B' H' R r => q c d B' H' R.ext r
  | rt d => rw [w] at q; exact q.elim
  | nx e => rw [w] at q; exact q.elim
  | bk e => rw [w] at q; exact q.elim
  | ct e => rw [w] at q; exact q.elim
  | st => rw [w] at q; exact q.elim
end
end
end PL

/-! The pure layer, part 6: operators, built-in functions and methods over data. -/
namespace PL
open PySem PySem.Spec PyProof.Rows L2

/-! ### two rules for one operator -/
theorem OpR.both {X : Cx} {f : Value → Value → Sem Value} {r r' : R2} (h : OpR X f r) (h' : OpR X f r') : OpR X f (fun x y H Q => r x y H Q ∨ r' x y H Q) := by
  intro pins s σ H x y v u Q I rx ry q
  rcases q with q | q
  · exact h pins s σ H x y v u Q I rx ry q
  · exact h' pins s σ H x y v u Q I rx ry q
theorem CallR.both {X : Cx} {f : Value} {r r' : List V → Hp → VK → Prop} (h : CallR X f r) (h' : CallR X f r') : CallR X f (fun x H Q => r x H Q ∨ r' x H Q) := by
  intro pins s σ H x v Q I rx q
  rcases q with q | q
  · exact h pins s σ H x v Q I rx q
  · exact h' pins s σ H x v Q I rx q
theorem IxR.both {X : Cx} {r r' : R2} (h : IxR X r) (h' : IxR X r') : IxR X (fun x y H Q => r x y H Q ∨ r' x y H Q) := h.or h'

section
variable {X : Cx} {K : PySem.W.Frag} {B H : Hp}
theorem new_tup {Q : VK} {p : Addr} {vs : List V} {ds : List D} (s : Same B H) (hp : H p = none) (h : DpAll K B vs ds) (k : ∀ v B' H', Ext B H B' H' → relD K H B' H' v (.tuple ds) → Q v H') : Q (.ref p) (upd H p (.tup vs)) := by
  have x := Ext.new (o := .tup vs) s hp
  exact k _ _ _ x (.tup (.inl (.inl upd_same)) (DpAll.up x.b _ _ h))
theorem new_lst {Q : VK} {p : Addr} {vs : List V} {ds : List D} (s : Same B H) (hp : H p = none) (h : DpAll K B vs ds) (k : ∀ v B' H', Ext B H B' H' → relF K H B' H' v ds → Q v H') : Q (.ref p) (upd H p (.lst vs)) :=
  k _ _ _ (Ext.loose (o := .lst vs) s hp) ⟨p, vs, rfl, hp, s.free hp, upd_same, h⟩
/-! ### + - * // % -/
def D.add : D → D → Option D
  | .int i, .int j => some (.int (i + j))
  | .str a, .str b => if a.length + b.length ≤ 16777216 then some (.str (a ++ b)) else none
  | .tuple a, .tuple b => if a.length + b.length ≤ 16777216 then some (.tuple (a ++ b)) else none
  | _, _ => none
def rAdd3 (K : PySem.W.Frag) : R2 := fun x y H Q => rI0 (fun i j => .int (i + j)) x y H Q ∨ (∃ i j, x = .str i ∧ y = .str j ∧ i.length + j.length ≤ sizeLine ∧ Q (.str (i ++ j)) H) ∨ rCatA K x y H Q
theorem o_add : OpR X (binaryOp .Add) (rAdd3 X.K) := OpR.both op_add (OpR.both op_add_str op_catA)
theorem g_add : OpG K (relD K) (rAdd3 K) D.add := by
  intro B H x y d e c Q s hx hy hc k
  unfold D.add at hc
  split at hc
  · cases hc
    cases hx
    cases hy
    exact .inl ⟨_, _, rfl, rfl, k _ B H (Ext.refl s) (.int _)⟩
  · split at hc
    · rename_i hz
      cases hc
      cases hx
      cases hy
      exact .inr (.inl ⟨_, _, rfl, rfl, by rw [sizeLine_eq]; exact hz, k _ B H (Ext.refl s) (.str _)⟩)
    · cases hc
  · split at hc
    · rename_i hz
      cases hc
      have hx' := hx
      have hy' := hy
      cases hx with
      | tup h1 a1 =>
        cases hy with
        | tup h2 a2 =>
          refine .inr (.inr ⟨_, _, _, _, rfl, rfl, Same.tup s h1, Same.tup s h2, by rw [sizeLine_eq, DpAll.length a1, DpAll.length a2]; exact hz, fun e1 => ?_, fun e1 e2 => ?_, fun e1 e2 p hp => ?_⟩)
          · subst e1
            cases a1
            exact k _ B H (Ext.refl s) hy'
          · subst e2
            cases a2
            rw [List.append_nil] at k
            exact k _ B H (Ext.refl s) hx'
          · exact new_tup s hp (DpAll.append a1 a2) k
    · cases hc
  · cases hc
def D.sub : D → D → Option D
  | .int i, .int j => some (.int (i - j))
  | _, _ => none
theorem g_sub : OpG K (relD K) (rI0 fun i j => .int (i - j)) D.sub := by
  intro B H x y d e c Q s hx hy hc k
  unfold D.sub at hc
  split at hc
  · cases hc
    cases hx
    cases hy
    exact ⟨_, _, rfl, rfl, k _ B H (Ext.refl s) (.int _)⟩
  · cases hc
def rMulS : R2 := fun x y H Q => ∃ z i, x = .str z ∧ y = .int i ∧ MulOk z i ∧ Q (.str (Txt.mul z i)) H
theorem o_mulS : OpR X (binaryOp .Mult) rMulS := by
  intro pins s σ H x y v u Q I rx ry h
  obtain ⟨z, i, rfl, rfl, ok, q⟩ := h
  obtain ⟨t, rfl⟩ := rx
  obtain ⟨t', rfl⟩ := ry
  exact SB.mul ok fun t' k => ⟨.str _, H, I.tok k, ⟨t', rfl⟩, q⟩
def rMul3 (K : PySem.W.Frag) : R2 := fun x y H Q => rI CMul (fun i j => .int (i * j)) x y H Q ∨ rMulS x y H Q ∨ rRepT K x y H Q
theorem o_mul : OpR X (binaryOp .Mult) (rMul3 X.K) := OpR.both op_mul (OpR.both o_mulS op_repT)
def D.mul : D → D → Option D
  | .int i, .int j => if (-(2 ^ 64) < i ∧ i < 2 ^ 64) ∨ (-(2 ^ 64) < j ∧ j < 2 ^ 64) then some (.int (i * j)) else none
  | .str z, .int i => if z.length ≤ 16 ∧ i ≤ 1048576 ∧ -(2 ^ 63) ≤ i then some (.str (Txt.mul z i)) else none
  | .tuple (x :: xs), .int k => if 2 ≤ k ∧ k ≤ 1000 ∧ xs.length < 1000 then some (.tuple (List.replicate k.toNat (x :: xs)).flatten) else none
  | _, _ => none
theorem DpAll.rep {vs : List V} {ds : List D} (h : DpAll K B vs ds) : ∀ n : Nat, DpAll K B (List.replicate n vs).flatten (List.replicate n ds).flatten
  | 0 => .nil
  | n + 1 => by
    rw [List.replicate_succ, List.replicate_succ, List.flatten_cons, List.flatten_cons]
    exact DpAll.append h (DpAll.rep h n)
theorem g_mul : OpG K (relD K) (rMul3 K) D.mul := by
  intro B H x y d e c Q s hx hy hc k
  unfold D.mul at hc
  split at hc
  · split at hc
    · rename_i hz
      cases hc
      cases hx
      cases hy
      exact .inl ⟨_, _, rfl, rfl, hz, k _ B H (Ext.refl s) (.int _)⟩
    · cases hc
  · split at hc
    · rename_i hz
      cases hc
      cases hx
      cases hy
      exact .inr (.inl ⟨_, _, rfl, rfl, mulOk_of 16 1048576 hz.1 hz.2.1 hz.2.2 (by decide) (by decide), k _ B H (Ext.refl s) (.str _)⟩)
    · cases hc
  · split at hc
    · rename_i hz
      cases hc
      cases hy
      cases hx with
      | tup h1 a1 =>
        have hl := DpAll.length a1
        refine .inr (.inr ⟨_, _, _, rfl, rfl, Same.tup s h1, ?_, hz.1, hz.2.1, by rw [hl]; exact hz.2.2, fun p hp => ?_⟩)
        · intro e
          subst e
          cases a1
        · exact new_tup s hp (DpAll.rep a1 _) k
    · cases hc
  · cases hc
def D.fdiv : D → D → Option D
  | .int i, .int j => if 0 < j ∧ j < 1073741824 then some (.int (i / j)) else none
  | _, _ => none
theorem g_fdiv : OpG K (relD K) (rI CDiv fun i j => .int (i / j)) D.fdiv := by
  intro B H x y d e c Q s hx hy hc k
  unfold D.fdiv at hc
  split at hc
  · split at hc
    · rename_i hz
      cases hc
      cases hx
      cases hy
      exact ⟨_, _, rfl, rfl, hz, k _ B H (Ext.refl s) (.int _)⟩
    · cases hc
  · cases hc
def D.mod : D → D → Option D
  | .int i, .int j => if 0 < j then some (.int (i % j)) else none
  | _, _ => none
theorem g_mod : OpG K (relD K) (rI (fun _ j => 0 < j) fun i j => .int (i % j)) D.mod := by
  intro B H x y d e c Q s hx hy hc k
  unfold D.mod at hc
  split at hc
  · split at hc
    · rename_i hz
      cases hc
      cases hx
      cases hy
      exact ⟨_, _, rfl, rfl, hz, k _ B H (Ext.refl s) (.int _)⟩
    · cases hc
  · cases hc
def D.neg : D → Option D
  | .int i => some (.int (-i))
  | _ => none
theorem g_neg : UnG K (relD K) (rU fun i => .int (-i)) D.neg := by
  intro B H x d c Q s hx hc k
  unfold D.neg at hc
  split at hc
  · cases hc
    cases hx
    exact ⟨_, rfl, k _ B H (Ext.refl s) (.int _)⟩
  · cases hc
/-! ### comparisons -/
def eqB : D → D → Option Bool
  | .str a, .str b => some (decide (a = b))
  | .int a, .int b => some (decide (a = b))
  | .bool a, .bool b => some (decide (a = b))
  | d, e => if SeqAt.shaped d = true ∧ SeqAt.shaped e = true then some (PyData.eqv d e) else none
def D.eq (d e : D) : Option D := (eqB d e).map .bool
def D.ne (d e : D) : Option D := (eqB d e).map fun b => .bool (!b)
theorem o_eq (hu : X.A.units + 64 < cLine) : OpR X (compareOp .Eq) (fun x y H Q => rEq x y H Q ∨ rEqD X.K x y H Q) := OpR.both op_eq (op_eqD hu)
theorem o_ne (hu : X.A.units + 64 < cLine) : OpR X (compareOp .NotEq) (fun x y H Q => rNe x y H Q ∨ rNeD X.K x y H Q) := OpR.both op_ne (op_neD hu)
theorem eqB_run {x y : V} {d e : D} {b : Bool} (s : Same B H) (hx : Dp K B x d) (hy : Dp K B y e) (h : eqB d e = some b) : (scal x y = true ∧ b = decide (x = y)) ∨
    ∃ d e, Dp K H x d ∧ Dp K H y e ∧ SeqAt.shaped d = true ∧ SeqAt.shaped e = true ∧ b = PyData.eqv d e := by
  unfold eqB at h
  split at h
  · cases hx
    cases hy
    cases h
    refine .inl ⟨rfl, ?_⟩
    rename_i a c
    by_cases e : a = c
    · subst e; simp
    · simp [e]
  · cases hx
    cases hy
    cases h
    refine .inl ⟨rfl, ?_⟩
    rename_i a c
    by_cases e : a = c
    · subst e; simp
    · simp [e]
  · cases hx
    cases hy
    cases h
    refine .inl ⟨rfl, ?_⟩
    rename_i a c
    by_cases e : a = c
    · subst e; simp
    · simp [e]
  · split at h
    · rename_i hz
      cases h
      exact .inr ⟨_, _, Dp.up s _ _ hx, Dp.up s _ _ hy, hz.1, hz.2, rfl⟩
    · cases h
theorem g_eq : OpG K (relD K) (fun x y H Q => rEq x y H Q ∨ rEqD K x y H Q) D.eq := by
  intro B H x y d e c Q s hx hy hc k
  unfold D.eq at hc
  cases w : eqB d e with
  | none => rw [w] at hc; cases hc
  | some b =>
    rw [w] at hc
    cases hc
    have q := k (.bl b) B H (Ext.refl s) (.bl b)
    rcases eqB_run s hx hy w with ⟨h1, rfl⟩ | ⟨d, e, h1, h2, h3, h4, rfl⟩
    · exact .inl ⟨h1, q⟩
    · exact .inr ⟨d, e, h1, h2, h3, h4, q⟩
theorem g_ne : OpG K (relD K) (fun x y H Q => rNe x y H Q ∨ rNeD K x y H Q) D.ne := by
  intro B H x y d e c Q s hx hy hc k
  unfold D.ne at hc
  cases w : eqB d e with
  | none => rw [w] at hc; cases hc
  | some b =>
    rw [w] at hc
    cases hc
    have q := k (.bl !b) B H (Ext.refl s) (.bl _)
    rcases eqB_run s hx hy w with ⟨h1, rfl⟩ | ⟨d, e, h1, h2, h3, h4, rfl⟩
    · exact .inl ⟨h1, q⟩
    · exact .inr ⟨d, e, h1, h2, h3, h4, q⟩
def D.lt : D → D → Option D
  | .int i, .int j => some (.bool (decide (i < j)))
  | _, _ => none
def D.le : D → D → Option D
  | .int i, .int j => some (.bool (decide (i ≤ j)))
  | _, _ => none
def D.gt : D → D → Option D
  | .int i, .int j => some (.bool (decide (j < i)))
  | _, _ => none
def D.ge : D → D → Option D
  | .int i, .int j => some (.bool (decide (j ≤ i)))
  | _, _ => none
theorem g_lt : OpG K (relD K) (rI0 fun i j => .bl (decide (i < j))) D.lt := by
  intro B H x y d e c Q s hx hy hc k
  unfold D.lt at hc
  split at hc
  · cases hc
    cases hx
    cases hy
    exact ⟨_, _, rfl, rfl, k _ B H (Ext.refl s) (.bl _)⟩
  · cases hc
theorem g_le : OpG K (relD K) (rI0 fun i j => .bl (decide (i ≤ j))) D.le := by
  intro B H x y d e c Q s hx hy hc k
  unfold D.le at hc
  split at hc
  · cases hc
    cases hx
    cases hy
    exact ⟨_, _, rfl, rfl, k _ B H (Ext.refl s) (.bl _)⟩
  · cases hc
theorem g_gt : OpG K (relD K) (rI0 fun i j => .bl (decide (j < i))) D.gt := by
  intro B H x y d e c Q s hx hy hc k
  unfold D.gt at hc
  split at hc
  · cases hc
    cases hx
    cases hy
    exact ⟨_, _, rfl, rfl, k _ B H (Ext.refl s) (.bl _)⟩
  · cases hc
theorem g_ge : OpG K (relD K) (rI0 fun i j => .bl (decide (j ≤ i))) D.ge := by
  intro B H x y d e c Q s hx hy hc k
  unfold D.ge at hc
  split at hc
  · cases hc
    cases hx
    cases hy
    exact ⟨_, _, rfl, rfl, k _ B H (Ext.refl s) (.bl _)⟩
  · cases hc
def D.isN : D → D → Option D
  | .none, .none => some (.bool true)
  | _, .none => some (.bool false)
  | _, _ => none
def D.notN : D → D → Option D
  | .none, .none => some (.bool false)
  | _, .none => some (.bool true)
  | _, _ => none
theorem isNon {x : V} {d : D} (h : Dp K H x d) : decide (x = .non) = (match d with | .none => true | _ => false) := by
  cases h <;> simp
theorem g_isN : OpG K (relD K) (fun x y H Q => y = .non ∧ Q (.bl (decide (x = .non))) H) D.isN := by
  intro B H x y d e c Q s hx hy hc k
  have hi := isNon hx
  cases e with
  | none =>
    cases hy
    refine ⟨rfl, ?_⟩
    rw [hi]
    refine k _ B H (Ext.refl s) ?_
    cases d <;> (cases hc; exact .bl _)
  | bool _ => cases d <;> cases hc
  | int _ => cases d <;> cases hc
  | str _ => cases d <;> cases hc
  | list _ => cases d <;> cases hc
  | tuple _ => cases d <;> cases hc
  | dict _ => cases d <;> cases hc
theorem g_notN : OpG K (relD K) (fun x y H Q => y = .non ∧ Q (.bl (!decide (x = .non))) H) D.notN := by
  intro B H x y d e c Q s hx hy hc k
  have hi := isNon hx
  cases e with
  | none =>
    cases hy
    refine ⟨rfl, ?_⟩
    rw [hi]
    refine k _ B H (Ext.refl s) ?_
    cases d <;> (cases hc; exact .bl _)
  | bool _ => cases d <;> cases hc
  | int _ => cases d <;> cases hc
  | str _ => cases d <;> cases hc
  | list _ => cases d <;> cases hc
  | tuple _ => cases d <;> cases hc
  | dict _ => cases d <;> cases hc
/-- in: one sign in a text; a datum in a list, a tuple -/
def rInA (K : PySem.W.Frag) : R2 := fun x y H Q => (∃ (c : Nat) (z : Str), x = .str ⟨#[c]⟩ ∧ y = .str z ∧ Q (.bl (decide (c ∈ z.cps.toList))) H) ∨
  ∃ d e ds, Dp K H x d ∧ Dp K H y e ∧ (e = .list ds ∨ e = .tuple ds) ∧ SeqAt.shaped d = true ∧ SeqAt.shaped (.list ds) = true ∧ Q (.bl (ds.any fun z => PyData.eqv z d)) H
def rNotInA (K : PySem.W.Frag) : R2 := fun x y H Q => (∃ (c : Nat) (z : Str), x = .str ⟨#[c]⟩ ∧ y = .str z ∧ Q (.bl (!decide (c ∈ z.cps.toList))) H) ∨
  ∃ d e ds, Dp K H x d ∧ Dp K H y e ∧ (e = .list ds ∨ e = .tuple ds) ∧ SeqAt.shaped d = true ∧ SeqAt.shaped (.list ds) = true ∧ Q (.bl (!ds.any fun z => PyData.eqv z d)) H
theorem o_in (hu : X.A.units + 65 < cLine) : OpR X (compareOp .In) (rInA X.K) := by
  refine OpR.both op_in_sign ?_
  intro pins s σ H x y v u Q I rx ry h
  obtain ⟨d, e, ds, hd, he, ee, sd, se, q⟩ := h
  obtain ⟨as, r1⟩ := Dp.reads I d x v hd rx
  rcases ee with rfl | rfl
  · obtain ⟨bs, r2⟩ := Dp.reads I (.list ds) y u he ry
    exact SeqAt.in_list_reads r2 r1 (SeqAt.canLay_of_shaped se) (SeqAt.canLay_of_shaped sd) (room_in_shaped sd hu) ⟨.bl _, H, I, rfl, q⟩
  · obtain ⟨bs, r2⟩ := Dp.reads I (.tuple ds) y u he ry
    exact SeqAt.in_tuple_reads r2 r1 (SeqAt.canLay_of_shaped se) (SeqAt.canLay_of_shaped sd) (room_in_shaped sd hu) ⟨.bl _, H, I, rfl, q⟩
theorem o_notin (hu : X.A.units + 65 < cLine) : OpR X (compareOp .NotIn) (rNotInA X.K) := by
  refine OpR.both op_notIn_sign ?_
  intro pins s σ H x y v u Q I rx ry h
  obtain ⟨d, e, ds, hd, he, ee, sd, se, q⟩ := h
  obtain ⟨as, r1⟩ := Dp.reads I d x v hd rx
  rcases ee with rfl | rfl
  · obtain ⟨bs, r2⟩ := Dp.reads I (.list ds) y u he ry
    exact SeqAt.notIn_list_reads r2 r1 (SeqAt.canLay_of_shaped se) (SeqAt.canLay_of_shaped sd) (room_in_shaped sd hu) ⟨.bl _, H, I, rfl, q⟩
  · obtain ⟨bs, r2⟩ := Dp.reads I (.tuple ds) y u he ry
    exact SeqAt.notIn_tuple_reads r2 r1 (SeqAt.canLay_of_shaped se) (SeqAt.canLay_of_shaped sd) (room_in_shaped sd hu) ⟨.bl _, H, I, rfl, q⟩
/-- the one sign of a text of one sign -/
def D.sign : D → Option Nat
  | .str s => (match s.cps.toList with
    | [c] => some c
    | _ => none)
  | _ => none
theorem sign_str {d : D} {c : Nat} (h : D.sign d = some c) : d = .str ⟨#[c]⟩ := by
  cases d with
  | str s =>
    obtain ⟨⟨l⟩⟩ := s
    cases l with
    | nil => cases h
    | cons a r =>
      cases r with
      | nil => cases h; rfl
      | cons b r => cases h
  | none => cases h
  | bool _ => cases h
  | int _ => cases h
  | list _ => cases h
  | tuple _ => cases h
  | dict _ => cases h
def isInB (d e : D) : Option Bool := match e with
  | .str z => (D.sign d).map fun c => decide (c ∈ z.cps.toList)
  | .list ds => if SeqAt.shaped d = true ∧ SeqAt.shaped (.list ds) = true then some (ds.any fun z => PyData.eqv z d) else none
  | .tuple ds => if SeqAt.shaped d = true ∧ SeqAt.shaped (.list ds) = true then some (ds.any fun z => PyData.eqv z d) else none
  | _ => none
def D.isIn (d e : D) : Option D := (isInB d e).map .bool
def D.notIn (d e : D) : Option D := (isInB d e).map fun b => .bool (!b)
theorem isIn_run {x y : V} {d e : D} {b : Bool} (s : Same B H) (hx : Dp K B x d) (hy : Dp K B y e) (h : isInB d e = some b) : (∃ (c : Nat) (z : Str), x = .str ⟨#[c]⟩ ∧ y = .str z ∧ b = decide (c ∈ z.cps.toList)) ∨
    ∃ d e ds, Dp K H x d ∧ Dp K H y e ∧ (e = .list ds ∨ e = .tuple ds) ∧ SeqAt.shaped d = true ∧ SeqAt.shaped (.list ds) = true ∧ b = ds.any fun z => PyData.eqv z d := by
  cases e with
  | str z =>
    have h' : (D.sign d).map (fun c => decide (c ∈ z.cps.toList)) = some b := h
    cases w : D.sign d with
    | none => rw [w] at h'; cases h'
    | some c =>
      rw [w] at h'
      have e := sign_str w
      subst e
      cases hx
      cases hy
      exact .inl ⟨c, z, rfl, rfl, (Option.some.inj h').symm⟩
  | list ds =>
    have h' : (if SeqAt.shaped d = true ∧ SeqAt.shaped (.list ds) = true then some (ds.any fun z => PyData.eqv z d) else none) = some b := h
    split at h'
    · rename_i hz
      exact .inr ⟨d, _, ds, Dp.up s _ _ hx, Dp.up s _ _ hy, .inl rfl, hz.1, hz.2, (Option.some.inj h').symm⟩
    · cases h'
  | tuple ds =>
    have h' : (if SeqAt.shaped d = true ∧ SeqAt.shaped (.list ds) = true then some (ds.any fun z => PyData.eqv z d) else none) = some b := h
    split at h'
    · rename_i hz
      exact .inr ⟨d, _, ds, Dp.up s _ _ hx, Dp.up s _ _ hy, .inr rfl, hz.1, hz.2, (Option.some.inj h').symm⟩
    · cases h'
  | none => cases h
  | bool _ => cases h
  | int _ => cases h
  | dict _ => cases h
theorem g_in : OpG K (relD K) (rInA K) D.isIn := by
  intro B H x y d e c Q s hx hy hc k
  unfold D.isIn at hc
  cases w : isInB d e with
  | none => rw [w] at hc; cases hc
  | some b =>
    rw [w] at hc
    cases hc
    have q := k (.bl b) B H (Ext.refl s) (.bl b)
    rcases isIn_run s hx hy w with ⟨c, z, rfl, rfl, rfl⟩ | ⟨d, e, ds, h1, h2, h3, h4, h5, rfl⟩
    · exact .inl ⟨c, z, rfl, rfl, q⟩
    · exact .inr ⟨d, e, ds, h1, h2, h3, h4, h5, q⟩
theorem g_notin : OpG K (relD K) (rNotInA K) D.notIn := by
  intro B H x y d e c Q s hx hy hc k
  unfold D.notIn at hc
  cases w : isInB d e with
  | none => rw [w] at hc; cases hc
  | some b =>
    rw [w] at hc
    cases hc
    have q := k (.bl !b) B H (Ext.refl s) (.bl _)
    rcases isIn_run s hx hy w with ⟨c, z, rfl, rfl, rfl⟩ | ⟨d, e, ds, h1, h2, h3, h4, h5, rfl⟩
    · exact .inl ⟨c, z, rfl, rfl, q⟩
    · exact .inr ⟨d, e, ds, h1, h2, h3, h4, h5, q⟩
/-! ### subscripts -/
def D.ix : D → D → Option D
  | .list ds, .int i => atI ds i
  | .tuple ds, .int i => atI ds i
  | .str z, .int i => if z.length ≤ 16777216 then (atI z.cps.toList i).map fun c => .str ⟨#[c]⟩ else none
  | _, _ => none
theorem DpAll.atI {vs : List V} {ds : List D} {i : Int} {d : D} (h : DpAll K B vs ds) (e : L2.atI ds i = some d) : ∃ v, L2.atI vs i = some v ∧ Dp K B v d := by
  unfold L2.atI at e ⊢
  rw [DpAll.length h]
  cases w : ixN ds.length i with
  | none => rw [w] at e; cases e
  | some j =>
    rw [w] at e
    exact DpAll.get h e
theorem g_ix : OpG K (relD K) (rIx K) D.ix := by
  intro B H x y d e c Q s hx hy hc k
  unfold D.ix at hc
  split at hc
  · cases hy
    cases hx with
    | lst h1 a1 =>
      obtain ⟨v, g1, g2⟩ := DpAll.atI a1 hc
      exact .inl ⟨_, _, _, v, rfl, rfl, s.seq h1, g1, k _ B H (Ext.refl s) g2⟩
  · cases hy
    cases hx with
    | tup h1 a1 =>
      obtain ⟨v, g1, g2⟩ := DpAll.atI a1 hc
      exact .inr (.inl ⟨_, _, _, v, rfl, rfl, Same.tup s h1, g1, k _ B H (Ext.refl s) g2⟩)
  · split at hc
    · rename_i z i hz
      cases hy
      cases hx
      cases w : L2.atI z.cps.toList i with
      | none => rw [w] at hc; cases hc
      | some cc =>
        rw [w] at hc
        cases hc
        exact .inr (.inr ⟨_, _, cc, rfl, rfl, by rw [sizeLine_eq]; exact hz, w, k _ B H (Ext.refl s) (.str _)⟩)
    · cases hc
  · cases hc
end
section
variable {X : Cx} {K : PySem.W.Frag} {mg : Str → Option Value} {W : WX} {a b c e o : Expr} {es : List Expr} {fa fb fc : En → O D} {fs : En → O (List D)} {pos : Pos}
theorem pv_ix (ha : PE X a (tD K mg W fa)) (hb : PE X b (tD K mg W fb)) (hK : X.K = K := by rfl) (hs : PlainIx b := by exact fun _ _ => rfl) : PE X (.Subscript a b pos) (tD K mg W (sBin D.ix fa fb)) := by
  subst hK
  exact pe_weak (pe_ix ix_seq ha hb hs) fun _ _ _ q => t_op mono_D g_ix q
/-! ### slices -/
def cutD (ds : List D) (lo hi : Option Int) : List D := (ds.drop (HT.sIx ds.length 0 lo)).take (HT.sIx ds.length ds.length hi - HT.sIx ds.length 0 lo)
theorem DpAll.cut {B : Hp} {vs : List V} {ds : List D} (h : DpAll K B vs ds) (lo hi : Option Int) : DpAll K B (cutV vs lo hi) (cutD ds lo hi) := by
  unfold cutV cutD
  rw [DpAll.length h]
  exact DpAll.take _ (DpAll.drop _ h)
/-- a part of a slice -/
def tO (K : PySem.W.Frag) (mg : Str → Option Value) (W : WX) (f : En → O (Option Int)) : TO := T K mg W (fun _ _ _ (v : Option Int) (a : Option Int) => v = a) f
def D.asInt : D → Option Int
  | .int i => some i
  | _ => none
def sPart (f : En → O D) : En → O (Option Int) := fun env => do
  let d ← f env
  let i ← O.of (D.asInt d)
  .ok (some i)
theorem po_weak {oe : Option Expr} {t t' : TO} (h : PO X oe t) (i : ∀ σ H Q, t' σ H Q → t σ H Q) : PO X oe t' := ⟨fun pins s σ H Q I q => h.run pins s σ H Q I (i _ _ _ q)⟩
theorem mono_O : Mono (fun (_ _ _ : Hp) (v : Option Int) (a : Option Int) => v = a) := fun _ _ _ _ _ _ _ h => h
theorem qo_none : PO X none (tO K mg W (sK none)) := po_weak po_none fun σ H Q q => by
  obtain ⟨B0, H0, B, env, R, q⟩ := q
  exact q _ B H (Ext.refl R.ext.s) rfl
theorem qo_some (h : PE X e (tD K mg W fa)) : PO X (some e) (tO K mg W (sPart fa)) := po_weak (po_some h) fun σ H Q q => by
  refine T.bind mono_O q fun B0 H0 d v B1 H1 env R rv q1 => ?_
  obtain ⟨k, hk, q2⟩ := q1.ofB
  cases d with
  | int i =>
    cases hk
    cases rv
    exact ⟨_, rfl, q2 _ B1 H1 (Ext.refl R.ext.s) rfl⟩
  | none => cases hk
  | bool _ => cases hk
  | str _ => cases hk
  | list _ => cases hk
  | tuple _ => cases hk
  | dict _ => cases hk
def sSl {α : Type} (h : D → Option Int → Option Int → Option α) (f : En → O D) (l u : En → O (Option Int)) : En → O α := fun env => do
  let x ← f env
  let lo ← l env
  let hi ← u env
  O.of (h x lo hi)
def D.slT : D → Option Int → Option Int → Option D
  | .tuple ds, lo, hi => some (.tuple (cutD ds lo hi))
  | .str z, lo, hi => if z.length ≤ 16777216 then some (.str (cutS z lo hi)) else none
  | _, _, _ => none
def D.slL : D → Option Int → Option Int → Option (List D)
  | .list ds, lo, hi => some (cutD ds lo hi)
  | _, _, _ => none
theorem sl_whole {α : Type} {xs : List α} {lo hi : Option Int} (h : HT.sIx xs.length 0 lo = 0 ∧ HT.sIx xs.length xs.length hi = xs.length) : (xs.drop (HT.sIx xs.length 0 lo)).take (HT.sIx xs.length xs.length hi - HT.sIx xs.length 0 lo) = xs := by
  rw [h.1, h.2]
  simp
theorem t_sl {α : Type} {rel : Hp → Hp → Hp → V → α → Prop} (m : Mono rel) {r : V → Option Int → Option Int → Hp → VK → Prop} {h : D → Option Int → Option Int → Option α} {fl fu : En → O (Option Int)}
    (hd : ∀ (B H : Hp) (x : V) (lo hi : Option Int) (d : D) (c : α) (Q : VK), Same B H → Dp K B x d → h d lo hi = some c → (∀ v B' H', Ext B H B' H' → rel H B' H' v c → Q v H') → r x lo hi H Q)
    {σ : L2.St} {H : Hp} {Q : VK} (q : T K mg W rel (sSl h fa fl fu) σ H Q) : tSl r (tD K mg W fa) (tO K mg W fl) (tO K mg W fu) σ H Q := by
  refine T.bind m q fun B0 H0 d v B1 H1 env R rv q1 => ⟨B0, H0, B1, env, R, ?_⟩
  refine q1.bind (r1 := fun _ _ _ (v : Option Int) (a : Option Int) => v = a) m fun l l' B2 H2 _ x2 e2 q2 => ⟨B0, H0, B2, env, R.on x2, ?_⟩
  subst e2
  refine q2.bind (r1 := fun _ _ _ (v : Option Int) (a : Option Int) => v = a) m fun u u' B3 H3 _ x3 e3 q3 => ?_
  subst e3
  obtain ⟨c, hc, q4⟩ := q3.of
  exact hd B3 H3 v l' u' d c Q x3.s (Dp.up x3.b _ _ (Dp.up x2.b _ _ rv)) hc q4
theorem pv_sl {lo hi : Option Expr} {fl fu : En → O (Option Int)} {p2 : Pos} (ha : PE X a (tD K mg W fa)) (hl : PO X lo (tO K mg W fl)) (hh : PO X hi (tO K mg W fu)) (hK : X.K = K := by rfl) :
    PE X (.Subscript a (.Slice lo hi none p2) pos) (tD K mg W (sSl D.slT fa fl fu)) := by
  subst hK
  refine pe_weak (pe_slice (sl_tupA.or sl_str) ha hl hh) fun _ _ _ q => t_sl mono_D (fun B H x lo hi d c Q s hx hc k => ?_) q
  unfold D.slT at hc
  split at hc
  · cases hc
    have hx' := hx
    cases hx with
    | tup h1 a1 =>
      have hl := DpAll.length a1
      refine .inl ⟨_, _, rfl, Same.tup s h1, fun hw => ?_, fun hw p hp => ?_⟩
      · rw [hl] at hw
        refine k _ B H (Ext.refl s) ?_
        have e := sl_whole hw
        unfold relD cutD
        rw [e]
        exact hx'
      · exact new_tup s hp (DpAll.cut a1 _ _) k
  · split at hc
    · rename_i hz
      cases hc
      cases hx
      exact .inr ⟨_, rfl, by rw [sizeLine_eq]; exact hz, k _ B H (Ext.refl s) (.str _)⟩
    · cases hc
  · cases hc
theorem pl_sl {lo hi : Option Expr} {fl fu : En → O (Option Int)} {p2 : Pos} (ha : PE X a (tD K mg W fa)) (hl : PO X lo (tO K mg W fl)) (hh : PO X hi (tO K mg W fu)) (hK : X.K = K := by rfl) :
    PE X (.Subscript a (.Slice lo hi none p2) pos) (tL K mg W (sSl D.slL fa fl fu)) := by
  subst hK
  refine pe_weak (pe_slice sl_list ha hl hh) fun _ _ _ q => t_sl mono_F (fun B H x lo hi d c Q s hx hc k => ?_) q
  unfold D.slL at hc
  split at hc
  · cases hc
    cases hx with
    | lst h1 a1 =>
      refine ⟨_, _, rfl, s.seq h1, fun p hp => ?_⟩
      exact new_lst s hp (DpAll.cut a1 _ _) k
  · cases hc

/-! ### lists that may be read: new ones, the frame's own -/
def relR (K : PySem.W.Frag) : Hp → Hp → Hp → V → List D → Prop := fun _ B' H' v ds => ∃ p vs, v = .ref p ∧ H' p = some (.lst vs) ∧ DpAll K B' vs ds
theorem mono_R : Mono (relR K) := fun _ _ _ _ _ _ _ h => h
abbrev tR (K : PySem.W.Frag) (mg : Str → Option Value) (W : WX) (f : En → O (List D)) : TE := T K mg W (relR K) f
theorem pr_l (h : PE X e (tL K mg W fs)) : PE X e (tR K mg W fs) := pe_weak h fun σ H Q q => by
  obtain ⟨B0, H0, B, env, R, q⟩ := q
  refine ⟨B0, H0, B, env, R, ?_⟩
  cases w : fs env with
  | ok ds =>
    rw [w] at q
    intro v B1 H1 x r
    obtain ⟨p, vs, rfl, hp, hb, ho, ha⟩ := r
    exact q _ B1 H1 x ⟨p, vs, rfl, ho, ha⟩
  | ex z => rw [w] at q; exact q
  | st => rw [w] at q; exact q
def sI (i : Nat) : En → O (List D) := fun env => match env[i]? with
  | some (some (.l ds)) => .ok ds
  | _ => .st
theorem pr_n (i : Nat) {x : Str} (hN : X.N[i]? = some x := by rfl) (hv : Vis X.env.scope x := by first | exact Or.inl rfl | exact Or.inr (Or.inl rfl) | exact Or.inr (Or.inr rfl)) (hd : (x == ("__debug__" : Str)) = false := by decide)
    (hcd : (x == ("__classdict__" : Str)) = false := by decide) : PE X (.Name x pos) (tR K mg W (sI i)) := by
  refine pe_weak (pe_var (i := i) hN hv hd hcd) fun σ H Q h => ?_
  obtain ⟨B0, H0, B, env, R, q⟩ := h
  unfold sI at q
  split at q
  · rename_i ds he
    obtain ⟨p, vs, g1, g2, g3, g4, g5⟩ := R.own i ds he
    exact ⟨_, g1, q _ B H (Ext.refl R.ext.s) ⟨p, vs, rfl, g4, g5⟩⟩
  · exact q.elim
def sCat (fa fb : En → O (List D)) : En → O (List D) := fun env => do
  let x ← fa env
  let y ← fb env
  O.of (if x.length + y.length ≤ 16777216 then some (x ++ y) else none)
theorem pl_cat {fs' : En → O (List D)} (ha : PE X a (tR K mg W fs)) (hb : PE X b (tR K mg W fs')) : PE X (.BinOp a .Add b pos) (tL K mg W (sCat fs fs')) := by
  refine pe_weak (pe_op op_cat ha hb) fun σ H Q q => ?_
  refine T.bind mono_F q fun B0 H0 d v B1 H1 env R rv q1 => ⟨B0, H0, B1, env, R, ?_⟩
  refine q1.bind mono_F fun d2 v2 B2 H2 _ x rv2 q2 => ?_
  obtain ⟨c, hc, q3⟩ := q2.of
  obtain ⟨p, vs, rfl, h1, a1⟩ := rv
  obtain ⟨p2, vs2, rfl, h2, a2⟩ := rv2
  split at hc
  · rename_i hz
    cases hc
    refine ⟨p, p2, vs, vs2, rfl, rfl, x.h _ _ h1, h2, by rw [sizeLine_eq, DpAll.length a1, DpAll.length a2]; exact hz, fun q hq => ?_⟩
    have y := Ext.loose (o := .lst (vs ++ vs2)) x.s hq
    exact q3 _ _ _ y ⟨q, _, rfl, hq, x.s.free hq, upd_same, DpAll.append (DpAll.up x.b _ _ a1) a2⟩
  · cases hc

/-! ### built-in functions -/
theorem pg_callB {α : Type} {rel : Hp → Hp → Hp → V → α → Prop} (m : Mono rel) {id : String} {x : Str} {p : Pos} {r : List V → Hp → VK → Prop} {h : List D → Option α} (hc : CallR X (.builtin id) r) (hd : CaG K rel r h) (hg : Gl X x) (hm : X.mg x = none) (hv : bootBuiltins x = some (.builtin id))
    (ha : PA X (e :: es) (tA K mg W fs)) (hn : x ≠ "__name__" := by decide) (hdb : (x == ("__debug__" : Str)) = false := by decide) (he : starEach (e :: es) X.env = (false, eval e X.env) :: starEach es X.env := by rfl)
    (hpl : (backTo pos (starEach es X.env)).any (·.1) = false := by rfl) : PE X (.Call (.Name x p) (e :: es) [] pos) (T K mg W rel (sCa h fs)) := by
  refine pe_weak (pe_callB hc hg hm hv ha hn hdb he hpl) fun σ H Q q => ?_
  refine T.bind m q fun B0 H0 ds vs B1 H1 env R rvs q1 => ?_
  obtain ⟨c, hc', q2⟩ := q1.of
  exact hd B1 H1 vs ds c Q R.ext.s rvs hc' q2
theorem pg_callT {α : Type} {rel : Hp → Hp → Hp → V → α → Prop} (m : Mono rel) {id : String} {x : Str} {p : Pos} {r : List V → Hp → VK → Prop} {h : List D → Option α} (hc : CallR X (.type id) r) (hd : CaG K rel r h) (hg : Gl X x) (hm : X.mg x = none) (hv : bootBuiltins x = some (.type id))
    (ha : PA X (e :: es) (tA K mg W fs)) (hn : x ≠ "__name__" := by decide) (hdb : (x == ("__debug__" : Str)) = false := by decide) (he : starEach (e :: es) X.env = (false, eval e X.env) :: starEach es X.env := by rfl)
    (hpl : (backTo pos (starEach es X.env)).any (·.1) = false := by rfl) : PE X (.Call (.Name x p) (e :: es) [] pos) (T K mg W rel (sCa h fs)) := by
  refine pe_weak (pe_callTy hc hg hm hv ha hn hdb he hpl) fun σ H Q q => ?_
  refine T.bind m q fun B0 H0 ds vs B1 H1 env R rvs q1 => ?_
  obtain ⟨c, hc', q2⟩ := q1.of
  exact hd B1 H1 vs ds c Q R.ext.s rvs hc' q2
theorem DpAll.one' {B : Hp} {vs : List V} {d : D} (h : DpAll K B vs [d]) : ∃ v, vs = [v] ∧ Dp K B v d := by
  cases h with
  | cons h1 h2 => cases h2; exact ⟨_, rfl, h1⟩
def D.len : List D → Option D
  | [.str s] => if s.length ≤ 16777216 then some (.int s.length) else none
  | [.list ds] => some (.int ds.length)
  | [.tuple ds] => some (.int ds.length)
  | _ => none
theorem g_len : CaG K (relD K) (fun xs H Q => ∃ x n, xs = [x] ∧ LenV K x H n ∧ Q (.int n) H) D.len := by
  intro B H xs ds c Q s hx hc k
  unfold D.len at hc
  split at hc
  · split at hc
    · rename_i z hz
      cases hc
      obtain ⟨v, rfl, hv⟩ := DpAll.one' hx
      cases hv
      exact ⟨_, z.length, rfl, ⟨by rw [sizeLine_eq]; exact hz, rfl⟩, k _ B H (Ext.refl s) (.int _)⟩
    · cases hc
  · cases hc
    obtain ⟨v, rfl, hv⟩ := DpAll.one' hx
    cases hv with
    | lst h1 a1 => exact ⟨_, _, rfl, .inl ⟨_, s.seq h1, rfl⟩, by rw [DpAll.length a1]; exact k _ B H (Ext.refl s) (.int _)⟩
  · cases hc
    obtain ⟨v, rfl, hv⟩ := DpAll.one' hx
    cases hv with
    | tup h1 a1 => exact ⟨_, _, rfl, .inr ⟨_, Same.tup s h1, rfl⟩, by rw [DpAll.length a1]; exact k _ B H (Ext.refl s) (.int _)⟩
  · cases hc
def D.bools : List D → Option (List Bool)
  | [] => some []
  | .bool b :: ds => (D.bools ds).map (b :: ·)
  | .none :: _ => none
  | .int _ :: _ => none
  | .str _ :: _ => none
  | .list _ :: _ => none
  | .tuple _ :: _ => none
  | .dict _ :: _ => none
theorem bools_map : ∀ {ds : List D} {bs : List Bool}, D.bools ds = some bs → ds = bs.map .bool
  | [], _, h => by cases h; rfl
  | .bool b :: ds, bs, h => by
    have h' : (D.bools ds).map (b :: ·) = some bs := h
    cases w : D.bools ds with
    | none => rw [w] at h'; cases h'
    | some r => rw [w] at h'; cases h'; rw [bools_map w]; rfl
  | .none :: _, _, h => by cases h
  | .int _ :: _, _, h => by cases h
  | .str _ :: _, _, h => by cases h
  | .list _ :: _, _, h => by cases h
  | .tuple _ :: _, _, h => by cases h
  | .dict _ :: _, _, h => by cases h
def D.all : List D → Option D
  | [.list ds] => (D.bools ds).map fun bs => .bool (bs.all id)
  | _ => none
def D.any : List D → Option D
  | [.list ds] => (D.bools ds).map fun bs => .bool (bs.any id)
  | _ => none
theorem g_all : CaG K (relD K) (rAll K) D.all := by
  intro B H xs ds c Q s hx hc k
  unfold D.all at hc
  split at hc
  · rename_i ds
    cases w : D.bools ds with
    | none => rw [w] at hc; cases hc
    | some bs =>
      rw [w] at hc
      cases hc
      obtain ⟨v, rfl, hv⟩ := DpAll.one' hx
      cases hv with
      | lst h1 a1 =>
        rw [bools_map w] at a1
        have e := DpAll.bls a1
        subst e
        exact ⟨_, bs, rfl, s.seq h1, k _ B H (Ext.refl s) (.bl _)⟩
  · cases hc
theorem g_any : CaG K (relD K) (rAny K) D.any := by
  intro B H xs ds c Q s hx hc k
  unfold D.any at hc
  split at hc
  · rename_i ds
    cases w : D.bools ds with
    | none => rw [w] at hc; cases hc
    | some bs =>
      rw [w] at hc
      cases hc
      obtain ⟨v, rfl, hv⟩ := DpAll.one' hx
      cases hv with
      | lst h1 a1 =>
        rw [bools_map w] at a1
        have e := DpAll.bls a1
        subst e
        exact ⟨_, bs, rfl, s.seq h1, k _ B H (Ext.refl s) (.bl _)⟩
  · cases hc
def D.toTuple : List D → Option D
  | [.list ds] => some (.tuple ds)
  | [.tuple ds] => some (.tuple ds)
  | _ => none
theorem g_tuple : CaG K (relD K) (fun xs H Q => ∃ p ys, xs = [.ref p] ∧ ((SqL K H p ys ∧ ∀ l, H l = none → Q (.ref l) (upd H l (.tup ys))) ∨ (SqT K H p ys ∧ Q (.ref p) H))) D.toTuple := by
  intro B H xs ds c Q s hx hc k
  unfold D.toTuple at hc
  split at hc
  · cases hc
    obtain ⟨v, rfl, hv⟩ := DpAll.one' hx
    cases hv with
    | lst h1 a1 =>
      refine ⟨_, _, rfl, .inl ⟨s.seq h1, fun l hl => ?_⟩⟩
      exact new_tup s hl a1 k
  · cases hc
    obtain ⟨v, rfl, hv⟩ := DpAll.one' hx
    have hv' := hv
    cases hv with
    | tup h1 a1 => exact ⟨_, _, rfl, .inr ⟨Same.tup s h1, k _ B H (Ext.refl s) hv'⟩⟩
  · cases hc
def D.toList : List D → Option (List D)
  | [.list ds] => some ds
  | [.tuple ds] => some ds
  | _ => none
theorem g_list : CaG K (relF K) (fun xs H Q => ∃ p ys, xs = [.ref p] ∧ (SqL K H p ys ∨ SqT K H p ys) ∧ ∀ l, H l = none → Q (.ref l) (upd H l (.lst ys))) D.toList := by
  intro B H xs ds c Q s hx hc k
  unfold D.toList at hc
  split at hc
  · cases hc
    obtain ⟨v, rfl, hv⟩ := DpAll.one' hx
    cases hv with
    | lst h1 a1 => exact ⟨_, _, rfl, .inl (s.seq h1), fun l hl => new_lst s hl a1 k⟩
  · cases hc
    obtain ⟨v, rfl, hv⟩ := DpAll.one' hx
    cases hv with
    | tup h1 a1 => exact ⟨_, _, rfl, .inr (Same.tup s h1), fun l hl => new_lst s hl a1 k⟩
  · cases hc
def D.ints : List D → Option (List Int)
  | [] => some []
  | .int b :: ds => (D.ints ds).map (b :: ·)
  | .none :: _ => none
  | .bool _ :: _ => none
  | .str _ :: _ => none
  | .list _ :: _ => none
  | .tuple _ :: _ => none
  | .dict _ :: _ => none
theorem ints_map : ∀ {ds : List D} {bs : List Int}, D.ints ds = some bs → ds = bs.map .int
  | [], _, h => by cases h; rfl
  | .int b :: ds, bs, h => by
    have h' : (D.ints ds).map (b :: ·) = some bs := h
    cases w : D.ints ds with
    | none => rw [w] at h'; cases h'
    | some r => rw [w] at h'; cases h'; rw [ints_map w]; rfl
  | .none :: _, _, h => by cases h
  | .bool _ :: _, _, h => by cases h
  | .str _ :: _, _, h => by cases h
  | .list _ :: _, _, h => by cases h
  | .tuple _ :: _, _, h => by cases h
  | .dict _ :: _, _, h => by cases h
def D.sum : List D → Option D
  | [.list ds] => (D.ints ds).map fun bs => .int bs.sum
  | _ => none
theorem g_sum : CaG K (relD K) (rSum K) D.sum := by
  intro B H xs ds c Q s hx hc k
  unfold D.sum at hc
  split at hc
  · rename_i ds
    cases w : D.ints ds with
    | none => rw [w] at hc; cases hc
    | some bs =>
      rw [w] at hc
      cases hc
      obtain ⟨v, rfl, hv⟩ := DpAll.one' hx
      cases hv with
      | lst h1 a1 =>
        rw [ints_map w] at a1
        have e := DpAll.ints a1
        subst e
        exact ⟨_, bs, rfl, s.seq h1, k _ B H (Ext.refl s) (.int _)⟩
  · cases hc
/-- the greatest, the least of a list of ints -/
def maxI : List Int → Option Int
  | [] => none
  | x :: xs => some (xs.foldl max x)
def minI : List Int → Option Int
  | [] => none
  | x :: xs => some (xs.foldl min x)
theorem foldl_max (xs : List Int) : ∀ x : Int, x ≤ xs.foldl max x ∧ (∀ y ∈ xs, y ≤ xs.foldl max x) ∧ (xs.foldl max x = x ∨ xs.foldl max x ∈ xs) := by
  induction xs with
  | nil => intro x; exact ⟨Int.le_refl x, (fun y h => by cases h), .inl rfl⟩
  | cons a r ih =>
    intro x
    obtain ⟨h1, h2, h3⟩ := ih (max x a)
    simp only [List.foldl_cons]
    refine ⟨by omega, fun y hy => ?_, ?_⟩
    · rcases List.mem_cons.mp hy with rfl | hy
      · omega
      · exact h2 y hy
    · rcases h3 with h3 | h3
      · by_cases hx : x ≤ a
        · right; rw [h3, Int.max_eq_right hx]; exact List.mem_cons_self
        · left; rw [h3, Int.max_eq_left (by omega)]
      · right; exact List.mem_cons_of_mem _ h3
theorem foldl_min (xs : List Int) : ∀ x : Int, xs.foldl min x ≤ x ∧ (∀ y ∈ xs, xs.foldl min x ≤ y) ∧ (xs.foldl min x = x ∨ xs.foldl min x ∈ xs) := by
  induction xs with
  | nil => intro x; exact ⟨Int.le_refl x, (fun y h => by cases h), .inl rfl⟩
  | cons a r ih =>
    intro x
    obtain ⟨h1, h2, h3⟩ := ih (min x a)
    simp only [List.foldl_cons]
    refine ⟨by omega, fun y hy => ?_, ?_⟩
    · rcases List.mem_cons.mp hy with rfl | hy
      · omega
      · exact h2 y hy
    · rcases h3 with h3 | h3
      · by_cases hx : x ≤ a
        · left; rw [h3, Int.min_eq_left hx]
        · right; rw [h3, Int.min_eq_right (by omega)]; exact List.mem_cons_self
      · right; exact List.mem_cons_of_mem _ h3
theorem maxI_mem {xs : List Int} {m : Int} (h : maxI xs = some m) : m ∈ xs ∧ ∀ y ∈ xs, y ≤ m := by
  cases xs with
  | nil => cases h
  | cons x xs =>
    cases h
    obtain ⟨h1, h2, h3⟩ := foldl_max xs x
    refine ⟨?_, fun y hy => ?_⟩
    · rcases h3 with h3 | h3
      · rw [h3]; exact List.mem_cons_self
      · exact List.mem_cons_of_mem _ h3
    · rcases List.mem_cons.mp hy with rfl | hy
      · exact h1
      · exact h2 y hy
theorem minI_mem {xs : List Int} {m : Int} (h : minI xs = some m) : m ∈ xs ∧ ∀ y ∈ xs, m ≤ y := by
  cases xs with
  | nil => cases h
  | cons x xs =>
    cases h
    obtain ⟨h1, h2, h3⟩ := foldl_min xs x
    refine ⟨?_, fun y hy => ?_⟩
    · rcases h3 with h3 | h3
      · rw [h3]; exact List.mem_cons_self
      · exact List.mem_cons_of_mem _ h3
    · rcases List.mem_cons.mp hy with rfl | hy
      · exact h1
      · exact h2 y hy
def D.max : List D → Option D
  | [.list ds] => ((D.ints ds).bind maxI).map .int
  | _ => none
def D.min : List D → Option D
  | [.list ds] => ((D.ints ds).bind minI).map .int
  | _ => none
theorem g_max : CaG K (relD K) (rMax K) D.max := by
  intro B H xs ds c Q s hx hc k
  unfold D.max at hc
  split at hc
  · rename_i ds
    cases w : D.ints ds with
    | none => rw [w] at hc; cases hc
    | some bs =>
      rw [w] at hc
      cases w2 : maxI bs with
      | none => simp only [Option.bind_some, w2] at hc; cases hc
      | some m =>
        simp only [Option.bind_some, w2] at hc
        cases hc
        obtain ⟨v, rfl, hv⟩ := DpAll.one' hx
        cases hv with
        | lst h1 a1 =>
          rw [ints_map w] at a1
          have e := DpAll.ints a1
          subst e
          obtain ⟨m1, m2⟩ := maxI_mem w2
          refine ⟨_, bs, rfl, s.seq h1, List.length_pos_of_mem m1, fun m' hm hle => ?_⟩
          have e : m' = m := Int.le_antisymm (m2 _ hm) (hle _ m1)
          subst e
          exact k _ B H (Ext.refl s) (.int _)
  · cases hc
theorem g_min : CaG K (relD K) (rMin K) D.min := by
  intro B H xs ds c Q s hx hc k
  unfold D.min at hc
  split at hc
  · rename_i ds
    cases w : D.ints ds with
    | none => rw [w] at hc; cases hc
    | some bs =>
      rw [w] at hc
      cases w2 : minI bs with
      | none => simp only [Option.bind_some, w2] at hc; cases hc
      | some m =>
        simp only [Option.bind_some, w2] at hc
        cases hc
        obtain ⟨v, rfl, hv⟩ := DpAll.one' hx
        cases hv with
        | lst h1 a1 =>
          rw [ints_map w] at a1
          have e := DpAll.ints a1
          subst e
          obtain ⟨m1, m2⟩ := minI_mem w2
          refine ⟨_, bs, rfl, s.seq h1, List.length_pos_of_mem m1, fun m' hm hle => ?_⟩
          have e : m' = m := Int.le_antisymm (hle _ m1) (m2 _ hm)
          subst e
          exact k _ B H (Ext.refl s) (.int _)
  · cases hc
def D.toStr : List D → Option D
  | [.int i] => if i.natAbs.log2 < 1920 then some (.str (toString i)) else none
  | _ => none
theorem g_str : CaG K (relD K) (fun xs H Q => ∃ i : Int, xs = [.int i] ∧ i.natAbs.log2 < 1920 ∧ Q (.str (toString i)) H) D.toStr := by
  intro B H xs ds c Q s hx hc k
  unfold D.toStr at hc
  split at hc
  · split at hc
    · rename_i hz
      cases hc
      obtain ⟨v, rfl, hv⟩ := DpAll.one' hx
      cases hv
      exact ⟨_, rfl, hz, k _ B H (Ext.refl s) (.str _)⟩
    · cases hc
  · cases hc
end
end PL

/-! The pure layer, part 7: texts, isinstance, sorted. -/
namespace PL
open PySem PySem.Spec PyProof.Rows L2

def D.asStr : D → Option Str
  | .str z => some z
  | _ => none
def sM0 {α : Type} (h : Str → Option α) (fo : En → O D) : En → O α := fun env => do
  let x ← fo env
  let z ← O.of (D.asStr x)
  O.of (h z)
def sM1 {α : Type} (h : Str → D → Option α) (fo fa : En → O D) : En → O α := fun env => do
  let x ← fo env
  let z ← O.of (D.asStr x)
  let y ← fa env
  O.of (h z y)
theorem asStr_of {d : D} {z : Str} (h : D.asStr d = some z) : d = .str z := by
  cases d with
  | str s => cases h; rfl
  | none => cases h
  | bool _ => cases h
  | int _ => cases h
  | list _ => cases h
  | tuple _ => cases h
  | dict _ => cases h
section
variable {X : Cx} {K : PySem.W.Frag} {mg : Str → Option Value} {W : WX} {a b c e o : Expr} {es : List Expr} {fo fa fb fc : En → O D} {fs : En → O (List D)} {pos : Pos}
def M0G {α : Type} (K : PySem.W.Frag) (rel : Hp → Hp → Hp → V → α → Prop) (r : V → List V → Hp → VK → Prop) (h : Str → Option α) : Prop := ∀ (B H : Hp) (z : Str) (c : α) (Q : VK),
  Same B H → h z = some c → (∀ v B' H', Ext B H B' H' → rel H B' H' v c → Q v H') → r (.str z) [] H Q
def M1G {α : Type} (K : PySem.W.Frag) (rel : Hp → Hp → Hp → V → α → Prop) (r : V → List V → Hp → VK → Prop) (h : Str → D → Option α) : Prop := ∀ (B H : Hp) (z : Str) (y : V) (d : D) (c : α) (Q : VK),
  Same B H → Dp K B y d → h z d = some c → (∀ v B' H', Ext B H B' H' → rel H B' H' v c → Q v H') → r (.str z) [y] H Q
theorem pg_m0 {α : Type} {rel : Hp → Hp → Hp → V → α → Prop} (m : Mono rel) {id : String} {name : Str} {apos : Pos} {r : V → List V → Hp → VK → Prop} {h : Str → Option α} (slot : Slot "str" name id) (ty : typeOf (.builtin id) = pure (.type "method_descriptor")) (rule : MtR X id r) (hd : M0G K rel r h) (ho : PE X o (tD K mg W fo))
    (hbase : attributeBase o name X.env (eval o X.env) = eval o X.env := by rfl) (hline : (apos.endLine == pos.line) = true := by rfl) : PE X (.Call (.Attribute o name apos) [] [] pos) (T K mg W rel (sM0 h fo)) := by
  refine pe_weak (pe_m0 slot ty rule ho hbase hline) fun σ H Q q => ?_
  refine T.bind m q fun B0 H0 d v B1 H1 env R rv q1 => ?_
  obtain ⟨z, hz, q2⟩ := q1.ofB
  have e := asStr_of hz
  subst e
  cases rv
  obtain ⟨c, hc, q3⟩ := q2.of
  exact ⟨⟨z, rfl⟩, hd B1 H1 z c Q R.ext.s hc q3⟩
theorem pg_m1 {α : Type} {rel : Hp → Hp → Hp → V → α → Prop} (m : Mono rel) {id : String} {name : Str} {apos : Pos} {r : V → List V → Hp → VK → Prop} {h : Str → D → Option α} (slot : Slot "str" name id) (ty : typeOf (.builtin id) = pure (.type "method_descriptor")) (rule : MtR X id r) (hd : M1G K rel r h) (ho : PE X o (tD K mg W fo)) (he : PE X e (tD K mg W fa))
    (hs : starEach [e] X.env = [(false, eval e X.env)] := by rfl) (hbase : attributeBase o name X.env (eval o X.env) = eval o X.env := by rfl) (hline : (apos.endLine == pos.line) = true := by rfl) : PE X (.Call (.Attribute o name apos) [e] [] pos) (T K mg W rel (sM1 h fo fa)) := by
  refine pe_weak (pe_m1 slot ty rule ho he hs hbase hline) fun σ H Q q => ?_
  refine T.bind m q fun B0 H0 d v B1 H1 env R rv q1 => ?_
  obtain ⟨z, hz, q2⟩ := q1.ofB
  have e := asStr_of hz
  subst e
  cases rv
  refine ⟨⟨z, rfl⟩, B0, H0, B1, env, R, ?_⟩
  refine q2.bind m fun d2 v2 B2 H2 _ x rv2 q3 => ?_
  obtain ⟨c, hc, q4⟩ := q3.of
  exact hd B2 H2 z v2 d2 c Q x.s rv2 hc q4
/-! join -/
def D.strs : List D → Option (List Str)
  | [] => some []
  | .str b :: ds => (D.strs ds).map (b :: ·)
  | .none :: _ => none
  | .bool _ :: _ => none
  | .int _ :: _ => none
  | .list _ :: _ => none
  | .tuple _ :: _ => none
  | .dict _ :: _ => none
theorem strs_map : ∀ {ds : List D} {bs : List Str}, D.strs ds = some bs → ds = bs.map .str
  | [], _, h => by cases h; rfl
  | .str b :: ds, bs, h => by
    have h' : (D.strs ds).map (b :: ·) = some bs := h
    cases w : D.strs ds with
    | none => rw [w] at h'; cases h'
    | some r => rw [w] at h'; cases h'; rw [strs_map w]; rfl
  | .none :: _, _, h => by cases h
  | .bool _ :: _, _, h => by cases h
  | .int _ :: _, _, h => by cases h
  | .list _ :: _, _, h => by cases h
  | .tuple _ :: _, _, h => by cases h
  | .dict _ :: _, _, h => by cases h
theorem strs_of : ∀ (bs : List Str), D.strs (bs.map .str) = some bs
  | [] => rfl
  | b :: bs => by
    show (D.strs (bs.map .str)).map (b :: ·) = _
    rw [strs_of bs]; rfl
def joinS (sep : Str) (ys : List Str) : Option D := if (ys.map (·.length)).sum + ys.length * sep.length ≤ 16777216 then some (.str (Txt.join sep ys)) else none
def D.join (sep : Str) : D → Option D
  | .list ds => (D.strs ds).bind (joinS sep)
  | .tuple ds => (D.strs ds).bind (joinS sep)
  | _ => none
theorem g_join : M1G K (relD K) (fun x xs H Q => ∃ a p, ∃ ys : List Str, x = .str a ∧ xs = [.ref p] ∧ (SqL K H p (ys.map V.str) ∨ SqT K H p (ys.map V.str)) ∧
    (ys.map (·.length)).sum + ys.length * a.length ≤ 16777216 ∧ Q (.str (Txt.join a ys)) H) D.join := by
  intro B H z y d c Q s hy hc k
  have fin : ∀ {ds : List D}, (D.strs ds).bind (joinS z) = some c → ∃ ys, ds = ys.map .str ∧ (ys.map (·.length)).sum + ys.length * z.length ≤ 16777216 ∧ c = .str (Txt.join z ys) := fun {ds} h => by
    cases w : D.strs ds with
    | none => rw [w] at h; cases h
    | some ys =>
      rw [w] at h
      have h' : (if (ys.map (·.length)).sum + ys.length * z.length ≤ 16777216 then some (PyData.str (Txt.join z ys)) else none) = some c := h
      split at h'
      · rename_i hz
        exact ⟨ys, strs_map w, hz, (Option.some.inj h').symm⟩
      · cases h'
  cases d with
  | list ds =>
    obtain ⟨ys, rfl, hz, rfl⟩ := fin hc
    cases hy with
    | lst h1 a1 =>
      have e := DpAll.strs a1
      subst e
      exact ⟨z, _, ys, rfl, rfl, .inl (s.seq h1), hz, k _ B H (Ext.refl s) (.str _)⟩
  | tuple ds =>
    obtain ⟨ys, rfl, hz, rfl⟩ := fin hc
    cases hy with
    | tup h1 a1 =>
      have e := DpAll.strs a1
      subst e
      exact ⟨z, _, ys, rfl, rfl, .inr (Same.tup s h1), hz, k _ B H (Ext.refl s) (.str _)⟩
  | none => cases hc
  | bool _ => cases hc
  | int _ => cases hc
  | str _ => cases hc
  | dict _ => cases hc
theorem pv_join {apos : Pos} (ho : PE X o (tD K mg W fo)) (he : PE X e (tD K mg W fa)) (hK : X.K = K := by rfl) (hs : starEach [e] X.env = [(false, eval e X.env)] := by rfl) (hbase : attributeBase o "join" X.env (eval o X.env) = eval o X.env := by rfl) (hline : (apos.endLine == pos.line) = true := by rfl) :
    PE X (.Call (.Attribute o "join" apos) [e] [] pos) (tD K mg W (sM1 D.join fo fa)) := by
  subst hK
  exact pg_m1 mono_D PySem.F.slot_str_join PySem.F.type_str_join mt_join g_join ho he hs hbase hline
def D.count (z : Str) : D → Option D
  | .str y => some (.int (Txt.count z y))
  | _ => none
theorem pv_count {apos : Pos} (ho : PE X o (tD K mg W fo)) (he : PE X e (tD K mg W fa)) (hs : starEach [e] X.env = [(false, eval e X.env)] := by rfl) (hbase : attributeBase o "count" X.env (eval o X.env) = eval o X.env := by rfl) (hline : (apos.endLine == pos.line) = true := by rfl) :
    PE X (.Call (.Attribute o "count" apos) [e] [] pos) (tD K mg W (sM1 D.count fo fa)) := by
  refine pg_m1 mono_D PySem.F.slot_str_count PySem.F.type_str_count mt_count ?_ ho he hs hbase hline
  intro B H z y d c Q s hy hc k
  cases d with
  | str x => cases hc; cases hy; exact ⟨z, x, rfl, rfl, k _ B H (Ext.refl s) (.int _)⟩
  | none => cases hc
  | bool _ => cases hc
  | int _ => cases hc
  | list _ => cases hc
  | tuple _ => cases hc
  | dict _ => cases hc
theorem DpAll.ofStrs {B : Hp} : ∀ ys : List Str, DpAll K B (ys.map V.str) (ys.map .str)
  | [] => .nil
  | y :: ys => .cons (.str y) (DpAll.ofStrs ys)
def D.split (z : Str) : D → Option (List D)
  | .str y => if (y.length == 0) = false ∧ z.length + 2 ≤ 16777216 then some ((Txt.split z y).map .str) else none
  | _ => none
theorem pl_split {apos : Pos} (ho : PE X o (tD K mg W fo)) (he : PE X e (tD K mg W fa)) (hs : starEach [e] X.env = [(false, eval e X.env)] := by rfl) (hbase : attributeBase o "split" X.env (eval o X.env) = eval o X.env := by rfl) (hline : (apos.endLine == pos.line) = true := by rfl) :
    PE X (.Call (.Attribute o "split" apos) [e] [] pos) (tL K mg W (sM1 D.split fo fa)) := by
  refine pg_m1 mono_F PySem.F.slot_str_split PySem.F.type_str_split mt_split ?_ ho he hs hbase hline
  intro B H z y d c Q s hy hc k
  cases d with
  | str x =>
    have hc' : (if (x.length == 0) = false ∧ z.length + 2 ≤ 16777216 then some ((Txt.split z x).map PyData.str) else none) = some c := hc
    split at hc'
    · rename_i hz
      cases hc'
      cases hy
      exact ⟨z, x, rfl, rfl, hz.1, by rw [sizeLine_eq]; exact hz.2, fun p hp => new_lst s hp (DpAll.ofStrs _) k⟩
    · cases hc'
  | none => cases hc
  | bool _ => cases hc
  | int _ => cases hc
  | list _ => cases hc
  | tuple _ => cases hc
  | dict _ => cases hc
def D.words (z : Str) : Option (List D) := if z.length + 2 ≤ 16777216 then some ((Txt.words z).map .str) else none
theorem pl_words {apos : Pos} (ho : PE X o (tD K mg W fo)) (hbase : attributeBase o "split" X.env (eval o X.env) = eval o X.env := by rfl) (hline : (apos.endLine == pos.line) = true := by rfl) :
    PE X (.Call (.Attribute o "split" apos) [] [] pos) (tL K mg W (sM0 D.words fo)) := by
  refine pg_m0 mono_F PySem.F.slot_str_split PySem.F.type_str_split mt_words ?_ ho hbase hline
  intro B H z c Q s hc k
  unfold D.words at hc
  split at hc
  · rename_i hz
    cases hc
    exact ⟨z, rfl, rfl, by rw [sizeLine_eq]; exact hz, fun p hp => new_lst s hp (DpAll.ofStrs _) k⟩
  · cases hc

/-! ### isinstance -/
def D.ty : D → String
  | .none => "NoneType"
  | .bool _ => "bool"
  | .int _ => "int"
  | .str _ => "str"
  | .list _ => "list"
  | .tuple _ => "tuple"
  | .dict _ => "dict"
/-- the answer, by the two names -/
def isiB (a b : String) : Option Bool := if a = "dict" then none else if b = "str" ∨ b = "tuple" ∨ b = "bool" ∨ b = "list" then some (a == b) else if b = "int" then some (a == "int" || a == "bool") else none
def D.isi (T : String) (d : D) : Option D := (isiB (D.ty d) T).map .bool
theorem kit_isi {a b : String} {r : Bool} (ha : a = "NoneType" ∨ a = "bool" ∨ a = "int" ∨ a = "str" ∨ a = "list" ∨ a = "tuple") (h : isiB a b = some r) : PySem.W.kitOne K (.type a) (.type b) = some r := by
  have hb : b = "str" ∨ b = "tuple" ∨ b = "bool" ∨ b = "list" ∨ b = "int" := by
    unfold isiB at h
    split at h
    · cases h
    · split at h
      · rename_i q; rcases q with q | q | q | q <;> simp [q]
      · split at h
        · rename_i q; simp [q]
        · cases h
  apply kit_ty
  rcases ha with rfl | rfl | rfl | rfl | rfl | rfl <;> rcases hb with rfl | rfl | rfl | rfl | rfl <;> (rw [← h]; decide +kernel)
theorem tyX {B H : Hp} {v : V} {d : D} (s : Same B H) (h : Dp K B v d) : TyX K H v (.type (D.ty d)) ∧ (D.ty d = "NoneType" ∨ D.ty d = "bool" ∨ D.ty d = "int" ∨ D.ty d = "str" ∨ D.ty d = "list" ∨ D.ty d = "tuple") := by
  cases h with
  | non => exact ⟨.base .non, by simp [D.ty]⟩
  | bl b => exact ⟨.base (.bl b), by simp [D.ty]⟩
  | int i => exact ⟨.base (.int i), by simp [D.ty]⟩
  | str x => exact ⟨.base (.str x), by simp [D.ty]⟩
  | lst h1 a1 =>
    refine ⟨?_, by simp [D.ty]⟩
    rcases h1 with (h | ⟨o, h⟩) | ⟨o, its, n, h, hc, _⟩
    · exact .base (.lst (s _ _ h))
    · exact .base (.frz (s _ _ h))
    · exact .kList h hc
  | tup h1 a1 =>
    refine ⟨?_, by simp [D.ty]⟩
    rcases h1 with (h | ⟨o, h⟩) | ⟨o, its, n, h, hc, _⟩
    · exact .base (.tup (s _ _ h))
    · exact .fTuple (s _ _ h)
    · exact .kTuple h hc
/-- isinstance(a, T), T a built-in class by its name -/
theorem pv_isi {T : Str} {TT : String} {p p2 : Pos} (hg : Gl X "isinstance") (hm : X.mg "isinstance" = none) (hgT : Gl X T) (hmT : X.mg T = none) (hvT : bootBuiltins T = some (.type TT)) (ha : PE X a (tD K mg W fa)) (hK : X.K = K := by rfl) (hnT : T ≠ "__name__" := by decide) (hdT : (T == ("__debug__" : Str)) = false := by decide)
    (he : starEach [a, .Name T p2] X.env = (false, eval a X.env) :: starEach [.Name T p2] X.env := by rfl) (hpl : (backTo pos (starEach [.Name T p2] X.env)).any (·.1) = false := by rfl) (hs2 : starEach [.Name T p2] X.env = (false, eval (.Name T p2) X.env) :: starEach [] X.env := by rfl) :
    PE X (.Call (.Name "isinstance" p) [a, .Name T p2] [] pos) (tD K mg W (sUn (D.isi TT) fa)) := by
  subst hK
  have hb : PE X (.Name T p2) (tC (.ty TT)) := pe_bltn hgT hmT hvT rfl hnT hdT
  refine pe_weak (pe_callB call_isi hg hm (by decide +kernel) (pa_cons ha (pa_cons hb pa_nil hs2) he) (by decide) (by decide) he hpl) fun σ H Q q => ?_
  refine PL.T.bind mono_D q fun B0 H0 d v B1 H1 env R rv q1 => ?_
  obtain ⟨c, hc, q2⟩ := q1.of
  unfold D.isi at hc
  cases w : isiB (D.ty d) TT with
  | none => rw [w] at hc; cases hc
  | some r =>
    rw [w] at hc
    cases hc
    obtain ⟨t1, t2⟩ := tyX R.ext.s rv
    exact ⟨v, .ty TT, _, _, r, rfl, .ty TT, t1, kit_isi t2 w, q2 _ B1 H1 (Ext.refl R.ext.s) (.bl _)⟩

/-! ### sorted, of pairs of ints -/
def pairs : List D → Option (List (Int × Int))
  | [] => some []
  | .tuple [.int i, .int j] :: ds => (pairs ds).map ((i, j) :: ·)
  | _ :: _ => none
def pairD (p : Int × Int) : D := .tuple [.int p.1, .int p.2]
theorem pairs_map : ∀ {ds : List D} {ps : List (Int × Int)}, pairs ds = some ps → ds = ps.map pairD
  | [], _, h => by cases h; rfl
  | d :: ds, ps, h => by
    unfold pairs at h
    split at h
    · cases ‹_ :: _ = _›
    · rename_i i j ds' e
      cases e
      cases w : pairs ds with
      | none => rw [w] at h; cases h
      | some r => rw [w] at h; cases h; rw [pairs_map w]; rfl
    · cases h
theorem pairs_of : ∀ ps : List (Int × Int), pairs (ps.map pairD) = some ps
  | [] => rfl
  | p :: ps => by
    show (pairs (ps.map pairD)).map ((p.1, p.2) :: ·) = _
    rw [pairs_of ps]; rfl
def pairLe (p q : Int × Int) : Bool := decide (p.1 < q.1 ∨ (p.1 = q.1 ∧ p.2 ≤ q.2))
def D.sorted : List D → Option (List D)
  | [.list ds] => (pairs ds).bind fun ps => if ps.length ≤ 16777216 then some ((ps.mergeSort pairLe).map pairD) else none
  | _ => none
def rSrt (K : PySem.W.Frag) : List V → Hp → VK → Prop := fun xs H Q => ∃ (a : Addr) (vs : List V) (ps : List (Int × Int)) (B : Hp), xs = [.ref a] ∧ SqL K H a vs ∧ Same B H ∧ DpAll K B vs (ps.map pairD) ∧ ps.length ≤ sizeLine ∧
  ∀ p ws, H p = none → DpAll K B ws ((ps.mergeSort pairLe).map pairD) → Q (.ref p) (upd H p (.lst ws))
theorem o_sorted (hu : X.A.units + 64 < cLine) : CallR X (.builtin "sorted") (rSrt X.K) := by
  intro pins s σ H xs us Q I r h
  obtain ⟨a, vs, ps, B, rfl, hs, sm, ha, hz, q⟩ := h
  obtain ⟨its, rv, hl, _⟩ := I.list hs
  obtain ⟨u, rfl, ru⟩ := vals1 r
  obtain rfl : u = Value.ref a := ru
  have each : ∀ {ps : List (Int × Int)} {vs : List V} {its : List Value}, DpAll X.K B vs (ps.map pairD) → Vals vs its → PySem.W.EachIs (fun u p => (∃ x : V, RelV x u ∧ Dp X.K B x (pairD p)) ∧ ∃ as, Reads s.heap u (pairD p) as) its ps := by
    intro ps
    induction ps with
    | nil => intro vs its h1 h2; cases h1; cases h2; exact .nil
    | cons p ps ih =>
      intro vs its h1 h2
      cases h1 with
      | cons g1 g2 =>
        cases h2 with
        | cons r1 r2 => exact .cons ⟨⟨_, r1, g1⟩, Dp.reads I _ _ _ (Dp.up sm _ _ g1) r1⟩ (ih g2 r2)
  have e := each ha rv
  have back : ∀ {ps : List (Int × Int)} {out : List Value}, PySem.W.EachIs (fun u p => ∃ x : V, RelV x u ∧ Dp X.K B x (pairD p)) out ps → ∃ ws, Vals ws out ∧ DpAll X.K B ws (ps.map pairD) := by
    intro ps
    induction ps with
    | nil => intro out h; cases h; exact ⟨[], .nil, .nil⟩
    | cons p ps ih =>
      intro out h
      cases h with
      | cons g1 g2 =>
        obtain ⟨x, r1, d1⟩ := g1
        obtain ⟨ws, h1, h2⟩ := ih g2
        exact ⟨x :: ws, .cons r1 h1, .cons d1 h2⟩
  have hle : PySem.W.dataLe false pairD = pairLe := by
    have := PySem.W.dataLe_ii (fun p : Int × Int => p.1) (fun p => p.2)
    exact this
  refine PySem.W.sorted_data (enc := pairD) (bs := ps) (vs := its) (R := fun u p => ∃ x : V, RelV x u ∧ Dp X.K B x (pairD p)) hl.isList (e.mono fun _ _ h => h.1) (e.mono fun _ _ h => h.2) (fun d hd d' hd' => ?_) (.inl fun d hd => ?_) hz (fun b _ => ?_) fun out hlen eo => ?_
  · obtain ⟨p, _, rfl⟩ := List.mem_map.mp hd
    obtain ⟨p', _, rfl⟩ := List.mem_map.mp hd'
    rfl
  · obtain ⟨p, _, rfl⟩ := List.mem_map.mp hd
    exact ⟨_, _, rfl⟩
  · have : (pairD b).depth = 1 := rfl
    rw [this]; omega
  · rw [hle] at eo
    obtain ⟨ws, w1, w2⟩ := back eo
    obtain ⟨c, hc⟩ := sortedAll_at s.heap its (List.toArray out)
    have hfr : H (s.heap.objs.size + 1) = none := I.hok.fresh (Nat.le_succ _)
    refine ⟨.ref (s.heap.objs.size + 1), _, I.laid (t' := s.toks) (o := .lst ws) (fun b o eo => sortedAll_old eo) (Nat.le_succ _) ⟨?_, out, c, w1, hc⟩, rfl, q _ ws hfr w2⟩
    rw [w1.length, hlen]; exact hz
theorem g_sorted : CaG K (relF K) (rSrt K) D.sorted := by
  intro B H xs ds c Q s hx hc k
  unfold D.sorted at hc
  split at hc
  · rename_i ds
    cases w : pairs ds with
    | none => rw [w] at hc; cases hc
    | some ps =>
      rw [w] at hc
      have hc' : (if ps.length ≤ 16777216 then some ((ps.mergeSort pairLe).map pairD) else none) = some c := hc
      split at hc'
      · rename_i hz
        cases hc'
        obtain ⟨v, rfl, hv⟩ := DpAll.one' hx
        cases hv with
        | lst h1 a1 =>
          rw [pairs_map w] at a1
          exact ⟨_, _, ps, B, rfl, s.seq h1, s, a1, by rw [sizeLine_eq]; exact hz, fun p ws hp hw => new_lst s hp hw k⟩
      · cases hc'
  · cases hc
end
end PL

/-! The pure layer, part 8: what is walked by its kind, small statements, recursion's ground, the end. -/
namespace PL
open PySem PySem.Spec PyProof.Rows L2

section
variable {X : Cx} {K : PySem.W.Frag} {mg : Str → Option Value} {W : WX} {a b c e o : Expr} {es : List Expr} {st : Stmt} {sts : List Stmt} {fo fa fb fc : En → O D} {fs : En → O (List D)} {g h : En → Fl} {pos : Pos}
theorem hu65 {A : Around} {k : Nat} (hr : Room k A) : A.units + 65 < cLine := by have := hr.un; omega
theorem zs_fg (is : List Nat) (hs : PSs X sts (tS K mg W g)) : PSs X sts (tS K mg W (sFg is g)) := by
  refine pss_weak hs fun Z σ H q => ?_
  obtain ⟨B0, H0, B, env, R, q⟩ := q
  exact ⟨B0, H0, B, env, R, SPo.forget q⟩
/-- a list, a tuple, a text, by what it is -/
theorem i_any {t : Expr} (he : PE X e (tD K mg W fa)) (hK : X.K = K := by rfl) : PI X t e (tI K mg W (sUn D.items fa)) := by
  refine ⟨fun pins s σ H R I q => ?_⟩
  obtain ⟨B0, H0, B, env, RR, q⟩ := q
  have one : ∀ {h : D → Option (List D)}, (∀ d, fa env = .ok d → D.items d = h d) → tI K mg W (sUn h fa) σ H R := fun {h} hh => by
    refine ⟨B0, H0, B, env, RR, ?_⟩
    have e : sUn h fa env = sUn D.items fa env := by
      unfold sUn
      cases w : fa env with
      | ok d =>
        show O.of (h d) = O.of (D.items d)
        rw [hh d w]
      | ex x => rfl
      | st => rfl
    rw [e]; exact q
  cases w : fa env with
  | ok d =>
    have d' : ∀ d', fa env = .ok d' → d' = d := fun d' z => by rw [w] at z; cases z; rfl
    cases d with
    | list ds => exact (i_list he hK).run pins s σ H R I (one fun d z => by rw [d' d z]; rfl)
    | tuple ds => exact (i_tup he hK).run pins s σ H R I (one fun d z => by rw [d' d z]; rfl)
    | str ds => exact (i_str he).run pins s σ H R I (one fun d z => by rw [d' d z]; rfl)
    | none => exact (i_str he).run pins s σ H R I (one fun d z => by rw [d' d z]; rfl)
    | bool _ => exact (i_str he).run pins s σ H R I (one fun d z => by rw [d' d z]; rfl)
    | int _ => exact (i_str he).run pins s σ H R I (one fun d z => by rw [d' d z]; rfl)
    | dict _ => exact (i_str he).run pins s σ H R I (one fun d z => by rw [d' d z]; rfl)
  | ex x => exact (i_str he).run pins s σ H R I (one fun d z => by rw [w] at z; cases z)
  | st => exact (i_str he).run pins s σ H R I (one fun d z => by rw [w] at z; cases z)
/-- a comprehension stored within its block, as a datum -/
def sSetF (i : Nat) (f : En → O (List D)) : En → Fl := fun env => fO (f env) env fun d => .nx (env.set i (some (.v (.list d))))
theorem z_setF {i : Nat} (h : PS X st (tS K mg W (sSetL i fs))) : PS X st (tS K mg W (sSetF i fs)) := by
  refine ps_weak h fun Z σ H q => ?_
  obtain ⟨B0, H0, B, env, R, q⟩ := q
  refine ⟨B0, H0, B, env, R, ?_⟩
  unfold sSetF fO at q
  unfold sSetL fO
  cases w : fs env with
  | ok ds =>
    rw [w] at q
    refine fun σ' B' H' R' => ?_
    by_cases hi : i < env.length
    · obtain ⟨B2, R2⟩ := R'.frz (i := i) (ds := ds) (List.getElem?_set_self hi)
      rw [List.set_set] at R2
      exact q σ' B2 H' R2
    · have e1 : env.set i (some (.l ds)) = env := List.set_eq_of_length_le (by omega)
      have e2 : env.set i (some (.v (.list ds))) = env := List.set_eq_of_length_le (by omega)
      rw [e1] at R'
      have q' : ∀ σ B H, RE K B0 H0 B H σ (env.set i (some (.v (.list ds)))) → Z.nx σ H := q
      rw [e2] at q'
      exact q' σ' B' H' R'
  | ex x => rw [w] at q; exact q
  | st => rw [w] at q; exact q
/-- f(..) alone as a statement -/
theorem z_expr (he : PE X e (tD K mg W fa)) (hs : swapsWith e none pos.line X.env = pure false := by rfl) : PS X (.Expr e pos) (tS K mg W (sDrop fa)) := by
  refine ps_weak (ps_expr he hs) fun Z σ H q => ?_
  exact tS.val q fun B0 H0 env a v B B' H' R x R' r q' => q' _ B' H' R'
end
section
variable {P : Program} {w : World} {K : PySem.W.Frag} {mg : Str → Option Value} {base : Heap}
/-- the ground of a recursion: nothing is promised -/
theorem fn_st {α : Type} {rel : Hp → Hp → Hp → V → α → Prop} {CX : CXT} {k : Nat} {f : Addr} {fd : FuncData} {ps : List Str} : FnOk P w K mg base CX k f fd ps (spG K mg rel fun _ => O.st) :=
  ⟨fun vs H Q E h => by obtain ⟨B, ds, _, _, q⟩ := h; exact q.elim, fun A outer s H args us vs Q E _ _ _ _ h => by obtain ⟨B, ds, _, _, q⟩ := h; exact q.elim⟩
/-- the law's own promise -/
def spTop (K : PySem.W.Frag) : Sp := fun vs H Q E => ∃ (a : Addr) (ns : List Int), vs = [.ref a] ∧ SqL K H a (ns.map V.int) ∧ ns.length ≤ 63 ∧ ∀ H', Q (.bl true) H'
theorem DpAll.ofInts {B : Hp} : ∀ ns : List Int, DpAll K B (ns.map V.int) (ns.map .int)
  | [] => .nil
  | n :: ns => .cons (.int n) (DpAll.ofInts ns)
theorem top_of {F : List D → O D} {k : Nat} {f : Addr} {fd : FuncData} {x : Str} (G : FnOk P w K mg base (L2.CX P w) k f fd [x] (spD K mg F)) (hF : ∀ ns : List Int, ns.length ≤ 63 → F [.list (ns.map .int)] = .ok (.bool true)) : FnOk P w K mg base (L2.CX P w) k f fd [x] (spTop K) :=
  G.imp fun vs H Q E h => by
    obtain ⟨a, ns, rfl, hs, hl, q⟩ := h
    refine ⟨H, [.list (ns.map .int)], Same.refl _, .cons (.lst hs (DpAll.ofInts ns)) .nil, ?_⟩
    rw [hF ns hl]
    intro v B' H' x r
    cases r
    exact q H'
theorem cx_top : ∀ (w : World) (H : Hp) (s : Shared) (e : Value) (s' : Shared), L2.CX P w [] H s (fun _ _ _ => False) e s' → False := fun w H s e s' h => by
  obtain ⟨_, _, _, _, _, _, _, _, _, _, _, _, z⟩ := h
  exact z
end
end PL

/-! Plain laws, part 1: running the pure functions by simp. -/
namespace PL
open PySem PySem.Spec PyProof.Rows L2
/-- what comes after an end -/
def Fl.seq (o : Fl) (h : En → Fl) : Fl := match o with | .nx e => h e | o => o
@[simp] theorem seq_nx (e : En) (h : En → Fl) : (Fl.nx e).seq h = h e := rfl
@[simp] theorem seq_bk (e : En) (h : En → Fl) : (Fl.bk e).seq h = .bk e := rfl
@[simp] theorem seq_ct (e : En) (h : En → Fl) : (Fl.ct e).seq h = .ct e := rfl
@[simp] theorem seq_rt (d : D) (h : En → Fl) : (Fl.rt d).seq h = .rt d := rfl
@[simp] theorem seq_rl (d : List D) (h : En → Fl) : (Fl.rl d).seq h = .rl d := rfl
@[simp] theorem seq_ex (x : Exn) (e : En) (h : En → Fl) : (Fl.ex x e).seq h = .ex x e := rfl
@[simp] theorem seq_st (h : En → Fl) : (Fl.st).seq h = .st := rfl
section
variable {α β : Type} {env : En} {i j : Nat} {f fa fb fc : En → O D} {fs : En → O (List D)} {g h : En → Fl} {c c2 : En → O Bool}
@[simp] theorem get_0 {γ : Type} (x : γ) (l : List γ) : (x :: l)[0]? = some x := rfl
@[simp] theorem ap_sK (d : α) : sK d env = O.ok d := rfl
@[simp] theorem ap_sN : sN i env = (match env[i]? with | some (some (.v d)) => .ok d | _ => .st) := rfl
@[simp] theorem ap_sUn (q : D → Option α) : sUn q fa env = (fa env >>= fun x => O.of (q x)) := rfl
@[simp] theorem ap_sCa (q : List D → Option α) : sCa q fs env = (fs env >>= fun x => O.of (q x)) := rfl
@[simp] theorem ap_sLst : sLst fs env = (fs env >>= fun x => .ok (.list x)) := rfl
@[simp] theorem ap_sTup : sTup fs env = (fs env >>= fun x => O.of (if x.length ≤ 16777216 then some (.tuple x) else none)) := rfl
@[simp] theorem ap_sLstL : sLstL fs env = (fs env >>= fun x => O.of (if x.length ≤ 16777216 then some x else none)) := rfl
@[simp] theorem ap_sNil : sNil env = O.ok [] := rfl
@[simp] theorem ap_sTru : sTru f env = (f env >>= fun d => O.of (D.truth d)) := rfl
@[simp] theorem ap_sTest : sTest f env = (f env >>= fun d => O.of (D.asBool d)) := rfl
@[simp] theorem ap_sNot : sNot c env = (c env >>= fun b => .ok (!b)) := rfl
@[simp] theorem ap_sNotV : sNotV fa env = (fa env >>= fun d => O.of (D.asBool d) >>= fun b => .ok (.bool (!b))) := rfl
@[simp] theorem ap_sCall (F : List D → O α) : sCall F fs env = (fs env >>= F) := rfl
@[simp] theorem ap_sM0 (q : Str → Option α) : sM0 q f env = (f env >>= fun x => O.of (D.asStr x) >>= fun z => O.of (q z)) := rfl
@[simp] theorem ap_sPart : sPart f env = (f env >>= fun d => O.of (D.asInt d) >>= fun i => .ok (some i)) := rfl
@[simp] theorem ap_sI : sI i env = (match env[i]? with | some (some (.l ds)) => .ok ds | _ => .st) := rfl
@[simp] theorem ap_sSeq : sSeq g h env = (g env).seq h := rfl
@[simp] theorem ap_sSkip : sSkip env = .nx env := rfl
@[simp] theorem ap_sBrk : sBrk env = .bk env := rfl
@[simp] theorem ap_sCnt : sCnt env = .ct env := rfl
@[simp] theorem ap_fO_ok (a : α) (k : α → Fl) : fO (.ok a) env k = k a := rfl
@[simp] theorem ap_fO_ex (x : Exn) (k : α → Fl) : fO (.ex x : O α) env k = .ex x env := rfl
@[simp] theorem ap_fO_st (k : α → Fl) : fO (.st : O α) env k = .st := rfl
@[simp] theorem ap_sRetI : sRetI i env = (match env[i]? with | some (some (.l ds)) => .rl ds | _ => .st) := rfl
@[simp] theorem ap_sRetN : sRetN env = .rt .none := rfl
@[simp] theorem ap_frz : frz i env = (match env[i]? with | some (some (.l ds)) => env.set i (some (.v (.list ds))) | _ => env) := rfl
@[simp] theorem ap_sFrz : sFrz i g env = g (frz i env) := rfl
@[simp] theorem ap_sFg (is : List Nat) : sFg is g env = (g env).mapE (forget is) := rfl
@[simp] theorem ap_forget0 : forget [] env = env := rfl
@[simp] theorem ap_forget1 (is : List Nat) : forget (i :: is) env = forget is (env.set i none) := rfl
@[simp] theorem ap_mapE_nx (k : En → En) : (Fl.nx env).mapE k = .nx (k env) := rfl
@[simp] theorem ap_mapE_bk (k : En → En) : (Fl.bk env).mapE k = .bk (k env) := rfl
@[simp] theorem ap_mapE_ct (k : En → En) : (Fl.ct env).mapE k = .ct (k env) := rfl
@[simp] theorem ap_mapE_rt (k : En → En) (d : D) : (Fl.rt d).mapE k = .rt d := rfl
@[simp] theorem ap_mapE_rl (k : En → En) (d : List D) : (Fl.rl d).mapE k = .rl d := rfl
@[simp] theorem ap_mapE_ex (k : En → En) (x : Exn) : (Fl.ex x env).mapE k = .ex x env := rfl
@[simp] theorem ap_mapE_st (k : En → En) : (Fl.st).mapE k = .st := rfl
@[simp] theorem ap_wipe0 : wipeE env [] = env := rfl
@[simp] theorem ap_wipe1 (is : List Nat) : wipeE env (i :: is) = (wipeE env is).set i none := rfl
@[simp] theorem ap_set_n (d : D) : (Tg.n i).set d env = some (env.set i (some (.v d))) := rfl
@[simp] theorem ap_set_t (is : List Nat) (ds : List D) : (Tg.t is).set (.tuple ds) env = setMany is ds env := rfl
@[simp] theorem ap_many0 : setMany [] [] env = some env := rfl
@[simp] theorem ap_many1 (is : List Nat) (d : D) (ds : List D) : setMany (i :: is) (d :: ds) env = setMany is ds (env.set i (some (.v d))) := rfl
@[simp] theorem ap_fS_some (e : En) (k : En → Fl) : fS (some e) k = k e := rfl
@[simp] theorem ap_fS_none (k : En → Fl) : fS none k = .st := rfl
@[simp] theorem ap_sWhile (n : Nat) : sWhile n c g env = whGo c g n env := rfl
@[simp] theorem lcGo_nil (tg : Tg) : lcGo tg c f env [] = some [] := rfl
def sBin1 (q : D → D → Option α) (o : O D) (fb : En → O D) (env : En) : O α := o >>= fun x => fb env >>= fun y => O.of (q x y)
def sBin2 (q : D → D → Option α) (x : D) (o : O D) : O α := o >>= fun y => O.of (q x y)
@[simp] theorem ap_sBin (q : D → D → Option α) : sBin q fa fb env = sBin1 q (fa env) fb env := rfl
@[simp] theorem sBin1_ok (q : D → D → Option α) (d : D) : sBin1 q (.ok d) fb env = sBin2 q d (fb env) := rfl
@[simp] theorem sBin1_ex (q : D → D → Option α) (x : Exn) : sBin1 q (.ex x) fb env = .ex x := rfl
@[simp] theorem sBin1_st (q : D → D → Option α) : sBin1 q .st fb env = .st := rfl
@[simp] theorem sBin2_ok (q : D → D → Option α) (d e : D) : sBin2 q d (.ok e) = O.of (q d e) := rfl
@[simp] theorem sBin2_ex (q : D → D → Option α) (d : D) (x : Exn) : sBin2 q d (.ex x) = .ex x := rfl
@[simp] theorem sBin2_st (q : D → D → Option α) (d : D) : sBin2 q d .st = .st := rfl
def sCons1 (o : O D) (fs : En → O (List D)) (env : En) : O (List D) := o >>= fun x => fs env >>= fun xs => .ok (x :: xs)
def sCons2 (d : D) (o : O (List D)) : O (List D) := o >>= fun xs => .ok (d :: xs)
@[simp] theorem ap_sCons : sCons f fs env = sCons1 (f env) fs env := rfl
@[simp] theorem sCons1_ok (d : D) : sCons1 (.ok d) fs env = sCons2 d (fs env) := rfl
@[simp] theorem sCons1_ex (x : Exn) : sCons1 (.ex x) fs env = .ex x := rfl
@[simp] theorem sCons1_st : sCons1 .st fs env = .st := rfl
@[simp] theorem sCons2_ok (d : D) (ds : List D) : sCons2 d (.ok ds) = .ok (d :: ds) := rfl
@[simp] theorem sCons2_ex (d : D) (x : Exn) : sCons2 d (.ex x) = .ex x := rfl
@[simp] theorem sCons2_st (d : D) : sCons2 d .st = .st := rfl
def sCnd1 {γ : Type} (o : O Bool) (p q : En → O γ) (env : En) : O γ := o >>= fun b => if b = true then p env else q env
@[simp] theorem sCnd1_t {γ : Type} (p q : En → O γ) : sCnd1 (.ok true) p q env = p env := rfl
@[simp] theorem sCnd1_f {γ : Type} (p q : En → O γ) : sCnd1 (.ok false) p q env = q env := rfl
@[simp] theorem sCnd1_b {γ : Type} (b : Bool) (p q : En → O γ) : sCnd1 (.ok b) p q env = if b = true then p env else q env := rfl
@[simp] theorem sCnd1_ex {γ : Type} (x : Exn) (p q : En → O γ) : sCnd1 (.ex x) p q env = .ex x := rfl
@[simp] theorem sCnd1_st {γ : Type} (p q : En → O γ) : sCnd1 .st p q env = .st := rfl
@[simp] theorem ap_sAnd : sAnd c c2 env = sCnd1 (c env) c2 (sK false) env := rfl
@[simp] theorem ap_sOr : sOr c c2 env = sCnd1 (c env) (sK true) c2 env := rfl
@[simp] theorem ap_sIfE (p q : En → O α) : sIfE c p q env = sCnd1 (c env) p q env := rfl
@[simp] theorem ap_sAndV : sAndV fa fb env = sCnd1 (sTest fa env) fb (sK (.bool false)) env := by
  show (fa env >>= fun d => O.of (D.asBool d) >>= fun b => if b = true then fb env else .ok (.bool false)) = ((fa env >>= fun d => O.of (D.asBool d)) >>= fun b => if b = true then fb env else .ok (.bool false))
  cases fa env <;> rfl
@[simp] theorem ap_sOrV : sOrV fa fb env = sCnd1 (sTest fa env) (sK (.bool true)) fb env := by
  show (fa env >>= fun d => O.of (D.asBool d) >>= fun b => if b = true then .ok (.bool true) else fb env) = ((fa env >>= fun d => O.of (D.asBool d)) >>= fun b => if b = true then .ok (.bool true) else fb env)
  cases fa env <;> rfl
def sChn1 (q : D → D → Option D) (o : O Bool) (y : D) (fc : En → O D) (env : En) : O D := o >>= fun b => if b = true then sBin2 q y (fc env) else .ok (.bool false)
def sChA (p q : D → D → Option D) (o : O D) (fb fc : En → O D) (env : En) : O D := o >>= fun x => fb env >>= fun y => O.of (p x y) >>= fun d => O.of (D.asBool d) >>= fun b => if b = true then (fc env >>= fun z => O.of (q y z)) else .ok (.bool false)
def sChB (p q : D → D → Option D) (x : D) (o : O D) (fc : En → O D) (env : En) : O D := o >>= fun y => O.of (p x y) >>= fun d => O.of (D.asBool d) >>= fun b => if b = true then (fc env >>= fun z => O.of (q y z)) else .ok (.bool false)
def sChC (q : D → D → Option D) (y : D) (o : O D) (fc : En → O D) (env : En) : O D := o >>= fun d => O.of (D.asBool d) >>= fun b => if b = true then (fc env >>= fun z => O.of (q y z)) else .ok (.bool false)
@[simp] theorem ap_sChain (p q : D → D → Option D) : sChain p q fa fb fc env = sChA p q (fa env) fb fc env := rfl
@[simp] theorem sChA_ok (p q : D → D → Option D) (d : D) : sChA p q (.ok d) fb fc env = sChB p q d (fb env) fc env := rfl
@[simp] theorem sChB_ok (p q : D → D → Option D) (d e : D) : sChB p q d (.ok e) fc env = sChC q e (O.of (p d e)) fc env := rfl
@[simp] theorem sChC_t (q : D → D → Option D) (e : D) : sChC q e (.ok (.bool true)) fc env = sBin2 q e (fc env) := rfl
@[simp] theorem sChC_f (q : D → D → Option D) (e : D) : sChC q e (.ok (.bool false)) fc env = .ok (.bool false) := rfl
@[simp] theorem sChC_b (q : D → D → Option D) (e : D) (b : Bool) : sChC q e (.ok (.bool b)) fc env = if b = true then sBin2 q e (fc env) else .ok (.bool false) := rfl
def sM11 (q : Str → D → Option α) (o : O D) (fb : En → O D) (env : En) : O α := o >>= fun x => O.of (D.asStr x) >>= fun z => fb env >>= fun y => O.of (q z y)
def sM12 (q : Str → D → Option α) (z : Str) (o : O D) : O α := o >>= fun y => O.of (q z y)
@[simp] theorem ap_sM1 (q : Str → D → Option α) : sM1 q fa fb env = sM11 q (fa env) fb env := rfl
@[simp] theorem sM11_ok (q : Str → D → Option α) (z : Str) : sM11 q (.ok (.str z)) fb env = sM12 q z (fb env) := rfl
@[simp] theorem sM11_ex (q : Str → D → Option α) (x : Exn) : sM11 q (.ex x) fb env = .ex x := rfl
@[simp] theorem sM12_ok (q : Str → D → Option α) (z : Str) (d : D) : sM12 q z (.ok d) = O.of (q z d) := rfl
@[simp] theorem sM12_ex (q : Str → D → Option α) (z : Str) (x : Exn) : sM12 q z (.ex x) = .ex x := rfl
def sSl1 (q : D → Option Int → Option Int → Option α) (o : O D) (l u : En → O (Option Int)) (env : En) : O α := o >>= fun x => l env >>= fun lo => u env >>= fun hi => O.of (q x lo hi)
def sSl2 (q : D → Option Int → Option Int → Option α) (d : D) (o : O (Option Int)) (u : En → O (Option Int)) (env : En) : O α := o >>= fun lo => u env >>= fun hi => O.of (q d lo hi)
def sSl3 (q : D → Option Int → Option Int → Option α) (d : D) (lo : Option Int) (o : O (Option Int)) : O α := o >>= fun hi => O.of (q d lo hi)
@[simp] theorem ap_sSl (q : D → Option Int → Option Int → Option α) (l u : En → O (Option Int)) : sSl q f l u env = sSl1 q (f env) l u env := rfl
@[simp] theorem sSl1_ok (q : D → Option Int → Option Int → Option α) (l u : En → O (Option Int)) (d : D) : sSl1 q (.ok d) l u env = sSl2 q d (l env) u env := rfl
@[simp] theorem sSl2_ok (q : D → Option Int → Option Int → Option α) (u : En → O (Option Int)) (d : D) (lo : Option Int) : sSl2 q d (.ok lo) u env = sSl3 q d lo (u env) := rfl
@[simp] theorem sSl3_ok (q : D → Option Int → Option Int → Option α) (d : D) (lo hi : Option Int) : sSl3 q d lo (.ok hi) = O.of (q d lo hi) := rfl
def sCat1 (o : O (List D)) (fb : En → O (List D)) (env : En) : O (List D) := o >>= fun x => fb env >>= fun y => O.of (if x.length + y.length ≤ 16777216 then some (x ++ y) else none)
def sCat2 (x : List D) (o : O (List D)) : O (List D) := o >>= fun y => O.of (if x.length + y.length ≤ 16777216 then some (x ++ y) else none)
@[simp] theorem ap_sCat (fs' : En → O (List D)) : sCat fs fs' env = sCat1 (fs env) fs' env := rfl
@[simp] theorem sCat1_ok (fs' : En → O (List D)) (x : List D) : sCat1 (.ok x) fs' env = sCat2 x (fs' env) := rfl
@[simp] theorem sCat2_ok (x y : List D) : sCat2 x (.ok y) = O.of (if x.length + y.length ≤ 16777216 then some (x ++ y) else none) := rfl
def sLc1 (o : O (List D)) (tg : Tg) (c : En → O Bool) (f : En → O D) (env : En) : O (List D) := o >>= fun items => O.of (if items.length ≤ 16777216 then lcGo tg c f env items else none)
@[simp] theorem ap_sLc (tg : Tg) (vs : List Nat) : sLc fs tg c f vs env = sLc1 (fs env) tg c f (wipeE env vs) := rfl
@[simp] theorem sLc1_ok (tg : Tg) (ds : List D) : sLc1 (.ok ds) tg c f env = O.of (if ds.length ≤ 16777216 then lcGo tg c f env ds else none) := rfl
@[simp] theorem sLc1_ex (tg : Tg) (x : Exn) : sLc1 (.ex x) tg c f env = .ex x := rfl
def sSet1 (i : Nat) (o : O D) (env : En) : Fl := fO o env fun d => .nx (env.set i (some (.v d)))
@[simp] theorem ap_sSet (i : Nat) : sSet i f env = sSet1 i (f env) env := rfl
@[simp] theorem sSet1_ok (i : Nat) (d : D) : sSet1 i (.ok d) env = .nx (env.set i (some (.v d))) := rfl
@[simp] theorem sSet1_ex (i : Nat) (x : Exn) : sSet1 i (.ex x) env = .ex x env := rfl
@[simp] theorem sSet1_st (i : Nat) : sSet1 i .st env = .st := rfl
def sSetL1 (i : Nat) (o : O (List D)) (env : En) : Fl := fO o env fun d => .nx (env.set i (some (.l d)))
@[simp] theorem ap_sSetL (i : Nat) : sSetL i fs env = sSetL1 i (fs env) env := rfl
@[simp] theorem sSetL1_ok (i : Nat) (d : (List D)) : sSetL1 i (.ok d) env = .nx (env.set i (some (.l d))) := rfl
@[simp] theorem sSetL1_ex (i : Nat) (x : Exn) : sSetL1 i (.ex x) env = .ex x env := rfl
@[simp] theorem sSetL1_st (i : Nat) : sSetL1 i .st env = .st := rfl
def sSetF1 (i : Nat) (o : O (List D)) (env : En) : Fl := fO o env fun d => .nx (env.set i (some (.v (.list d))))
@[simp] theorem ap_sSetF (i : Nat) : sSetF i fs env = sSetF1 i (fs env) env := rfl
@[simp] theorem sSetF1_ok (i : Nat) (d : (List D)) : sSetF1 i (.ok d) env = .nx (env.set i (some (.v (.list d)))) := rfl
@[simp] theorem sSetF1_ex (i : Nat) (x : Exn) : sSetF1 i (.ex x) env = .ex x env := rfl
@[simp] theorem sSetF1_st (i : Nat) : sSetF1 i .st env = .st := rfl
def sRet1  (o : O D) (env : En) : Fl := fO o env fun d => .rt d
@[simp] theorem ap_sRet  : sRet f env = sRet1  (f env) env := rfl
@[simp] theorem sRet1_ok  (d : D) : sRet1  (.ok d) env = .rt d := rfl
@[simp] theorem sRet1_ex  (x : Exn) : sRet1  (.ex x) env = .ex x env := rfl
@[simp] theorem sRet1_st  : sRet1  .st env = .st := rfl
def sRetL1  (o : O (List D)) (env : En) : Fl := fO o env fun d => .rl d
@[simp] theorem ap_sRetL  : sRetL fs env = sRetL1  (fs env) env := rfl
@[simp] theorem sRetL1_ok  (d : (List D)) : sRetL1  (.ok d) env = .rl d := rfl
@[simp] theorem sRetL1_ex  (x : Exn) : sRetL1  (.ex x) env = .ex x env := rfl
@[simp] theorem sRetL1_st  : sRetL1  .st env = .st := rfl
def sIf1 (g h : En → Fl) (o : O Bool) (env : En) : Fl := fO o env fun b => if b = true then g env else h env
@[simp] theorem ap_sIf  : sIf c g h env = sIf1 g h (c env) env := rfl
@[simp] theorem sIf1_ex  (x : Exn) : sIf1 g h (.ex x) env = .ex x env := rfl
@[simp] theorem sIf1_st  : sIf1 g h .st env = .st := rfl
@[simp] theorem sIf1_t : sIf1 g h (.ok true) env = g env := rfl
@[simp] theorem sIf1_f : sIf1 g h (.ok false) env = h env := rfl
@[simp] theorem sIf1_b (b : Bool) : sIf1 g h (.ok b) env = if b = true then g env else h env := rfl
def sDrop1  (o : O D) (env : En) : Fl := fO o env fun d => .nx env
@[simp] theorem ap_sDrop  : sDrop f env = sDrop1  (f env) env := rfl
@[simp] theorem sDrop1_ok  (d : D) : sDrop1  (.ok d) env = .nx env := rfl
@[simp] theorem sDrop1_ex  (x : Exn) : sDrop1  (.ex x) env = .ex x env := rfl
@[simp] theorem sDrop1_st  : sDrop1  .st env = .st := rfl
def sAsg1 (tg : Tg) (o : O D) (env : En) : Fl := fO o env fun d => fS (tg.set d env) .nx
@[simp] theorem ap_sAsg (tg : Tg) : sAsg tg f env = sAsg1 tg (f env) env := rfl
@[simp] theorem sAsg1_ok (tg : Tg) (d : D) : sAsg1 tg (.ok d) env = fS (tg.set d env) .nx := rfl
@[simp] theorem sAsg1_ex (tg : Tg) (x : Exn) : sAsg1 tg (.ex x) env = .ex x env := rfl
@[simp] theorem sAsg1_st (tg : Tg) : sAsg1 tg .st env = .st := rfl
def sFor1 (tg : Tg) (g : En → Fl) (o : O (List D)) (env : En) : Fl := fO o env fun ds => forGo tg g ds env
@[simp] theorem ap_sFor (tg : Tg) (g : En → Fl) : sFor fs tg g env = sFor1 tg g (fs env) env := rfl
@[simp] theorem sFor1_ok (tg : Tg) (g : En → Fl) (ds : (List D)) : sFor1 tg g (.ok ds) env = forGo tg g ds env := rfl
@[simp] theorem sFor1_ex (tg : Tg) (g : En → Fl) (x : Exn) : sFor1 tg g (.ex x) env = .ex x env := rfl
@[simp] theorem sFor1_st (tg : Tg) (g : En → Fl) : sFor1 tg g .st env = .st := rfl
def sApp1 (i : Nat) (o : O D) (ds : List D) (env : En) : Fl := fO o env fun d => if ds.length < 16777216 then .nx (env.set i (some (.l (ds ++ [d])))) else .st
@[simp] theorem ap_sApp : sApp i f env = (match env[i]? with | some (some (.l ds)) => sApp1 i (f env) ds env | _ => .st) := rfl
@[simp] theorem sApp1_ok (i : Nat) (d : D) (ds : List D) : sApp1 i (.ok d) ds env = if ds.length < 16777216 then .nx (env.set i (some (.l (ds ++ [d])))) else .st := rfl
@[simp] theorem sApp1_ex (i : Nat) (x : Exn) (ds : List D) : sApp1 i (.ex x) ds env = .ex x env := rfl
def sExt1 (i : Nat) (o : O (List D)) (ds : List D) (env : En) : Fl := fO o env fun es => if ds.length + es.length ≤ 16777216 then .nx (env.set i (some (.l (ds ++ es)))) else .st
@[simp] theorem ap_sExt : sExt i fs env = (match env[i]? with | some (some (.l ds)) => sExt1 i (fs env) ds env | _ => .st) := rfl
@[simp] theorem sExt1_ok (i : Nat) (es : List D) (ds : List D) : sExt1 i (.ok es) ds env = if ds.length + es.length ≤ 16777216 then .nx (env.set i (some (.l (ds ++ es)))) else .st := rfl
@[simp] theorem sExt1_ex (i : Nat) (x : Exn) (ds : List D) : sExt1 i (.ex x) ds env = .ex x env := rfl
end
@[simp] theorem truth_b (b : Bool) : D.truth (.bool b) = some b := rfl
@[simp] theorem truth_i (i : Int) : D.truth (.int i) = some (i != 0) := rfl
@[simp] theorem truth_n : D.truth .none = some false := rfl
@[simp] theorem truth_t (ds : List D) : D.truth (.tuple ds) = some (!ds.isEmpty) := rfl
@[simp] theorem truth_l (ds : List D) : D.truth (.list ds) = some (!ds.isEmpty) := rfl
@[simp] theorem asBool_b (b : Bool) : D.asBool (.bool b) = some b := rfl
@[simp] theorem asInt_i (b : Int) : D.asInt (.int b) = some b := rfl
@[simp] theorem asStr_s (b : Str) : D.asStr (.str b) = some b := rfl
@[simp] theorem add_ii (i j : Int) : D.add (.int i) (.int j) = some (.int (i + j)) := rfl
@[simp] theorem add_ss (a b : Str) (h : a.length + b.length ≤ 16777216) : D.add (.str a) (.str b) = some (.str (a ++ b)) := if_pos h
@[simp] theorem add_tt (a b : List D) (h : a.length + b.length ≤ 16777216) : D.add (.tuple a) (.tuple b) = some (.tuple (a ++ b)) := if_pos h
@[simp] theorem sub_ii (i j : Int) : D.sub (.int i) (.int j) = some (.int (i - j)) := rfl
@[simp] theorem mul_ii (i j : Int) (h : (-18446744073709551616 < i ∧ i < 18446744073709551616) ∨ (-18446744073709551616 < j ∧ j < 18446744073709551616)) : D.mul (.int i) (.int j) = some (.int (i * j)) := if_pos h
@[simp] theorem fdiv_ii (i j : Int) (h : 0 < j ∧ j < 1073741824) : D.fdiv (.int i) (.int j) = some (.int (i / j)) := if_pos h
@[simp] theorem mod_ii (i j : Int) (h : 0 < j) : D.mod (.int i) (.int j) = some (.int (i % j)) := if_pos h
@[simp] theorem neg_i (i : Int) : D.neg (.int i) = some (.int (-i)) := rfl
@[simp] theorem eq_ii (i j : Int) : D.eq (.int i) (.int j) = some (.bool (decide (i = j))) := rfl
@[simp] theorem eq_ss (i j : Str) : D.eq (.str i) (.str j) = some (.bool (decide (i = j))) := rfl
@[simp] theorem eq_bb (i j : Bool) : D.eq (.bool i) (.bool j) = some (.bool (decide (i = j))) := rfl
@[simp] theorem ne_ii (i j : Int) : D.ne (.int i) (.int j) = some (.bool (!decide (i = j))) := rfl
@[simp] theorem ne_ss (i j : Str) : D.ne (.str i) (.str j) = some (.bool (!decide (i = j))) := rfl
@[simp] theorem ne_bb (i j : Bool) : D.ne (.bool i) (.bool j) = some (.bool (!decide (i = j))) := rfl
@[simp] theorem lt_ii (i j : Int) : D.lt (.int i) (.int j) = some (.bool (decide (i < j))) := rfl
@[simp] theorem le_ii (i j : Int) : D.le (.int i) (.int j) = some (.bool (decide (i ≤ j))) := rfl
@[simp] theorem gt_ii (i j : Int) : D.gt (.int i) (.int j) = some (.bool (decide (j < i))) := rfl
@[simp] theorem ge_ii (i j : Int) : D.ge (.int i) (.int j) = some (.bool (decide (j ≤ i))) := rfl
@[simp] theorem ix_l (ds : List D) (i : Int) : D.ix (.list ds) (.int i) = atI ds i := rfl
@[simp] theorem ix_t (ds : List D) (i : Int) : D.ix (.tuple ds) (.int i) = atI ds i := rfl
@[simp] theorem ix_s (z : Str) (i : Int) (h : z.length ≤ 16777216) : D.ix (.str z) (.int i) = (atI z.cps.toList i).map fun c => .str ⟨#[c]⟩ := if_pos h
@[simp] theorem len_s (z : Str) (h : z.length ≤ 16777216) : D.len [.str z] = some (.int z.length) := if_pos h
@[simp] theorem len_l (ds : List D) : D.len [.list ds] = some (.int ds.length) := rfl
@[simp] theorem len_t (ds : List D) : D.len [.tuple ds] = some (.int ds.length) := rfl
@[simp] theorem toTuple_l (ds : List D) : D.toTuple [.list ds] = some (.tuple ds) := rfl
@[simp] theorem toTuple_t (ds : List D) : D.toTuple [.tuple ds] = some (.tuple ds) := rfl
@[simp] theorem toList_l (ds : List D) : D.toList [.list ds] = some ds := rfl
@[simp] theorem toList_t (ds : List D) : D.toList [.tuple ds] = some ds := rfl
@[simp] theorem items_l (ds : List D) : D.items (.list ds) = some ds := rfl
@[simp] theorem items_t (ds : List D) : D.items (.tuple ds) = some ds := rfl
@[simp] theorem items_s (s : Str) : D.items (.str s) = some (s.cps.toList.map fun c => .str ⟨#[c]⟩) := rfl
@[simp] theorem itemsL_l (ds : List D) : D.itemsL (.list ds) = some ds := rfl
@[simp] theorem itemsS_s (s : Str) : D.itemsS (.str s) = some (s.cps.toList.map fun c => .str ⟨#[c]⟩) := rfl
@[simp] theorem enum_l (ds : List D) : D.enum [.list ds] = some (enumD 0 ds) := rfl
@[simp] theorem enum_t (ds : List D) : D.enum [.tuple ds] = some (enumD 0 ds) := rfl
@[simp] theorem enum_s (s : Str) : D.enum [.str s] = some (enumD 0 (s.cps.toList.map fun c => .str ⟨#[c]⟩)) := rfl
@[simp] theorem zip_l (a b : List D) : D.zip [.list a, .list b] = some (zipD a b) := rfl
@[simp] theorem zip_t (a b : List D) : D.zip [.tuple a, .tuple b] = some (zipD a b) := rfl
@[simp] theorem rng1_i (j : Int) (h : -4611686018427387904 ≤ j ∧ j < 4611686018427387904) : D.rng1 [.int j] = some ((List.range j.toNat).map fun i : Nat => .int (i : Int)) := if_pos h
@[simp] theorem rng2_i (i j : Int) (h : -4611686018427387904 ≤ i ∧ i < 4611686018427387904 ∧ -4611686018427387904 ≤ j ∧ j < 4611686018427387904) : D.rng2 [.int i, .int j] = some ((List.range (j - i).toNat).map fun k : Nat => .int (i + (k : Int))) := if_pos h
@[simp] theorem all_l (bs : List Bool) : D.all [.list (bs.map .bool)] = some (.bool (bs.all id)) := by
  have : ∀ bs : List Bool, D.bools (bs.map .bool) = some bs := by
    intro bs
    induction bs with
    | nil => rfl
    | cons b r ih => show (D.bools (r.map .bool)).map (b :: ·) = _; rw [ih]; rfl
  show (D.bools (bs.map .bool)).map _ = _
  rw [this]; rfl
@[simp] theorem isN_n : D.isN .none .none = some (.bool true) := rfl
@[simp] theorem isN_b (b : Bool) : D.isN (.bool b) .none = some (.bool false) := rfl
@[simp] theorem isN_i (b : Int) : D.isN (.int b) .none = some (.bool false) := rfl
@[simp] theorem isN_s (b : Str) : D.isN (.str b) .none = some (.bool false) := rfl
@[simp] theorem isN_l (b : List D) : D.isN (.list b) .none = some (.bool false) := rfl
@[simp] theorem isN_t (b : List D) : D.isN (.tuple b) .none = some (.bool false) := rfl
@[simp] theorem notN_n : D.notN .none .none = some (.bool false) := rfl
@[simp] theorem notN_b (b : Bool) : D.notN (.bool b) .none = some (.bool true) := rfl
@[simp] theorem notN_i (b : Int) : D.notN (.int b) .none = some (.bool true) := rfl
@[simp] theorem notN_s (b : Str) : D.notN (.str b) .none = some (.bool true) := rfl
@[simp] theorem notN_l (b : List D) : D.notN (.list b) .none = some (.bool true) := rfl
@[simp] theorem notN_t (b : List D) : D.notN (.tuple b) .none = some (.bool true) := rfl
theorem isi_eq (T : String) (d : D) (r : Bool) (h : isiB (D.ty d) T = some r) : D.isi T d = some (.bool r) := by unfold D.isi; rw [h]; rfl
section isi
@[simp] theorem isi_b_n : D.isi "bool" .none = some (.bool false) := isi_eq _ _ _ (by simp [isiB, D.ty])
@[simp] theorem isi_b_b (x : Bool) : D.isi "bool" (.bool x) = some (.bool true) := isi_eq _ _ _ (by simp [isiB, D.ty])
@[simp] theorem isi_b_i (x : Int) : D.isi "bool" (.int x) = some (.bool false) := isi_eq _ _ _ (by simp [isiB, D.ty])
@[simp] theorem isi_b_s (x : Str) : D.isi "bool" (.str x) = some (.bool false) := isi_eq _ _ _ (by simp [isiB, D.ty])
@[simp] theorem isi_b_l (x : List D) : D.isi "bool" (.list x) = some (.bool false) := isi_eq _ _ _ (by simp [isiB, D.ty])
@[simp] theorem isi_b_t (x : List D) : D.isi "bool" (.tuple x) = some (.bool false) := isi_eq _ _ _ (by simp [isiB, D.ty])
@[simp] theorem isi_i_n : D.isi "int" .none = some (.bool false) := isi_eq _ _ _ (by simp [isiB, D.ty])
@[simp] theorem isi_i_b (x : Bool) : D.isi "int" (.bool x) = some (.bool true) := isi_eq _ _ _ (by simp [isiB, D.ty])
@[simp] theorem isi_i_i (x : Int) : D.isi "int" (.int x) = some (.bool true) := isi_eq _ _ _ (by simp [isiB, D.ty])
@[simp] theorem isi_i_s (x : Str) : D.isi "int" (.str x) = some (.bool false) := isi_eq _ _ _ (by simp [isiB, D.ty])
@[simp] theorem isi_i_l (x : List D) : D.isi "int" (.list x) = some (.bool false) := isi_eq _ _ _ (by simp [isiB, D.ty])
@[simp] theorem isi_i_t (x : List D) : D.isi "int" (.tuple x) = some (.bool false) := isi_eq _ _ _ (by simp [isiB, D.ty])
@[simp] theorem isi_s_n : D.isi "str" .none = some (.bool false) := isi_eq _ _ _ (by simp [isiB, D.ty])
@[simp] theorem isi_s_b (x : Bool) : D.isi "str" (.bool x) = some (.bool false) := isi_eq _ _ _ (by simp [isiB, D.ty])
@[simp] theorem isi_s_i (x : Int) : D.isi "str" (.int x) = some (.bool false) := isi_eq _ _ _ (by simp [isiB, D.ty])
@[simp] theorem isi_s_s (x : Str) : D.isi "str" (.str x) = some (.bool true) := isi_eq _ _ _ (by simp [isiB, D.ty])
@[simp] theorem isi_s_l (x : List D) : D.isi "str" (.list x) = some (.bool false) := isi_eq _ _ _ (by simp [isiB, D.ty])
@[simp] theorem isi_s_t (x : List D) : D.isi "str" (.tuple x) = some (.bool false) := isi_eq _ _ _ (by simp [isiB, D.ty])
@[simp] theorem isi_t_n : D.isi "tuple" .none = some (.bool false) := isi_eq _ _ _ (by simp [isiB, D.ty])
@[simp] theorem isi_t_b (x : Bool) : D.isi "tuple" (.bool x) = some (.bool false) := isi_eq _ _ _ (by simp [isiB, D.ty])
@[simp] theorem isi_t_i (x : Int) : D.isi "tuple" (.int x) = some (.bool false) := isi_eq _ _ _ (by simp [isiB, D.ty])
@[simp] theorem isi_t_s (x : Str) : D.isi "tuple" (.str x) = some (.bool false) := isi_eq _ _ _ (by simp [isiB, D.ty])
@[simp] theorem isi_t_l (x : List D) : D.isi "tuple" (.list x) = some (.bool false) := isi_eq _ _ _ (by simp [isiB, D.ty])
@[simp] theorem isi_t_t (x : List D) : D.isi "tuple" (.tuple x) = some (.bool true) := isi_eq _ _ _ (by simp [isiB, D.ty])
@[simp] theorem isi_l_n : D.isi "list" .none = some (.bool false) := isi_eq _ _ _ (by simp [isiB, D.ty])
@[simp] theorem isi_l_b (x : Bool) : D.isi "list" (.bool x) = some (.bool false) := isi_eq _ _ _ (by simp [isiB, D.ty])
@[simp] theorem isi_l_i (x : Int) : D.isi "list" (.int x) = some (.bool false) := isi_eq _ _ _ (by simp [isiB, D.ty])
@[simp] theorem isi_l_s (x : Str) : D.isi "list" (.str x) = some (.bool false) := isi_eq _ _ _ (by simp [isiB, D.ty])
@[simp] theorem isi_l_l (x : List D) : D.isi "list" (.list x) = some (.bool true) := isi_eq _ _ _ (by simp [isiB, D.ty])
@[simp] theorem isi_l_t (x : List D) : D.isi "list" (.tuple x) = some (.bool false) := isi_eq _ _ _ (by simp [isiB, D.ty])
end isi

/-! ### calls -/
theorem fnD_rt {n m : Nat} {g : En → Fl} {ds : List D} {d : D} (hl : ds.length = n) (h : g (ds.map (fun d => some (.v d)) ++ List.replicate (m - n) none) = .rt d) : fnD n m g ds = .ok d := by
  unfold fnD; rw [if_pos hl, h]
theorem fnL_rl {n m : Nat} {g : En → Fl} {ds es : List D} (hl : ds.length = n) (h : g (ds.map (fun d => some (.v d)) ++ List.replicate (m - n) none) = .rl es) : fnL n m g ds = .ok es := by
  unfold fnL; rw [if_pos hl, h]
theorem fnD_ex {n m : Nat} {g : En → Fl} {ds : List D} {x : Exn} {e : En} (hl : ds.length = n) (h : g (ds.map (fun d => some (.v d)) ++ List.replicate (m - n) none) = .ex x e) : fnD n m g ds = .ex x := by
  unfold fnD; rw [if_pos hl, h]

/-! ### loops -/
@[simp] theorem forGo_nil (tg : Tg) (g : En → Fl) (env : En) : forGo tg g [] env = .nx env := rfl
theorem forGo_cons (tg : Tg) (g : En → Fl) (d : D) (ds : List D) (env : En) : forGo tg g (d :: ds) env = fS (tg.set d env) fun e1 => match g e1 with
    | .nx e => forGo tg g ds e
    | .ct e => forGo tg g ds e
    | .bk e => .nx e
    | o => o := rfl
/-- a loop whose turns go on: the state after all items -/
theorem forGo_fold {σ ι : Type} {tg : Tg} {g : En → Fl} (emb : ι → D) (S : σ → En) (step : σ → ι → σ) (Inv : σ → Prop) : ∀ (xs : List ι) (s : σ), Inv s →
    (∀ s x, x ∈ xs → Inv s → Inv (step s x) ∧ ∃ e1, tg.set (emb x) (S s) = some e1 ∧ (g e1 = .nx (S (step s x)) ∨ g e1 = .ct (S (step s x)))) →
    forGo tg g (xs.map emb) (S s) = .nx (S (xs.foldl step s)) ∧ Inv (xs.foldl step s)
  | [], s, hs, _ => ⟨rfl, hs⟩
  | x :: xs, s, hs, h => by
    obtain ⟨h1, e1, h2, h3⟩ := h s x List.mem_cons_self hs
    have ih := forGo_fold emb S step Inv xs (step s x) h1 fun s y hy => h s y (List.mem_cons_of_mem _ hy)
    refine ⟨?_, ih.2⟩
    rw [List.map_cons, forGo_cons, h2, ap_fS_some]
    rcases h3 with h3 | h3 <;> (rw [h3]; exact ih.1)
/-- .. where the state is told by what holds of it -/
theorem forGo_inv {tg : Tg} {g : En → Fl} (I : Nat → En → Prop) : ∀ (ds : List D) (k : Nat) (env : En), I k env →
    (∀ i d env, ds[i]? = some d → I (k + i) env → ∃ e1 e2, tg.set d env = some e1 ∧ (g e1 = .nx e2 ∨ g e1 = .ct e2) ∧ I (k + i + 1) e2) →
    ∃ e, forGo tg g ds env = .nx e ∧ I (k + ds.length) e
  | [], k, env, h, _ => ⟨env, rfl, h⟩
  | d :: ds, k, env, h, st => by
    obtain ⟨e1, e2, h1, h2, h3⟩ := st 0 d env rfl h
    obtain ⟨e, h4, h5⟩ := forGo_inv I ds (k + 1) e2 h3 fun i d' env' hd hi => by
      have := st (i + 1) d' env' (by simpa using hd) (by rw [show k + (i + 1) = k + 1 + i by omega]; exact hi)
      rw [show k + (i + 1) + 1 = k + 1 + i + 1 by omega] at this
      exact this
    refine ⟨e, ?_, by rw [List.length_cons, show k + (ds.length + 1) = k + 1 + ds.length by omega]; exact h5⟩
    rw [forGo_cons, h1, ap_fS_some]
    rcases h2 with h2 | h2 <;> (rw [h2]; exact h4)
theorem lcGo_map {tg : Tg} {c : En → O Bool} {f : En → O D} {env : En} {ι : Type} (emb : ι → D) (p : ι → Bool) (out : ι → D) : ∀ xs : List ι,
    (∀ x ∈ xs, ∃ e1, tg.set (emb x) env = some e1 ∧ c e1 = .ok (p x) ∧ (p x = true → f e1 = .ok (out x))) → lcGo tg c f env (xs.map emb) = some ((xs.filter p).map out)
  | [], _ => rfl
  | x :: xs, h => by
    obtain ⟨e1, h1, h2, h3⟩ := h x List.mem_cons_self
    have ih := lcGo_map emb p out xs fun y hy => h y (List.mem_cons_of_mem _ hy)
    rw [List.map_cons]
    unfold lcGo
    rw [h1, Option.bind_some, h2]
    cases hp : p x with
    | true =>
      simp only [h3 hp, ih, List.filter_cons_of_pos hp, List.map_cons]
      rfl
    | false =>
      have hp' : ¬ p x = true := by rw [hp]; exact Bool.false_ne_true
      simp only [ih, List.filter_cons_of_neg hp']
theorem enumD_map {ι : Type} (emb : ι → D) : ∀ (xs : List ι) (k : Nat), enumD k (xs.map emb) = (xs.zipIdx k).map fun p => .tuple [.int (p.2 : Nat), emb p.1]
  | [], _ => rfl
  | x :: xs, k => by
    show PyData.tuple [.int (k : Int), emb x] :: enumD (k + 1) (xs.map emb) = _
    rw [enumD_map emb xs (k + 1)]; rfl
end PL

/-! Plain laws, part 2: rows of signs, boards. -/
namespace PL
open PySem PySem.Spec PyProof.Rows L2 Builtin.Str
def rowS (r : List Nat) : Str := ⟨r.toArray⟩
abbrev rowD (r : List Nat) : D := .str (rowS r)
abbrev bdD (B : List (List Nat)) : D := .tuple (B.map rowD)
theorem rowS_inj {a b : List Nat} : rowS a = rowS b ↔ a = b := by
  constructor
  · intro h
    have := congrArg (fun s : Str => s.cps.toList) h
    exact this
  · rintro rfl; rfl
@[simp] theorem rowS_eq {a b : List Nat} : (rowS a = rowS b) = (a = b) := propext rowS_inj
@[simp] theorem rowS_len (r : List Nat) : (rowS r).length = r.length := by
  show r.toArray.size = _; simp
@[simp] theorem rowS_list (r : List Nat) : (rowS r).cps.toList = r := rfl
@[simp] theorem rowS_app (a b : List Nat) : rowS a ++ rowS b = rowS (a ++ b) := by
  show Str.mk (a.toArray ++ b.toArray) = Str.mk _
  simp
@[simp] theorem one_rowS (c : Nat) : (⟨#[c]⟩ : Str) = rowS [c] := rfl
theorem str_rowS (s : Str) : s = rowS s.cps.toList := by cases s; rfl
@[simp] theorem str_nil : Str.ofString "" = rowS [] := by rfl
@[simp] theorem str_dot : Str.ofString "." = rowS [46] := by rfl
@[simp] theorem str_x : Str.ofString "x" = rowS [120] := by rfl
@[simp] theorem str_o : Str.ofString "o" = rowS [111] := by rfl
@[simp] theorem str_h : Str.ofString "#" = rowS [35] := by rfl
@[simp] theorem str_xo : Str.ofString "xo" = rowS [120, 111] := by rfl
@[simp] theorem str_ox : Str.ofString "ox" = rowS [111, 120] := by rfl
@[simp] theorem str_xod : Str.ofString "xo." = rowS [120, 111, 46] := by rfl
@[simp] theorem str_xodh : Str.ofString "xo.#" = rowS [120, 111, 46, 35] := by rfl
@[simp] theorem add_bd (A B : List (List Nat)) (h : A.length + B.length ≤ 16777216) : D.add (bdD A) (bdD B) = some (bdD (A ++ B)) := by
  rw [add_tt _ _ (by simpa using h), ← List.map_append]
@[simp] theorem len_bd (B : List (List Nat)) : D.len [bdD B] = some (.int B.length) := by
  rw [len_t, List.length_map]
@[simp] theorem items_row (r : List Nat) : D.items (.str (rowS r)) = some (r.map fun c => rowD [c]) := rfl
@[simp] theorem itemsS_row (r : List Nat) : D.itemsS (.str (rowS r)) = some (r.map fun c => rowD [c]) := rfl
@[simp] theorem enum_row (r : List Nat) : D.enum [.str (rowS r)] = some (enumD 0 (r.map fun c => rowD [c])) := rfl
theorem cnt_count (c : Nat) : ∀ r : List Nat, cnt c r = (r.count c : Nat)
  | [] => rfl
  | d :: r => by
    rw [cnt_cons, cnt_count c r, List.count_cons]
    by_cases h : d = c <;> simp [h]
    omega
@[simp] theorem count_row (r : List Nat) (c : Nat) : D.count (rowS r) (.str (rowS [c])) = some (.int (r.count c : Nat)) := by
  show some (PyData.int (Txt.count (rowS r) ⟨#[c]⟩)) = _
  rw [count_cnt, cnt_count]; rfl
theorem strs_map_rows (B : List (List Nat)) : D.strs (B.map rowD) = some (B.map rowS) := by
  have := strs_of (B.map rowS)
  rwa [List.map_map] at this
theorem join_rows (s : List Nat) : ∀ B : List (List Nat), Txt.join (rowS s) (B.map rowS) = rowS (s.intercalate B)
  | [] => rfl
  | [x] => by
    show glued _ _ = _
    rw [StrLaws.glued_eq_join]
    show rowS x = _
    simp [List.intercalate]
  | x :: y :: r => by
    have h := join_rows s (y :: r)
    unfold Txt.join at h ⊢
    rw [StrLaws.glued_eq_join] at h ⊢
    show rowS x ++ rowS s ++ Str.join (rowS s) (rowS y :: r.map rowS) = _
    rw [List.map_cons] at h
    rw [h, rowS_app, rowS_app]
    simp [List.intercalate, List.intersperse]
theorem ixN_in {n : Nat} {i : Int} (h0 : 0 ≤ i) (h1 : i < n) : ixN n i = some i.toNat := by
  unfold ixN; rw [if_pos h0, if_pos h1]
theorem atI_in {α : Type} {xs : List α} {i : Int} (h0 : 0 ≤ i) (h1 : i < xs.length) : atI xs i = some (xs[i.toNat]'(by omega)) := by
  unfold atI
  rw [ixN_in h0 h1, Option.bind_some, List.getElem?_eq_getElem]
theorem atI_mem {α : Type} {xs : List α} {i : Int} (h0 : 0 ≤ i) (h1 : i < xs.length) : ∃ x, x ∈ xs ∧ atI xs i = some x := ⟨_, List.getElem_mem _, atI_in h0 h1⟩
theorem atI_map {α β : Type} (f : α → β) {xs : List α} {i : Int} : atI (xs.map f) i = (atI xs i).map f := by
  unfold atI
  rw [List.length_map]
  cases ixN xs.length i with
  | none => rfl
  | some j => simp
def isSc : D → Bool
  | .none => true | .bool _ => true | .int _ => true | .str _ => true | _ => false
/-- flat data: scalars and tuples of them, down to a depth -/
def Gd : Nat → D → Prop
  | 0, d => isSc d = true
  | n + 1, d => isSc d = true ∨ ∃ ds, d = .tuple ds ∧ ds.length ≤ 16777216 ∧ ∀ x ∈ ds, Gd n x
theorem zip_self : ∀ ds : List D, zipD ds ds = ds.map fun d => .tuple [d, d]
  | [] => rfl
  | d :: ds => by
    show PyData.tuple [d, d] :: zipD ds ds = _
    rw [zip_self ds]; rfl
theorem map_true {ι : Type} : ∀ ds : List ι, (ds.map fun _ => PyData.bool true) = ((ds.map fun _ => true).map .bool)
  | [] => rfl
  | d :: ds => by rw [List.map_cons, map_true ds]; rfl
theorem all_true {ι : Type} (ds : List ι) : D.all [.list (ds.map fun _ => PyData.bool true)] = some (.bool true) := by
  rw [map_true, all_l]
  simp
/-- a sign of a board -/
def Sg (c : Nat) : Prop := c = 46 ∨ c = 120 ∨ c = 111 ∨ c = 35
structure OkB (B : List (List Nat)) : Prop where
  h1 : 1 ≤ B.length
  h8 : B.length ≤ 8
  w : ∃ w, 1 ≤ w ∧ w ≤ 8 ∧ ∀ r ∈ B, r.length = w
  sg : ∀ r ∈ B, ∀ c ∈ r, Sg c
theorem range_get {h i : Nat} {f : Nat → D} {d : D} (e : ((List.range h).map f)[i]? = some d) : d = f i ∧ i < h := by
  rw [List.getElem?_map] at e
  by_cases hi : i < h
  · rw [List.getElem?_range hi] at e
    exact ⟨(Option.some.inj e).symm, hi⟩
  · rw [List.getElem?_eq_none (by simpa using hi)] at e
    cases e
@[simp] theorem add_row (a b : List Nat) (h : a.length + b.length ≤ 16777216) : D.add (rowD a) (rowD b) = some (rowD (a ++ b)) := by
  rw [add_ss _ _ (by rw [rowS_len, rowS_len]; exact h), rowS_app]
@[simp] theorem len_row (a : List Nat) (h : a.length ≤ 16777216) : D.len [rowD a] = some (.int a.length) := by
  rw [len_s _ (by rw [rowS_len]; exact h), rowS_len]
@[simp] theorem ix_row (a : List Nat) (i : Int) (h : a.length ≤ 16777216) : D.ix (rowD a) (.int i) = (atI a i).map fun c => rowD [c] := by
  rw [ix_s _ _ (by rw [rowS_len]; exact h)]; rfl
abbrev posD (p : Nat × Nat) : D := .tuple [.int p.1, .int p.2]
/-- the places of a sign in one row, from a column on; in all rows, from a row on -/
def rowCells (c i : Nat) : Nat → List Nat → List (Nat × Nat)
  | _, [] => []
  | k, d :: r => if d = c then (i, k) :: rowCells c i (k + 1) r else rowCells c i (k + 1) r
def cells (c : Nat) : Nat → List (List Nat) → List (Nat × Nat)
  | _, [] => []
  | i, r :: B => rowCells c i 0 r ++ cells c (i + 1) B
theorem rowCells_len (c i : Nat) : ∀ (r : List Nat) (k : Nat), (rowCells c i k r).length = r.count c
  | [], _ => rfl
  | d :: r, k => by
    unfold rowCells
    by_cases h : d = c
    · rw [if_pos h, List.length_cons, rowCells_len c i r, List.count_cons]; simp [h]
    · rw [if_neg h, rowCells_len c i r, List.count_cons]; simp [h]
theorem cells_len (c : Nat) : ∀ (B : List (List Nat)) (i : Nat), (cells c i B).length = B.flatten.count c
  | [], _ => rfl
  | r :: B, i => by
    unfold cells
    rw [List.length_append, rowCells_len, cells_len c B, List.flatten_cons, List.count_append]
@[simp] theorem eq_row (a b : List Nat) : D.eq (rowD a) (rowD b) = some (.bool (decide (a = b))) := by
  rw [eq_ss]; simp
@[simp] theorem enumD_nil (k : Nat) : enumD k [] = [] := rfl
@[simp] theorem enumD_cons (k : Nat) (d : D) (ds : List D) : enumD k (d :: ds) = .tuple [.int (k : Nat), d] :: enumD (k + 1) ds := rfl
theorem flat_le {B : List (List Nat)} {w : Nat} (h : ∀ r ∈ B, r.length ≤ w) : B.flatten.length ≤ B.length * w := by
  induction B with
  | nil => simp
  | cons r B ih =>
    rw [List.flatten_cons, List.length_append, List.length_cons, Nat.succ_mul]
    have := h r List.mem_cons_self
    have := ih fun s hs => h s (List.mem_cons_of_mem _ hs)
    omega
theorem OkB.flat {B : List (List Nat)} (h : OkB B) : B.flatten.length ≤ 64 := by
  obtain ⟨w, w1, w8, hw⟩ := h.w
  have := flat_le (B := B) (w := 8) fun r hr => by rw [hw r hr]; exact w8
  have := h.h8
  omega
theorem inter_nil {α : Type} : ∀ B : List (List α), ([] : List α).intercalate B = B.flatten
  | [] => rfl
  | [x] => by simp [List.intercalate]
  | x :: y :: r => by
    have h := inter_nil (y :: r)
    simp [List.intercalate, List.intersperse] at h ⊢
    exact h
theorem join_ok (s : List Nat) (B : List (List Nat)) (h : B.flatten.length + B.length * s.length ≤ 16777216) : D.join (rowS s) (bdD B) = some (rowD (s.intercalate B)) := by
  show (D.strs (B.map rowD)).bind (joinS (rowS s)) = _
  rw [strs_map_rows]
  show (if _ then _ else _) = _
  rw [if_pos, join_rows]
  rw [List.map_map, List.length_map, rowS_len]
  rw [List.length_flatten] at h
  have e : (fun x => x.length) ∘ rowS = List.length := by funext r; simp
  rw [e]; exact h
@[simp] theorem join_bd (B : List (List Nat)) (h : B.flatten.length ≤ 16777216) : D.join (rowS []) (bdD B) = some (rowD B.flatten) := by
  rw [join_ok [] B (by simpa using h), inter_nil]
def isT (o : O D) : Bool := match o with | .ok (.bool true) => true | _ => false
theorem isT_ok {o : O D} (h : isT o = true) : o = .ok (.bool true) := by
  unfold isT at h
  split at h
  · rfl
  · cases h
/-- two answers that a judge holds to be alike -/
def isAlike (a b : O D) (same : List D → O D) : Bool := match a, b with
  | .ok x, .ok y => isT (same [x, y])
  | _, _ => false
theorem isAlike_ok {a b : O D} {same : List D → O D} (h : isAlike a b same = true) : ∃ x y, a = .ok x ∧ b = .ok y ∧ same [x, y] = .ok (.bool true) := by
  unfold isAlike at h
  split at h
  · exact ⟨_, _, rfl, rfl, isT_ok h⟩
  · cases h
theorem Gd.up : ∀ (n : Nat) (d : D), Gd n d → Gd (n + 1) d
  | 0, d, h => .inl h
  | n + 1, d, h => by
    rcases h with h | ⟨ds, rfl, hl, hd⟩
    · exact .inl h
    · exact .inr ⟨ds, rfl, hl, fun x hx => Gd.up n x (hd x hx)⟩
theorem Gd.le {d : D} {n : Nat} (h : Gd n d) : ∀ {m : Nat}, n ≤ m → Gd m d
  | 0, e => by
    have : n = 0 := by omega
    subst this; exact h
  | m + 1, e => by
    by_cases e1 : n = m + 1
    · subst e1; exact h
    · exact Gd.up m d (Gd.le h (by omega))
theorem Gd.sc {d : D} (n : Nat) (h : isSc d = true) : Gd n d := by
  cases n with
  | zero => exact h
  | succ n => exact .inl h
end PL

namespace Lk02
open PySem PySem.Spec PyProof.Rows L2 PL
def b_start_1 : En → Fl := sFg [3, 4, 5] (sSeq (sSet 4 (sBin D.mul (sK (.str (Str.ofString "."))) (sN 1)))
    (sSeq (sFg [3, 5] (sIf (sTest (sBin D.isIn (sN 3) (sTup (sCons (sBin D.sub (sBin D.fdiv (sN 0) (sK (.int 2))) (sK (.int 1))) (sCons (sBin D.fdiv (sN 0) (sK (.int 2))) (sNil)))))) (sSeq (sSet 5 (sK (.str (Str.ofString "ox"))))
    (sSeq (sFg [3] (sIf (sTest (sBin D.eq (sN 3) (sBin D.fdiv (sN 0) (sK (.int 2))))) (sSet 5 (sK (.str (Str.ofString "xo")))) (sSkip)))
    (sFg [5] (sSet 4 (sBin D.add (sBin D.add (sBin D.mul (sK (.str (Str.ofString "."))) (sBin D.sub (sBin D.fdiv (sN 1) (sK (.int 2))) (sK (.int 1)))) (sN 5)) (sBin D.mul (sK (.str (Str.ofString "."))) (sBin D.sub (sBin D.sub (sN 1) (sBin D.fdiv (sN 1) (sK (.int 2)))) (sK (.int 1))))))))) (sSkip)))
    (sFg [4] (sApp 2 (sN 4)))))
def s_start : En → Fl :=
    sSeq (sSetL 2 (sLstL (sNil)))
    (sSeq (sFg [3, 4, 5] (sFor (sCa D.rng1 (sCons (sN 0) (sNil))) (.n 3) b_start_1))
    (sFrz 2 (sRet (sCa D.toTuple (sCons (sN 2) (sNil))))))
def f_start : List D → O D := fnD 2 6 s_start
def b_cells_of_1 : En → Fl := sFg [5, 6] (sFg [5, 6] (sIf (sTest (sBin D.eq (sN 6) (sN 1))) (sFg [5] (sApp 2 (sTup (sCons (sN 3) (sCons (sN 5) (sNil)))))) (sSkip)))
def b_cells_of_2 : En → Fl := sFg [3, 4, 5, 6] (sFg [3, 4, 5, 6] (sFor (sCa D.enum (sCons (sN 4) (sNil))) (.t [5, 6]) b_cells_of_1))
def s_cells_of : En → Fl :=
    sSeq (sSetL 2 (sLstL (sNil)))
    (sSeq (sFg [3, 4, 5, 6] (sFor (sCa D.enum (sCons (sN 0) (sNil))) (.t [3, 4]) b_cells_of_2))
    (sFrz 2 (sRet (sCa D.toTuple (sCons (sN 2) (sNil))))))
def f_cells_of : List D → O D := fnD 2 7 s_cells_of
def e_counts_1 : En → O D := sCa D.len (sCons (sCall f_cells_of (sCons (sN 0) (sCons (sN 1) (sNil)))) (sNil))
def s_counts : En → Fl :=
    sRet (sCa D.toTuple (sCons (sLst (sLc (sUn D.itemsS (sK (.str (Str.ofString "xo.")))) (.n 1) (sK true) e_counts_1 [1])) (sNil)))
def f_counts : List D → O D := fnD 1 2 s_counts
def s_score : En → Fl :=
    sSeq (sAsg (.t [1, 2, 3]) (sCall f_counts (sCons (sN 0) (sNil))))
    (sSeq (sIf (sTest (sBin D.gt (sN 1) (sN 2))) (sRet (sTup (sCons (sBin D.add (sN 1) (sN 3)) (sCons (sN 2) (sNil))))) (sSkip))
    (sSeq (sFg [3] (sIf (sTest (sBin D.gt (sN 2) (sN 1))) (sRet (sTup (sCons (sN 1) (sCons (sBin D.add (sN 2) (sN 3)) (sNil))))) (sSkip)))
    (sRet (sTup (sCons (sN 1) (sCons (sN 2) (sNil)))))))
def f_score : List D → O D := fnD 1 4 s_score
def s__law_d : En → Fl :=
    sSeq (sSet 3 (sBin D.mod (sBin D.add (sN 0) (sBin D.mul (sK (.int 104729)) (sN 1))) (sK (.int 4294967291))))
    (sSeq (sSet 3 (sBin D.mod (sBin D.mul (sBin D.mod (sBin D.mul (sN 3) (sN 3)) (sK (.int 4294967279))) (sK (.int 48271))) (sK (.int 4294967291))))
    (sRet (sBin D.mod (sBin D.fdiv (sN 3) (sK (.int 64))) (sN 2))))
def f__law_d : List D → O D := fnD 3 4 s__law_d
def s__law_cell : En → Fl :=
    sSeq (sIf (sTest (sBin D.lt (sN 1) (sCa D.len (sCons (sN 0) (sNil))))) (sRet (sBin D.ix (sN 0) (sN 1))) (sSkip))
    (sRet (sK (.int 0)))
def f__law_cell : List D → O D := fnD 2 2 s__law_cell
def e_law_same_1 (rc : List D → O D) : En → O D := sCall rc (sCons (sN 2) (sCons (sN 3) (sNil)))
def s__law_same (rc : List D → O D) : En → Fl :=
    sSeq (sIf (sTest (sBin D.isN (sN 1) (sK .none))) (sRet (sBin D.isN (sN 0) (sK .none))) (sSkip))
    (sSeq (sIf (sTru (sUn (D.isi "bool") (sN 1))) (sRet (sAndV (sUn (D.isi "bool") (sN 0)) (sBin D.eq (sN 0) (sN 1)))) (sSkip))
    (sSeq (sIf (sTru (sUn (D.isi "tuple") (sN 1))) (sSeq (sIf (sOr (sNot (sTru (sUn (D.isi "tuple") (sN 0)))) (sTest (sBin D.ne (sCa D.len (sCons (sN 0) (sNil))) (sCa D.len (sCons (sN 1) (sNil)))))) (sRet (sK (.bool false))) (sSkip))
    (sRet (sCa D.all (sCons (sLst (sLc (sCa D.zip (sCons (sN 0) (sCons (sN 1) (sNil)))) (.t [2, 3]) (sK true) (e_law_same_1 rc) [2, 3])) (sNil))))) (sSkip))
    (sSeq (sIf (sTru (sUn (D.isi "str") (sN 1))) (sRet (sAndV (sUn (D.isi "str") (sN 0)) (sBin D.eq (sN 0) (sN 1)))) (sSkip))
    (sRet (sAndV (sUn (D.isi "int") (sN 0)) (sAndV (sNotV (sUn (D.isi "bool") (sN 0))) (sBin D.eq (sN 0) (sN 1))))))))
def fuel__law_same : Nat := 8
def f__law_same : Nat → List D → O D
  | 0 => fun _ => O.st
  | n + 1 => fnD 2 4 (s__law_same (f__law_same n))
def b_law_board_1 : En → Fl := sFg [12, 13] (sSeq (sFg [12] (sSet 13 (sBin D.add (sBin D.add (sN 8) (sBin D.mul (sN 12) (sN 9))) (sBin D.mul (sBin D.mul (sN 12) (sN 12)) (sN 10)))))
    (sFg [13] (sSet 11 (sBin D.add (sN 11) (sBin D.ix (sN 5) (sBin D.mod (sN 13) (sCa D.len (sCons (sN 5) (sNil)))))))))
def b_law_board_2 : En → Fl := sFg [7, 8, 9, 10, 11, 12, 13] (sSeq (sSet 8 (sCall f__law_cell (sCons (sN 0) (sCons (sBin D.add (sBin D.add (sN 1) (sK (.int 1))) (sBin D.mod (sN 7) (sK (.int 5)))) (sNil)))))
    (sSeq (sFg [7] (sSet 8 (sBin D.add (sBin D.fdiv (sN 8) (sBin D.add (sBin D.mul (sBin D.fdiv (sN 7) (sK (.int 5))) (sK (.int 7))) (sK (.int 1)))) (sBin D.mul (sBin D.fdiv (sN 2) (sK (.int 384))) (sN 7)))))
    (sSeq (sSet 9 (sBin D.add (sBin D.mod (sBin D.fdiv (sN 8) (sK (.int 97))) (sK (.int 11))) (sK (.int 1))))
    (sSeq (sSet 10 (sBin D.mod (sBin D.fdiv (sN 8) (sK (.int 1067))) (sK (.int 3))))
    (sSeq (sSet 11 (sK (.str (Str.ofString ""))))
    (sSeq (sFg [8, 9, 10, 12, 13] (sFor (sCa D.rng1 (sCons (sN 4) (sNil))) (.n 12) b_law_board_1))
    (sFg [11] (sSet 6 (sBin D.add (sN 6) (sTup (sCons (sN 11) (sNil))))))))))))
def s__law_board : En → Fl :=
    sSeq (sSet 2 (sCall f__law_cell (sCons (sN 0) (sCons (sN 1) (sNil)))))
    (sSeq (sSet 3 (sBin D.ix (sLst (sLstL (sCons (sK (.int 4)) (sCons (sK (.int 3)) (sCons (sK (.int 5)) (sCons (sK (.int 6)) (sCons (sK (.int 8)) (sCons (sK (.int 1)) (sCons (sK (.int 4)) (sCons (sK (.int 7)) (sNil))))))))))) (sCall f__law_d (sCons (sN 2) (sCons (sK (.int 1)) (sCons (sK (.int 8)) (sNil)))))))
    (sSeq (sSet 4 (sBin D.ix (sLst (sLstL (sCons (sK (.int 4)) (sCons (sK (.int 5)) (sCons (sK (.int 3)) (sCons (sK (.int 6)) (sCons (sK (.int 8)) (sCons (sK (.int 8)) (sCons (sK (.int 2)) (sCons (sK (.int 7)) (sNil))))))))))) (sCall f__law_d (sCons (sN 2) (sCons (sK (.int 8)) (sCons (sK (.int 8)) (sNil)))))))
    (sSeq (sSet 5 (sBin D.ix (sLst (sLstL (sCons (sK (.str (Str.ofString "..xo"))) (sCons (sK (.str (Str.ofString ".xo"))) (sCons (sK (.str (Str.ofString "xxoo."))) (sCons (sK (.str (Str.ofString "xo.#.ox"))) (sCons (sK (.str (Str.ofString "x.o"))) (sCons (sK (.str (Str.ofString ".....xo"))) (sNil))))))))) (sCall f__law_d (sCons (sN 2) (sCons (sK (.int 64)) (sCons (sK (.int 6)) (sNil)))))))
    (sSeq (sSet 6 (sTup (sNil)))
    (sSeq (sFg [2, 3, 4, 5, 7, 8, 9, 10, 11, 12, 13] (sFor (sCa D.rng1 (sCons (sN 3) (sNil))) (.n 7) b_law_board_2))
    (sRet (sN 6)))))))
def f__law_board : List D → O D := fnD 2 14 s__law_board
def b_law_start_1 : En → Fl := sFg [5, 6] (sSeq (sSet 6 (sK (.str (Str.ofString "."))))
    (sSeq (sFg [5] (sIf (sAnd (sTest (sBin D.isIn (sBin D.sub (sN 3) (sBin D.fdiv (sN 0) (sK (.int 2)))) (sTup (sCons (sUn D.neg (sK (.int 1))) (sCons (sK (.int 0)) (sNil)))))) (sTest (sBin D.isIn (sBin D.sub (sN 5) (sBin D.fdiv (sN 1) (sK (.int 2)))) (sTup (sCons (sUn D.neg (sK (.int 1))) (sCons (sK (.int 0)) (sNil))))))) (sSeq (sSet 6 (sK (.str (Str.ofString "x"))))
    (sFg [5] (sIf (sTest (sBin D.eq (sBin D.sub (sN 3) (sBin D.fdiv (sN 0) (sK (.int 2)))) (sBin D.sub (sN 5) (sBin D.fdiv (sN 1) (sK (.int 2)))))) (sSet 6 (sK (.str (Str.ofString "o")))) (sSkip)))) (sSkip)))
    (sFg [6] (sSet 4 (sBin D.add (sN 4) (sN 6))))))
def b_law_start_2 : En → Fl := sFg [3, 4, 5, 6] (sSeq (sSet 4 (sK (.str (Str.ofString ""))))
    (sSeq (sFg [3, 5, 6] (sFor (sCa D.rng1 (sCons (sN 1) (sNil))) (.n 5) b_law_start_1))
    (sFg [4] (sApp 2 (sN 4)))))
def s__law_start : En → Fl :=
    sSeq (sSetL 2 (sLstL (sNil)))
    (sSeq (sFg [3, 4, 5, 6] (sFor (sCa D.rng1 (sCons (sN 0) (sNil))) (.n 3) b_law_start_2))
    (sFrz 2 (sRet (sCa D.toTuple (sCons (sN 2) (sNil))))))
def f__law_start : List D → O D := fnD 2 7 s__law_start
def b_law_1 : En → Fl := sFg [1, 3] (sSeq (sSet 3 (sBin D.add (sBin D.mod (sCall f__law_cell (sCons (sN 0) (sCons (sN 1) (sNil)))) (sK (.int 7))) (sK (.int 2))))
    (sFg [1, 3] (sIf (sNot (sTru (sCall (f__law_same fuel__law_same) (sCons (sCall f_start (sCons (sN 1) (sCons (sN 3) (sNil)))) (sCons (sCall f__law_start (sCons (sN 1) (sCons (sN 3) (sNil)))) (sNil)))))) (sRet (sK (.bool false))) (sSkip))))
def b_law_2 : En → Fl := sFg [2, 4, 5, 6, 7, 8, 9] (sSeq (sFg [2] (sSet 4 (sCall f__law_board (sCons (sN 0) (sCons (sN 2) (sNil))))))
    (sSeq (sSet 5 (sM1 D.join (sK (.str (Str.ofString ""))) (sN 4)))
    (sSeq (sSet 6 (sM1 D.count (sN 5) (sK (.str (Str.ofString "x")))))
    (sSeq (sSet 7 (sM1 D.count (sN 5) (sK (.str (Str.ofString "o")))))
    (sSeq (sFg [5] (sSet 8 (sM1 D.count (sN 5) (sK (.str (Str.ofString "."))))))
    (sSeq (sIf (sNot (sTru (sCall (f__law_same fuel__law_same) (sCons (sCall f_counts (sCons (sN 4) (sNil))) (sCons (sTup (sCons (sN 6) (sCons (sN 7) (sCons (sN 8) (sNil))))) (sNil)))))) (sRet (sK (.bool false))) (sSkip))
    (sSeq (sSet 9 (sTup (sCons (sN 6) (sCons (sN 7) (sNil)))))
    (sSeq (sIf (sTest (sBin D.gt (sN 6) (sN 7))) (sSet 9 (sTup (sCons (sBin D.add (sN 6) (sN 8)) (sCons (sN 7) (sNil))))) (sSkip))
    (sSeq (sFg [6, 7, 8] (sIf (sTest (sBin D.lt (sN 6) (sN 7))) (sFg [6, 7, 8] (sSet 9 (sTup (sCons (sN 6) (sCons (sBin D.add (sN 7) (sN 8)) (sNil)))))) (sSkip)))
    (sFg [4, 9] (sIf (sNot (sTru (sCall (f__law_same fuel__law_same) (sCons (sCall f_score (sCons (sN 4) (sNil))) (sCons (sN 9) (sNil)))))) (sRet (sK (.bool false))) (sSkip))))))))))))
def s_law : En → Fl :=
    sSeq (sFg [1, 3] (sFor (sCa D.rng2 (sCons (sK (.int 2)) (sCons (sK (.int 9)) (sNil)))) (.n 1) b_law_1))
    (sSeq (sFg [2, 4, 5, 6, 7, 8, 9] (sFor (sUn D.items (sTup (sCons (sK (.int 0)) (sCons (sK (.int 6)) (sCons (sK (.int 12)) (sNil)))))) (.n 2) b_law_2))
    (sRet (sK (.bool true))))
def f_law : List D → O D := fnD 1 10 s_law
end Lk02

namespace Lk02
open PySem PySem.Spec PyProof.Rows L2 PL
def topS (i : Nat) : Stmt := List.getD PySem.Challenge.pw_flipstones_k02_counts.main.body i (.Pass ⟨0, 0, 0, 0⟩)
abbrev t_start : Stmt := topS 1
theorem sc_start : FnScope ["high", "wide", "rows", "row", "text", "two"] ["high", "wide"] (defScope t_start) := ⟨rfl, rfl, rfl, by decide +kernel, rfl, by decide +kernel, by decide +kernel⟩
abbrev t_cells_of : Stmt := topS 2
theorem sc_cells_of : FnScope ["rows", "sign", "found", "row", "text", "column", "one"] ["rows", "sign"] (defScope t_cells_of) := ⟨rfl, rfl, rfl, by decide +kernel, rfl, by decide +kernel, by decide +kernel⟩
abbrev t_counts : Stmt := topS 3
theorem sc_counts : FnScope ["rows", "sign"] ["rows"] (defScope t_counts) := ⟨rfl, rfl, rfl, by decide +kernel, rfl, by decide +kernel, by decide +kernel⟩
abbrev t_score : Stmt := topS 4
theorem sc_score : FnScope ["rows", "first", "second", "empty"] ["rows"] (defScope t_score) := ⟨rfl, rfl, rfl, by decide +kernel, rfl, by decide +kernel, by decide +kernel⟩
abbrev t__law_d : Stmt := topS 6
theorem sc__law_d : FnScope ["_law_cell_here", "_law_place", "_law_many", "_law_number"] ["_law_cell_here", "_law_place", "_law_many"] (defScope t__law_d) := ⟨rfl, rfl, rfl, by decide +kernel, rfl, by decide +kernel, by decide +kernel⟩
abbrev t__law_cell : Stmt := topS 7
theorem sc__law_cell : FnScope ["_law_script", "_law_k"] ["_law_script", "_law_k"] (defScope t__law_cell) := ⟨rfl, rfl, rfl, by decide +kernel, rfl, by decide +kernel, by decide +kernel⟩
abbrev t__law_same : Stmt := topS 8
theorem sc__law_same : FnScope ["_law_told", "_law_due", "_law_one", "_law_other"] ["_law_told", "_law_due"] (defScope t__law_same) := ⟨rfl, rfl, rfl, by decide +kernel, rfl, by decide +kernel, by decide +kernel⟩
abbrev t__law_board : Stmt := topS 9
theorem sc__law_board : FnScope ["_law_script", "_law_begin", "_law_cell_here", "_law_high", "_law_wide", "_law_signs", "_law_rows", "_law_row", "_law_code", "_law_step", "_law_curve", "_law_text", "_law_column", "_law_at"] ["_law_script", "_law_begin"] (defScope t__law_board) := ⟨rfl, rfl, rfl, by decide +kernel, rfl, by decide +kernel, by decide +kernel⟩
abbrev t__law_start : Stmt := topS 10
theorem sc__law_start : FnScope ["_law_high", "_law_wide", "_law_rows", "_law_row", "_law_text", "_law_column", "_law_sign"] ["_law_high", "_law_wide"] (defScope t__law_start) := ⟨rfl, rfl, rfl, by decide +kernel, rfl, by decide +kernel, by decide +kernel⟩
abbrev t_law : Stmt := topS 11
theorem sc_law : FnScope ["_law_script", "_law_high", "_law_begin", "_law_wide", "_law_rows", "_law_text", "_law_first", "_law_second", "_law_empty", "_law_due"] ["_law_script"] (defScope t_law) := ⟨rfl, rfl, rfl, by decide +kernel, rfl, by decide +kernel, by decide +kernel⟩
/-- where the text's own things stand -/
structure Ad where
  (a_start : Addr) (d_start : FuncData)
  (a_cells_of : Addr) (d_cells_of : FuncData)
  (a_counts : Addr) (d_counts : FuncData)
  (a_score : Addr) (d_score : FuncData)
  (a__law_d : Addr) (d__law_d : FuncData)
  (a__law_cell : Addr) (d__law_cell : FuncData)
  (a__law_same : Addr) (d__law_same : FuncData)
  (a__law_board : Addr) (d__law_board : FuncData)
  (a__law_start : Addr) (d__law_start : FuncData)
  (a_law : Addr) (d_law : FuncData)
structure Tops (K : PySem.W.Frag) (mg : Str → Option Value) (A : Ad) : Prop where
  F_start : Fun K "start" "start" t_start A.a_start A.d_start
  m_start : mg "start" = some (.ref A.a_start)
  B_start : Binds K A.d_start ["high", "wide"] []
  F_cells_of : Fun K "cells_of" "cells_of" t_cells_of A.a_cells_of A.d_cells_of
  m_cells_of : mg "cells_of" = some (.ref A.a_cells_of)
  B_cells_of : Binds K A.d_cells_of ["rows", "sign"] []
  F_counts : Fun K "counts" "counts" t_counts A.a_counts A.d_counts
  m_counts : mg "counts" = some (.ref A.a_counts)
  B_counts : Binds K A.d_counts ["rows"] []
  F_score : Fun K "score" "score" t_score A.a_score A.d_score
  m_score : mg "score" = some (.ref A.a_score)
  B_score : Binds K A.d_score ["rows"] []
  F__law_d : Fun K "_law_d" "_law_d" t__law_d A.a__law_d A.d__law_d
  m__law_d : mg "_law_d" = some (.ref A.a__law_d)
  B__law_d : Binds K A.d__law_d ["_law_cell_here", "_law_place", "_law_many"] []
  F__law_cell : Fun K "_law_cell" "_law_cell" t__law_cell A.a__law_cell A.d__law_cell
  m__law_cell : mg "_law_cell" = some (.ref A.a__law_cell)
  B__law_cell : Binds K A.d__law_cell ["_law_script", "_law_k"] []
  F__law_same : Fun K "_law_same" "_law_same" t__law_same A.a__law_same A.d__law_same
  m__law_same : mg "_law_same" = some (.ref A.a__law_same)
  B__law_same : Binds K A.d__law_same ["_law_told", "_law_due"] []
  F__law_board : Fun K "_law_board" "_law_board" t__law_board A.a__law_board A.d__law_board
  m__law_board : mg "_law_board" = some (.ref A.a__law_board)
  B__law_board : Binds K A.d__law_board ["_law_script", "_law_begin"] []
  F__law_start : Fun K "_law_start" "_law_start" t__law_start A.a__law_start A.d__law_start
  m__law_start : mg "_law_start" = some (.ref A.a__law_start)
  B__law_start : Binds K A.d__law_start ["_law_high", "_law_wide"] []
  F_law : Fun K "law" "law" t_law A.a_law A.d_law
  m_law : mg "law" = some (.ref A.a_law)
  B_law : Binds K A.d_law ["_law_script"] []
  b_all : mg "all" = none
  b_bool : mg "bool" = none
  b_enumerate : mg "enumerate" = none
  b_int : mg "int" = none
  b_isinstance : mg "isinstance" = none
  b_len : mg "len" = none
  b_range : mg "range" = none
  b_str : mg "str" = none
  b_tuple : mg "tuple" = none
  b_zip : mg "zip" = none
end Lk02

namespace Lk02
open PySem PySem.Spec PyProof.Rows L2 PL
section
variable {P : Program} {w : World} {K : PySem.W.Frag} {mg : Str → Option Value} {base : Heap} {A : Ad}
theorem ok_start (T : Tops K mg A) : FnOk P w K mg base (L2.CX P w) 1 A.a_start A.d_start ["high", "wide"] (spD K mg f_start) := by
  exact fn_D (k := 0) (g := s_start) T.F_start sc_start rfl rfl fun cdv A' outer s H E hr tk hp => (z_cons (z_setL (i := 2) sc_start.nd rfl (Or.inl rfl) (pl_lst (qa_nil)))
    (z_cons (z_fg [3, 4, 5] (z_for hp rfl (i_rng1 (by rfl) T.b_range (qa_cons (pv_n 0) (qa_nil))) (q_name (i := 3) sc_start.nd rfl (Or.inl rfl)) (zs_fg [3, 4, 5] (z_cons (z_set (i := 4) sc_start.nd rfl (Or.inl rfl) (pg_bin mono_D o_mul g_mul (pv_str) (pv_n 1)))
    (z_cons (z_fg [3, 5] (z_if (qt_cmp (o_in (hu65 hr)) g_in (pv_n 3) (pv_tup (qa_cons (pg_bin mono_D op_sub g_sub (pg_bin mono_D op_fdiv g_fdiv (pv_n 0) (pv_int)) (pv_int)) (qa_cons (pg_bin mono_D op_fdiv g_fdiv (pv_n 0) (pv_int)) (qa_nil)))) (by rfl)) (z_cons (z_set (i := 5) sc_start.nd rfl (Or.inl rfl) (pv_str))
    (z_cons (z_fg [3] (z_if (qt_cmp (o_eq hr.units) g_eq (pv_n 3) (pg_bin mono_D op_fdiv g_fdiv (pv_n 0) (pv_int)) (nomark _)) (z_one (z_set (i := 5) sc_start.nd rfl (Or.inl rfl) (pv_str))) (z_nil)))
    (z_one (z_fg [5] (z_set (i := 4) sc_start.nd rfl (Or.inl rfl) (pg_bin mono_D o_add g_add (pg_bin mono_D o_add g_add (pg_bin mono_D o_mul g_mul (pv_str) (pg_bin mono_D op_sub g_sub (pg_bin mono_D op_fdiv g_fdiv (pv_n 1) (pv_int)) (pv_int))) (pv_n 5)) (pg_bin mono_D o_mul g_mul (pv_str) (pg_bin mono_D op_sub g_sub (pg_bin mono_D op_sub g_sub (pv_n 1) (pg_bin mono_D op_fdiv g_fdiv (pv_n 1) (pv_int))) (pv_int))))))))) (z_nil)))
    (z_one (z_fg [4] (z_app 2 (he := pv_n 4)))))))))
    (z_one (z_frz 2 (z_ret (pg_callT mono_D call_tuple_of g_tuple (by rfl) T.b_tuple (by decide +kernel) (qa_cons (pv_n 2) (qa_nil))))))))
theorem ok_cells_of (T : Tops K mg A) : FnOk P w K mg base (L2.CX P w) 1 A.a_cells_of A.d_cells_of ["rows", "sign"] (spD K mg f_cells_of) := by
  exact fn_D (k := 0) (g := s_cells_of) T.F_cells_of sc_cells_of rfl rfl fun cdv A' outer s H E hr tk hp => (z_cons (z_setL (i := 2) sc_cells_of.nd rfl (Or.inl rfl) (pl_lst (qa_nil)))
    (z_cons (z_fg [3, 4, 5, 6] (z_for hp rfl (i_enum (by rfl) T.b_enumerate (qa_cons (pv_n 0) (qa_nil))) (q_tup rfl (qg_cons (pg_name (i := 3) sc_cells_of.nd rfl (Or.inl rfl)) (qg_cons (pg_name (i := 4) sc_cells_of.nd rfl (Or.inl rfl)) (qg_nil)))) (zs_fg [3, 4, 5, 6] (z_one (z_fg [3, 4, 5, 6] (z_for hp rfl (i_enum (by rfl) T.b_enumerate (qa_cons (pv_n 4) (qa_nil))) (q_tup rfl (qg_cons (pg_name (i := 5) sc_cells_of.nd rfl (Or.inl rfl)) (qg_cons (pg_name (i := 6) sc_cells_of.nd rfl (Or.inl rfl)) (qg_nil)))) (zs_fg [5, 6] (z_one (z_fg [5, 6] (z_if (qt_cmp (o_eq hr.units) g_eq (pv_n 6) (pv_n 1) (nomark _)) (z_one (z_fg [5] (z_app 2 (he := pv_tup (qa_cons (pv_n 3) (qa_cons (pv_n 5) (qa_nil))))))) (z_nil)))))))))))
    (z_one (z_frz 2 (z_ret (pg_callT mono_D call_tuple_of g_tuple (by rfl) T.b_tuple (by decide +kernel) (qa_cons (pv_n 2) (qa_nil))))))))
theorem ok_counts (T : Tops K mg A) : FnOk P w K mg base (L2.CX P w) 2 A.a_counts A.d_counts ["rows"] (spD K mg f_counts) := by
  have G_cells_of := ok_cells_of (P := P) (w := w) (base := base) T
  exact fn_D (k := 1) (g := s_counts) T.F_counts sc_counts rfl rfl fun cdv A' outer s H E hr tk hp => (z_one (z_ret (pg_callT mono_D call_tuple_of g_tuple (by rfl) T.b_tuple (by decide +kernel) (qa_cons (pv_l (pl_lc (own := [("sign", 1)]) rfl sc_counts.nd (i_str (pv_str)) (blkOk_by (by kernel_rfl)) (fun _ _ _ _ _ => q_name (i := 1) sc_counts.nd rfl (by first | exact Or.inl rfl | exact Or.inr rfl)) (fun _ _ _ _ _ => qts_nil) (fun _ _ _ _ _ => pg_callB mono_D call_len g_len (by rfl) T.b_len (by decide +kernel) (qa_cons (pg_call mono_D G_cells_of (hr.mono (by decide)) (by rfl) T.m_cells_of T.F_cells_of.kp T.B_cells_of takes0 (qa_cons (pv_n 0) (qa_cons (pv_n 1) (qa_nil)))) (qa_nil))))) (qa_nil)))))
theorem ok_score (T : Tops K mg A) : FnOk P w K mg base (L2.CX P w) 3 A.a_score A.d_score ["rows"] (spD K mg f_score) := by
  have G_counts := ok_counts (P := P) (w := w) (base := base) T
  exact fn_D (k := 2) (g := s_score) T.F_score sc_score rfl rfl fun cdv A' outer s H E hr tk hp => (z_cons (z_asg (pg_call mono_D G_counts (hr.mono (by decide)) (by rfl) T.m_counts T.F_counts.kp T.B_counts tk (qa_cons (pv_n 0) (qa_nil))) (q_tup rfl (qg_cons (pg_name (i := 1) sc_score.nd rfl (Or.inl rfl)) (qg_cons (pg_name (i := 2) sc_score.nd rfl (Or.inl rfl)) (qg_cons (pg_name (i := 3) sc_score.nd rfl (Or.inl rfl)) (qg_nil))))))
    (z_cons (z_if (qt_cmp op_gt g_gt (pv_n 1) (pv_n 2) (nomark _)) (z_one (z_ret (pv_tup (qa_cons (pg_bin mono_D o_add g_add (pv_n 1) (pv_n 3)) (qa_cons (pv_n 2) (qa_nil)))))) (z_nil))
    (z_cons (z_fg [3] (z_if (qt_cmp op_gt g_gt (pv_n 2) (pv_n 1) (nomark _)) (z_one (z_ret (pv_tup (qa_cons (pv_n 1) (qa_cons (pg_bin mono_D o_add g_add (pv_n 2) (pv_n 3)) (qa_nil)))))) (z_nil)))
    (z_one (z_ret (pv_tup (qa_cons (pv_n 1) (qa_cons (pv_n 2) (qa_nil)))))))))
theorem ok__law_d (T : Tops K mg A) : FnOk P w K mg base (L2.CX P w) 1 A.a__law_d A.d__law_d ["_law_cell_here", "_law_place", "_law_many"] (spD K mg f__law_d) := by
  exact fn_D (k := 0) (g := s__law_d) T.F__law_d sc__law_d rfl rfl fun cdv A' outer s H E hr tk hp => (z_cons (z_set (i := 3) sc__law_d.nd rfl (Or.inl rfl) (pg_bin mono_D op_mod g_mod (pg_bin mono_D o_add g_add (pv_n 0) (pg_bin mono_D o_mul g_mul (pv_int) (pv_n 1))) (pv_int)))
    (z_cons (z_set (i := 3) sc__law_d.nd rfl (Or.inl rfl) (pg_bin mono_D op_mod g_mod (pg_bin mono_D o_mul g_mul (pg_bin mono_D op_mod g_mod (pg_bin mono_D o_mul g_mul (pv_n 3) (pv_n 3)) (pv_int)) (pv_int)) (pv_int)))
    (z_one (z_ret (pg_bin mono_D op_mod g_mod (pg_bin mono_D op_fdiv g_fdiv (pv_n 3) (pv_int)) (pv_n 2))))))
theorem ok__law_cell (T : Tops K mg A) : FnOk P w K mg base (L2.CX P w) 1 A.a__law_cell A.d__law_cell ["_law_script", "_law_k"] (spD K mg f__law_cell) := by
  exact fn_D (k := 0) (g := s__law_cell) T.F__law_cell sc__law_cell rfl rfl fun cdv A' outer s H E hr tk hp => (z_cons (z_if (qt_cmp op_lt g_lt (pv_n 1) (pg_callB mono_D call_len g_len (by rfl) T.b_len (by decide +kernel) (qa_cons (pv_n 0) (qa_nil))) (nomark _)) (z_one (z_ret (pv_ix (pv_n 0) (pv_n 1)))) (z_nil))
    (z_one (z_ret (pv_int))))
theorem ok__law_same (T : Tops K mg A) : ∀ n : Nat, FnOk P w K mg base (L2.CX P w) (0 + n) A.a__law_same A.d__law_same ["_law_told", "_law_due"] (spD K mg (f__law_same n)) := by
  intro n
  induction n with
  | zero => exact fn_st
  | succ n ih =>
    exact fn_D (k := 0 + n) (g := s__law_same (f__law_same n)) T.F__law_same sc__law_same rfl rfl fun cdv A' outer s H E hr tk hp => (z_cons (z_if (qt_cmp op_isN g_isN (pv_n 1) (pv_non) (nomark _)) (z_one (z_ret (pv_cmp op_isN g_isN (pv_n 0) (pv_non) (nomark _)))) (z_nil))
    (z_cons (z_if (qt_v (pv_isi (by rfl) T.b_isinstance (by rfl) T.b_bool (by decide +kernel) (pv_n 1))) (z_one (z_ret (pv_and (pv_isi (by rfl) T.b_isinstance (by rfl) T.b_bool (by decide +kernel) (pv_n 0)) (pv_one (pv_cmp (o_eq hr.units) g_eq (pv_n 0) (pv_n 1) (nomark _)))))) (z_nil))
    (z_cons (z_if (qt_v (pv_isi (by rfl) T.b_isinstance (by rfl) T.b_tuple (by decide +kernel) (pv_n 1))) (z_cons (z_if (qt_w (qw_or (qt_not (qt_v (pv_isi (by rfl) T.b_isinstance (by rfl) T.b_tuple (by decide +kernel) (pv_n 0)))) (qw_or1 (qt_cmp (o_ne hr.units) g_ne (pg_callB mono_D call_len g_len (by rfl) T.b_len (by decide +kernel) (qa_cons (pv_n 0) (qa_nil))) (pg_callB mono_D call_len g_len (by rfl) T.b_len (by decide +kernel) (qa_cons (pv_n 1) (qa_nil))) (nomark _))))) (z_one (z_ret (pv_bl))) (z_nil))
    (z_one (z_ret (pg_callB mono_D (cr_all rfl) g_all (by rfl) T.b_all (by decide +kernel) (qa_cons (pv_l (pl_lc (own := [("_law_one", 2), ("_law_other", 3)]) rfl sc__law_same.nd (i_zip (by rfl) T.b_zip (qa_cons (pv_n 0) (qa_cons (pv_n 1) (qa_nil)))) (blkOk_by (by kernel_rfl)) (fun _ _ _ _ _ => q_tup rfl (qg_cons (pg_name (i := 2) sc__law_same.nd rfl (by first | exact Or.inl rfl | exact Or.inr rfl)) (qg_cons (pg_name (i := 3) sc__law_same.nd rfl (by first | exact Or.inl rfl | exact Or.inr rfl)) (qg_nil)))) (fun _ _ _ _ _ => qts_nil) (fun _ _ _ _ _ => pg_call mono_D ih hr (by rfl) T.m__law_same T.F__law_same.kp T.B__law_same takes0 (qa_cons (pv_n 2) (qa_cons (pv_n 3) (qa_nil)))))) (qa_nil)))))) (z_nil))
    (z_cons (z_if (qt_v (pv_isi (by rfl) T.b_isinstance (by rfl) T.b_str (by decide +kernel) (pv_n 1))) (z_one (z_ret (pv_and (pv_isi (by rfl) T.b_isinstance (by rfl) T.b_str (by decide +kernel) (pv_n 0)) (pv_one (pv_cmp (o_eq hr.units) g_eq (pv_n 0) (pv_n 1) (nomark _)))))) (z_nil))
    (z_one (z_ret (pv_and (pv_isi (by rfl) T.b_isinstance (by rfl) T.b_int (by decide +kernel) (pv_n 0)) (pv_and (pv_not (pv_isi (by rfl) T.b_isinstance (by rfl) T.b_bool (by decide +kernel) (pv_n 0))) (pv_one (pv_cmp (o_eq hr.units) g_eq (pv_n 0) (pv_n 1) (nomark _)))))))))))
theorem ok__law_board (T : Tops K mg A) : FnOk P w K mg base (L2.CX P w) 2 A.a__law_board A.d__law_board ["_law_script", "_law_begin"] (spD K mg f__law_board) := by
  have G__law_cell := ok__law_cell (P := P) (w := w) (base := base) T
  have G__law_d := ok__law_d (P := P) (w := w) (base := base) T
  exact fn_D (k := 1) (g := s__law_board) T.F__law_board sc__law_board rfl rfl fun cdv A' outer s H E hr tk hp => (z_cons (z_set (i := 2) sc__law_board.nd rfl (Or.inl rfl) (pg_call mono_D G__law_cell (hr.mono (by decide)) (by rfl) T.m__law_cell T.F__law_cell.kp T.B__law_cell tk (qa_cons (pv_n 0) (qa_cons (pv_n 1) (qa_nil)))))
    (z_cons (z_set (i := 3) sc__law_board.nd rfl (Or.inl rfl) (pv_ix (pv_l (pl_lst (qa_cons (pv_int) (qa_cons (pv_int) (qa_cons (pv_int) (qa_cons (pv_int) (qa_cons (pv_int) (qa_cons (pv_int) (qa_cons (pv_int) (qa_cons (pv_int) (qa_nil))))))))))) (pg_call mono_D G__law_d (hr.mono (by decide)) (by rfl) T.m__law_d T.F__law_d.kp T.B__law_d tk (qa_cons (pv_n 2) (qa_cons (pv_int) (qa_cons (pv_int) (qa_nil)))))))
    (z_cons (z_set (i := 4) sc__law_board.nd rfl (Or.inl rfl) (pv_ix (pv_l (pl_lst (qa_cons (pv_int) (qa_cons (pv_int) (qa_cons (pv_int) (qa_cons (pv_int) (qa_cons (pv_int) (qa_cons (pv_int) (qa_cons (pv_int) (qa_cons (pv_int) (qa_nil))))))))))) (pg_call mono_D G__law_d (hr.mono (by decide)) (by rfl) T.m__law_d T.F__law_d.kp T.B__law_d tk (qa_cons (pv_n 2) (qa_cons (pv_int) (qa_cons (pv_int) (qa_nil)))))))
    (z_cons (z_set (i := 5) sc__law_board.nd rfl (Or.inl rfl) (pv_ix (pv_l (pl_lst (qa_cons (pv_str) (qa_cons (pv_str) (qa_cons (pv_str) (qa_cons (pv_str) (qa_cons (pv_str) (qa_cons (pv_str) (qa_nil))))))))) (pg_call mono_D G__law_d (hr.mono (by decide)) (by rfl) T.m__law_d T.F__law_d.kp T.B__law_d tk (qa_cons (pv_n 2) (qa_cons (pv_int) (qa_cons (pv_int) (qa_nil)))))))
    (z_cons (z_set (i := 6) sc__law_board.nd rfl (Or.inl rfl) (pv_tup (qa_nil)))
    (z_cons (z_fg [2, 3, 4, 5, 7, 8, 9, 10, 11, 12, 13] (z_for hp rfl (i_rng1 (by rfl) T.b_range (qa_cons (pv_n 3) (qa_nil))) (q_name (i := 7) sc__law_board.nd rfl (Or.inl rfl)) (zs_fg [7, 8, 9, 10, 11, 12, 13] (z_cons (z_set (i := 8) sc__law_board.nd rfl (Or.inl rfl) (pg_call mono_D G__law_cell (hr.mono (by decide)) (by rfl) T.m__law_cell T.F__law_cell.kp T.B__law_cell tk (qa_cons (pv_n 0) (qa_cons (pg_bin mono_D o_add g_add (pg_bin mono_D o_add g_add (pv_n 1) (pv_int)) (pg_bin mono_D op_mod g_mod (pv_n 7) (pv_int))) (qa_nil)))))
    (z_cons (z_fg [7] (z_set (i := 8) sc__law_board.nd rfl (Or.inl rfl) (pg_bin mono_D o_add g_add (pg_bin mono_D op_fdiv g_fdiv (pv_n 8) (pg_bin mono_D o_add g_add (pg_bin mono_D o_mul g_mul (pg_bin mono_D op_fdiv g_fdiv (pv_n 7) (pv_int)) (pv_int)) (pv_int))) (pg_bin mono_D o_mul g_mul (pg_bin mono_D op_fdiv g_fdiv (pv_n 2) (pv_int)) (pv_n 7)))))
    (z_cons (z_set (i := 9) sc__law_board.nd rfl (Or.inl rfl) (pg_bin mono_D o_add g_add (pg_bin mono_D op_mod g_mod (pg_bin mono_D op_fdiv g_fdiv (pv_n 8) (pv_int)) (pv_int)) (pv_int)))
    (z_cons (z_set (i := 10) sc__law_board.nd rfl (Or.inl rfl) (pg_bin mono_D op_mod g_mod (pg_bin mono_D op_fdiv g_fdiv (pv_n 8) (pv_int)) (pv_int)))
    (z_cons (z_set (i := 11) sc__law_board.nd rfl (Or.inl rfl) (pv_str))
    (z_cons (z_fg [8, 9, 10, 12, 13] (z_for hp rfl (i_rng1 (by rfl) T.b_range (qa_cons (pv_n 4) (qa_nil))) (q_name (i := 12) sc__law_board.nd rfl (Or.inl rfl)) (zs_fg [12, 13] (z_cons (z_fg [12] (z_set (i := 13) sc__law_board.nd rfl (Or.inl rfl) (pg_bin mono_D o_add g_add (pg_bin mono_D o_add g_add (pv_n 8) (pg_bin mono_D o_mul g_mul (pv_n 12) (pv_n 9))) (pg_bin mono_D o_mul g_mul (pg_bin mono_D o_mul g_mul (pv_n 12) (pv_n 12)) (pv_n 10)))))
    (z_one (z_fg [13] (z_set (i := 11) sc__law_board.nd rfl (Or.inl rfl) (pg_bin mono_D o_add g_add (pv_n 11) (pv_ix (pv_n 5) (pg_bin mono_D op_mod g_mod (pv_n 13) (pg_callB mono_D call_len g_len (by rfl) T.b_len (by decide +kernel) (qa_cons (pv_n 5) (qa_nil)))))))))))))
    (z_one (z_fg [11] (z_set (i := 6) sc__law_board.nd rfl (Or.inl rfl) (pg_bin mono_D o_add g_add (pv_n 6) (pv_tup (qa_cons (pv_n 11) (qa_nil))))))))))))))))
    (z_one (z_ret (pv_n 6)))))))))
theorem ok__law_start (T : Tops K mg A) : FnOk P w K mg base (L2.CX P w) 1 A.a__law_start A.d__law_start ["_law_high", "_law_wide"] (spD K mg f__law_start) := by
  exact fn_D (k := 0) (g := s__law_start) T.F__law_start sc__law_start rfl rfl fun cdv A' outer s H E hr tk hp => (z_cons (z_setL (i := 2) sc__law_start.nd rfl (Or.inl rfl) (pl_lst (qa_nil)))
    (z_cons (z_fg [3, 4, 5, 6] (z_for hp rfl (i_rng1 (by rfl) T.b_range (qa_cons (pv_n 0) (qa_nil))) (q_name (i := 3) sc__law_start.nd rfl (Or.inl rfl)) (zs_fg [3, 4, 5, 6] (z_cons (z_set (i := 4) sc__law_start.nd rfl (Or.inl rfl) (pv_str))
    (z_cons (z_fg [3, 5, 6] (z_for hp rfl (i_rng1 (by rfl) T.b_range (qa_cons (pv_n 1) (qa_nil))) (q_name (i := 5) sc__law_start.nd rfl (Or.inl rfl)) (zs_fg [5, 6] (z_cons (z_set (i := 6) sc__law_start.nd rfl (Or.inl rfl) (pv_str))
    (z_cons (z_fg [5] (z_if (qt_w (qw_and (qt_cmp (o_in (hu65 hr)) g_in (pg_bin mono_D op_sub g_sub (pv_n 3) (pg_bin mono_D op_fdiv g_fdiv (pv_n 0) (pv_int))) (pv_tup (qa_cons (pv_un un_neg g_neg (pv_int)) (qa_cons (pv_int) (qa_nil)))) (by rfl)) (qw_and1 (qt_cmp (o_in (hu65 hr)) g_in (pg_bin mono_D op_sub g_sub (pv_n 5) (pg_bin mono_D op_fdiv g_fdiv (pv_n 1) (pv_int))) (pv_tup (qa_cons (pv_un un_neg g_neg (pv_int)) (qa_cons (pv_int) (qa_nil)))) (by rfl))))) (z_cons (z_set (i := 6) sc__law_start.nd rfl (Or.inl rfl) (pv_str))
    (z_one (z_fg [5] (z_if (qt_cmp (o_eq hr.units) g_eq (pg_bin mono_D op_sub g_sub (pv_n 3) (pg_bin mono_D op_fdiv g_fdiv (pv_n 0) (pv_int))) (pg_bin mono_D op_sub g_sub (pv_n 5) (pg_bin mono_D op_fdiv g_fdiv (pv_n 1) (pv_int))) (nomark _)) (z_one (z_set (i := 6) sc__law_start.nd rfl (Or.inl rfl) (pv_str))) (z_nil))))) (z_nil)))
    (z_one (z_fg [6] (z_set (i := 4) sc__law_start.nd rfl (Or.inl rfl) (pg_bin mono_D o_add g_add (pv_n 4) (pv_n 6))))))))))
    (z_one (z_fg [4] (z_app 2 (he := pv_n 4)))))))))
    (z_one (z_frz 2 (z_ret (pg_callT mono_D call_tuple_of g_tuple (by rfl) T.b_tuple (by decide +kernel) (qa_cons (pv_n 2) (qa_nil))))))))
theorem ok_law (T : Tops K mg A) : FnOk P w K mg base (L2.CX P w) 9 A.a_law A.d_law ["_law_script"] (spD K mg f_law) := by
  have G__law_board := ok__law_board (P := P) (w := w) (base := base) T
  have G__law_cell := ok__law_cell (P := P) (w := w) (base := base) T
  have G__law_same := ok__law_same (P := P) (w := w) (base := base) T fuel__law_same
  have G__law_start := ok__law_start (P := P) (w := w) (base := base) T
  have G_counts := ok_counts (P := P) (w := w) (base := base) T
  have G_score := ok_score (P := P) (w := w) (base := base) T
  have G_start := ok_start (P := P) (w := w) (base := base) T
  exact fn_D (k := 8) (g := s_law) T.F_law sc_law rfl rfl fun cdv A' outer s H E hr tk hp => (z_cons (z_fg [1, 3] (z_for hp rfl (i_rng2 (by rfl) T.b_range (qa_cons (pv_int) (qa_cons (pv_int) (qa_nil)))) (q_name (i := 1) sc_law.nd rfl (Or.inl rfl)) (zs_fg [1, 3] (z_cons (z_set (i := 3) sc_law.nd rfl (Or.inl rfl) (pg_bin mono_D o_add g_add (pg_bin mono_D op_mod g_mod (pg_call mono_D G__law_cell (hr.mono (by decide)) (by rfl) T.m__law_cell T.F__law_cell.kp T.B__law_cell tk (qa_cons (pv_n 0) (qa_cons (pv_n 1) (qa_nil)))) (pv_int)) (pv_int)))
    (z_one (z_fg [1, 3] (z_if (qt_not (qt_v (pg_call mono_D G__law_same (hr.mono (by decide)) (by rfl) T.m__law_same T.F__law_same.kp T.B__law_same tk (qa_cons (pg_call mono_D G_start (hr.mono (by decide)) (by rfl) T.m_start T.F_start.kp T.B_start tk (qa_cons (pv_n 1) (qa_cons (pv_n 3) (qa_nil)))) (qa_cons (pg_call mono_D G__law_start (hr.mono (by decide)) (by rfl) T.m__law_start T.F__law_start.kp T.B__law_start tk (qa_cons (pv_n 1) (qa_cons (pv_n 3) (qa_nil)))) (qa_nil)))))) (z_one (z_ret (pv_bl))) (z_nil))))))))
    (z_cons (z_fg [2, 4, 5, 6, 7, 8, 9] (z_for hp rfl (i_any (pv_tup (qa_cons (pv_int) (qa_cons (pv_int) (qa_cons (pv_int) (qa_nil)))))) (q_name (i := 2) sc_law.nd rfl (Or.inl rfl)) (zs_fg [2, 4, 5, 6, 7, 8, 9] (z_cons (z_fg [2] (z_set (i := 4) sc_law.nd rfl (Or.inl rfl) (pg_call mono_D G__law_board (hr.mono (by decide)) (by rfl) T.m__law_board T.F__law_board.kp T.B__law_board tk (qa_cons (pv_n 0) (qa_cons (pv_n 2) (qa_nil))))))
    (z_cons (z_set (i := 5) sc_law.nd rfl (Or.inl rfl) (pv_join (pv_str) (pv_n 4)))
    (z_cons (z_set (i := 6) sc_law.nd rfl (Or.inl rfl) (pv_count (pv_n 5) (pv_str)))
    (z_cons (z_set (i := 7) sc_law.nd rfl (Or.inl rfl) (pv_count (pv_n 5) (pv_str)))
    (z_cons (z_fg [5] (z_set (i := 8) sc_law.nd rfl (Or.inl rfl) (pv_count (pv_n 5) (pv_str))))
    (z_cons (z_if (qt_not (qt_v (pg_call mono_D G__law_same (hr.mono (by decide)) (by rfl) T.m__law_same T.F__law_same.kp T.B__law_same tk (qa_cons (pg_call mono_D G_counts (hr.mono (by decide)) (by rfl) T.m_counts T.F_counts.kp T.B_counts tk (qa_cons (pv_n 4) (qa_nil))) (qa_cons (pv_tup (qa_cons (pv_n 6) (qa_cons (pv_n 7) (qa_cons (pv_n 8) (qa_nil))))) (qa_nil)))))) (z_one (z_ret (pv_bl))) (z_nil))
    (z_cons (z_set (i := 9) sc_law.nd rfl (Or.inl rfl) (pv_tup (qa_cons (pv_n 6) (qa_cons (pv_n 7) (qa_nil)))))
    (z_cons (z_if (qt_cmp op_gt g_gt (pv_n 6) (pv_n 7) (nomark _)) (z_one (z_set (i := 9) sc_law.nd rfl (Or.inl rfl) (pv_tup (qa_cons (pg_bin mono_D o_add g_add (pv_n 6) (pv_n 8)) (qa_cons (pv_n 7) (qa_nil)))))) (z_nil))
    (z_cons (z_fg [6, 7, 8] (z_if (qt_cmp op_lt g_lt (pv_n 6) (pv_n 7) (nomark _)) (z_one (z_fg [6, 7, 8] (z_set (i := 9) sc_law.nd rfl (Or.inl rfl) (pv_tup (qa_cons (pv_n 6) (qa_cons (pg_bin mono_D o_add g_add (pv_n 7) (pv_n 8)) (qa_nil))))))) (z_nil)))
    (z_one (z_fg [4, 9] (z_if (qt_not (qt_v (pg_call mono_D G__law_same (hr.mono (by decide)) (by rfl) T.m__law_same T.F__law_same.kp T.B__law_same tk (qa_cons (pg_call mono_D G_score (hr.mono (by decide)) (by rfl) T.m_score T.F_score.kp T.B_score tk (qa_cons (pv_n 4) (qa_nil))) (qa_cons (pv_n 9) (qa_nil)))))) (z_one (z_ret (pv_bl))) (z_nil))))))))))))))))
    (z_one (z_ret (pv_bl)))))
end
end Lk02

namespace Lk02
open PySem PySem.Spec PyProof.Rows L2 PL
theorem cell_ok (ns : List Int) (k : Int) (hk : 0 ≤ k) : ∃ c, f__law_cell [.list (ns.map .int), .int k] = .ok (.int c) := by
  by_cases h : k < (ns.length : Int)
  · obtain ⟨c, _, hc⟩ := atI_mem hk h
    refine ⟨c, fnD_rt rfl ?_⟩
    simp [s__law_cell, h, atI_map, hc]
  · refine ⟨0, fnD_rt rfl ?_⟩
    simp [s__law_cell, h]
theorem d_ok (c p m : Int) (hm : 0 < m) : ∃ r, f__law_d [.int c, .int p, .int m] = .ok (.int r) ∧ 0 ≤ r ∧ r < m := by
  suffices h : ∃ r, s__law_d [some (.v (.int c)), some (.v (.int p)), some (.v (.int m)), none] = .rt (.int r) ∧ 0 ≤ r ∧ r < m by
    obtain ⟨r, h1, h2⟩ := h
    exact ⟨r, fnD_rt rfl h1, h2⟩
  simp -implicitDefEqProofs (disch := omega) [s__law_d]
  exact ⟨Int.emod_nonneg _ (by omega), Int.emod_lt_of_pos _ hm⟩
theorem same_sc (n : Nat) : ∀ d, isSc d = true → f__law_same (n + 1) [d, d] = .ok (.bool true)
  | .none, _ => fnD_rt rfl (by simp [s__law_same])
  | .bool b, _ => fnD_rt rfl (by simp [s__law_same])
  | .int b, _ => fnD_rt rfl (by simp [s__law_same])
  | .str b, _ => fnD_rt rfl (by simp [s__law_same])
  | .list _, h => by cases h
  | .tuple _, h => by cases h
  | .dict _, h => by cases h
theorem same_ok : ∀ n d, Gd n d → f__law_same (n + 1) [d, d] = .ok (.bool true)
  | 0, d, h => same_sc 0 d h
  | n + 1, d, h => by
    rcases h with h | ⟨ds, rfl, hl, hd⟩
    · exact same_sc (n + 1) d h
    · refine fnD_rt rfl ?_
      simp [s__law_same, zip_self, hl]
      rw [lcGo_map (fun d => PyData.tuple [d, d]) (fun _ => true) (fun _ => PyData.bool true) ds]
      · simp [all_true]
      · intro x hx
        refine ⟨_, rfl, rfl, fun _ => ?_⟩
        simp [e_law_same_1, same_ok n x (hd x hx)]
theorem high_ok {r : Int} (h0 : 0 ≤ r) (h8 : r < 8) : ∃ w : Nat, atI [PyData.int 4, .int 3, .int 5, .int 6, .int 8, .int 1, .int 4, .int 7] r = some (.int w) ∧ 1 ≤ w ∧ w ≤ 8 := by
  obtain ⟨x, hx, e⟩ := atI_mem (xs := [PyData.int 4, .int 3, .int 5, .int 6, .int 8, .int 1, .int 4, .int 7]) h0 h8
  rw [e]
  simp at hx
  rcases hx with rfl | rfl | rfl | rfl | rfl | rfl | rfl | rfl
  · exact ⟨4, rfl, by omega, by omega⟩
  · exact ⟨3, rfl, by omega, by omega⟩
  · exact ⟨5, rfl, by omega, by omega⟩
  · exact ⟨6, rfl, by omega, by omega⟩
  · exact ⟨8, rfl, by omega, by omega⟩
  · exact ⟨1, rfl, by omega, by omega⟩
  · exact ⟨4, rfl, by omega, by omega⟩
  · exact ⟨7, rfl, by omega, by omega⟩
theorem wide_ok {r : Int} (h0 : 0 ≤ r) (h8 : r < 8) : ∃ w : Nat, atI [PyData.int 4, .int 5, .int 3, .int 6, .int 8, .int 8, .int 2, .int 7] r = some (.int w) ∧ 1 ≤ w ∧ w ≤ 8 := by
  obtain ⟨x, hx, e⟩ := atI_mem (xs := [PyData.int 4, .int 5, .int 3, .int 6, .int 8, .int 8, .int 2, .int 7]) h0 h8
  rw [e]
  simp at hx
  rcases hx with rfl | rfl | rfl | rfl | rfl | rfl | rfl
  · exact ⟨4, rfl, by omega, by omega⟩
  · exact ⟨5, rfl, by omega, by omega⟩
  · exact ⟨3, rfl, by omega, by omega⟩
  · exact ⟨6, rfl, by omega, by omega⟩
  · exact ⟨8, rfl, by omega, by omega⟩
  · exact ⟨2, rfl, by omega, by omega⟩
  · exact ⟨7, rfl, by omega, by omega⟩
def signsL : List (List Nat) := [[46, 46, 120, 111], [46, 120, 111], [120, 120, 111, 111, 46], [120, 111, 46, 35, 46, 111, 120], [120, 46, 111], [46, 46, 46, 46, 46, 120, 111]]
theorem signs_ok {r : Int} (h0 : 0 ≤ r) (h8 : r < 6) : ∃ s : List Nat, atI [PyData.str (Str.ofString "..xo"), .str (Str.ofString ".xo"), .str (Str.ofString "xxoo."), .str (Str.ofString "xo.#.ox"), .str (Str.ofString "x.o"), .str (Str.ofString ".....xo")] r = some (rowD s) ∧ 1 ≤ s.length ∧ s.length ≤ 7 ∧ ∀ c ∈ s, Sg c := by
  rw [show [PyData.str (Str.ofString "..xo"), .str (Str.ofString ".xo"), .str (Str.ofString "xxoo."), .str (Str.ofString "xo.#.ox"), .str (Str.ofString "x.o"), .str (Str.ofString ".....xo")] = signsL.map rowD by rfl, atI_map]
  obtain ⟨x, hx, e⟩ := atI_mem (xs := signsL) h0 h8
  rw [e]
  refine ⟨x, rfl, ?_⟩
  simp [signsL] at hx
  rcases hx with rfl | rfl | rfl | rfl | rfl | rfl <;> simp [Sg]
theorem board1_ok {e0 e1 e2 e3 e4 e7 : Option Sl} {s r : List Nat} {k : Nat} {code step curve : Int} {rows : D} (hs : 1 ≤ s.length) (hs7 : s.length ≤ 7) (hk : k < 8) (hr : r.length = k) (h1 : ∀ c ∈ r, Sg c) (h2 : ∀ c ∈ s, Sg c) :
    ∃ r' : List Nat, r'.length = k + 1 ∧ (∀ c ∈ r', Sg c) ∧
    b_law_board_1 [e0, e1, e2, e3, e4, some (.v (rowD s)), some (.v rows), e7, some (.v (.int code)), some (.v (.int step)), some (.v (.int curve)), some (.v (rowD r)), some (.v (.int k)), none] = .nx [e0, e1, e2, e3, e4, some (.v (rowD s)), some (.v rows), e7, some (.v (.int code)), some (.v (.int step)), some (.v (.int curve)), some (.v (rowD r')), none, none] := by
  have hq := fun x => Int.emod_nonneg x (b := (s.length : Int)) (by omega)
  have hq2 := fun x => Int.emod_lt_of_pos x (b := (s.length : Int)) (by omega)
  obtain ⟨c, hc, ec⟩ := atI_mem (xs := s) (hq (code + ↑k * step + ↑k * ↑k * curve)) (hq2 _)
  have hk' : (k : Int) * k < 64 := by
    have h1 : (k : Int) * k ≤ 8 * k := Int.mul_le_mul_of_nonneg_right (by omega) (by omega)
    omega
  have hk0 : 0 ≤ (k : Int) * k := Int.mul_nonneg (by omega) (by omega)
  refine ⟨r ++ [c], by simp [hr], ?_, ?_⟩
  · intro d hd
    rcases List.mem_append.1 hd with hd | hd
    · exact h1 d hd
    · rw [List.mem_singleton.1 hd]; exact h2 c hc
  · simp -implicitDefEqProofs (disch := first | omega | (simp only [List.length_cons, List.length_nil]; omega)) [b_law_board_1, ec]
theorem board1_loop {e0 e1 e2 e3 e4 e7 : Option Sl} {s : List Nat} {w : Nat} {code step curve : Int} {rows : D} (hs : 1 ≤ s.length) (hs7 : s.length ≤ 7) (hw : w ≤ 8) (h2 : ∀ c ∈ s, Sg c) :
    ∃ r' : List Nat, r'.length = w ∧ (∀ c ∈ r', Sg c) ∧
    forGo (.n 12) b_law_board_1 ((List.range w).map fun i : Nat => PyData.int i) [e0, e1, e2, e3, e4, some (.v (rowD s)), some (.v rows), e7, some (.v (.int code)), some (.v (.int step)), some (.v (.int curve)), some (.v (rowD [])), none, none] = .nx [e0, e1, e2, e3, e4, some (.v (rowD s)), some (.v rows), e7, some (.v (.int code)), some (.v (.int step)), some (.v (.int curve)), some (.v (rowD r')), none, none] := by
  obtain ⟨e, h, r, rfl, h3, h4⟩ := forGo_inv (tg := .n 12) (g := b_law_board_1) (fun k env => ∃ r : List Nat, env = [e0, e1, e2, e3, e4, some (.v (rowD s)), some (.v rows), e7, some (.v (.int code)), some (.v (.int step)), some (.v (.int curve)), some (.v (rowD r)), none, none] ∧ r.length = k ∧ ∀ c ∈ r, Sg c)
    ((List.range w).map fun i : Nat => PyData.int i) 0 _ ⟨[], rfl, rfl, by simp⟩ (by
      rintro i d env hd ⟨r, rfl, hr, h1⟩
      obtain ⟨rfl, hi⟩ := range_get hd
      rw [Nat.zero_add] at hr
      obtain ⟨r', h5, h6, h7⟩ := board1_ok (e0 := e0) (e1 := e1) (e2 := e2) (e3 := e3) (e4 := e4) (e7 := e7) (s := s) (r := r) (k := i) (code := code) (step := step) (curve := curve) (rows := rows) hs hs7 (by omega) hr h1 h2
      exact ⟨_, _, rfl, .inl h7, r', rfl, by omega, h6⟩)
  exact ⟨r, by simpa using h3, h4, h⟩
theorem board2_ok {ns : List Int} {b : Int} {e3 : Option Sl} {s : List Nat} {B : List (List Nat)} {k w : Nat} {cell : Int} (hb : 0 ≤ b) (hs : 1 ≤ s.length) (hs7 : s.length ≤ 7) (hk : k < 8) (hw : w ≤ 8) (hB : B.length = k) (h1 : ∀ r ∈ B, r.length = w) (h3 : ∀ r ∈ B, ∀ c ∈ r, Sg c) (h2 : ∀ c ∈ s, Sg c) :
    ∃ B' : List (List Nat), B'.length = k + 1 ∧ (∀ r ∈ B', r.length = w) ∧ (∀ r ∈ B', ∀ c ∈ r, Sg c) ∧
    b_law_board_2 [some (.v (.list (ns.map .int))), some (.v (.int b)), some (.v (.int cell)), e3, some (.v (.int w)), some (.v (rowD s)), some (.v (bdD B)), some (.v (.int k)), none, none, none, none, none, none] =
      .nx [some (.v (.list (ns.map .int))), some (.v (.int b)), some (.v (.int cell)), e3, some (.v (.int w)), some (.v (rowD s)), some (.v (bdD B')), none, none, none, none, none, none, none] := by
  obtain ⟨code, hc⟩ := cell_ok ns (b + 1 + (k : Int) % 5) (by omega)
  simp -implicitDefEqProofs (disch := omega) [b_law_board_2, hc]
  obtain ⟨r', h5, h6, h7⟩ := board1_loop (e0 := some (.v (.list (ns.map .int)))) (e1 := some (.v (.int b))) (e2 := some (.v (.int cell))) (e3 := e3) (e4 := some (.v (.int w))) (e7 := none) (rows := bdD B)
    (code := code / (↑k / 5 * 7 + 1) + cell / 384 * ↑k) (step := (code / (↑k / 5 * 7 + 1) + cell / 384 * ↑k) / 97 % 11 + 1) (curve := (code / (↑k / 5 * 7 + 1) + cell / 384 * ↑k) / 1067 % 3) hs hs7 hw h2
  refine ⟨B ++ [r'], by simp [hB], ?_, ?_, ?_⟩
  · intro r hr
    rcases List.mem_append.1 hr with hr | hr
    · exact h1 r hr
    · rw [List.mem_singleton.1 hr]; exact h5
  · intro r hr
    rcases List.mem_append.1 hr with hr | hr
    · exact h3 r hr
    · rw [List.mem_singleton.1 hr]; exact h6
  · have e : PyData.tuple [rowD r'] = bdD [r'] := rfl
    simp -implicitDefEqProofs (disch := first | omega | (simp only [List.length_cons, List.length_nil]; omega)) [h7, e]
theorem board2_loop {ns : List Int} {b : Int} {s : List Nat} {w : Nat} {h : Nat} {cell : Int} (hb : 0 ≤ b) (hs : 1 ≤ s.length) (hs7 : s.length ≤ 7) (hh1 : 1 ≤ h) (hh : h ≤ 8) (hw1 : 1 ≤ w) (hw : w ≤ 8) (h2 : ∀ c ∈ s, Sg c) :
    ∃ B : List (List Nat), OkB B ∧
    forGo (.n 7) b_law_board_2 ((List.range h).map fun i : Nat => PyData.int i) [some (.v (.list (ns.map .int))), some (.v (.int b)), some (.v (.int cell)), some (.v (.int h)), some (.v (.int w)), some (.v (rowD s)), some (.v (bdD [])), none, none, none, none, none, none, none] =
      .nx [some (.v (.list (ns.map .int))), some (.v (.int b)), some (.v (.int cell)), some (.v (.int h)), some (.v (.int w)), some (.v (rowD s)), some (.v (bdD B)), none, none, none, none, none, none, none] := by
  obtain ⟨e, h, B, rfl, h3, h4, h5⟩ := forGo_inv (tg := .n 7) (g := b_law_board_2) (fun k env => ∃ B : List (List Nat), env = [some (.v (.list (ns.map .int))), some (.v (.int b)), some (.v (.int cell)), some (.v (.int h)), some (.v (.int w)), some (.v (rowD s)), some (.v (bdD B)), none, none, none, none, none, none, none] ∧ B.length = k ∧ (∀ r ∈ B, r.length = w) ∧ ∀ r ∈ B, ∀ c ∈ r, Sg c)
    ((List.range h).map fun i : Nat => PyData.int i) 0 _ ⟨[], rfl, rfl, by simp, by simp⟩ (by
      rintro i d env hd ⟨B, rfl, hr, h1, h3⟩
      obtain ⟨rfl, hi⟩ := range_get hd
      rw [Nat.zero_add] at hr
      obtain ⟨B', h5, h6, h7, h8⟩ := board2_ok (ns := ns) (b := b) (e3 := some (.v (.int h))) (s := s) (B := B) (k := i) (w := w) (cell := cell) hb hs hs7 (by omega) hw hr h1 h3 h2
      exact ⟨_, _, rfl, .inl h8, B', rfl, by omega, h6, h7⟩)
  simp at h3
  exact ⟨B, ⟨by omega, by omega, ⟨w, hw1, hw, h4⟩, h5⟩, h⟩
theorem board_ok (ns : List Int) (b : Int) (hb : 0 ≤ b) : ∃ B, OkB B ∧ f__law_board [.list (ns.map .int), .int b] = .ok (bdD B) := by
  obtain ⟨cell, hc⟩ := cell_ok ns b hb
  obtain ⟨d1, hd1, p1, q1⟩ := d_ok cell 1 8 (by omega)
  obtain ⟨d2, hd2, p2, q2⟩ := d_ok cell 8 8 (by omega)
  obtain ⟨d3, hd3, p3, q3⟩ := d_ok cell 64 6 (by omega)
  obtain ⟨h, eh, h1, h8⟩ := high_ok p1 q1
  obtain ⟨w, ew, w1, w8⟩ := wide_ok p2 q2
  obtain ⟨s, es, s1, s7, sg⟩ := signs_ok p3 q3
  obtain ⟨B, hB, hl⟩ := board2_loop (ns := ns) (b := b) (s := s) (w := w) (h := h) (cell := cell) hb s1 s7 h1 h8 w1 w8 sg
  refine ⟨B, hB, fnD_rt rfl ?_⟩
  have e0 : PyData.tuple [] = bdD [] := rfl
  simp -implicitDefEqProofs (disch := omega) [s__law_board, hc, hd1, hd2, hd3, eh, ew]
  rw [es]
  simp -implicitDefEqProofs (disch := omega) [e0, hl]
theorem cells1 {c i : Nat} {e0 e4 : Option Sl} : ∀ (r : List Nat) (k : Nat) (fd : List (Nat × Nat)), fd.length + r.length ≤ 16777216 →
    forGo (.t [5, 6]) b_cells_of_1 (enumD k (r.map fun c => rowD [c])) [e0, some (.v (rowD [c])), some (.l (fd.map posD)), some (.v (.int i)), e4, none, none] =
      .nx [e0, some (.v (rowD [c])), some (.l ((fd ++ rowCells c i k r).map posD)), some (.v (.int i)), e4, none, none]
  | [], k, fd, _ => by simp [rowCells]
  | d :: r, k, fd, h => by
    rw [List.length_cons] at h
    rw [List.map_cons, enumD_cons, forGo_cons]
    by_cases hd : d = c
    · have ih := cells1 (c := c) (i := i) (e0 := e0) (e4 := e4) r (k + 1) (fd ++ [(i, k)]) (by rw [List.length_append]; simp; omega)
      have e : (fd.map posD).length < 16777216 := by rw [List.length_map]; omega
      rw [List.map_append] at ih
      simp -implicitDefEqProofs [b_cells_of_1, hd, e] at ih ⊢
      rw [if_pos (by omega)]
      simp -implicitDefEqProofs [ih, rowCells]
    · have ih := cells1 (c := c) (i := i) (e0 := e0) (e4 := e4) r (k + 1) fd (by omega)
      simp -implicitDefEqProofs [b_cells_of_1, hd] at ih ⊢
      simp -implicitDefEqProofs [ih, rowCells, hd]
theorem cells2 {c : Nat} {e0 : Option Sl} : ∀ (B : List (List Nat)) (i : Nat) (fd : List (Nat × Nat)), fd.length + B.flatten.length ≤ 16777216 →
    forGo (.t [3, 4]) b_cells_of_2 (enumD i (B.map rowD)) [e0, some (.v (rowD [c])), some (.l (fd.map posD)), none, none, none, none] =
      .nx [e0, some (.v (rowD [c])), some (.l ((fd ++ cells c i B).map posD)), none, none, none, none]
  | [], i, fd, _ => by simp [cells]
  | r :: B, i, fd, h => by
    rw [List.flatten_cons, List.length_append] at h
    have hl : (rowCells c i 0 r).length ≤ r.length := by rw [rowCells_len]; exact List.count_le_length
    have ih := cells2 (c := c) (e0 := e0) B (i + 1) (fd ++ rowCells c i 0 r) (by rw [List.length_append]; omega)
    have h1 := cells1 (c := c) (i := i) (e0 := e0) (e4 := some (.v (rowD r))) r 0 fd (by omega)
    rw [List.map_cons, enumD_cons, forGo_cons]
    simp -implicitDefEqProofs [b_cells_of_2] at h1 ih ⊢
    simp -implicitDefEqProofs [h1, ih, cells]
theorem cells_ok {c : Nat} {B : List (List Nat)} (h : B.flatten.length ≤ 16777216) : f_cells_of [bdD B, rowD [c]] = .ok (.tuple ((cells c 0 B).map posD)) := by
  refine fnD_rt rfl ?_
  have h1 := cells2 (c := c) (e0 := some (.v (bdD B))) B 0 [] (by simpa using h)
  simp at h1
  simp -implicitDefEqProofs [s_cells_of, h1]
theorem counts_ok {B : List (List Nat)} (h : B.flatten.length ≤ 16777216) : f_counts [bdD B] = .ok (.tuple [.int (B.flatten.count 120 : Nat), .int (B.flatten.count 111 : Nat), .int (B.flatten.count 46 : Nat)]) := by
  refine fnD_rt rfl ?_
  have h1 := lcGo_map (tg := .n 1) (c := sK true) (f := e_counts_1) (env := [some (.v (bdD B)), none]) (fun c => rowD [c]) (fun _ => true) (fun c => PyData.int (B.flatten.count c : Nat)) [120, 111, 46] (by
    intro c _
    refine ⟨_, rfl, rfl, fun _ => ?_⟩
    simp -implicitDefEqProofs [e_counts_1, cells_ok h, cells_len])
  simp at h1
  simp -implicitDefEqProofs [s_counts, h1]
theorem score_ok {B : List (List Nat)} (h : B.flatten.length ≤ 16777216) {x o e : Nat} (hx : B.flatten.count 120 = x) (ho : B.flatten.count 111 = o) (he : B.flatten.count 46 = e) :
    f_score [bdD B] = .ok (if o < x then .tuple [.int (x + e : Nat), .int o] else if x < o then .tuple [.int x, .int (o + e : Nat)] else .tuple [.int x, .int o]) := by
  have hc := counts_ok h
  rw [hx, ho, he] at hc
  refine fnD_rt rfl ?_
  by_cases h1 : o < x
  · simp -implicitDefEqProofs [s_score, hc, h1]
  · by_cases h2 : x < o
    · simp -implicitDefEqProofs [s_score, hc, h1, h2]
    · simp -implicitDefEqProofs [s_score, hc, h1, h2]
theorem chk_all : ((List.range 7).all fun h => (List.range 7).all fun w => isAlike (f_start [.int ((h + 2 : Nat) : Int), .int ((w + 2 : Nat) : Int)]) (f__law_start [.int ((h + 2 : Nat) : Int), .int ((w + 2 : Nat) : Int)]) (f__law_same 8)) = true := by decide +kernel
theorem start_ok {h w : Nat} (hh : h < 7) (hw : w < 7) : ∃ a b, f_start [.int ((h + 2 : Nat) : Int), .int ((w + 2 : Nat) : Int)] = .ok a ∧ f__law_start [.int ((h + 2 : Nat) : Int), .int ((w + 2 : Nat) : Int)] = .ok b ∧ f__law_same 8 [a, b] = .ok (.bool true) := by
  have h1 := List.all_eq_true.1 (List.all_eq_true.1 chk_all h (List.mem_range.2 hh)) w (List.mem_range.2 hw)
  exact isAlike_ok h1
theorem gd3 (a b c : Int) : Gd 7 (.tuple [.int a, .int b, .int c]) := .inr ⟨_, rfl, by simp, by simp; exact ⟨.sc _ rfl, .sc _ rfl, .sc _ rfl⟩⟩
theorem gd2 (a b : Int) : Gd 7 (.tuple [.int a, .int b]) := .inr ⟨_, rfl, by simp, by simp; exact ⟨.sc _ rfl, .sc _ rfl⟩⟩
theorem law1 (ns : List Int) (k : Nat) (hk : k < 7) : b_law_1 [some (.v (.list (ns.map .int))), some (.v (.int (2 + (k : Int)))), none, none, none, none, none, none, none, none] = .nx [some (.v (.list (ns.map .int))), none, none, none, none, none, none, none, none, none] := by
  obtain ⟨c, hc⟩ := cell_ok ns (2 + (k : Int)) (by omega)
  obtain ⟨a, b, ha, hb, hs⟩ := start_ok (h := k) (w := (c % 7).toNat) hk (by omega)
  rw [show ((k + 2 : Nat) : Int) = 2 + (k : Int) by omega, show (((c % 7).toNat + 2 : Nat) : Int) = c % 7 + 2 by omega] at ha hb
  simp -implicitDefEqProofs (disch := omega) [b_law_1, hc, ha, hb, fuel__law_same, hs]
theorem law2 (ns : List Int) (b : Int) (hb : 0 ≤ b) : b_law_2 [some (.v (.list (ns.map .int))), none, some (.v (.int b)), none, none, none, none, none, none, none] = .nx [some (.v (.list (ns.map .int))), none, none, none, none, none, none, none, none, none] := by
  obtain ⟨B, hB, hl⟩ := board_ok ns b hb
  have hf : B.flatten.length ≤ 16777216 := Nat.le_trans hB.flat (by omega)
  have hc := counts_ok hf
  generalize hx : B.flatten.count 120 = x at hc
  generalize ho : B.flatten.count 111 = o at hc
  generalize he : B.flatten.count 46 = e at hc
  have hs := score_ok hf hx ho he
  have g3 := same_ok 7 _ (gd3 x o e)
  by_cases h1 : o < x
  · rw [if_pos h1] at hs
    have g2 := same_ok 7 _ (gd2 (x + e : Nat) o)
    have h2 : ¬ x < o := by omega
    simp -implicitDefEqProofs (disch := omega) [b_law_2, hl, hc, hx, ho, he, fuel__law_same, g3, h1, h2, hs] at g2 ⊢
    simp -implicitDefEqProofs [g2]
  · rw [if_neg h1] at hs
    by_cases h2 : x < o
    · rw [if_pos h2] at hs
      have g2 := same_ok 7 _ (gd2 x (o + e : Nat))
      simp -implicitDefEqProofs (disch := omega) [b_law_2, hl, hc, hx, ho, he, fuel__law_same, g3, h1, h2, hs] at g2 ⊢
      simp -implicitDefEqProofs [g2]
    · rw [if_neg h2] at hs
      have g2 := same_ok 7 _ (gd2 x o)
      simp -implicitDefEqProofs (disch := omega) [b_law_2, hl, hc, hx, ho, he, fuel__law_same, g3, h1, h2, hs] at g2 ⊢
      simp -implicitDefEqProofs [g2]
theorem law_true : ∀ ns : List Int, ns.length ≤ 63 → f_law [.list (ns.map .int)] = .ok (.bool true) := by
  intro ns _
  refine fnD_rt rfl ?_
  obtain ⟨e, h, rfl⟩ := forGo_inv (tg := .n 1) (g := b_law_1) (fun _ env => env = [some (.v (.list (ns.map .int))), none, none, none, none, none, none, none, none, none])
    ((List.range 7).map fun k : Nat => PyData.int (2 + (k : Int))) 0 _ rfl (by
      rintro i d env hd rfl
      obtain ⟨rfl, hi⟩ := range_get hd
      exact ⟨_, _, rfl, .inl (law1 ns i hi), rfl⟩)
  have h2 : forGo (.n 2) b_law_2 [.int 0, .int 6, .int 12] [some (.v (.list (ns.map .int))), none, none, none, none, none, none, none, none, none] = .nx [some (.v (.list (ns.map .int))), none, none, none, none, none, none, none, none, none] := by
    simp -implicitDefEqProofs [forGo_cons, law2]
  simp -implicitDefEqProofs (disch := omega) [s_law] at h ⊢
  simp -implicitDefEqProofs [h, h2]
end Lk02

namespace Lk02
open PySem PySem.Spec PyProof.Rows L2 PL
theorem tops_mk {K : PySem.W.Frag} {h : Heap} {mg : Str → Option Value} {f0 : Addr} {od0 an0 : Option Addr} {sl0 : Array (Option Value)} {oc0 kV0 dc0 pm0 cd0 ct0 : Value} {f1 : Addr} {od1 an1 : Option Addr} {sl1 : Array (Option Value)} {oc1 kV1 dc1 pm1 cd1 ct1 : Value} {f2 : Addr} {od2 an2 : Option Addr} {sl2 : Array (Option Value)} {oc2 kV2 dc2 pm2 cd2 ct2 : Value} {f3 : Addr} {od3 an3 : Option Addr} {sl3 : Array (Option Value)} {oc3 kV3 dc3 pm3 cd3 ct3 : Value} {f4 : Addr} {od4 an4 : Option Addr} {sl4 : Array (Option Value)} {oc4 kV4 dc4 pm4 cd4 ct4 : Value} {f5 : Addr} {od5 an5 : Option Addr} {sl5 : Array (Option Value)} {oc5 kV5 dc5 pm5 cd5 ct5 : Value} {f6 : Addr} {od6 an6 : Option Addr} {sl6 : Array (Option Value)} {oc6 kV6 dc6 pm6 cd6 ct6 : Value} {f7 : Addr} {od7 an7 : Option Addr} {sl7 : Array (Option Value)} {oc7 kV7 dc7 pm7 cd7 ct7 : Value} {f8 : Addr} {od8 an8 : Option Addr} {sl8 : Array (Option Value)} {oc8 kV8 dc8 pm8 cd8 ct8 : Value} {f9 : Addr} {od9 an9 : Option Addr} {sl9 : Array (Option Value)} {oc9 kV9 dc9 pm9 cd9 ct9 : Value}   (X : K.In h) (G : h.Ns mainGlobals mg)
    (a0 : PySem.W.nsIn K mainGlobals "start" = some (some (.ref f0)))
    (l0 : K.lookup f0 = some ⟨oc0, od0, .func (PySem.W.fnOf "start" "start" (defArgs t_start) (defBody t_start) (defScope t_start) .none kV0 dc0 pm0 an0 cd0 ct0), sl0⟩)
    (c0 : PySem.W.codeIn K cd0 "start" = true) (k0 : PySem.W.keepIn K (.ref f0) = true)
    (a1 : PySem.W.nsIn K mainGlobals "cells_of" = some (some (.ref f1)))
    (l1 : K.lookup f1 = some ⟨oc1, od1, .func (PySem.W.fnOf "cells_of" "cells_of" (defArgs t_cells_of) (defBody t_cells_of) (defScope t_cells_of) .none kV1 dc1 pm1 an1 cd1 ct1), sl1⟩)
    (c1 : PySem.W.codeIn K cd1 "cells_of" = true) (k1 : PySem.W.keepIn K (.ref f1) = true)
    (a2 : PySem.W.nsIn K mainGlobals "counts" = some (some (.ref f2)))
    (l2 : K.lookup f2 = some ⟨oc2, od2, .func (PySem.W.fnOf "counts" "counts" (defArgs t_counts) (defBody t_counts) (defScope t_counts) .none kV2 dc2 pm2 an2 cd2 ct2), sl2⟩)
    (c2 : PySem.W.codeIn K cd2 "counts" = true) (k2 : PySem.W.keepIn K (.ref f2) = true)
    (a3 : PySem.W.nsIn K mainGlobals "score" = some (some (.ref f3)))
    (l3 : K.lookup f3 = some ⟨oc3, od3, .func (PySem.W.fnOf "score" "score" (defArgs t_score) (defBody t_score) (defScope t_score) .none kV3 dc3 pm3 an3 cd3 ct3), sl3⟩)
    (c3 : PySem.W.codeIn K cd3 "score" = true) (k3 : PySem.W.keepIn K (.ref f3) = true)
    (a4 : PySem.W.nsIn K mainGlobals "_law_d" = some (some (.ref f4)))
    (l4 : K.lookup f4 = some ⟨oc4, od4, .func (PySem.W.fnOf "_law_d" "_law_d" (defArgs t__law_d) (defBody t__law_d) (defScope t__law_d) .none kV4 dc4 pm4 an4 cd4 ct4), sl4⟩)
    (c4 : PySem.W.codeIn K cd4 "_law_d" = true) (k4 : PySem.W.keepIn K (.ref f4) = true)
    (a5 : PySem.W.nsIn K mainGlobals "_law_cell" = some (some (.ref f5)))
    (l5 : K.lookup f5 = some ⟨oc5, od5, .func (PySem.W.fnOf "_law_cell" "_law_cell" (defArgs t__law_cell) (defBody t__law_cell) (defScope t__law_cell) .none kV5 dc5 pm5 an5 cd5 ct5), sl5⟩)
    (c5 : PySem.W.codeIn K cd5 "_law_cell" = true) (k5 : PySem.W.keepIn K (.ref f5) = true)
    (a6 : PySem.W.nsIn K mainGlobals "_law_same" = some (some (.ref f6)))
    (l6 : K.lookup f6 = some ⟨oc6, od6, .func (PySem.W.fnOf "_law_same" "_law_same" (defArgs t__law_same) (defBody t__law_same) (defScope t__law_same) .none kV6 dc6 pm6 an6 cd6 ct6), sl6⟩)
    (c6 : PySem.W.codeIn K cd6 "_law_same" = true) (k6 : PySem.W.keepIn K (.ref f6) = true)
    (a7 : PySem.W.nsIn K mainGlobals "_law_board" = some (some (.ref f7)))
    (l7 : K.lookup f7 = some ⟨oc7, od7, .func (PySem.W.fnOf "_law_board" "_law_board" (defArgs t__law_board) (defBody t__law_board) (defScope t__law_board) .none kV7 dc7 pm7 an7 cd7 ct7), sl7⟩)
    (c7 : PySem.W.codeIn K cd7 "_law_board" = true) (k7 : PySem.W.keepIn K (.ref f7) = true)
    (a8 : PySem.W.nsIn K mainGlobals "_law_start" = some (some (.ref f8)))
    (l8 : K.lookup f8 = some ⟨oc8, od8, .func (PySem.W.fnOf "_law_start" "_law_start" (defArgs t__law_start) (defBody t__law_start) (defScope t__law_start) .none kV8 dc8 pm8 an8 cd8 ct8), sl8⟩)
    (c8 : PySem.W.codeIn K cd8 "_law_start" = true) (k8 : PySem.W.keepIn K (.ref f8) = true)
    (a9 : PySem.W.nsIn K mainGlobals "law" = some (some (.ref f9)))
    (l9 : K.lookup f9 = some ⟨oc9, od9, .func (PySem.W.fnOf "law" "law" (defArgs t_law) (defBody t_law) (defScope t_law) .none kV9 dc9 pm9 an9 cd9 ct9), sl9⟩)
    (c9 : PySem.W.codeIn K cd9 "law" = true) (k9 : PySem.W.keepIn K (.ref f9) = true)
    (z0 : PySem.W.nsIn K mainGlobals "all" = some none)
    (z1 : PySem.W.nsIn K mainGlobals "bool" = some none)
    (z2 : PySem.W.nsIn K mainGlobals "enumerate" = some none)
    (z3 : PySem.W.nsIn K mainGlobals "int" = some none)
    (z4 : PySem.W.nsIn K mainGlobals "isinstance" = some none)
    (z5 : PySem.W.nsIn K mainGlobals "len" = some none)
    (z6 : PySem.W.nsIn K mainGlobals "range" = some none)
    (z7 : PySem.W.nsIn K mainGlobals "str" = some none)
    (z8 : PySem.W.nsIn K mainGlobals "tuple" = some none)
    (z9 : PySem.W.nsIn K mainGlobals "zip" = some none) :
    ∃ A : Ad, A.a_law = f9 ∧ A.d_law = PySem.W.fnOf "law" "law" (defArgs t_law) (defBody t_law) (defScope t_law) .none kV9 dc9 pm9 an9 cd9 ct9 ∧ Tops K mg A := by
  have F0 := fun_mk (st := t_start) l0 c0 k0
  have F1 := fun_mk (st := t_cells_of) l1 c1 k1
  have F2 := fun_mk (st := t_counts) l2 c2 k2
  have F3 := fun_mk (st := t_score) l3 c3 k3
  have F4 := fun_mk (st := t__law_d) l4 c4 k4
  have F5 := fun_mk (st := t__law_cell) l5 c5 k5
  have F6 := fun_mk (st := t__law_same) l6 c6 k6
  have F7 := fun_mk (st := t__law_board) l7 c7 k7
  have F8 := fun_mk (st := t__law_start) l8 c8 k8
  have F9 := fun_mk (st := t_law) l9 c9 k9
  refine ⟨⟨f0, _, f1, _, f2, _, f3, _, f4, _, f5, _, f6, _, f7, _, f8, _, f9, _⟩, rfl, rfl, ⟨F0, PySem.W.mg_of X G a0, F0.binds (ps := ["high", "wide"]) fun _ _ _ _ _ _ us hl => match us, hl with | [_, _], _ => rfl, F1, PySem.W.mg_of X G a1, F1.binds (ps := ["rows", "sign"]) fun _ _ _ _ _ _ us hl => match us, hl with | [_, _], _ => rfl, F2, PySem.W.mg_of X G a2, F2.binds (ps := ["rows"]) fun _ _ _ _ _ _ us hl => match us, hl with | [_], _ => rfl, F3, PySem.W.mg_of X G a3, F3.binds (ps := ["rows"]) fun _ _ _ _ _ _ us hl => match us, hl with | [_], _ => rfl, F4, PySem.W.mg_of X G a4, F4.binds (ps := ["_law_cell_here", "_law_place", "_law_many"]) fun _ _ _ _ _ _ us hl => match us, hl with | [_, _, _], _ => rfl, F5, PySem.W.mg_of X G a5, F5.binds (ps := ["_law_script", "_law_k"]) fun _ _ _ _ _ _ us hl => match us, hl with | [_, _], _ => rfl, F6, PySem.W.mg_of X G a6, F6.binds (ps := ["_law_told", "_law_due"]) fun _ _ _ _ _ _ us hl => match us, hl with | [_, _], _ => rfl, F7, PySem.W.mg_of X G a7, F7.binds (ps := ["_law_script", "_law_begin"]) fun _ _ _ _ _ _ us hl => match us, hl with | [_, _], _ => rfl, F8, PySem.W.mg_of X G a8, F8.binds (ps := ["_law_high", "_law_wide"]) fun _ _ _ _ _ _ us hl => match us, hl with | [_, _], _ => rfl, F9, PySem.W.mg_of X G a9, F9.binds (ps := ["_law_script"]) fun _ _ _ _ _ _ us hl => match us, hl with | [_], _ => rfl, PySem.W.mg_none_of X G z0, PySem.W.mg_none_of X G z1, PySem.W.mg_none_of X G z2, PySem.W.mg_none_of X G z3, PySem.W.mg_none_of X G z4, PySem.W.mg_none_of X G z5, PySem.W.mg_none_of X G z6, PySem.W.mg_none_of X G z7, PySem.W.mg_none_of X G z8, PySem.W.mg_none_of X G z9⟩⟩
theorem all_mk {l : PySem.W.OpenLaw} {w : World} {K : PySem.W.Frag} {h : Heap} {mg : Str → Option Value} {f0 : Addr} {od0 an0 : Option Addr} {sl0 : Array (Option Value)} {oc0 kV0 dc0 pm0 cd0 ct0 : Value} {f1 : Addr} {od1 an1 : Option Addr} {sl1 : Array (Option Value)} {oc1 kV1 dc1 pm1 cd1 ct1 : Value} {f2 : Addr} {od2 an2 : Option Addr} {sl2 : Array (Option Value)} {oc2 kV2 dc2 pm2 cd2 ct2 : Value} {f3 : Addr} {od3 an3 : Option Addr} {sl3 : Array (Option Value)} {oc3 kV3 dc3 pm3 cd3 ct3 : Value} {f4 : Addr} {od4 an4 : Option Addr} {sl4 : Array (Option Value)} {oc4 kV4 dc4 pm4 cd4 ct4 : Value} {f5 : Addr} {od5 an5 : Option Addr} {sl5 : Array (Option Value)} {oc5 kV5 dc5 pm5 cd5 ct5 : Value} {f6 : Addr} {od6 an6 : Option Addr} {sl6 : Array (Option Value)} {oc6 kV6 dc6 pm6 cd6 ct6 : Value} {f7 : Addr} {od7 an7 : Option Addr} {sl7 : Array (Option Value)} {oc7 kV7 dc7 pm7 cd7 ct7 : Value} {f8 : Addr} {od8 an8 : Option Addr} {sl8 : Array (Option Value)} {oc8 kV8 dc8 pm8 cd8 ct8 : Value} {f9 : Addr} {od9 an9 : Option Addr} {sl9 : Array (Option Value)} {oc9 kV9 dc9 pm9 cd9 ct9 : Value}   (hlaw : ∀ ns : List Int, ns.length ≤ 63 → f_law [.list (ns.map .int)] = .ok (.bool true)) {fa : Addr} (X : K.In h) (G : h.Ns mainGlobals mg) (hfa : mg "law" = some (.ref fa))
    (a0 : PySem.W.nsIn K mainGlobals "start" = some (some (.ref f0)))
    (l0 : K.lookup f0 = some ⟨oc0, od0, .func (PySem.W.fnOf "start" "start" (defArgs t_start) (defBody t_start) (defScope t_start) .none kV0 dc0 pm0 an0 cd0 ct0), sl0⟩)
    (c0 : PySem.W.codeIn K cd0 "start" = true) (k0 : PySem.W.keepIn K (.ref f0) = true)
    (a1 : PySem.W.nsIn K mainGlobals "cells_of" = some (some (.ref f1)))
    (l1 : K.lookup f1 = some ⟨oc1, od1, .func (PySem.W.fnOf "cells_of" "cells_of" (defArgs t_cells_of) (defBody t_cells_of) (defScope t_cells_of) .none kV1 dc1 pm1 an1 cd1 ct1), sl1⟩)
    (c1 : PySem.W.codeIn K cd1 "cells_of" = true) (k1 : PySem.W.keepIn K (.ref f1) = true)
    (a2 : PySem.W.nsIn K mainGlobals "counts" = some (some (.ref f2)))
    (l2 : K.lookup f2 = some ⟨oc2, od2, .func (PySem.W.fnOf "counts" "counts" (defArgs t_counts) (defBody t_counts) (defScope t_counts) .none kV2 dc2 pm2 an2 cd2 ct2), sl2⟩)
    (c2 : PySem.W.codeIn K cd2 "counts" = true) (k2 : PySem.W.keepIn K (.ref f2) = true)
    (a3 : PySem.W.nsIn K mainGlobals "score" = some (some (.ref f3)))
    (l3 : K.lookup f3 = some ⟨oc3, od3, .func (PySem.W.fnOf "score" "score" (defArgs t_score) (defBody t_score) (defScope t_score) .none kV3 dc3 pm3 an3 cd3 ct3), sl3⟩)
    (c3 : PySem.W.codeIn K cd3 "score" = true) (k3 : PySem.W.keepIn K (.ref f3) = true)
    (a4 : PySem.W.nsIn K mainGlobals "_law_d" = some (some (.ref f4)))
    (l4 : K.lookup f4 = some ⟨oc4, od4, .func (PySem.W.fnOf "_law_d" "_law_d" (defArgs t__law_d) (defBody t__law_d) (defScope t__law_d) .none kV4 dc4 pm4 an4 cd4 ct4), sl4⟩)
    (c4 : PySem.W.codeIn K cd4 "_law_d" = true) (k4 : PySem.W.keepIn K (.ref f4) = true)
    (a5 : PySem.W.nsIn K mainGlobals "_law_cell" = some (some (.ref f5)))
    (l5 : K.lookup f5 = some ⟨oc5, od5, .func (PySem.W.fnOf "_law_cell" "_law_cell" (defArgs t__law_cell) (defBody t__law_cell) (defScope t__law_cell) .none kV5 dc5 pm5 an5 cd5 ct5), sl5⟩)
    (c5 : PySem.W.codeIn K cd5 "_law_cell" = true) (k5 : PySem.W.keepIn K (.ref f5) = true)
    (a6 : PySem.W.nsIn K mainGlobals "_law_same" = some (some (.ref f6)))
    (l6 : K.lookup f6 = some ⟨oc6, od6, .func (PySem.W.fnOf "_law_same" "_law_same" (defArgs t__law_same) (defBody t__law_same) (defScope t__law_same) .none kV6 dc6 pm6 an6 cd6 ct6), sl6⟩)
    (c6 : PySem.W.codeIn K cd6 "_law_same" = true) (k6 : PySem.W.keepIn K (.ref f6) = true)
    (a7 : PySem.W.nsIn K mainGlobals "_law_board" = some (some (.ref f7)))
    (l7 : K.lookup f7 = some ⟨oc7, od7, .func (PySem.W.fnOf "_law_board" "_law_board" (defArgs t__law_board) (defBody t__law_board) (defScope t__law_board) .none kV7 dc7 pm7 an7 cd7 ct7), sl7⟩)
    (c7 : PySem.W.codeIn K cd7 "_law_board" = true) (k7 : PySem.W.keepIn K (.ref f7) = true)
    (a8 : PySem.W.nsIn K mainGlobals "_law_start" = some (some (.ref f8)))
    (l8 : K.lookup f8 = some ⟨oc8, od8, .func (PySem.W.fnOf "_law_start" "_law_start" (defArgs t__law_start) (defBody t__law_start) (defScope t__law_start) .none kV8 dc8 pm8 an8 cd8 ct8), sl8⟩)
    (c8 : PySem.W.codeIn K cd8 "_law_start" = true) (k8 : PySem.W.keepIn K (.ref f8) = true)
    (a9 : PySem.W.nsIn K mainGlobals "law" = some (some (.ref f9)))
    (l9 : K.lookup f9 = some ⟨oc9, od9, .func (PySem.W.fnOf "law" "law" (defArgs t_law) (defBody t_law) (defScope t_law) .none kV9 dc9 pm9 an9 cd9 ct9), sl9⟩)
    (c9 : PySem.W.codeIn K cd9 "law" = true) (k9 : PySem.W.keepIn K (.ref f9) = true)
    (z0 : PySem.W.nsIn K mainGlobals "all" = some none)
    (z1 : PySem.W.nsIn K mainGlobals "bool" = some none)
    (z2 : PySem.W.nsIn K mainGlobals "enumerate" = some none)
    (z3 : PySem.W.nsIn K mainGlobals "int" = some none)
    (z4 : PySem.W.nsIn K mainGlobals "isinstance" = some none)
    (z5 : PySem.W.nsIn K mainGlobals "len" = some none)
    (z6 : PySem.W.nsIn K mainGlobals "range" = some none)
    (z7 : PySem.W.nsIn K mainGlobals "str" = some none)
    (z8 : PySem.W.nsIn K mainGlobals "tuple" = some none)
    (z9 : PySem.W.nsIn K mainGlobals "zip" = some none) :
    ∃ fd : FuncData, (∀ (s : Shared) (v : Value), BindsTo s fd ⟨[v], []⟩ [("_law_script", v)]) ∧ ∀ base : Heap, K.In base → base.Ns mainGlobals mg → FnOk l.prog w K mg base (L2.CX l.prog w) 9 fa fd ["_law_script"] (spTop K) := by
  have e := hfa.symm.trans (PySem.W.mg_of X G a9)
  cases e
  obtain ⟨A, e1, e2, T⟩ := tops_mk X G a0 l0 c0 k0 a1 l1 c1 k1 a2 l2 c2 k2 a3 l3 c3 k3 a4 l4 c4 k4 a5 l5 c5 k5 a6 l6 c6 k6 a7 l7 c7 k7 a8 l8 c8 k8 a9 l9 c9 k9 z0 z1 z2 z3 z4 z5 z6 z7 z8 z9
  refine ⟨A.d_law, fun s v => ?_, fun base _ _ => ?_⟩
  · rw [e2]; exact .of_eq rfl
  · rw [← e1]; exact top_of (ok_law T) hlaw
end Lk02
open PySem PySem.W PyProof.Rows
set_option maxHeartbeats 0 in
theorem PySem.Challenge.cw_flipstones_k02_counts_holds : PySem.Challenge.rw_flipstones_k02_counts.Holds := by
  w_on; o_law; k_head; (case hw => w_witness2)
  k_fill
  refine L2.walk_of (l := PySem.Challenge.rw_flipstones_k02_counts) (n := 63) (k := 9) (x := "_law_script") (CX := fun w => L2.CX PySem.Challenge.rw_flipstones_k02_counts.prog w) (sp := fun w => PL.spTop _) rfl (by decide) rfl ⟨rfl, by decide, by decide⟩ (fun w h Y => PySem.W.kIn_of Y) ?F (fun _ _ a ns hl _ hS => ⟨a, ns, rfl, hS, hl, fun _ => rfl⟩) PL.cx_top
  case F =>
    intro w mg fa h KX G hmg
    refine' Lk02.all_mk Lk02.law_true KX G hmg ?a0 ?l0 ?c0 ?k0 ?a1 ?l1 ?c1 ?k1 ?a2 ?l2 ?c2 ?k2 ?a3 ?l3 ?c3 ?k3 ?a4 ?l4 ?c4 ?k4 ?a5 ?l5 ?c5 ?k5 ?a6 ?l6 ?c6 ?k6 ?a7 ?l7 ?c7 ?k7 ?a8 ?l8 ?c8 ?k8 ?a9 ?l9 ?c9 ?k9 ?z0 ?z1 ?z2 ?z3 ?z4 ?z5 ?z6 ?z7 ?z8 ?z9
    (case a0 => k_is); (case l0 => k_is); (case c0 => k_is); (case k0 => k_is); (case a1 => k_is); (case l1 => k_is); (case c1 => k_is); (case k1 => k_is); (case a2 => k_is); (case l2 => k_is); (case c2 => k_is); (case k2 => k_is); (case a3 => k_is); (case l3 => k_is); (case c3 => k_is); (case k3 => k_is); (case a4 => k_is); (case l4 => k_is); (case c4 => k_is); (case k4 => k_is); (case a5 => k_is); (case l5 => k_is); (case c5 => k_is); (case k5 => k_is); (case a6 => k_is); (case l6 => k_is); (case c6 => k_is); (case k6 => k_is); (case a7 => k_is); (case l7 => k_is); (case c7 => k_is); (case k7 => k_is); (case a8 => k_is); (case l8 => k_is); (case c8 => k_is); (case k8 => k_is); (case a9 => k_is); (case l9 => k_is); (case c9 => k_is); (case k9 => k_is); (case z0 => k_is); (case z1 => k_is); (case z2 => k_is); (case z3 => k_is); (case z4 => k_is); (case z5 => k_is); (case z6 => k_is); (case z7 => k_is); (case z8 => k_is); (case z9 => k_is)
