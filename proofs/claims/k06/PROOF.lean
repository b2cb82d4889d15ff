import PyProof.Rows.All
import Wide.All
import OpenK.AllK
import Wide.FinOn
import HandS.ForMost
import HandS.Exc
import HandS.ExcInit
import HandS.ExcField
import HandS.ExcIs
import HandS.ExcOwn
import HandS.WordsExc
import HandS.TryMany
import HandS.TryOnly
import HandS.IsInst
import HandS.Flow
import HandS.Wide
import HandS.Conv
import KE.DataEq
import HandS.SetFor
import HandS.Style
import PySem.Challenge.RW_packedtrees_k06_tree_rows_judged
set_option Elab.async false
set_option linter.all false
set_option maxRecDepth 100000
set_option maxHeartbeats 4000000
/-! Mw: Python code as a function of plain data (its mirror), and that the code computes its mirror.
A mirror hands back Out: a value, an error of the package, or nothing that is known (bad). -/
namespace Mw
open PySem PySem.Spec PyProof.Rows L2

abbrev Sl := L2.St
/-! ### mirrors' results -/
inductive EK where
  | PackError | BadTree | BadText | BadSign | BadRow | BadBinary | BadCode | BadSlots | BadQuestion | NoNode | BadLabel | BadNumber | NoAnswer | Hidden | Unsettled
  | BadEdit | RootEdit | Inside | BadScript | NothingToUndo | NothingToRedo | BadWord | NoWord | BadHead | BadPart | NotTree | WrongHead | NotWorld | NotTaken | BadPaper
  | BadWidth | NoRule | NoName | BadLetter | TooLong | TooMany | BadField | BadTape | Lost | BadKind | NotOfKind | BadPrices
  deriving DecidableEq

/-- an error: its class, its fields (none: the class has no __init__ of its own) -/
structure Err where
  k : EK
  fs : Option (List (Str × V))

inductive Out (α : Type) where
  | ok (a : α)
  | err (e : Err)
  | bad

namespace Out
variable {α β : Type}
def bind (m : Out α) (f : α → Out β) : Out β := match m with
  | ok a => f a
  | err e => err e
  | bad => bad
def wp (m : Out α) (Q : α → Prop) (E : Err → Prop) : Prop := match m with
  | ok a => Q a
  | err e => E e
  | bad => False
@[simp] theorem bind_ok (a : α) (f : α → Out β) : bind (ok a) f = f a := rfl
@[simp] theorem bind_err (e : Err) (f : α → Out β) : bind (err e : Out α) f = err e := rfl
@[simp] theorem bind_bad (f : α → Out β) : bind (bad : Out α) f = bad := rfl
theorem wp_bind {m : Out α} {f : α → Out β} {Q : β → Prop} {E : Err → Prop} (h : (bind m f).wp Q E) : m.wp (fun a => (f a).wp Q E) E := by
  cases m with
  | ok a => exact h
  | err e => exact h
  | bad => exact h
theorem wp_mono {m : Out α} {Q Q' : α → Prop} {E E' : Err → Prop} (h : m.wp Q E) (hq : ∀ a, m = ok a → Q a → Q' a) (he : ∀ e, m = err e → E e → E' e) : m.wp Q' E' := by
  cases m with
  | ok a => exact hq a rfl h
  | err e => exact he e rfl h
  | bad => exact h
end Out

/-! ### heaps: what is hidden -/
def hide (O : List Addr) (H : Hp) : Hp := fun a => if a ∈ O then none else H a
theorem hide_some {O : List Addr} {H : Hp} {a : Addr} {o : HO} (h : hide O H a = some o) : a ∉ O ∧ H a = some o := by
  unfold hide at h
  split at h
  · cases h
  · rename_i n
    exact ⟨n, h⟩
theorem hide_of {O : List Addr} {H : Hp} {a : Addr} (h : a ∉ O) : hide O H a = H a := if_neg h
theorem hide_in {O : List Addr} {H : Hp} {a : Addr} (h : a ∈ O) : hide O H a = none := if_pos h
theorem hide_le {O : List Addr} {H : Hp} : Same (hide O H) H := fun _ _ h => (hide_some h).2
theorem hide_nil {H : Hp} : hide [] H = H := by
  funext a
  exact if_neg (by simp)
/-- what may be owned: what may be written -/
def mutO : HO → Bool
  | .lst _ => true
  | .dK _ => true
  | .dT _ => true
  | .set _ _ => true
  | .ins _ _ _ => true
  | .own _ => true
  | _ => false
def MutA (H : Hp) (a : Addr) : Prop := ∃ o, H a = some o ∧ mutO o = true

/-! ### assertions about a value -/
/-- P: what stays as it is; H: the heap; F: what is owned -/
structure Asn where
  p : Hp → Hp → List Addr → V → Prop
  st : ∀ {P P' H H' : Hp} {F : List Addr} {v : V}, Same P P' → (∀ a ∈ F, ∀ o, H a = some o → H' a = some o) → p P H F v → p P' H' F v

/-- how a type's values stand in the heap; how they stand where their mutable parts are owned -/
class Py (α : Type) where
  rep : PySem.W.Frag → Hp → V → α → Prop
  mono : ∀ {K : PySem.W.Frag} {H H' : Hp} {v : V} {x : α}, Same H H' → rep K H v x → rep K H' v x
  own : PySem.W.Frag → Hp → Hp → List Addr → V → α → Prop
  own_st : ∀ {K : PySem.W.Frag} {P P' H H' : Hp} {F : List Addr} {v : V} {x : α}, Same P P' → (∀ a ∈ F, ∀ o, H a = some o → H' a = some o) → own K P H F v x → own K P' H' F v x
  own_rep : ∀ {K : PySem.W.Frag} {P P' H : Hp} {F : List Addr} {v : V} {x : α}, Same P P' → (∀ a ∈ F, ∀ o, H a = some o → P' a = some o) → own K P H F v x → rep K P' v x
/-- a type whose own parts are nothing -/
@[reducible] def Py.flat {α : Type} (rep : PySem.W.Frag → Hp → V → α → Prop) (mono : ∀ {K : PySem.W.Frag} {H H' : Hp} {v : V} {x : α}, Same H H' → rep K H v x → rep K H' v x) : Py α where
  rep := rep
  mono := mono
  own := fun K P _ F v x => F = [] ∧ rep K P v x
  own_st := fun s _ h => ⟨h.1, mono s h.2⟩
  own_rep := fun s _ h => mono s h.2

/-- what is seen does not lean on what may be written: it may be seen in a part -/
class PyI (α : Type) [Py α] : Prop where
  imm : ∀ {K : PySem.W.Frag} {H : Hp} {O : List Addr} {v : V} {x : α}, (∀ a ∈ O, ∀ o, H a = some o → mutO o = true) → Py.rep K H v x → Py.rep K (hide O H) v x
/-- what is seen does not lean on the heap -/
class PyS (α : Type) [Py α] : Prop where
  any : ∀ {K K' : PySem.W.Frag} {H H' : Hp} {v : V} {x : α}, Py.rep K H v x → Py.rep K' H' v x
instance {α : Type} [Py α] [PyS α] : PyI α := ⟨fun _ h => PyS.any h⟩

instance : Py Int := Py.flat (fun _ _ v x => v = .int x) (fun _ h => h)
instance : PyS Int := ⟨fun h => h⟩
instance : Py Bool := Py.flat (fun _ _ v x => v = .bl x) (fun _ h => h)
instance : PyS Bool := ⟨fun h => h⟩
instance : Py Unit := Py.flat (fun _ _ v _ => v = .non) (fun _ h => h)
instance : PyS Unit := ⟨fun h => h⟩
instance : Py Str := Py.flat (fun _ _ v x => v = .str x) (fun _ h => h)
instance : PyS Str := ⟨fun h => h⟩

abbrev Reps {α : Type} [Py α] (K : PySem.W.Frag) (H : Hp) : List V → List α → Prop := Paired fun v x => Py.rep K H v x
theorem Reps.mono {α : Type} [Py α] {K : PySem.W.Frag} {H H' : Hp} {vs : List V} {xs : List α} (s : Same H H') (r : Reps K H vs xs) : Reps K H' vs xs := Paired.mapP r fun _ _ => Py.mono s
instance {α : Type} [Py α] : Py (List α) where
  rep := fun K H v xs => ∃ a vs, v = .ref a ∧ H a = some (.lst vs) ∧ Reps K H vs xs
  mono := fun s ⟨a, vs, e, h, r⟩ => ⟨a, vs, e, s _ _ h, r.mono s⟩
  own := fun K P H F v xs => ∃ a vs, v = .ref a ∧ F = [a] ∧ H a = some (.lst vs) ∧ Reps K P vs xs
  own_st := fun s k ⟨a, vs, e, hF, h, r⟩ => ⟨a, vs, e, hF, k a (by rw [hF]; exact List.mem_cons_self) _ h, r.mono s⟩
  own_rep := fun s k ⟨a, vs, e, hF, h, r⟩ => ⟨a, vs, e, k a (by rw [hF]; exact List.mem_cons_self) _ h, r.mono s⟩

/-! tuples -/
theorem Same.seqT {K : PySem.W.Frag} {H H' : Hp} {a : Addr} {xs : List V} (e : Same H H') (h : SqT K H a xs) : SqT K H' a xs := by
  rcases h with (h | ⟨o, h⟩) | h
  · exact .inl (.inl (e _ _ h))
  · exact .inl (.inr ⟨o, e _ _ h⟩)
  · exact .inr h
theorem seqT_hide {K : PySem.W.Frag} {H : Hp} {O : List Addr} {a : Addr} {xs : List V} (n : ∀ a ∈ O, ∀ o, H a = some o → mutO o = true) (h : SqT K H a xs) : SqT K (hide O H) a xs := by
  have key : ∀ {o : HO}, H a = some o → mutO o = false → hide O H a = some o := fun {o} e m => by
    rw [hide_of (fun q => by rw [n a q o e] at m; cases m)]
    exact e
  rcases h with (h | ⟨o, h⟩) | h
  · exact .inl (.inl (key h rfl))
  · exact .inl (.inr ⟨o, key h rfl⟩)
  · exact .inr h
instance {α β : Type} [Py α] [Py β] : Py (α × β) := Py.flat (fun K H v x => ∃ a v1 v2, v = .ref a ∧ SqT K H a [v1, v2] ∧ Py.rep K H v1 x.1 ∧ Py.rep K H v2 x.2)
  (fun s ⟨a, v1, v2, e, h, r1, r2⟩ => ⟨a, v1, v2, e, Same.seqT s h, Py.mono s r1, Py.mono s r2⟩)
instance {α β : Type} [Py α] [Py β] [PyI α] [PyI β] : PyI (α × β) :=
  ⟨fun n ⟨a, v1, v2, e, h, r1, r2⟩ => ⟨a, v1, v2, e, seqT_hide n h, PyI.imm n r1, PyI.imm n r2⟩⟩
/-- a tuple of one, three, four members -/
structure T1 (α : Type) where
  a : α
structure T3 (α β γ : Type) where
  a : α
  b : β
  c : γ
  deriving DecidableEq
structure T4 (α β γ δ : Type) where
  a : α
  b : β
  c : γ
  d : δ
  deriving DecidableEq
instance {α : Type} [Py α] : Py (T1 α) := Py.flat (fun K H v x => ∃ a v1, v = .ref a ∧ SqT K H a [v1] ∧ Py.rep K H v1 x.a)
  (fun s ⟨a, v1, e, h, r1⟩ => ⟨a, v1, e, Same.seqT s h, Py.mono s r1⟩)
instance {α β γ : Type} [Py α] [Py β] [Py γ] : Py (T3 α β γ) := Py.flat (fun K H v x => ∃ a v1 v2 v3, v = .ref a ∧ SqT K H a [v1, v2, v3] ∧ Py.rep K H v1 x.a ∧ Py.rep K H v2 x.b ∧ Py.rep K H v3 x.c)
  (fun s ⟨a, v1, v2, v3, e, h, r1, r2, r3⟩ => ⟨a, v1, v2, v3, e, Same.seqT s h, Py.mono s r1, Py.mono s r2, Py.mono s r3⟩)
instance {α β γ : Type} [Py α] [Py β] [Py γ] [PyI α] [PyI β] [PyI γ] : PyI (T3 α β γ) :=
  ⟨fun n ⟨a, v1, v2, v3, e, h, r1, r2, r3⟩ => ⟨a, v1, v2, v3, e, seqT_hide n h, PyI.imm n r1, PyI.imm n r2, PyI.imm n r3⟩⟩
instance {α β γ δ : Type} [Py α] [Py β] [Py γ] [Py δ] : Py (T4 α β γ δ) := Py.flat (fun K H v x => ∃ a v1 v2 v3 v4, v = .ref a ∧ SqT K H a [v1, v2, v3, v4] ∧ Py.rep K H v1 x.a ∧ Py.rep K H v2 x.b ∧ Py.rep K H v3 x.c ∧ Py.rep K H v4 x.d)
  (fun s ⟨a, v1, v2, v3, v4, e, h, r1, r2, r3, r4⟩ => ⟨a, v1, v2, v3, v4, e, Same.seqT s h, Py.mono s r1, Py.mono s r2, Py.mono s r3, Py.mono s r4⟩)
/-- a tuple of any length -/
structure Tup (α : Type) where
  l : List α
  deriving DecidableEq
instance {α : Type} [Py α] : Py (Tup α) := Py.flat (fun K H v x => ∃ a vs, v = .ref a ∧ SqT K H a vs ∧ Reps K H vs x.l)
  (fun s ⟨a, vs, e, h, r⟩ => ⟨a, vs, e, Same.seqT s h, r.mono s⟩)
instance {α : Type} [Py α] [PyI α] : PyI (Tup α) := ⟨fun n ⟨a, vs, e, h, r⟩ => ⟨a, vs, e, seqT_hide n h, Paired.mapP r fun _ _ q => PyI.imm n q⟩⟩
/-- the script: a list of ints that is only read -/
structure Scr where
  l : List Int
instance : Py Scr := Py.flat (fun K H v x => ∃ a, v = .ref a ∧ SqL K H a (x.l.map V.int)) (fun s ⟨a, e, h⟩ => ⟨a, e, Same.seq s h⟩)
/-- None or a value -/
instance {α : Type} [Py α] : Py (Option α) := Py.flat (fun K H v x => match x with
  | none => v = .non
  | some y => Py.rep K H v y ∧ v ≠ .non) (fun {K H H' v x} s h => by
    cases x with
    | none => exact h
    | some y => exact ⟨Py.mono s h.1, h.2⟩)
instance {α : Type} [Py α] [PyI α] : PyI (Option α) := ⟨fun {K H O v x} n h => by
    cases x with
    | none => exact h
    | some y => exact ⟨PyI.imm n h.1, h.2⟩⟩
instance {α : Type} [Py α] [PyS α] : PyS (Option α) := ⟨fun {K K' H H' v x} h => by
    cases x with
    | none => exact h
    | some y => exact ⟨PyS.any h.1, h.2⟩⟩

/-! ### modes: seen and staying | borrowed from the ground | owned -/
inductive Md where
  | val | bor | own
def asn {α : Type} [Py α] (K : PySem.W.Frag) (G : Hp) (m : Md) (x : α) : Asn := match m with
  | .val => ⟨fun P _ F v => F = [] ∧ Py.rep K P v x, fun s _ h => ⟨h.1, Py.mono s h.2⟩⟩
  | .bor => ⟨fun _ _ F v => F = [] ∧ Py.rep K G v x, fun _ _ h => h⟩
  | .own => ⟨fun P H F v => Py.own K P H F v x, fun s k h => Py.own_st s k h⟩

/-! ### the frame's slots and what waits -/
/-- what waits: a value of its own, or a copy of slot i, or the second part of the pair in slot i -/
inductive Ent where
  | as (A : Asn)
  | al (i : Nat)
  | p2 (i : Nat)
def EntOk (P H : Hp) (t : Option Asn) (v : Option V) (F : List Addr) : Prop := match t with
  | none => F = []
  | some A => ∃ u, v = some u ∧ A.p P H F u
def EnvL (P H : Hp) : List (Option Asn) → Sl → List Addr → Prop
  | [], [], F => F = []
  | t :: ts, v :: vs, F => ∃ F1 F2, F = F1 ++ F2 ∧ EntOk P H t v F1 ∧ EnvL P H ts vs F2
  | _, _, _ => False
def StkOk (P H : Hp) (σ : Sl) (e : Ent) (v : V) (F : List Addr) : Prop := match e with
  | .as A => A.p P H F v
  | .al i => F = [] ∧ σ[i]? = some (some v)
  | .p2 i => F = [] ∧ ∃ (a : Addr) (u : V), σ[i]? = some (some (.ref a)) ∧ P a = some (.tup [u, v])
def StkL (P H : Hp) (σ : Sl) : List Ent → List V → List Addr → Prop
  | [], [], F => F = []
  | e :: es, v :: vs, F => ∃ F1 F2, F = F1 ++ F2 ∧ StkOk P H σ e v F1 ∧ StkL P H σ es vs F2
  | _, _, _ => False
/-- where a piece of code stands: its frame's context, the ground (what was there at the entry and is not handed over to be changed), what others own of it, what an exception that leaves it must meet -/
structure Cw where
  X : Cx
  G : Hp
  Of : List Addr
  W : WX
  tx : Option (List (Option Asn))
  eg : EK → Addr
structure EnvF (c : Cw) (ts : List (Option Asn)) (us : List Ent) (σ : Sl) (vs : List V) (H : Hp) (F1 F2 : List Addr) : Prop where
  sl : EnvL (hide (c.Of ++ (F1 ++ F2)) H) H ts σ F1
  sk : StkL (hide (c.Of ++ (F1 ++ F2)) H) H σ us vs F2
  nd : (F1 ++ F2).Nodup
  fr : ∀ a ∈ F1 ++ F2, c.G a = none ∧ MutA H a
  g : Same c.G H
  og : ∀ a ∈ c.Of, MutA c.G a
def Env (c : Cw) (ts : List (Option Asn)) (us : List Ent) (σ : Sl) (vs : List V) (H : Hp) : Prop := ∃ F1 F2, EnvF c ts us σ vs H F1 F2

section
variable {P P' H H' : Hp} {ts : List (Option Asn)} {us : List Ent} {σ : Sl} {vs : List V} {F F1 F2 : List Addr} {c : Cw}
theorem EntOk.st {t : Option Asn} {v : Option V} (s : Same P P') (k : ∀ a ∈ F, ∀ o, H a = some o → H' a = some o) (h : EntOk P H t v F) : EntOk P' H' t v F := by
  cases t with
  | none => exact h
  | some A =>
    obtain ⟨u, e, q⟩ := h
    exact ⟨u, e, A.st s k q⟩
theorem StkOk.st {t : Ent} {v : V} (s : Same P P') (k : ∀ a ∈ F, ∀ o, H a = some o → H' a = some o) (h : StkOk P H σ t v F) : StkOk P' H' σ t v F := by
  cases t with
  | as A => exact A.st s k h
  | al i => exact h
  | p2 i =>
    obtain ⟨h1, a, u, h2, h3⟩ := h
    exact ⟨h1, a, u, h2, s _ _ h3⟩
theorem EnvL.st (s : Same P P') : ∀ {ts : List (Option Asn)} {σ : Sl} {F : List Addr}, (∀ a ∈ F, ∀ o, H a = some o → H' a = some o) → EnvL P H ts σ F → EnvL P' H' ts σ F
  | [], [], _, _, h => h
  | [], _ :: _, _, _, h => h.elim
  | _ :: _, [], _, _, h => h.elim
  | t :: ts, v :: vs, F, k, h => by
    obtain ⟨F1, F2, e, h1, h2⟩ := h
    subst e
    exact ⟨F1, F2, rfl, h1.st s fun a ha => k a (List.mem_append_left _ ha), EnvL.st s (fun a ha => k a (List.mem_append_right _ ha)) h2⟩
theorem StkL.st (s : Same P P') : ∀ {us : List Ent} {vs : List V} {F : List Addr}, (∀ a ∈ F, ∀ o, H a = some o → H' a = some o) → StkL P H σ us vs F → StkL P' H' σ us vs F
  | [], [], _, _, h => h
  | [], _ :: _, _, _, h => h.elim
  | _ :: _, [], _, _, h => h.elim
  | t :: ts, v :: vs, F, k, h => by
    obtain ⟨F1, F2, e, h1, h2⟩ := h
    subst e
    exact ⟨F1, F2, rfl, h1.st s fun a ha => k a (List.mem_append_left _ ha), StkL.st s (fun a ha => k a (List.mem_append_right _ ha)) h2⟩
/-- slot i apart from the others -/
theorem EnvL.at : ∀ {ts : List (Option Asn)} {σ : Sl} {F : List Addr} (i : Nat) {t : Option Asn}, EnvL P H ts σ F → ts[i]? = some t →
    ∃ (v : Option V) (F1 Fi F2 : List Addr), σ[i]? = some v ∧ F = F1 ++ (Fi ++ F2) ∧ EntOk P H t v Fi ∧ i < σ.length ∧
      ∀ (P' H' : Hp) (t' : Option Asn) (v' : Option V) (F' : List Addr), Same P P' → (∀ a ∈ F1 ++ F2, ∀ o, H a = some o → H' a = some o) → EntOk P' H' t' v' F' → EnvL P' H' (ts.set i t') (σ.set i v') (F1 ++ (F' ++ F2))
  | [], _, _, _, _, _, e => by simp at e
  | _ :: _, [], _, _, _, h, _ => h.elim
  | t0 :: ts, v :: vs, F, 0, t, h, e => by
    obtain ⟨F1, F2, eF, h1, h2⟩ := h
    have et : t0 = t := by simpa using e
    subst et
    refine ⟨v, [], F1, F2, rfl, by rw [eF]; rfl, h1, by simp, fun P' H' t' v' F' s k q => ?_⟩
    exact ⟨F', F2, rfl, q, EnvL.st s (fun a ha => k a (by simpa using ha)) h2⟩
  | t0 :: ts, v :: vs, F, i + 1, t, h, e => by
    obtain ⟨F0, F9, eF, h1, h2⟩ := h
    obtain ⟨w, F1, Fi, F2, e1, e2, q, hl, rest⟩ := EnvL.at i (t := t) h2 (by simpa using e)
    refine ⟨w, F0 ++ F1, Fi, F2, by simpa using e1, by rw [eF, e2, List.append_assoc], q, by simpa using hl, fun P' H' t' v' F' s k q' => ?_⟩
    refine ⟨F0, F1 ++ (F' ++ F2), by rw [List.append_assoc], h1.st s (fun a ha => k a ?_), rest P' H' t' v' F' s (fun a ha => k a ?_) q'⟩
    · exact List.mem_append_left _ (List.mem_append_left _ ha)
    · rcases List.mem_append.mp ha with ha | ha
      · exact List.mem_append_left _ (List.mem_append_right _ ha)
      · exact List.mem_append_right _ ha
theorem EnvL.len : ∀ {ts : List (Option Asn)} {σ : Sl} {F : List Addr}, EnvL P H ts σ F → ts.length = σ.length
  | [], [], _, _ => rfl
  | [], _ :: _, _, h => h.elim
  | _ :: _, [], _, h => h.elim
  | _ :: ts, _ :: vs, _, ⟨_, _, _, _, h⟩ => by simp [EnvL.len h]
end
end Mw
set_option maxRecDepth 100000
set_option maxHeartbeats 4000000
namespace Mw
open PySem PySem.Spec PyProof.Rows L2

section
variable {c : Cw} {ts : List (Option Asn)} {us es : List Ent} {σ : Sl} {vs ws : List V} {H H' : Hp} {F F1 F2 : List Addr}

theorem StkL.cons {P H : Hp} {e : Ent} {v : V} (h : StkL P H σ (e :: us) (v :: vs) F) : ∃ F1 F2, F = F1 ++ F2 ∧ StkOk P H σ e v F1 ∧ StkL P H σ us vs F2 := h
theorem StkL.split {P H : Hp} : ∀ {es : List Ent} {ws : List V} {F : List Addr}, es.length = ws.length → StkL P H σ (es ++ us) (ws ++ vs) F → ∃ F1 F2, F = F1 ++ F2 ∧ StkL P H σ es ws F1 ∧ StkL P H σ us vs F2
  | [], [], F, _, h => ⟨[], F, rfl, rfl, h⟩
  | [], _ :: _, _, e, _ => by simp at e
  | _ :: _, [], _, e, _ => by simp at e
  | e :: es, w :: ws, F, el, h => by
    obtain ⟨F1, F2, eF, h1, h2⟩ := h
    obtain ⟨F3, F4, eF', h3, h4⟩ := StkL.split (by simpa using el) h2
    exact ⟨F1 ++ F3, F4, by rw [eF, eF', List.append_assoc], ⟨F1, F3, rfl, h1, h3⟩, h4⟩
theorem StkL.append {P H : Hp} : ∀ {es : List Ent} {ws : List V} {F1 F2 : List Addr}, StkL P H σ es ws F1 → StkL P H σ us vs F2 → StkL P H σ (es ++ us) (ws ++ vs) (F1 ++ F2)
  | [], [], F1, F2, h, h' => by
    have e : F1 = [] := h
    subst e
    exact h'
  | [], _ :: _, _, _, h, _ => h.elim
  | _ :: _, [], _, _, h, _ => h.elim
  | e :: es, w :: ws, F1, F2, h, h' => by
    obtain ⟨G1, G2, eF, h1, h2⟩ := h
    exact ⟨G1, G2 ++ F2, by rw [eF, List.append_assoc], h1, StkL.append h2 h'⟩
theorem StkL.len {P H : Hp} : ∀ {us : List Ent} {vs : List V} {F : List Addr}, StkL P H σ us vs F → us.length = vs.length
  | [], [], _, _ => rfl
  | [], _ :: _, _, h => h.elim
  | _ :: _, [], _, h => h.elim
  | _ :: us, _ :: vs, _, ⟨_, _, _, _, h⟩ => by simp [StkL.len h]

/-- what is hidden may be written -/
theorem EnvF.muts (E : EnvF c ts us σ vs H F1 F2) : ∀ a ∈ c.Of ++ (F1 ++ F2), ∀ o, H a = some o → mutO o = true := fun a ha o e => by
  rcases List.mem_append.mp ha with h | h
  · obtain ⟨o', e', m⟩ := E.og a h
    rw [E.g _ _ e'] at e
    cases e
    exact m
  · obtain ⟨_, o', e', m⟩ := E.fr a h
    rw [e'] at e
    cases e
    exact m
theorem EnvF.trk (E : EnvF c ts us σ vs H F1 F2) : ∀ a ∈ c.Of ++ (F1 ++ F2), H a ≠ none := fun a ha q => by
  rcases List.mem_append.mp ha with h | h
  · obtain ⟨o', e', m⟩ := E.og a h
    rw [E.g _ _ e'] at q
    cases q
  · obtain ⟨_, o', e', m⟩ := E.fr a h
    rw [e'] at q
    cases q
/-- the heap grew -/
theorem EnvF.same (E : EnvF c ts us σ vs H F1 F2) (s : Same H H') : EnvF c ts us σ vs H' F1 F2 := by
  have s' : Same (hide (c.Of ++ (F1 ++ F2)) H) (hide (c.Of ++ (F1 ++ F2)) H') := fun a o e => by
    obtain ⟨n, e⟩ := hide_some e
    rw [hide_of n]
    exact s _ _ e
  refine ⟨E.sl.st s' fun a _ o e => s _ _ e, E.sk.st s' fun a _ o e => s _ _ e, E.nd, fun a ha => ?_, Same.trans E.g s, E.og⟩
  obtain ⟨h1, o, h2, h3⟩ := E.fr a ha
  exact ⟨h1, o, s _ _ h2, h3⟩
theorem Env.same (E : Env c ts us σ vs H) (s : Same H H') : Env c ts us σ vs H' := by
  obtain ⟨F1, F2, E⟩ := E
  exact ⟨F1, F2, E.same s⟩
theorem Env.ground (E : Env c ts us σ vs H) : Same c.G H := by
  obtain ⟨F1, F2, E⟩ := E
  exact E.g
theorem Env.len (E : Env c ts us σ vs H) : ts.length = σ.length := by
  obtain ⟨F1, F2, E⟩ := E
  exact E.sl.len

/-- what a place shows: P is the part of H that stays as it is -/
structure Part (P H : Hp) : Prop where
  ex : ∃ O : List Addr, P = hide O H ∧ ∀ a ∈ O, ∀ o, H a = some o → mutO o = true
theorem Part.le {P H : Hp} (p : Part P H) : Same P H := by
  obtain ⟨O, e, _⟩ := p.ex
  subst e
  exact hide_le
theorem Part.imm {P H : Hp} (p : Part P H) {α : Type} [Py α] [PyI α] {K : PySem.W.Frag} {v : V} {x : α} (h : Py.rep K H v x) : Py.rep K P v x := by
  obtain ⟨O, e, m⟩ := p.ex
  subst e
  exact PyI.imm m h
theorem EnvF.part (E : EnvF c ts us σ vs H F1 F2) : Part (hide (c.Of ++ (F1 ++ F2)) H) H := ⟨⟨_, rfl, E.muts⟩⟩

/-- THE STEP: what waits on top (es, ws) goes, v comes -/
theorem EnvF.top {e : Ent} {v : V} {FB F : List Addr} (E : EnvF c ts (es ++ us) σ (ws ++ vs) H F1 (FB ++ F2)) (h2 : StkL (hide (c.Of ++ (F1 ++ (FB ++ F2))) H) H σ us vs F2) (s : Same H H')
    (f1 : ∀ a ∈ F, a ∈ FB ∨ H a = none) (f2 : F.Nodup) (f3 : ∀ a ∈ F, MutA H' a)
    (f4 : ∀ P', Same (hide (c.Of ++ (F1 ++ (FB ++ F2))) H) P' → (∀ b o, H b = none ∨ b ∈ FB → b ∉ F → H' b = some o → P' b = some o) → Same P' H' → StkOk P' H' σ e v F) : EnvF c ts (e :: us) σ (v :: vs) H' F1 (F ++ F2) := by
  have trk := E.trk
  have inB : ∀ a, a ∈ FB → a ∈ c.Of ++ (F1 ++ (FB ++ F2)) := fun a h => List.mem_append_right _ (List.mem_append_right _ (List.mem_append_left _ h))
  have old : ∀ a ∈ F, a ∈ c.Of ++ (F1 ++ (FB ++ F2)) → a ∈ FB := fun a h q => (f1 a h).elim id fun z => absurd z (trk a q)
  have nd := E.nd
  have ndB : ∀ a ∈ FB, a ∉ F1 ∧ a ∉ F2 := fun a h => by
    obtain ⟨n1, n2, n3⟩ := List.nodup_append.mp nd
    obtain ⟨m1, m2, m3⟩ := List.nodup_append.mp n2
    exact ⟨fun q => n3 a q a (List.mem_append_left _ h) rfl, fun q => m3 a h a q rfl⟩
  have noOf : ∀ a ∈ FB, a ∉ c.Of := fun a h q => by
    have := (E.fr a (List.mem_append_right _ (List.mem_append_left _ h))).1
    obtain ⟨o, e, _⟩ := E.og a q
    rw [this] at e
    cases e
  have nF1 : ∀ a ∈ F, a ∉ F1 := fun a h q => (ndB a (old a h (List.mem_append_right _ (List.mem_append_left _ q)))).1 q
  have nF2 : ∀ a ∈ F, a ∉ F2 := fun a h q => (ndB a (old a h (List.mem_append_right _ (List.mem_append_right _ (List.mem_append_right _ q))))).2 q
  have sP : Same (hide (c.Of ++ (F1 ++ (FB ++ F2))) H) (hide (c.Of ++ (F1 ++ (F ++ F2))) H') := fun a o q => by
    obtain ⟨n, q⟩ := hide_some q
    rw [hide_of (fun z => ?_)]
    · exact s _ _ q
    · rcases List.mem_append.mp z with z | z
      · exact n (List.mem_append_left _ z)
      · rcases List.mem_append.mp z with z | z
        · exact n (List.mem_append_right _ (List.mem_append_left _ z))
        · rcases List.mem_append.mp z with z | z
          · rcases f1 a z with y | y
            · exact n (inB a y)
            · rw [y] at q
              cases q
          · exact n (List.mem_append_right _ (List.mem_append_right _ (List.mem_append_right _ z)))
  have new : ∀ b o, H b = none ∨ b ∈ FB → b ∉ F → H' b = some o → hide (c.Of ++ (F1 ++ (F ++ F2))) H' b = some o := fun b o n nF q => by
    rw [hide_of (fun z => ?_)]
    · exact q
    · rcases List.mem_append.mp z with z | z
      · rcases n with n | n
        · exact trk b (List.mem_append_left _ z) n
        · exact noOf b n z
      · rcases List.mem_append.mp z with z | z
        · rcases n with n | n
          · exact trk b (List.mem_append_right _ (List.mem_append_left _ z)) n
          · exact (ndB b n).1 z
        · rcases List.mem_append.mp z with z | z
          · exact nF z
          · rcases n with n | n
            · exact trk b (List.mem_append_right _ (List.mem_append_right _ (List.mem_append_right _ z))) n
            · exact (ndB b n).2 z
  have kp : ∀ (L : List Addr), ∀ a ∈ L, ∀ o, H a = some o → H' a = some o := fun _ a _ o q => s _ _ q
  refine ⟨E.sl.st sP (kp F1), ⟨F, F2, rfl, f4 _ sP new hide_le, h2.st sP (kp F2)⟩, ?_, fun a ha => ?_, Same.trans E.g s, E.og⟩
  · obtain ⟨n1, n2, n3⟩ := List.nodup_append.mp nd
    obtain ⟨m1, m2, m3⟩ := List.nodup_append.mp n2
    refine List.nodup_append.mpr ⟨n1, List.nodup_append.mpr ⟨f2, m2, fun a ha b hb q => ?_⟩, fun a ha b hb q => ?_⟩
    · subst q
      exact nF2 a ha hb
    · subst q
      rcases List.mem_append.mp hb with hb | hb
      · exact nF1 a hb ha
      · exact n3 a ha a (List.mem_append_right _ hb) rfl
  · have keep : ∀ a, a ∈ F1 ++ (FB ++ F2) → c.G a = none ∧ MutA H' a := fun a h => by
      obtain ⟨h1, o, h2, h3⟩ := E.fr a h
      exact ⟨h1, o, s _ _ h2, h3⟩
    rcases List.mem_append.mp ha with h | h
    · exact keep a (List.mem_append_left _ h)
    · rcases List.mem_append.mp h with h | h
      · refine ⟨?_, f3 a h⟩
        rcases f1 a h with y | y
        · exact (keep a (List.mem_append_right _ (List.mem_append_left _ y))).1
        · exact E.g.free y
      · exact keep a (List.mem_append_right _ (List.mem_append_right _ h))
theorem Env.top {e : Ent} {v : V} (E : Env c ts (es ++ us) σ (ws ++ vs) H) (hl : es.length = ws.length) (s : Same H H')
    (hA : ∀ P F1 FB, Part P H → Same c.G H → EnvL P H ts σ F1 → StkL P H σ es ws FB → ∃ F : List Addr, (∀ a ∈ F, a ∈ FB ∨ H a = none) ∧ F.Nodup ∧ (∀ a ∈ F, MutA H' a) ∧
      ∀ P', Same P P' → (∀ b o, H b = none ∨ b ∈ FB → b ∉ F → H' b = some o → P' b = some o) → Same P' H' → StkOk P' H' σ e v F) : Env c ts (e :: us) σ (v :: vs) H' := by
  obtain ⟨F1, F0, E⟩ := E
  obtain ⟨FB, F2, eF, h1, h2⟩ := E.sk.split hl
  subst eF
  obtain ⟨F, f1, f2, f3, f4⟩ := hA _ F1 FB E.part E.g E.sl h1
  exact ⟨F1, F ++ F2, E.top h2 s f1 f2 f3 f4⟩
/-- what waits on top goes -/
theorem Env.pop (E : Env c ts (es ++ us) σ (ws ++ vs) H) (hl : es.length = ws.length) : Env c ts us σ vs H := by
  obtain ⟨F1, F0, E⟩ := E
  obtain ⟨FB, F2, eF, h1, h2⟩ := E.sk.split hl
  subst eF
  have sub : ∀ a, a ∈ F1 ++ F2 → a ∈ F1 ++ (FB ++ F2) := fun a h => by
    rcases List.mem_append.mp h with h | h
    · exact List.mem_append_left _ h
    · exact List.mem_append_right _ (List.mem_append_right _ h)
  have sP : Same (hide (c.Of ++ (F1 ++ (FB ++ F2))) H) (hide (c.Of ++ (F1 ++ F2)) H) := fun a o q => by
    obtain ⟨n, q⟩ := hide_some q
    rw [hide_of (fun z => n ?_)]
    · exact q
    · rcases List.mem_append.mp z with z | z
      · exact List.mem_append_left _ z
      · exact List.mem_append_right _ (sub a z)
  refine ⟨F1, F2, E.sl.st sP fun a _ o q => q, h2.st sP fun a _ o q => q, ?_, fun a ha => E.fr a (sub a ha), E.g, E.og⟩
  obtain ⟨n1, n2, n3⟩ := List.nodup_append.mp E.nd
  obtain ⟨m1, m2, m3⟩ := List.nodup_append.mp n2
  exact List.nodup_append.mpr ⟨n1, m2, fun a ha b hb => n3 a ha b (List.mem_append_right _ hb)⟩

/-! ### readers -/
/-- the entry e shows x -/
def Rd (c : Cw) (ts : List (Option Asn)) (e : Ent) {α : Type} [Py α] (x : α) : Prop :=
  ∀ {P H : Hp} {σ : Sl} {F F1 : List Addr} {v : V}, Part P H → Same c.G H → EnvL P H ts σ F1 → StkOk P H σ e v F → Py.rep c.X.K H v x
theorem asn_rep {α : Type} [Py α] {K : PySem.W.Frag} {G : Hp} {m : Md} {x : α} {P H : Hp} {F : List Addr} {v : V} (p : Same P H) (g : Same G H) (h : (asn K G m x).p P H F v) : Py.rep K H v x := by
  cases m with
  | val => exact Py.mono p h.2
  | bor => exact Py.mono g h.2
  | own => exact Py.own_rep p (fun _ _ _ q => q) h
theorem rdA {α : Type} [Py α] {m : Md} {x : α} : Rd c ts (.as (asn c.X.K c.G m x)) x := fun p g _ h => asn_rep p.le g h
theorem EnvL.get {P H : Hp} {i : Nat} {A : Asn} (E : EnvL P H ts σ F) (h : ts[i]? = some (some A)) : ∃ v Fi, σ[i]? = some (some v) ∧ A.p P H Fi v := by
  obtain ⟨v, F1, Fi, F2, e, _, q, _⟩ := E.at i h
  obtain ⟨u, e', q⟩ := q
  subst e'
  exact ⟨u, Fi, e, q⟩
theorem rdL {α : Type} [Py α] {m : Md} {x : α} (i : Nat) (h : ts[i]? = some (some (asn c.X.K c.G m x))) : Rd c ts (.al i) x := fun p g E h' => by
  obtain ⟨v, Fi, e, q⟩ := E.get h
  obtain ⟨_, e'⟩ := h'
  rw [e] at e'
  cases e'
  exact asn_rep p.le g q
/-- the entry e is a list that shows xs, and what stands in it stays -/
def RdE (c : Cw) (ts : List (Option Asn)) (e : Ent) {α : Type} [Py α] (xs : List α) : Prop :=
  ∀ {P H : Hp} {σ : Sl} {F F1 : List Addr} {v : V}, Part P H → Same c.G H → EnvL P H ts σ F1 → StkOk P H σ e v F → ∃ a vs, v = .ref a ∧ H a = some (.lst vs) ∧ Reps c.X.K P vs xs
theorem Rd.els {α : Type} [Py α] [PyI α] {e : Ent} {xs : List α} (r : Rd c ts e xs) : RdE c ts e xs := fun p g E h => by
  obtain ⟨a, vs, e, h, q⟩ := r p g E h
  exact ⟨a, vs, e, h, Paired.mapP q fun _ _ z => p.imm z⟩
theorem asn_els {α : Type} [Py α] {K : PySem.W.Frag} {G : Hp} {m : Md} {xs : List α} {P H : Hp} {F : List Addr} {v : V} (hm : m = .val ∨ m = .own) (p : Same P H) (h : (asn K G m xs).p P H F v) : ∃ a vs, v = .ref a ∧ H a = some (.lst vs) ∧ Reps K P vs xs := by
  rcases hm with e | e
  · subst e
    obtain ⟨_, a, vs, e, h, r⟩ := h
    exact ⟨a, vs, e, p _ _ h, r⟩
  · subst e
    obtain ⟨a, vs, e, _, h, r⟩ := h
    exact ⟨a, vs, e, h, r⟩
theorem rdeA {α : Type} [Py α] {m : Md} {xs : List α} (hm : m = .val ∨ m = .own := by first | exact .inl rfl | exact .inr rfl) : RdE c ts (.as (asn c.X.K c.G m xs)) xs := fun p g _ h => asn_els hm p.le h
theorem rdeL {α : Type} [Py α] {m : Md} {xs : List α} (i : Nat) (h : ts[i]? = some (some (asn c.X.K c.G m xs))) (hm : m = .val ∨ m = .own := by first | exact .inl rfl | exact .inr rfl) : RdE c ts (.al i) xs := fun p g E h' => by
  obtain ⟨v, Fi, e, q⟩ := E.get h
  obtain ⟨_, e'⟩ := h'
  rw [e] at e'
  cases e'
  exact asn_els hm p.le q
end

/-! ### the judgements -/
def ErrAt (e : Err) (d : Option Addr) (H' : Hp) : Prop := match e.fs with
  | none => d = none
  | some fs => ∃ a, d = some a ∧ H' a = some (.xd fs)
/-- where an error leaves: of the slots only what tx tells is known -/
def EnvX (c : Cw) (us : List Ent) (σ : Sl) (vs : List V) (H : Hp) : Prop := match c.tx with
  | none => Same c.G H
  | some tx => Env c tx us σ vs H
/-- what an error must meet -/
def Ex (c : Cw) (us : List Ent) (σ : Sl) (vs : List V) (e : Err) : Prop := ∀ d H', ErrAt e d H' → EnvX c us σ vs H' → c.W (.ref (c.eg e.k)) d σ H'
theorem EnvX.pop {c : Cw} {us es : List Ent} {σ : Sl} {vs ws : List V} {H : Hp} (E : EnvX c (es ++ us) σ (ws ++ vs) H) (hl : es.length = ws.length) : EnvX c us σ vs H := by
  unfold EnvX at E ⊢
  split at E
  · exact E
  · exact Env.pop E hl
def tJ (c : Cw) (ts : List (Option Asn)) {α : Type} (m : Out α) (A : α → Ent) : TE := fun σ H Q => ∃ us vs, Env c ts us σ vs H ∧ m.wp (fun a => ∀ v H', Env c ts (A a :: us) σ (v :: vs) H' → Q v H') (Ex c us σ vs)
def tT (c : Cw) (ts : List (Option Asn)) (m : Out Bool) : TT := fun σ H Q => ∃ us vs, Env c ts us σ vs H ∧ m.wp (fun b => ∀ H', Env c ts us σ vs H' → Q b H') (Ex c us σ vs)
/-- e is worth m -/
def JE (c : Cw) (ts : List (Option Asn)) (e : Expr) {α : Type} (m : Out α) (A : α → Ent) : Prop := PE c.X e (tJ c ts m A)
def JT (c : Cw) (ts : List (Option Asn)) (e : Expr) (m : Out Bool) : Prop := PT c.X e (tT c ts m)
theorem PE.imp {X : Cx} {e : Expr} {t t' : TE} (h : PE X e t) (i : ∀ σ H Q, t' σ H Q → t σ H Q) : PE X e t' := ⟨fun pins s σ H Q I q => h.run pins s σ H Q I (i σ H Q q)⟩
theorem PT.imp {X : Cx} {e : Expr} {t t' : TT} (h : PT X e t) (i : ∀ σ H Q, t' σ H Q → t σ H Q) : PT X e t' := ⟨fun pins s σ H Q I q => h.run pins s σ H Q I (i σ H Q q)⟩
/-- a value that stays; one that is owned -/
def Vl (c : Cw) {α : Type} [Py α] (x : α) : Ent := .as (asn c.X.K c.G .val x)
def Ow (c : Cw) {α : Type} [Py α] (x : α) : Ent := .as (asn c.X.K c.G .own x)

section
variable {c : Cw} {ts : List (Option Asn)} {us es : List Ent} {σ : Sl} {vs ws : List V} {H H' : Hp} {α β γ : Type} [Py α] [Py β] [Py γ]
theorem rdV {x : α} : Rd c ts (Vl c x) x := rdA
theorem rdO {x : α} : Rd c ts (Ow c x) x := rdA
theorem rdeV {x : List α} : RdE c ts (Vl c x) x := rdeA
theorem rdeO {x : List α} : RdE c ts (Ow c x) x := rdeA
/-- a value without heap comes -/
theorem Env.pushS [PyS α] {x : α} {v : V} {K : PySem.W.Frag} {H0 : Hp} (E : Env c ts (es ++ us) σ (ws ++ vs) H) (hl : es.length = ws.length) (r : Py.rep K H0 v x) : Env c ts (Vl c x :: us) σ (v :: vs) H :=
  E.top hl (Same.refl _) fun P _ _ _ _ _ _ => ⟨[], fun _ h => (nomatch h), List.nodup_nil, fun _ h => (nomatch h), fun P' _ _ _ => ⟨rfl, PyS.any r⟩⟩
/-- a value that is seen comes -/
theorem Env.pushV {x : α} {v : V} (E : Env c ts (es ++ us) σ (ws ++ vs) H) (hl : es.length = ws.length) (s : Same H H')
    (r : ∀ P F1 FB, Part P H → Same c.G H → EnvL P H ts σ F1 → StkL P H σ es ws FB → ∀ P', Same P P' → (∀ b o, H b = none → H' b = some o → P' b = some o) → Py.rep c.X.K P' v x) : Env c ts (Vl c x :: us) σ (v :: vs) H' :=
  E.top hl s fun P F1 FB p g e k => ⟨[], fun _ h => (nomatch h), List.nodup_nil, fun _ h => (nomatch h), fun P' s' n _ => ⟨rfl, r P F1 FB p g e k P' s' fun b o h1 h2 => n b o (.inl h1) (by simp) h2⟩⟩
theorem same_new {p : Addr} {o : HO} (h : H p = none) : Same H (upd H p o) := fun b u e => by
  rw [upd_ne (ne_of_none e h)]
  exact e
/-- a new list comes -/
theorem Env.pushN {xs : List α} {zs : List V} {p : Addr} (E : Env c ts (es ++ us) σ (ws ++ vs) H) (hl : es.length = ws.length) (hp : H p = none)
    (r : ∀ P F1 FB, Part P H → Same c.G H → EnvL P H ts σ F1 → StkL P H σ es ws FB → Reps c.X.K P zs xs) : Env c ts (Ow c xs :: us) σ (.ref p :: vs) (upd H p (.lst zs)) :=
  E.top hl (same_new hp) fun P F1 FB pp g e k => ⟨[p], fun a h => .inr (by rw [List.mem_singleton.mp h]; exact hp), (by simp), fun a h => ⟨.lst zs, by rw [List.mem_singleton.mp h]; exact upd_same, rfl⟩,
    fun P' s' n _ => ⟨p, zs, rfl, rfl, upd_same, (r P F1 FB pp g e k).mono s'⟩⟩

/-! names -/
theorem Env.slot {i : Nat} {A : Asn} (E : Env c ts us σ vs H) (h : ts[i]? = some (some A)) : ∃ v P F F1, σ[i]? = some (some v) ∧ Part P H ∧ EnvL P H ts σ F1 ∧ A.p P H F v := by
  obtain ⟨F1, F2, E⟩ := E
  obtain ⟨v, Fi, e, q⟩ := E.sl.get h
  exact ⟨v, _, Fi, F1, e, E.part, E.sl, q⟩
theorem EnvF.slot {i : Nat} {A : Asn} {F1 F2 : List Addr} (E : EnvF c ts us σ vs H F1 F2) (h : ts[i]? = some (some A)) : ∃ v F, σ[i]? = some (some v) ∧ A.p (hide (c.Of ++ (F1 ++ F2)) H) H F v := by
  obtain ⟨v, Fi, e, q⟩ := E.sl.get h
  exact ⟨v, Fi, e, q⟩
/-- a copy of a slot -/
theorem je_al {x : α} {m : Md} {n : Str} {pos : Pos} (i : Nat) (h : ts[i]? = some (some (asn c.X.K c.G m x))) (hp : PE c.X (.Name n pos) (tVar i)) : JE c ts (.Name n pos) (.ok x) (fun _ => .al i) :=
  PE.imp hp fun σ H Q ⟨us, vs, E, q⟩ => by
    obtain ⟨v, P, F, F1, e, _, _, _⟩ := E.slot h
    refine ⟨v, e, q v H ?_⟩
    exact Env.top (es := []) (ws := []) E rfl (Same.refl _) fun P F1 FB _ _ _ _ => ⟨[], fun _ h => (nomatch h), List.nodup_nil, fun _ h => (nomatch h), fun P' _ _ _ => ⟨rfl, e⟩⟩
/-- the entry e where p holds, else nothing -/
noncomputable def cndE (p : Prop) (e : Ent) : Ent := @ite Ent p (Classical.propDecidable p) e (.as ⟨fun _ _ _ _ => False, fun _ _ h => h⟩)
theorem cndE_pos {p : Prop} {e : Ent} (h : p) : cndE p e = e := @if_pos p (Classical.propDecidable p) h Ent _ _
theorem rdCnd {p : Prop} {e : Ent} {x : α} (h : p → Rd c ts e x) : Rd c ts (cndE p e) x := fun pp g E k => by
  by_cases hp : p
  · rw [cndE_pos hp] at k
    exact h hp pp g E k
  · have z : cndE p e = .as ⟨fun _ _ _ _ => False, fun _ _ h => h⟩ := @if_neg p (Classical.propDecidable p) hp Ent _ _
    rw [z] at k
    exact k.elim
theorem rdeCnd {p : Prop} {e : Ent} {x : List α} (h : p → RdE c ts e x) : RdE c ts (cndE p e) x := fun pp g E k => by
  by_cases hp : p
  · rw [cndE_pos hp] at k
    exact h hp pp g E k
  · have z : cndE p e = .as ⟨fun _ _ _ _ => False, fun _ _ h => h⟩ := @if_neg p (Classical.propDecidable p) hp Ent _ _
    rw [z] at k
    exact k.elim
/-- slot i, which holds x -/
noncomputable def Al (i : Nat) (x y : α) : Ent := cndE (y = x) (.al i)
theorem rdS {m : Md} {x : α} (i : Nat) (h : ts[i]? = some (some (asn c.X.K c.G m x))) : ∀ y, Rd c ts (Al i x y) y := fun y => rdCnd fun e => by
  rw [e]
  exact rdL i h
theorem rdeS {m : Md} {x : List α} (i : Nat) (h : ts[i]? = some (some (asn c.X.K c.G m x))) (hm : m = .val ∨ m = .own := by first | exact .inl rfl | exact .inr rfl) : ∀ y, RdE c ts (Al i x y) y := fun y => rdeCnd fun e => by
  rw [e]
  exact rdeL i h hm
theorem je_sl {x : α} {m : Md} {n : Str} {pos : Pos} (i : Nat) (h : ts[i]? = some (some (asn c.X.K c.G m x))) (hp : PE c.X (.Name n pos) (tVar i)) : JE c ts (.Name n pos) (.ok x) (Al i x) :=
  PE.imp (je_al i h hp) fun σ H Q ⟨us, vs, E, q⟩ => ⟨us, vs, E, fun v H' E' => q v H' (by
    unfold Al
    rw [cndE_pos rfl]
    exact E')⟩
/-- a name whose value is seen -/
theorem je_nm {x : α} {n : Str} {pos : Pos} (i : Nat) (h : ts[i]? = some (some (asn c.X.K c.G .val x))) (hp : PE c.X (.Name n pos) (tVar i)) : JE c ts (.Name n pos) (.ok x) (Vl c) :=
  PE.imp hp fun σ H Q ⟨us, vs, E, q⟩ => by
    obtain ⟨v, P, F, F1, e, _, _, _⟩ := E.slot h
    refine ⟨v, e, q v H (Env.pushV (es := []) (ws := []) E rfl (Same.refl _) fun P F1 FB _ _ E' _ P' s' _ => ?_)⟩
    obtain ⟨v', F', e', q'⟩ := E'.get h
    rw [e] at e'
    cases e'
    exact Py.mono s' q'.2
/-- .. of a type whose values stay anyway -/
theorem je_ni [PyI α] {x : α} {m : Md} {n : Str} {pos : Pos} (i : Nat) (h : ts[i]? = some (some (asn c.X.K c.G m x))) (hp : PE c.X (.Name n pos) (tVar i)) : JE c ts (.Name n pos) (.ok x) (Vl c) :=
  PE.imp hp fun σ H Q ⟨us, vs, E, q⟩ => by
    obtain ⟨v, P, F, F1, e, _, _, _⟩ := E.slot h
    refine ⟨v, e, q v H (Env.pushV (es := []) (ws := []) E rfl (Same.refl _) fun P F1 FB p g E' _ P' s' _ => ?_)⟩
    obtain ⟨v', F', e', q'⟩ := E'.get h
    rw [e] at e'
    cases e'
    exact Py.mono s' (p.imm (asn_rep p.le g q'))
/-! constants -/
theorem je_k {e : Expr} {x : α} [PyS α] {v : V} (hp : PE c.X e (tC v)) (r : ∀ K H, Py.rep K H v x) : JE c ts e (.ok x) (Vl c) :=
  PE.imp hp fun σ H Q ⟨us, vs, E, q⟩ => q v H (Env.pushS (es := []) (ws := []) (K := c.X.K) (H0 := H) E rfl (r _ _))
theorem je_int {i : Int} {k : Nat} {pos : Pos} : JE c ts (.Constant (.int i) k pos) (.ok i) (Vl c) := je_k pe_int fun _ _ => rfl
theorem je_bl {b : Bool} {k : Nat} {pos : Pos} : JE c ts (.Constant (.bool b) k pos) (.ok b) (Vl c) := je_k pe_bl fun _ _ => rfl
theorem je_str {x : Str} {k : Nat} {pos : Pos} : JE c ts (.Constant (.str x) k pos) (.ok x) (Vl c) := je_k pe_str fun _ _ => rfl
theorem je_non {k : Nat} {pos : Pos} : JE c ts (.Constant .none k pos) (.ok ()) (Vl c) := je_k pe_non fun _ _ => rfl
theorem je_none {k : Nat} {pos : Pos} : JE c ts (.Constant .none k pos) (.ok (none : Option α)) (Vl c) :=
  PE.imp pe_non fun σ H Q ⟨us, vs, E, q⟩ => q _ H (Env.pushV (es := []) (ws := []) E rfl (Same.refl _) fun P F1 FB _ _ E' _ P' s' _ => rfl)

/-! two parts -/
theorem je_two {a b e : Expr} {ma : Out α} {mb : Out β} {A : α → Ent} {B : β → Ent} {C : γ → Ent} {f : α → β → Out γ} {r : R2} {t : TE → TE → TE} (hp : ∀ {ta tb}, PE c.X a ta → PE c.X b tb → PE c.X e (t ta tb)) (ha : JE c ts a ma A) (hb : JE c ts b mb B)
    (ht : ∀ {ta tb σ H Q}, ta σ H (fun x H1 => tb σ H1 fun y H2 => r x y H2 Q) → t ta tb σ H Q)
    (hr : ∀ {us σ vs H2 i j x y Q}, Env c ts (B j :: A i :: us) σ (y :: x :: vs) H2 → (f i j).wp (fun z => ∀ v H', Env c ts (C z :: us) σ (v :: vs) H' → Q v H') (Ex c us σ vs) → r x y H2 Q) :
    JE c ts e (ma.bind fun i => mb.bind fun j => f i j) C :=
  PE.imp (hp ha hb) fun σ H Q ⟨us, vs, E, q⟩ => by
    refine ht ⟨us, vs, E, Out.wp_mono (Out.wp_bind q) (fun i _ q => ?_) fun _ _ h => h⟩
    intro x H1 E1
    refine ⟨_, _, E1, Out.wp_mono (Out.wp_bind q) (fun j _ q => ?_) fun e _ h => ?_⟩
    · intro y H2 E2
      exact hr E2 q
    · intro d H' e1 E3
      exact h d H' e1 (EnvX.pop (es := [A i]) (ws := [x]) E3 rfl)
theorem je_bin {a b : Expr} {op : Operator} {pos : Pos} {ma : Out α} {mb : Out β} {A : α → Ent} {B : β → Ent} {C : γ → Ent} {f : α → β → Out γ} {r : R2} (ho : OpR c.X (binaryOp op) r) (ha : JE c ts a ma A) (hb : JE c ts b mb B)
    (hr : ∀ {us σ vs H2 i j x y Q}, Env c ts (B j :: A i :: us) σ (y :: x :: vs) H2 → (f i j).wp (fun z => ∀ v H', Env c ts (C z :: us) σ (v :: vs) H' → Q v H') (Ex c us σ vs) → r x y H2 Q) :
    JE c ts (.BinOp a op b pos) (ma.bind fun i => mb.bind fun j => f i j) C :=
  je_two (t := tOp r) (r := r) (pe_op ho) ha hb (fun h => h) hr
theorem je_cmpG {a b : Expr} {op : CmpOp} {pos : Pos} {ma : Out α} {mb : Out β} {A : α → Ent} {B : β → Ent} {C : γ → Ent} {f : α → β → Out γ} {r : R2} (ho : OpR c.X (compareOp op) r) (hm : behindInMarks op b = false) (ha : JE c ts a ma A) (hb : JE c ts b mb B)
    (hr : ∀ {us σ vs H2 i j x y Q}, Env c ts (B j :: A i :: us) σ (y :: x :: vs) H2 → (f i j).wp (fun z => ∀ v H', Env c ts (C z :: us) σ (v :: vs) H' → Q v H') (Ex c us σ vs) → r x y H2 Q) :
    JE c ts (.Compare a [op] [b] pos) (ma.bind fun i => mb.bind fun j => f i j) C :=
  je_two (t := tOp r) (r := r) (fun h1 h2 => pe_cmpR ho h1 h2 hm) ha hb (fun h => h) hr
theorem Env.top2 {x y : V} {i : α} {j : β} (E : Env c ts (Vl c j :: Vl c i :: us) σ (y :: x :: vs) H) : ∃ P P', Py.rep c.X.K P x i ∧ Py.rep c.X.K P' y j := by
  obtain ⟨F1, F2, E⟩ := E
  obtain ⟨G1, G2, e, h1, G3, G4, e', h2, _⟩ := E.sk
  exact ⟨_, _, h2.2, h1.2⟩
theorem Env.top1 {x : V} {i : α} (E : Env c ts (Vl c i :: us) σ (x :: vs) H) : ∃ P, Part P H ∧ Py.rep c.X.K P x i := by
  obtain ⟨F1, F2, E⟩ := E
  obtain ⟨G1, G2, e, h1, _⟩ := E.sk
  exact ⟨_, E.part, h1.2⟩
theorem Env.ints {x y : V} {i j : Int} (E : Env c ts (Vl c j :: Vl c i :: us) σ (y :: x :: vs) H) : x = .int i ∧ y = .int j := by
  obtain ⟨_, _, h1, h2⟩ := E.top2
  exact ⟨h1, h2⟩

/-- ints: an operator that is always defined -/
theorem je_i0 {a b : Expr} {op : Operator} {pos : Pos} {ma mb : Out Int} {g : Int → Int → Int} (ho : OpR c.X (binaryOp op) (rI0 fun i j => .int (g i j))) (ha : JE c ts a ma (Vl c)) (hb : JE c ts b mb (Vl c)) :
    JE c ts (.BinOp a op b pos) (ma.bind fun i => mb.bind fun j => .ok (g i j)) (Vl c) :=
  je_bin ho ha hb fun {us σ vs H2 i j x y Q} E q => by
    obtain ⟨e1, e2⟩ := E.ints
    exact ⟨i, j, e1, e2, q _ H2 (Env.pushS (es := [_, _]) (ws := [_, _]) (K := c.X.K) (H0 := H2) E rfl rfl)⟩
end
/-- known only where p holds -/
def chk {α : Type} (p : Prop) [Decidable p] (x : α) : Out α := if p then .ok x else .bad
theorem chk_pos {α : Type} {p : Prop} [Decidable p] {x : α} (h : p) : chk p x = .ok x := if_pos h
theorem wp_chk {α : Type} {p : Prop} [Decidable p] {x : α} {Q : α → Prop} {E : Err → Prop} (h : (chk p x).wp Q E) : p ∧ Q x := by
  unfold chk at h
  split at h
  · rename_i hp
    exact ⟨hp, h⟩
  · exact h.elim
section
variable {c : Cw} {ts : List (Option Asn)} {us es : List Ent} {σ : Sl} {vs ws : List V} {H H' : Hp} {a b : Expr} {pos : Pos} {ma mb : Out Int}
/-- ints: an operator that asks something -/
theorem je_iC {op : Operator} {C : Int → Int → Prop} [∀ i j, Decidable (C i j)] {g : Int → Int → Int} (ho : OpR c.X (binaryOp op) (rI C fun i j => .int (g i j))) (ha : JE c ts a ma (Vl c)) (hb : JE c ts b mb (Vl c)) :
    JE c ts (.BinOp a op b pos) (ma.bind fun i => mb.bind fun j => chk (C i j) (g i j)) (Vl c) :=
  je_bin ho ha hb fun {us σ vs H2 i j x y Q} E q => by
    obtain ⟨e1, e2⟩ := E.ints
    obtain ⟨hc, q⟩ := wp_chk q
    exact ⟨i, j, e1, e2, hc, q _ H2 (Env.pushS (es := [_, _]) (ws := [_, _]) (K := c.X.K) (H0 := H2) E rfl rfl)⟩
/-- .. whose right side is written -/
theorem je_iK {op : Operator} {C : Int → Int → Prop} {g : Int → Int → Int} {k : Int} {n : Nat} {pos' : Pos} (ho : OpR c.X (binaryOp op) (rI C fun i j => .int (g i j))) (ha : JE c ts a ma (Vl c)) (hk : ∀ i, C i k) :
    JE c ts (.BinOp a op (.Constant (.int k) n pos') pos) (ma.bind fun i => .ok (g i k)) (Vl c) :=
  je_bin (f := fun i j => .ok (g i k)) (mb := .ok k) (B := fun _ => Vl c k) ho ha je_int fun {us σ vs H2 i j x y Q} E q => by
    obtain ⟨e1, e2⟩ := E.ints
    exact ⟨i, k, e1, e2, hk i, q _ H2 (Env.pushS (es := [_, _]) (ws := [_, _]) (K := c.X.K) (H0 := H2) E rfl rfl)⟩
/-- .. whose left side is written -/
theorem je_iKl {op : Operator} {C : Int → Int → Prop} {g : Int → Int → Int} {k : Int} {n : Nat} {pos' : Pos} (ho : OpR c.X (binaryOp op) (rI C fun i j => .int (g i j))) (hb : JE c ts b mb (Vl c)) (hk : ∀ i, C k i) :
    JE c ts (.BinOp (.Constant (.int k) n pos') op b pos) (mb.bind fun j => .ok (g k j)) (Vl c) :=
  je_bin (f := fun i j => .ok (g k j)) (ma := .ok k) (A := fun _ => Vl c k) ho je_int hb fun {us σ vs H2 i j x y Q} E q => by
    obtain ⟨e1, e2⟩ := E.ints
    exact ⟨k, j, e1, e2, hk j, q _ H2 (Env.pushS (es := [_, _]) (ws := [_, _]) (K := c.X.K) (H0 := H2) E rfl rfl)⟩
theorem je_add (ha : JE c ts a ma (Vl c)) (hb : JE c ts b mb (Vl c)) : JE c ts (.BinOp a .Add b pos) (ma.bind fun i => mb.bind fun j => .ok (i + j)) (Vl c) := je_i0 op_add ha hb
theorem je_sub (ha : JE c ts a ma (Vl c)) (hb : JE c ts b mb (Vl c)) : JE c ts (.BinOp a .Sub b pos) (ma.bind fun i => mb.bind fun j => .ok (i - j)) (Vl c) := je_i0 op_sub ha hb
theorem je_modK {k : Int} {n : Nat} {pos' : Pos} (ha : JE c ts a ma (Vl c)) (hk : 0 < k := by decide) : JE c ts (.BinOp a .Mod (.Constant (.int k) n pos') pos) (ma.bind fun i => .ok (i % k)) (Vl c) := je_iK op_mod ha fun _ => hk
theorem je_mod (ha : JE c ts a ma (Vl c)) (hb : JE c ts b mb (Vl c)) : JE c ts (.BinOp a .Mod b pos) (ma.bind fun i => mb.bind fun j => chk (0 < j) (i % j)) (Vl c) := je_iC op_mod ha hb
theorem je_divK {k : Int} {n : Nat} {pos' : Pos} (ha : JE c ts a ma (Vl c)) (hk : 0 < k ∧ k < 1073741824 := by decide) : JE c ts (.BinOp a .FloorDiv (.Constant (.int k) n pos') pos) (ma.bind fun i => .ok (i / k)) (Vl c) := je_iK op_fdiv ha fun _ => hk
theorem je_mulK {k : Int} {n : Nat} {pos' : Pos} (ha : JE c ts a ma (Vl c)) (hk : -(2 ^ 64) < k ∧ k < 2 ^ 64 := by decide) : JE c ts (.BinOp a .Mult (.Constant (.int k) n pos') pos) (ma.bind fun i => .ok (i * k)) (Vl c) := je_iK op_mul ha fun _ => .inr hk
theorem je_mulKl {k : Int} {n : Nat} {pos' : Pos} (hb : JE c ts b mb (Vl c)) (hk : -(2 ^ 64) < k ∧ k < 2 ^ 64 := by decide) : JE c ts (.BinOp (.Constant (.int k) n pos') .Mult b pos) (mb.bind fun i => .ok (k * i)) (Vl c) := je_iKl op_mul hb fun _ => .inl hk
instance (i j : Int) : Decidable (CMul i j) := by unfold CMul; infer_instance
theorem je_mul (ha : JE c ts a ma (Vl c)) (hb : JE c ts b mb (Vl c)) : JE c ts (.BinOp a .Mult b pos) (ma.bind fun i => mb.bind fun j => chk (CMul i j) (i * j)) (Vl c) := je_iC op_mul ha hb
/-- a power of written numbers -/
theorem je_powK {i k : Int} {n n' : Nat} {pos1 pos2 : Pos} (hk : 0 ≤ k ∧ k ≤ 1000000 ∧ i.natAbs < 2 ^ 64 := by decide) : JE c ts (.BinOp (.Constant (.int i) n pos1) .Pow (.Constant (.int k) n' pos2) pos) (.ok (i ^ k.toNat)) (Vl c) :=
  je_bin (f := fun _ _ => .ok (i ^ k.toNat)) (ma := .ok i) (mb := .ok k) (A := fun _ => Vl c i) (B := fun _ => Vl c k) op_pow je_int je_int fun {us σ vs H2 i' j x y Q} E q => by
    obtain ⟨e1, e2⟩ := E.ints
    exact ⟨i, k, e1, e2, hk, q _ H2 (Env.pushS (es := [_, _]) (ws := [_, _]) (K := c.X.K) (H0 := H2) E rfl rfl)⟩
end
end Mw
set_option maxRecDepth 100000
set_option maxHeartbeats 4000000
namespace Mw
open PySem PySem.Spec PyProof.Rows L2

/-! ### tests, truth values -/
section
variable {c : Cw} {ts : List (Option Asn)} {us es : List Ent} {σ : Sl} {vs ws : List V} {H H' : Hp} {α β γ : Type} [Py α] [Py β] [Py γ] {a b e : Expr} {pos : Pos}

theorem jt_of {m : Out Bool} {t : TE} (hp : PT c.X e (tTest t)) (h : ∀ σ H Q, tJ c ts m (Vl c) σ H Q → t σ H Q) : JT c ts e m :=
  PT.imp hp fun σ H Q ⟨us, vs, E, q⟩ => h σ H _ ⟨us, vs, E, Out.wp_mono q (fun b _ q v H' E' => by
    obtain ⟨_, _, h1⟩ := E'.top1
    exact ⟨b, h1, q H' (Env.pop (es := [_]) (ws := [_]) E' rfl)⟩) fun _ _ z => z⟩
/-- an expression worth a truth value, as a test -/
theorem jt_val {m : Out Bool} (h : JE c ts e m (Vl c)) (he : ∀ whole, isTrue e c.X.env whole = (do let v ← whole; standAt e.pos; holding [v] (truthy v)) := by intro _; rfl) : JT c ts e m :=
  jt_of (pt_val h he) fun _ _ _ z => z

theorem two_imp {ma : Out α} {mb : Out β} {A : α → Ent} {B : β → Ent} {C : γ → Ent} {f : α → β → Out γ} {r : R2}
    (hr : ∀ {us σ vs H2 i j x y Q}, Env c ts (B j :: A i :: us) σ (y :: x :: vs) H2 → (f i j).wp (fun z => ∀ v H', Env c ts (C z :: us) σ (v :: vs) H' → Q v H') (Ex c us σ vs) → r x y H2 Q)
    (σ : Sl) (H : Hp) (Q : VK) : tJ c ts (ma.bind fun i => mb.bind fun j => f i j) C σ H Q → tOp r (tJ c ts ma A) (tJ c ts mb B) σ H Q := fun ⟨us, vs, E, q⟩ => by
  refine ⟨us, vs, E, Out.wp_mono (Out.wp_bind q) (fun i _ q => ?_) fun _ _ h => h⟩
  intro x H1 E1
  refine ⟨_, _, E1, Out.wp_mono (Out.wp_bind q) (fun j _ q => ?_) fun e _ h => ?_⟩
  · intro y H2 E2
    exact hr E2 q
  · intro d H' e1 E3
    exact h d H' e1 (EnvX.pop (es := [A i]) (ws := [x]) E3 rfl)
/-- a comparison: as a value, as a test -/
theorem je_cmp {op : CmpOp} {ma : Out α} {mb : Out β} {A : α → Ent} {B : β → Ent} {f : α → β → Out Bool} {r : R2} (ho : OpR c.X (compareOp op) r)
    (hr : ∀ {us σ vs H2 i j x y Q}, Env c ts (B j :: A i :: us) σ (y :: x :: vs) H2 → (f i j).wp (fun z => ∀ v H', Env c ts (Vl c z :: us) σ (v :: vs) H' → Q v H') (Ex c us σ vs) → r x y H2 Q)
    (hm : behindInMarks op b = false) (ha : JE c ts a ma A) (hb : JE c ts b mb B) : JE c ts (.Compare a [op] [b] pos) (ma.bind fun i => mb.bind fun j => f i j) (Vl c) :=
  PE.imp (pe_cmpR ho ha hb hm) (two_imp hr)
theorem jt_cmp {op : CmpOp} {ma : Out α} {mb : Out β} {A : α → Ent} {B : β → Ent} {f : α → β → Out Bool} {r : R2} (ho : OpR c.X (compareOp op) r)
    (hr : ∀ {us σ vs H2 i j x y Q}, Env c ts (B j :: A i :: us) σ (y :: x :: vs) H2 → (f i j).wp (fun z => ∀ v H', Env c ts (Vl c z :: us) σ (v :: vs) H' → Q v H') (Ex c us σ vs) → r x y H2 Q)
    (hm : behindInMarks op b = false) (ha : JE c ts a ma A) (hb : JE c ts b mb B) : JT c ts (.Compare a [op] [b] pos) (ma.bind fun i => mb.bind fun j => f i j) :=
  jt_of (pt_cmpR ho ha hb hm) (two_imp hr)

theorem hr_ii {g : Int → Int → Bool} : ∀ {us σ vs H2} {i j : Int} {x y : V} {Q : VK}, Env c ts (Vl c j :: Vl c i :: us) σ (y :: x :: vs) H2 → (Out.ok (g i j)).wp (fun z => ∀ v H', Env c ts (Vl c z :: us) σ (v :: vs) H' → Q v H') (Ex c us σ vs) →
    rI0 (fun i j => .bl (g i j)) x y H2 Q := fun {us σ vs H2 i j x y Q} E q => by
  obtain ⟨e1, e2⟩ := E.ints
  exact ⟨i, j, e1, e2, q _ H2 (Env.pushS (es := [_, _]) (ws := [_, _]) (K := c.X.K) (H0 := H2) E rfl rfl)⟩
variable {ma mb : Out Int}
theorem je_lt (ha : JE c ts a ma (Vl c)) (hb : JE c ts b mb (Vl c)) : JE c ts (.Compare a [.Lt] [b] pos) (ma.bind fun i => mb.bind fun j => .ok (decide (i < j))) (Vl c) := je_cmp op_lt (hr_ii (g := fun i j => decide (i < j))) (nomark _) ha hb
theorem je_le (ha : JE c ts a ma (Vl c)) (hb : JE c ts b mb (Vl c)) : JE c ts (.Compare a [.LtE] [b] pos) (ma.bind fun i => mb.bind fun j => .ok (decide (i ≤ j))) (Vl c) := je_cmp op_le (hr_ii (g := fun i j => decide (i ≤ j))) (nomark _) ha hb
theorem je_gt (ha : JE c ts a ma (Vl c)) (hb : JE c ts b mb (Vl c)) : JE c ts (.Compare a [.Gt] [b] pos) (ma.bind fun i => mb.bind fun j => .ok (decide (j < i))) (Vl c) := je_cmp op_gt (hr_ii (g := fun i j => decide (j < i))) (nomark _) ha hb
theorem je_ge (ha : JE c ts a ma (Vl c)) (hb : JE c ts b mb (Vl c)) : JE c ts (.Compare a [.GtE] [b] pos) (ma.bind fun i => mb.bind fun j => .ok (decide (j ≤ i))) (Vl c) := je_cmp op_ge (hr_ii (g := fun i j => decide (j ≤ i))) (nomark _) ha hb
theorem jt_lt (ha : JE c ts a ma (Vl c)) (hb : JE c ts b mb (Vl c)) : JT c ts (.Compare a [.Lt] [b] pos) (ma.bind fun i => mb.bind fun j => .ok (decide (i < j))) := jt_cmp op_lt (hr_ii (g := fun i j => decide (i < j))) (nomark _) ha hb
theorem jt_le (ha : JE c ts a ma (Vl c)) (hb : JE c ts b mb (Vl c)) : JT c ts (.Compare a [.LtE] [b] pos) (ma.bind fun i => mb.bind fun j => .ok (decide (i ≤ j))) := jt_cmp op_le (hr_ii (g := fun i j => decide (i ≤ j))) (nomark _) ha hb
theorem jt_gt (ha : JE c ts a ma (Vl c)) (hb : JE c ts b mb (Vl c)) : JT c ts (.Compare a [.Gt] [b] pos) (ma.bind fun i => mb.bind fun j => .ok (decide (j < i))) := jt_cmp op_gt (hr_ii (g := fun i j => decide (j < i))) (nomark _) ha hb
theorem jt_ge (ha : JE c ts a ma (Vl c)) (hb : JE c ts b mb (Vl c)) : JT c ts (.Compare a [.GtE] [b] pos) (ma.bind fun i => mb.bind fun j => .ok (decide (j ≤ i))) := jt_cmp op_ge (hr_ii (g := fun i j => decide (j ≤ i))) (nomark _) ha hb
end

/-- values of one kind, compared by == -/
class PyE (α : Type) [Py α] [DecidableEq α] where
  val : α → V
  rep : ∀ {K : PySem.W.Frag} {H : Hp} {v : V} {x : α}, Py.rep K H v x → v = val x
  inj : ∀ {x y : α}, val x = val y → x = y
  sc : ∀ x y : α, scal (val x) (val y) = true
theorem PyE.dec {α : Type} [Py α] [DecidableEq α] [PyE α] (x y : α) : decide (PyE.val x = PyE.val y) = decide (x = y) := by
  by_cases h : x = y
  · subst h
    simp
  · rw [decide_eq_false h, decide_eq_false fun q => h (PyE.inj q)]
instance : PyE Int := ⟨V.int, fun h => h, fun h => by cases h; rfl, fun _ _ => rfl⟩
instance : PyE Bool := ⟨V.bl, fun h => h, fun h => by cases h; rfl, fun _ _ => rfl⟩
instance : PyE Str := ⟨V.str, fun h => h, fun h => by cases h; rfl, fun _ _ => rfl⟩
section
variable {c : Cw} {ts : List (Option Asn)} {α : Type} [Py α] [DecidableEq α] [PyE α] {a b e : Expr} {pos : Pos} {ma mb : Out α}
theorem hr_eq : ∀ {us σ vs H2} {i j : α} {x y : V} {Q : VK}, Env c ts (Vl c j :: Vl c i :: us) σ (y :: x :: vs) H2 → (Out.ok (decide (i = j))).wp (fun z => ∀ v H', Env c ts (Vl c z :: us) σ (v :: vs) H' → Q v H') (Ex c us σ vs) →
    rEq x y H2 Q := fun {us σ vs H2 i j x y Q} E q => by
  obtain ⟨_, _, h1, h2⟩ := E.top2
  rw [PyE.rep h1, PyE.rep h2] at E ⊢
  exact ⟨PyE.sc i j, q _ H2 (Env.pushS (es := [_, _]) (ws := [_, _]) (K := c.X.K) (H0 := H2) E rfl (by rw [PyE.dec] <;> rfl))⟩
theorem hr_ne : ∀ {us σ vs H2} {i j : α} {x y : V} {Q : VK}, Env c ts (Vl c j :: Vl c i :: us) σ (y :: x :: vs) H2 → (Out.ok (!decide (i = j))).wp (fun z => ∀ v H', Env c ts (Vl c z :: us) σ (v :: vs) H' → Q v H') (Ex c us σ vs) →
    rNe x y H2 Q := fun {us σ vs H2 i j x y Q} E q => by
  obtain ⟨_, _, h1, h2⟩ := E.top2
  rw [PyE.rep h1, PyE.rep h2] at E ⊢
  exact ⟨PyE.sc i j, q _ H2 (Env.pushS (es := [_, _]) (ws := [_, _]) (K := c.X.K) (H0 := H2) E rfl (by rw [PyE.dec] <;> rfl))⟩
theorem je_eq (ha : JE c ts a ma (Vl c)) (hb : JE c ts b mb (Vl c)) : JE c ts (.Compare a [.Eq] [b] pos) (ma.bind fun i => mb.bind fun j => .ok (decide (i = j))) (Vl c) := je_cmp op_eq hr_eq (nomark _) ha hb
theorem je_ne (ha : JE c ts a ma (Vl c)) (hb : JE c ts b mb (Vl c)) : JE c ts (.Compare a [.NotEq] [b] pos) (ma.bind fun i => mb.bind fun j => .ok (!decide (i = j))) (Vl c) := je_cmp op_ne hr_ne (nomark _) ha hb
theorem jt_eq (ha : JE c ts a ma (Vl c)) (hb : JE c ts b mb (Vl c)) : JT c ts (.Compare a [.Eq] [b] pos) (ma.bind fun i => mb.bind fun j => .ok (decide (i = j))) := jt_cmp op_eq hr_eq (nomark _) ha hb
theorem jt_ne (ha : JE c ts a ma (Vl c)) (hb : JE c ts b mb (Vl c)) : JT c ts (.Compare a [.NotEq] [b] pos) (ma.bind fun i => mb.bind fun j => .ok (!decide (i = j))) := jt_cmp op_ne hr_ne (nomark _) ha hb
end

/-! data, compared by == at any depth -/
class PyD (α : Type) [Py α] [DecidableEq α] where
  enc : α → PyData
  dep : Nat
  dp : ∀ {K : PySem.W.Frag} {H : Hp} {x : α} {v : V}, Py.rep K H v x → Dp K H v (enc x)
  plain : ∀ x : α, (enc x).plain = true
  depth : ∀ x : α, (enc x).depth ≤ dep
  eqv : ∀ x y : α, PyData.eqv (enc x) (enc y) = decide (x = y)
instance : PyD Int := ⟨.int, 0, fun h => by rw [show _ = V.int _ from h]; exact .int _, fun _ => rfl, fun _ => Nat.le_refl _, fun x y => by simp only [PyData.eqv]; exact Bool.beq_eq_decide_eq x y⟩
instance : PyD Bool := ⟨.bool, 0, fun h => by rw [show _ = V.bl _ from h]; exact .bl _, fun _ => rfl, fun _ => Nat.le_refl _, fun x y => by simp only [PyData.eqv]; exact Bool.beq_eq_decide_eq x y⟩
instance : PyD Str := ⟨.str, 0, fun h => by rw [show _ = V.str _ from h]; exact .str _, fun _ => rfl, fun _ => Nat.le_refl _, fun x y => by simp only [PyData.eqv]; exact Bool.beq_eq_decide_eq x y⟩
theorem dpAll_of {α : Type} [Py α] [DecidableEq α] [PyD α] {K : PySem.W.Frag} {H : Hp} : ∀ {vs : List V} {xs : List α}, Reps K H vs xs → DpAll K H vs (xs.map PyD.enc)
  | _, _, .nil => .nil
  | _, _, .cons r t => .cons (PyD.dp r) (dpAll_of t)
theorem plainAll_of {α : Type} [Py α] [DecidableEq α] [PyD α] : ∀ xs : List α, PyData.plainAll (xs.map PyD.enc) = true
  | [] => rfl
  | x :: xs => by
    show (PyData.plain (PyD.enc x) && PyData.plainAll (xs.map PyD.enc)) = true
    rw [PyD.plain, plainAll_of xs, Bool.and_self]
theorem depthAll_of {α : Type} [Py α] [DecidableEq α] [PyD α] : ∀ xs : List α, PyData.depthAll (xs.map PyD.enc) ≤ PyD.dep α
  | [] => Nat.zero_le _
  | x :: xs => by
    show max (PyData.depth (PyD.enc x)) (PyData.depthAll (xs.map PyD.enc)) ≤ _
    have := PyD.depth x
    have := depthAll_of xs
    omega
theorem eqvAll_of {α : Type} [Py α] [DecidableEq α] [PyD α] : ∀ xs ys : List α, PyData.eqvAll (xs.map PyD.enc) (ys.map PyD.enc) = decide (xs = ys)
  | [], [] => by simp [PyData.eqvAll]
  | [], y :: ys => by simp [PyData.eqvAll]
  | x :: xs, [] => by simp [PyData.eqvAll]
  | x :: xs, y :: ys => by
    show (PyData.eqv (PyD.enc x) (PyD.enc y) && PyData.eqvAll (xs.map PyD.enc) (ys.map PyD.enc)) = _
    rw [PyD.eqv, eqvAll_of xs ys]
    by_cases h : x = y <;> by_cases h' : xs = ys <;> simp [h, h']
instance {α : Type} [Py α] [DecidableEq α] [PyD α] : PyD (List α) where
  enc := fun xs => .list (xs.map PyD.enc)
  dep := PyD.dep α + 1
  dp := fun ⟨a, vs, e, h, r⟩ => by
    subst e
    exact .lst (SqL.of h) (dpAll_of r)
  plain := fun xs => plainAll_of xs
  depth := fun xs => Nat.succ_le_succ (depthAll_of xs)
  eqv := fun xs ys => by
    show PyData.eqvAll _ _ = _
    rw [eqvAll_of]
instance {α : Type} [Py α] [DecidableEq α] [PyD α] : PyD (Tup α) where
  enc := fun xs => .tuple (xs.l.map PyD.enc)
  dep := PyD.dep α + 1
  dp := fun ⟨a, vs, e, h, r⟩ => by
    subst e
    exact .tup h (dpAll_of r)
  plain := fun xs => plainAll_of xs.l
  depth := fun xs => Nat.succ_le_succ (depthAll_of xs.l)
  eqv := fun xs ys => by
    show PyData.eqvAll _ _ = _
    rw [eqvAll_of]
    obtain ⟨xs⟩ := xs
    obtain ⟨ys⟩ := ys
    by_cases h : xs = ys <;> simp [h]
instance {α β : Type} [Py α] [DecidableEq α] [PyD α] [Py β] [DecidableEq β] [PyD β] : PyD (α × β) where
  enc := fun x => .tuple [PyD.enc x.1, PyD.enc x.2]
  dep := max (PyD.dep α) (PyD.dep β) + 1
  dp := fun ⟨a, v1, v2, e, h, r1, r2⟩ => by
    subst e
    exact .tup h (.cons (PyD.dp r1) (.cons (PyD.dp r2) .nil))
  plain := fun x => by
    show (PyData.plain (PyD.enc x.1) && (PyData.plain (PyD.enc x.2) && true)) = true
    rw [PyD.plain, PyD.plain] <;> rfl
  depth := fun x => by
    show max (PyData.depth (PyD.enc x.1)) (max (PyData.depth (PyD.enc x.2)) 0) + 1 ≤ _
    have := PyD.depth x.1
    have := PyD.depth x.2
    omega
  eqv := fun x y => by
    obtain ⟨x1, x2⟩ := x
    obtain ⟨y1, y2⟩ := y
    show (PyData.eqv (PyD.enc x1) (PyD.enc y1) && (PyData.eqv (PyD.enc x2) (PyD.enc y2) && true)) = _
    rw [PyD.eqv, PyD.eqv]
    by_cases h : x1 = y1 <;> by_cases h' : x2 = y2 <;> simp [h, h']
instance {α β γ : Type} [Py α] [DecidableEq α] [PyD α] [Py β] [DecidableEq β] [PyD β] [Py γ] [DecidableEq γ] [PyD γ] : PyD (T3 α β γ) where
  enc := fun x => .tuple [PyD.enc x.a, PyD.enc x.b, PyD.enc x.c]
  dep := max (PyD.dep α) (max (PyD.dep β) (PyD.dep γ)) + 1
  dp := fun ⟨a, v1, v2, v3, e, h, r1, r2, r3⟩ => by
    subst e
    exact .tup h (.cons (PyD.dp r1) (.cons (PyD.dp r2) (.cons (PyD.dp r3) .nil)))
  plain := fun x => by
    show (PyData.plain (PyD.enc x.a) && (PyData.plain (PyD.enc x.b) && (PyData.plain (PyD.enc x.c) && true))) = true
    rw [PyD.plain, PyD.plain, PyD.plain] <;> rfl
  depth := fun x => by
    show max (PyData.depth (PyD.enc x.a)) (max (PyData.depth (PyD.enc x.b)) (max (PyData.depth (PyD.enc x.c)) 0)) + 1 ≤ _
    have := PyD.depth x.a
    have := PyD.depth x.b
    have := PyD.depth x.c
    omega
  eqv := fun x y => by
    obtain ⟨x1, x2, x3⟩ := x
    obtain ⟨y1, y2, y3⟩ := y
    show (PyData.eqv (PyD.enc x1) (PyD.enc y1) && (PyData.eqv (PyD.enc x2) (PyD.enc y2) && (PyData.eqv (PyD.enc x3) (PyD.enc y3) && true))) = _
    rw [PyD.eqv, PyD.eqv, PyD.eqv]
    by_cases h : x1 = y1 <;> by_cases h' : x2 = y2 <;> by_cases h3 : x3 = y3 <;> simp [h, h', h3]

section
variable {X : Cx}
def rEqP (K : PySem.W.Frag) : R2 := fun x y H Q => ∃ d e, Dp K H x d ∧ Dp K H y e ∧ d.plain = true ∧ e.plain = true ∧ d.depth ≤ 64 ∧ Q (.bl (PyData.eqv d e)) H
def rNeP (K : PySem.W.Frag) : R2 := fun x y H Q => ∃ d e, Dp K H x d ∧ Dp K H y e ∧ d.plain = true ∧ e.plain = true ∧ d.depth ≤ 64 ∧ Q (.bl (!PyData.eqv d e)) H
theorem op_eqP (hu : X.A.units + 64 < cLine) : OpR X (compareOp .Eq) (rEqP X.K) := by
  intro pins s σ H x y v u Q I rx ry h
  obtain ⟨d, e, hd, he, sd, se, hdp, q⟩ := h
  obtain ⟨as, r1⟩ := Dp.reads I d x v hd rx
  obtain ⟨bs, r2⟩ := Dp.reads I e y u he ry
  refine SeqAt.eq_plain r1 r2 sd se ?_ ⟨.bl _, H, I, rfl, q⟩
  have : min d.depth e.depth ≤ d.depth := Nat.min_le_left _ _
  omega
theorem op_neP (hu : X.A.units + 64 < cLine) : OpR X (compareOp .NotEq) (rNeP X.K) := by
  intro pins s σ H x y v u Q I rx ry h
  obtain ⟨d, e, hd, he, sd, se, hdp, q⟩ := h
  obtain ⟨as, r1⟩ := Dp.reads I d x v hd rx
  obtain ⟨bs, r2⟩ := Dp.reads I e y u he ry
  refine SeqAt.ne_plain r1 r2 sd se ?_ ⟨.bl _, H, I, rfl, q⟩
  have : min d.depth e.depth ≤ d.depth := Nat.min_le_left _ _
  omega
end
section
variable {c : Cw} {ts : List (Option Asn)} {α : Type} [Py α] [DecidableEq α] [PyD α] {a b e : Expr} {pos : Pos} {ma mb : Out α} {A B : α → Ent}
theorem Env.rd2 {β : Type} [Py β] {us : List Ent} {σ : Sl} {vs : List V} {H : Hp} {i : α} {j : β} {x y : V} {eA eB : Ent} (rA : Rd c ts eA i) (rB : Rd c ts eB j) (E : Env c ts (eB :: eA :: us) σ (y :: x :: vs) H) : Py.rep c.X.K H x i ∧ Py.rep c.X.K H y j := by
  obtain ⟨F1, F2, E⟩ := E
  obtain ⟨G1, G2, e, h1, G3, G4, e', h2, _⟩ := E.sk
  exact ⟨rA E.part E.g E.sl h2, rB E.part E.g E.sl h1⟩
theorem hr_eqD (hd : PyD.dep α ≤ 64) (rA : ∀ i, Rd c ts (A i) i) (rB : ∀ j, Rd c ts (B j) j) : ∀ {us σ vs H2} {i j : α} {x y : V} {Q : VK}, Env c ts (B j :: A i :: us) σ (y :: x :: vs) H2 → (Out.ok (decide (i = j))).wp (fun z => ∀ v H', Env c ts (Vl c z :: us) σ (v :: vs) H' → Q v H') (Ex c us σ vs) →
    rEqP c.X.K x y H2 Q := fun {us σ vs H2 i j x y Q} E q => by
  obtain ⟨h1, h2⟩ := E.rd2 (rA i) (rB j)
  refine ⟨_, _, PyD.dp h1, PyD.dp h2, PyD.plain i, PyD.plain j, Nat.le_trans (PyD.depth i) hd, ?_⟩
  rw [PyD.eqv]
  exact q _ H2 (Env.pushS (es := [_, _]) (ws := [_, _]) (K := c.X.K) (H0 := H2) E rfl rfl)
theorem hr_neD (hd : PyD.dep α ≤ 64) (rA : ∀ i, Rd c ts (A i) i) (rB : ∀ j, Rd c ts (B j) j) : ∀ {us σ vs H2} {i j : α} {x y : V} {Q : VK}, Env c ts (B j :: A i :: us) σ (y :: x :: vs) H2 → (Out.ok (!decide (i = j))).wp (fun z => ∀ v H', Env c ts (Vl c z :: us) σ (v :: vs) H' → Q v H') (Ex c us σ vs) →
    rNeP c.X.K x y H2 Q := fun {us σ vs H2 i j x y Q} E q => by
  obtain ⟨h1, h2⟩ := E.rd2 (rA i) (rB j)
  refine ⟨_, _, PyD.dp h1, PyD.dp h2, PyD.plain i, PyD.plain j, Nat.le_trans (PyD.depth i) hd, ?_⟩
  rw [PyD.eqv]
  exact q _ H2 (Env.pushS (es := [_, _]) (ws := [_, _]) (K := c.X.K) (H0 := H2) E rfl rfl)
theorem je_eqD {k : Nat} (hr : Room k c.X.A) (ha : JE c ts a ma A) (hb : JE c ts b mb B) (rA : ∀ i, Rd c ts (A i) i) (rB : ∀ j, Rd c ts (B j) j) (hd : PyD.dep α ≤ 64 := by decide) : JE c ts (.Compare a [.Eq] [b] pos) (ma.bind fun i => mb.bind fun j => .ok (decide (i = j))) (Vl c) := je_cmp (op_eqP hr.units) (hr_eqD hd rA rB) (nomark _) ha hb
theorem je_neD {k : Nat} (hr : Room k c.X.A) (ha : JE c ts a ma A) (hb : JE c ts b mb B) (rA : ∀ i, Rd c ts (A i) i) (rB : ∀ j, Rd c ts (B j) j) (hd : PyD.dep α ≤ 64 := by decide) : JE c ts (.Compare a [.NotEq] [b] pos) (ma.bind fun i => mb.bind fun j => .ok (!decide (i = j))) (Vl c) := je_cmp (op_neP hr.units) (hr_neD hd rA rB) (nomark _) ha hb
theorem jt_eqD {k : Nat} (hr : Room k c.X.A) (ha : JE c ts a ma A) (hb : JE c ts b mb B) (rA : ∀ i, Rd c ts (A i) i) (rB : ∀ j, Rd c ts (B j) j) (hd : PyD.dep α ≤ 64 := by decide) : JT c ts (.Compare a [.Eq] [b] pos) (ma.bind fun i => mb.bind fun j => .ok (decide (i = j))) := jt_cmp (op_eqP hr.units) (hr_eqD hd rA rB) (nomark _) ha hb
theorem jt_neD {k : Nat} (hr : Room k c.X.A) (ha : JE c ts a ma A) (hb : JE c ts b mb B) (rA : ∀ i, Rd c ts (A i) i) (rB : ∀ j, Rd c ts (B j) j) (hd : PyD.dep α ≤ 64 := by decide) : JT c ts (.Compare a [.NotEq] [b] pos) (ma.bind fun i => mb.bind fun j => .ok (!decide (i = j))) := jt_cmp (op_neP hr.units) (hr_neD hd rA rB) (nomark _) ha hb
end

/-! and, or, not, a if t else b, a < b < c, is None -/
section
variable {c : Cw} {ts : List (Option Asn)} {us es : List Ent} {σ : Sl} {vs ws : List V} {H H' : Hp} {α β γ : Type} [Py α] {a b d e : Expr} {rest : List Expr} {pos : Pos} {ma mb : Out Bool}
/-- a test whatever its whole is -/
def JW (c : Cw) (ts : List (Option Asn)) (e : Expr) (m : Out Bool) : Prop := PW c.X e (tT c ts m)
theorem PW.imp {X : Cx} {e : Expr} {t t' : TT} (h : PW X e t) (i : ∀ σ H Q, t' σ H Q → t σ H Q) : PW X e t' := ⟨fun wh pins s σ H Q I q => h.run wh pins s σ H Q I (i σ H Q q)⟩
theorem jw_and1 (ha : JT c ts a ma) : JW c ts (.BoolOp .And [a] pos) ma := pw_and1 ha
theorem jw_or1 (ha : JT c ts a ma) : JW c ts (.BoolOp .Or [a] pos) ma := pw_or1 ha
theorem jw_and (ha : JT c ts a ma) (hb : JW c ts (.BoolOp .And (b :: rest) pos) mb) : JW c ts (.BoolOp .And (a :: b :: rest) pos) (ma.bind fun x => if x = true then mb else .ok false) :=
  PW.imp (pw_and ha hb) fun σ H Q ⟨us, vs, E, q⟩ => ⟨us, vs, E, Out.wp_mono (Out.wp_bind q) (fun x _ q H' E' => by
    cases x with
    | true => exact ⟨us, vs, E', q⟩
    | false => exact q H' E') fun _ _ z => z⟩
theorem jw_or (ha : JT c ts a ma) (hb : JW c ts (.BoolOp .Or (b :: rest) pos) mb) : JW c ts (.BoolOp .Or (a :: b :: rest) pos) (ma.bind fun x => if x = true then .ok true else mb) :=
  PW.imp (pw_or ha hb) fun σ H Q ⟨us, vs, E, q⟩ => ⟨us, vs, E, Out.wp_mono (Out.wp_bind q) (fun x _ q H' E' => by
    cases x with
    | false => exact ⟨us, vs, E', q⟩
    | true => exact q H' E') fun _ _ z => z⟩
/-- .. whose right side is always known -/
theorem jw_andT {y : Bool} (ha : JT c ts a ma) (hb : JW c ts (.BoolOp .And (b :: rest) pos) (.ok y)) : JW c ts (.BoolOp .And (a :: b :: rest) pos) (ma.bind fun x => .ok (x && y)) := by
  have e : (ma.bind fun x => if x = true then .ok y else .ok false) = ma.bind fun x => .ok (x && y) := by
    congr 1
    funext x
    cases x <;> rfl
  rw [← e]
  exact jw_and ha hb
theorem jw_orT {y : Bool} (ha : JT c ts a ma) (hb : JW c ts (.BoolOp .Or (b :: rest) pos) (.ok y)) : JW c ts (.BoolOp .Or (a :: b :: rest) pos) (ma.bind fun x => .ok (x || y)) := by
  have e : (ma.bind fun x => if x = true then .ok true else .ok y) = ma.bind fun x => .ok (x || y) := by
    congr 1
    funext x
    cases x <;> rfl
  rw [← e]
  exact jw_or ha hb
theorem jt_w (h : JW c ts e ma) : JT c ts e ma := PW.pt h
theorem jt_not (ha : JT c ts a ma) : JT c ts (.UnaryOp .Not a pos) (ma.bind fun x => .ok (!x)) :=
  PT.imp (pt_not ha) fun σ H Q ⟨us, vs, E, q⟩ => ⟨us, vs, E, Out.wp_mono (Out.wp_bind q) (fun x _ q H' E' => q H' E') fun _ _ z => z⟩
theorem Env.b1 {x : V} {i : Bool} (E : Env c ts (Vl c i :: us) σ (x :: vs) H) : x = .bl i ∧ Env c ts us σ vs H := by
  obtain ⟨_, _, h1⟩ := E.top1
  exact ⟨h1, Env.pop (es := [_]) (ws := [_]) E rfl⟩
theorem Env.pushB {i : Bool} (E : Env c ts us σ vs H) : Env c ts (Vl c i :: us) σ (.bl i :: vs) H := Env.pushS (es := []) (ws := []) (K := c.X.K) (H0 := H) E rfl rfl
theorem je_one {op : BoolOp} (ha : JE c ts a ma (Vl c)) : JE c ts (.BoolOp op [a] pos) ma (Vl c) := pe_one ha
theorem je_and (ha : JE c ts a ma (Vl c)) (hb : JE c ts (.BoolOp .And (b :: rest) pos) mb (Vl c)) : JE c ts (.BoolOp .And (a :: b :: rest) pos) (ma.bind fun x => if x = true then mb else .ok false) (Vl c) :=
  PE.imp (pe_and ha hb) fun σ H Q ⟨us, vs, E, q⟩ => ⟨us, vs, E, Out.wp_mono (Out.wp_bind q) (fun x _ q v H' E' => by
    obtain ⟨e, E2⟩ := E'.b1
    refine ⟨x, e, ?_⟩
    cases x with
    | true => exact ⟨us, vs, E2, q⟩
    | false => exact q _ H' E2.pushB) fun _ _ z => z⟩
theorem je_or (ha : JE c ts a ma (Vl c)) (hb : JE c ts (.BoolOp .Or (b :: rest) pos) mb (Vl c)) : JE c ts (.BoolOp .Or (a :: b :: rest) pos) (ma.bind fun x => if x = true then .ok true else mb) (Vl c) :=
  PE.imp (pe_or ha hb) fun σ H Q ⟨us, vs, E, q⟩ => ⟨us, vs, E, Out.wp_mono (Out.wp_bind q) (fun x _ q v H' E' => by
    obtain ⟨e, E2⟩ := E'.b1
    refine ⟨x, e, ?_⟩
    cases x with
    | false => exact ⟨us, vs, E2, q⟩
    | true => exact q _ H' E2.pushB) fun _ _ z => z⟩
theorem je_andT {y : Bool} (ha : JE c ts a ma (Vl c)) (hb : JE c ts (.BoolOp .And (b :: rest) pos) (.ok y) (Vl c)) : JE c ts (.BoolOp .And (a :: b :: rest) pos) (ma.bind fun x => .ok (x && y)) (Vl c) := by
  have e : (ma.bind fun x => if x = true then .ok y else .ok false) = ma.bind fun x => .ok (x && y) := by
    congr 1
    funext x
    cases x <;> rfl
  rw [← e]
  exact je_and ha hb
theorem je_orT {y : Bool} (ha : JE c ts a ma (Vl c)) (hb : JE c ts (.BoolOp .Or (b :: rest) pos) (.ok y) (Vl c)) : JE c ts (.BoolOp .Or (a :: b :: rest) pos) (ma.bind fun x => .ok (x || y)) (Vl c) := by
  have e : (ma.bind fun x => if x = true then .ok true else .ok y) = ma.bind fun x => .ok (x || y) := by
    congr 1
    funext x
    cases x <;> rfl
  rw [← e]
  exact je_or ha hb
theorem je_not (ha : JE c ts a ma (Vl c)) : JE c ts (.UnaryOp .Not a pos) (ma.bind fun x => .ok (!x)) (Vl c) :=
  PE.imp (pe_not ha) fun σ H Q ⟨us, vs, E, q⟩ => ⟨us, vs, E, Out.wp_mono (Out.wp_bind q) (fun x _ q v H' E' => by
    obtain ⟨e, E2⟩ := E'.b1
    exact ⟨x, e, q _ H' E2.pushB⟩) fun _ _ z => z⟩
theorem je_neg {ma : Out Int} (ha : JE c ts a ma (Vl c)) : JE c ts (.UnaryOp .USub a pos) (ma.bind fun x => .ok (-x)) (Vl c) :=
  PE.imp (pe_un un_neg ha) fun σ H Q ⟨us, vs, E, q⟩ => ⟨us, vs, E, Out.wp_mono (Out.wp_bind q) (fun x _ q v H' E' => by
    obtain ⟨_, _, h1⟩ := E'.top1
    exact ⟨x, h1, q _ H' (Env.pushS (es := [_]) (ws := [_]) (K := c.X.K) (H0 := H') E' rfl rfl)⟩) fun _ _ z => z⟩
/-- a if t else b -/
theorem je_if {mt : Out Bool} {m1 m2 : Out α} {A : α → Ent} (ht : JT c ts d mt) (ha : JE c ts a m1 A) (hb : JE c ts b m2 A) : JE c ts (.IfExp d a b pos) (mt.bind fun x => if x = true then m1 else m2) A :=
  PE.imp (pe_ifExp ht ha hb) fun σ H Q ⟨us, vs, E, q⟩ => ⟨us, vs, E, Out.wp_mono (Out.wp_bind q) (fun x _ q H' E' => by
    cases x with
    | true => exact ⟨us, vs, E', q⟩
    | false => exact ⟨us, vs, E', q⟩) fun _ _ z => z⟩
theorem je_ifT {mt : Out Bool} {y1 y2 : α} {A : α → Ent} (ht : JT c ts d mt) (ha : JE c ts a (.ok y1) A) (hb : JE c ts b (.ok y2) A) : JE c ts (.IfExp d a b pos) (mt.bind fun x => .ok (if x = true then y1 else y2)) A := by
  have e : (mt.bind fun x => if x = true then .ok y1 else .ok y2) = mt.bind fun x => .ok (if x = true then y1 else y2) := by
    congr 1
    funext x
    cases x <;> rfl
  rw [← e]
  exact je_if ht ha hb
/-- a < b < c -/
theorem chain_imp {op : CmpOp} {p q : Int → Int → Bool} {m1 m2 m3 : Out Int} (σ : Sl) (H : Hp) (Q : VK) :
    tJ c ts (m1.bind fun i => m2.bind fun j => if p i j = true then m3.bind fun k => .ok (q j k) else .ok false) (Vl c) σ H Q → tChain (rI0 fun i j => .bl (p i j)) (rI0 fun i j => .bl (q i j)) (tJ c ts m1 (Vl c)) (tJ c ts m2 (Vl c)) (tJ c ts m3 (Vl c)) σ H Q := fun ⟨us, vs, E, h⟩ => by
  refine ⟨us, vs, E, Out.wp_mono (Out.wp_bind h) (fun i _ h => ?_) fun _ _ z => z⟩
  intro x H1 E1
  refine ⟨_, _, E1, Out.wp_mono (Out.wp_bind h) (fun j _ h => ?_) fun e _ z => ?_⟩
  · intro y H2 E2
    obtain ⟨e1, e2⟩ := E2.ints
    refine ⟨i, j, e1, e2, p i j, rfl, ?_⟩
    by_cases hp : p i j = true
    · rw [if_pos hp] at h ⊢
      refine ⟨_, _, E2, Out.wp_mono (Out.wp_bind h) (fun k _ h => ?_) fun e _ z => ?_⟩
      · intro w H3 E3
        have E4 := E3
        obtain ⟨F1, F2, E4⟩ := E4
        obtain ⟨G1, G2, _, h1, _⟩ := E4.sk
        exact ⟨j, k, e2, h1.2, h _ H3 (Env.pushS (es := [_, _, _]) (ws := [_, _, _]) (K := c.X.K) (H0 := H2) E3 rfl rfl)⟩
      · intro d H' e1 E3
        exact z d H' e1 (EnvX.pop (es := [_, _]) (ws := [_, _]) E3 rfl)
    · rw [if_neg hp] at h
      rw [if_neg hp]
      exact h _ H2 (Env.pushB (Env.pop (es := [_, _]) (ws := [_, _]) E2 rfl))
  · intro d H' e1 E3
    exact z d H' e1 (EnvX.pop (es := [_]) (ws := [_]) E3 rfl)
theorem je_chain {op op' : CmpOp} {p q : Int → Int → Bool} {m1 m2 m3 : Out Int} (ho : OpR c.X (compareOp op) (rI0 fun i j => .bl (p i j))) (ho' : OpR c.X (compareOp op') (rI0 fun i j => .bl (q i j)))
    (ha : JE c ts a m1 (Vl c)) (hb : JE c ts b m2 (Vl c)) (hd : JE c ts d m3 (Vl c)) (hm : lastMarks [op, op'] [b, d] = false := by with_unfolding_all rfl) :
    JE c ts (.Compare a [op, op'] [b, d] pos) (m1.bind fun i => m2.bind fun j => if p i j = true then m3.bind fun k => .ok (q j k) else .ok false) (Vl c) :=
  PE.imp (pe_chain ho ho' ha hb hd hm) (chain_imp (op := op))
theorem jt_chain {op op' : CmpOp} {p q : Int → Int → Bool} {m1 m2 m3 : Out Int} (ho : OpR c.X (compareOp op) (rI0 fun i j => .bl (p i j))) (ho' : OpR c.X (compareOp op') (rI0 fun i j => .bl (q i j)))
    (ha : JE c ts a m1 (Vl c)) (hb : JE c ts b m2 (Vl c)) (hd : JE c ts d m3 (Vl c)) (hm : lastMarks [op, op'] [b, d] = false := by with_unfolding_all rfl) :
    JT c ts (.Compare a [op, op'] [b, d] pos) (m1.bind fun i => m2.bind fun j => if p i j = true then m3.bind fun k => .ok (q j k) else .ok false) :=
  jt_of (pt_chain ho ho' ha hb hd hm) (chain_imp (op := op))
theorem chainT {p q : Int → Int → Bool} {m1 m2 : Out Int} {z : Int} : (m1.bind fun i => m2.bind fun j => if p i j = true then (Out.ok z).bind fun k => .ok (q j k) else .ok false) = m1.bind fun i => m2.bind fun j => .ok (p i j && q j z) := by
  congr 1
  funext i
  congr 1
  funext j
  cases p i j <;> rfl
theorem je_chainT {op op' : CmpOp} {p q : Int → Int → Bool} {m1 m2 : Out Int} {z : Int} (ho : OpR c.X (compareOp op) (rI0 fun i j => .bl (p i j))) (ho' : OpR c.X (compareOp op') (rI0 fun i j => .bl (q i j)))
    (ha : JE c ts a m1 (Vl c)) (hb : JE c ts b m2 (Vl c)) (hd : JE c ts d (.ok z) (Vl c)) (hm : lastMarks [op, op'] [b, d] = false := by with_unfolding_all rfl) :
    JE c ts (.Compare a [op, op'] [b, d] pos) (m1.bind fun i => m2.bind fun j => .ok (p i j && q j z)) (Vl c) := by
  rw [← chainT]
  exact je_chain ho ho' ha hb hd hm
theorem jt_chainT {op op' : CmpOp} {p q : Int → Int → Bool} {m1 m2 : Out Int} {z : Int} (ho : OpR c.X (compareOp op) (rI0 fun i j => .bl (p i j))) (ho' : OpR c.X (compareOp op') (rI0 fun i j => .bl (q i j)))
    (ha : JE c ts a m1 (Vl c)) (hb : JE c ts b m2 (Vl c)) (hd : JE c ts d (.ok z) (Vl c)) (hm : lastMarks [op, op'] [b, d] = false := by with_unfolding_all rfl) :
    JT c ts (.Compare a [op, op'] [b, d] pos) (m1.bind fun i => m2.bind fun j => .ok (p i j && q j z)) := by
  rw [← chainT]
  exact jt_chain ho ho' ha hb hd hm
/-- x is None, x is not None -/
theorem isN_imp {m : Out (Option α)} {A : Option α → Ent} {neg : Bool} (rA : ∀ i, Rd c ts (A i) i) (σ : Sl) (H : Hp) (Q : VK) :
    tJ c ts (m.bind fun x => .ok (bif neg then !x.isNone else x.isNone)) (Vl c) σ H Q → tOp (fun x y H Q => y = .non ∧ Q (.bl (bif neg then !decide (x = .non) else decide (x = .non))) H) (tJ c ts m A) (tC .non) σ H Q := fun ⟨us, vs, E, h⟩ => by
  refine ⟨us, vs, E, Out.wp_mono (Out.wp_bind h) (fun i _ h => ?_) fun _ _ z => z⟩
  intro x H1 E1
  have E2 := E1
  obtain ⟨F1, F2, E2⟩ := E2
  obtain ⟨G1, G2, e, h1, _⟩ := E2.sk
  have r := rA i E2.part E2.g E2.sl h1
  have ex : decide (x = .non) = i.isNone := by
    cases i with
    | none =>
      have r' : x = .non := r
      rw [r']
      rfl
    | some y => exact decide_eq_false r.2
  refine ⟨rfl, ?_⟩
  rw [ex]
  exact h _ H1 (Env.pushB (Env.pop (es := [_]) (ws := [_]) E1 rfl))
theorem je_isN {m : Out (Option α)} {A : Option α → Ent} {k : Nat} {pos' : Pos} (ha : JE c ts a m A) (rA : ∀ i, Rd c ts (A i) i) : JE c ts (.Compare a [.Is] [.Constant .none k pos'] pos) (m.bind fun x => .ok x.isNone) (Vl c) := PE.imp (pe_cmpR op_isN ha pe_non (nomark _)) (isN_imp (neg := false) rA)
theorem je_notN {m : Out (Option α)} {A : Option α → Ent} {k : Nat} {pos' : Pos} (ha : JE c ts a m A) (rA : ∀ i, Rd c ts (A i) i) : JE c ts (.Compare a [.IsNot] [.Constant .none k pos'] pos) (m.bind fun x => .ok (!x.isNone)) (Vl c) := PE.imp (pe_cmpR op_notN ha pe_non (nomark _)) (isN_imp (neg := true) rA)
theorem jt_isN {m : Out (Option α)} {A : Option α → Ent} {k : Nat} {pos' : Pos} (ha : JE c ts a m A) (rA : ∀ i, Rd c ts (A i) i) : JT c ts (.Compare a [.Is] [.Constant .none k pos'] pos) (m.bind fun x => .ok x.isNone) := jt_of (pt_cmpR op_isN ha pe_non (nomark _)) (isN_imp (neg := false) rA)
theorem jt_notN {m : Out (Option α)} {A : Option α → Ent} {k : Nat} {pos' : Pos} (ha : JE c ts a m A) (rA : ∀ i, Rd c ts (A i) i) : JT c ts (.Compare a [.IsNot] [.Constant .none k pos'] pos) (m.bind fun x => .ok (!x.isNone)) := jt_of (pt_cmpR op_notN ha pe_non (nomark _)) (isN_imp (neg := true) rA)
end
end Mw
set_option maxRecDepth 100000
set_option maxHeartbeats 4000000
namespace Mw
open PySem PySem.Spec PyProof.Rows L2

/-! ### plain lists -/
def item {α : Type} (xs : List α) (i : Int) : Out α := match atI xs i with
  | some x => .ok x
  | none => .bad
def cut {α : Type} (xs : List α) (lo hi : Option Int) : List α := (xs.drop (HT.sIx xs.length 0 lo)).take (HT.sIx xs.length xs.length hi - HT.sIx xs.length 0 lo)
theorem Pd.len {α β : Type} {R : α → β → Prop} : ∀ {vs : List α} {xs : List β}, Paired R vs xs → vs.length = xs.length
  | _, _, .nil => rfl
  | _, _, .cons _ t => by simp [Pd.len t]
theorem Pd.get {α β : Type} {R : α → β → Prop} : ∀ {vs : List α} {xs : List β} {j : Nat} {x : β}, Paired R vs xs → xs[j]? = some x → ∃ v, vs[j]? = some v ∧ R v x
  | _, _, _, _, .nil, h => by simp at h
  | _, _, 0, _, .cons r _, h => by
    simp at h
    subst h
    exact ⟨_, rfl, r⟩
  | _, _, j + 1, _, .cons _ t, h => by
    obtain ⟨v, e, r⟩ := Pd.get (j := j) t (by simpa using h)
    exact ⟨v, by simpa using e, r⟩
theorem Pd.at {α β : Type} {R : α → β → Prop} {vs : List α} {xs : List β} {i : Int} {x : β} (r : Paired R vs xs) (h : atI xs i = some x) : ∃ v, atI vs i = some v ∧ R v x := by
  unfold atI at h ⊢
  rw [Pd.len r]
  cases e : ixN xs.length i with
  | none =>
    rw [e] at h
    cases h
  | some j =>
    rw [e] at h
    exact Pd.get r h
theorem Pd.take {α β : Type} {R : α → β → Prop} : ∀ {vs : List α} {xs : List β} (n : Nat), Paired R vs xs → Paired R (vs.take n) (xs.take n)
  | _, _, 0, _ => .nil
  | _, _, _ + 1, .nil => .nil
  | _, _, n + 1, .cons r t => .cons r (Pd.take n t)
theorem Pd.drop {α β : Type} {R : α → β → Prop} : ∀ {vs : List α} {xs : List β} (n : Nat), Paired R vs xs → Paired R (vs.drop n) (xs.drop n)
  | _, _, 0, r => r
  | _, _, _ + 1, .nil => .nil
  | _, _, n + 1, .cons _ t => Pd.drop n t
theorem Pd.cut {R : V → β → Prop} {vs : List V} {xs : List β} {lo hi : Option Int} (r : Paired R vs xs) : Paired R (cutV vs lo hi) (cut xs lo hi) := by
  unfold cutV Mw.cut
  rw [Pd.len r]
  exact Pd.take _ (Pd.drop _ r)
theorem Pd.append {α β : Type} {R : α → β → Prop} : ∀ {vs ws : List α} {xs ys : List β}, Paired R vs xs → Paired R ws ys → Paired R (vs ++ ws) (xs ++ ys)
  | _, _, _, _, .nil, s => s
  | _, _, _, _, .cons r t, s => .cons r (Pd.append t s)
theorem Pd.rep {α β : Type} {R : α → β → Prop} {vs : List α} {xs : List β} (r : Paired R vs xs) : ∀ n : Nat, Paired R (List.replicate n vs).flatten (List.replicate n xs).flatten
  | 0 => .nil
  | n + 1 => by
    rw [List.replicate_succ, List.replicate_succ, List.flatten_cons, List.flatten_cons]
    exact Pd.append r (Pd.rep r n)
theorem Pd.dropLast {α β : Type} {R : α → β → Prop} {vs : List α} {xs : List β} (r : Paired R vs xs) : Paired R vs.dropLast xs.dropLast := by
  rw [List.dropLast_eq_take, List.dropLast_eq_take, Pd.len r]
  exact Pd.take _ r
theorem Pd.reverse {α β : Type} {R : α → β → Prop} : ∀ {vs : List α} {xs : List β}, Paired R vs xs → Paired R vs.reverse xs.reverse
  | _, _, .nil => .nil
  | _, _, .cons r t => by
    rw [List.reverse_cons, List.reverse_cons]
    exact Pd.append (Pd.reverse t) (.cons r .nil)
theorem Pd.set {α β : Type} {R : α → β → Prop} {v : α} {x : β} (q : R v x) : ∀ {vs : List α} {xs : List β} (i : Nat), Paired R vs xs → Paired R (vs.set i v) (xs.set i x)
  | _, _, _, .nil => .nil
  | _, _, 0, .cons _ t => .cons q t
  | _, _, i + 1, .cons r t => .cons r (Pd.set q i t)
theorem Pd.map_ints {K : PySem.W.Frag} {H : Hp} : ∀ {vs : List V} {xs : List Int}, Reps K H vs xs → vs = xs.map V.int
  | _, _, .nil => rfl
  | _, _, .cons r t => by
    have e : _ = V.int _ := r
    rw [e, Pd.map_ints t]
    rfl
theorem Pd.map_bls {K : PySem.W.Frag} {H : Hp} : ∀ {vs : List V} {xs : List Bool}, Reps K H vs xs → vs = xs.map V.bl
  | _, _, .nil => rfl
  | _, _, .cons r t => by
    have e : _ = V.bl _ := r
    rw [e, Pd.map_bls t]
    rfl

section
variable {c : Cw} {ts : List (Option Asn)} {us es : List Ent} {σ : Sl} {vs ws : List V} {H H' : Hp} {α β γ δ : Type} [Py α] [Py β] [Py γ] {a b e : Expr} {pos : Pos}

/-! ### one part -/
theorem je_one1 {ma : Out α} {A : α → Ent} {C : β → Ent} {f : α → Out β} {r : V → Hp → VK → Prop} {t : TE → TE} (hp : ∀ {ta}, PE c.X a ta → PE c.X e (t ta)) (ha : JE c ts a ma A)
    (ht : ∀ {ta σ H Q}, ta σ H (fun x H1 => r x H1 Q) → t ta σ H Q)
    (hr : ∀ {us σ vs H2 i x Q}, Env c ts (A i :: us) σ (x :: vs) H2 → (f i).wp (fun z => ∀ v H', Env c ts (C z :: us) σ (v :: vs) H' → Q v H') (Ex c us σ vs) → r x H2 Q) :
    JE c ts e (ma.bind f) C :=
  PE.imp (hp ha) fun σ H Q ⟨us, vs, E, q⟩ => ht ⟨us, vs, E, Out.wp_mono (Out.wp_bind q) (fun i _ q => by
    intro x H1 E1
    exact hr E1 q) fun _ _ h => h⟩
/-- what the top shows -/
theorem Env.rd1 {i : α} {x : V} {eA : Ent} (rA : Rd c ts eA i) (E : Env c ts (eA :: us) σ (x :: vs) H) : Py.rep c.X.K H x i := by
  obtain ⟨F1, F2, E⟩ := E
  obtain ⟨G1, G2, e, h1, _⟩ := E.sk
  exact rA E.part E.g E.sl h1
theorem StkL.one {P H : Hp} {F : List Addr} {e : Ent} {v : V} (h : StkL P H σ [e] [v] F) : StkOk P H σ e v F := by
  obtain ⟨F1, F2, eF, h1, h2⟩ := h
  have e2 : F2 = [] := h2
  rw [eF, e2, List.append_nil]
  exact h1
theorem StkL.two {P H : Hp} {F : List Addr} {e e' : Ent} {v v' : V} (h : StkL P H σ [e, e'] [v, v'] F) : ∃ F1 F2, F = F1 ++ F2 ∧ StkOk P H σ e v F1 ∧ StkOk P H σ e' v' F2 := by
  obtain ⟨F1, F2, eF, h1, h2⟩ := h
  exact ⟨F1, F2, eF, h1, StkL.one h2⟩
theorem Env.open (E : Env c ts (es ++ us) σ (ws ++ vs) H) (hl : es.length = ws.length) : ∃ F1 FB F2, EnvF c ts (es ++ us) σ (ws ++ vs) H F1 (FB ++ F2) ∧ StkL (hide (c.Of ++ (F1 ++ (FB ++ F2))) H) H σ es ws FB ∧ StkL (hide (c.Of ++ (F1 ++ (FB ++ F2))) H) H σ us vs F2 := by
  obtain ⟨F1, F0, E⟩ := E
  obtain ⟨FB, F2, eF, h1, h2⟩ := E.sk.split hl
  subst eF
  exact ⟨F1, FB, F2, E, h1, h2⟩
theorem EnvF.pushV {x : α} {v : V} {F1 FB F2 : List Addr} (E : EnvF c ts (es ++ us) σ (ws ++ vs) H F1 (FB ++ F2)) (h2 : StkL (hide (c.Of ++ (F1 ++ (FB ++ F2))) H) H σ us vs F2) (s : Same H H')
    (r : ∀ P', Same (hide (c.Of ++ (F1 ++ (FB ++ F2))) H) P' → (∀ b o, H b = none ∨ b ∈ FB → H' b = some o → P' b = some o) → Same P' H' → Py.rep c.X.K P' v x) : Env c ts (Vl c x :: us) σ (v :: vs) H' :=
  ⟨F1, [] ++ F2, E.top h2 s (fun _ h => (nomatch h)) List.nodup_nil (fun _ h => (nomatch h)) fun P' s' n l => ⟨rfl, r P' s' (fun b o h1 h2 => n b o h1 (by simp) h2) l⟩⟩
theorem EnvF.pushN {xs : List α} {zs : List V} {p : Addr} {F1 FB F2 : List Addr} (E : EnvF c ts (es ++ us) σ (ws ++ vs) H F1 (FB ++ F2)) (h2 : StkL (hide (c.Of ++ (F1 ++ (FB ++ F2))) H) H σ us vs F2) (hp : H p = none)
    (r : ∀ P', Same (hide (c.Of ++ (F1 ++ (FB ++ F2))) H) P' → (∀ b o, b ∈ FB → H b = some o → P' b = some o) → Reps c.X.K P' zs xs) : Env c ts (Ow c xs :: us) σ (.ref p :: vs) (upd H p (.lst zs)) :=
  ⟨F1, [p] ++ F2, E.top h2 (same_new hp) (fun a h => .inr (by rw [List.mem_singleton.mp h]; exact hp)) (by simp) (fun a h => ⟨.lst zs, by rw [List.mem_singleton.mp h]; exact upd_same, rfl⟩)
    fun P' s' n _ => ⟨p, zs, rfl, rfl, upd_same, r P' s' fun b o h q => n b o (.inr h) (fun z => by rw [List.mem_singleton.mp z, hp] at q; cases q) (by rw [upd_ne (ne_of_none q hp)]; exact q)⟩⟩
theorem ref_inj {a b : Addr} (h : V.ref a = V.ref b) : a = b := V.ref.inj h
theorem lst_inj {H : Hp} {a : Addr} {xs ys : List V} (h : H a = some (.lst xs)) (h' : H a = some (.lst ys)) : xs = ys := by
  rw [h] at h'
  exact HO.lst.inj (Option.some.inj h')

/-! xs[i] -/
theorem je_item {mx : Out (List α)} {mi : Out Int} {A : List α → Ent} (rx : ∀ xs, RdE c ts (A xs) xs) (ha : JE c ts a mx A) (hb : JE c ts b mi (Vl c)) (hs : PlainIx b := by intro _ _; rfl) : JE c ts (.Subscript a b pos) (mx.bind fun xs => mi.bind fun i => item xs i) (Vl c) :=
  PE.imp (pe_ix ix_list ha hb hs) (two_imp fun {us σ vs H2 xs i x y Q} E q => by
    obtain ⟨F1, FB, F2, E, k, h2⟩ := Env.open (es := [_, _]) (ws := [_, _]) E rfl
    obtain ⟨_, _, _, k1, k2⟩ := StkL.two k
    obtain ⟨p, zs, ex, hp, rp⟩ := rx xs E.part E.g E.sl k2
    unfold item at q
    cases hx : atI xs i with
    | none =>
      rw [hx] at q
      exact q.elim
    | some z =>
      rw [hx] at q
      obtain ⟨v, hv, rv⟩ := Pd.at rp hx
      exact ⟨p, zs, i, v, ex, k1.2, SqL.of hp, hv, q v H2 (E.pushV h2 (Same.refl _) fun P' s' _ _ => Py.mono s' rv)⟩)
theorem atI_map {α β : Type} {f : α → β} {xs : List α} {i : Int} {z : α} (hx : atI xs i = some z) : atI (xs.map f) i = some (f z) := by
  unfold atI at hx ⊢
  rw [List.length_map]
  cases e : ixN xs.length i with
  | none =>
    rw [e] at hx
    cases hx
  | some j =>
    rw [e] at hx
    have hx' : xs[j]? = some z := hx
    show (xs.map f)[j]? = _
    rw [List.getElem?_map, hx']
    rfl
/-- the script's -/
theorem je_itemS {mx : Out Scr} {mi : Out Int} {A : Scr → Ent} (rx : ∀ xs, Rd c ts (A xs) xs) (ha : JE c ts a mx A) (hb : JE c ts b mi (Vl c)) (hs : PlainIx b := by intro _ _; rfl) : JE c ts (.Subscript a b pos) (mx.bind fun xs => mi.bind fun i => item xs.l i) (Vl c) :=
  PE.imp (pe_ix ix_list ha hb hs) (two_imp fun {us σ vs H2 xs i x y Q} E q => by
    obtain ⟨F1, FB, F2, E1, k, h2⟩ := Env.open (es := [_, _]) (ws := [_, _]) E rfl
    obtain ⟨_, _, _, k1, k2⟩ := StkL.two k
    obtain ⟨p, ex, hp⟩ := rx xs E1.part E1.g E1.sl k2
    unfold item at q
    cases hx : atI xs.l i with
    | none =>
      rw [hx] at q
      exact q.elim
    | some z =>
      rw [hx] at q
      exact ⟨p, _, i, _, ex, k1.2, hp, atI_map hx, q _ H2 (Env.pushS (es := [_, _]) (ws := [_, _]) (K := c.X.K) (H0 := H2) E rfl rfl)⟩)
/-- a tuple of any length -/
theorem je_itemT {mx : Out (Tup α)} {mi : Out Int} (ha : JE c ts a mx (Vl c)) (hb : JE c ts b mi (Vl c)) (hs : PlainIx b := by intro _ _; rfl) : JE c ts (.Subscript a b pos) (mx.bind fun xs => mi.bind fun i => item xs.l i) (Vl c) :=
  PE.imp (pe_ix ix_tup ha hb hs) (two_imp fun {us σ vs H2 xs i x y Q} E q => by
    obtain ⟨F1, FB, F2, E, k, h2⟩ := Env.open (es := [_, _]) (ws := [_, _]) E rfl
    obtain ⟨_, _, _, k1, k2⟩ := StkL.two k
    obtain ⟨p, zs, ex, hp, rp⟩ := k2.2
    unfold item at q
    cases hx : atI xs.l i with
    | none =>
      rw [hx] at q
      exact q.elim
    | some z =>
      rw [hx] at q
      obtain ⟨v, hv, rv⟩ := Pd.at rp hx
      exact ⟨p, zs, i, v, ex, k1.2, Same.seqT hide_le hp, hv, q v H2 (E.pushV h2 (Same.refl _) fun P' s' _ _ => Py.mono s' rv)⟩)
/-- a tuple's member at a written place -/
theorem je_itemK {τ : Type} [Py τ] {mx : Out τ} {i : Int} {n : Nat} {pos' : Pos} {f : τ → α} (hf : ∀ {K : PySem.W.Frag} {H : Hp} {v : V} {x : τ}, Py.rep K H v x → ∃ a vs v1, v = .ref a ∧ SqT K H a vs ∧ atI vs i = some v1 ∧ Py.rep K H v1 (f x))
    (ha : JE c ts a mx (Vl c)) (hs : PlainIx (.Constant (.int i) n pos') := by intro _ _; rfl) : JE c ts (.Subscript a (.Constant (.int i) n pos') pos) (mx.bind fun x => (Out.ok i).bind fun _ => .ok (f x)) (Vl c) :=
  PE.imp (pe_ix ix_tup ha je_int hs) (two_imp (B := fun _ => Vl c i) fun {us σ vs H2 xs j x y Q} E q => by
    obtain ⟨F1, FB, F2, E, k, h2⟩ := Env.open (es := [_, _]) (ws := [_, _]) E rfl
    obtain ⟨_, _, _, k1, k2⟩ := StkL.two k
    obtain ⟨p, zs, v1, ex, hp, hx, rv⟩ := hf k2.2
    exact ⟨p, zs, i, v1, ex, k1.2, Same.seqT hide_le hp, hx, q v1 H2 (E.pushV h2 (Same.refl _) fun P' s' _ _ => Py.mono s' rv)⟩)
theorem k_fst {K : PySem.W.Frag} {H : Hp} {v : V} {x : α × β} (h : Py.rep K H v x) : ∃ a vs v1, v = .ref a ∧ SqT K H a vs ∧ atI vs 0 = some v1 ∧ Py.rep K H v1 x.1 := by
  obtain ⟨a, v1, v2, e, h, r1, r2⟩ := h
  exact ⟨a, _, v1, e, h, rfl, r1⟩
theorem k_snd {K : PySem.W.Frag} {H : Hp} {v : V} {x : α × β} (h : Py.rep K H v x) : ∃ a vs v1, v = .ref a ∧ SqT K H a vs ∧ atI vs 1 = some v1 ∧ Py.rep K H v1 x.2 := by
  obtain ⟨a, v1, v2, e, h, r1, r2⟩ := h
  exact ⟨a, _, v2, e, h, rfl, r2⟩
theorem k_3a {K : PySem.W.Frag} {H : Hp} {v : V} {x : T3 α β γ} (h : Py.rep K H v x) : ∃ a vs v1, v = .ref a ∧ SqT K H a vs ∧ atI vs 0 = some v1 ∧ Py.rep K H v1 x.a := by
  obtain ⟨a, v1, v2, v3, e, h, r1, r2, r3⟩ := h
  exact ⟨a, _, _, e, h, rfl, r1⟩
theorem k_3b {K : PySem.W.Frag} {H : Hp} {v : V} {x : T3 α β γ} (h : Py.rep K H v x) : ∃ a vs v1, v = .ref a ∧ SqT K H a vs ∧ atI vs 1 = some v1 ∧ Py.rep K H v1 x.b := by
  obtain ⟨a, v1, v2, v3, e, h, r1, r2, r3⟩ := h
  exact ⟨a, _, _, e, h, rfl, r2⟩
theorem k_3c {K : PySem.W.Frag} {H : Hp} {v : V} {x : T3 α β γ} (h : Py.rep K H v x) : ∃ a vs v1, v = .ref a ∧ SqT K H a vs ∧ atI vs 2 = some v1 ∧ Py.rep K H v1 x.c := by
  obtain ⟨a, v1, v2, v3, e, h, r1, r2, r3⟩ := h
  exact ⟨a, _, _, e, h, rfl, r3⟩

/-! len -/
theorem call1 {x : Str} {p : Pos} {id : String} {r : List V → Hp → VK → Prop} (hc : CallR c.X (.builtin id) r) (hg : Gl c.X x) (hm : c.X.mg x = none) (hv : bootBuiltins x = some (.builtin id)) (hn : x ≠ "__name__") (hdb : (x == ("__debug__" : Str)) = false)
    (he : starEach [a] c.X.env = (false, eval a c.X.env) :: starEach [] c.X.env) (hpl : (backTo pos (starEach [] c.X.env)).any (·.1) = false) {ta : TE} (ha : PE c.X a ta) : PE c.X (.Call (.Name x p) [a] [] pos) (fun σ H Q => ta σ H fun y H1 => r [y] H1 Q) :=
  pe_callB hc hg hm hv (pa_cons ha pa_nil he) hn hdb he hpl
theorem je_len {mx : Out (List α)} {A : List α → Ent} {p : Pos} (hm : c.X.mg "len" = none) (rx : ∀ xs, Rd c ts (A xs) xs) (ha : JE c ts a mx A) (hg : Gl c.X "len" := by rfl) (he : starEach [a] c.X.env = (false, eval a c.X.env) :: starEach [] c.X.env := by rfl) (hpl : (backTo pos (starEach [] c.X.env)).any (·.1) = false := by rfl) :
    JE c ts (.Call (.Name "len" p) [a] [] pos) (mx.bind fun xs => .ok (xs.length : Int)) (Vl c) :=
  je_one1 (t := fun ta => fun σ H Q => ta σ H fun y H1 => (fun xs H Q => ∃ p ys, xs = [V.ref p] ∧ (SqL c.X.K H p ys ∨ SqT c.X.K H p ys) ∧ Q (.int ys.length) H) [y] H1 Q) (r := fun y H1 Q => ∃ p ys, [y] = [V.ref p] ∧ (SqL c.X.K H1 p ys ∨ SqT c.X.K H1 p ys) ∧ Q (.int ys.length) H1)
    (fun h => call1 call_len_seq hg hm PySem.boot_len (by decide) (by decide) he hpl h) ha (fun h => h) fun {us σ vs H2 xs x Q} E q => by
    obtain ⟨p, zs, ex, hp, rp⟩ := E.rd1 (rx xs)
    subst ex
    refine ⟨p, zs, rfl, .inl (SqL.of hp), ?_⟩
    rw [Pd.len rp]
    exact q _ H2 (Env.pushS (es := [_]) (ws := [_]) (K := c.X.K) (H0 := H2) E rfl rfl)
theorem je_lenT {mx : Out (Tup α)} {p : Pos} (hm : c.X.mg "len" = none) (ha : JE c ts a mx (Vl c)) (hg : Gl c.X "len" := by rfl) (he : starEach [a] c.X.env = (false, eval a c.X.env) :: starEach [] c.X.env := by rfl) (hpl : (backTo pos (starEach [] c.X.env)).any (·.1) = false := by rfl) :
    JE c ts (.Call (.Name "len" p) [a] [] pos) (mx.bind fun xs => .ok (xs.l.length : Int)) (Vl c) :=
  je_one1 (t := fun ta => fun σ H Q => ta σ H fun y H1 => (fun xs H Q => ∃ p ys, xs = [V.ref p] ∧ (SqL c.X.K H p ys ∨ SqT c.X.K H p ys) ∧ Q (.int ys.length) H) [y] H1 Q) (r := fun y H1 Q => ∃ p ys, [y] = [V.ref p] ∧ (SqL c.X.K H1 p ys ∨ SqT c.X.K H1 p ys) ∧ Q (.int ys.length) H1)
    (fun h => call1 call_len_seq hg hm PySem.boot_len (by decide) (by decide) he hpl h) ha (fun h => h) fun {us σ vs H2 xs x Q} E q => by
    obtain ⟨p, zs, ex, hp, rp⟩ := E.rd1 rdV
    subst ex
    refine ⟨p, zs, rfl, .inr hp, ?_⟩
    rw [Pd.len rp]
    exact q _ H2 (Env.pushS (es := [_]) (ws := [_]) (K := c.X.K) (H0 := H2) E rfl rfl)
theorem je_lenS {mx : Out Scr} {A : Scr → Ent} {p : Pos} (hm : c.X.mg "len" = none) (rx : ∀ xs, Rd c ts (A xs) xs) (ha : JE c ts a mx A) (hg : Gl c.X "len" := by rfl) (he : starEach [a] c.X.env = (false, eval a c.X.env) :: starEach [] c.X.env := by rfl) (hpl : (backTo pos (starEach [] c.X.env)).any (·.1) = false := by rfl) :
    JE c ts (.Call (.Name "len" p) [a] [] pos) (mx.bind fun xs => .ok (xs.l.length : Int)) (Vl c) :=
  je_one1 (t := fun ta => fun σ H Q => ta σ H fun y H1 => (fun xs H Q => ∃ p ys, xs = [V.ref p] ∧ (SqL c.X.K H p ys ∨ SqT c.X.K H p ys) ∧ Q (.int ys.length) H) [y] H1 Q) (r := fun y H1 Q => ∃ p ys, [y] = [V.ref p] ∧ (SqL c.X.K H1 p ys ∨ SqT c.X.K H1 p ys) ∧ Q (.int ys.length) H1)
    (fun h => call1 call_len_seq hg hm PySem.boot_len (by decide) (by decide) he hpl h) ha (fun h => h) fun {us σ vs H2 xs x Q} E q => by
    obtain ⟨p, ex, hp⟩ := E.rd1 (rx xs)
    subst ex
    refine ⟨p, _, rfl, .inl hp, ?_⟩
    rw [List.length_map]
    exact q _ H2 (Env.pushS (es := [_]) (ws := [_]) (K := c.X.K) (H0 := H2) E rfl rfl)
/-! abs, int -/
theorem je_abs {mx : Out Int} {p : Pos} (hm : c.X.mg "abs" = none) (ha : JE c ts a mx (Vl c)) (hg : Gl c.X "abs" := by rfl) (he : starEach [a] c.X.env = (false, eval a c.X.env) :: starEach [] c.X.env := by rfl) (hpl : (backTo pos (starEach [] c.X.env)).any (·.1) = false := by rfl) :
    JE c ts (.Call (.Name "abs" p) [a] [] pos) (mx.bind fun x => .ok (if x < 0 then -x else x)) (Vl c) :=
  je_one1 (t := fun ta => fun σ H Q => ta σ H fun y H1 => (fun (xs : List V) (H : Hp) (Q : VK) => ∃ i, xs = [V.int i] ∧ Q (.int (if i < 0 then -i else i)) H) [y] H1 Q) (r := fun y H1 Q => ∃ i, [y] = [V.int i] ∧ Q (.int (if i < 0 then -i else i)) H1)
    (fun h => call1 call_abs hg hm (by decide +kernel) (by decide) (by decide) he hpl h) ha (fun h => h) fun {us σ vs H2 i x Q} E q => by
    have ex : x = .int i := E.rd1 rdV
    subst ex
    exact ⟨i, rfl, q _ H2 (Env.pushS (es := [_]) (ws := [_]) (K := c.X.K) (H0 := H2) E rfl rfl)⟩
theorem callT1 {x : Str} {p : Pos} {T : String} {r : List V → Hp → VK → Prop} (hc : CallR c.X (.type T) r) (hg : Gl c.X x) (hm : c.X.mg x = none) (hv : bootBuiltins x = some (.type T)) (hn : x ≠ "__name__") (hdb : (x == ("__debug__" : Str)) = false)
    (he : starEach [a] c.X.env = (false, eval a c.X.env) :: starEach [] c.X.env) (hpl : (backTo pos (starEach [] c.X.env)).any (·.1) = false) {ta : TE} (ha : PE c.X a ta) : PE c.X (.Call (.Name x p) [a] [] pos) (fun σ H Q => ta σ H fun y H1 => r [y] H1 Q) :=
  pe_callTy hc hg hm hv (pa_cons ha pa_nil he) hn hdb he hpl
theorem je_intI {mx : Out Int} {p : Pos} (hm : c.X.mg "int" = none) (ha : JE c ts a mx (Vl c)) (hg : Gl c.X "int" := by rfl) (he : starEach [a] c.X.env = (false, eval a c.X.env) :: starEach [] c.X.env := by rfl) (hpl : (backTo pos (starEach [] c.X.env)).any (·.1) = false := by rfl) :
    JE c ts (.Call (.Name "int" p) [a] [] pos) (mx.bind fun x => .ok x) (Vl c) :=
  je_one1 (t := fun ta => fun σ H Q => ta σ H fun y H1 => (fun (xs : List V) (H : Hp) (Q : VK) => (∃ i, xs = [V.int i] ∧ Q (.int i) H) ∨ ∃ k, xs = [.bl k] ∧ Q (.int (if k then 1 else 0)) H) [y] H1 Q) (r := fun y H1 Q => (∃ i, [y] = [V.int i] ∧ Q (.int i) H1) ∨ ∃ k, [y] = [V.bl k] ∧ Q (.int (if k then 1 else 0)) H1)
    (fun h => callT1 call_int1 hg hm (by decide +kernel) (by decide) (by decide) he hpl h) ha (fun h => h) fun {us σ vs H2 i x Q} E q => by
    have ex : x = .int i := E.rd1 rdV
    subst ex
    exact .inl ⟨i, rfl, q _ H2 (Env.pushS (es := [_]) (ws := [_]) (K := c.X.K) (H0 := H2) E rfl rfl)⟩
theorem je_intB {mx : Out Bool} {p : Pos} (hm : c.X.mg "int" = none) (ha : JE c ts a mx (Vl c)) (hg : Gl c.X "int" := by rfl) (he : starEach [a] c.X.env = (false, eval a c.X.env) :: starEach [] c.X.env := by rfl) (hpl : (backTo pos (starEach [] c.X.env)).any (·.1) = false := by rfl) :
    JE c ts (.Call (.Name "int" p) [a] [] pos) (mx.bind fun x => .ok (if x = true then (1 : Int) else 0)) (Vl c) :=
  je_one1 (t := fun ta => fun σ H Q => ta σ H fun y H1 => (fun (xs : List V) (H : Hp) (Q : VK) => (∃ i, xs = [V.int i] ∧ Q (.int i) H) ∨ ∃ k, xs = [.bl k] ∧ Q (.int (if k then 1 else 0)) H) [y] H1 Q) (r := fun y H1 Q => (∃ i, [y] = [V.int i] ∧ Q (.int i) H1) ∨ ∃ k, [y] = [V.bl k] ∧ Q (.int (if k then 1 else 0)) H1)
    (fun h => callT1 call_int1 hg hm (by decide +kernel) (by decide) (by decide) he hpl h) ha (fun h => h) fun {us σ vs H2 i x Q} E q => by
    have ex : x = .bl i := E.rd1 rdV
    subst ex
    exact .inr ⟨i, rfl, q _ H2 (Env.pushS (es := [_]) (ws := [_]) (K := c.X.K) (H0 := H2) E rfl rfl)⟩
/-! list(xs) -/
theorem je_listL {mx : Out (List α)} {A : List α → Ent} {p : Pos} (hm : c.X.mg "list" = none) (rx : ∀ xs, RdE c ts (A xs) xs) (ha : JE c ts a mx A) (hg : Gl c.X "list" := by rfl) (he : starEach [a] c.X.env = (false, eval a c.X.env) :: starEach [] c.X.env := by rfl) (hpl : (backTo pos (starEach [] c.X.env)).any (·.1) = false := by rfl) :
    JE c ts (.Call (.Name "list" p) [a] [] pos) (mx.bind fun xs => .ok xs) (Ow c) :=
  je_one1 (t := fun ta => fun σ H Q => ta σ H fun y H1 => (fun xs H Q => ∃ p ys, xs = [V.ref p] ∧ (SqL c.X.K H p ys ∨ SqT c.X.K H p ys) ∧ ∀ l, H l = none → Q (.ref l) (upd H l (.lst ys))) [y] H1 Q) (r := fun y H1 Q => ∃ p ys, [y] = [V.ref p] ∧ (SqL c.X.K H1 p ys ∨ SqT c.X.K H1 p ys) ∧ ∀ l, H1 l = none → Q (.ref l) (upd H1 l (.lst ys)))
    (fun h => callT1 call_list_of hg hm (by decide +kernel) (by decide) (by decide) he hpl h) ha (fun h => h) fun {us σ vs H2 xs x Q} E q => by
    obtain ⟨F1, FB, F2, E, k, h2⟩ := Env.open (es := [_]) (ws := [_]) E rfl
    obtain ⟨p, zs, ex, hp, rp⟩ := rx xs E.part E.g E.sl (StkL.one k)
    subst ex
    exact ⟨p, zs, rfl, .inl (SqL.of hp), fun l hl => q _ _ (E.pushN h2 hl fun P' s' _ => rp.mono s')⟩
theorem je_listT {mx : Out (Tup α)} {p : Pos} (hm : c.X.mg "list" = none) (ha : JE c ts a mx (Vl c)) (hg : Gl c.X "list" := by rfl) (he : starEach [a] c.X.env = (false, eval a c.X.env) :: starEach [] c.X.env := by rfl) (hpl : (backTo pos (starEach [] c.X.env)).any (·.1) = false := by rfl) :
    JE c ts (.Call (.Name "list" p) [a] [] pos) (mx.bind fun xs => .ok xs.l) (Ow c) :=
  je_one1 (t := fun ta => fun σ H Q => ta σ H fun y H1 => (fun xs H Q => ∃ p ys, xs = [V.ref p] ∧ (SqL c.X.K H p ys ∨ SqT c.X.K H p ys) ∧ ∀ l, H l = none → Q (.ref l) (upd H l (.lst ys))) [y] H1 Q) (r := fun y H1 Q => ∃ p ys, [y] = [V.ref p] ∧ (SqL c.X.K H1 p ys ∨ SqT c.X.K H1 p ys) ∧ ∀ l, H1 l = none → Q (.ref l) (upd H1 l (.lst ys)))
    (fun h => callT1 call_list_of hg hm (by decide +kernel) (by decide) (by decide) he hpl h) ha (fun h => h) fun {us σ vs H2 xs x Q} E q => by
    obtain ⟨F1, FB, F2, E, k, h2⟩ := Env.open (es := [_]) (ws := [_]) E rfl
    obtain ⟨p, zs, ex, hp, rp⟩ := (StkL.one k).2
    subst ex
    exact ⟨p, zs, rfl, .inr (Same.seqT hide_le hp), fun l hl => q _ _ (E.pushN h2 hl fun P' s' _ => rp.mono s')⟩
/-! xs + ys, xs * n -/
def lenOk (n : Nat) : Prop := n ≤ 16777216
instance (n : Nat) : Decidable (lenOk n) := by unfold lenOk; infer_instance
theorem lenOk.le {n : Nat} (h : lenOk n) : n ≤ sizeLine := by
  rw [sizeLine_eq]
  exact h
theorem je_cat {m1 m2 : Out (List α)} {A B : List α → Ent} (rA : ∀ xs, RdE c ts (A xs) xs) (rB : ∀ xs, RdE c ts (B xs) xs) (ha : JE c ts a m1 A) (hb : JE c ts b m2 B) :
    JE c ts (.BinOp a .Add b pos) (m1.bind fun xs => m2.bind fun ys => chk (lenOk (xs.length + ys.length)) (xs ++ ys)) (Ow c) :=
  PE.imp (pe_op op_cat ha hb) (two_imp fun {us σ vs H2 xs ys x y Q} E q => by
    obtain ⟨F1, FB, F2, E, k, h2⟩ := Env.open (es := [_, _]) (ws := [_, _]) E rfl
    obtain ⟨_, _, _, k1, k2⟩ := StkL.two k
    obtain ⟨p1, z1, e1, hp1, r1⟩ := rA xs E.part E.g E.sl k2
    obtain ⟨p2, z2, e2, hp2, r2⟩ := rB ys E.part E.g E.sl k1
    obtain ⟨hl, q⟩ := wp_chk q
    refine ⟨p1, p2, z1, z2, e1, e2, hp1, hp2, by rw [Pd.len r1, Pd.len r2]; exact hl.le, fun l hl => q _ _ (E.pushN h2 hl fun P' s' _ => Pd.append (r1.mono s') (r2.mono s'))⟩)
def repOk (n : Nat) (k : Int) : Prop := -(2 ^ 63) ≤ k ∧ k < 2 ^ 63 ∧ n * k.toNat ≤ 16777216
instance (n : Nat) (k : Int) : Decidable (repOk n k) := by unfold repOk; infer_instance
theorem je_rep {m1 : Out (List α)} {m2 : Out Int} {A : List α → Ent} (rA : ∀ xs, RdE c ts (A xs) xs) (ha : JE c ts a m1 A) (hb : JE c ts b m2 (Vl c)) :
    JE c ts (.BinOp a .Mult b pos) (m1.bind fun xs => m2.bind fun n => chk (repOk xs.length n) (List.replicate n.toNat xs).flatten) (Ow c) :=
  PE.imp (pe_op op_rep ha hb) (two_imp fun {us σ vs H2 xs n x y Q} E q => by
    obtain ⟨F1, FB, F2, E, k, h2⟩ := Env.open (es := [_, _]) (ws := [_, _]) E rfl
    obtain ⟨_, _, _, k1, k2⟩ := StkL.two k
    obtain ⟨p1, z1, e1, hp1, r1⟩ := rA xs E.part E.g E.sl k2
    obtain ⟨hl, q⟩ := wp_chk q
    refine ⟨p1, n, z1, e1, k1.2, hp1, hl.1, hl.2.1, by rw [Pd.len r1, sizeLine_eq]; exact hl.2.2, fun l hl => q _ _ (E.pushN h2 hl fun P' s' _ => Pd.rep (r1.mono s') _)⟩)
/-! slices -/
def tO (c : Cw) (ts : List (Option Asn)) (m : Out (Option Int)) : TO := fun σ H Q => ∃ us vs, Env c ts us σ vs H ∧ m.wp (fun b => ∀ H', Env c ts us σ vs H' → Q b H') (Ex c us σ vs)
def JO (c : Cw) (ts : List (Option Asn)) (e : Option Expr) (m : Out (Option Int)) : Prop := PO c.X e (tO c ts m)
theorem jo_none : JO c ts none (.ok none) := ⟨fun pins s σ H Q I ⟨us, vs, E, q⟩ => po_none.run pins s σ H Q I (q H E)⟩
theorem jo_some {m : Out Int} (h : JE c ts e m (Vl c)) : JO c ts (some e) (m.bind fun i => .ok (some i)) := ⟨fun pins s σ H Q I ⟨us, vs, E, q⟩ => (po_some h).run pins s σ H Q I ⟨us, vs, E, Out.wp_mono (Out.wp_bind q) (fun i _ q v H' E' => by
    have ex : v = .int i := E'.rd1 rdV
    exact ⟨i, ex, q H' (Env.pop (es := [_]) (ws := [_]) E' rfl)⟩) fun _ _ z => z⟩⟩
theorem je_sliceG {lo hi : Option Expr} {p2 : Pos} {mx : Out α} {ml mh : Out (Option Int)} {A : α → Ent} {C : β → Ent} {f : α → Option Int → Option Int → Out β} {r : V → Option Int → Option Int → Hp → VK → Prop} (hr : SlR c.X r) (ha : JE c ts a mx A) (hl : JO c ts lo ml) (hh : JO c ts hi mh)
    (hq : ∀ {us σ vs H2 xs x l h Q}, Env c ts (A xs :: us) σ (x :: vs) H2 → (f xs l h).wp (fun z => ∀ v H', Env c ts (C z :: us) σ (v :: vs) H' → Q v H') (Ex c us σ vs) → r x l h H2 Q) :
    JE c ts (.Subscript a (.Slice lo hi none p2) pos) (mx.bind fun xs => ml.bind fun l => mh.bind fun h => f xs l h) C :=
  PE.imp (pe_slice hr ha hl hh) fun σ H Q ⟨us, vs, E, q⟩ => ⟨us, vs, E, Out.wp_mono (Out.wp_bind q) (fun xs _ q => by
    intro x H1 E1
    refine ⟨_, _, E1, Out.wp_mono (Out.wp_bind q) (fun l _ q => ?_) fun e _ z d H' e1 E3 => z d H' e1 (EnvX.pop (es := [_]) (ws := [_]) E3 rfl)⟩
    intro H2 E2
    refine ⟨_, _, E2, Out.wp_mono (Out.wp_bind q) (fun h _ q => ?_) fun e _ z d H' e1 E3 => z d H' e1 (EnvX.pop (es := [_]) (ws := [_]) E3 rfl)⟩
    intro H3 E3
    exact hq E3 q) fun _ _ z => z⟩
theorem je_slice {lo hi : Option Expr} {p2 : Pos} {mx : Out (List α)} {ml mh : Out (Option Int)} {A : List α → Ent} (rA : ∀ xs, RdE c ts (A xs) xs) (ha : JE c ts a mx A) (hl : JO c ts lo ml) (hh : JO c ts hi mh) :
    JE c ts (.Subscript a (.Slice lo hi none p2) pos) (mx.bind fun xs => ml.bind fun l => mh.bind fun h => .ok (cut xs l h)) (Ow c) :=
  je_sliceG (f := fun xs l h => .ok (cut xs l h)) sl_list ha hl hh fun {us σ vs H2 xs x l h Q} E q => by
    obtain ⟨F1, FB, F2, E, k, h2⟩ := Env.open (es := [_]) (ws := [_]) E rfl
    obtain ⟨p, zs, ex, hp, rp⟩ := rA xs E.part E.g E.sl (StkL.one k)
    exact ⟨p, zs, ex, SqL.of hp, fun n hn => q _ _ (E.pushN h2 hn fun P' s' _ => Pd.cut (rp.mono s'))⟩
theorem reps_ints (K : PySem.W.Frag) (H : Hp) : ∀ xs : List Int, Reps K H (xs.map V.int) xs
  | [] => .nil
  | x :: xs => .cons rfl (reps_ints K H xs)
theorem je_sliceS {lo hi : Option Expr} {p2 : Pos} {mx : Out Scr} {ml mh : Out (Option Int)} {A : Scr → Ent} (rA : ∀ xs, Rd c ts (A xs) xs) (ha : JE c ts a mx A) (hl : JO c ts lo ml) (hh : JO c ts hi mh) :
    JE c ts (.Subscript a (.Slice lo hi none p2) pos) (mx.bind fun xs => ml.bind fun l => mh.bind fun h => .ok (cut xs.l l h)) (Ow c) :=
  je_sliceG (f := fun xs l h => .ok (cut xs.l l h)) sl_list ha hl hh fun {us σ vs H2 xs x l h Q} E q => by
    obtain ⟨F1, FB, F2, E, k, h2⟩ := Env.open (es := [_]) (ws := [_]) E rfl
    obtain ⟨p, ex, hp⟩ := rA xs E.part E.g E.sl (StkL.one k)
    exact ⟨p, _, ex, hp, fun n hn => q _ _ (E.pushN h2 hn fun P' s' _ => Pd.cut (reps_ints _ _ xs.l))⟩
end
end Mw
set_option maxRecDepth 100000
set_option maxHeartbeats 4000000
namespace Mw
open PySem PySem.Spec PyProof.Rows L2

theorem hide_congr {O O' : List Addr} {H : Hp} (h : ∀ a, a ∈ O ↔ a ∈ O') : hide O H = hide O' H := by
  funext a
  unfold hide
  by_cases q : a ∈ O
  · rw [if_pos q, if_pos ((h a).mp q)]
  · rw [if_neg q, if_neg fun z => q ((h a).mpr z)]

section
variable {c : Cw} {ts : List (Option Asn)} {us es : List Ent} {σ : Sl} {vs ws : List V} {H H' : Hp} {α β γ δ τ ρ : Type} [Py α] [Py β] [Py ρ] [Py τ] {a b e : Expr} {pos : Pos}

/-- one entry goes on top -/
theorem Env.rot {e : Ent} {v : V} (E : Env c ts (es ++ e :: us) σ (ws ++ v :: vs) H) (hl : es.length = ws.length) : Env c ts (e :: (es ++ us)) σ (v :: (ws ++ vs)) H := by
  obtain ⟨F1, FB, F2, E, h1, h2⟩ := Env.open E hl
  obtain ⟨Fe, Fu, eF, h3, h4⟩ := h2
  subst eF
  have m : ∀ a, a ∈ F1 ++ (FB ++ (Fe ++ Fu)) ↔ a ∈ F1 ++ (Fe ++ (FB ++ Fu)) := fun a => by
    simp only [List.mem_append]
    constructor
    · rintro (h | h | h | h)
      · exact .inl h
      · exact .inr (.inr (.inl h))
      · exact .inr (.inl h)
      · exact .inr (.inr (.inr h))
    · rintro (h | h | h | h)
      · exact .inl h
      · exact .inr (.inr (.inl h))
      · exact .inr (.inl h)
      · exact .inr (.inr (.inr h))
  have m' : ∀ a, a ∈ c.Of ++ (F1 ++ (FB ++ (Fe ++ Fu))) ↔ a ∈ c.Of ++ (F1 ++ (Fe ++ (FB ++ Fu))) := fun a => by
    rw [List.mem_append, m a, ← List.mem_append]
  have eh := hide_congr (H := H) m'
  refine ⟨F1, Fe ++ (FB ++ Fu), ?_, ⟨Fe, FB ++ Fu, rfl, ?_, ?_⟩, ?_, fun a ha => E.fr a ((m a).mpr ha), E.g, E.og⟩
  · rw [← eh]
    exact E.sl
  · rw [← eh]
    exact h3
  · rw [← eh]
    exact StkL.append h1 h4
  · have p : (F1 ++ (FB ++ (Fe ++ Fu))).Perm (F1 ++ (Fe ++ (FB ++ Fu))) := by
      refine List.Perm.append_left _ ?_
      rw [← List.append_assoc, ← List.append_assoc]
      exact List.Perm.append_right _ List.perm_append_comm
    exact p.nodup_iff.mp E.nd
theorem Env.unrot {e : Ent} {v : V} (E : Env c ts (e :: (es ++ us)) σ (v :: (ws ++ vs)) H) (hl : es.length = ws.length) : Env c ts (es ++ e :: us) σ (ws ++ v :: vs) H := by
  obtain ⟨F1, F0, E⟩ := E
  obtain ⟨Fe, FC, eF, h3, h2⟩ := E.sk
  subst eF
  obtain ⟨FB, Fu, eF, h1, h4⟩ := h2.split hl
  subst eF
  have m : ∀ a, a ∈ F1 ++ (Fe ++ (FB ++ Fu)) ↔ a ∈ F1 ++ (FB ++ (Fe ++ Fu)) := fun a => by
    simp only [List.mem_append]
    constructor
    · rintro (h | h | h | h)
      · exact .inl h
      · exact .inr (.inr (.inl h))
      · exact .inr (.inl h)
      · exact .inr (.inr (.inr h))
    · rintro (h | h | h | h)
      · exact .inl h
      · exact .inr (.inr (.inl h))
      · exact .inr (.inl h)
      · exact .inr (.inr (.inr h))
  have m' : ∀ a, a ∈ c.Of ++ (F1 ++ (Fe ++ (FB ++ Fu))) ↔ a ∈ c.Of ++ (F1 ++ (FB ++ (Fe ++ Fu))) := fun a => by
    rw [List.mem_append, m a, ← List.mem_append]
  have eh := hide_congr (H := H) m'
  refine ⟨F1, FB ++ (Fe ++ Fu), ?_, ?_, ?_, fun a ha => E.fr a ((m a).mpr ha), E.g, E.og⟩
  · rw [← eh]
    exact E.sl
  · rw [← eh]
    exact StkL.append h1 ⟨Fe, Fu, rfl, h3, h4⟩
  · have p : (F1 ++ (Fe ++ (FB ++ Fu))).Perm (F1 ++ (FB ++ (Fe ++ Fu))) := by
      refine List.Perm.append_left _ ?_
      rw [← List.append_assoc, ← List.append_assoc]
      exact List.Perm.append_right _ List.perm_append_comm
    exact p.nodup_iff.mp E.nd

/-! ### argument lists -/
def tA (c : Cw) (ts : List (Option Asn)) {γ : Type} (m : Out γ) (As : γ → List Ent) : TA := fun σ H Q => ∃ us vs, Env c ts us σ vs H ∧ m.wp (fun x => ∀ ws H', (As x).length = ws.length → Env c ts (As x ++ us) σ (ws ++ vs) H' → Q ws H') (Ex c us σ vs)
def JA (c : Cw) (ts : List (Option Asn)) (es : List Expr) {γ : Type} (m : Out γ) (As : γ → List Ent) : Prop := PA c.X es (tA c ts m As)
theorem PA.imp {X : Cx} {es : List Expr} {t t' : TA} (h : PA X es t) (i : ∀ σ H Q, t' σ H Q → t σ H Q) : PA X es t' := ⟨fun pos pins s σ H Q I q => h.run pos pins s σ H Q I (i σ H Q q)⟩
theorem ja_nil : JA c ts [] (.ok ()) (fun _ => []) := PA.imp pa_nil fun σ H Q ⟨us, vs, E, q⟩ => q [] H rfl E
theorem ja_cons {e : Expr} {es : List Expr} {m1 : Out α} {m2 : Out γ} {A : α → Ent} {As : γ → List Ent} (h1 : JE c ts e m1 A) (h2 : JA c ts es m2 As) (hs : starEach (e :: es) c.X.env = (false, eval e c.X.env) :: starEach es c.X.env := by rfl) :
    JA c ts (e :: es) (m1.bind fun a => m2.bind fun x => .ok (a, x)) (fun p => A p.1 :: As p.2) :=
  PA.imp (pa_cons h1 h2 hs) fun σ H Q ⟨us, vs, E, q⟩ => ⟨us, vs, E, Out.wp_mono (Out.wp_bind q) (fun a _ q => by
    intro v H1 E1
    refine ⟨_, _, E1, Out.wp_mono (Out.wp_bind q) (fun x _ q => ?_) fun e _ z d H' e1 E3 => z d H' e1 (EnvX.pop (es := [_]) (ws := [_]) E3 rfl)⟩
    intro ws H2 hl E2
    exact q (v :: ws) H2 (by simp [hl]) (Env.rot E2 hl)) fun _ _ z => z⟩

/-! ### what waits is let go: it stays as it is from now on -/
def Fz (c : Cw) (e : Ent) {α : Type} [Py α] (x : α) : Prop := ∀ {P P' H : Hp} {σ : Sl} {F : List Addr} {v : V}, StkOk P H σ e v F → Same P P' → (∀ a ∈ F, ∀ o, H a = some o → P' a = some o) → Py.rep c.X.K P' v x
theorem fzV {x : α} : Fz c (Vl c x) x := fun h s _ => Py.mono s h.2
theorem fzO {x : α} : Fz c (Ow c x) x := fun h s k => Py.own_rep s k h
def FzL (c : Cw) (es : List Ent) {α : Type} [Py α] (xs : List α) : Prop := ∀ {P P' H : Hp} {σ : Sl} {F : List Addr} {ws : List V}, StkL P H σ es ws F → Same P P' → (∀ a ∈ F, ∀ o, H a = some o → P' a = some o) → Reps c.X.K P' ws xs
theorem fzl_nil : FzL c [] ([] : List α) := fun {P P' H σ F ws} h _ _ => by
  cases ws with
  | nil => exact .nil
  | cons _ _ => exact h.elim
theorem fzl_cons {e : Ent} {es : List Ent} {x : α} {xs : List α} (h : Fz c e x) (t : FzL c es xs) : FzL c (e :: es) (x :: xs) := fun {P P' H σ F ws} k s q => by
  cases ws with
  | nil => exact k.elim
  | cons w ws =>
    obtain ⟨F1, F2, eF, k1, k2⟩ := k
    subst eF
    exact .cons (h k1 s fun a ha => q a (List.mem_append_left _ ha)) (t k2 s fun a ha => q a (List.mem_append_right _ ha))
theorem fzl_map : ∀ {xs : List α}, FzL c (xs.map (Vl c)) xs
  | [] => fzl_nil
  | _ :: _ => fzl_cons fzV fzl_map

theorem StkL.wl {P H : Hp} {F : List Addr} (h : StkL P H σ es ws F) : es.length = ws.length := h.len

/-! displays -/
theorem je_list {es : List Expr} {m : Out γ} {As : γ → List Ent} (ha : JA c ts es m As) (toL : γ → List α) (hf : ∀ x, FzL c (As x) (toL x)) (hn : ∀ x, (As x).length ≤ 1000) : JE c ts (.List es pos) (m.bind fun x => .ok (toL x)) (Ow c) :=
  PE.imp (pe_lst ha) fun σ H Q ⟨us, vs, E, q⟩ => ⟨us, vs, E, Out.wp_mono (Out.wp_bind q) (fun x _ q => by
    intro ws H1 hl E1
    refine ⟨by rw [← hl, sizeLine_eq]; exact Nat.le_trans (hn x) (by decide), fun p hp => ?_⟩
    obtain ⟨F1, FB, F2, E1, k, h2⟩ := Env.open E1 hl
    exact q _ _ (E1.pushN h2 hp fun P' s' f => hf x k s' fun a ha o e => f a o ha e)) fun _ _ z => z⟩
theorem je_nil : JE c ts (.List [] pos) (.ok ([] : List α)) (Ow c) :=
  PE.imp (pe_lst pa_nil) fun σ H Q ⟨us, vs, E, q⟩ => ⟨Nat.zero_le _, fun p hp => q _ _ (Env.pushN (es := []) (ws := []) E rfl hp fun _ _ _ _ _ _ _ => .nil)⟩
theorem je_tup {es : List Expr} {m : Out γ} {As : γ → List Ent} {k : Nat} (ha : JA c ts es m As) (toT : γ → τ)
    (hf : ∀ x {P P' H : Hp} {σ : Sl} {F : List Addr} {ws : List V} {p : Addr}, StkL P H σ (As x) ws F → Same P P' → (∀ a ∈ F, ∀ o, H a = some o → P' a = some o) → P' p = some (.tup ws) → Py.rep c.X.K P' (.ref p) (toT x)) (hn : ∀ x, (As x).length ≤ 1000) :
    JE c ts (.Tuple es k pos) (m.bind fun x => .ok (toT x)) (Vl c) :=
  PE.imp (pe_tup ha) fun σ H Q ⟨us, vs, E, q⟩ => ⟨us, vs, E, Out.wp_mono (Out.wp_bind q) (fun x _ q => by
    intro ws H1 hl E1
    refine ⟨by rw [← hl, sizeLine_eq]; exact Nat.le_trans (hn x) (by decide), fun p hp => ?_⟩
    obtain ⟨F1, FB, F2, E1, k, h2⟩ := Env.open E1 hl
    refine q _ _ (E1.pushV h2 (same_new hp) fun P' s' n _ => hf x k s' (fun a ha o e => n a o (.inr ha) ?_) (n p _ (.inl hp) upd_same))
    rw [upd_ne (ne_of_none e hp)]
    exact e) fun _ _ z => z⟩
theorem stk1 {P H : Hp} {F : List Addr} {e : Ent} {ws : List V} (h : StkL P H σ [e] ws F) : ∃ v, ws = [v] ∧ StkOk P H σ e v F := by
  match ws, h with
  | [v], h => exact ⟨v, rfl, StkL.one h⟩
  | [], h => exact h.elim
  | _ :: _ :: _, ⟨_, _, _, _, h⟩ => exact h.elim
theorem stk2 {P H : Hp} {F : List Addr} {e1 e2 : Ent} {ws : List V} (h : StkL P H σ [e1, e2] ws F) : ∃ v1 v2 F1 F2, ws = [v1, v2] ∧ F = F1 ++ F2 ∧ StkOk P H σ e1 v1 F1 ∧ StkOk P H σ e2 v2 F2 := by
  match ws, h with
  | v :: ws, ⟨F1, F2, eF, h1, h2⟩ =>
    obtain ⟨v2, e, h2'⟩ := stk1 h2
    subst e
    exact ⟨v, v2, F1, F2, rfl, eF, h1, h2'⟩
theorem je_tup2 {es : List Expr} {m : Out (α × β × Unit)} {A : α → Ent} {B : β → Ent} {k : Nat} (fA : ∀ x, Fz c (A x) x) (fB : ∀ x, Fz c (B x) x) (ha : JA c ts es m (fun p => [A p.1, B p.2.1])) :
    JE c ts (.Tuple es k pos) (m.bind fun x => .ok (x.1, x.2.1)) (Vl c) :=
  je_tup ha (fun x => (x.1, x.2.1)) (fun x {P P' H σ F ws p} h s f hp => by
    obtain ⟨v1, v2, F1, F2, e, eF, h1, h2⟩ := stk2 h
    subst e eF
    exact ⟨p, v1, v2, rfl, SqT.of hp, fA _ h1 s fun a ha => f a (List.mem_append_left _ ha), fB _ h2 s fun a ha => f a (List.mem_append_right _ ha)⟩) fun _ => Nat.le_of_ble_eq_true rfl
theorem je_tup3 {γ' : Type} [Py γ'] {es : List Expr} {m : Out (α × β × γ' × Unit)} {A : α → Ent} {B : β → Ent} {C : γ' → Ent} {k : Nat} (fA : ∀ x, Fz c (A x) x) (fB : ∀ x, Fz c (B x) x) (fC : ∀ x, Fz c (C x) x) (ha : JA c ts es m (fun p => [A p.1, B p.2.1, C p.2.2.1])) :
    JE c ts (.Tuple es k pos) (m.bind fun x => .ok (T3.mk x.1 x.2.1 x.2.2.1)) (Vl c) :=
  je_tup ha (fun x => T3.mk x.1 x.2.1 x.2.2.1) (fun x {P P' H σ F ws p} h s f hp => by
    match ws, h with
    | v :: ws, ⟨F1, F2, eF, h1, h2⟩ =>
      obtain ⟨v2, v3, F3, F4, e, eF', h3, h4⟩ := stk2 h2
      subst e eF eF'
      exact ⟨p, v, v2, v3, rfl, SqT.of hp, fA _ h1 s fun a ha => f a (List.mem_append_left _ ha), fB _ h3 s fun a ha => f a (List.mem_append_right _ (List.mem_append_left _ ha)),
        fC _ h4 s fun a ha => f a (List.mem_append_right _ (List.mem_append_right _ ha))⟩) fun _ => Nat.le_of_ble_eq_true rfl
/-- a tuple of things alike -/
theorem je_tupL {es : List Expr} {m : Out γ} {As : γ → List Ent} {k : Nat} (ha : JA c ts es m As) (toL : γ → List α) (hf : ∀ x, FzL c (As x) (toL x)) (hn : ∀ x, (As x).length ≤ 1000) : JE c ts (.Tuple es k pos) (m.bind fun x => .ok (Tup.mk (toL x))) (Vl c) :=
  je_tup ha (fun x => Tup.mk (toL x)) (fun x {P P' H σ F ws p} h s f hp => ⟨p, ws, rfl, SqT.of hp, hf x h s f⟩) hn

/-! ### own functions -/
abbrev ArgP := Hp → Hp → V → Prop
def aV (K : PySem.W.Frag) {α : Type} [Py α] (x : α) : ArgP := fun P _ v => Py.rep K P v x
def aB (K : PySem.W.Frag) {α : Type} [Py α] (x : α) : ArgP := fun _ H v => Py.rep K H v x
def ArgL (ps : List ArgP) (P H : Hp) (vs : List V) : Prop := Paired (fun v p => p P H v) vs ps
def ResOk (K : PySem.W.Frag) (md : Md) {ρ : Type} [Py ρ] (O : List Addr) (H H' : Hp) (r : ρ) (v : V) : Prop :=
  ∃ F : List Addr, (∀ a ∈ F, H a = none) ∧ F.Nodup ∧ (∀ a ∈ F, MutA H' a) ∧ (asn K H md r).p (hide (O ++ F) H') H' F v
/-- the promise: it does what its mirror f says -/
def spM (K : PySem.W.Frag) (eg : EK → Addr) (md : Md) {γ ρ : Type} [Py ρ] (f : γ → Out ρ) (As : γ → List ArgP) : Sp := fun vs H Q E =>
  ∃ (x : γ) (O : List Addr), (∀ a ∈ O, MutA H a) ∧ ArgL (As x) (hide O H) H vs ∧ (f x).wp (fun r => ∀ v H', Same H H' → ResOk K md O H H' r v → Q v H') (fun e => ∀ d H', ErrAt e d H' → Same H H' → E (.ref (eg e.k)) d H')
def Ps (c : Cw) (ts : List (Option Asn)) (e : Ent) (p : ArgP) : Prop := ∀ {P H P' : Hp} {σ : Sl} {F F1 : List Addr} {v : V}, Part P H → Same c.G H → EnvL P H ts σ F1 → StkOk P H σ e v F → Same P P' → (∀ a ∈ F, ∀ o, H a = some o → P' a = some o) → p P' H v
theorem psB {e : Ent} {x : α} (r : Rd c ts e x) : Ps c ts e (aB c.X.K x) := fun p g l h _ _ => r p g l h
theorem psV {e : Ent} {x : α} (r : Fz c e x) : Ps c ts e (aV c.X.K x) := fun _ _ _ h s k => r h s k
def PsL (c : Cw) (ts : List (Option Asn)) (es : List Ent) (ps : List ArgP) : Prop := ∀ {P H P' : Hp} {σ : Sl} {F F1 : List Addr} {ws : List V}, Part P H → Same c.G H → EnvL P H ts σ F1 → StkL P H σ es ws F → Same P P' → (∀ a ∈ F, ∀ o, H a = some o → P' a = some o) → ArgL ps P' H ws
theorem psl_nil : PsL c ts [] [] := fun {P H P' σ F F1 ws} _ _ _ h _ _ => by
  cases ws with
  | nil => exact .nil
  | cons _ _ => exact h.elim
theorem psl_cons {e : Ent} {es : List Ent} {p : ArgP} {ps : List ArgP} (h : Ps c ts e p) (t : PsL c ts es ps) : PsL c ts (e :: es) (p :: ps) := fun {P H P' σ F F1 ws} pp g l k s q => by
  cases ws with
  | nil => exact k.elim
  | cons w ws =>
    obtain ⟨F1, F2, eF, k1, k2⟩ := k
    subst eF
    exact .cons (h pp g l k1 s fun a ha => q a (List.mem_append_left _ ha)) (t pp g l k2 s fun a ha => q a (List.mem_append_right _ ha))
/-- of the slots only what tx tells is kept -/
def Wk (c : Cw) (ts ts' : List (Option Asn)) : Prop := ∀ {us : List Ent} {σ : Sl} {vs : List V} {H : Hp}, Env c ts us σ vs H → Env c ts' us σ vs H
def WkX (c : Cw) (ts : List (Option Asn)) : Prop := match c.tx with
  | none => True
  | some tx => Wk c ts tx
theorem WkX.go (w : WkX c ts) (E : Env c ts us σ vs H) : EnvX c us σ vs H := by
  unfold WkX at w
  unfold EnvX
  cases h : c.tx with
  | none => exact E.ground
  | some tx =>
    rw [h] at w
    exact w E

theorem je_call {CX : CXT} {x : Str} {p : Pos} {e : Expr} {es : List Expr} {m : Out γ} {Es : γ → List Ent} {As : γ → List ArgP} {mf : γ → Out ρ} {md : Md} (hmd : md = .val ∨ md = .own) {k : Nat} {f : Addr} {fd : FuncData} {ps : List Str}
    (pe : ∀ {t : TA}, PA c.X (e :: es) t → PE c.X (.Call (.Name x p) (e :: es) [] pos) (tCallS (spM c.X.K c.eg md mf As) (WE c.W) t))
    (ha : JA c ts (e :: es) m Es) (hp : ∀ x, PsL c ts (Es x) (As x)) (hw : WkX c ts) :
    JE c ts (.Call (.Name x p) (e :: es) [] pos) (m.bind fun x => mf x) (fun r => .as (asn c.X.K c.G md r)) :=
  PE.imp (pe ha) fun σ H Q ⟨us, vs, E, q⟩ => ⟨us, vs, E, Out.wp_mono (Out.wp_bind q) (fun y _ q => by
    intro ws H1 hl E1
    obtain ⟨F1, FB, F2, E1, k, h2⟩ := Env.open E1 hl
    have nd := E1.nd
    have nB : ∀ a ∈ FB, a ∉ c.Of ++ (F1 ++ F2) := fun a h z => by
      obtain ⟨n1, n2, n3⟩ := List.nodup_append.mp nd
      obtain ⟨m1, m2, m3⟩ := List.nodup_append.mp n2
      rcases List.mem_append.mp z with z | z
      · have q1 := (E1.fr a (List.mem_append_right _ (List.mem_append_left _ h))).1
        obtain ⟨o, e, _⟩ := E1.og a z
        rw [q1] at e
        cases e
      · rcases List.mem_append.mp z with z | z
        · exact n3 a z a (List.mem_append_left _ h) rfl
        · exact m3 a h a z rfl
    have sub : ∀ a, a ∈ c.Of ++ (F1 ++ F2) → a ∈ c.Of ++ (F1 ++ (FB ++ F2)) := fun a h => by
      rcases List.mem_append.mp h with h | h
      · exact List.mem_append_left _ h
      · rcases List.mem_append.mp h with h | h
        · exact List.mem_append_right _ (List.mem_append_left _ h)
        · exact List.mem_append_right _ (List.mem_append_right _ (List.mem_append_right _ h))
    have sO : Same (hide (c.Of ++ (F1 ++ (FB ++ F2))) H1) (hide (c.Of ++ (F1 ++ F2)) H1) := fun a o z => by
      obtain ⟨n, z⟩ := hide_some z
      rw [hide_of fun y => n (sub a y)]
      exact z
    refine ⟨y, c.Of ++ (F1 ++ F2), fun a ha => ?_, hp y E1.part E1.g E1.sl k sO (fun a ha o e => by rw [hide_of (nB a ha)]; exact e), Out.wp_mono q (fun r _ q v H2 s r' => ?_) fun er _ q d H2 h1 s => ?_⟩
    · rcases List.mem_append.mp ha with h | h
      · obtain ⟨o, e, mo⟩ := E1.og a h
        exact ⟨o, E1.g _ _ e, mo⟩
      · exact (E1.fr a (by
          rcases List.mem_append.mp h with h | h
          · exact List.mem_append_left _ h
          · exact List.mem_append_right _ (List.mem_append_right _ h))).2
    · obtain ⟨F, g1, g2, g3, g4⟩ := r'
      refine q v H2 ⟨F1, F ++ F2, E1.top h2 s (fun a h => .inr (g1 a h)) g2 g3 fun P' s' n l => ?_⟩
      have hs : Same (hide (c.Of ++ (F1 ++ F2) ++ F) H2) P' := fun a o z => by
        obtain ⟨n', z⟩ := hide_some z
        have nF : a ∉ F := fun y => n' (List.mem_append_right _ y)
        have nO : a ∉ c.Of ++ (F1 ++ F2) := fun y => n' (List.mem_append_left _ y)
        by_cases hB : a ∈ FB
        · exact n a o (.inr hB) nF z
        · cases e : H1 a with
          | none => exact n a o (.inl e) nF z
          | some u =>
            have z' := s _ _ e
            rw [z] at z'
            cases z'
            refine s' a o ?_
            rw [hide_of fun y => ?_]
            · exact e
            · rcases List.mem_append.mp y with y | y
              · exact nO (List.mem_append_left _ y)
              · rcases List.mem_append.mp y with y | y
                · exact nO (List.mem_append_right _ (List.mem_append_left _ y))
                · rcases List.mem_append.mp y with y | y
                  · exact hB y
                  · exact nO (List.mem_append_right _ (List.mem_append_right _ y))
      have e : asn c.X.K H1 md r = asn c.X.K c.G md r := by rcases hmd with e | e <;> subst e <;> rfl
      rw [e] at g4
      exact (asn c.X.K c.G md r).st hs (fun _ _ _ z => z) g4
    · exact q d H2 h1 (hw.go (Env.pop (Env.same ⟨F1, FB ++ F2, E1⟩ s) hl))) fun _ _ z => z⟩
theorem je_fn {x : Str} {p : Pos} {e : Expr} {es : List Expr} {m : Out γ} {Es : γ → List Ent} {As : γ → List ArgP} {mf : γ → Out ρ} {md : Md} {k : Nat} {f : Addr} {fd : FuncData} {ps : List Str}
    (F : FnOk c.X.prog c.X.w c.X.K c.X.mg c.X.base (L2.CX c.X.prog c.X.w) k f fd ps (spM c.X.K c.eg md mf As)) (hr : Room k c.X.A) (hm : c.X.mg x = some (.ref f)) (hk : PySem.W.keepIn c.X.K (.ref f) = true) (hb : Binds c.X.K fd ps []) (tk : Takes c.X c.W)
    (ha : JA c ts (e :: es) m Es) (hp : ∀ x, PsL c ts (Es x) (As x)) (hw : WkX c ts) (hmd : md = .val ∨ md = .own := by first | exact .inl rfl | exact .inr rfl) (hg : Gl c.X x := by rfl) (hdb : (x == ("__debug__" : Str)) = false := by decide)
    (he : starEach (e :: es) c.X.env = (false, eval e c.X.env) :: starEach es c.X.env := by rfl) (hpl : (backTo pos (starEach es c.X.env)).any (·.1) = false := by rfl) :
    JE c ts (.Call (.Name x p) (e :: es) [] pos) (m.bind fun x => mf x) (fun r => .as (asn c.X.K c.G md r)) :=
  je_call (CX := L2.CX c.X.prog c.X.w) (k := k) (f := f) (fd := fd) (ps := ps) hmd (fun h => pe_callS F hr hg hm hk hb (fun σ => passAt tk σ) h hdb he hpl) ha hp hw
end
end Mw
set_option maxRecDepth 100000
set_option maxHeartbeats 4000000
namespace Mw
open PySem PySem.Spec PyProof.Rows L2

/-! ### statements -/
/-- how a block may be left -/
inductive Exit where
  | next (ts : List (Option Asn))
  | again (ts : List (Option Asn))
  | cnt (ts : List (Option Asn))
  | brk (ts : List (Option Asn))
  | ret (A : Asn)
  | never
def Exit.noF : Exit → Exit
  | .next _ => .never
  | .again ts => .cnt ts
  | x => x
def Exit.retO : Exit → Exit
  | .ret A => .ret A
  | _ => .never
def ExitOk (c : Cw) (us : List Asn) (vs : List V) (D : Ends) : Exit → Prop
  | .next ts => ∀ σ H, Env c ts (us.map .as) σ vs H → D.nx σ H
  | .again ts => (∀ σ H, Env c ts (us.map .as) σ vs H → D.nx σ H) ∧ ∀ σ H, Env c ts (us.map .as) σ vs H → D.ct σ H
  | .cnt ts => ∀ σ H, Env c ts (us.map .as) σ vs H → D.ct σ H
  | .brk ts => ∀ σ H, Env c ts (us.map .as) σ vs H → D.bk σ H
  | .ret A => ∀ v H, Env c [] (.as A :: us.map .as) [] (v :: vs) H → D.rt v H
  | .never => True
def ExS (c : Cw) (us : List Asn) (vs : List V) (e : Err) : Prop := ∀ σ, Ex c (us.map .as) σ vs e
def tS (c : Cw) (ts : List (Option Asn)) {ω : Type} (m : Out ω) (post : ω → Exit) : TS := fun D σ H => ∃ (us : List Asn) (vs : List V), Env c ts (us.map .as) σ vs H ∧ m.wp (fun w => ExitOk c us vs D (post w)) (ExS c us vs)
/-- the block st does what m says -/
def JS (c : Cw) (ts : List (Option Asn)) (st : List Stmt) {ω : Type} (m : Out ω) (post : ω → Exit) : Prop := PSs c.X st (tS c ts m post)
theorem PSs.imp {X : Cx} {st : List Stmt} {t t' : TS} (h : PSs X st t) (i : ∀ D σ H, t' D σ H → t D σ H) : PSs X st t' := ⟨fun pins s σ H D I q => h.run pins s σ H D I (i D σ H q)⟩
theorem PSs.ex {X : Cx} {st : List Stmt} {ι : Type} {t : ι → TS} (h : ∀ i, PSs X st (t i)) : PSs X st (fun D σ H => ∃ i, t i D σ H) := ⟨fun pins s σ H D I ⟨i, q⟩ => (h i).run pins s σ H D I q⟩

section
variable {c : Cw} {ts tt : List (Option Asn)} {us : List Asn} {es : List Ent} {σ : Sl} {vs ws : List V} {H H' : Hp} {α β γ ω S ρ : Type} [Py α] [Py β] {a b e : Expr} {st rest A B : List Stmt} {pos : Pos} {post : ω → Exit}

/-! slots -/
theorem stk_map {P H : Hp} {σ' : Sl} {F : List Addr} : ∀ {us : List Asn} {vs : List V} {F : List Addr}, StkL P H σ (us.map .as) vs F → StkL P H σ' (us.map .as) vs F
  | [], [], _, h => h
  | [], _ :: _, _, h => h.elim
  | _ :: _, [], _, h => h.elim
  | _ :: us, _ :: vs, _, ⟨F1, F2, e, h1, h2⟩ => ⟨F1, F2, e, h1, stk_map (F := []) h2⟩
theorem Env.slots {ts' : List (Option Asn)} {σ' : Sl} (E : Env c ts (us.map .as) σ vs H) (h : ∀ {P F}, F.Nodup → EnvL P H ts σ F → ∃ F', (∀ a ∈ F', a ∈ F) ∧ F'.Nodup ∧ ∀ P', Same P P' → (∀ a ∈ F, a ∉ F' → ∀ o, H a = some o → P' a = some o) → EnvL P' H ts' σ' F') : Env c ts' (us.map .as) σ' vs H := by
  obtain ⟨F1, F2, E⟩ := E
  obtain ⟨n1, n2, n3⟩ := List.nodup_append.mp E.nd
  obtain ⟨F', f1, f2, f3⟩ := h n1 E.sl
  have noOf : ∀ a ∈ F1, a ∉ c.Of := fun a h q => by
    have := (E.fr a (List.mem_append_left _ h)).1
    obtain ⟨o, e, _⟩ := E.og a q
    rw [this] at e
    cases e
  have sP : Same (hide (c.Of ++ (F1 ++ F2)) H) (hide (c.Of ++ (F' ++ F2)) H) := fun a o q => by
    obtain ⟨n, q⟩ := hide_some q
    rw [hide_of (fun z => n ?_)]
    · exact q
    · rcases List.mem_append.mp z with z | z
      · exact List.mem_append_left _ z
      · rcases List.mem_append.mp z with z | z
        · exact List.mem_append_right _ (List.mem_append_left _ (f1 a z))
        · exact List.mem_append_right _ (List.mem_append_right _ z)
  refine ⟨F', F2, f3 _ sP fun a ha nF o q => ?_, stk_map (F := []) (E.sk.st sP fun a _ o q => q), ?_, fun a ha => E.fr a ?_, E.g, E.og⟩
  · rw [hide_of (fun z => ?_)]
    · exact q
    · rcases List.mem_append.mp z with z | z
      · exact noOf a ha z
      · rcases List.mem_append.mp z with z | z
        · exact nF z
        · exact n3 a ha a z rfl
  · exact List.nodup_append.mpr ⟨f2, n2, fun a ha b hb => n3 a (f1 a ha) b hb⟩
  · rcases List.mem_append.mp ha with h | h
    · exact List.mem_append_left _ (f1 a h)
    · exact List.mem_append_right _ h
/-- what is known of the slots, weakened -/
inductive WkL : List (Option Asn) → List (Option Asn) → Prop
  | nil : WkL [] []
  | keep {t : Option Asn} {ts ts' : List (Option Asn)} : WkL ts ts' → WkL (t :: ts) (t :: ts')
  | drop {t : Option Asn} {ts ts' : List (Option Asn)} : WkL ts ts' → WkL (t :: ts) (none :: ts')
  | frz {α : Type} [Py α] {K : PySem.W.Frag} {G : Hp} {x : α} {ts ts' : List (Option Asn)} : WkL ts ts' → WkL (some (asn K G .own x) :: ts) (some (asn K G .val x) :: ts')
theorem WkL.go {P H : Hp} {ts ts' : List (Option Asn)} (w : WkL ts ts') : ∀ {σ : Sl} {F : List Addr}, F.Nodup → EnvL P H ts σ F → ∃ F', (∀ a ∈ F', a ∈ F) ∧ F'.Nodup ∧ ∀ P', Same P P' → (∀ a ∈ F, a ∉ F' → ∀ o, H a = some o → P' a = some o) → EnvL P' H ts' σ F' := by
  induction w with
  | nil =>
    intro σ F _ h
    cases σ with
    | nil =>
      have e : F = [] := h
      subst e
      exact ⟨[], fun _ z => z, List.nodup_nil, fun _ _ _ => rfl⟩
    | cons _ _ => exact h.elim
  | @keep t ts ts' w ih =>
    intro σ F nd h
    cases σ with
    | nil => exact h.elim
    | cons v σ =>
      obtain ⟨F1, F2, e, h1, h2⟩ := h
      subst e
      obtain ⟨n1, n2, n3⟩ := List.nodup_append.mp nd
      obtain ⟨F', f1, f2, f3⟩ := ih n2 h2
      refine ⟨F1 ++ F', fun a ha => ?_, List.nodup_append.mpr ⟨n1, f2, fun a ha b hb => n3 a ha b (f1 b hb)⟩, fun P' s k => ⟨F1, F', rfl, h1.st s fun _ _ _ z => z, f3 P' s fun a ha nF => k a (List.mem_append_right _ ha) fun z => ?_⟩⟩
      · rcases List.mem_append.mp ha with h | h
        · exact List.mem_append_left _ h
        · exact List.mem_append_right _ (f1 a h)
      · rcases List.mem_append.mp z with z | z
        · exact n3 a z a ha rfl
        · exact nF z
  | @drop t ts ts' w ih =>
    intro σ F nd h
    cases σ with
    | nil => exact h.elim
    | cons v σ =>
      obtain ⟨F1, F2, e, h1, h2⟩ := h
      subst e
      obtain ⟨n1, n2, n3⟩ := List.nodup_append.mp nd
      obtain ⟨F', f1, f2, f3⟩ := ih n2 h2
      exact ⟨F', fun a ha => List.mem_append_right _ (f1 a ha), f2, fun P' s k => ⟨[], F', rfl, rfl, f3 P' s fun a ha nF => k a (List.mem_append_right _ ha) nF⟩⟩
  | @frz α _ K G x ts ts' w ih =>
    intro σ F nd h
    cases σ with
    | nil => exact h.elim
    | cons v σ =>
      obtain ⟨F1, F2, e, h1, h2⟩ := h
      subst e
      obtain ⟨n1, n2, n3⟩ := List.nodup_append.mp nd
      obtain ⟨F', f1, f2, f3⟩ := ih n2 h2
      obtain ⟨u, eu, h1⟩ := h1
      refine ⟨F', fun a ha => List.mem_append_right _ (f1 a ha), f2, fun P' s k => ⟨[], F', rfl, ⟨u, eu, rfl, Py.own_rep s (fun a ha => k a (List.mem_append_left _ ha) fun z => n3 a ha a (f1 a z) rfl) h1⟩, f3 P' s fun a ha nF => k a (List.mem_append_right _ ha) nF⟩⟩
theorem Env.wk (w : WkL ts tt) (E : Env c ts (us.map .as) σ vs H) : Env c tt (us.map .as) σ vs H := Env.slots E fun nd h => w.go nd h
theorem wk_of (w : WkL ts tt) (E : Env c ts (us.map .as) σ vs H) : Env c tt (us.map .as) σ vs H := E.wk w
/-- all slots go -/
theorem Env.nosl (E : Env c ts (us.map .as) σ vs H) : Env c [] (us.map .as) [] vs H :=
  Env.slots E fun {P F} _ _ => ⟨[], fun _ z => (nomatch z), List.nodup_nil, fun _ _ _ => rfl⟩
/-- the top goes into slot i -/
theorem Env.store {A : Asn} {v : V} {i : Nat} (E : Env c ts ((A :: us).map .as) σ (v :: vs) H) (hi : i < ts.length) : Env c (ts.set i (some A)) (us.map .as) (σ.set i (some v)) vs H := by
  obtain ⟨F1, F0, E⟩ := E
  obtain ⟨Fa, F2, eF, h1, h2⟩ := E.sk
  subst eF
  have ht : ts[i]? = some (ts[i]) := List.getElem?_eq_getElem hi
  obtain ⟨w, G1, Gi, G2, e1, e2, q, hl, put⟩ := E.sl.at i ht
  subst e2
  have sub : ∀ a, a ∈ G1 ++ (Fa ++ G2) ++ F2 → a ∈ G1 ++ (Gi ++ G2) ++ (Fa ++ F2) := fun a h => by
    simp only [List.mem_append] at h ⊢
    rcases h with (h | h | h) | h
    · exact .inl (.inl h)
    · exact .inr (.inl h)
    · exact .inl (.inr (.inr h))
    · exact .inr (.inr h)
  have sP : Same (hide (c.Of ++ (G1 ++ (Gi ++ G2) ++ (Fa ++ F2))) H) (hide (c.Of ++ (G1 ++ (Fa ++ G2) ++ F2)) H) := fun a o q => by
    obtain ⟨n, q⟩ := hide_some q
    rw [hide_of (fun z => n ?_)]
    · exact q
    · rcases List.mem_append.mp z with z | z
      · exact List.mem_append_left _ z
      · exact List.mem_append_right _ (sub a z)
  refine ⟨G1 ++ (Fa ++ G2), F2, put _ H (some A) (some v) Fa sP (fun _ _ _ z => z) ⟨v, rfl, A.st sP (fun _ _ _ z => z) h1⟩, stk_map (F := []) (h2.st sP fun _ _ _ z => z), ?_, fun a ha => E.fr a (sub a ha), E.g, E.og⟩
  have p : (G1 ++ (Gi ++ G2) ++ (Fa ++ F2)).Perm (Gi ++ (G1 ++ (Fa ++ G2) ++ F2)) := by
    have q1 : (G1 ++ (Gi ++ G2) ++ (Fa ++ F2)).Perm (Gi ++ (G1 ++ G2) ++ (Fa ++ F2)) := by
      refine List.Perm.append_right _ ?_
      rw [← List.append_assoc, ← List.append_assoc]
      exact List.Perm.append_right _ List.perm_append_comm
    refine q1.trans ?_
    rw [List.append_assoc]
    refine List.Perm.append_left _ ?_
    rw [List.append_assoc, List.append_assoc, List.append_assoc]
    refine List.Perm.append_left _ ?_
    rw [← List.append_assoc, ← List.append_assoc]
    exact List.Perm.append_right _ List.perm_append_comm
  exact (List.nodup_append.mp (p.nodup_iff.mp E.nd)).2.1

/-! the end of a block -/
theorem js_nil {w : ω} (hp : post w = .next tt) (hw : WkL ts tt) : JS c ts [] (.ok w) post :=
  PSs.imp pss_nil fun D σ H ⟨us, vs, E, q⟩ => by
    have q' : ExitOk c us vs D (post w) := q
    rw [hp] at q'
    exact q' σ H (E.wk hw)
theorem js_nilA {w : ω} (hp : post w = .again tt) (hw : WkL ts tt) : JS c ts [] (.ok w) post :=
  PSs.imp pss_nil fun D σ H ⟨us, vs, E, q⟩ => by
    have q' : ExitOk c us vs D (post w) := q
    rw [hp] at q'
    exact q'.1 σ H (E.wk hw)
theorem js_pass {m : Out ω} (h : JS c ts rest m post) : JS c ts (.Pass pos :: rest) m post :=
  PSs.imp (pss_cons ps_pass h) fun D σ H q => q
theorem js_cont {w : ω} (hp : post w = .cnt tt ∨ post w = .again tt) (hw : WkL ts tt) : JS c ts (.Continue pos :: rest) (.ok w) post :=
  PSs.imp (pss_cons (u := tNever) ps_continue pss_never) fun D σ H ⟨us, vs, E, q⟩ => by
    have q' : ExitOk c us vs D (post w) := q
    rcases hp with hp | hp
    · rw [hp] at q'
      exact q' σ H (E.wk hw)
    · rw [hp] at q'
      exact q'.2 σ H (E.wk hw)
theorem js_brk {w : ω} (hp : post w = .brk tt) (hw : WkL ts tt) : JS c ts (.Break pos :: rest) (.ok w) post :=
  PSs.imp (pss_cons (u := tNever) ps_break pss_never) fun D σ H ⟨us, vs, E, q⟩ => by
    have q' : ExitOk c us vs D (post w) := q
    rw [hp] at q'
    exact q' σ H (E.wk hw)
/-- a handed back value: a stack of one entry -/
theorem Env.noneT {A : Asn} {v : V} (E : Env c ts (.as A :: us.map .as) σ (v :: vs) H) : Env c [] (.as A :: us.map .as) [] (v :: vs) H := Env.nosl (us := A :: us) E
theorem tJ_S {m : Out α} {A : α → Asn} {Q : VK} (E : Env c ts (us.map .as) σ vs H) (q : m.wp (fun a => ∀ v H', Env c ts ((A a :: us).map .as) σ (v :: vs) H' → Q v H') (ExS c us vs)) : tJ c ts m (fun a => .as (A a)) σ H Q :=
  ⟨_, _, E, Out.wp_mono q (fun a _ q v H' E' => q v H' E') fun _ _ z => z σ⟩
theorem tT_S {m : Out Bool} {Q : Bool → Hp → Prop} (E : Env c ts (us.map .as) σ vs H) (q : m.wp (fun b => ∀ H', Env c ts (us.map .as) σ vs H' → Q b H') (ExS c us vs)) : tT c ts m σ H Q :=
  ⟨_, _, E, Out.wp_mono q (fun a _ q H' E' => q H' E') fun _ _ z => z σ⟩
theorem js_ret {m : Out α} {A : α → Asn} {inj : α → ω} (he : JE c ts e m (fun a => .as (A a))) (hp : ∀ a, post (inj a) = .ret (A a)) : JS c ts (.Return (some e) pos :: rest) (m.bind fun a => .ok (inj a)) post :=
  PSs.imp (pss_cons (u := tNever) (ps_ret he) pss_never) fun D σ H ⟨us, vs, E, q⟩ => tJ_S E (Out.wp_mono (Out.wp_bind q) (fun a _ q v H' E' => by
    have q' : ExitOk c us vs D (post (inj a)) := q
    rw [hp] at q'
    exact q' v H' E'.noneT) fun _ _ z => z)
/-- .. as the whole -/
theorem js_retT {m : Out α} {A : α → Asn} (he : JE c ts e m (fun a => .as (A a))) : JS c ts (.Return (some e) pos :: rest) m (fun a => .ret (A a)) :=
  PSs.imp (pss_cons (u := tNever) (ps_ret he) pss_never) fun D σ H ⟨us, vs, E, q⟩ => tJ_S E (Out.wp_mono q (fun a _ q v H' E' => q v H' E'.noneT) fun _ _ z => z)
/-! x = e -/
theorem js_set {i : Nat} {x : Str} {pos' : Pos} {m : Out α} {A : α → Asn} {k : α → Out ω} (hN : c.X.N.Nodup) (hi : c.X.N[i]? = some x) (he : JE c ts e m (fun a => .as (A a))) (hk : ∀ a, JS c (ts.set i (some (A a))) rest (k a) post)
    (hl : i < ts.length := by exact Nat.lt_of_succ_le (Nat.le_of_ble_eq_true rfl)) (hx : Loc c.X.env.scope x := by first | exact Or.inl rfl | exact Or.inr rfl) (hs : swapsWith e (some (.Name x pos')) pos.line c.X.env = pure false := by rfl)
    (hf : c.X.fn x = true ∨ c.X.env.scope.names.lookup x = some .local := by first | exact .inl rfl | exact .inr rfl | assumption) : JS c ts (.Assign [.Name x pos'] e pos :: rest) (m.bind k) post :=
  PSs.imp (pss_cons (ps_set hN hi hx he hs hf) (PSs.ex hk)) fun D σ H ⟨us, vs, E, q⟩ => tJ_S E (Out.wp_mono (Out.wp_bind q) (fun a _ q v H' E' => ⟨a, us, vs, E'.store hl, q⟩) fun _ _ z => z)
/-- an expression whose value is dropped -/
theorem js_expr {m : Out α} {A : α → Asn} {k : α → Out ω} (he : JE c ts e m (fun a => .as (A a))) (hk : ∀ a, JS c ts rest (k a) post) (hs : swapsWith e none pos.line c.X.env = pure false := by rfl) : JS c ts (.Expr e pos :: rest) (m.bind k) post :=
  PSs.imp (pss_cons (ps_expr he hs) (PSs.ex hk)) fun D σ H ⟨us, vs, E, q⟩ => tJ_S E (Out.wp_mono (Out.wp_bind q) (fun a _ q v H' E' => ⟨a, us, vs, Env.pop (es := [_]) (ws := [_]) E' rfl, q⟩) fun _ _ z => z)
/-- nothing changes; the slots are known less -/
theorem js_wk {m : Out ω} (hw : WkL ts tt) (h : JS c tt st m post) : JS c ts st m post := PSs.imp h fun D σ H ⟨us, vs, E, q⟩ => ⟨us, vs, E.wk hw, q⟩
/-! if -/
theorem wp_if {b : Bool} {m1 m2 : Out α} {Q : α → Prop} {E : Err → Prop} (h : (if b = true then m1 else m2).wp Q E) : if b = true then m1.wp Q E else m2.wp Q E := by
  cases b with
  | true => exact h
  | false => exact h
theorem noF_ok {D : Ends} {n : L2.St → Hp → Prop} {x : Exit} (h : ExitOk c us vs D x) : ExitOk c us vs { D with nx := n } x.noF := by
  cases x with
  | next ts => trivial
  | again ts => exact h.2
  | cnt ts => exact h
  | brk ts => exact h
  | ret A => exact h
  | never => trivial
/-- if a: A; rest, A never goes on -/
theorem js_ifA {mc : Out Bool} {mA mB : Out ω} (hc : JT c ts a mc) (hA : JS c ts A mA (fun w => (post w).noF)) (hB : JS c ts rest mB post) : JS c ts (.If a A [] pos :: rest) (mc.bind fun b => if b = true then mA else mB) post :=
  PSs.imp (pss_cons (ps_if hc hA pss_nil) hB) fun D σ H ⟨us, vs, E, q⟩ => tT_S E (Out.wp_mono (Out.wp_bind q) (fun b _ q H' E' => by
    cases b with
    | true => exact ⟨us, vs, E', Out.wp_mono q (fun w _ q => noF_ok q) fun _ _ z => z⟩
    | false => exact ⟨us, vs, E', q⟩) fun _ _ z => z)
/-- the last statement of a block -/
theorem js_ifL {mc : Out Bool} {mA mB : Out ω} (hc : JT c ts a mc) (hA : JS c ts A mA post) (hB : JS c ts B mB post) : JS c ts [.If a A B pos] (mc.bind fun b => if b = true then mA else mB) post :=
  PSs.imp (pss_one (ps_if hc hA hB)) fun D σ H ⟨us, vs, E, q⟩ => tT_S E (Out.wp_mono (Out.wp_bind q) (fun b _ q H' E' => by
    cases b with
    | true => exact ⟨us, vs, E', q⟩
    | false => exact ⟨us, vs, E', q⟩) fun _ _ z => z)
/-- if a: A else: B; rest, both go on -/
theorem js_ifJ {mc : Out Bool} {mA mB : Out S} {tj : S → List (Option Asn)} {k : S → Out ω} (hc : JT c ts a mc) (hA : JS c ts A mA (fun s => .next (tj s))) (hB : JS c ts B mB (fun s => .next (tj s))) (hk : ∀ s, JS c (tj s) rest (k s) post) :
    JS c ts (.If a A B pos :: rest) (mc.bind fun b => (if b = true then mA else mB).bind k) post :=
  PSs.imp (pss_cons (ps_if hc hA hB) (PSs.ex hk)) fun D σ H ⟨us, vs, E, q⟩ => tT_S E (Out.wp_mono (Out.wp_bind q) (fun b _ q H' E' => by
    have q' := Out.wp_bind q
    cases b with
    | true => exact ⟨us, vs, E', Out.wp_mono q' (fun s _ q σ' H2 E2 => ⟨s, us, vs, E2, q⟩) fun _ _ z => z⟩
    | false => exact ⟨us, vs, E', Out.wp_mono q' (fun s _ q σ' H2 E2 => ⟨s, us, vs, E2, q⟩) fun _ _ z => z⟩) fun _ _ z => z)
/-- .. some ways go on, some don't -/
theorem js_ifX {mc : Out Bool} {mA mB : Out (S ⊕ ω)} {tj : S → List (Option Asn)} {k : S → Out ω} (hc : JT c ts a mc) (hA : JS c ts A mA (Sum.elim (fun s => .next (tj s)) fun w => (post w).noF)) (hB : JS c ts B mB (Sum.elim (fun s => .next (tj s)) fun w => (post w).noF)) (hk : ∀ s, JS c (tj s) rest (k s) post) :
    JS c ts (.If a A B pos :: rest) (mc.bind fun b => (if b = true then mA else mB).bind (Sum.elim k .ok)) post := by
  refine PSs.imp (pss_cons (ps_if hc hA hB) (PSs.ex hk)) fun D σ H ⟨us, vs, E, q⟩ => tT_S E (Out.wp_mono (Out.wp_bind q) (fun b _ q H' E' => ?_) fun _ _ z => z)
  have q' := Out.wp_bind q
  have fin : ∀ z : S ⊕ ω, (Sum.elim k Out.ok z).wp (fun w => ExitOk c us vs D (post w)) (ExS c us vs) → ExitOk c us vs { D with nx := fun σ H => ∃ s, tS c (tj s) (k s) post D σ H } (Sum.elim (fun s => .next (tj s)) (fun w => (post w).noF) z) := fun z q => by
    cases z with
    | inl s => exact fun σ' H2 E2 => ⟨s, us, vs, E2, q⟩
    | inr w => exact noF_ok q
  cases b with
  | true => exact ⟨us, vs, E', Out.wp_mono q' (fun z _ q => fin z q) fun _ _ z => z⟩
  | false => exact ⟨us, vs, E', Out.wp_mono q' (fun z _ q => fin z q) fun _ _ z => z⟩
end
end Mw
set_option maxRecDepth 100000
set_option maxHeartbeats 4000000
namespace Mw
open PySem PySem.Spec PyProof.Rows L2

/-! ### loops -/
inductive Ctl (S ω : Type) where
  | nxt (s : S)
  | brk (s : S)
  | out (w : ω)
/-- behind a loop -/
inductive Aft (S ω : Type) where
  | fin (s : S)
  | out (w : ω)
def forL {α S ω : Type} (body : α → S → Out (Ctl S ω)) : List α → S → Out (Aft S ω)
  | [], s => .ok (.fin s)
  | x :: xs, s => (body x s).bind fun z => match z with
    | .nxt s' => forL body xs s'
    | .brk s' => .ok (.fin s')
    | .out w => .ok (.out w)
def whileF {S ω : Type} (cond : S → Out Bool) (body : S → Out (Ctl S ω)) : Nat → S → Out (Aft S ω)
  | 0, _ => .bad
  | n + 1, s => (cond s).bind fun b => if b = true then (body s).bind fun z => match z with
    | .nxt s' => whileF cond body n s'
    | .brk s' => .ok (.fin s')
    | .out w => .ok (.out w)
    else .ok (.fin s)
/-- lo, lo + c, .. -/
def rangeI (lo : Int) (n : Nat) : List Int := (List.range n).map fun (i : Nat) => lo + (i : Int)
def rangeC (lo c : Int) (n : Nat) : List Int := (List.range n).map fun (i : Nat) => lo + (i : Int) * c
def enumI {α : Type} : Nat → List α → List (Int × α)
  | _, [] => []
  | i, x :: xs => ((i : Int), x) :: enumI (i + 1) xs
theorem enumI_get {α : Type} : ∀ {xs : List α} {k i : Nat} {y : Int × α}, (enumI k xs)[i]? = some y → ∃ x, xs[i]? = some x ∧ y = (((k + i : Nat) : Int), x)
  | [], _, _, _, h => by simp [enumI] at h
  | x :: xs, k, 0, y, h => by
    simp [enumI] at h
    subst h
    exact ⟨x, rfl, rfl⟩
  | x :: xs, k, i + 1, y, h => by
    obtain ⟨z, e, r⟩ := enumI_get (xs := xs) (k := k + 1) (i := i) (y := y) (by simpa [enumI] using h)
    exact ⟨z, by simpa using e, by rw [r]; congr 2; omega⟩
theorem enumI_len {α : Type} : ∀ {xs : List α} {k : Nat}, (enumI k xs).length = xs.length
  | [], _ => rfl
  | x :: xs, k => by simp [enumI, enumI_len (xs := xs)]

def Ctl.ex {S ω : Type} (tl : S → List (Option Asn)) (post : ω → Exit) : Ctl S ω → Exit
  | .nxt s => .again (tl s)
  | .brk s => .brk (tl s)
  | .out w => (post w).retO
def Aft.go {S ω : Type} (k : S → Out ω) : Aft S ω → Out ω
  | .fin s => k s
  | .out w => .ok w

/-- what is walked: at turn i it hands out xs[i] -/
structure Src (c : Cw) (J : It) (ps : List Asn) (pv : List V) {α : Type} (xs : List α) (El : α → Asn) : Prop where
  go : ∀ {ts : List (Option Asn)} {us : List Ent} {σ : Sl} {vs : List V} {H : Hp} {i : Nat} {x : α}, Env c ts (ps.map .as ++ us) σ (pv ++ vs) H → xs[i]? = some x → J.go i H ∧ ∀ y H', J.yld i H y H' → Env c ts (.as (El x) :: (ps.map .as ++ us)) σ (y :: (pv ++ vs)) H'
  stop : ∀ {ts : List (Option Asn)} {us : List Ent} {σ : Sl} {vs : List V} {H : Hp}, Env c ts (ps.map .as ++ us) σ (pv ++ vs) H → J.stop xs.length H
def tI (c : Cw) (ts : List (Option Asn)) {α : Type} (m : Out (List α)) (El : α → Asn) : TI := fun σ H R => ∃ us vs, Env c ts us σ vs H ∧ m.wp (fun xs => ∀ J H' ps pv, ps.length = pv.length → Src c J ps pv xs El → Env c ts (ps.map .as ++ us) σ (pv ++ vs) H' → R J H') (Ex c us σ vs)
def JI (c : Cw) (ts : List (Option Asn)) (tg iter : Expr) {α : Type} (m : Out (List α)) (El : α → Asn) : Prop := PI c.X tg iter (tI c ts m El)
theorem PI.imp {X : Cx} {tg iter : Expr} {t t' : TI} (h : PI X tg iter t) (i : ∀ σ H R, t' σ H R → t σ H R) : PI X tg iter t' := ⟨fun pins s σ H R I q => h.run pins s σ H R I (i σ H R q)⟩
/-- where the items go -/
def Tgt (c : Cw) (n : Nat) {α : Type} (g : TG) (El : α → Asn) (up : α → List (Option Asn) → List (Option Asn)) : Prop := ∀ {x : α} {ts : List (Option Asn)} {us : List Asn} {σ : Sl} {y : V} {vs : List V} {H : Hp} {Q : L2.St → Hp → Prop},
  n ≤ ts.length → Env c ts ((El x :: us).map .as) σ (y :: vs) H → (∀ σ' H', Env c (up x ts) (us.map .as) σ' vs H' → Q σ' H') → g y σ H Q

section
variable {c : Cw} {ts tt : List (Option Asn)} {us : List Asn} {es : List Ent} {σ : Sl} {vs ws : List V} {H H' : Hp} {α β γ ω S ρ : Type} [Py α] [Py β] [Py γ] {a b e tg iter : Expr} {st rest A B body : List Stmt} {pos : Pos} {post : ω → Exit}

theorem tgt_name {El : α → Asn} (i : Nat) : Tgt c (i + 1) (gName i) El (fun x ts => ts.set i (some (El x))) := fun hl E q => q _ _ (E.store hl)
/-- one more value, seen from what is there -/
theorem EnvF.addVF {us : List Ent} {x : α} {v : V} {F1 F2 : List Addr} (E : EnvF c ts us σ vs H F1 F2) (r : Py.rep c.X.K (hide (c.Of ++ (F1 ++ F2)) H) v x) : EnvF c ts (.as (asn c.X.K c.G .val x) :: us) σ (v :: vs) H F1 F2 :=
  EnvF.top (es := []) (ws := []) (FB := []) (F := []) E E.sk (Same.refl _) (fun _ h => (nomatch h)) List.nodup_nil (fun _ h => (nomatch h)) fun P' s' _ _ => ⟨rfl, Py.mono s' r⟩
/-- a pair into two names -/
theorem tgt_pair (i j : Nat) : Tgt c (max i j + 1) (gTup c.X.K 2 (gCons (gName i) (gCons (gName j) gNil))) (fun x : α × β => asn c.X.K c.G .val x) (fun x ts => (ts.set i (some (asn c.X.K c.G .val x.1))).set j (some (asn c.X.K c.G .val x.2))) := fun {x ts us σ y vs H Q} hl E q => by
  obtain ⟨F1, F2, E0⟩ := E
  obtain ⟨G1, G2, eG, k, _⟩ := E0.sk
  obtain ⟨p, v1, v2, ey, hp, r1, r2⟩ := k.2
  subst ey
  refine ⟨p, _, rfl, Same.seqT hide_le hp, rfl, v1, _, rfl, v2, _, rfl, rfl, q _ _ ?_⟩
  have s2 : Env c ts ((asn c.X.K c.G .val x.1 :: asn c.X.K c.G .val x.2 :: asn c.X.K c.G .val x :: us).map .as) σ (v1 :: v2 :: .ref p :: vs) H := ⟨F1, F2, (E0.addVF r2).addVF r1⟩
  have s4 := s2.store (i := i) (by have := Nat.le_max_left i j; omega)
  have s5 := s4.store (i := j) (by rw [List.length_set]; have := Nat.le_max_right i j; omega)
  exact Env.pop (es := [_]) (ws := [_]) s5 rfl

/-- for target in iter: body; rest -/
theorem js_for {n : Nat} {m : Out (List α)} {El : α → Asn} {g : TG} {up : α → List (Option Asn) → List (Option Asn)} {tl : S → List (Option Asn)} {s0 : S} {f : α → S → Out (Ctl S ω)} {k : S → Out ω} (hi : JI c ts tg iter m El) (hg : PG c.X tg g) (ht : Tgt c n g El up)
    (hw : WkL ts (tl s0)) (hb : ∀ x s, JS c (up x (tl s)) body (f x s) (Ctl.ex tl post)) (hk : ∀ s, JS c (tl s) rest (k s) post) (hp : PassesOwn (model c.X.prog c.X.w) c.X.A c.X.env c.X.xe) (hc : c.X.calm = true := by rfl)
    (hl : ∀ s, n ≤ (tl s).length := by intro _; exact Nat.le_of_ble_eq_true rfl) (hs : ∀ x, foldedSetIterable iter c.X.env x = pure x := by intro _; rfl) :
    JS c ts (.For tg iter body [] pos :: rest) (m.bind fun xs => (forL f xs s0).bind (Aft.go k)) post := by
  refine PSs.imp (pss_cons (ps_for hp hc hi hg (PSs.ex fun x => PSs.ex fun s => hb x s) hs) (PSs.ex hk)) fun D σ H ⟨us, vs, E, q⟩ => ?_
  refine ⟨_, _, E, Out.wp_mono (Out.wp_bind q) (fun xs _ q => ?_) fun _ _ z => z σ⟩
  intro J H1 ps pv hpl sr E1
  have E1' : Env c ts ((ps ++ us).map .as) σ (pv ++ vs) H1 := by
    rw [List.map_append]
    exact E1
  let fin : Aft S ω → Prop := fun z => (Aft.go k z).wp (fun w => ExitOk c us vs D (post w)) (ExS c us vs)
  have hfin : ∀ s, fin (.fin s) → ∀ σ H, Env c (tl s) (us.map .as) σ vs H → ∃ s, tS c (tl s) (k s) post D σ H := fun s hz σ H E => ⟨s, us, vs, E, hz⟩
  refine ⟨fun i mm σ H => mm = xs.length - i ∧ i ≤ xs.length ∧ ∃ s, Env c (tl s) ((ps ++ us).map .as) σ (pv ++ vs) H ∧ (forL f (xs.drop i) s).wp fin (ExS c us vs), ⟨_, rfl, Nat.zero_le _, s0, E1'.wk hw, by rw [List.drop_zero]; exact Out.wp_bind q⟩, ?_⟩
  rintro i mm σ H ⟨rfl, hi', s, E2, q2⟩
  have E2' : Env c (tl s) (ps.map .as ++ us.map .as) σ (pv ++ vs) H := by
    rw [← List.map_append]
    exact E2
  by_cases hlt : i < xs.length
  · have hx : xs[i]? = some xs[i] := List.getElem?_eq_getElem hlt
    rw [List.drop_eq_getElem_cons hlt] at q2
    have q3 := Out.wp_bind (m := f xs[i] s) q2
    obtain ⟨g1, g2⟩ := sr.go E2' hx
    refine .inr ⟨g1, fun σ' H' => ∃ s', Env c (tl s') ((ps ++ us).map .as) σ' (pv ++ vs) H' ∧ (forL f (xs.drop (i + 1)) s').wp fin (ExS c us vs), fun σ' H' ⟨s', E3, q4⟩ => ⟨_, by omega, rfl, hlt, s', E3, q4⟩, fun y H' hy => ?_⟩
    have E3 := g2 y H' hy
    have E3' : Env c (tl s) ((El xs[i] :: (ps ++ us)).map .as) σ (y :: (pv ++ vs)) H' := by
      rw [List.map_cons, List.map_append]
      exact E3
    refine ht (hl s) E3' fun σ2 H2 E4 => ⟨xs[i], s, ps ++ us, pv ++ vs, E4, Out.wp_mono q3 (fun z _ q => ?_) fun er _ q σ3 d H3 h1 h2 => ?_⟩
    · cases z with
      | nxt s' => exact ⟨fun σ3 H3 E5 => ⟨s', E5, q⟩, fun σ3 H3 E5 => ⟨s', E5, q⟩⟩
      | brk s' =>
        intro σ3 H3 E5
        have E6 : Env c (tl s') (ps.map .as ++ us.map .as) σ3 (pv ++ vs) H3 := by
          rw [← List.map_append]
          exact E5
        exact hfin s' q σ3 H3 (Env.pop E6 (by rw [List.length_map]; exact hpl))
      | out w =>
        have q' : ExitOk c us vs D (post w) := q
        show ExitOk c (ps ++ us) (pv ++ vs) _ (post w).retO
        cases e : post w with
        | ret A =>
          rw [e] at q'
          intro v3 H3 E5
          refine q' v3 H3 ?_
          refine Env.pop (es := ps.map .as) (ws := pv) (Env.unrot ?_ (by rw [List.length_map]; exact hpl)) (by rw [List.length_map]; exact hpl)
          rw [List.map_append] at E5
          exact E5
        | next _ => trivial
        | again _ => trivial
        | cnt _ => trivial
        | brk _ => trivial
        | never => trivial
    · refine q σ3 d H3 h1 ?_
      refine EnvX.pop (es := ps.map .as) (ws := pv) ?_ (by rw [List.length_map]; exact hpl)
      rw [← List.map_append]
      exact h2
  · have e : i = xs.length := by omega
    subst e
    rw [List.drop_eq_nil_of_le (Nat.le_refl _)] at q2
    exact .inl ⟨sr.stop E2', hfin s q2 σ H (Env.pop E2' (by rw [List.length_map]; exact hpl))⟩
end
end Mw
set_option maxRecDepth 100000
set_option maxHeartbeats 4000000
namespace Mw
open PySem PySem.Spec PyProof.Rows L2

def rngOk (n : Int) : Prop := -(2 ^ 62) ≤ n ∧ n < 2 ^ 62
instance (n : Int) : Decidable (rngOk n) := by unfold rngOk; infer_instance
def setAt {α : Type} (xs : List α) (i : Int) (x : α) : Out (List α) := match ixN xs.length i with
  | some j => .ok (xs.set j x)
  | none => .bad
def popL {α : Type} (xs : List α) : Out (α × List α) := match xs[xs.length - 1]? with
  | some x => .ok (x, xs.dropLast)
  | none => .bad
def appL {α : Type} (xs : List α) (x : α) : Out (List α) := chk (xs.length < 16777216) (xs ++ [x])

section
variable {c : Cw} {ts tt : List (Option Asn)} {us : List Asn} {es ues : List Ent} {σ : Sl} {vs ws : List V} {H H' : Hp} {α β γ ω S ρ : Type} [Py α] [Py β] [Py γ] {a b e tg iter : Expr} {st rest A B body : List Stmt} {pos : Pos} {post : ω → Exit}

/-! ### what is walked -/
/-- a list -/
theorem ji_list {m : Out (List α)} {A : List α → Asn} (rx : ∀ {ts : List (Option Asn)} xs, RdE c ts (.as (A xs)) xs) (ha : JE c ts iter m (fun x => .as (A x))) : JI c ts tg iter m (fun x => asn c.X.K c.G .val x) :=
  PI.imp (pi_list ha) fun σ H R ⟨us, vs, E, q⟩ => ⟨us, vs, E, Out.wp_mono q (fun xs _ q => by
    intro v H1 E1
    obtain ⟨F1, F2, E2⟩ := id E1
    obtain ⟨G1, G2, eG, k, _⟩ := E2.sk
    obtain ⟨p, zs, ex, hp, rp⟩ := rx xs E2.part E2.g E2.sl k
    subst ex
    refine ⟨p, rfl, ⟨zs, SqL.of hp⟩, q (Itl c.X.K p) H1 [A xs] [.ref p] rfl ⟨fun {ts us σ vs H i x} E hx => ?_, fun {ts us σ vs H} E => ?_⟩ E1⟩
    · obtain ⟨F1, F2, E2⟩ := id E
      obtain ⟨G1, G2, eG, k, _⟩ := E2.sk
      obtain ⟨p', zs, ex, hp, rp⟩ := rx xs E2.part E2.g E2.sl k
      cases ex
      obtain ⟨v, hv, rv⟩ := Pd.get rp hx
      refine ⟨⟨zs, v, SqL.of hp, hv⟩, fun y H' ⟨eH, hy⟩ => ?_⟩
      subst eH
      have ey := hy zs (SqL.of hp)
      rw [hv] at ey
      cases ey
      exact ⟨F1, F2, E2.addVF rv⟩
    · obtain ⟨F1, F2, E2⟩ := id E
      obtain ⟨G1, G2, eG, k, _⟩ := E2.sk
      obtain ⟨p', zs, ex, hp, rp⟩ := rx xs E2.part E2.g E2.sl k
      cases ex
      exact ⟨zs, SqL.of hp, Nat.le_of_eq (Pd.len rp)⟩) fun _ _ z => z⟩
/-- a tuple of any length -/
theorem ji_tup {m : Out (Tup α)} (ha : JE c ts iter m (Vl c)) : JI c ts tg iter (m.bind fun x => .ok x.l) (fun x => asn c.X.K c.G .val x) :=
  PI.imp (pi_tup ha) fun σ H R ⟨us, vs, E, q⟩ => ⟨us, vs, E, Out.wp_mono (Out.wp_bind q) (fun xs _ q => by
    intro v H1 E1
    obtain ⟨F1, F2, E2⟩ := id E1
    obtain ⟨G1, G2, eG, k, _⟩ := E2.sk
    obtain ⟨p, zs, ex, hp, rp⟩ := k.2
    subst ex
    refine ⟨p, rfl, ⟨zs, Same.seqT hide_le hp⟩, q (Itt c.X.K p) H1 [asn c.X.K c.G .val xs] [.ref p] rfl ⟨fun {ts us σ vs H i x} E hx => ?_, fun {ts us σ vs H} E => ?_⟩ E1⟩
    · obtain ⟨F1, F2, E2⟩ := id E
      obtain ⟨G1, G2, eG, k, _⟩ := E2.sk
      obtain ⟨p', zs, ex, hp, rp⟩ := k.2
      cases ex
      obtain ⟨v, hv, rv⟩ := Pd.get rp hx
      refine ⟨⟨zs, v, Same.seqT hide_le hp, hv⟩, fun y H' ⟨eH, hy⟩ => ?_⟩
      subst eH
      have ey := hy zs (Same.seqT hide_le hp)
      rw [hv] at ey
      cases ey
      exact ⟨F1, F2, E2.addVF rv⟩
    · obtain ⟨F1, F2, E2⟩ := id E
      obtain ⟨G1, G2, eG, k, _⟩ := E2.sk
      obtain ⟨p', zs, ex, hp, rp⟩ := k.2
      cases ex
      exact ⟨zs, Same.seqT hide_le hp, Nat.le_of_eq (Pd.len rp)⟩) fun _ _ z => z⟩
/-- range(n) -/
theorem rangeI_get {lo : Int} {n i : Nat} {x : Int} (h : (rangeI lo n)[i]? = some x) : i < n ∧ x = lo + i := by
  unfold rangeI at h
  rw [List.getElem?_map] at h
  cases e : (List.range n)[i]? with
  | none =>
    rw [e] at h
    cases h
  | some k =>
    rw [e] at h
    obtain ⟨hl, hk⟩ := List.getElem?_eq_some_iff.mp e
    rw [List.length_range] at hl
    rw [List.getElem_range] at hk
    subst hk
    exact ⟨hl, (Option.some.inj h).symm⟩
theorem rangeI_len {lo : Int} {n : Nat} : (rangeI lo n).length = n := by
  unfold rangeI
  rw [List.length_map, List.length_range]
theorem src_range {lo : Int} {n : Nat} : Src c (Itr lo n) [] [] (rangeI lo n) (fun x => asn c.X.K c.G .val x) :=
  ⟨fun {ts us σ vs H i x} E hx => by
    obtain ⟨h1, h2⟩ := rangeI_get hx
    refine ⟨h1, fun y H' ⟨eH, ey⟩ => ?_⟩
    subst eH ey
    rw [h2]
    exact Env.pushS (es := []) (ws := []) (K := c.X.K) (H0 := H') E rfl rfl, fun E => by
    show n ≤ _
    rw [rangeI_len]
    exact Nat.le_refl _⟩
theorem ji_range1 {m : Out Int} {p : Pos} (hm : c.X.mg "range" = none) (ha : JE c ts a m (Vl c)) (hg : Gl c.X "range" := by rfl) (hs : starEach [a] c.X.env = [(false, eval a c.X.env)] := by rfl) :
    JI c ts tg (.Call (.Name "range" p) [a] [] pos) (m.bind fun n => chk (rngOk n) (rangeI 0 n.toNat)) (fun x => asn c.X.K c.G .val x) :=
  PI.imp (pi_range1 hg hm (pa_cons ha pa_nil hs) hs) fun σ H R ⟨us, vs, E, q⟩ => ⟨us, vs, E, Out.wp_mono (Out.wp_bind q) (fun n _ q => by
    intro v H1 E1
    have ev : v = .int n := E1.rd1 rdV
    subst ev
    obtain ⟨hn, q⟩ := wp_chk q
    exact ⟨n, rfl, hn.1, hn.2, q _ H1 [] [] rfl src_range (Env.pop (es := [_]) (ws := [_]) E1 rfl)⟩) fun _ _ z => z⟩
theorem ji_range2 {m1 m2 : Out Int} {p : Pos} (hm : c.X.mg "range" = none) (ha : JE c ts a m1 (Vl c)) (hb : JE c ts b m2 (Vl c)) (hg : Gl c.X "range" := by rfl) (hs : starEach [a, b] c.X.env = [(false, eval a c.X.env), (false, eval b c.X.env)] := by rfl) (hs2 : starEach [b] c.X.env = [(false, eval b c.X.env)] := by rfl) :
    JI c ts tg (.Call (.Name "range" p) [a, b] [] pos) (m1.bind fun i => m2.bind fun j => chk (rngOk i ∧ rngOk j) (rangeI i (j - i).toNat)) (fun x => asn c.X.K c.G .val x) :=
  PI.imp (pi_range2 hg hm (pa_cons ha (pa_cons hb pa_nil hs2) (by rw [hs, hs2])) hs hs2) fun σ H R ⟨us, vs, E, q⟩ => ⟨us, vs, E, Out.wp_mono (Out.wp_bind q) (fun i _ q => by
    intro x H1 E1
    refine ⟨_, _, E1, Out.wp_mono (Out.wp_bind q) (fun j _ q => ?_) fun e _ z d H' e1 E3 => z d H' e1 (EnvX.pop (es := [_]) (ws := [_]) E3 rfl)⟩
    intro y H2 E2
    obtain ⟨e1, e2⟩ := E2.ints
    subst e1 e2
    obtain ⟨hn, q⟩ := wp_chk q
    exact ⟨i, j, rfl, ⟨hn.1.1, hn.1.2, hn.2.1, hn.2.2⟩, q _ H2 [] [] rfl src_range (Env.pop (es := [_, _]) (ws := [_, _]) E2 rfl)⟩) fun _ _ z => z⟩
/-- enumerate(xs) -/
theorem ji_enum {m : Out (List α)} {A : List α → Asn} {p tpos : Pos} {elts : List Expr} {kk : Nat} (hm : c.X.mg "enumerate" = none) (rx : ∀ {ts : List (Option Asn)} xs, RdE c ts (.as (A xs)) xs) (ha : JE c ts a m (fun x => .as (A x))) (hg : Gl c.X "enumerate" := by rfl) (hs : starEach [a] c.X.env = [(false, eval a c.X.env)] := by rfl) :
    JI c ts (.Tuple elts kk tpos) (.Call (.Name "enumerate" p) [a] [] pos) (m.bind fun xs => .ok (enumI 0 xs)) (fun x => asn c.X.K c.G .val x) :=
  PI.imp (pi_enum hg hm (pa_cons ha pa_nil hs) hs) fun σ H R ⟨us, vs, E, q⟩ => ⟨us, vs, E, Out.wp_mono (Out.wp_bind q) (fun xs _ q => by
    intro v H1 E1
    obtain ⟨F1, F2, E2⟩ := id E1
    obtain ⟨G1, G2, eG, k, _⟩ := E2.sk
    obtain ⟨p, zs, ex, hp, rp⟩ := rx xs E2.part E2.g E2.sl k
    subst ex
    refine ⟨p, zs, rfl, SqL.of hp, q (Ite c.X.K p) H1 [A xs] [.ref p] rfl ⟨fun {ts us σ vs H i x} E hx => ?_, fun {ts us σ vs H} E => ?_⟩ E1⟩
    · obtain ⟨F1, F2, E2⟩ := id E
      obtain ⟨G1, G2, eG, k, _⟩ := E2.sk
      obtain ⟨p', zs, ex, hp, rp⟩ := rx xs E2.part E2.g E2.sl k
      cases ex
      obtain ⟨x', hx', ex⟩ := enumI_get hx
      subst ex
      obtain ⟨v, hv, rv⟩ := Pd.get rp hx'
      refine ⟨⟨zs, v, SqL.of hp, hv⟩, fun y H' ⟨T, w, ey, hT, eH, hy⟩ => ?_⟩
      subst ey eH
      have ew := hy zs (SqL.of hp)
      rw [hv] at ew
      cases ew
      have e0 : (((0 + i : Nat) : Int)) = (i : Int) := by omega
      rw [e0]
      refine ⟨F1, F2, EnvF.top (es := []) (ws := []) (FB := []) (F := []) E2 E2.sk (same_new hT) (fun _ h => (nomatch h)) List.nodup_nil (fun _ h => (nomatch h)) fun P' s' n _ => ⟨rfl, T, _, _, rfl, SqT.of (n T _ (.inl hT) (by simp) upd_same), rfl, Py.mono s' rv⟩⟩
    · obtain ⟨F1, F2, E2⟩ := id E
      obtain ⟨G1, G2, eG, k, _⟩ := E2.sk
      obtain ⟨p', zs, ex, hp, rp⟩ := rx xs E2.part E2.g E2.sl k
      cases ex
      exact ⟨zs, SqL.of hp, by rw [enumI_len, Pd.len rp]; exact Nat.le_refl _⟩) fun _ _ z => z⟩
/-- readers for entries in any slots -/
theorem rdeW {m : Md} {xs : List α} (hm : m = .val ∨ m = .own) : ∀ {ts : List (Option Asn)}, RdE c ts (.as (asn c.X.K c.G m xs)) xs := rdeA hm
theorem rdeI [PyI α] {m : Md} {xs : List α} : ∀ {ts : List (Option Asn)}, RdE c ts (.as (asn c.X.K c.G m xs)) xs := Rd.els rdA
/-- a borrowed name as it is -/
theorem je_nb {x : α} {n : Str} {pos : Pos} (i : Nat) (h : ts[i]? = some (some (asn c.X.K c.G .bor x))) (hp : PE c.X (.Name n pos) (tVar i)) : JE c ts (.Name n pos) (.ok x) (fun x => .as (asn c.X.K c.G .bor x)) :=
  PE.imp hp fun σ H Q ⟨us, vs, E, q⟩ => by
    obtain ⟨v, P, F, F1, e, _, _, hb⟩ := E.slot h
    exact ⟨v, e, q v H (Env.top (es := []) (ws := []) E rfl (Same.refl _) fun P F1 FB _ _ _ _ => ⟨[], fun _ h => (nomatch h), List.nodup_nil, fun _ h => (nomatch h), fun P' _ _ _ => ⟨rfl, hb.2⟩⟩)⟩

/-! ### while -/
theorem js_while {mc : S → Out Bool} {f : S → Out (Ctl S ω)} {tl : S → List (Option Asn)} {s0 : S} {k : S → Out ω} {n : Nat} (hw : WkL ts (tl s0)) (hc : ∀ s, JT c (tl s) a (mc s)) (hb : ∀ s, JS c (tl s) body (f s) (Ctl.ex tl post)) (hk : ∀ s, JS c (tl s) rest (k s) post)
    (hp : PassesOwn (model c.X.prog c.X.w) c.X.A c.X.env c.X.xe) : JS c ts (.While a body [] pos :: rest) ((whileF mc f n s0).bind (Aft.go k)) post := by
  have hcx : PT c.X a (fun σ H Q => ∃ s, tT c (tl s) (mc s) σ H Q) := ⟨fun pins s σ H Q I ⟨s', q⟩ => (hc s').run pins s σ H Q I q⟩
  refine PSs.imp (pss_cons (ps_while hp hcx (PSs.ex fun s => hb s)) (PSs.ex hk)) fun D σ H ⟨us, vs, E, q⟩ => ?_
  let fin : Aft S ω → Prop := fun z => (Aft.go k z).wp (fun w => ExitOk c us vs D (post w)) (ExS c us vs)
  have hfin : ∀ s, fin (.fin s) → ∀ σ H, Env c (tl s) (us.map .as) σ vs H → ∃ s, tS c (tl s) (k s) post D σ H := fun s hz σ H E => ⟨s, us, vs, E, hz⟩
  refine ⟨fun m σ H => ∃ s, Env c (tl s) (us.map .as) σ vs H ∧ (whileF mc f m s).wp fin (ExS c us vs), ⟨n, s0, E.wk hw, Out.wp_bind q⟩, ?_⟩
  rintro m σ H ⟨s, E, q⟩
  cases m with
  | zero => exact q.elim
  | succ m =>
    have q1 := Out.wp_bind (m := mc s) q
    refine ⟨s, us.map .as, vs, E, Out.wp_mono q1 (fun b _ q H1 E1 => ?_) fun _ _ z => z σ⟩
    cases b with
    | false => exact hfin s q σ H1 E1
    | true =>
      refine ⟨fun σ' H' => ∃ s', Env c (tl s') (us.map .as) σ' vs H' ∧ (whileF mc f m s').wp fin (ExS c us vs), fun σ' H' h => ⟨m, Nat.lt_succ_self m, h⟩, s, us, vs, E1, Out.wp_mono (Out.wp_bind (m := f s) q) (fun z _ q => ?_) fun _ _ z => z⟩
      cases z with
      | nxt s' => exact ⟨fun σ3 H3 E5 => ⟨s', E5, q⟩, fun σ3 H3 E5 => ⟨s', E5, q⟩⟩
      | brk s' => exact fun σ3 H3 E5 => hfin s' q σ3 H3 E5
      | out w =>
        have q' : ExitOk c us vs D (post w) := q
        show ExitOk c us vs _ (post w).retO
        cases e : post w with
        | ret A =>
          rw [e] at q'
          exact q'
        | next _ => trivial
        | again _ => trivial
        | cnt _ => trivial
        | brk _ => trivial
        | never => trivial

/-! ### an owned list is changed -/
theorem Env.mut {i : Nat} {xs : List α} (E : Env c ts (es ++ ues) σ (ws ++ vs) H) (hl : es.length = ws.length) (h : ts[i]? = some (some (asn c.X.K c.G .own xs))) :
    ∃ l zs P F1 FB, σ[i]? = some (some (.ref l)) ∧ H l = some (.lst zs) ∧ Reps c.X.K P zs xs ∧ Part P H ∧ EnvL P H ts σ F1 ∧ StkL P H σ es ws FB ∧ ∀ (zs' : List V) (xs' : List α), (∀ P', Same P P' → (∀ a ∈ FB, ∀ o, H a = some o → P' a = some o) → Reps c.X.K P' zs' xs') →
      Env c (ts.set i (some (asn c.X.K c.G .own xs'))) ues σ vs (upd H l (.lst zs')) := by
  obtain ⟨F1, FB, F2, E, k, h2⟩ := Env.open E hl
  obtain ⟨v, G1, Gi, G2, e1, e2, q, hlt, put⟩ := E.sl.at i h
  subst e2
  obtain ⟨u, eu, l, zs, ev, eF, hH, r⟩ := q
  subst eu ev eF
  refine ⟨l, zs, _, _, FB, e1, hH, r, E.part, E.sl, k, fun zs' xs' hr => ?_⟩
  have nd := E.nd
  have lin : l ∈ G1 ++ ([l] ++ G2) := by simp
  have sub : ∀ a, a ∈ c.Of ++ (G1 ++ ([l] ++ G2) ++ F2) → a ∈ c.Of ++ (G1 ++ ([l] ++ G2) ++ (FB ++ F2)) := fun a h => by
    rcases List.mem_append.mp h with h | h
    · exact List.mem_append_left _ h
    · rcases List.mem_append.mp h with h | h
      · exact List.mem_append_right _ (List.mem_append_left _ h)
      · exact List.mem_append_right _ (List.mem_append_right _ (List.mem_append_right _ h))
  obtain ⟨n1, n2, n3⟩ := List.nodup_append.mp nd
  obtain ⟨m1, m2, m3⟩ := List.nodup_append.mp n2
  have noOf : ∀ a, a ∈ G1 ++ ([l] ++ G2) ++ (FB ++ F2) → a ∉ c.Of := fun a h q => by
    have := (E.fr a h).1
    obtain ⟨o, e, _⟩ := E.og a q
    rw [this] at e
    cases e
  have sP : Same (hide (c.Of ++ (G1 ++ ([l] ++ G2) ++ (FB ++ F2))) H) (hide (c.Of ++ (G1 ++ ([l] ++ G2) ++ F2)) (upd H l (.lst zs'))) := fun a o q => by
    obtain ⟨n, q⟩ := hide_some q
    have al : a ≠ l := fun z => n (by rw [z]; exact List.mem_append_right _ (List.mem_append_left _ lin))
    rw [hide_of fun z => n (sub a z), upd_ne al]
    exact q
  have kB : ∀ a ∈ FB, ∀ o, H a = some o → hide (c.Of ++ (G1 ++ ([l] ++ G2) ++ F2)) (upd H l (.lst zs')) a = some o := fun a ha o q => by
    have al : a ≠ l := fun z => n3 l lin a (List.mem_append_left _ ha) z.symm
    rw [hide_of fun z => ?_, upd_ne al]
    · exact q
    · rcases List.mem_append.mp z with z | z
      · exact noOf a (List.mem_append_right _ (List.mem_append_left _ ha)) z
      · rcases List.mem_append.mp z with z | z
        · exact n3 a z a (List.mem_append_left _ ha) rfl
        · exact m3 a ha a z rfl
  obtain ⟨p1, p2, p3⟩ := List.nodup_append.mp n1
  obtain ⟨r1, r2, r3⟩ := List.nodup_append.mp p2
  have ln : ∀ a, a ∈ G1 ++ G2 → a ≠ l := fun a ha z => by
    subst z
    rcases List.mem_append.mp ha with ha | ha
    · exact p3 a ha a (by simp) rfl
    · exact r3 a (by simp) a ha rfl
  have put' := put _ (upd H l (.lst zs')) (some (asn c.X.K c.G .own xs')) (some (.ref l)) [l] sP (fun a ha o q => by rw [upd_ne (ln a ha)]; exact q) ⟨_, rfl, l, zs', rfl, rfl, upd_same, hr _ sP kB⟩
  have es : σ.set i (some (.ref l)) = σ := by
    obtain ⟨hi, e⟩ := List.getElem?_eq_some_iff.mp e1
    rw [← e]
    exact List.set_getElem_self hi
  rw [es] at put'
  refine ⟨G1 ++ ([l] ++ G2), F2, put', h2.st sP fun a ha o q => ?_, List.nodup_append.mpr ⟨n1, m2, fun a ha b hb => n3 a ha b (List.mem_append_right _ hb)⟩, fun a ha => ?_, fun a o q => ?_, E.og⟩
  · have al : a ≠ l := fun z => n3 l lin a (List.mem_append_right _ ha) z.symm
    rw [upd_ne al]
    exact q
  · have ha' : a ∈ G1 ++ ([l] ++ G2) ++ (FB ++ F2) := by
      rcases List.mem_append.mp ha with h | h
      · exact List.mem_append_left _ h
      · exact List.mem_append_right _ (List.mem_append_right _ h)
    obtain ⟨g1, o, g2, g3⟩ := E.fr a ha'
    refine ⟨g1, ?_⟩
    by_cases al : a = l
    · subst al
      exact ⟨_, upd_same, rfl⟩
    · exact ⟨o, by rw [upd_ne al]; exact g2, g3⟩
  · have al : a ≠ l := fun z => by
      have := (E.fr l (List.mem_append_left _ lin)).1
      rw [z, this] at q
      cases q
    rw [upd_ne al]
    exact E.g _ _ q

/-- an expression that changes slots: behind it they are t' -/
def tM (c : Cw) (ts : List (Option Asn)) {α : Type} (m : Out α) (t' : α → List (Option Asn)) (A : α → Ent) : TE := fun σ H Q => ∃ us vs, Env c ts us σ vs H ∧ m.wp (fun a => ∀ v H', Env c (t' a) (A a :: us) σ (v :: vs) H' → Q v H') (Ex c us σ vs)
def JM (c : Cw) (ts : List (Option Asn)) (e : Expr) {α : Type} (m : Out α) (t' : α → List (Option Asn)) (A : α → Ent) : Prop := PE c.X e (tM c ts m t' A)
theorem tM_S {m : Out α} {t' : α → List (Option Asn)} {A : α → Asn} {Q : VK} (E : Env c ts (us.map .as) σ vs H) (q : m.wp (fun a => ∀ v H', Env c (t' a) ((A a :: us).map .as) σ (v :: vs) H' → Q v H') (ExS c us vs)) : tM c ts m t' (fun a => .as (A a)) σ H Q :=
  ⟨_, _, E, Out.wp_mono q (fun a _ q v H' E' => q v H' E') fun _ _ z => z σ⟩
theorem jm_of {m : Out α} {A : α → Ent} (h : JE c ts e m A) : JM c ts e m (fun _ => ts) A := h
theorem js_setM {i : Nat} {x : Str} {pos' : Pos} {m : Out γ} {t' : γ → List (Option Asn)} {A : γ → Asn} {k : γ → Out ω} (hN : c.X.N.Nodup) (hi : c.X.N[i]? = some x) (he : JM c ts e m t' (fun a => .as (A a))) (hk : ∀ a, JS c ((t' a).set i (some (A a))) rest (k a) post)
    (hl : ∀ a, i < (t' a).length := by intro _; exact Nat.lt_of_succ_le (Nat.le_of_ble_eq_true rfl)) (hx : Loc c.X.env.scope x := by first | exact Or.inl rfl | exact Or.inr rfl) (hs : swapsWith e (some (.Name x pos')) pos.line c.X.env = pure false := by rfl)
    (hf : c.X.fn x = true ∨ c.X.env.scope.names.lookup x = some .local := by first | exact .inl rfl | exact .inr rfl | assumption) : JS c ts (.Assign [.Name x pos'] e pos :: rest) (m.bind k) post :=
  PSs.imp (pss_cons (ps_set hN hi hx he hs hf) (PSs.ex hk)) fun D σ H ⟨us, vs, E, q⟩ => tM_S E (Out.wp_mono (Out.wp_bind q) (fun a _ q v H' E' => ⟨a, us, vs, E'.store (hl a), q⟩) fun _ _ z => z)
theorem js_exprM {m : Out γ} {t' : γ → List (Option Asn)} {A : γ → Asn} {k : γ → Out ω} (he : JM c ts e m t' (fun a => .as (A a))) (hk : ∀ a, JS c (t' a) rest (k a) post) (hs : swapsWith e none pos.line c.X.env = pure false := by rfl) : JS c ts (.Expr e pos :: rest) (m.bind k) post :=
  PSs.imp (pss_cons (ps_expr he hs) (PSs.ex hk)) fun D σ H ⟨us, vs, E, q⟩ => tM_S E (Out.wp_mono (Out.wp_bind q) (fun a _ q v H' E' => ⟨a, us, vs, Env.pop (es := [_]) (ws := [_]) E' rfl, q⟩) fun _ _ z => z)
/-- target = e -/
theorem js_asg {m : Out γ} {t' : γ → List (Option Asn)} {A : γ → Asn} {k : γ → Out ω} {n : Nat} {g : TG} {up : γ → List (Option Asn) → List (Option Asn)} (he : JM c ts e m t' (fun a => .as (A a))) (hg : PG c.X tg g) (ht : Tgt c n g A up) (hk : ∀ a, JS c (up a (t' a)) rest (k a) post)
    (hl : ∀ a, n ≤ (t' a).length := by intro _; exact Nat.le_of_ble_eq_true rfl) (hs : swapsWithSole [tg] e pos.line c.X.env = pure false := by rfl) (hw : swappedStores [tg] e c.X.env = pure none := by rfl)
    (h1 : (assignEach [tg] c.X.env).map (·.2) = [assign tg c.X.env] := by rfl) : JS c ts (.Assign [tg] e pos :: rest) (m.bind k) post :=
  PSs.imp (pss_cons (ps_asg he hg hs hw h1) (PSs.ex hk)) fun D σ H ⟨us, vs, E, q⟩ => tM_S E (Out.wp_mono (Out.wp_bind q) (fun a _ q v H' E' => ht (hl a) E' fun σ' H2 E2 => ⟨a, us, vs, E2, q⟩) fun _ _ z => z)
/-- xs.pop() -/
theorem jm_pop {xs : List α} {n : Str} {p1 p2 : Pos} (i : Nat) (h : ts[i]? = some (some (asn c.X.K c.G .own xs))) (hp : PE c.X (.Call (.Attribute (.Name n p1) "pop" p2) [] [] pos) (tBM0 c.X.K "list" rPop (tVar i))) :
    JM c ts (.Call (.Attribute (.Name n p1) "pop" p2) [] [] pos) (popL xs) (fun r => ts.set i (some (asn c.X.K c.G .own r.2))) (fun r => Vl c r.1) :=
  PE.imp hp fun σ H Q ⟨us, vs, E, q⟩ => by
    obtain ⟨l, zs, P, F1, FB, e1, hH, r, _, _, _, put⟩ := Env.mut (es := []) (ws := []) E rfl h
    refine ⟨_, e1, .inl ⟨rfl, _, SqL.of hH⟩, ?_⟩
    unfold popL at q
    cases hx : xs[xs.length - 1]? with
    | none =>
      rw [hx] at q
      exact q.elim
    | some x =>
      rw [hx] at q
      obtain ⟨v, hv, rv⟩ := Pd.get r hx
      refine ⟨l, zs, v, rfl, rfl, hH, by rw [Pd.len r]; exact hv, q v _ ?_⟩
      have E2 : Env c ts (Vl c x :: us) σ (v :: vs) H := Env.pushV (es := []) (ws := []) E rfl (Same.refl _) fun P0 F0 FB0 p0 g0 sl0 _ P' s' _ => by
        obtain ⟨v', Fi, e', k'⟩ := sl0.get h
        rw [e1] at e'
        cases e'
        obtain ⟨l', zs', el, _, hH', r'⟩ := k'
        cases el
        have ez := lst_inj hH hH'
        subst ez
        obtain ⟨v2, hv2, rv2⟩ := Pd.get r' hx
        rw [hv] at hv2
        cases hv2
        exact Py.mono s' rv2
      obtain ⟨l2, zs2, P2, F12, FB2, e12, hH2, r2, _, _, _, put2⟩ := Env.mut (es := []) (ws := []) E2 rfl h
      rw [e1] at e12
      cases e12
      have ez := lst_inj hH hH2
      subst ez
      exact put2 _ _ fun P' s' _ => Pd.dropLast (r2.mono s')
/-- xs.append(e) -/
theorem js_app {xs : List α} {n : Str} {p1 p2 pos' : Pos} {m : Out α} {A : α → Asn} {k : List α → Out ω} (i : Nat) (h : ts[i]? = some (some (asn c.X.K c.G .own xs))) (fz : ∀ x, Fz c (.as (A x)) x) (he : JE c ts e m (fun a => .as (A a)))
    (hp : ∀ {t : TA}, PA c.X [e] t → PE c.X (.Call (.Attribute (.Name n p1) "append" p2) [e] [] pos') (tBM c.X.K "list" rAppend (tVar i) t)) (hk : ∀ xs', JS c (ts.set i (some (asn c.X.K c.G .own xs'))) rest (k xs') post)
    (hs : swapsWith (.Call (.Attribute (.Name n p1) "append" p2) [e] [] pos') none pos.line c.X.env = pure false := by rfl) (hst : starEach [e] c.X.env = (false, eval e c.X.env) :: starEach [] c.X.env := by rfl) :
    JS c ts (.Expr (.Call (.Attribute (.Name n p1) "append" p2) [e] [] pos') pos :: rest) (m.bind fun x => (appL xs x).bind k) post :=
  PSs.imp (pss_cons (ps_expr (hp (pa_cons he pa_nil hst)) hs) (PSs.ex hk)) fun D σ H ⟨us, vs, E, q⟩ => by
    obtain ⟨v0, P0, F0, F01, e0, _, _, q0⟩ := E.slot h
    obtain ⟨l0, zs0, el, _, hH0, _⟩ := q0
    subst el
    refine ⟨_, e0, .inl ⟨rfl, _, SqL.of hH0⟩, tJ_S E (Out.wp_mono (Out.wp_bind q) (fun x _ q v H1 E1 => ?_) fun _ _ z => z)⟩
    obtain ⟨l, zs, P, F1, FB, e1, hH, r, _, _, sk, put⟩ := Env.mut (es := [_]) (ws := [_]) E1 rfl h
    rw [e0] at e1
    cases e1
    obtain ⟨hlen, q⟩ := wp_chk (Out.wp_bind (m := appL xs x) q)
    refine ⟨l0, zs, v, rfl, rfl, hH, by rw [Pd.len r, sizeLine_eq]; exact hlen, _, us, vs, put _ _ fun P' s' f => Pd.append (r.mono s') (.cons (fz x (StkL.one sk) s' f) .nil), q⟩
/-- xs[i] = e -/
theorem js_setI {xs : List α} {n : Str} {p1 p2 : Pos} {m : Out γ} {t1 : γ → List (Option Asn)} {A : γ → Asn} {val : γ → α} {mi : γ → Out Int} {k : γ → List α → Out ω} (i : Nat) (he : JM c ts e m t1 (fun a => .as (A a))) (h : ∀ y, (t1 y)[i]? = some (some (asn c.X.K c.G .own xs))) (fz : ∀ y, Fz c (.as (A y)) (val y))
    (hi : ∀ y, JE c (t1 y) b (mi y) (Vl c)) (hn : PE c.X (.Name n p1) (tVar i)) (hk : ∀ y xs', JS c ((t1 y).set i (some (asn c.X.K c.G .own xs'))) rest (k y xs') post)
    (hs : swapsWithSole [.Subscript (.Name n p1) b p2] e pos.line c.X.env = pure false := by rfl) (hw : swappedStores [.Subscript (.Name n p1) b p2] e c.X.env = pure none := by rfl)
    (h1 : (assignEach [.Subscript (.Name n p1) b p2] c.X.env).map (·.2) = [assign (.Subscript (.Name n p1) b p2) c.X.env] := by rfl)
    (ha : ∀ v, assign (.Subscript (.Name n p1) b p2) c.X.env v = (do
      let ov ← holding [v] (eval (.Name n p1) c.X.env)
      let iv ← holding [v, ov] (eval b c.X.env)
      standAt p2
      holding [v, ov, iv] (setItem ov iv v)
      release [v, ov, iv] []) := by intro _; rfl) :
    JS c ts (.Assign [.Subscript (.Name n p1) b p2] e pos :: rest) (m.bind fun y => (mi y).bind fun j => (setAt xs j (val y)).bind (k y)) post := by
  have hix : PE c.X b (fun σ H Q => ∃ y, tJ c (t1 y) (mi y) (Vl c) σ H Q) := ⟨fun pins s σ H Q I ⟨y, q⟩ => (hi y).run pins s σ H Q I q⟩
  refine PSs.imp (pss_cons (ps_asg he (pg_sub hn hix set_list ha) hs hw h1) (PSs.ex fun y => PSs.ex fun xs' => hk y xs')) fun D σ H ⟨us, vs, E, q⟩ => tM_S E (Out.wp_mono (Out.wp_bind q) (fun y _ q v H1 E1 => ?_) fun _ _ z => z)
  obtain ⟨v0, P0, F0, F01, e0, _, _, q0⟩ := E1.slot (h y)
  obtain ⟨l0, zs0, el, _, hH0, _⟩ := q0
  subst el
  refine ⟨_, e0, y, _, _, E1, Out.wp_mono (Out.wp_bind q) (fun j _ q => ?_) fun e _ z d H' e1 E3 => z σ d H' e1 (EnvX.pop (es := [_]) (ws := [_]) E3 rfl)⟩
  intro w H2 E2
  have ew : w = .int j := E2.rd1 rdV
  subst ew
  obtain ⟨l, zs, P, F1, FB, e1, hH, r, _, _, sk, put⟩ := Env.mut (es := [_, _]) (ws := [_, _]) (ues := us.map .as) E2 rfl (h y)
  rw [e0] at e1
  cases e1
  unfold setAt at q
  cases hx : ixN xs.length j with
  | none =>
    rw [hx] at q
    exact q.elim
  | some n =>
    rw [hx] at q
    obtain ⟨G1, G2, eG, k1, k2⟩ := StkL.two sk
    refine ⟨l0, zs, j, n, rfl, rfl, hH, by rw [Pd.len r]; exact hx, y, _, us, vs, put _ _ fun P' s' f => Pd.set (fz y k2 s' fun a ha => f a (by rw [eG]; exact List.mem_append_right _ ha)) _ (r.mono s'), q⟩
/-- x += e, ints -/
theorem js_aug {op : Operator} {g : Int → Int → Int} {x : Int} {md : Md} {n : Str} {p1 : Pos} {m : Out Int} {k : Int → Out ω} (i : Nat) (ho : PIp c.X op (ipI g)) (h : ts[i]? = some (some (asn c.X.K c.G md x))) (hN : c.X.N.Nodup) (hi : c.X.N[i]? = some n) (he : JE c ts e m (Vl c))
    (hk : ∀ y, JS c (ts.set i (some (asn c.X.K c.G .val y))) rest (k y) post) (hl : i < ts.length := by exact Nat.lt_of_succ_le (Nat.le_of_ble_eq_true rfl)) (hx : Loc c.X.env.scope n := by first | exact Or.inl rfl | exact Or.inr rfl)
    (hf : c.X.fn n = true ∨ c.X.env.scope.names.lookup n = some .local := by first | exact .inl rfl | exact .inr rfl | assumption) : JS c ts (.AugAssign (.Name n p1) op e pos :: rest) (m.bind fun y => k (g x y)) post :=
  PSs.imp (pss_cons (ps_aug hN hi hx he ho hf) (PSs.ex hk)) fun D σ H ⟨us, vs, E, q⟩ => by
    obtain ⟨v0, P0, F0, F01, e0, p0, _, q0⟩ := E.slot h
    have ev : v0 = .int x := asn_rep p0.le E.ground q0
    subst ev
    refine ⟨_, e0, tJ_S (A := fun y => asn c.X.K c.G .val y) E (Out.wp_mono (Out.wp_bind q) (fun y _ q v H1 E1 => ?_) fun _ _ z => z)⟩
    have ew : v = .int y := E1.rd1 rdV
    subst ew
    refine ⟨x, y, rfl, rfl, g x y, us, vs, ?_, q⟩
    have E2 : Env c ts ((asn c.X.K c.G .val (g x y) :: us).map .as) σ (.int (g x y) :: vs) H1 := Env.pushS (es := [_]) (ws := [_]) (K := c.X.K) (H0 := H1) E1 rfl rfl
    exact E2.store hl
end
end Mw
set_option maxRecDepth 100000
set_option maxHeartbeats 4000000
namespace Mw
open PySem PySem.Spec PyProof.Rows L2

/-! ### list comprehensions -/
def lcL {α β : Type} (t : α → Out Bool) (f : α → Out β) : List α → List β → Out (List β)
  | [], acc => .ok acc
  | x :: xs, acc => match t x with
    | .ok true => (match f x with
      | .ok y => if acc.length < 16777216 then lcL t f xs (acc ++ [y]) else .bad
      | _ => .bad)
    | .ok false => lcL t f xs acc
    | _ => .bad
/-- an entry told of the slots σ, whatever the slots are -/
def unal (σ : Sl) : Ent → Ent
  | .as A => .as A
  | .al i => .as ⟨fun _ _ F v => F = [] ∧ σ[i]? = some (some v), fun _ _ h => h⟩
  | .p2 i => .as ⟨fun P _ F v => F = [] ∧ ∃ (a : Addr) (u : V), σ[i]? = some (some (.ref a)) ∧ P a = some (.tup [u, v]), fun s _ ⟨h1, a, u, h2, h3⟩ => ⟨h1, a, u, h2, s _ _ h3⟩⟩
theorem StkOk.un {P H : Hp} {σ σ' : Sl} {e : Ent} {v : V} {F : List Addr} : StkOk P H σ e v F ↔ StkOk P H σ' (unal σ e) v F := by
  cases e <;> exact Iff.rfl
theorem StkL.un {P H : Hp} {σ σ' : Sl} : ∀ {us : List Ent} {vs : List V} {F : List Addr}, StkL P H σ us vs F → StkL P H σ' (us.map (unal σ)) vs F
  | [], [], _, h => h
  | [], _ :: _, _, h => h.elim
  | _ :: _, [], _, h => h.elim
  | e :: us, v :: vs, _, ⟨F1, F2, eF, h1, h2⟩ => ⟨F1, F2, eF, StkOk.un.mp h1, StkL.un h2⟩
theorem StkL.re {P H : Hp} {σ σ' : Sl} : ∀ {us : List Ent} {vs : List V} {F : List Addr}, StkL P H σ' (us.map (unal σ)) vs F → StkL P H σ us vs F
  | [], [], _, h => h
  | [], _ :: _, _, h => h.elim
  | _ :: _, [], _, h => h.elim
  | e :: us, v :: vs, _, ⟨F1, F2, eF, h1, h2⟩ => ⟨F1, F2, eF, StkOk.un.mpr h1, StkL.re h2⟩
theorem EnvL.putN {P H : Hp} {i : Nat} {w : Option V} : ∀ {ts : List (Option Asn)} {σ : Sl} {F : List Addr} {i : Nat}, ts[i]? = some none → EnvL P H ts σ F → EnvL P H ts (σ.set i w) F
  | [], _, _, _, e, _ => by simp at e
  | _ :: _, [], _, _, _, h => h.elim
  | t :: ts, v :: σ, F, 0, e, ⟨F1, F2, eF, h1, h2⟩ => by
    have et : t = none := by simpa using e
    subst et
    exact ⟨F1, F2, eF, h1, h2⟩
  | t :: ts, v :: σ, F, i + 1, e, ⟨F1, F2, eF, h1, h2⟩ => ⟨F1, F2, eF, h1, EnvL.putN (i := i) (by simpa using e) h2⟩
theorem EnvL.getN {P H : Hp} {w : Option V} : ∀ {ts : List (Option Asn)} {σ : Sl} {F : List Addr} {i : Nat}, ts[i]? = some none → EnvL P H ts (σ.set i w) F → EnvL P H ts σ F
  | [], _, _, _, e, _ => by simp at e
  | _ :: _, [], _, _, _, h => h.elim
  | t :: ts, v :: σ, F, 0, e, ⟨F1, F2, eF, h1, h2⟩ => by
    have et : t = none := by simpa using e
    subst et
    exact ⟨F1, F2, eF, h1, h2⟩
  | t :: ts, v :: σ, F, i + 1, e, ⟨F1, F2, eF, h1, h2⟩ => ⟨F1, F2, eF, h1, EnvL.getN (i := i) (by simpa using e) h2⟩
theorem EnvL.wipeI {P H : Hp} {ts : List (Option Asn)} {σ : Sl} {F : List Addr} : ∀ {vs : List Nat}, (∀ i ∈ vs, ts[i]? = some none) → EnvL P H ts σ F → EnvL P H ts (wipe σ vs) F
  | [], _, h => h
  | v :: vs, k, h => EnvL.putN (i := v) (k v (by simp)) (EnvL.wipeI (fun i hi => k i (by simp [hi])) h)
theorem EnvL.wipeO {P H : Hp} {ts : List (Option Asn)} {σ : Sl} {F : List Addr} : ∀ {vs : List Nat}, (∀ i ∈ vs, ts[i]? = some none) → EnvL P H ts (wipe σ vs) F → EnvL P H ts σ F
  | [], _, h => h
  | v :: vs, k, h => EnvL.wipeO (fun i hi => k i (by simp [hi])) (EnvL.getN (i := v) (k v (by simp)) h)

/-- where the items of a comprehension go: only to its own slots -/
def TgtW (c : Cw) (n : Nat) {α : Type} (g : TG) (El : α → Asn) (up : α → List (Option Asn) → List (Option Asn)) (own : List Nat) : Prop := ∀ {x : α} {ts : List (Option Asn)} {us : List Asn} {σ : Sl} {y : V} {vs : List V} {H : Hp} {Q : L2.St → Hp → Prop},
  n ≤ ts.length → Env c ts ((El x :: us).map .as) σ (y :: vs) H → (∀ σ' H', wipe σ' own = wipe σ own → Env c (up x ts) (us.map .as) σ' vs H' → Q σ' H') → g y σ H Q
section
variable {c : Cw} {ts tt : List (Option Asn)} {us : List Asn} {es ues : List Ent} {σ : Sl} {vs ws : List V} {H H' : Hp} {α β γ ω S ρ : Type} [Py α] [Py β] [Py γ] {a b e tg iter elt : Expr} {st rest A B body : List Stmt} {pos : Pos} {post : ω → Exit}
theorem tgw_name {El : α → Asn} (i : Nat) : TgtW c (i + 1) (gName i) El (fun x ts => ts.set i (some (El x))) [i] := fun {x ts us σ y vs H Q} hl E q => q _ _ (by
  show (σ.set i _).set i none = σ.set i none
  rw [List.set_set]) (E.store hl)
theorem tgw_pair (i j : Nat) (hij : i ≠ j) : TgtW c (max i j + 1) (gTup c.X.K 2 (gCons (gName i) (gCons (gName j) gNil))) (fun x : α × β => asn c.X.K c.G .val x) (fun x ts => (ts.set i (some (asn c.X.K c.G .val x.1))).set j (some (asn c.X.K c.G .val x.2))) [i, j] := fun {x ts us σ y vs H Q} hl E q => by
  obtain ⟨F1, F2, E0⟩ := E
  obtain ⟨G1, G2, eG, k, _⟩ := E0.sk
  obtain ⟨p, v1, v2, ey, hp, r1, r2⟩ := k.2
  subst ey
  refine ⟨p, _, rfl, Same.seqT hide_le hp, rfl, v1, _, rfl, v2, _, rfl, rfl, q _ _ ?_ ?_⟩
  · show ((((σ.set i (some v1)).set j (some v2)).set j none).set i none) = (σ.set j none).set i none
    rw [List.set_set, List.set_comm _ _ hij, List.set_set]
  · have s2 : Env c ts ((asn c.X.K c.G .val x.1 :: asn c.X.K c.G .val x.2 :: asn c.X.K c.G .val x :: us).map .as) σ (v1 :: v2 :: .ref p :: vs) H := ⟨F1, F2, (E0.addVF r2).addVF r1⟩
    have s4 := s2.store (i := i) (by have := Nat.le_max_left i j; omega)
    have s5 := s4.store (i := j) (by rw [List.length_set]; have := Nat.le_max_right i j; omega)
    exact Env.pop (es := [_]) (ws := [_]) s5 rfl

/-- the context of a comprehension's block: no error leaves it -/
abbrev Cw.blk (c : Cw) (s : Shared) (H : Hp) (scope : Scope) (C : Addr) (cl : List (Str × Addr)) (fp : List Addr) : Cw := { c with X := c.X.blk s H scope (compEnvC scope cl C c.X.env) fp, W := fun _ _ _ _ => False, tx := none }
abbrev Cw.no (c : Cw) : Cw := { c with W := fun _ _ _ _ => False, tx := none }
def JTs (c : Cw) (ts : List (Option Asn)) (ifs : List Expr) (m : Out Bool) : Prop := PTs c.X ifs (tT c ts m)
theorem Env.no {us : List Ent} (E : Env c ts us σ vs H) : Env c.no ts us σ vs H := by
  obtain ⟨F1, F2, E⟩ := E
  exact ⟨F1, F2, E.sl, E.sk, E.nd, E.fr, E.g, E.og⟩
theorem Env.yes {us : List Ent} (E : Env c.no ts us σ vs H) : Env c ts us σ vs H := by
  obtain ⟨F1, F2, E⟩ := E
  exact ⟨F1, F2, E.sl, E.sk, E.nd, E.fr, E.g, E.og⟩
theorem jts_nil : JTs c ts [] (.ok true) := ⟨fun pins s σ H Q I ⟨us, vs, E, q⟩ => pts_nil.run pins s σ H Q I (q H E)⟩
theorem jts_one {m : Out Bool} (h : JT c ts a m) : JTs c ts [a] m := pts_one h

theorem unal_map {σ : Sl} {us : List Ent} : ∃ as : List Asn, us.map (unal σ) = as.map .as := by
  induction us with
  | nil => exact ⟨[], rfl⟩
  | cons e us ih =>
    obtain ⟨as, h⟩ := ih
    cases e with
    | as A => exact ⟨A :: as, by rw [List.map_cons, h]; rfl⟩
    | al i => exact ⟨⟨fun _ _ F v => F = [] ∧ σ[i]? = some (some v), fun _ _ h => h⟩ :: as, by rw [List.map_cons, h]; rfl⟩
    | p2 i => exact ⟨⟨fun P _ F v => F = [] ∧ ∃ (a : Addr) (u : V), σ[i]? = some (some (.ref a)) ∧ P a = some (.tup [u, v]), fun s _ ⟨h1, a, u, h2, h3⟩ => ⟨h1, a, u, h2, s _ _ h3⟩⟩ :: as, by rw [List.map_cons, h]; rfl⟩
theorem Env.wipeI {own : List Nat} {us : List Ent} (hts : ∀ i ∈ own, ts[i]? = some none) (E : Env c ts us σ vs H) : Env c ts (us.map (unal σ)) (wipe σ own) vs H := by
  obtain ⟨F1, F2, E⟩ := E
  exact ⟨F1, F2, E.sl.wipeI hts, StkL.un E.sk, E.nd, E.fr, E.g, E.og⟩
theorem Env.wipeO {own : List Nat} {us : List Ent} (hts : ∀ i ∈ own, ts[i]? = some none) (E : Env c ts (us.map (unal σ)) (wipe σ own) vs H) : Env c ts us σ vs H := by
  obtain ⟨F1, F2, E⟩ := E
  exact ⟨F1, F2, E.sl.wipeO hts, E.sk.re, E.nd, E.fr, E.g, E.og⟩

/-- an owned list on top grows -/
theorem Env.grow {acc : List β} {D : Addr} {zs : List V} {y : V} {eB : Ent} {z : β} (E : Env c ts (eB :: Ow c acc :: ues) σ (y :: .ref D :: vs) H) (hD : H D = some (.lst zs)) (fz : Fz c eB z) : Env c ts (Ow c (acc ++ [z]) :: ues) σ (.ref D :: vs) (upd H D (.lst (zs ++ [y]))) := by
  obtain ⟨F1, F0, E⟩ := E
  obtain ⟨FB, G0, eF, k1, G1, F2, eG, k2, h2⟩ := E.sk
  subst eF eG
  obtain ⟨l, zs', el, eG1, hH, r⟩ := k2
  cases el
  subst eG1
  have ez := lst_inj hD hH
  subst ez
  have nd := E.nd
  have noOf : ∀ a, a ∈ F1 ++ (FB ++ ([D] ++ F2)) → a ∉ c.Of := fun a h q => by
    have := (E.fr a h).1
    obtain ⟨o, e, _⟩ := E.og a q
    rw [this] at e
    cases e
  obtain ⟨n1, n2, n3⟩ := List.nodup_append.mp nd
  obtain ⟨m1, m2, m3⟩ := List.nodup_append.mp n2
  obtain ⟨p1, p2, p3⟩ := List.nodup_append.mp m2
  have sub : ∀ a, a ∈ F1 ++ ([D] ++ F2) → a ∈ F1 ++ (FB ++ ([D] ++ F2)) := fun a h => by
    rcases List.mem_append.mp h with h | h
    · exact List.mem_append_left _ h
    · exact List.mem_append_right _ (List.mem_append_right _ h)
  have din : D ∈ F1 ++ (FB ++ ([D] ++ F2)) := by simp
  have sP : Same (hide (c.Of ++ (F1 ++ (FB ++ ([D] ++ F2)))) H) (hide (c.Of ++ (F1 ++ ([D] ++ F2))) (upd H D (.lst (zs ++ [y])))) := fun a o q => by
    obtain ⟨n, q⟩ := hide_some q
    have al : a ≠ D := fun z => n (by rw [z]; exact List.mem_append_right _ din)
    rw [hide_of fun z => n ?_, upd_ne al]
    · exact q
    · rcases List.mem_append.mp z with z | z
      · exact List.mem_append_left _ z
      · exact List.mem_append_right _ (sub a z)
  have dF1 : ∀ a ∈ F1, a ≠ D := fun a ha z => n3 a ha D (by simp) z
  have dF2 : ∀ a ∈ F2, a ≠ D := fun a ha z => p3 D (by simp) a ha z.symm
  have kB : ∀ a ∈ FB, ∀ o, H a = some o → hide (c.Of ++ (F1 ++ ([D] ++ F2))) (upd H D (.lst (zs ++ [y]))) a = some o := fun a ha o q => by
    have al : a ≠ D := fun z => m3 a ha D (by simp) z
    rw [hide_of fun z => ?_, upd_ne al]
    · exact q
    · rcases List.mem_append.mp z with z | z
      · exact noOf a (List.mem_append_right _ (List.mem_append_left _ ha)) z
      · rcases List.mem_append.mp z with z | z
        · exact n3 a z a (List.mem_append_left _ ha) rfl
        · exact m3 a ha a z rfl
  refine ⟨F1, [D] ++ F2, E.sl.st sP fun a ha o q => by rw [upd_ne (dF1 a ha)]; exact q, ⟨[D], F2, rfl, ⟨D, _, rfl, rfl, upd_same, Pd.append (r.mono sP) (.cons (fz k1 sP kB) .nil)⟩, h2.st sP fun a ha o q => by rw [upd_ne (dF2 a ha)]; exact q⟩, ?_, fun a ha => ?_, fun a o q => ?_, E.og⟩
  · exact List.nodup_append.mpr ⟨n1, m2, fun a ha b hb => n3 a ha b (List.mem_append_right _ hb)⟩
  · obtain ⟨g1, o, g2, g3⟩ := E.fr a (sub a ha)
    refine ⟨g1, ?_⟩
    by_cases al : a = D
    · subst al
      exact ⟨_, upd_same, rfl⟩
    · exact ⟨o, by rw [upd_ne al]; exact g2, g3⟩
  · have al : a ≠ D := fun z => by
      have := (E.fr D din).1
      rw [z, this] at q
      cases q
    rw [upd_ne al]
    exact E.g _ _ q

theorem wipe1 {i : Nat} (σ : Sl) : wipe (wipe σ [i]) [i] = wipe σ [i] := by
  show (σ.set i none).set i none = σ.set i none
  rw [List.set_set]
theorem wipe2 {i j : Nat} (h : i ≠ j) (σ : Sl) : wipe (wipe σ [i, j]) [i, j] = wipe σ [i, j] := by
  show ((((σ.set j none).set i none).set j none).set i none) = (σ.set j none).set i none
  rw [List.set_comm (i := i) (j := j) _ _ h, List.set_set, List.set_set]
theorem map_unal {σ : Sl} {ps : List Asn} : (ps.map Ent.as).map (unal σ) = ps.map .as := by
  rw [List.map_map]
  rfl
theorem lc_imp {n : Nat} {mi : Out (List α)} {El : α → Asn} {g : TG} {up : α → List (Option Asn) → List (Option Asn)} {own : List Nat} {t : α → Out Bool} {f : α → Out β} {Bn : α → β → Asn} (ht : TgtW c n g El up own) (hts : ∀ i ∈ own, ts[i]? = some none) (hn : n ≤ ts.length) (fz : ∀ x y, Fz c (.as (Bn x y)) y)
    (hww : ∀ σ, wipe (wipe σ own) own = wipe σ own) (hwk : ∀ x, WkL (up x ts) ts)
    (σ : Sl) (H : Hp) (Q : VK) : tJ c ts (mi.bind fun xs => lcL t f xs []) (Ow c) σ H Q → tLc (tI c ts mi El) g (fun σ H Q => ∃ x, tT c.no (up x ts) (t x) σ H Q) (fun σ H Q => ∃ x, tJ c.no (up x ts) (f x) (fun y => .as (Bn x y)) σ H Q) own σ H Q := fun ⟨us, vs, E, q⟩ => by
  refine ⟨us, vs, E, Out.wp_mono (Out.wp_bind q) (fun xs _ q => ?_) fun _ _ z => z⟩
  intro J H1 ps pv hpl sr E1 D hD
  have hpl' : (ps.map Ent.as).length = pv.length := by rw [List.length_map]; exact hpl
  have E2 : Env c ts (Ow c ([] : List β) :: (ps.map .as ++ us)) σ (.ref D :: (pv ++ vs)) (upd H1 D (.lst [])) := Env.pushN (es := []) (ws := []) E1 rfl hD fun _ _ _ _ _ _ _ => .nil
  have E3 := Env.wipeI hts E2
  obtain ⟨as, has⟩ := unal_map (σ := σ) (us := us)
  have E4 : Env c ts (Ow c ([] : List β) :: ((ps ++ as).map .as)) (wipe σ own) (.ref D :: (pv ++ vs)) (upd H1 D (.lst [])) := by
    have e : List.map (unal σ) (Ow c ([] : List β) :: (ps.map .as ++ us)) = Ow c ([] : List β) :: ((ps ++ as).map .as) := by
      rw [List.map_cons, List.map_append, map_unal, has, List.map_append]
      rfl
    rw [← e]
    exact E3
  let fin : List β → Prop := fun r => ∀ v H', Env c ts (Ow c r :: us) σ (v :: vs) H' → Q v H'
  refine ⟨fun i mm H => mm = xs.length - i ∧ i ≤ xs.length ∧ ∃ acc : List β, Env c ts (Ow c acc :: ((ps ++ as).map .as)) (wipe σ own) (.ref D :: (pv ++ vs)) H ∧ (lcL t f (xs.drop i) acc).wp fin (Ex c us σ vs), ⟨_, rfl, Nat.zero_le _, [], E4, q⟩, ?_⟩
  rintro i mm H ⟨rfl, hi', acc, E5, q2⟩
  have E6 : Env c ts (ps.map .as ++ Ow c acc :: as.map .as) (wipe σ own) (pv ++ .ref D :: vs) H := by
    refine Env.unrot ?_ hpl'
    rw [← List.map_append]
    exact E5
  by_cases hlt : i < xs.length
  · have hx : xs[i]? = some xs[i] := List.getElem?_eq_getElem hlt
    rw [List.drop_eq_getElem_cons hlt] at q2
    obtain ⟨g1, g2⟩ := sr.go E6 hx
    let Nx : Hp → Prop := fun H' => ∃ acc : List β, Env c ts (Ow c acc :: ((ps ++ as).map .as)) (wipe σ own) (.ref D :: (pv ++ vs)) H' ∧ (lcL t f (xs.drop (i + 1)) acc).wp fin (Ex c us σ vs)
    refine .inr ⟨g1, Nx, fun H' h => ⟨_, by omega, rfl, hlt, h⟩, fun y H' hy => ?_⟩
    have E7 := g2 y H' hy
    have E8 : Env c ts ((El xs[i] :: (ps ++ asn c.X.K c.G .own acc :: as)).map .as) (wipe σ own) (y :: (pv ++ .ref D :: vs)) H' := by
      rw [List.map_cons, List.map_append]
      exact E7
    refine ht hn E8 fun σ2 H2 hw E9 => ⟨hw.trans (hww σ), xs[i], _, _, E9.no, ?_⟩
    have back : ∀ {acc' : List β} {H3 : Hp}, Env c (up xs[i] ts) (Ow c acc' :: ((ps ++ as).map .as)) σ2 (.ref D :: (pv ++ vs)) H3 → Env c ts (Ow c acc' :: ((ps ++ as).map .as)) (wipe σ own) (.ref D :: (pv ++ vs)) H3 := fun {acc' H3} E => by
      have Ea : Env c ts (Ow c acc' :: ((ps ++ as).map .as)) σ2 (.ref D :: (pv ++ vs)) H3 := Env.wk (us := asn c.X.K c.G .own acc' :: (ps ++ as)) (hwk xs[i]) E
      have Eb := Env.wipeI hts Ea
      have e : List.map (unal σ2) (Ow c acc' :: ((ps ++ as).map .as)) = Ow c acc' :: ((ps ++ as).map .as) := by
        rw [List.map_cons, map_unal]
        rfl
      rw [e, hw, hww] at Eb
      exact Eb
    unfold lcL at q2
    cases htx : t xs[i] with
    | err _ =>
      rw [htx] at q2
      exact q2.elim
    | bad =>
      rw [htx] at q2
      exact q2.elim
    | ok bb =>
      rw [htx] at q2
      intro H3 E10n
      have E10 := E10n.yes
      cases bb with
      | false =>
        rw [if_neg Bool.false_ne_true]
        refine ⟨acc, back ?_, q2⟩
        have z : Env c (up xs[i] ts) (ps.map .as ++ Ow c acc :: as.map .as) σ2 (pv ++ .ref D :: vs) H3 := by
          have E10' := E10
          rw [List.map_append] at E10'
          exact E10'
        have z2 := Env.rot z hpl'
        rw [← List.map_append] at z2
        exact z2
      | true =>
        rw [if_pos rfl]
        cases hfx : f xs[i] with
        | err _ =>
          rw [hfx] at q2
          exact q2.elim
        | bad =>
          rw [hfx] at q2
          exact q2.elim
        | ok z =>
          rw [hfx] at q2
          refine ⟨xs[i], _, _, E10.no, ?_⟩
          rw [hfx]
          intro v H4 E11n
          have E11 := E11n.yes
          by_cases hlen : acc.length < 16777216
          · have q3 : (lcL t f (xs.drop (i + 1)) (acc ++ [z])).wp fin (Ex c us σ vs) := by
              have q2' : (if acc.length < 16777216 then lcL t f (xs.drop (i + 1)) (acc ++ [z]) else .bad).wp fin (Ex c us σ vs) := q2
              rw [if_pos hlen] at q2'
              exact q2'
            have z1 : Env c (up xs[i] ts) ((.as (Bn xs[i] z) :: ps.map .as) ++ Ow c acc :: as.map .as) σ2 ((v :: pv) ++ .ref D :: vs) H4 := by
              have E11' : Env c (up xs[i] ts) (.as (Bn xs[i] z) :: (ps ++ asn c.X.K c.G .own acc :: as).map .as) σ2 (v :: (pv ++ .ref D :: vs)) H4 := E11
              rw [List.map_append] at E11'
              exact E11'
            have z2 := Env.rot z1 (by rw [List.length_cons, List.length_cons, hpl'])
            have z3 : Env c (up xs[i] ts) (.as (Bn xs[i] z) :: Ow c acc :: ((ps ++ as).map .as)) σ2 (v :: .ref D :: (pv ++ vs)) H4 := by
              have z4 := Env.rot (es := [Ow c acc]) (ws := [.ref D]) (us := ps.map .as ++ as.map .as) z2 rfl
              rw [List.map_append]
              exact z4
            have hH : ∃ zs, H4 D = some (.lst zs) ∧ zs.length = acc.length := by
              obtain ⟨F1, F2, Ez⟩ := id z3
              obtain ⟨G1, G2, _, _, G3, G4, _, k2, _⟩ := Ez.sk
              obtain ⟨l, zs, el, _, hH, r⟩ := k2
              cases el
              exact ⟨zs, hH, Pd.len r⟩
            obtain ⟨zs, hz, hzl⟩ := hH
            exact ⟨zs, hz, by rw [hzl, sizeLine_eq]; exact hlen, acc ++ [z], back (Env.grow z3 hz (fz xs[i] z)), q3⟩
          · have q2' : (if acc.length < 16777216 then lcL t f (xs.drop (i + 1)) (acc ++ [z]) else .bad).wp fin (Ex c us σ vs) := q2
            rw [if_neg hlen] at q2'
            exact q2'.elim
  · have e : i = xs.length := by omega
    subst e
    rw [List.drop_eq_nil_of_le (Nat.le_refl _)] at q2
    have z := Env.pop E6 hpl'
    have z2 : Env c ts ((Ow c acc :: us).map (unal σ)) (wipe σ own) (.ref D :: vs) H := by
      have e : List.map (unal σ) (Ow c acc :: us) = Ow c acc :: as.map .as := by
        rw [List.map_cons, has]
        rfl
      rw [e]
      exact z
    exact .inl ⟨sr.stop E6, q2 _ H (Env.wipeO hts z2)⟩
theorem PE.ex {X : Cx} {e : Expr} {ι : Type} {t : ι → TE} (h : ∀ i, PE X e (t i)) : PE X e (fun σ H Q => ∃ i, t i σ H Q) := ⟨fun pins s σ H Q I ⟨i, q⟩ => (h i).run pins s σ H Q I q⟩
theorem PTs.ex {X : Cx} {ifs : List Expr} {ι : Type} {t : ι → TT} (h : ∀ i, PTs X ifs (t i)) : PTs X ifs (fun σ H Q => ∃ i, t i σ H Q) := ⟨fun pins s σ H Q I ⟨i, q⟩ => (h i).run pins s σ H Q I q⟩
theorem Env.toB {us : List Ent} {s : Shared} {H0 : Hp} {scope : Scope} {C : Addr} {cl : List (Str × Addr)} {fp : List Addr} (E : Env c.no ts us σ vs H) : Env (c.blk s H0 scope C cl fp) ts us σ vs H := by
  obtain ⟨F1, F2, E⟩ := E
  exact ⟨F1, F2, E.sl, E.sk, E.nd, E.fr, E.g, E.og⟩
theorem Env.ofB {us : List Ent} {s : Shared} {H0 : Hp} {scope : Scope} {C : Addr} {cl : List (Str × Addr)} {fp : List Addr} (E : Env (c.blk s H0 scope C cl fp) ts us σ vs H) : Env c.no ts us σ vs H := by
  obtain ⟨F1, F2, E⟩ := E
  exact ⟨F1, F2, E.sl, E.sk, E.nd, E.fr, E.g, E.og⟩
theorem je_blk {s : Shared} {H0 : Hp} {scope : Scope} {C : Addr} {cl : List (Str × Addr)} {fp : List Addr} {m : Out α} {A : α → Ent} (h : JE (c.blk s H0 scope C cl fp) ts e m A) : PE (c.X.blk s H0 scope (compEnvC scope cl C c.X.env) fp) e (tJ c.no ts m A) :=
  PE.imp (X := (c.blk s H0 scope C cl fp).X) h fun σ H Q ⟨us, vs, E, q⟩ => ⟨us, vs, E.toB, Out.wp_mono q (fun a _ k v H' E' => k v H' E'.ofB) fun e _ k => k⟩
theorem jts_blk {s : Shared} {H0 : Hp} {scope : Scope} {C : Addr} {cl : List (Str × Addr)} {fp : List Addr} {m : Out Bool} {ifs : List Expr} (h : JTs (c.blk s H0 scope C cl fp) ts ifs m) : PTs (c.X.blk s H0 scope (compEnvC scope cl C c.X.env) fp) ifs (tT c.no ts m) :=
  ⟨fun pins s' σ H Q I ⟨us, vs, E, q⟩ => PTs.run (X := (c.blk s H0 scope C cl fp).X) h pins s' σ H Q I ⟨us, vs, E.toB, Out.wp_mono q (fun a _ k H' E' => k H' E'.ofB) fun e _ k => k⟩⟩
/-- [elt for target in iter if ..] -/
theorem je_lc {n : Nat} {mi : Out (List α)} {El : α → Asn} {g : TG} {up : α → List (Option Asn) → List (Option Asn)} {own : List (Str × Nat)} {ifs : List Expr} {scope : Scope} {t : α → Out Bool} {f : α → Out β} {Bn : α → β → Asn} (hc : c.X.calm = true) (hN : c.X.N.Nodup)
    (hi : JI c ts tg iter mi El) (ok : blkC c.X.N c.X.env.scope scope own = true) (ht : TgtW c n g El up (own.map (·.2))) (hts : ∀ i ∈ own.map (·.2), ts[i]? = some none) (hn : n ≤ ts.length) (fz : ∀ x y, Fz c (.as (Bn x y)) y)
    (hww : ∀ σ, wipe (wipe σ (own.map (·.2))) (own.map (·.2)) = wipe σ (own.map (·.2))) (hwk : ∀ x, WkL (up x ts) ts)
    (hg : ∀ (s : Shared) (H : Hp) (C : Addr) (cl : List (Str × Addr)) (fp : List Addr), PG (c.blk s H scope C cl fp).X tg g)
    (hif : ∀ x (s : Shared) (H : Hp) (C : Addr) (cl : List (Str × Addr)) (fp : List Addr), JTs (c.blk s H scope C cl fp) (up x ts) ifs (t x))
    (he : ∀ x (s : Shared) (H : Hp) (C : Addr) (cl : List (Str × Addr)) (fp : List Addr), JE (c.blk s H scope C cl fp) (up x ts) elt (f x) (fun y => .as (Bn x y)))
    (hs : ∀ x, foldedSetIterable iter c.X.env x = pure x := by intro _; rfl) :
    JE c ts (.ListComp elt [⟨tg, iter, ifs, 0⟩] scope pos) (mi.bind fun xs => lcL t f xs []) (Ow c) :=
  PE.imp (pe_lc hc hN hi (blkOk_by ok) hg (fun s H C cl fp => PTs.ex (t := fun x => tT c.no (up x ts) (t x)) fun x => jts_blk (hif x s H C cl fp)) (fun s H C cl fp => PE.ex (t := fun x => tJ c.no (up x ts) (f x) (fun y => .as (Bn x y))) fun x => je_blk (he x s H C cl fp)) hs) (lc_imp ht hts hn fz hww hwk)
/-- name = [elt for target in iter if ..] on one line -/
theorem js_setLc {n i : Nat} {y : Str} {py spos : Pos} {mi : Out (List α)} {El : α → Asn} {g : TG} {up : α → List (Option Asn) → List (Option Asn)} {own : List (Str × Nat)} {ifs : List Expr} {scope : Scope} {t : α → Out Bool} {f : α → Out β} {Bn : α → β → Asn} {k : List β → Out ω} (hc : c.X.calm = true) (hN : c.X.N.Nodup)
    (hy : c.X.N[i]? = some y) (hyl : c.X.env.scope.names.lookup y = some .local) (hsw : swapsWith (.ListComp elt [⟨tg, iter, ifs, 0⟩] scope pos) (some (.Name y py)) spos.line c.X.env = pure true)
    (hi : JI c ts tg iter mi El) (ok : blkC c.X.N c.X.env.scope scope own = true) (ht : TgtW c n g El up (own.map (·.2))) (hts : ∀ i ∈ own.map (·.2), ts[i]? = some none) (hn : n ≤ ts.length) (fz : ∀ x y, Fz c (.as (Bn x y)) y)
    (hww : ∀ σ, wipe (wipe σ (own.map (·.2))) (own.map (·.2)) = wipe σ (own.map (·.2))) (hwk : ∀ x, WkL (up x ts) ts)
    (hg : ∀ (s : Shared) (H : Hp) (C : Addr) (cl : List (Str × Addr)) (fp : List Addr), PG (c.blk s H scope C cl fp).X tg g)
    (hif : ∀ x (s : Shared) (H : Hp) (C : Addr) (cl : List (Str × Addr)) (fp : List Addr), JTs (c.blk s H scope C cl fp) (up x ts) ifs (t x))
    (he : ∀ x (s : Shared) (H : Hp) (C : Addr) (cl : List (Str × Addr)) (fp : List Addr), JE (c.blk s H scope C cl fp) (up x ts) elt (f x) (fun y => .as (Bn x y)))
    (hk : ∀ a, JS c (ts.set i (some (asn c.X.K c.G .own a))) rest (k a) post) (hil : i < ts.length) (hs : ∀ x, foldedSetIterable iter c.X.env x = pure x := by intro _; rfl) :
    JS c ts (.Assign [.Name y py] (.ListComp elt [⟨tg, iter, ifs, 0⟩] scope pos) spos :: rest) ((mi.bind fun xs => lcL t f xs []).bind k) post :=
  PSs.imp (pss_cons (ps_setLc hc hN hy hyl hsw hi (blkOk_by ok) hg (fun s H C cl fp => PTs.ex (t := fun x => tT c.no (up x ts) (t x)) fun x => jts_blk (hif x s H C cl fp)) (fun s H C cl fp => PE.ex (t := fun x => tJ c.no (up x ts) (f x) (fun y => .as (Bn x y))) fun x => je_blk (he x s H C cl fp)) hs) (PSs.ex hk)) fun D σ H ⟨us, vs, E, q⟩ => by
    refine lc_imp (c := c) (Bn := Bn) ht hts hn fz hww hwk σ H (fun v H' => ∃ a, tS c (ts.set i (some (asn c.X.K c.G .own a))) (k a) post D (σ.set i (some v)) H') (tJ_S E (A := fun a => asn c.X.K c.G .own a) (Out.wp_mono (Out.wp_bind q) (fun a _ q v H' E' => ?_) fun _ _ z => z))
    exact ⟨a, us, vs, E'.store hil, q⟩
end
end Mw
set_option maxRecDepth 100000
set_option maxHeartbeats 4000000
namespace Mw
open PySem PySem.Spec PyProof.Rows L2

theorem Out.bind_assoc {α β γ : Type} (m : Out α) (f : α → Out β) (g : β → Out γ) : (m.bind f).bind g = m.bind fun x => (f x).bind g := by
  cases m <;> rfl
theorem Out.bind_id {α : Type} (m : Out α) : (m.bind fun x => .ok x) = m := by
  cases m <;> rfl

/-! ### in, count -/
class PyQ (α : Type) [Py α] [DecidableEq α] [PyE α] : Prop where
  flat : ∀ x : α, flatV (PyE.val x) = true
  eqv : ∀ x y : α, eqV (PyE.val x) (PyE.val y) = decide (x = y)
instance : PyQ Int := ⟨fun _ => rfl, fun x y => by
  show (x == y) = decide (x = y)
  exact Bool.beq_eq_decide_eq x y⟩
instance : PyQ Bool := ⟨fun _ => rfl, fun x y => by
  cases x <;> cases y <;> rfl⟩
instance : PyQ Str := ⟨fun _ => rfl, fun x y => by
  show (x == y) = decide (x = y)
  exact Bool.beq_eq_decide_eq x y⟩
section
variable {c : Cw} {ts : List (Option Asn)} {us es ues : List Ent} {σ : Sl} {vs ws : List V} {H H' : Hp} {α β γ ω S ρ : Type} [Py α] [Py β] [Py γ] {a b e tg iter elt : Expr} {st rest A B body : List Stmt} {pos : Pos} {post : ω → Exit}
theorem reps_val [DecidableEq α] [PyE α] {K : PySem.W.Frag} : ∀ {vs : List V} {xs : List α}, Reps K H vs xs → vs = xs.map PyE.val
  | _, _, .nil => rfl
  | _, _, .cons r t => by rw [List.map_cons, PyE.rep r, reps_val t]
theorem all_flat [DecidableEq α] [PyE α] [PyQ α] : ∀ xs : List α, (xs.map PyE.val).all flatV = true
  | [] => rfl
  | x :: xs => by
    rw [List.map_cons, List.all_cons, PyQ.flat, all_flat xs]
    rfl
theorem inV_eq [DecidableEq α] [PyE α] [PyQ α] {x : α} : ∀ xs : List α, inV (PyE.val x) (xs.map PyE.val) = decide (x ∈ xs)
  | [] => by simp [inV]
  | y :: xs => by
    have h := inV_eq (x := x) xs
    unfold inV at h ⊢
    rw [List.map_cons, List.any_cons, h, PyQ.eqv]
    by_cases hxy : y = x
    · subst hxy
      simp
    · have : x ≠ y := fun z => hxy z.symm
      simp [hxy, this]
theorem Env.rq2 {i : α} {j : β} {x y : V} {eA eB : Ent} (rA : Rd c ts eA i) (rB : Rd c ts eB j) (E : Env c ts (eB :: eA :: us) σ (y :: x :: vs) H) : Py.rep c.X.K H x i ∧ Py.rep c.X.K H y j := by
  obtain ⟨F1, F2, E⟩ := E
  obtain ⟨G1, G2, e, h1, G3, G4, e', h2, _⟩ := E.sk
  exact ⟨rA E.part E.g E.sl h2, rB E.part E.g E.sl h1⟩
theorem hr_in [DecidableEq α] [PyE α] [PyQ α] {neg : Bool} {A : α → Ent} {B : List α → Ent} (rA : ∀ x, Rd c ts (A x) x) (rB : ∀ xs, Rd c ts (B xs) xs) : ∀ {us σ vs H2} {i : α} {j : List α} {x y : V} {Q : VK}, Env c ts (B j :: A i :: us) σ (y :: x :: vs) H2 → (Out.ok (if neg then !decide (i ∈ j) else decide (i ∈ j))).wp (fun z => ∀ v H', Env c ts (Vl c z :: us) σ (v :: vs) H' → Q v H') (Ex c us σ vs) →
    rIn c.X.K neg x y H2 Q := fun {us σ vs H2 i j x y Q} E q => by
  obtain ⟨r1, r2⟩ := E.rq2 (rA i) (rB j)
  obtain ⟨l, zs, ey, hl, rz⟩ := r2
  have ex := PyE.rep r1
  have ez := reps_val rz
  subst ey
  subst ez
  refine ⟨l, _, rfl, .inl (SqL.of hl), by rw [ex]; exact PyQ.flat i, all_flat j, ?_⟩
  rw [ex, inV_eq]
  exact q _ H2 (Env.pushS (es := [_, _]) (ws := [_, _]) (K := c.X.K) (H0 := H2) E rfl rfl)
theorem je_in [DecidableEq α] [PyE α] [PyQ α] {mx : Out α} {ml : Out (List α)} {A : α → Ent} {B : List α → Ent} (ha : JE c ts a mx A) (hb : JE c ts b ml B) (rA : ∀ x, Rd c ts (A x) x) (rB : ∀ xs, Rd c ts (B xs) xs) (hm : behindInMarks .In b = false := by rfl) :
    JE c ts (.Compare a [.In] [b] pos) (mx.bind fun x => ml.bind fun xs => .ok (decide (x ∈ xs))) (Vl c) := je_cmp op_in_seq (hr_in (neg := false) rA rB) hm ha hb
theorem je_nin [DecidableEq α] [PyE α] [PyQ α] {mx : Out α} {ml : Out (List α)} {A : α → Ent} {B : List α → Ent} (ha : JE c ts a mx A) (hb : JE c ts b ml B) (rA : ∀ x, Rd c ts (A x) x) (rB : ∀ xs, Rd c ts (B xs) xs) (hm : behindInMarks .NotIn b = false := by rfl) :
    JE c ts (.Compare a [.NotIn] [b] pos) (mx.bind fun x => ml.bind fun xs => .ok (!decide (x ∈ xs))) (Vl c) := je_cmp op_notIn_seq (hr_in (neg := true) rA rB) hm ha hb
theorem jt_in [DecidableEq α] [PyE α] [PyQ α] {mx : Out α} {ml : Out (List α)} {A : α → Ent} {B : List α → Ent} (ha : JE c ts a mx A) (hb : JE c ts b ml B) (rA : ∀ x, Rd c ts (A x) x) (rB : ∀ xs, Rd c ts (B xs) xs) (hm : behindInMarks .In b = false := by rfl) :
    JT c ts (.Compare a [.In] [b] pos) (mx.bind fun x => ml.bind fun xs => .ok (decide (x ∈ xs))) := jt_cmp op_in_seq (hr_in (neg := false) rA rB) hm ha hb
theorem jt_nin [DecidableEq α] [PyE α] [PyQ α] {mx : Out α} {ml : Out (List α)} {A : α → Ent} {B : List α → Ent} (ha : JE c ts a mx A) (hb : JE c ts b ml B) (rA : ∀ x, Rd c ts (A x) x) (rB : ∀ xs, Rd c ts (B xs) xs) (hm : behindInMarks .NotIn b = false := by rfl) :
    JT c ts (.Compare a [.NotIn] [b] pos) (mx.bind fun x => ml.bind fun xs => .ok (!decide (x ∈ xs))) := jt_cmp op_notIn_seq (hr_in (neg := true) rA rB) hm ha hb

def rCntV (K : PySem.W.Frag) : V → List V → Hp → VK → Prop := fun x xs H Q => ∃ (p : Addr) (zs : List V) (y : V), x = .ref p ∧ xs = [y] ∧ SqL K H p zs ∧ flatV y = true ∧ zs.all flatV = true ∧ Q (.int ((zs.countP fun z => eqV z y : Nat) : Int)) H
theorem count_eqU {x : V} : ∀ {xs : List V} {us : List Value}, Vals xs us → xs.all flatV = true → us.countP (eqU x) = xs.countP fun y => eqV y x
  | _, _, .nil, _ => rfl
  | y :: xs, u :: us, .cons r t, f => by
    rw [List.all_cons, Bool.and_eq_true] at f
    rw [List.countP_cons, List.countP_cons, eqU_of r f.1, count_eqU t f.2]
theorem mt_lcountV {X : Cx} : MtR X "list.count" (rCntV X.K) := by
  intro pins s σ H x xs v us Q I rx rxs h
  obtain ⟨p, zs, y, rfl, rfl, hs, fy, fz, q⟩ := h
  cases rx
  obtain ⟨u, rfl, ru⟩ := rxs.one
  obtain ⟨its, rv, ⟨⟨cls, dd, data, sl⟩, n, ho, hc, hdn, hd⟩, hlen⟩ := I.list hs
  simp only at hc hd
  subst hc hd
  refine call_meets PySem.F.slot_list_count ⟨_, ho, rfl⟩ PySem.F.entry_list_count (PySem.F.args_list_count_2 _ _)
    (SeqAt.list_countAt p its.toArray n dd sl u (eqU y)) ⟨ho, fun w hw => mem_eqAt ru fy rv fz w (by simpa using hw), ?_⟩
  have ec : its.toArray.toList.countP (eqU y) = zs.countP fun z => eqV z y := count_eqU rv fz
  refine ⟨.int ((zs.countP fun z => eqV z y : Nat) : Int), H, I.tok _, ⟨s.toks, ?_⟩, q⟩
  show Value.int ((its.toArray.toList.countP (eqU y) : Nat) : Int) s.toks = Value.int ((zs.countP fun z => eqV z y : Nat) : Int) s.toks
  rw [ec]
theorem count_val [DecidableEq α] [PyE α] [PyQ α] {x : α} : ∀ xs : List α, ((xs.map PyE.val).countP fun z => eqV z (PyE.val x)) = xs.countP fun z => decide (z = x)
  | [] => rfl
  | y :: xs => by rw [List.map_cons, List.countP_cons, List.countP_cons, PyQ.eqv, count_val xs]
/-- xs.count(y) -/
theorem je_count [DecidableEq α] [PyE α] [PyQ α] {xs : List α} {md : Md} {n : Str} {p1 p2 : Pos} {m : Out α} {A : α → Ent} (i : Nat) (h : ts[i]? = some (some (asn c.X.K c.G md xs))) (rA : ∀ x, Rd c ts (A x) x) (he : JE c ts e m A)
    (hp : ∀ {t : TA}, PA c.X [e] t → PE c.X (.Call (.Attribute (.Name n p1) "count" p2) [e] [] pos) (tBM c.X.K "list" (rCntV c.X.K) (tVar i) t)) (hst : starEach [e] c.X.env = (false, eval e c.X.env) :: starEach [] c.X.env := by rfl) :
    JE c ts (.Call (.Attribute (.Name n p1) "count" p2) [e] [] pos) (m.bind fun x => .ok ((xs.countP fun z => decide (z = x) : Nat) : Int)) (Vl c) :=
  PE.imp (hp (pa_cons he pa_nil hst)) fun σ H Q ⟨us, vs, E, q⟩ => by
    obtain ⟨v0, P0, F0, F01, e0, pp, el0, q0⟩ := E.slot h
    have r0 := asn_rep pp.le (E.ground) q0
    obtain ⟨l0, zs0, el, hH0, rz⟩ := r0
    subst el
    refine ⟨_, e0, .inl ⟨rfl, _, SqL.of hH0⟩, us, vs, E, Out.wp_mono (Out.wp_bind q) (fun x _ q v H1 E1 => ?_) fun _ _ z => z⟩
    have ex := PyE.rep (E1.rd1 (rA x))
    obtain ⟨v1, P1, F1, F11, e1, pp1, el1, q1⟩ := E1.slot h
    rw [e0] at e1
    cases e1
    obtain ⟨l1, zs1, el', hH1, rz1⟩ := asn_rep pp1.le (E1.ground) q1
    cases el'
    have ez := reps_val rz1
    subst ex
    subst ez
    refine ⟨_, _, _, rfl, rfl, SqL.of hH1, PyQ.flat x, all_flat xs, q _ H1 ?_⟩
    rw [count_val]
    exact Env.pushS (es := [_]) (ws := [_]) (K := c.X.K) (H0 := H1) E1 rfl rfl
end
end Mw
set_option maxRecDepth 100000
set_option maxHeartbeats 4000000
namespace Mw
open PySem PySem.Spec PyProof.Rows L2

/-! ### a def keeps the promise of its mirror -/
/-- an argument: how it is handed, how it stands in its slot -/
structure ArgS (K : PySem.W.Frag) where
  p : ArgP
  t : Hp → Asn
  h : ∀ {O : List Addr} {H : Hp} {v : V}, p (hide O H) H v → (t H).p (hide O H) H [] v
def sV (K : PySem.W.Frag) {α : Type} [Py α] (x : α) : ArgS K := ⟨aV K x, fun G => asn K G .val x, fun h => ⟨rfl, h⟩⟩
def sB (K : PySem.W.Frag) {α : Type} [Py α] (x : α) : ArgS K := ⟨aB K x, fun G => asn K G .bor x, fun h => ⟨rfl, h⟩⟩
theorem start_env {P H : Hp} {K : PySem.W.Frag} {O : List Addr} : ∀ {ss : List (ArgS K)} {vs : List V} {n : Nat}, ArgL (ss.map (·.p)) (hide O H) H vs → EnvL (hide O H) H ((ss.map fun s => some (s.t H)) ++ List.replicate n none) (vs.map some ++ List.replicate n none) []
  | [], [], n, _ => by
    show EnvL (hide O H) H (List.replicate n none) (List.replicate n none) []
    induction n with
    | zero => exact rfl
    | succ n ih => exact ⟨[], [], rfl, rfl, ih⟩
  | [], _ :: _, _, h => nomatch h
  | _ :: _, [], _, h => nomatch h
  | s :: ss, v :: vs, n, h => by
    cases h with
    | cons h1 h2 => exact ⟨[], [], rfl, ⟨v, rfl, s.h h1⟩, start_env (P := P) h2⟩
section
variable {P : Program} {w : World} {K : PySem.W.Frag} {mg : Str → Option Value} {base : Heap}
/-- where a def's body stands -/
abbrev cOf (P : Program) (w : World) (K : PySem.W.Frag) (mg : Str → Option Value) (base : Heap) (eg : EK → Addr) (N : List Str) (qual : Str) (st : Stmt) (f : Addr) (cdv : Value) (A : Around) (outer : List PySem.Env) (s : Shared) (H : Hp) (E : XK) (O : List Addr) : Cw :=
  { X := cxOf (L2.CX P w) P w K mg base N qual (defScope st) f cdv A outer s H E, G := H, Of := O, W := fun cls d _ H => E cls d H, tx := none, eg := eg }
theorem fn_mir {γ ρ : Type} [Py ρ] {x qual : Str} {st : Stmt} {f : Addr} {fd : FuncData} {N ps : List Str} {k : Nat} {eg : EK → Addr} {md : Md} {mf : γ → Out ρ} {As : γ → List ArgP} (F : Fun K x qual st f fd) (S : FnScope N ps (defScope st)) (Ss : γ → List (ArgS K)) (hAs : ∀ y, As y = (Ss y).map (·.p)) (hl : ∀ y, (Ss y).length = ps.length)
    (body : ∀ (cdv : Value) (A : Around) (outer : List PySem.Env) (s : Shared) (H : Hp) (E : XK) (O : List Addr) (y : γ), Room k (A.deeper (envOfC qual (defScope st) s.heap.objs.size f cdv)) →
      JS (cOf P w K mg base eg N qual st f cdv A outer s H E O) (((Ss y).map fun s => some (s.t H)) ++ List.replicate (N.length - ps.length) none) (defBody st) (mf y) (fun r => .ret (asn K H md r))) :
    FnOk P w K mg base (L2.CX P w) (k + 1) f fd ps (spM K eg md mf As) := by
  have len : ∀ vs H (Q : VK) (E : XK), spM K eg md mf As vs H Q E → vs.length = ps.length := fun vs H Q E h => by
    obtain ⟨y, O, _, hp, _⟩ := h
    rw [Pd.len hp, hAs, List.length_map, hl]
  refine F.okX S len fun cdv A outer s H vs Q E hr h => ?_
  obtain ⟨y, O, hO, hp, q⟩ := id h
  refine ⟨_, body cdv A outer s H E O y hr, [], [], ?_, ?_⟩
  · rw [hAs] at hp
    refine ⟨[], [], ?_, rfl, List.nodup_nil, fun a ha => (nomatch ha), Same.refl _, hO⟩
    have hvl := len vs H Q E h
    unfold L2.start
    rw [hvl, show ([] : List Addr) ++ [] = [] from rfl, List.append_nil]
    exact start_env (P := H) hp
  · refine Out.wp_mono q (fun r _ k => ?_) fun e _ k => ?_
    · intro v H' E'
      obtain ⟨F1, F2, E'⟩ := E'
      obtain ⟨G1, G2, eG, k1, k2⟩ := E'.sk
      have eF1 : F1 = [] := E'.sl
      have eG2 : G2 = [] := k2
      subst eF1 eG2 eG
      refine k v H' E'.g ⟨G1, fun a ha => (E'.fr a (by simpa using ha)).1, by have := E'.nd; simpa using this, fun a ha => (E'.fr a (by simpa using ha)).2, ?_⟩
      have k1' : (asn K H md r).p (hide (O ++ ([] ++ (G1 ++ []))) H') H' G1 v := k1
      simpa using k1'
    · intro σ d H' h1 h2
      exact k d H' h1 h2
end

theorem wkx_refl {c : Cw} {ts : List (Option Asn)} (h : c.tx = some ts) : WkX c ts := by
  unfold WkX
  rw [h]
  exact fun z => z
theorem hpo_of {P : Program} {w : World} {K : PySem.W.Frag} {mg : Str → Option Value} {base : Heap} {eg : EK → Addr} {N : List Str} {qual : Str} {st : Stmt} {f : Addr} {cdv : Value} {A : Around} {outer : List PySem.Env} {s : Shared} {H : Hp} {E : XK} {O : List Addr} :
    PassesOwn (model P w) (cOf P w K mg base eg N qual st f cdv A outer s H E O).X.A (cOf P w K mg base eg N qual st f cdv A outer s H E O).X.env (cOf P w K mg base eg N qual st f cdv A outer s H E O).X.xe :=
  passes_of (X := (cOf P w K mg base eg N qual st f cdv A outer s H E O).X) rfl
theorem tk_of {P : Program} {w : World} {K : PySem.W.Frag} {mg : Str → Option Value} {base : Heap} {eg : EK → Addr} {N : List Str} {qual : Str} {st : Stmt} {f : Addr} {cdv : Value} {A : Around} {outer : List PySem.Env} {s : Shared} {H : Hp} {E : XK} {O : List Addr} :
    Takes (cOf P w K mg base eg N qual st f cdv A outer s H E O).X (cOf P w K mg base eg N qual st f cdv A outer s H E O).W := takes_of rfl rfl rfl rfl
section
variable {c : Cw} {ts : List (Option Asn)} {ω α : Type} [Py α] {rest : List Stmt} {pos : Pos} {post : ω → Exit}
/-- return xs, xs what slot i owns -/
theorem js_retO {x : α} {inj : α → ω} {n : Str} {p1 : Pos} (i : Nat) (h : ts[i]? = some (some (asn c.X.K c.G .own x))) (hn : PE c.X (.Name n p1) (tVar i)) (hp : ∀ a, post (inj a) = .ret (asn c.X.K c.G .own a)) : JS c ts (.Return (some (.Name n p1)) pos :: rest) ((Out.ok x).bind fun a => .ok (inj a)) post :=
  PSs.imp (pss_cons (u := tNever) (ps_ret hn) pss_never) fun D σ H ⟨us, vs, E, q⟩ => by
    obtain ⟨F1, F2, E⟩ := E
    obtain ⟨v, G1, Gi, G2, e1, e2, qA, hlt, put⟩ := E.sl.at i h
    obtain ⟨u, eu, qA⟩ := qA
    subst eu e2
    have q' : ExitOk c us vs D (post (inj x)) := q
    rw [hp] at q'
    refine ⟨u, e1, q' u H ⟨[], Gi ++ F2, rfl, ⟨Gi, F2, rfl, ?_, ?_⟩, ?_, fun a ha => E.fr a ?_, E.g, E.og⟩⟩
    · refine (asn c.X.K c.G .own x).st (fun a o z => ?_) (fun _ _ _ z => z) qA
      obtain ⟨n', z⟩ := hide_some z
      rw [hide_of fun y => n' ?_]
      · exact z
      · rcases List.mem_append.mp y with y | y
        · exact List.mem_append_left _ y
        · refine List.mem_append_right _ ?_
          rcases List.mem_append.mp y with y | y
          · cases y
          · rcases List.mem_append.mp y with y | y
            · exact List.mem_append_left _ (List.mem_append_right _ (List.mem_append_left _ y))
            · exact List.mem_append_right _ y
    · refine (stk_map (F := F2) E.sk).st (fun a o z => ?_) fun _ _ _ z => z
      obtain ⟨n', z⟩ := hide_some z
      rw [hide_of fun y => n' ?_]
      · exact z
      · rcases List.mem_append.mp y with y | y
        · exact List.mem_append_left _ y
        · refine List.mem_append_right _ ?_
          rcases List.mem_append.mp y with y | y
          · cases y
          · rcases List.mem_append.mp y with y | y
            · exact List.mem_append_left _ (List.mem_append_right _ (List.mem_append_left _ y))
            · exact List.mem_append_right _ y
    · obtain ⟨n1, n2, n3⟩ := List.nodup_append.mp E.nd
      obtain ⟨m1, m2, m3⟩ := List.nodup_append.mp n1
      obtain ⟨p1, p2, p3⟩ := List.nodup_append.mp m2
      show (Gi ++ F2).Nodup
      exact List.nodup_append.mpr ⟨p1, n2, fun a ha b hb => n3 a (List.mem_append_right _ (List.mem_append_left _ ha)) b hb⟩
    · rcases List.mem_append.mp ha with y | y
      · cases y
      · rcases List.mem_append.mp y with y | y
        · exact List.mem_append_left _ (List.mem_append_right _ (List.mem_append_left _ y))
        · exact List.mem_append_right _ y
end

/-! ### own errors: raise C(e) -/
/-- self.f = e, of a fresh exception -/
def spIn (K : PySem.W.Frag) (f : Str) : Sp := fun vs H Q _ => ∃ (a C : Addr) (y : V), vs = [.ref a, y] ∧ OexC K C ∧ PySem.W.findIn K (.ref C) f = some none ∧ H a = some (exo a C none) ∧
  ∀ dx, H dx = none → dx ≠ a → Q .non (upd (upd H dx (exd dx [(f, y)])) a (exo a C (some dx)))
section
variable {P : Program} {w : World} {K : PySem.W.Frag} {mg : Str → Option Value} {base : Heap}
theorem ok_in {qual : Str} {st : Stmt} {f : Addr} {fd : FuncData} {fld : Str} {p1 p2 p3 p4 : Pos} (F : Fun K "__init__" qual st f fd) (S : FnScope ["self", fld] ["self", fld] (defScope st)) (hb : defBody st = [.Assign [.Attribute (.Name "self" p1) fld p2] (.Name fld p3) p4])
    (v0 : Vis (defScope st) "self") (v1 : Vis (defScope st) fld) (hd : (fld == ("__debug__" : Str)) = false) (hcd : (fld == ("__classdict__" : Str)) = false)
    (hs : ∀ (L f : Addr) (cdv : Value), swapsWith (.Name fld p3) (some (.Attribute (.Name "self" p1) fld p2)) p4.line (envOfC qual (defScope st) L f cdv) = pure false) : FnOk P w K mg base (L2.CX P w) 1 f fd ["self", fld] (spIn K fld) := by
  refine F.okX S (fun vs H Q E h => ?_) fun cdv A outer s H vs Q E hr h => ?_
  · obtain ⟨a, C, y, rfl, _⟩ := h
    rfl
  · obtain ⟨a, C, y, rfl, T, no, ha, k⟩ := h
    rw [hb]
    refine ⟨_, pss_one (ps_ost (pe_var (i := 0) rfl v0) (pe_var (i := 1) rfl v1 hd hcd) (hs _ _ _)), ?_⟩
    exact ⟨y, rfl, _, rfl, a, C, rfl, T, no, .inl ⟨ha, fun dx h1 h2 => k dx h1 h2⟩⟩
end
section
variable {c : Cw} {ts tt : List (Option Asn)} {us es ues : List Ent} {σ : Sl} {vs ws : List V} {H H' : Hp} {α β γ ω S ρ : Type} [Py α] [Py β] [Py γ] {a b e tg iter elt : Expr} {st rest A B body : List Stmt} {pos : Pos} {post : ω → Exit}
theorem js_raise1 [DecidableEq α] [PyE α] {kd : EK} {f x : Str} {fI : Addr} {fd : FuncData} {ps : List Str} {n : Nat} {m : Out α} {A : α → Ent} {p pos2 : Pos} (hcalm : c.X.calm = true) (tk : Takes c.X c.W) (T : OexC c.X.K (c.eg kd)) (iC : PySem.W.findIn c.X.K (.ref (c.eg kd)) "__init__" = some (some (.ref fI)))
    (tI : PySem.W.typeIn c.X.K (.ref fI) = some (.type "function")) (F1 : FnOk c.X.prog c.X.w c.X.K c.X.mg c.X.base (L2.CX c.X.prog c.X.w) n fI fd ps (spIn c.X.K f)) (hr : Room (n + 1) c.X.A) (hb : Binds c.X.K fd ps []) (no : PySem.W.findIn c.X.K (.ref (c.eg kd)) f = some none)
    (hm : c.X.mg x = some (.ref (c.eg kd))) (rA : ∀ x, Rd c ts (A x) x) (he : JE c ts e m A) (hw : WkX c ts) (hg : Gl c.X x := by rfl) (hdb : (x == ("__debug__" : Str)) = false := by decide)
    (hst : starEach [e] c.X.env = (false, eval e c.X.env) :: starEach [] c.X.env := by rfl) (hpl : (backTo pos (starEach [] c.X.env)).any (·.1) = false := by rfl) :
    JS c ts (.Raise (some (.Call (.Name x p) [e] [] pos)) none pos2 :: rest) (m.bind fun y => .err ⟨kd, some [(f, PyE.val y)]⟩) post :=
  PSs.imp (pss_cons (u := tNever) (ps_raise hcalm tk (pmk_oex (ds := []) (dvs := []) T iC tI F1 hr hb .nil passL hg hm (pa_cons he pa_nil hst) hdb hst hpl)) pss_never) fun D σ H ⟨us, vs, E, q⟩ => by
    refine ⟨us.map .as, vs, E, Out.wp_mono (Out.wp_bind q) (fun y _ q v H1 E1 => ?_) fun e _ z => z σ⟩
    have ev : v = PyE.val y := PyE.rep (E1.rd1 (rA y))
    refine ⟨by show 1 ≤ 1000; decide, fun a ha => ?_⟩
    refine ⟨a, c.eg kd, v, rfl, T, no, upd_same, fun dx hdx hne => ⟨rfl, dx, [(f, v)], upd_same, ?_, ?_, ?_⟩⟩
    · rw [upd_ne hne, upd_same]
    · rw [upd_ne hne] at hdx
      exact hdx
    · rw [upd_ne hne] at hdx
      have eH : upd (del (upd (upd (upd H1 a (exo a (c.eg kd) none)) dx (exd dx [(f, v)])) a (exo a (c.eg kd) (some dx))) a) dx (.xd [(f, v)]) = upd H1 dx (.xd [(f, v)]) := by
        funext b
        by_cases h1 : b = dx
        · subst h1
          rw [upd_same, upd_same]
        · rw [upd_ne h1, upd_ne h1]
          by_cases h2 : b = a
          · subst h2
            rw [del_same, ha]
          · rw [del_ne h2, upd_ne h2, upd_ne h1, upd_ne h2]
      rw [eH, ev]
      have q' : ExS c us vs ⟨kd, some [(f, PyE.val y)]⟩ := q
      exact q' σ (some dx) _ ⟨dx, rfl, upd_same⟩ (hw.go (Env.same (Env.pop (es := [_]) (ws := [_]) E1 rfl) (same_new hdx)))
end

/-! ### try -/
def tryE {α : Type} (p : Err → Option Bool) (m : Out α) (h : Err → Out α) : Out α := match m with
  | .ok a => .ok a
  | .err e => (match p e with
    | some true => (match h e with
      | .ok a => .ok a
      | _ => .bad)
    | some false => .err e
    | none => .bad)
  | .bad => .bad
theorem tryE_ok {α : Type} {p : Err → Option Bool} {a : α} {h : Err → Out α} : tryE p (.ok a) h = .ok a := rfl
/-- the context of a try's body -/
abbrev Cw.tr (c : Cw) (pn : List (Addr × Obj)) (xe : Value → Shared → Prop) (W : WX) (tx : List (Option Asn)) : Cw := { c with X := c.X.tr pn xe, W := W, tx := some tx }
/-- the context of an except clause -/
abbrev Cw.su (c : Cw) (a : Addr) (pn : List (Addr × Obj)) : Cw := { c with X := c.X.suite a pn, W := fun _ _ _ _ => False, tx := none }
/-- the error that is held: it lies at a, its fields at d -/
def exA (a : Addr) (d : Option Addr) (e : Err) : Asn := ⟨fun P _ F v => F = [] ∧ v = .ref a ∧ ErrAt e d P, fun {P P' H H' F v} s _ h => ⟨h.1, h.2.1, by
  obtain ⟨_, _, h⟩ := h
  unfold ErrAt at h ⊢
  split at h
  · exact h
  · obtain ⟨b, e1, e2⟩ := h
    exact ⟨b, e1, s _ _ e2⟩⟩⟩
theorem Env.cv {c c' : Cw} {ts : List (Option Asn)} {us : List Ent} {σ : Sl} {vs : List V} {H : Hp} (hG : c'.G = c.G) (hO : c'.Of = c.Of) (E : Env c ts us σ vs H) : Env c' ts us σ vs H := by
  obtain ⟨F1, F2, E⟩ := E
  exact ⟨F1, F2, by rw [hO]; exact E.sl, by rw [hO]; exact E.sk, E.nd, fun a ha => by rw [hG]; exact E.fr a ha, by rw [hG]; exact E.g, fun a ha => by rw [hG]; exact E.og a (by rw [← hO]; exact ha)⟩
theorem ErrAt.part {P P' H : Hp} {e : Err} {d : Option Addr} (pp : Part P H) (s : Same P P') (h : ErrAt e d H) : ErrAt e d P' := by
  unfold ErrAt at h ⊢
  split at h
  · exact h
  · obtain ⟨b, e1, e2⟩ := h
    obtain ⟨O, eO, mO⟩ := pp.ex
    subst eO
    refine ⟨b, e1, s _ _ ?_⟩
    rw [hide_of fun z => ?_]
    · exact e2
    · have := mO b z _ e2
      cases this
def ExI (i : Nat) : Exit → Prop
  | .next ts => ts[i]? = some none
  | .again ts => ts[i]? = some none
  | .cnt ts => ts[i]? = some none
  | .brk ts => ts[i]? = some none
  | .ret _ => True
  | .never => True
theorem Env.clr {c : Cw} {ts : List (Option Asn)} {us : List Asn} {σ : Sl} {vs : List V} {H : Hp} {i : Nat} (h : ts[i]? = some none) (E : Env c ts (us.map .as) σ vs H) : Env c ts (us.map .as) (σ.set i none) vs H := by
  obtain ⟨F1, F2, E⟩ := E
  exact ⟨F1, F2, EnvL.putN (i := i) h E.sl, stk_map (F := F2) E.sk, E.nd, E.fr, E.g, E.og⟩
section
variable {c : Cw} {ts tt tx : List (Option Asn)} {us es ues : List Ent} {σ : Sl} {vs ws : List V} {H H' : Hp} {α β γ ω S ρ : Type} [Py α] [Py β] [Py γ] {a b e tg iter elt : Expr} {st rest A B body : List Stmt} {pos : Pos} {post : ω → Exit}
theorem exitOk_cv {c c' : Cw} {us : List Asn} {D : Ends} (hG : c'.G = c.G) (hO : c'.Of = c.Of) {x : Exit} (h : ExitOk c us vs D x) : ExitOk c' us vs D x := by
  cases x with
  | next ts => exact fun σ H E => h σ H (E.cv hG.symm hO.symm)
  | again ts => exact ⟨fun σ H E => h.1 σ H (E.cv hG.symm hO.symm), fun σ H E => h.2 σ H (E.cv hG.symm hO.symm)⟩
  | cnt ts => exact fun σ H E => h σ H (E.cv hG.symm hO.symm)
  | brk ts => exact fun σ H E => h σ H (E.cv hG.symm hO.symm)
  | ret A => exact fun v H E => h v H (E.cv hG.symm hO.symm)
  | never => trivial
theorem exitOk_clr {us : List Asn} {D : Ends} {i : Nat} {x : Exit} (hx : ExI i x) (h : ExitOk c us vs D x) : ExitOk c us vs { nx := fun σ' H' => D.nx (σ'.set i none) H', rt := D.rt, bk := fun σ' H' => D.bk (σ'.set i none) H', ct := fun σ' H' => D.ct (σ'.set i none) H' } x := by
  cases x with
  | next ts => exact fun σ H E => h _ H (E.clr hx)
  | again ts => exact ⟨fun σ H E => h.1 _ H (E.clr hx), fun σ H E => h.2 _ H (E.clr hx)⟩
  | cnt ts => exact fun σ H E => h _ H (E.clr hx)
  | brk ts => exact fun σ H E => h _ H (E.clr hx)
  | ret A => exact h
  | never => trivial
/-- try: .. except C as n: .. -/
theorem js_tryAs {tj : S → List (Option Asn)} {i : Nat} {n x : Str} {b₀ : Stmt} {suite : List Stmt} {np pos' : Pos} {cv : Value} {p : Err → Option Bool} {mb : Out (S ⊕ ω)} {mh : Err → Out (S ⊕ ω)} {k : S → Out ω}
    (hs : c.X.stack = c.X.env :: c.X.outer) (hf : c.X.env.frame = some c.X.env.locals) (hN : c.X.N.Nodup) (hi : c.X.N[i]? = some n) (hln : c.X.env.kindOf n = some .local) (hc : Names c.X x cv) (tk : Takes c.X c.W)
    (hp : ∀ e b, p e = some b → PySem.W.exmOne c.X.K (.ref (c.eg e.k)) cv = some b) (hil : i < tx.length) (htj : ∀ s, (tj s)[i]? = some none) (hpi : ∀ w, ExI i (post w).noF) (hw : WkX c tx)
    (hb : ∀ (W : WX) (pn : List (Addr × Obj)) (xe : Value → Shared → Prop), Takes (c.X.tr pn xe) W → PassesOwn (model c.X.prog c.X.w) c.X.A c.X.env xe → JS (c.tr pn xe W tx) ts body mb (Sum.elim (fun s => .next (tj s)) fun w => (post w).noF))
    (hh : ∀ (e : Err) (a : Addr) (oe : Obj) (d : Option Addr) (pn : List (Addr × Obj)), p e = some true → Zc (.ref (c.eg e.k)) d oe → (∃ vs, oe.data = .fields vs) → JS (c.su a ((a, oe) :: pn)) (tx.set i (some (exA a d e))) (b₀ :: suite) (mh e) (Sum.elim (fun s => .next (tj s)) fun w => (post w).noF))
    (hk : ∀ s, JS c (tj s) rest (k s) post) :
    JS c ts (.Try body [.ExceptHandler (some (.Name x np)) (some n) (b₀ :: suite) pos'] [] [] pos :: rest) ((tryE p mb mh).bind (Sum.elim k .ok)) post := by
  let tsu : Addr → Value → Option Addr → TS := fun a cls d D σ H => ∃ e : Err, p e = some true ∧ cls = .ref (c.eg e.k) ∧ ∃ (us : List Asn) (vs : List V), Env c (tx.set i (some (exA a d e))) (us.map .as) σ vs H ∧ (mh e).wp (fun w => ExitOk c us vs D (Sum.elim (fun s => .next (tj s)) (fun w => (post w).noF) w)) fun _ => False
  refine PSs.imp (pss_cons (ps_try_as (tb := fun W D σ H => ∃ (us : List Asn) (vs : List V), Env c ts (us.map .as) σ vs H ∧ mb.wp (fun w => ExitOk c us vs D (Sum.elim (fun s => .next (tj s)) (fun w => (post w).noF) w)) fun e => ∀ σ' d H', ErrAt e d H' → Env c tx (us.map .as) σ' vs H' → W (.ref (c.eg e.k)) d σ' H') (ts := tsu) hs hf hN hi hln hc tk (fun W pn xe tk' ho => ?_) fun a oe cls d pn hz hd => ?_) (PSs.ex hk)) fun D σ H ⟨us, vs, E, q⟩ => ?_
  · exact PSs.imp (X := (c.tr pn xe W tx).X) (hb W pn xe tk' ho) fun D σ H ⟨us, vs, E, q⟩ => ⟨us, vs, Env.cv (c := c) rfl rfl E, Out.wp_mono q (fun w _ z => exitOk_cv (c := c) (c' := c.tr pn xe W tx) rfl rfl z) fun e _ z σ' d H' h1 h2 => z σ' d H' h1 (Env.cv (c := c.tr pn xe W tx) rfl rfl h2)⟩
  · refine ⟨fun pins s σ H D I ⟨e, hpe, ec, us, vs, E, q⟩ => ?_⟩
    subst ec
    exact PSs.run (X := (c.su a ((a, oe) :: pn)).X) (hh e a oe d pn hpe hz hd) pins s σ H D I ⟨us, vs, Env.cv (c := c) rfl rfl E, Out.wp_mono q (fun w _ z => exitOk_cv (c := c) (c' := c.su a ((a, oe) :: pn)) rfl rfl z) fun e _ z => z.elim⟩
  · have go : ∀ r : S ⊕ ω, (Sum.elim k .ok r).wp (fun w => ExitOk c us vs D (post w)) (ExS c us vs) → ExitOk c us vs { D with nx := fun σ H => ∃ s, tS c (tj s) (k s) post D σ H } (Sum.elim (fun s => .next (tj s)) (fun w => (post w).noF) r) := fun r q => by
      cases r with
      | inl s => exact fun σ' H' E' => ⟨s, us, vs, E', q⟩
      | inr w =>
        have q' : ExitOk c us vs D (post w) := q
        exact noF_ok q'
    refine ⟨us, vs, E, ?_⟩
    cases hm : mb with
    | ok r =>
      rw [hm] at q
      exact go r q
    | bad =>
      rw [hm] at q
      exact q.elim
    | err e =>
      rw [hm] at q
      intro σ' d H' h1 h2
      unfold tryE at q
      cases hpe : p e with
      | none =>
        simp only [hpe] at q
        exact q.elim
      | some bb =>
        simp only [hpe] at q
        refine ⟨bb, hp _ _ hpe, fun hb1 a ha => ?_, fun hb0 => ?_⟩
        · subst hb1
          refine ⟨e, hpe, rfl, us, vs, ?_, ?_⟩
          · have E2 : Env c tx ((exA a d e :: us).map .as) σ' (.ref a :: vs) H' := Env.top (es := []) (ws := []) h2 rfl (Same.refl _) fun P F1 FB pp _ _ _ => ⟨[], fun _ h => (nomatch h), List.nodup_nil, fun _ h => (nomatch h), fun P' s' _ _ => ⟨rfl, rfl, ErrAt.part pp s' h1⟩⟩
            exact E2.store hil
          · cases hmh : mh e with
            | ok r =>
              simp only [hmh] at q
              refine exitOk_clr ?_ (go r q)
              cases r with
              | inl s => exact htj s
              | inr w => exact hpi w
            | bad =>
              simp only [hmh] at q
              exact q.elim
            | err e2 =>
              simp only [hmh] at q
              exact q.elim
        · subst hb0
          exact q σ' d H' h1 (hw.go h2)
end
end Mw
set_option maxRecDepth 100000
set_option maxHeartbeats 4000000
namespace Mw
open PySem PySem.Spec PyProof.Rows L2

/-! ### values of several types -/
inductive Un where
  | i (x : Int)
  | b (x : Bool)
  | s (x : Str)
  | l (xs : List Int)
  | non
def Un.toI : Un → Out Int
  | .i x => .ok x
  | _ => .bad
def Un.toB : Un → Out Bool
  | .b x => .ok x
  | _ => .bad
def Un.toL : Un → Out (List Int)
  | .l x => .ok x
  | _ => .bad
def Un.isI : Un → Bool
  | .i _ => true
  | .b _ => true
  | _ => false
def Un.isB : Un → Bool
  | .b _ => true
  | _ => false
def Un.isL : Un → Bool
  | .l _ => true
  | _ => false
def Un.isS : Un → Bool
  | .s _ => true
  | _ => false
instance : Py Un where
  rep := fun K H v x => match x with
    | .i x => v = .int x
    | .b x => v = .bl x
    | .s x => v = .str x
    | .l xs => Py.rep K H v xs
    | .non => v = .non
  mono := fun {K H H' v x} s h => by
    cases x with
    | l xs => exact Py.mono s h
    | i x => exact h
    | b x => exact h
    | s x => exact h
    | non => exact h
  own := fun K P H F v x => match x with
    | .i x => F = [] ∧ v = .int x
    | .b x => F = [] ∧ v = .bl x
    | .s x => F = [] ∧ v = .str x
    | .l xs => Py.own K P H F v xs
    | .non => F = [] ∧ v = .non
  own_st := fun {K P P' H H' F v x} s k h => by
    cases x with
    | l xs => exact Py.own_st s k h
    | i x => exact h
    | b x => exact h
    | s x => exact h
    | non => exact h
  own_rep := fun {K P P' H F v x} s k h => by
    cases x with
    | l xs => exact Py.own_rep s k h
    | i x => exact h.2
    | b x => exact h.2
    | s x => exact h.2
    | non => exact h.2
/-- a pair whose second part may be owned -/
structure Pr (α β : Type) where
  a : α
  b : β
instance {α β : Type} [Py α] [Py β] : Py (Pr α β) where
  rep := fun K H v x => ∃ a v1 v2, v = .ref a ∧ H a = some (.tup [v1, v2]) ∧ Py.rep K H v1 x.a ∧ Py.rep K H v2 x.b
  mono := fun s ⟨a, v1, v2, e, h, r1, r2⟩ => ⟨a, v1, v2, e, s _ _ h, Py.mono s r1, Py.mono s r2⟩
  own := fun K P H F v x => ∃ a v1 v2, v = .ref a ∧ P a = some (.tup [v1, v2]) ∧ Py.rep K P v1 x.a ∧ Py.own K P H F v2 x.b
  own_st := fun s k ⟨a, v1, v2, e, h, r1, r2⟩ => ⟨a, v1, v2, e, s _ _ h, Py.mono s r1, Py.own_st s k r2⟩
  own_rep := fun s k ⟨a, v1, v2, e, h, r1, r2⟩ => ⟨a, v1, v2, e, s _ _ h, Py.mono s r1, Py.own_rep s k r2⟩

section
variable {c : Cw} {ts : List (Option Asn)} {us es ues : List Ent} {σ : Sl} {vs ws : List V} {H H' : Hp} {α β γ ω S ρ : Type} [Py α] [Py β] [Py γ] {a b e tg iter elt : Expr} {st rest body : List Stmt} {pos : Pos} {post : ω → Exit}
/-! ### the same value, another type -/
theorem Env.mapT {A B : Asn} {v : V} (h : ∀ {P H F}, A.p P H F v → B.p P H F v) (E : Env c ts (.as A :: us) σ (v :: vs) H) : Env c ts (.as B :: us) σ (v :: vs) H := by
  obtain ⟨F1, F2, E⟩ := E
  obtain ⟨G1, G2, e, h1, h2⟩ := E.sk
  exact ⟨F1, F2, E.sl, ⟨G1, G2, e, h h1, h2⟩, E.nd, E.fr, E.g, E.og⟩
theorem je_mp {A : α → Asn} {B : β → Asn} {f : α → Out β} {m : Out α} (hf : ∀ x y, f x = .ok y → ∀ {P H F v}, (A x).p P H F v → (B y).p P H F v) (he : ∀ x, f x = .bad ∨ ∃ y, f x = .ok y) (h : JE c ts e m (fun x => .as (A x))) : JE c ts e (m.bind f) (fun y => .as (B y)) :=
  PE.imp h fun σ H Q ⟨us, vs, E, q⟩ => ⟨us, vs, E, Out.wp_mono (Out.wp_bind q) (fun x _ q v H' E' => by
    rcases he x with hx | ⟨y, hx⟩
    · rw [hx] at q
      exact q.elim
    · rw [hx] at q
      exact q v H' (Env.mapT (hf x y hx) E')) fun _ _ z => z⟩
theorem je_upI {m : Out Int} (h : JE c ts e m (Vl c)) : JE c ts e (m.bind fun x => .ok (Un.i x)) (Vl c) := je_mp (fun x y e => by cases e; exact fun h => h) (fun x => .inr ⟨_, rfl⟩) h
theorem je_upB {m : Out Bool} (h : JE c ts e m (Vl c)) : JE c ts e (m.bind fun x => .ok (Un.b x)) (Vl c) := je_mp (fun x y e => by cases e; exact fun h => h) (fun x => .inr ⟨_, rfl⟩) h
theorem je_upL {m : Out (List Int)} (h : JE c ts e m (Vl c)) : JE c ts e (m.bind fun x => .ok (Un.l x)) (Vl c) := je_mp (fun x y e => by cases e; exact fun h => h) (fun x => .inr ⟨_, rfl⟩) h
theorem je_upIO {m : Out Int} (h : JE c ts e m (Vl c)) : JE c ts e (m.bind fun x => .ok (Un.i x)) (Ow c) := je_mp (fun x y e => by cases e; exact fun h => h) (fun x => .inr ⟨_, rfl⟩) h
theorem je_upBO {m : Out Bool} (h : JE c ts e m (Vl c)) : JE c ts e (m.bind fun x => .ok (Un.b x)) (Ow c) := je_mp (fun x y e => by cases e; exact fun h => h) (fun x => .inr ⟨_, rfl⟩) h
theorem je_upLO {m : Out (List Int)} (h : JE c ts e m (Ow c)) : JE c ts e (m.bind fun x => .ok (Un.l x)) (Ow c) := je_mp (fun x y e => by cases e; exact fun h => h) (fun x => .inr ⟨_, rfl⟩) h
theorem je_dnI {m : Out Un} (h : JE c ts e m (Vl c)) : JE c ts e (m.bind Un.toI) (Vl c) := je_mp (fun x y e => by cases x <;> cases e; exact fun h => h) (fun x => by cases x <;> first | exact .inl rfl | exact .inr ⟨_, rfl⟩) h
theorem je_dnB {m : Out Un} (h : JE c ts e m (Vl c)) : JE c ts e (m.bind Un.toB) (Vl c) := je_mp (fun x y e => by cases x <;> cases e; exact fun h => h) (fun x => by cases x <;> first | exact .inl rfl | exact .inr ⟨_, rfl⟩) h
theorem je_dnL {m : Out Un} (h : JE c ts e m (Vl c)) : JE c ts e (m.bind Un.toL) (Vl c) := je_mp (fun x y e => by cases x <;> cases e; exact fun h => h) (fun x => by cases x <;> first | exact .inl rfl | exact .inr ⟨_, rfl⟩) h

/-! ### isinstance -/
theorem pe_bty {X : Cx} {x : Str} {T : String} {pos : Pos} (hg : Gl X x) (hm : X.mg x = none) (hv : bootBuiltins x = some (.type T)) (hn : x ≠ "__name__" := by decide) (hdb : (x == ("__debug__" : Str)) = false := by decide) : PE X (.Name x pos) (tC (.ty T)) :=
  pe_bltn hg hm hv rfl hn hdb
/-- what isinstance asks of a type: t x is the class of x -/
class PyT (α : Type) [Py α] where
  ty : α → String
  is : ∀ {K : PySem.W.Frag} {H : Hp} {v : V} {x : α}, Py.rep K H v x → TyX K H v (.type (ty x))
instance : PyT Int := ⟨fun _ => "int", fun {K H v x} h => by rw [show v = .int x from h]; exact .base (.int _)⟩
instance : PyT Bool := ⟨fun _ => "bool", fun {K H v x} h => by rw [show v = .bl x from h]; exact .base (.bl _)⟩
instance : PyT Str := ⟨fun _ => "str", fun {K H v x} h => by rw [show v = .str x from h]; exact .base (.str _)⟩
instance : PyT Unit := ⟨fun _ => "NoneType", fun {K H v x} h => by rw [show v = .non from h]; exact .base .non⟩
instance {α : Type} [Py α] : PyT (List α) := ⟨fun _ => "list", fun h => by
  obtain ⟨a, vs, e, h, _⟩ := h
  subst e
  exact .base (.lst h)⟩
instance : PyT Un := ⟨fun x => match x with
  | .i _ => "int"
  | .b _ => "bool"
  | .s _ => "str"
  | .l _ => "list"
  | .non => "NoneType", fun {K H v x} h => by
    cases x with
    | i x => exact PyT.is (α := Int) h
    | b x => exact PyT.is (α := Bool) h
    | s x => exact PyT.is (α := Str) h
    | l x => exact PyT.is (α := List Int) h
    | non => exact PyT.is (α := Unit) (x := ()) h⟩
theorem un_isI (x : Un) : kitB (PyT.ty x) "int" = some x.isI := match x with
  | .i _ => (by decide +kernel : kitB "int" "int" = some true)
  | .b _ => (by decide +kernel : kitB "bool" "int" = some true)
  | .s _ => (by decide +kernel : kitB "str" "int" = some false)
  | .l _ => (by decide +kernel : kitB "list" "int" = some false)
  | .non => (by decide +kernel : kitB "NoneType" "int" = some false)
theorem un_isB (x : Un) : kitB (PyT.ty x) "bool" = some x.isB := match x with
  | .i _ => (by decide +kernel : kitB "int" "bool" = some false)
  | .b _ => (by decide +kernel : kitB "bool" "bool" = some true)
  | .s _ => (by decide +kernel : kitB "str" "bool" = some false)
  | .l _ => (by decide +kernel : kitB "list" "bool" = some false)
  | .non => (by decide +kernel : kitB "NoneType" "bool" = some false)
theorem un_isL (x : Un) : kitB (PyT.ty x) "list" = some x.isL := match x with
  | .i _ => (by decide +kernel : kitB "int" "list" = some false)
  | .b _ => (by decide +kernel : kitB "bool" "list" = some false)
  | .s _ => (by decide +kernel : kitB "str" "list" = some false)
  | .l _ => (by decide +kernel : kitB "list" "list" = some true)
  | .non => (by decide +kernel : kitB "NoneType" "list" = some false)
theorem un_isS (x : Un) : kitB (PyT.ty x) "str" = some x.isS := match x with
  | .i _ => (by decide +kernel : kitB "int" "str" = some false)
  | .b _ => (by decide +kernel : kitB "bool" "str" = some false)
  | .s _ => (by decide +kernel : kitB "str" "str" = some true)
  | .l _ => (by decide +kernel : kitB "list" "str" = some false)
  | .non => (by decide +kernel : kitB "NoneType" "str" = some false)
theorem je_isi [PyT α] {T : String} {x : Str} {p p2 : Pos} {m : Out α} {A : α → Ent} {r : α → Bool} (hm : c.X.mg "isinstance" = none) (hx : c.X.mg x = none) (hv : bootBuiltins x = some (.type T)) (hr : ∀ x : α, kitB (PyT.ty x) T = some (r x)) (rA : ∀ x, Rd c ts (A x) x) (he : JE c ts a m A)
    (hg : Gl c.X "isinstance" := by rfl) (hgx : Gl c.X x := by rfl) (hn : x ≠ "__name__" := by decide) (hdb : (x == ("__debug__" : Str)) = false := by decide)
    (h1 : starEach [a, .Name x p2] c.X.env = (false, eval a c.X.env) :: starEach [.Name x p2] c.X.env := by rfl) (h2 : starEach [.Name x p2] c.X.env = (false, eval (.Name x p2) c.X.env) :: starEach [] c.X.env := by rfl) (hpl : (backTo pos (starEach [.Name x p2] c.X.env)).any (·.1) = false := by rfl) :
    JE c ts (.Call (.Name "isinstance" p) [a, .Name x p2] [] pos) (m.bind fun x => .ok (r x)) (Vl c) :=
  PE.imp (pe_callB call_isi hg hm (by decide +kernel) (pa_cons he (pa_cons (pe_bty hgx hx hv hn hdb) pa_nil h2) h1) (by decide) (by decide) h1 hpl) fun σ H Q ⟨us, vs, E, q⟩ => by
    refine ⟨us, vs, E, Out.wp_mono (Out.wp_bind q) (fun y _ q v H1 E1 => ?_) fun _ _ z => z⟩
    refine ⟨v, .ty T, .type (PyT.ty y), .type T, r y, rfl, .ty T, PyT.is (E1.rd1 (rA y)), kit_ty (hr y), q _ H1 ?_⟩
    exact Env.pushS (es := [_]) (ws := [_]) (K := c.X.K) (H0 := H1) E1 rfl rfl
end
/-! ### the error that an except clause holds -/
end Mw
namespace Mw.Ki
open PySem PySem.Spec PySem.Calls PySem.W PyProof.Rows
section
variable {prog : Program} {w : World} {A : Around} {E : Value → Shared → Prop} {s : Shared} {K : Frag} {x D : Addr} {ox : Obj} {od : Option Obj}
/-- x.__class__, x an error of an own class, with or without fields: as PySem.W.kin_classE, for any dict -/
theorem cls_any {Q : Option Value → Shared → Prop} (C : L2.ExcC K D) (hf : findObj K D od "__class__" = some (.bind (.builtin "getset_descriptor.__get__") (.builtin "object.__class__"))) (X : K.In s.heap) (I : InstAt s.heap x ox D od) (h : Q (some (.ref D)) { s with toks := s.toks + 1 }) : wpAny (model prog w) A (getAttr? (.ref x) "__class__") Q E s := by
  obtain ⟨hp, g, d, t, os⟩ := s
  have k0 := I.type (M := model prog w)
  have k1 := looks_findIn (M := model prog w) X C.hg
  have k2 := looks_findIn (M := model prog w) X C.hk
  have k3 := looks_find (M := model prog w) X I hf
  have nb : (Value.builtin "BaseException.__getattribute__" == Value.builtin "object.__getattribute__") = false := by decide +kernel
  unfold getAttr? getAttrBy? getAttrBy
  refine wpAny_bind (wpAny_mkText (wpAny_bind (wpAny_attempt (wpAny_holding (wpAny_bind (k0.at (wpAny_bind (k1.at ?_))))))))
  show wpAny _ _ (if (onTheHeap (Value.ref D) && Value.builtin "BaseException.__getattribute__" == Value.builtin "object.__getattribute__") = true then _ else _) _ _ _
  rw [if_neg (by rw [nb, Bool.and_false]; exact Bool.false_ne_true)]
  unfold getAttrByItsOwn hookBefore
  refine wpAny_bind ?_
  rw [if_pos (show onTheHeap (Value.ref D) = true from rfl)]
  refine k2.at (wpAny_bind (wpAny_attempt (wpAny_holding ?_)))
  unfold callGetattribute
  rw [if_neg (show ¬ (false && onTheHeap (Value.builtin "BaseException.__getattribute__")) = true from Bool.false_ne_true)]
  unfold boundAndCalled
  rw [PySem.F.excAttr_ValueError.ga.bind (.ref x)]
  refine wpAny_bind (wpAny_pure ?_)
  show wpAny _ _ (call (.builtin "BaseException.__getattribute__") [.ref x, .str "__class__" t]) _ _ _
  refine wpAny_call (codeAny_call_builtin PySem.F.excAttr_ValueError.ga.plain PySem.F.entry_bexc_ga ?_)
  refine @check_slot (model prog w) _ _ ⟨hp, g, d, t + 1, os⟩ "BaseException.__getattribute__" "BaseException" "__getattribute__" (.ref x) [.str "__class__" t] [] _ (by decide +kernel) (by decide +kernel) (k0.andThen (looks_subIn X C.hs)) (PySem.F.args_bexc_ga (.ref x) (.str "__class__" t)) ?_
  unfold Builtin.«object.__getattribute__»
  refine wpAny_bind (wpAny_of_eq (a := ((Value.ref x : Value), [Value.str "__class__" t])) (by first | rfl | (simp only [slotArgs]; rfl)) ?_)
  refine wpAny_bind (wpAny_pure (wpAny_bind (k0.at (wpAny_bind (k3.at ?_)))))
  show wpAny _ _ (holding [Value.builtin "object.__class__"] (call (.builtin "getset_descriptor.__get__") [.builtin "object.__class__", .ref x, .ref D]) >>= ret) _ _ _
  refine wpAny_bind (wpAny_holding (wpAny_call (class_get (s := ⟨hp, g, d, t + 1, os⟩) (ox := ox) (od := od) X I C.hm (wpAny_pure ?_))))
  show wpAny _ _ (handedOut (.ref D)) _ _ _
  rw [handedOut_of (v := .ref D) rfl]
  first
    | exact wpAny_pure (wpAny_pure h)
    | exact wpAny_pure h
    | exact wpAny_pure (wpAny_bind (wpAny_pure (wpAny_pure h)))
theorem kit_any (C : L2.ExcC K D) (hf : findObj K D od "__class__" = some (.bind (.builtin "getset_descriptor.__get__") (.builtin "object.__class__"))) : KitX K (.ref x) (.ref D) (fun h => InstAt h x ox D od) where
  ty := fun _ _ _ I => I.type
  it := fun M h X _ => by
    obtain ⟨cdD, hcD, _⟩ := any_some C.hd
    unfold clsIn at hcD
    split at hcD
    · rename_i c' d' cd' sl' ho
      intro A' Q' E' s' k q
      unfold isType loadHead
      exact wpAny_bind (wpAny_loadPart (k _ _ (X _ _ ho)) (wpAny_pure q))
    · cases hcD
  ne := (handS_kitx_exc (x := x) (ox := ox) C.hg C.hk C.hs C.hd C.ha C.hn C.ht C.hm).ne
  ca := fun X I k => cls_any C hf X I k
end
end Mw.Ki
namespace Mw
open PySem PySem.Spec PyProof.Rows L2
theorem call_isF {X : Cx} {a D dd : Addr} {oe : Obj} {pn : List (Addr × Obj)} (C : ExcC X.K D) (hz : Zc (.ref D) (some dd) oe) (hf : ∃ vs, oe.data = .fields vs) : CallR (X.suite a ((a, oe) :: pn)) (.builtin "isinstance")
    (fun xs H Q => ∃ (c : V) (cv : Value) (b : Bool) (fs : List (Str × V)), xs = [.ref a, c] ∧ H dd = some (.xd fs) ∧ (∀ u, RelV c u → u = cv) ∧ PySem.W.kitOne X.K (.ref D) cv = some b ∧ Q (.bl b) H) := by
  intro pins s σ H xs us Q I r h
  obtain ⟨c, cv, b, fs, rfl, ea, hcv, e, q⟩ := h
  cases r with
  | cons rx rr =>
    cases rr with
    | cons rt rr =>
      cases rr
      cases rx
      have ec := hcv _ rt
      subst ec
      obtain ⟨hget, _⟩ := I.pin (a, oe) (List.mem_append.mpr (.inl List.mem_cons_self))
      obtain ⟨vs, hv⟩ := hf
      have hx : ObjOk X.prog X.w H s.heap dd (.xd fs) := I.hok dd _ ea
      obtain ⟨mA, hns, hr⟩ := hx
      obtain ⟨od, ho, hl⟩ := lookIn_ns hns
      have J : PySem.W.InstAt s.heap a oe D (some od) := ⟨hget, hz.1, by unfold PySem.W.notCls; rw [hv] <;> rfl, by rw [hz.2]; exact ho⟩
      exact PySem.W.kia_one (Ki.kit_any C (PySem.W.findObj_data (by obtain ⟨cd, hc, _⟩ := PySem.W.any_some C.hd; rw [hc]; rfl) C.ha C.hn C.ht)) I.kIn J e (fun z => nomatch z) fun tk => ⟨.bl b, H, I.kept (t' := tk) fun _ _ z => z, rfl, q⟩
/-- is an error of the class a one of the class b -/
def isaE (a b : EK) : Bool := decide (a = b) || decide (b = .PackError)
/-- the fields of an error -/
def Err.fI (e : Err) (f : Str) : Out Int := match e.fs with
  | some fs => (match fs.lookup f with
    | some (.int i) => .ok i
    | _ => .bad)
  | none => .bad
section
variable {c : Cw} {ts : List (Option Asn)} {us es ues : List Ent} {σ : Sl} {vs ws : List V} {H H' : Hp} {er : Err} {at1 : Addr} {d : Option Addr} {oe : Obj} {pn : List (Addr × Obj)} {pos : Pos}
theorem je_isE {n x : Str} {p p1 p2 : Pos} {cv : Value} {cw : V} {b : Bool} (i : Nat) (h : ts[i]? = some (some (exA at1 d er))) (hfs : er.fs.isSome = true) (T : ExcC c.X.K (c.eg er.k)) (hz : Zc (.ref (c.eg er.k)) d oe) (hf : ∃ vs, oe.data = .fields vs)
    (hn : PE (c.su at1 ((at1, oe) :: pn)).X (.Name n p1) (tVar i)) (hx : PE (c.su at1 ((at1, oe) :: pn)).X (.Name x p2) (tC cw)) (hcv : ∀ u, RelV cw u → u = cv) (hk : PySem.W.kitOne c.X.K (.ref (c.eg er.k)) cv = some b)
    (hm : c.X.mg "isinstance" = none) (hg : Gl c.X "isinstance" := by rfl)
    (h1 : starEach [.Name n p1, .Name x p2] c.X.env = (false, eval (.Name n p1) c.X.env) :: starEach [.Name x p2] c.X.env := by rfl) (h2 : starEach [.Name x p2] c.X.env = (false, eval (.Name x p2) c.X.env) :: starEach [] c.X.env := by rfl) (hpl : (backTo pos (starEach [.Name x p2] c.X.env)).any (·.1) = false := by rfl) :
    JE (c.su at1 ((at1, oe) :: pn)) ts (.Call (.Name "isinstance" p) [.Name n p1, .Name x p2] [] pos) (.ok b) (Vl (c.su at1 ((at1, oe) :: pn))) := by
  obtain ⟨fs, hfs⟩ := Option.isSome_iff_exists.mp hfs
  cases d with
  | none =>
    refine PE.imp (pe_callB (X := (c.su at1 ((at1, oe) :: pn)).X) (call_isE T hz hf) hg hm (by decide +kernel) (pa_cons hn (pa_cons hx pa_nil h2) h1) (by decide) (by decide) h1 hpl) fun σ H Q ⟨us, vs, E, q⟩ => ?_
    obtain ⟨v0, P0, F0, F01, e0, pp, el0, q0⟩ := E.slot h
    obtain ⟨_, _, h3⟩ := q0
    unfold ErrAt at h3
    rw [hfs] at h3
    obtain ⟨_, z, _⟩ := h3
    cases z
  | some dd =>
    refine PE.imp (pe_callB (X := (c.su at1 ((at1, oe) :: pn)).X) (call_isF T hz hf) hg hm (by decide +kernel) (pa_cons hn (pa_cons hx pa_nil h2) h1) (by decide) (by decide) h1 hpl) fun σ H Q ⟨us, vs, E, q⟩ => ?_
    obtain ⟨v0, P0, F0, F01, e0, pp, el0, q0⟩ := E.slot h
    obtain ⟨_, ev, h3⟩ := q0
    unfold ErrAt at h3
    rw [hfs] at h3
    obtain ⟨a2, z, ha2⟩ := h3
    cases z
    subst ev
    exact ⟨_, e0, cw, cv, b, fs, rfl, pp.le _ _ ha2, hcv, hk, q _ H (Env.pushS (es := []) (ws := []) (K := c.X.K) (H0 := H) E rfl rfl)⟩
/-- e.f, an int -/
theorem je_ef {n f : Str} {p1 : Pos} (i : Nat) (h : ts[i]? = some (some (exA at1 d er))) (T : XfC c.X.K (c.eg er.k)) (hno : PySem.W.findIn c.X.K (.ref (c.eg er.k)) f = some none) (hz : Zc (.ref (c.eg er.k)) d oe) (hf : ∃ vs, oe.data = .fields vs)
    (hn : PE (c.su at1 ((at1, oe) :: pn)).X (.Name n p1) (tVar i)) (hb : attributeBase (.Name n p1) f c.X.env (eval (.Name n p1) c.X.env) = eval (.Name n p1) c.X.env := by rfl) :
    JE (c.su at1 ((at1, oe) :: pn)) ts (.Attribute (.Name n p1) f pos) (er.fI f) (Vl (c.su at1 ((at1, oe) :: pn))) := by
  refine PE.imp (pe_xf (X := c.X) T hno hz hf hn hb) fun σ H Q ⟨us, vs, E, q⟩ => ?_
  obtain ⟨v0, P0, F0, F01, e0, pp, el0, q0⟩ := E.slot h
  obtain ⟨_, ev, h3⟩ := q0
  subst ev
  unfold ErrAt at h3
  unfold Err.fI at q
  cases hfs : er.fs with
  | none =>
    simp only [hfs] at q
    exact q.elim
  | some fs =>
    simp only [hfs] at q h3
    obtain ⟨a2, z, ha2⟩ := h3
    subst z
    cases hl : fs.lookup f with
    | none =>
      simp only [hl] at q
      exact q.elim
    | some w =>
      simp only [hl] at q
      cases w with
      | int k => exact ⟨_, e0, rfl, rfl, a2, fs, .int k, rfl, pp.le _ _ ha2, hl, q _ H (Env.pushS (es := []) (ws := []) (K := c.X.K) (H0 := H) E rfl rfl)⟩
      | _ => exact q.elim
end
end Mw
set_option maxRecDepth 100000
set_option maxHeartbeats 4000000
namespace Mw
open PySem PySem.Spec PyProof.Rows L2

section
variable {c : Cw} {ts : List (Option Asn)} {us es ues : List Ent} {σ : Sl} {vs ws : List V} {H H' : Hp} {α β γ ω S ρ : Type} [Py α] [Py β] [Py γ] {a b e tg iter elt : Expr} {st rest body : List Stmt} {pos : Pos} {post : ω → Exit}
/-- an object l that slot i owns is written -/
theorem Env.mutG {i : Nat} {A : Asn} (E : Env c ts (es ++ ues) σ (ws ++ vs) H) (hl : es.length = ws.length) (h : ts[i]? = some (some A)) (hA : ∀ {P H : Hp} {F : List Addr} {v : V}, A.p P H F v → ∃ l, F = [l]) :
    ∃ u l P F1 FB, σ[i]? = some (some u) ∧ A.p P H [l] u ∧ Part P H ∧ EnvL P H ts σ F1 ∧ StkL P H σ es ws FB ∧ ∀ (o' : HO) (A' : Asn), mutO o' = true → (∀ P', Same P P' → (∀ a ∈ FB, ∀ o, H a = some o → P' a = some o) → A'.p P' (upd H l o') [l] u) →
      Env c (ts.set i (some A')) ues σ vs (upd H l o') := by
  obtain ⟨F1, FB, F2, E, k, h2⟩ := Env.open E hl
  obtain ⟨v, G1, Gi, G2, e1, e2, q, hlt, put⟩ := E.sl.at i h
  subst e2
  obtain ⟨u, eu, qA⟩ := q
  subst eu
  obtain ⟨l, eF⟩ := hA qA
  subst eF
  refine ⟨u, l, _, _, FB, e1, qA, E.part, E.sl, k, fun o' A' hmu hr => ?_⟩
  have nd := E.nd
  have lin : l ∈ G1 ++ ([l] ++ G2) := by simp
  have sub : ∀ a, a ∈ c.Of ++ (G1 ++ ([l] ++ G2) ++ F2) → a ∈ c.Of ++ (G1 ++ ([l] ++ G2) ++ (FB ++ F2)) := fun a h => by
    rcases List.mem_append.mp h with h | h
    · exact List.mem_append_left _ h
    · rcases List.mem_append.mp h with h | h
      · exact List.mem_append_right _ (List.mem_append_left _ h)
      · exact List.mem_append_right _ (List.mem_append_right _ (List.mem_append_right _ h))
  obtain ⟨n1, n2, n3⟩ := List.nodup_append.mp nd
  obtain ⟨m1, m2, m3⟩ := List.nodup_append.mp n2
  have noOf : ∀ a, a ∈ G1 ++ ([l] ++ G2) ++ (FB ++ F2) → a ∉ c.Of := fun a h q => by
    have := (E.fr a h).1
    obtain ⟨o, e, _⟩ := E.og a q
    rw [this] at e
    cases e
  have sP : Same (hide (c.Of ++ (G1 ++ ([l] ++ G2) ++ (FB ++ F2))) H) (hide (c.Of ++ (G1 ++ ([l] ++ G2) ++ F2)) (upd H l o')) := fun a o q => by
    obtain ⟨n, q⟩ := hide_some q
    have al : a ≠ l := fun z => n (by rw [z]; exact List.mem_append_right _ (List.mem_append_left _ lin))
    rw [hide_of fun z => n (sub a z), upd_ne al]
    exact q
  have kB : ∀ a ∈ FB, ∀ o, H a = some o → hide (c.Of ++ (G1 ++ ([l] ++ G2) ++ F2)) (upd H l o') a = some o := fun a ha o q => by
    have al : a ≠ l := fun z => n3 l lin a (List.mem_append_left _ ha) z.symm
    rw [hide_of fun z => ?_, upd_ne al]
    · exact q
    · rcases List.mem_append.mp z with z | z
      · exact noOf a (List.mem_append_right _ (List.mem_append_left _ ha)) z
      · rcases List.mem_append.mp z with z | z
        · exact n3 a z a (List.mem_append_left _ ha) rfl
        · exact m3 a ha a z rfl
  obtain ⟨p1, p2, p3⟩ := List.nodup_append.mp n1
  obtain ⟨r1, r2, r3⟩ := List.nodup_append.mp p2
  have ln : ∀ a, a ∈ G1 ++ G2 → a ≠ l := fun a ha z => by
    subst z
    rcases List.mem_append.mp ha with ha | ha
    · exact p3 a ha a (by simp) rfl
    · exact r3 a (by simp) a ha rfl
  have put' := put _ (upd H l o') (some A') (some u) [l] sP (fun a ha o q => by rw [upd_ne (ln a ha)]; exact q) ⟨_, rfl, hr _ sP kB⟩
  have es : σ.set i (some u) = σ := by
    obtain ⟨hi, e⟩ := List.getElem?_eq_some_iff.mp e1
    rw [← e]
    exact List.set_getElem_self hi
  rw [es] at put'
  refine ⟨G1 ++ ([l] ++ G2), F2, put', h2.st sP fun a ha o q => ?_, List.nodup_append.mpr ⟨n1, m2, fun a ha b hb => n3 a ha b (List.mem_append_right _ hb)⟩, fun a ha => ?_, fun a o q => ?_, E.og⟩
  · have al : a ≠ l := fun z => n3 l lin a (List.mem_append_right _ ha) z.symm
    rw [upd_ne al]
    exact q
  · have ha' : a ∈ G1 ++ ([l] ++ G2) ++ (FB ++ F2) := by
      rcases List.mem_append.mp ha with h | h
      · exact List.mem_append_left _ h
      · exact List.mem_append_right _ (List.mem_append_right _ h)
    obtain ⟨g1, o, g2, g3⟩ := E.fr a ha'
    refine ⟨g1, ?_⟩
    by_cases al : a = l
    · subst al
      exact ⟨_, upd_same, hmu⟩
    · exact ⟨o, by rw [upd_ne al]; exact g2, g3⟩
  · have al : a ≠ l := fun z => by
      have := (E.fr l (List.mem_append_left _ lin)).1
      rw [z, this] at q
      cases q
    rw [upd_ne al]
    exact E.g _ _ q


/-! ### pairs whose second part may be owned -/
theorem je_pr {es : List Expr} {m : Out (α × β × Unit)} {A : α → Ent} {k : Nat} (fA : ∀ x, Fz c (A x) x) (ha : JA c ts es m (fun p => [A p.1, Ow c p.2.1])) : JE c ts (.Tuple es k pos) (m.bind fun x => .ok (Pr.mk x.1 x.2.1)) (Ow c) :=
  PE.imp (pe_tup ha) fun σ H Q ⟨us, vs, E, q⟩ => ⟨us, vs, E, Out.wp_mono (Out.wp_bind q) (fun x _ q => by
    intro ws H1 hl E1
    refine ⟨by rw [← hl, sizeLine_eq]; exact Nat.le_of_ble_eq_true rfl, fun p hp => ?_⟩
    obtain ⟨F1, FB, F2, E1, k, h2⟩ := Env.open E1 hl
    obtain ⟨v1, v2, G1, G2, e, eF, k1, k2⟩ := stk2 k
    subst e eF
    have nd := E1.nd
    obtain ⟨n1, n2, n3⟩ := List.nodup_append.mp nd
    obtain ⟨m1, m2, m3⟩ := List.nodup_append.mp n2
    obtain ⟨p1, p2, p3⟩ := List.nodup_append.mp m1
    have sH : Same H1 (upd H1 p (.tup [v1, v2])) := same_new hp
    refine q _ _ ⟨F1, G2 ++ F2, E1.top h2 sH (fun a ha => .inl (List.mem_append_right _ ha)) p2 (fun a ha => ?_) fun P' s' n _ => ?_⟩
    · obtain ⟨o, h1, h2⟩ := (E1.fr a (List.mem_append_right _ (List.mem_append_left _ (List.mem_append_right _ ha)))).2
      exact ⟨o, sH _ _ h1, h2⟩
    · have np : p ∉ G2 := fun z => by
        obtain ⟨o, h1, _⟩ := (E1.fr p (List.mem_append_right _ (List.mem_append_left _ (List.mem_append_right _ z)))).2
        rw [hp] at h1
        cases h1
      refine ⟨p, v1, v2, rfl, n p _ (.inl hp) np upd_same, fA _ k1 s' (fun a ha o e => n a o (.inr (List.mem_append_left _ ha)) (fun z => p3 a ha a z rfl) (sH _ _ e)), Py.own_st s' (fun a ha o e => sH _ _ e) k2⟩) fun _ _ z => z⟩
theorem p2_of {m : Md} {x : Pr α β} {P H : Hp} {F : List Addr} {u v : V} {p : Addr} (pp : Part P H) (g : Same c.G H) (q : (asn c.X.K c.G m x).p P H F (.ref p)) (hp : P p = some (.tup [u, v])) : Py.rep c.X.K H v x.b := by
  obtain ⟨a, v1, v2, e, h, r1, r2⟩ := asn_rep pp.le g q
  cases e
  rw [pp.le _ _ hp] at h
  cases h
  exact r2
theorem rdP {m : Md} {x : Pr α β} (i : Nat) (h : ts[i]? = some (some (asn c.X.K c.G m x))) : Rd c ts (.p2 i) x.b := fun pp g E h' => by
  obtain ⟨v, Fi, e, q⟩ := E.get h
  obtain ⟨_, a, u, e', hp⟩ := h'
  rw [e] at e'
  cases e'
  exact p2_of pp g q hp
/-- the pair's second part -/
theorem je_p2 {m : Md} {x : Pr α β} {n : Str} {p1 pos' : Pos} {k : Nat} (i : Nat) (hm : m = .val ∨ m = .own) (h : ts[i]? = some (some (asn c.X.K c.G m x))) (hp : PE c.X (.Name n p1) (tVar i)) (hs : PlainIx (.Constant (.int 1) k pos') := by intro _ _; rfl) :
    JE c ts (.Subscript (.Name n p1) (.Constant (.int 1) k pos') pos) (.ok ()) (fun _ : Unit => .p2 i) :=
  PE.imp (pe_ix ix_tup hp pe_int hs) fun σ H Q ⟨us, vs, E, q⟩ => by
    obtain ⟨F1, F2, E0⟩ := id E
    obtain ⟨w, Fi, e, qA⟩ := E0.sl.get h
    have key : ∃ a v1 v2, w = .ref a ∧ hide (c.Of ++ (F1 ++ F2)) H a = some (.tup [v1, v2]) := by
      rcases hm with z | z
      · subst z
        obtain ⟨_, a, v1, v2, e, h, _⟩ := qA
        exact ⟨a, v1, v2, e, h⟩
      · subst z
        obtain ⟨a, v1, v2, e, h, _⟩ := qA
        exact ⟨a, v1, v2, e, h⟩
    obtain ⟨p, v1, v2, ew, hp⟩ := key
    subst ew
    refine ⟨_, e, p, _, 1, v2, rfl, rfl, SqT.of (hide_le _ _ hp), rfl, q v2 H ?_⟩
    exact ⟨F1, [] ++ F2, E0.top (es := []) (ws := []) (FB := []) E0.sk (Same.refl _) (fun _ z => (nomatch z)) List.nodup_nil (fun _ z => (nomatch z)) fun P' s' _ _ => ⟨rfl, p, v1, e, s' _ _ hp⟩⟩
theorem p2_step {x : β} {i : Nat} {v : V} {f : α → Out β} {y : α} (hx : f y = .ok x) (E : Env c ts (.p2 i :: us) σ (v :: vs) H) : Env c ts (cndE (f y = .ok x) (.p2 i) :: us) σ (v :: vs) H := by
  rw [cndE_pos hx]
  exact E
theorem wp_ok {m : Out α} {Q : α → Prop} {E : Err → Prop} (h : m.wp Q E) (hb : m = .bad ∨ ∃ y, m = .ok y) : ∃ y, m = .ok y ∧ Q y := by
  rcases hb with e | ⟨y, e⟩
  · rw [e] at h
    exact h.elim
  · rw [e] at h
    exact ⟨y, e, h⟩
/-- the second part, as a value of another type: an entry that is read -/
theorem je_p2A {m : Md} {x : Pr α β} {f : β → Out γ} {n : Str} {p1 pos' : Pos} {k : Nat} (i : Nat) (hm : m = .val ∨ m = .own) (h : ts[i]? = some (some (asn c.X.K c.G m x))) (hb : f x.b = .bad ∨ ∃ y, f x.b = .ok y) (hp : PE c.X (.Name n p1) (tVar i)) (hs : PlainIx (.Constant (.int 1) k pos') := by intro _ _; rfl) :
    JE c ts (.Subscript (.Name n p1) (.Constant (.int 1) k pos') pos) (f x.b) (fun y => cndE (f x.b = .ok y) (.p2 i)) :=
  PE.imp (je_p2 i hm h hp hs) fun σ H Q ⟨us, vs, E, q⟩ => by
    obtain ⟨y, e, q⟩ := wp_ok q hb
    exact ⟨us, vs, E, fun v H' E' => q v H' (p2_step e E')⟩
theorem rdPA {m : Md} {x : Pr α β} {f : β → Out γ} (i : Nat) (h : ts[i]? = some (some (asn c.X.K c.G m x))) (hf : ∀ y, f x.b = .ok y → ∀ {K : PySem.W.Frag} {H : Hp} {v : V}, Py.rep K H v x.b → Py.rep K H v y) : ∀ y, Rd c ts (cndE (f x.b = .ok y) (.p2 i)) y := fun y => rdCnd fun e {P H σ F F1 v} pp g E k => hf y e (rdP i h pp g E k)
/-- .. a value without heap -/
theorem je_p2S [PyS γ] {m : Md} {x : Pr α β} {f : β → Out γ} {n : Str} {p1 pos' : Pos} {k : Nat} (i : Nat) (hm : m = .val ∨ m = .own) (h : ts[i]? = some (some (asn c.X.K c.G m x))) (hb : f x.b = .bad ∨ ∃ y, f x.b = .ok y) (hf : ∀ y, f x.b = .ok y → ∀ {K : PySem.W.Frag} {H : Hp} {v : V}, Py.rep K H v x.b → Py.rep K H v y)
    (hp : PE c.X (.Name n p1) (tVar i)) (hs : PlainIx (.Constant (.int 1) k pos') := by intro _ _; rfl) : JE c ts (.Subscript (.Name n p1) (.Constant (.int 1) k pos') pos) (f x.b) (Vl c) :=
  PE.imp (je_p2 i hm h hp hs) fun σ H Q ⟨us, vs, E, q⟩ => by
    obtain ⟨y, e, q⟩ := wp_ok q hb
    refine ⟨us, vs, E, fun v H' E' => q v H' ?_⟩
    have r : Py.rep c.X.K H' v x.b := by
      obtain ⟨F1, F2, E0⟩ := E'
      obtain ⟨G1, G2, e, h1, _⟩ := E0.sk
      exact rdP i h E0.part E0.g E0.sl h1
    exact Env.pushS (es := [_]) (ws := [_]) (K := c.X.K) (H0 := H') E' rfl (hf y e r)
theorem toI_b (x : Un) : x.toI = .bad ∨ ∃ y, x.toI = .ok y := by cases x <;> first | exact .inl rfl | exact .inr ⟨_, rfl⟩
theorem toB_b (x : Un) : x.toB = .bad ∨ ∃ y, x.toB = .ok y := by cases x <;> first | exact .inl rfl | exact .inr ⟨_, rfl⟩
theorem toL_b (x : Un) : x.toL = .bad ∨ ∃ y, x.toL = .ok y := by cases x <;> first | exact .inl rfl | exact .inr ⟨_, rfl⟩
theorem toI_r {x : Un} (y : Int) (h : x.toI = .ok y) {K : PySem.W.Frag} {H : Hp} {v : V} (r : Py.rep K H v x) : Py.rep K H v y := by cases x <;> cases h; exact r
theorem toB_r {x : Un} (y : Bool) (h : x.toB = .ok y) {K : PySem.W.Frag} {H : Hp} {v : V} (r : Py.rep K H v x) : Py.rep K H v y := by cases x <;> cases h; exact r
theorem toL_r {x : Un} (y : List Int) (h : x.toL = .ok y) {K : PySem.W.Frag} {H : Hp} {v : V} (r : Py.rep K H v x) : Py.rep K H v y := by cases x <;> cases h; exact r
/-- the pair's first part -/
theorem je_p1 [PyS α] {m : Md} {x : Pr α β} {n : Str} {p1 pos' : Pos} {k : Nat} (i : Nat) (h : ts[i]? = some (some (asn c.X.K c.G m x))) (hp : PE c.X (.Name n p1) (tVar i)) (hs : PlainIx (.Constant (.int 0) k pos') := by intro _ _; rfl) :
    JE c ts (.Subscript (.Name n p1) (.Constant (.int 0) k pos') pos) (.ok x.a) (Vl c) :=
  PE.imp (pe_ix ix_tup hp pe_int hs) fun σ H Q ⟨us, vs, E, q⟩ => by
    obtain ⟨w, P, F, F1, e, pp, el, qA⟩ := E.slot h
    obtain ⟨a, v1, v2, ew, hp, r1, r2⟩ := asn_rep pp.le E.ground qA
    subst ew
    exact ⟨_, e, a, _, 0, v1, rfl, rfl, SqT.of hp, rfl, q v1 H (Env.pushS (es := []) (ws := []) (K := c.X.K) (H0 := H) E rfl r1)⟩
/-- x[1].append(e), the pair's second part an owned list -/
theorem js_appP {x : Pr α Un} {n : Str} {p1 p2 p3 p4 pos' : Pos} {kk : Nat} {m : Out Int} {k : Pr α Un → Out ω} (i : Nat) (h : ts[i]? = some (some (asn c.X.K c.G .own x))) (hn : PE c.X (.Name n p1) (tVar i)) (he : JE c ts e m (Vl c))
    (hp : ∀ {to : TE} {t : TA}, PE c.X (.Subscript (.Name n p1) (.Constant (.int 1) kk p3) p4) to → PA c.X [e] t → PE c.X (.Call (.Attribute (.Subscript (.Name n p1) (.Constant (.int 1) kk p3) p4) "append" p2) [e] [] pos') (tBM c.X.K "list" rAppend to t)) (hk : ∀ x', JS c (ts.set i (some (asn c.X.K c.G .own x'))) rest (k x') post)
    (hs : swapsWith (.Call (.Attribute (.Subscript (.Name n p1) (.Constant (.int 1) kk p3) p4) "append" p2) [e] [] pos') none pos.line c.X.env = pure false := by rfl) (hst : starEach [e] c.X.env = (false, eval e c.X.env) :: starEach [] c.X.env := by rfl) (hs2 : PlainIx (.Constant (.int 1) kk p3) := by intro _ _; rfl) :
    JS c ts (.Expr (.Call (.Attribute (.Subscript (.Name n p1) (.Constant (.int 1) kk p3) p4) "append" p2) [e] [] pos') pos :: rest) (x.b.toL.bind fun xs => m.bind fun y => (appL xs y).bind fun xs' => k ⟨x.a, .l xs'⟩) post :=
  PSs.imp (pss_cons (ps_expr (hp (je_p2 i (.inr rfl) h hn hs2) (pa_cons he pa_nil hst)) hs) (PSs.ex hk)) fun D σ H ⟨us, vs, E, q⟩ => by
    obtain ⟨x1, x2⟩ := x
    obtain ⟨xs, e1, q⟩ := wp_ok (Out.wp_bind q) (toL_b x2)
    cases x2 with
    | l xs2 =>
      cases e1
      refine ⟨us.map .as, vs, E, fun v H1 E1 => ⟨?_, ?_⟩⟩
      · obtain ⟨F1, F2, E0⟩ := id E1
        obtain ⟨G1, G2, e, h1, _⟩ := E0.sk
        obtain ⟨l, zs, ev, hl, _⟩ := rdP i h E0.part E0.g E0.sl h1
        subst ev
        exact .inl ⟨rfl, _, SqL.of hl⟩
      · refine ⟨_, _, E1, Out.wp_mono (Out.wp_bind q) (fun y _ q w H2 E2 => ?_) fun _ _ z d H' h1 h2 => z σ d H' h1 (EnvX.pop (es := [.p2 i]) (ws := [v]) h2 rfl)⟩
        obtain ⟨hlen, q⟩ := wp_chk (Out.wp_bind (m := appL xs y) q)
        obtain ⟨u, l, P, F1, FB, e0, qA, pp, sl, sk, put⟩ := Env.mutG (es := [Vl c y, .p2 i]) (ws := [w, v]) (ues := us.map .as) E2 rfl h fun {P H F v} q => by
          obtain ⟨_, _, _, _, _, _, l, _, _, eF, _⟩ := q
          exact ⟨l, eF⟩
        obtain ⟨a, v1, v2, eu, hP, r1, l', zs, ev2, eF, hH, rz⟩ := qA
        cases eF
        obtain ⟨G1, G2, eG, k1, k2⟩ := StkL.two sk
        obtain ⟨_, a', u', e1', hP'⟩ := k2
        rw [e0, eu] at e1'
        cases e1'
        rw [hP] at hP'
        cases hP'
        subst ev2
        have ew : w = .int y := k1.2
        subst ew
        refine ⟨l, zs, .int y, rfl, rfl, hH, by rw [Pd.len rz, sizeLine_eq]; exact hlen, _, us, vs, put _ (asn c.X.K c.G .own (Pr.mk x1 (Un.l (xs ++ [y])))) rfl fun P' s' f => ?_, q⟩
        exact ⟨a, v1, .ref l, eu, s' _ _ hP, Py.mono s' r1, l, zs ++ [.int y], rfl, rfl, upd_same, Pd.append (Reps.mono s' rz) (.cons rfl .nil)⟩
    | i _ => cases e1
    | b _ => cases e1
    | s _ => cases e1
    | non => cases e1
/-- max(a, b), min(a, b) -/
theorem je_max2 {m1 m2 : Out Int} {p : Pos} (hc : c.X.calm = true) (hm : c.X.mg "max" = none) (ha : JE c ts a m1 (Vl c)) (hb : JE c ts b m2 (Vl c)) (hg : Gl c.X "max" := by rfl) (h1 : starEach [a, b] c.X.env = (false, eval a c.X.env) :: starEach [b] c.X.env := by rfl) (h2 : starEach [b] c.X.env = (false, eval b c.X.env) :: starEach [] c.X.env := by rfl)
    (hpl : (backTo pos (starEach [b] c.X.env)).any (·.1) = false := by rfl) : JE c ts (.Call (.Name "max" p) [a, b] [] pos) (m1.bind fun i => m2.bind fun j => .ok (if j > i then j else i)) (Vl c) :=
  je_two (t := fun ta tb => fun σ H Q => ta σ H fun x H1 => tb σ H1 fun y H2 => ∃ i j, [x, y] = [.int i, .int j] ∧ Q (.int (if j > i then j else i)) H2) (r := fun x y H Q => ∃ i j, [x, y] = [.int i, .int j] ∧ Q (.int (if j > i then j else i)) H)
    (fun k1 k2 => pe_callB (call_max2 hc) hg hm (by decide +kernel) (pa_cons k1 (pa_cons k2 pa_nil h2) h1) (by decide) (by decide) h1 hpl) ha hb (fun h => h) fun {us σ vs H2 i j x y Q} E q => by
    obtain ⟨e1, e2⟩ := E.ints
    subst e1 e2
    exact ⟨i, j, rfl, q _ H2 (Env.pushS (es := [_, _]) (ws := [_, _]) (K := c.X.K) (H0 := H2) E rfl rfl)⟩
theorem je_min2 {m1 m2 : Out Int} {p : Pos} (hc : c.X.calm = true) (hm : c.X.mg "min" = none) (ha : JE c ts a m1 (Vl c)) (hb : JE c ts b m2 (Vl c)) (hg : Gl c.X "min" := by rfl) (h1 : starEach [a, b] c.X.env = (false, eval a c.X.env) :: starEach [b] c.X.env := by rfl) (h2 : starEach [b] c.X.env = (false, eval b c.X.env) :: starEach [] c.X.env := by rfl)
    (hpl : (backTo pos (starEach [b] c.X.env)).any (·.1) = false := by rfl) : JE c ts (.Call (.Name "min" p) [a, b] [] pos) (m1.bind fun i => m2.bind fun j => .ok (if j < i then j else i)) (Vl c) :=
  je_two (t := fun ta tb => fun σ H Q => ta σ H fun x H1 => tb σ H1 fun y H2 => ∃ i j, [x, y] = [.int i, .int j] ∧ Q (.int (if j < i then j else i)) H2) (r := fun x y H Q => ∃ i j, [x, y] = [.int i, .int j] ∧ Q (.int (if j < i then j else i)) H)
    (fun k1 k2 => pe_callB (call_min2 hc) hg hm (by decide +kernel) (pa_cons k1 (pa_cons k2 pa_nil h2) h1) (by decide) (by decide) h1 hpl) ha hb (fun h => h) fun {us σ vs H2 i j x y Q} E q => by
    obtain ⟨e1, e2⟩ := E.ints
    subst e1 e2
    exact ⟨i, j, rfl, q _ H2 (Env.pushS (es := [_, _]) (ws := [_, _]) (K := c.X.K) (H0 := H2) E rfl rfl)⟩
end
end Mw
set_option maxRecDepth 100000
set_option maxHeartbeats 4000000
namespace Mw
open PySem PySem.Spec PyProof.Rows L2
section
variable {c : Cw} {ts : List (Option Asn)} {us es ues : List Ent} {σ : Sl} {vs ws : List V} {H H' : Hp} {α β γ ω S ρ : Type} [Py α] [Py β] [Py γ] {a b e tg iter elt : Expr} {st rest body : List Stmt} {pos : Pos} {post : ω → Exit}
/-- sum(xs), ints -/
theorem je_sum {mx : Out (List Int)} {A : List Int → Ent} {p : Pos} (hc : c.X.calm = true) (hm : c.X.mg "sum" = none) (rx : ∀ xs, Rd c ts (A xs) xs) (ha : JE c ts a mx A) (hg : Gl c.X "sum" := by rfl) (he : starEach [a] c.X.env = (false, eval a c.X.env) :: starEach [] c.X.env := by rfl) (hpl : (backTo pos (starEach [] c.X.env)).any (·.1) = false := by rfl) :
    JE c ts (.Call (.Name "sum" p) [a] [] pos) (mx.bind fun xs => .ok xs.sum) (Vl c) :=
  je_one1 (t := fun ta => fun σ H Q => ta σ H fun y H1 => rSum c.X.K [y] H1 Q) (r := fun y H1 Q => rSum c.X.K [y] H1 Q)
    (fun h => call1 (cr_sum hc) hg hm (by decide +kernel) (by decide) (by decide) he hpl h) ha (fun h => h) fun {us σ vs H2 xs x Q} E q => by
    obtain ⟨p, zs, ex, hp, rp⟩ := E.rd1 (rx xs)
    subst ex
    have ez := Pd.map_ints rp
    subst ez
    exact ⟨p, xs, rfl, SqL.of hp, q _ H2 (Env.pushS (es := [_]) (ws := [_]) (K := c.X.K) (H0 := H2) E rfl rfl)⟩
/-- a pair that stays -/
theorem je_prV {es : List Expr} {m : Out (α × β × Unit)} {As : α × β × Unit → List Ent} {A : α → Ent} {B : β → Ent} {k : Nat} (ha : JA c ts es m As) (hAs : ∀ p, As p = [A p.1, B p.2.1]) (fA : ∀ x, Fz c (A x) x) (fB : ∀ x, Fz c (B x) x) :
    JE c ts (.Tuple es k pos) (m.bind fun x => .ok (Pr.mk x.1 x.2.1)) (Vl c) :=
  je_tup ha (fun x => Pr.mk x.1 x.2.1) (fun x {P P' H σ F ws p} h s f hp => by
    rw [hAs] at h
    obtain ⟨v1, v2, F1, F2, e, eF, h1, h2⟩ := stk2 h
    subst e eF
    exact ⟨p, v1, v2, rfl, hp, fA _ h1 s fun a ha => f a (List.mem_append_left _ ha), fB _ h2 s fun a ha => f a (List.mem_append_right _ ha)⟩) fun x => by
    rw [hAs]
    exact Nat.le_of_ble_eq_true rfl
/-- an int or None -/
theorem je_some {m : Out Int} (h : JE c ts e m (Vl c)) : JE c ts e (m.bind fun x => .ok (some x)) (Vl c) := je_mp (fun x y e => by
  cases e
  intro P H F v h
  refine ⟨h.1, h.2, ?_⟩
  rw [show v = .int x from h.2]
  exact fun z => by cases z) (fun x => .inr ⟨_, rfl⟩) h
def Un.ofO : Option Int → Un
  | none => .non
  | some x => .i x
theorem je_upN {m : Out (Option Int)} (h : JE c ts e m (Vl c)) : JE c ts e (m.bind fun x => .ok (Un.ofO x)) (Vl c) := je_mp (fun x y e => by
  cases e
  intro P H F v h
  refine ⟨h.1, ?_⟩
  cases x with
  | none => exact h.2
  | some x => exact h.2.1) (fun x => .inr ⟨_, rfl⟩) h
theorem je_upNO {m : Out (Option Int)} (h : JE c ts e m (Vl c)) : JE c ts e (m.bind fun x => .ok (Un.ofO x)) (Ow c) := je_mp (fun x y e => by
  cases e
  intro P H F v h
  cases x with
  | none => exact ⟨h.1, h.2⟩
  | some x => exact ⟨h.1, h.2.1⟩) (fun x => .inr ⟨_, rfl⟩) h
/-- xs[::-1] -/
theorem je_rev {mx : Out (List α)} {A : List α → Ent} {k : Nat} {p1 p2 p3 : Pos} (rA : ∀ xs, RdE c ts (A xs) xs) (ha : JE c ts a mx A) : JE c ts (.Subscript a (.Slice none none (some (.UnaryOp .USub (.Constant (.int 1) k p1) p2)) p3) pos) (mx.bind fun xs => .ok xs.reverse) (Ow c) :=
  je_one1 (t := tRevL c.X.K) (r := fun x H1 Q => ∃ a xs, x = .ref a ∧ SqL c.X.K H1 a xs ∧ ∀ p, H1 p = none → Q (.ref p) (upd H1 p (.lst xs.reverse))) (fun h => pe_revL h) ha (fun h => h) fun {us σ vs H2 xs x Q} E q => by
    obtain ⟨F1, FB, F2, E, k, h2⟩ := Env.open (es := [_]) (ws := [_]) E rfl
    obtain ⟨p, zs, ex, hp, rp⟩ := rA xs E.part E.g E.sl (StkL.one k)
    exact ⟨p, zs, ex, SqL.of hp, fun n hn => q _ _ (E.pushN h2 hn fun P' s' _ => Pd.reverse (rp.mono s'))⟩
end
end Mw
set_option maxRecDepth 100000
set_option maxHeartbeats 4000000
namespace Mw
open PySem PySem.Spec PyProof.Rows L2

/-! ### the end -/
theorem kit_ref {K : PySem.W.Frag} {D C : Addr} {b : Bool} (h0 : PySem.W.subIn K (.ref D) (.ref D) = some true) (h1 : PySem.W.hasDictIn K C = true) (h2 : PySem.W.typeIn K (.ref C) = some (.type "type")) (h4 : PySem.W.subIn K (.ref D) (.ref C) = some b) : PySem.W.kitOne K (.ref D) (.ref C) = some b := by
  unfold PySem.W.kitOne
  by_cases e : D = C
  · subst e
    rw [h0] at h4
    rw [if_pos (by simp)]
    exact h4
  · rw [if_neg (by simpa using e)]
    obtain ⟨cd, hc, _⟩ := PySem.W.any_some h1
    have e2 : ((PySem.W.clsIn K C).isSome && PySem.W.typeIn K (.ref C) == some (.type "type")) = true := by rw [hc, h2] <;> rfl
    show (if ((PySem.W.clsIn K C).isSome && PySem.W.typeIn K (.ref C) == some (.type "type")) = true then PySem.W.subIn K (.ref D) (.ref C) else none) = some b
    rw [if_pos e2]
    exact h4
theorem kit_ve {K : PySem.W.Frag} {D : Addr} {b : Bool} {T : String} (hT : PySem.W.kitMeta T = true) (h4 : PySem.W.subIn K (.ref D) (.type T) = some b) : PySem.W.kitOne K (.ref D) (.type T) = some b := by
  unfold PySem.W.kitOne
  rw [if_neg (fun z => by cases beq_iff_eq.mp z)]
  show (if PySem.W.kitMeta T = true then PySem.W.subIn K (.ref D) (.type T) else none) = some b
  rw [if_pos hT]
  exact h4
/-- what the text says of an own error class with one field -/
structure ErrTxt (K : PySem.W.Frag) (C CP fI : Addr) (f : Str) : Prop where
  cls : ∃ nm q N bs sn sub ab col dd k0 k1 k2 k3 k5, K.lookup C = some (excClassObj nm q C N bs [.ref CP, .type "ValueError", .type "Exception", .type "BaseException", .type "object"] true sn sub ab col dd k0 k1 k2 k3 k5 "ValueError.__new__")
  sa : PySem.W.findIn K (.ref C) "__setattr__" = some (some (.builtin "object.__setattr__"))
  ga : PySem.W.findIn K (.ref C) "__getattribute__" = some (some (.builtin "BaseException.__getattribute__"))
  gg : PySem.W.findIn K (.ref C) "__getattr__" = some none
  hc : PySem.W.findIn K (.ref C) "__class__" = some (some (.builtin "object.__class__"))
  no : PySem.W.findIn K (.ref C) f = some none
  iC : PySem.W.findIn K (.ref C) "__init__" = some (some (.ref fI))
  tI : PySem.W.typeIn K (.ref fI) = some (.type "function")
  kC : PySem.W.keepIn K (.ref C) = true
  exC : PySem.W.subIn K (.ref C) (.type "BaseException") = some true
  veC : PySem.W.subIn K (.ref C) (.type "ValueError") = some true
  tyC : PySem.W.typeIn K (.ref C) = some (.type "type")
  hdC : PySem.W.hasDictIn K C = true
  mro : PySem.W.mroIn K C (.type "object") = some true
  sub : PySem.W.subIn K (.ref C) (.ref C) = some true
  par : PySem.W.subIn K (.ref C) (.ref CP) = some true
section
variable {K : PySem.W.Frag} {C CP fI : Addr} {f : Str}
theorem ErrTxt.oex (T : ErrTxt K C CP fI f) : OexC K C := by
  obtain ⟨nm, q, N, bs, sn, sub, ab, col, dd, k0, k1, k2, k3, k5, h⟩ := T.cls
  exact ⟨⟨nm, q, N, bs, _, sn, sub, ab, col, dd, k0, k1, k2, k3, k5, h, rfl⟩, T.sa, T.exC, T.tyC, T.kC⟩
theorem ErrTxt.xc (T : ErrTxt K C CP fI f) (hn : PySem.W.specialIn K (.builtin "object.__class__") "__get__" = some (some (.builtin "getset_descriptor.__get__"))) (ht : PySem.W.takesIn K (.builtin "object.__class__") = some true) : ExcC K C := ⟨T.ga, T.gg, T.exC, T.hdC, T.hc, hn, ht, T.mro⟩
theorem ErrTxt.xf (T : ErrTxt K C CP fI f) : XfC K C := ⟨T.ga, T.gg, T.exC, T.hdC⟩
end
/-- the promise of a law -/
abbrev spL (K : PySem.W.Frag) (eg : EK → Addr) (m : Scr → Out Bool) : Sp := spM K eg .val (fun y : Scr × Unit => m y.1) (fun y => [aV K y.1])
/-- .. told without the errors -/
def spT (K : PySem.W.Frag) : Sp := fun vs H Q _ => ∃ (a : Addr) (ns : List Int), vs = [.ref a] ∧ ns.length ≤ 63 ∧ SqL K H a (ns.map V.int) ∧ ∀ H', Q (.bl true) H'
theorem spL_of {K : PySem.W.Frag} {eg : EK → Addr} {m : Scr → Out Bool} (hm : ∀ ns : List Int, ns.length ≤ 63 → m ⟨ns⟩ = .ok true) (vs : List V) (H : Hp) (Q : VK) (E : XK) (h : spT K vs H Q E) : spL K eg m vs H Q E := by
  obtain ⟨a, ns, rfl, hl, hS, q⟩ := h
  refine ⟨(⟨ns⟩, ()), [], fun _ h => (nomatch h), .cons ?_ .nil, ?_⟩
  · rw [hide_nil]
    exact ⟨a, rfl, hS⟩
  · show (m ⟨ns⟩).wp _ _
    rw [hm ns hl]
    intro v H' _ r
    obtain ⟨F, _, _, _, _, h⟩ := r
    rw [show v = .bl true from h]
    exact q H'
theorem noCX {P : Program} {w : World} {H : Hp} {s : Shared} {e : Value} {s' : Shared} (h : L2.CX P w [] H s (fun _ _ _ => False) e s') : False := by
  obtain ⟨_, _, _, _, _, _, _, _, _, _, _, _, z⟩ := h
  exact z.elim
/-- as L2.walk_of, the errors' addresses told by the text -/
theorem walk_ex {l : PySem.W.OpenLaw} {k : Nat} {q : Program} {loose : List Str} {XP : (Str → Option Value) → Heap → Prop} {YP : World → Heap → Prop} {d : DefRec} {K : Params → PySem.W.Frag} {m : Scr → Out Bool} (hn : l.most = some 63) (hdf : d.params.defaults = []) (hr : Room k callerA)
    (hY : ∀ (w : World) (h : Heap), YP w h → (K w.params).In h)
    (F : ∀ (w : World) (mg : Str → Option Value) (fa : Addr) (h : Heap), (K w.params).In h → h.Ns mainGlobals mg → mg d.name = some (.ref fa) →
      ∃ eg : EK → Addr, ∃ fd : FuncData, (∀ (s : Shared) (u : Value), BindsTo s fd ⟨[u], []⟩ [("script", u)]) ∧
        ∀ base : Heap, (K w.params).In base → base.Ns mainGlobals mg → FnOk l.prog w (K w.params) mg base (L2.CX l.prog w) k fa fd ["script"] (spL (K w.params) eg m))
    (hm : ∀ ns : List Int, ns.length ≤ 63 → m ⟨ns⟩ = .ok true) : PySem.W.WalkO q loose XP YP l.row.toRowW d [] (fun f vs => PySem.call f vs) :=
  L2.walk_of (n := 63) (k := k) (x := "script") (CX := fun w => L2.CX l.prog w) (sp := fun w => spT (K w.params)) hn (by decide) hdf hr hY (fun w mg fa h h1 h2 h3 => by
    obtain ⟨eg, fd, hb, hf⟩ := F w mg fa h h1 h2 h3
    exact ⟨fd, hb, fun base b1 b2 => (hf base b1 b2).imp (spL_of hm)⟩)
    (fun w H a ns hl _ hS => ⟨a, ns, rfl, hl, hS, fun _ => rfl⟩) fun w H s e s' z => noCX z
end Mw
set_option maxRecDepth 100000
set_option maxHeartbeats 4000000
namespace Mw
open PySem PySem.Spec PyProof.Rows L2

/-! ### plain laws of the mirrors' words -/
section
variable {α β γ S ω : Type}
/-! not by rfl: the kernel is not to compute -/
theorem bnd_ok (a : α) (f : α → Out β) : (Out.ok a).bind f = f a := by
  have h : ∀ m : Out α, m = .ok a → m.bind f = f a := by
    intro m e
    subst e
    rfl
  exact h _ rfl
theorem bnd_err (e : Err) (f : α → Out β) : (Out.err e : Out α).bind f = .err e := by
  have h : ∀ m : Out α, m = .err e → m.bind f = .err e := by
    intro m e'
    subst e'
    rfl
  exact h _ rfl
theorem go_fin {k : S → Out ω} (s : S) : Aft.go k (.fin s) = k s := by
  have h : ∀ m : Aft S ω, m = .fin s → Aft.go k m = k s := by
    intro m e
    subst e
    rfl
  exact h _ rfl
theorem go_out {k : S → Out ω} (w : ω) : Aft.go k (.out w : Aft S ω) = .ok w := by
  have h : ∀ m : Aft S ω, m = .out w → Aft.go k m = .ok w := by
    intro m e
    subst e
    rfl
  exact h _ rfl
theorem len1 {x : α} : [x].length = 1 := by
  have h : ∀ l : List α, l = [x] → l.length = 1 := by
    intro l e
    subst e
    rfl
  exact h _ rfl
theorem forL_nil {f : α → S → Out (Ctl S ω)} {s : S} : forL f [] s = .ok (.fin s) := rfl
theorem forL_cons {f : α → S → Out (Ctl S ω)} {x : α} {xs : List α} {s : S} : forL f (x :: xs) s = (f x s).bind fun z => match z with
    | .nxt s' => forL f xs s'
    | .brk s' => .ok (.fin s')
    | .out w => .ok (.out w) := rfl
theorem forL_nxt {f : α → S → Out (Ctl S ω)} {x : α} {xs : List α} {s s' : S} (h : f x s = .ok (.nxt s')) : forL f (x :: xs) s = forL f xs s' := by
  rw [forL_cons, h]
  rfl
theorem forL_out {f : α → S → Out (Ctl S ω)} {x : α} {xs : List α} {s : S} {w : ω} (h : f x s = .ok (.out w)) : forL f (x :: xs) s = .ok (.out w) := by
  rw [forL_cons, h]
  rfl
theorem forL_brk {f : α → S → Out (Ctl S ω)} {x : α} {xs : List α} {s s' : S} (h : f x s = .ok (.brk s')) : forL f (x :: xs) s = .ok (.fin s') := by
  rw [forL_cons, h]
  rfl
theorem forL_err {f : α → S → Out (Ctl S ω)} {x : α} {xs : List α} {s : S} {e : Err} (h : f x s = .err e) : forL f (x :: xs) s = .err e := by
  rw [forL_cons, h]
  rfl
/-- every turn goes on: the state is st -/
theorem forL_run {f : α → S → Out (Ctl S ω)} : ∀ {xs : List α} (st : Nat → S), (∀ i x, xs[i]? = some x → f x (st i) = .ok (.nxt (st (i + 1)))) → forL f xs (st 0) = .ok (.fin (st xs.length))
  | [], _, _ => rfl
  | x :: xs, st, h => by
    rw [forL_nxt (h 0 x rfl)]
    exact forL_run (fun i => st (i + 1)) fun i y hy => h (i + 1) y (by simpa using hy)
/-- turn n leaves -/
theorem forL_stop {f : α → S → Out (Ctl S ω)} {w : ω} : ∀ {xs : List α} (st : Nat → S) {n : Nat} {x : α}, xs[n]? = some x → (∀ i y, i < n → xs[i]? = some y → f y (st i) = .ok (.nxt (st (i + 1)))) → f x (st n) = .ok (.out w) → forL f xs (st 0) = .ok (.out w)
  | [], _, _, _, e, _, _ => by simp at e
  | x :: xs, st, 0, y, e, _, r => by
    have e' : x = y := by simpa using e
    subst e'
    exact forL_out r
  | x :: xs, st, n + 1, y, e, h, r => by
    rw [forL_nxt (h 0 x (Nat.succ_pos _) rfl)]
    exact forL_stop (fun i => st (i + 1)) (by simpa using e) (fun i z hi hz => h (i + 1) z (Nat.succ_lt_succ hi) (by simpa using hz)) r
theorem forL_stopE {f : α → S → Out (Ctl S ω)} {w : Err} : ∀ {xs : List α} (st : Nat → S) {n : Nat} {x : α}, xs[n]? = some x → (∀ i y, i < n → xs[i]? = some y → f y (st i) = .ok (.nxt (st (i + 1)))) → f x (st n) = .err w → forL f xs (st 0) = .err w
  | [], _, _, _, e, _, _ => by simp at e
  | x :: xs, st, 0, y, e, _, r => by
    have e' : x = y := by simpa using e
    subst e'
    exact forL_err r
  | x :: xs, st, n + 1, y, e, h, r => by
    rw [forL_nxt (h 0 x (Nat.succ_pos _) rfl)]
    exact forL_stopE (fun i => st (i + 1)) (by simpa using e) (fun i z hi hz => h (i + 1) z (Nat.succ_lt_succ hi) (by simpa using hz)) r
/-- every turn keeps I -/
theorem forL_inv {f : α → S → Out (Ctl S ω)} : ∀ {xs : List α} (I : Nat → S → Prop) {s : S}, I 0 s → (∀ i x s, xs[i]? = some x → I i s → ∃ s', f x s = .ok (.nxt s') ∧ I (i + 1) s') → ∃ s', forL f xs s = .ok (.fin s') ∧ I xs.length s'
  | [], I, s, h0, _ => ⟨s, rfl, h0⟩
  | x :: xs, I, s, h0, h => by
    obtain ⟨s1, e1, h1⟩ := h 0 x s rfl h0
    obtain ⟨s2, e2, h2⟩ := forL_inv (fun i => I (i + 1)) h1 fun i y s hy hi => h (i + 1) y s (by simpa using hy) hi
    exact ⟨s2, by rw [forL_nxt e1]; exact e2, h2⟩
theorem rangeI_len' {lo : Int} {n : Nat} : (rangeI lo n).length = n := rangeI_len
theorem rangeI_at {lo : Int} {n i : Nat} (h : i < n) : (rangeI lo n)[i]? = some (lo + i) := by
  unfold rangeI
  simp [h]
theorem rangeI_succ {lo : Int} {n : Nat} : rangeI lo (n + 1) = lo :: rangeI (lo + 1) n := by
  unfold rangeI
  rw [List.range_succ_eq_map, List.map_cons, List.map_map]
  congr 1
  · simp
  · apply List.map_congr_left
    intro i _
    simp only [Function.comp]
    omega
theorem rangeI_zero {lo : Int} : rangeI lo 0 = [] := rfl
theorem enumI_at {xs : List α} {k i : Nat} {x : α} (h : xs[i]? = some x) : (enumI k xs)[i]? = some (((k + i : Nat) : Int), x) := by
  induction xs generalizing k i with
  | nil => simp at h
  | cons y ys ih =>
    cases i with
    | zero =>
      simp at h
      subst h
      simp [enumI]
    | succ i =>
      simp [enumI]
      rw [ih (k := k + 1) (by simpa using h)]
      congr 2
      omega
theorem rngOk_of {n : Int} (h1 : 0 ≤ n) (h2 : n < 4611686018427387904) : rngOk n := by
  unfold rngOk
  omega
theorem item_at {xs : List α} {i : Nat} {x : α} (h : xs[i]? = some x) : item xs (i : Int) = .ok x := by
  have hi : i < xs.length := by
    obtain ⟨h1, _⟩ := List.getElem?_eq_some_iff.mp h
    exact h1
  have e : atI xs (i : Int) = some x := by
    unfold atI ixN
    rw [if_pos (by omega), if_pos (by omega)]
    simpa using h
  unfold item
  rw [e]
theorem item_get {xs : List α} {i : Int} (h0 : 0 ≤ i) (h1 : i < xs.length) : ∃ x, item xs i = .ok x ∧ x ∈ xs ∧ xs[i.toNat]? = some x := by
  have hi : i.toNat < xs.length := by omega
  refine ⟨xs[i.toNat], ?_, List.getElem_mem hi, List.getElem?_eq_getElem hi⟩
  have e := item_at (xs := xs) (List.getElem?_eq_getElem hi)
  rw [Int.toNat_of_nonneg h0] at e
  exact e
theorem item_last {xs : List α} (h : xs ≠ []) : ∃ x, item xs (-1) = .ok x ∧ x ∈ xs ∧ xs.getLast? = some x := by
  have hl : 0 < xs.length := List.length_pos_iff.mpr h
  have hi : xs.length - 1 < xs.length := by omega
  refine ⟨xs[xs.length - 1], ?_, List.getElem_mem hi, ?_⟩
  · have e : atI xs (-1) = some xs[xs.length - 1] := by
      unfold atI ixN
      rw [if_neg (by omega), if_pos (by omega)]
      have e2 : (-1 + (xs.length : Int)).toNat = xs.length - 1 := by omega
      simp [e2, hi]
    unfold item
    rw [e]
  · rw [List.getLast?_eq_getElem?]
    exact List.getElem?_eq_getElem hi
theorem appL_ok {xs : List α} {x : α} (h : xs.length < 16777216) : appL xs x = .ok (xs ++ [x]) := by
  unfold appL
  exact chk_pos h
theorem popL_ok {xs : List α} {x : α} : popL (xs ++ [x]) = .ok (x, xs) := by
  unfold popL
  simp
theorem setAt_ok {xs : List α} {i : Nat} {x : α} (h : i < xs.length) : setAt xs (i : Int) x = .ok (xs.set i x) := by
  have e : ixN xs.length (i : Int) = some i := by
    unfold ixN
    rw [if_pos (by omega), if_pos (by omega), Int.toNat_natCast]
  unfold setAt
  rw [e]
theorem cut_len {xs : List α} {lo hi : Option Int} : (cut xs lo hi).length ≤ xs.length := by
  unfold cut
  rw [List.length_take, List.length_drop]
  omega
theorem cut_mem {xs : List α} {lo hi : Option Int} {x : α} (h : x ∈ cut xs lo hi) : x ∈ xs := by
  unfold cut at h
  exact List.mem_of_mem_drop (List.mem_of_mem_take h)
theorem sIx_pos {n d : Nat} {v : Int} (h : 0 ≤ v) : HT.sIx n d (some v) = min v.toNat n := by
  show (if v < 0 then (v + (n : Int)).toNat else min v.toNat n) = min v.toNat n
  rw [if_neg (by omega)]
theorem cut_to {xs : List α} {n : Int} (h : 0 ≤ n) : cut xs none (some n) = xs.take n.toNat := by
  unfold cut
  rw [HT.sIx_none, sIx_pos h, List.drop_zero, Nat.sub_zero]
  by_cases hl : n.toNat ≤ xs.length
  · rw [Nat.min_eq_left hl]
  · rw [Nat.min_eq_right (by omega), List.take_of_length_le (Nat.le_refl _), List.take_of_length_le (by omega)]
theorem cut_from {xs : List α} {n : Int} (h : 0 ≤ n) : cut xs (some n) none = xs.drop n.toNat := by
  unfold cut
  rw [HT.sIx_none, sIx_pos h]
  by_cases hl : n.toNat ≤ xs.length
  · rw [Nat.min_eq_left hl, List.take_of_length_le (by rw [List.length_drop]; omega)]
  · rw [Nat.min_eq_right (by omega), List.drop_eq_nil_of_le (Nat.le_refl _), List.drop_eq_nil_of_le (by omega), List.take_nil]
theorem cut_two {xs : List α} {a b : Int} (h : 0 ≤ a) (h2 : 0 ≤ b) : cut xs (some a) (some b) = (xs.drop a.toNat).take (b.toNat - a.toNat) := by
  unfold cut
  rw [sIx_pos h, sIx_pos h2]
  by_cases hl : a.toNat ≤ xs.length
  · rw [Nat.min_eq_left hl]
    apply List.ext_getElem?
    intro i
    rw [List.getElem?_take, List.getElem?_take, List.getElem?_drop]
    by_cases h3 : i < b.toNat - a.toNat
    · rw [if_pos h3]
      by_cases h4 : i < min b.toNat xs.length - a.toNat
      · rw [if_pos h4]
      · rw [if_neg h4]
        symm
        apply List.getElem?_eq_none
        omega
    · rw [if_neg h3, if_neg (by omega)]
  · rw [List.drop_eq_nil_of_le (by omega), List.drop_eq_nil_of_le (by omega), List.take_nil, List.take_nil]
theorem rep_ok {n : Nat} {k : Int} (h1 : -9000000000 ≤ k) (h2 : k ≤ 16777216) (hn : n = 1) : repOk n k := by
  unfold repOk
  subst hn
  refine ⟨by omega, by omega, by omega⟩
theorem flat_one {n : Nat} {x : α} : (List.replicate n [x]).flatten = List.replicate n x := by
  induction n with
  | zero => rfl
  | succ n ih => rw [List.replicate_succ, List.flatten_cons, ih, List.replicate_succ]; rfl
theorem chk_if {α : Type} {p : Prop} [Decidable p] {x : α} : chk p x = if p then .ok x else .bad := rfl
theorem ite_b {α : Type} {p : Prop} [Decidable p] {a b : α} : (if decide p = true then a else b) = if p then a else b := by
  by_cases h : p <;> simp [h]
theorem lcL_map {g : α → β} : ∀ (xs : List α) (acc : List β), acc.length + xs.length ≤ 16777216 → lcL (fun _ => Out.ok true) (fun x => Out.ok (g x)) xs acc = .ok (acc ++ xs.map g)
  | [], acc, _ => by
    show Out.ok acc = _
    rw [List.map_nil, List.append_nil]
  | x :: xs, acc, h => by
    have hl : acc.length < 16777216 := by rw [List.length_cons] at h; omega
    show (if acc.length < 16777216 then lcL (fun _ => Out.ok true) (fun x => Out.ok (g x)) xs (acc ++ [g x]) else .bad) = _
    rw [if_pos hl, lcL_map xs (acc ++ [g x]) (by rw [List.length_append, List.length_cons, List.length_nil]; rw [List.length_cons] at h; omega), List.map_cons, List.append_assoc]
    rfl
theorem tryE_okE {p : Err → Option Bool} {h : Err → Out α} (a : α) : tryE p (.ok a) h = .ok a := by
  have k : ∀ m : Out α, m = .ok a → tryE p m h = .ok a := by
    intro m e
    subst e
    rfl
  exact k _ rfl
theorem tryE_errE {p : Err → Option Bool} {h : Err → Out α} {e : Err} {a : α} (hp : p e = some true) (hh : h e = .ok a) : tryE p (.err e) h = .ok a := by
  show (match p e with
    | some true => (match h e with
      | .ok a => Out.ok a
      | _ => .bad)
    | some false => .err e
    | none => .bad) = _
  rw [hp, hh]
theorem rng0 {n : Nat} (h : n < 4611686018427387904) : chk (rngOk (n : Int)) (rangeI 0 (n : Int).toNat) = .ok (rangeI 0 n) := by
  rw [chk_pos (rngOk_of (by omega) (by omega)), Int.toNat_natCast]
/-! ### it is known, and Q holds -/
def Is (m : Out α) (Q : α → Prop) : Prop := ∃ a, m = .ok a ∧ Q a
theorem Is.ok {a : α} {Q : α → Prop} (h : Q a) : Is (.ok a) Q := ⟨a, rfl, h⟩
theorem Is.bind {m : Out α} {f : α → Out β} {Q : α → Prop} {R : β → Prop} (h : Is m Q) (k : ∀ a, Q a → Is (f a) R) : Is (m.bind f) R := by
  obtain ⟨a, e, q⟩ := h
  rw [e, bnd_ok]
  exact k a q
theorem Is.mono {m : Out α} {Q R : α → Prop} (h : Is m Q) (k : ∀ a, Q a → R a) : Is m R := by
  obtain ⟨a, e, q⟩ := h
  exact ⟨a, e, k a q⟩
theorem Is.chk {p : Prop} [Decidable p] {x : α} {Q : α → Prop} (h : p) (q : Q x) : Is (chk p x) Q := ⟨x, chk_pos h, q⟩
theorem Is.item {xs : List α} {i : Int} {Q : α → Prop} (h0 : 0 ≤ i) (h1 : i < xs.length) (q : ∀ x ∈ xs, xs[i.toNat]? = some x → Q x) : Is (item xs i) Q := by
  obtain ⟨x, e, hx, hg⟩ := item_get h0 h1
  exact ⟨x, e, q x hx hg⟩
theorem Is.last {xs : List α} {Q : α → Prop} (h : xs ≠ []) (q : ∀ x ∈ xs, Q x) : Is (Mw.item xs (-1)) Q := by
  obtain ⟨x, e, hx, _⟩ := item_last h
  exact ⟨x, e, q x hx⟩
theorem Is.app {xs : List α} {x : α} {Q : List α → Prop} (h : xs.length < 16777216) (q : Q (xs ++ [x])) : Is (appL xs x) Q := ⟨_, appL_ok h, q⟩
theorem Is.ite {p : Prop} [Decidable p] {a b : Out α} {Q : α → Prop} (h1 : p → Is a Q) (h2 : ¬ p → Is b Q) : Is (if p then a else b) Q := by
  by_cases h : p
  · rw [if_pos h]; exact h1 h
  · rw [if_neg h]; exact h2 h
/-- a loop that always goes on -/
theorem Is.for {f : α → S → Out (Ctl S ω)} {xs : List α} {s : S} {k : S → Out ω} {R : ω → Prop} (I : Nat → S → Prop) (h0 : I 0 s) (h : ∀ i x s, xs[i]? = some x → I i s → Is (f x s) fun c => ∃ s', c = .nxt s' ∧ I (i + 1) s') (hk : ∀ s, I xs.length s → Is (k s) R) : Is ((forL f xs s).bind (Aft.go k)) R := by
  obtain ⟨s', e, hs⟩ := forL_inv (f := f) I h0 fun i x s hx hi => by
    obtain ⟨c, e, s', e2, h2⟩ := h i x s hx hi
    subst e2
    exact ⟨s', e, h2⟩
  rw [e, bnd_ok, go_fin]
  exact hk s' hs
theorem rng_ok {n : Int} (h0 : 0 ≤ n) (h : n < 4611686018427387904) : chk (rngOk n) (rangeI 0 n.toNat) = .ok (rangeI 0 n.toNat) := chk_pos (rngOk_of h0 h)
theorem lcL_filter {p : α → Bool} : ∀ (xs : List α) (acc : List α), acc.length + xs.length ≤ 16777216 → lcL (fun x => Out.ok (p x)) (fun x => Out.ok x) xs acc = .ok (acc ++ xs.filter p)
  | [], acc, _ => by
    show Out.ok acc = _
    rw [List.filter_nil, List.append_nil]
  | x :: xs, acc, h => by
    have hl : acc.length < 16777216 := by rw [List.length_cons] at h; omega
    have e : ∀ b, p x = b → lcL (fun x => Out.ok (p x)) (fun x => Out.ok x) (x :: xs) acc = match b with
      | true => if acc.length < 16777216 then lcL (fun x => Out.ok (p x)) (fun x => Out.ok x) xs (acc ++ [x]) else .bad
      | false => lcL (fun x => Out.ok (p x)) (fun x => Out.ok x) xs acc := by
      intro b hb
      rw [lcL.eq_2, hb]
      cases b <;> rfl
    rw [e (p x) rfl]
    cases hp : p x with
    | true =>
      show (if acc.length < 16777216 then lcL (fun x => Out.ok (p x)) (fun x => Out.ok x) xs (acc ++ [x]) else .bad) = _
      rw [if_pos hl, lcL_filter xs (acc ++ [x]) (by rw [List.length_append, List.length_cons, List.length_nil]; rw [List.length_cons] at h; omega), List.filter_cons, if_pos hp, List.append_assoc]
      rfl
    | false =>
      show lcL (fun x => Out.ok (p x)) (fun x => Out.ok x) xs acc = _
      rw [lcL_filter xs acc (by rw [List.length_cons] at h; omega), List.filter_cons, if_neg (by rw [hp]; exact Bool.false_ne_true)]
end
end Mw
set_option maxRecDepth 100000
set_option maxHeartbeats 4000000
namespace K06
open PySem PySem.Spec PyProof.Rows L2 Mw

/-- the errors that may be caught -/
def pk (e : Err) : Option Bool := match e.k, e.fs with
  | .BadLabel, some _ => some true
  | .BadNumber, some _ => some true
  | .BadSign, some _ => some true
  | _, _ => none

def m_checked_row (v_row : (List Int)) : Out (List Int) :=
  (((Out.ok v_row).bind fun x_1 => Out.ok (enumI 0 x_1)).bind fun xs => (forL (fun (x_3 : (Int × Int)) (s_2 : Unit) => ((((Out.ok x_3.2).bind fun i_4 => (Out.ok (0 : Int)).bind fun j_5 => Out.ok (decide (i_4 < j_5))).bind fun x_8 => if x_8 = true then Out.ok true else ((Out.ok x_3.2).bind fun i_6 => (Out.ok (9 : Int)).bind fun j_7 => Out.ok (decide (j_7 < i_6)))).bind fun b_9 => if b_9 = true then ((Out.ok x_3.1).bind fun y_10 => Out.err ⟨.BadSign, some [("place", PyE.val y_10)]⟩) else (Out.ok (Ctl.nxt ())))) xs ()).bind (Aft.go fun s_2 : Unit => (((Out.ok v_row).bind fun x_11 => Out.ok x_11).bind fun r_12 => Out.ok r_12)))

def m_bad_place (v_row : (List Int)) : Out (Option Int) :=
  ((((Out.ok v_row).bind fun a_1 => (Out.ok ()).bind fun b_2 => Out.ok (a_1, b_2)).bind fun x_3 => m_checked_row x_3.1).bind fun signs_4 => ((Out.ok (0 : Int)).bind fun excess_5 => (((Out.ok signs_4).bind fun x_6 => Out.ok (enumI 0 x_6)).bind fun xs => (forL (fun (x_8 : (Int × Int)) (s_7 : Int) => ((((Out.ok s_7).bind fun i_9 => (Out.ok (0 : Int)).bind fun j_10 => Out.ok (decide (i_9 = j_10))).bind fun x_16 => if x_16 = true then (((Out.ok x_8.1).bind fun i_11 => (Out.ok (0 : Int)).bind fun j_12 => Out.ok (decide (j_12 < i_11))).bind fun x_15 => if x_15 = true then Out.ok true else ((Out.ok x_8.2).bind fun i_13 => (Out.ok (0 : Int)).bind fun j_14 => Out.ok (decide (i_13 = j_14)))) else Out.ok false).bind fun b_17 => if b_17 = true then (((Out.ok x_8.1).bind fun x => Out.ok (some x)).bind fun r_18 => Out.ok (Ctl.out r_18)) else (((Out.ok x_8.2).bind fun i_19 => (Out.ok (0 : Int)).bind fun j_20 => Out.ok (decide (j_20 < i_19))).bind fun b_21 => if b_21 = true then ((Out.ok (1 : Int)).bind fun y_22 => (fun excess_23 : Int => (Out.ok (Ctl.nxt excess_23))) (s_7 + y_22)) else ((Out.ok (1 : Int)).bind fun y_24 => (fun excess_25 : Int => (Out.ok (Ctl.nxt excess_25))) (s_7 - y_24))))) xs excess_5).bind (Aft.go fun s_7 : Int => ((((Out.ok s_7).bind fun i_26 => (Out.ok (0 : Int)).bind fun j_27 => Out.ok (decide (i_26 = j_27))).bind fun x_31 => if x_31 = true then (((Out.ok signs_4).bind fun x_28 => Out.ok (x_28.length : Int)).bind fun i_29 => (Out.ok (0 : Int)).bind fun j_30 => Out.ok (decide (j_30 < i_29))) else Out.ok false).bind fun b_32 => if b_32 = true then ((Out.ok (none : (Option Int))).bind fun r_33 => Out.ok r_33) else ((((Out.ok signs_4).bind fun x_34 => Out.ok (x_34.length : Int)).bind fun x => Out.ok (some x)).bind fun r_35 => Out.ok r_35))))))

def m_shape_of (v_row : (List Int)) : Out (List Int) :=
  (((((Out.ok v_row).bind fun a_1 => (Out.ok ()).bind fun b_2 => Out.ok (a_1, b_2)).bind fun x_3 => m_checked_row x_3.1).bind fun xs => lcL (fun x_4 => (Out.ok true)) (fun x_4 => (((Out.ok x_4).bind fun i_5 => (Out.ok (0 : Int)).bind fun j_6 => Out.ok (decide (j_6 < i_5))).bind fun x_7 => if x_7 = true then (Out.ok (1 : Int)) else (Out.ok (0 : Int)))) xs []).bind fun r_8 => Out.ok r_8)

def m_labels_of (v_row : (List Int)) : Out (List Int) :=
  (((((Out.ok v_row).bind fun a_1 => (Out.ok ()).bind fun b_2 => Out.ok (a_1, b_2)).bind fun x_3 => m_checked_row x_3.1).bind fun xs => lcL (fun x_4 => ((Out.ok x_4).bind fun i_5 => (Out.ok (0 : Int)).bind fun j_6 => Out.ok (decide (j_6 < i_5)))) (fun x_4 => (Out.ok x_4)) xs []).bind fun r_7 => Out.ok r_7)

def m_labelled (v_shape : (List Int)) (v_labels : (List Int)) : Out (List Int) :=
  (((Out.ok v_shape).bind fun x_1 => Out.ok (enumI 0 x_1)).bind fun xs => (forL (fun (x_3 : (Int × Int)) (s_2 : Unit) => ((((Out.ok x_3.2).bind fun i_4 => (Out.ok (0 : Int)).bind fun j_5 => Out.ok (decide (i_4 < j_5))).bind fun x_8 => if x_8 = true then Out.ok true else ((Out.ok x_3.2).bind fun i_6 => (Out.ok (1 : Int)).bind fun j_7 => Out.ok (decide (j_7 < i_6)))).bind fun b_9 => if b_9 = true then ((Out.ok x_3.1).bind fun y_10 => Out.err ⟨.BadSign, some [("place", PyE.val y_10)]⟩) else (Out.ok (Ctl.nxt ())))) xs ()).bind (Aft.go fun s_2 : Unit => ((Out.ok v_labels).bind fun xs => (forL (fun (x_12 : Int) (s_11 : Unit) => ((((Out.ok x_12).bind fun i_13 => (Out.ok (1 : Int)).bind fun j_14 => Out.ok (decide (i_13 < j_14))).bind fun x_17 => if x_17 = true then Out.ok true else ((Out.ok x_12).bind fun i_15 => (Out.ok (9 : Int)).bind fun j_16 => Out.ok (decide (j_16 < i_15)))).bind fun b_18 => if b_18 = true then ((Out.ok x_12).bind fun y_19 => Out.err ⟨.BadLabel, some [("label", PyE.val y_19)]⟩) else (Out.ok (Ctl.nxt ())))) xs ()).bind (Aft.go fun s_11 : Unit => ((((Out.ok v_labels).bind fun x_20 => Out.ok (x_20.length : Int)).bind fun i_22 => ((Out.ok v_shape).bind fun x_21 => Out.ok x_21.sum).bind fun j_23 => Out.ok (!decide (i_22 = j_23))).bind fun b_24 => if b_24 = true then (((Out.ok v_labels).bind fun x_25 => Out.ok (x_25.length : Int)).bind fun y_26 => Out.err ⟨.BadNumber, some [("value", PyE.val y_26)]⟩) else ((Out.ok ([] : (List Int))).bind fun row_27 => ((Out.ok (0 : Int)).bind fun used_28 => ((Out.ok v_shape).bind fun xs => (forL (fun (x_30 : Int) (s_29 : (List Int) × Int) => (((Out.ok x_30).bind fun i_31 => (Out.ok (1 : Int)).bind fun j_32 => Out.ok (decide (i_31 = j_32))).bind fun b_33 => if b_33 = true then (((Out.ok v_labels).bind fun i_34 => (Out.ok s_29.2).bind fun j_35 => item i_34 j_35).bind fun y_36 => (appL s_29.1 y_36).bind fun row_37 => ((Out.ok (1 : Int)).bind fun y_38 => (fun used_39 : Int => (Out.ok (Ctl.nxt (row_37, used_39)))) (s_29.2 + y_38))) else ((Out.ok (0 : Int)).bind fun y_40 => (appL s_29.1 y_40).bind fun row_41 => (Out.ok (Ctl.nxt (row_41, s_29.2)))))) xs (row_27, used_28)).bind (Aft.go fun s_29 : (List Int) × Int => ((Out.ok s_29.1).bind fun r_42 => Out.ok r_42))))))))))

def m__law_digits (v_script : Scr) (v_many : Int) : Out (List Int) :=
  ((Out.ok ([] : (List Int))).bind fun pool_1 => (((Out.ok v_script).bind fun x_3 => (Out.ok none).bind fun l_4 => ((Out.ok (63 : Int)).bind fun i_2 => Out.ok (some i_2)).bind fun h_5 => Out.ok (cut x_3.l l_4 h_5)).bind fun xs => (forL (fun (x_7 : Int) (s_6 : (List Int)) => (((((Out.ok x_7).bind fun x_8 => Out.ok x_8).bind fun x_9 => Out.ok (if x_9 < 0 then -x_9 else x_9)).bind fun i_11 => (Out.ok ((63 : Int) ^ (60 : Int).toNat)).bind fun j_12 => chk (0 < j_12) (i_11 % j_12)).bind fun left_13 => (((Out.ok left_13).bind fun i_14 => Out.ok (i_14 % (63 : Int))).bind fun y_15 => (appL s_6 y_15).bind fun pool_16 => (((Out.ok (59 : Int)).bind fun n_17 => chk (rngOk n_17) (rangeI 0 n_17.toNat)).bind fun xs => (forL (fun (x_19 : Int) (s_18 : (List Int) × Int) => (((Out.ok s_18.2).bind fun i_20 => Out.ok (i_20 / (63 : Int))).bind fun left_21 => ((((Out.ok left_21).bind fun i_22 => (Out.ok (0 : Int)).bind fun j_23 => Out.ok (decide (j_23 < i_22))).bind fun x_27 => if x_27 = true then (((Out.ok s_18.1).bind fun x_24 => Out.ok (x_24.length : Int)).bind fun i_25 => (Out.ok v_many).bind fun j_26 => Out.ok (decide (i_25 < j_26))) else Out.ok false).bind fun b_28 => if b_28 = true then (((Out.ok left_21).bind fun i_29 => Out.ok (i_29 % (63 : Int))).bind fun y_30 => (appL s_18.1 y_30).bind fun pool_31 => (Out.ok (Ctl.nxt (pool_31, left_21)))) else (Out.ok (Ctl.nxt (s_18.1, left_21)))))) xs (pool_16, left_13)).bind (Aft.go fun s_18 : (List Int) × Int => (Out.ok (Ctl.nxt s_18.1))))))) xs pool_1).bind (Aft.go fun s_6 : (List Int) => (((Out.ok s_6).bind fun i_32 => (Out.ok ([] : (List Int))).bind fun j_33 => Out.ok (decide (i_32 = j_33))).bind fun b_34 => Out.bind (if b_34 = true then ((Out.ok (0 : Int)).bind fun y_36 => (appL s_6 y_36).bind fun pool_37 => (Out.ok pool_37)) else (Out.ok s_6)) (fun s_35 : (List Int) => (((Out.ok s_35).bind fun x_38 => Out.ok (x_38.length : Int)).bind fun size_39 => ((Out.ok ([] : (List Int))).bind fun digits_40 => (((Out.ok v_many).bind fun n_41 => chk (rngOk n_41) (rangeI 0 n_41.toNat)).bind fun xs => (forL (fun (x_43 : Int) (s_42 : (List Int)) => (((((Out.ok s_35).bind fun i_47 => ((Out.ok x_43).bind fun i_45 => (Out.ok size_39).bind fun j_46 => chk (0 < j_46) (i_45 % j_46)).bind fun j_48 => item i_47 j_48).bind fun i_56 => ((Out.ok x_43).bind fun i_53 => (((Out.ok x_43).bind fun i_49 => (Out.ok size_39).bind fun j_50 => Out.ok (decide (j_50 ≤ i_49))).bind fun x_51 => Out.ok (if x_51 = true then (1 : Int) else 0)).bind fun j_54 => chk (CMul i_53 j_54) (i_53 * j_54)).bind fun j_57 => Out.ok (i_56 + j_57)).bind fun i_58 => Out.ok (i_58 % (63 : Int))).bind fun y_59 => (appL s_42 y_59).bind fun digits_60 => (Out.ok (Ctl.nxt digits_60)))) xs digits_40).bind (Aft.go fun s_42 : (List Int) => ((Out.ok s_42).bind fun r_61 => Out.ok r_61))))))))))

def m__law_drawn (v_digits : (List Int)) (v_size : Int) : Out (List (Int × Int)) :=
  ((Out.ok (9 : Int)).bind fun few_1 => (((((Out.ok v_digits).bind fun i_2 => (Out.ok (3 : Int)).bind fun j_3 => item i_2 j_3).bind fun i_4 => Out.ok (i_4 % (2 : Int))).bind fun i_5 => (Out.ok (1 : Int)).bind fun j_6 => Out.ok (decide (i_5 = j_6))).bind fun b_7 => Out.bind (if b_7 = true then (((Out.ok (1 : Int)).bind fun i_13 => (((Out.ok v_digits).bind fun i_9 => (Out.ok (4 : Int)).bind fun j_10 => item i_9 j_10).bind fun i_11 => Out.ok (i_11 % (3 : Int))).bind fun j_14 => Out.ok (i_13 + j_14)).bind fun few_15 => (Out.ok few_15)) else (Out.ok few_1)) (fun s_8 : Int => ((Out.ok ([] : (List (Int × Int)))).bind fun pairs_16 => ((Out.ok ([] : (List Int))).bind fun path_17 => (((Out.ok v_size).bind fun n_18 => chk (rngOk n_18) (rangeI 0 n_18.toNat)).bind fun xs => (forL (fun (x_20 : Int) (s_19 : (List (Int × Int)) × (List Int)) => (((Out.ok v_digits).bind fun i_24 => ((Out.ok (20 : Int)).bind fun i_22 => (Out.ok x_20).bind fun j_23 => Out.ok (i_22 + j_23)).bind fun j_25 => item i_24 j_25).bind fun mark_26 => ((((Out.ok s_19.2).bind fun x_27 => Out.ok (x_27.length : Int)).bind fun i_33 => ((((Out.ok mark_26).bind fun i_28 => Out.ok (i_28 % (7 : Int))).bind fun i_29 => (Out.ok (2 : Int)).bind fun j_30 => Out.ok (decide (j_30 < i_29))).bind fun x_31 => Out.ok (if x_31 = true then (1 : Int) else 0)).bind fun j_34 => Out.ok (i_33 - j_34)).bind fun keep_35 => ((((Out.ok x_20).bind fun i_36 => (Out.ok (0 : Int)).bind fun j_37 => Out.ok (decide (j_37 < i_36))).bind fun x_41 => if x_41 = true then (((Out.ok mark_26).bind fun i_38 => Out.ok (i_38 % (7 : Int))).bind fun i_39 => (Out.ok (6 : Int)).bind fun j_40 => Out.ok (decide (i_39 = j_40))) else Out.ok false).bind fun b_42 => Out.bind (if b_42 = true then (((Out.ok (1 : Int)).bind fun i_54 => (((Out.ok v_digits).bind fun i_47 => ((Out.ok (140 : Int)).bind fun i_45 => (Out.ok x_20).bind fun j_46 => Out.ok (i_45 + j_46)).bind fun j_48 => item i_47 j_48).bind fun i_51 => ((Out.ok s_19.2).bind fun x_49 => Out.ok (x_49.length : Int)).bind fun j_52 => chk (0 < j_52) (i_51 % j_52)).bind fun j_55 => Out.ok (i_54 + j_55)).bind fun keep_56 => (Out.ok keep_56)) else (Out.ok keep_35)) (fun s_43 : Int => (((Out.ok s_19.2).bind fun x_60 => (Out.ok none).bind fun l_61 => (((Out.ok (1 : Int)).bind fun i_57 => (Out.ok s_43).bind fun j_58 => Out.ok (if j_58 > i_57 then j_58 else i_57)).bind fun i_59 => Out.ok (some i_59)).bind fun h_62 => Out.ok (cut x_60 l_61 h_62)).bind fun path_63 => ((((Out.ok x_20).bind fun i_64 => (Out.ok (0 : Int)).bind fun j_65 => Out.ok (decide (j_65 < i_64))).bind fun x_70 => if x_70 = true then ((Out.ok path_63).bind fun i_67 => ((Out.ok (1 : Int)).bind fun x_66 => Out.ok (-x_66)).bind fun j_68 => item i_67 j_68) else ((Out.ok (1 : Int)).bind fun x_69 => Out.ok (-x_69))).bind fun up_71 => ((((Out.ok up_71).bind fun a_87 => (((Out.ok (1 : Int)).bind fun i_83 => (((((Out.ok mark_26).bind fun i_72 => Out.ok (i_72 / (7 : Int))).bind fun i_74 => (Out.ok s_8).bind fun j_75 => chk (0 < j_75) (i_74 % j_75)).bind fun i_79 => ((Out.ok v_digits).bind fun i_76 => (Out.ok (5 : Int)).bind fun j_77 => item i_76 j_77).bind fun j_80 => Out.ok (i_79 + j_80)).bind fun i_81 => Out.ok (i_81 % (9 : Int))).bind fun j_84 => Out.ok (i_83 + j_84)).bind fun a_85 => (Out.ok ()).bind fun b_86 => Out.ok (a_85, b_86)).bind fun b_88 => Out.ok (a_87, b_88)).bind fun x_89 => Out.ok (x_89.1, x_89.2.1)).bind fun y_90 => (appL s_19.1 y_90).bind fun pairs_91 => ((Out.ok x_20).bind fun y_92 => (appL path_63 y_92).bind fun path_93 => (Out.ok (Ctl.nxt (pairs_91, path_93)))))))))))) xs (pairs_16, path_17)).bind (Aft.go fun s_19 : (List (Int × Int)) × (List Int) => ((Out.ok s_19.1).bind fun r_94 => Out.ok r_94))))))))

def m__law_whole (v_told : Int) : Out Bool :=
  ((((Out.ok v_told).bind fun x_1 => Out.ok ((fun _ => true) x_1)).bind fun x_5 => if x_5 = true then (((Out.ok v_told).bind fun x_3 => Out.ok ((fun _ => false) x_3)).bind fun x_4 => Out.ok (!x_4)) else Out.ok false).bind fun r_6 => Out.ok r_6)

def m__law_row (v_told : (List Int)) (v_due : (List Int)) : Out Bool :=
  (((((Out.ok v_told).bind fun x_1 => Out.ok ((fun _ => true) x_1)).bind fun x_2 => Out.ok (!x_2)).bind fun x_7 => if x_7 = true then Out.ok true else (((Out.ok v_told).bind fun x_3 => Out.ok (x_3.length : Int)).bind fun i_5 => ((Out.ok v_due).bind fun x_4 => Out.ok (x_4.length : Int)).bind fun j_6 => Out.ok (!decide (i_5 = j_6)))).bind fun b_8 => if b_8 = true then ((Out.ok false).bind fun r_9 => Out.ok r_9) else ((((Out.ok v_due).bind fun x_10 => Out.ok (x_10.length : Int)).bind fun n_11 => chk (rngOk n_11) (rangeI 0 n_11.toNat)).bind fun xs => (forL (fun (x_13 : Int) (s_12 : Unit) => (((((((Out.ok v_told).bind fun i_14 => (Out.ok x_13).bind fun j_15 => item i_14 j_15).bind fun a_16 => (Out.ok ()).bind fun b_17 => Out.ok (a_16, b_17)).bind fun x_18 => m__law_whole x_18.1).bind fun x_19 => Out.ok (!x_19)).bind fun x_26 => if x_26 = true then Out.ok true else (((Out.ok v_told).bind fun i_20 => (Out.ok x_13).bind fun j_21 => item i_20 j_21).bind fun i_24 => ((Out.ok v_due).bind fun i_22 => (Out.ok x_13).bind fun j_23 => item i_22 j_23).bind fun j_25 => Out.ok (!decide (i_24 = j_25)))).bind fun b_27 => if b_27 = true then ((Out.ok false).bind fun r_28 => Out.ok (Ctl.out r_28)) else (Out.ok (Ctl.nxt ())))) xs ()).bind (Aft.go fun s_12 : Unit => ((Out.ok true).bind fun r_29 => Out.ok r_29))))

def m__law_depths (v_pairs : (List (Int × Int))) : Out (List Int) :=
  ((Out.ok ([] : (List Int))).bind fun depths_1 => ((Out.ok v_pairs).bind fun xs => (forL (fun (x_3 : (Int × Int)) (s_2 : (List Int)) => ((((Out.ok x_3.1).bind fun i_4 => (Out.ok (0 : Int)).bind fun j_5 => Out.ok (decide (j_5 ≤ i_4))).bind fun x_11 => if x_11 = true then (((Out.ok s_2).bind fun i_6 => (Out.ok x_3.1).bind fun j_7 => item i_6 j_7).bind fun i_9 => (Out.ok (1 : Int)).bind fun j_10 => Out.ok (i_9 + j_10)) else (Out.ok (0 : Int))).bind fun y_12 => (appL s_2 y_12).bind fun depths_13 => (Out.ok (Ctl.nxt depths_13)))) xs depths_1).bind (Aft.go fun s_2 : (List Int) => ((Out.ok s_2).bind fun r_14 => Out.ok r_14))))

def m__law_signs (v_pairs : (List (Int × Int))) : Out (List Int) :=
  ((((Out.ok v_pairs).bind fun a_1 => (Out.ok ()).bind fun b_2 => Out.ok (a_1, b_2)).bind fun x_3 => m__law_depths x_3.1).bind fun depths_4 => ((Out.ok ([] : (List Int))).bind fun row_5 => (((Out.ok (1 : Int)).bind fun x_6 => Out.ok (-x_6)).bind fun last_7 => ((((Out.ok v_pairs).bind fun x_8 => Out.ok (x_8.length : Int)).bind fun n_9 => chk (rngOk n_9) (rangeI 0 n_9.toNat)).bind fun xs => (forL (fun (x_11 : Int) (s_10 : (List Int) × Int) => ((((Out.ok s_10.1).bind fun i_25 => ((((Out.ok (0 : Int)).bind fun a_12 => (Out.ok ()).bind fun b_13 => Out.ok (a_12, b_13)).bind fun x_14 => Out.ok ([x_14.1])).bind fun i_23 => (((Out.ok s_10.2).bind fun i_16 => (Out.ok (1 : Int)).bind fun j_17 => Out.ok (i_16 + j_17)).bind fun i_21 => ((Out.ok depths_4).bind fun i_18 => (Out.ok x_11).bind fun j_19 => item i_18 j_19).bind fun j_22 => Out.ok (i_21 - j_22)).bind fun j_24 => chk (repOk i_23.length j_24) (List.replicate j_24.toNat i_23).flatten).bind fun j_26 => chk (lenOk (i_25.length + j_26.length)) (i_25 ++ j_26)).bind fun i_34 => (((((Out.ok v_pairs).bind fun i_27 => (Out.ok x_11).bind fun j_28 => item i_27 j_28).bind fun x_29 => (Out.ok (1 : Int)).bind fun u_30 => Out.ok (x_29.2)).bind fun a_31 => (Out.ok ()).bind fun b_32 => Out.ok (a_31, b_32)).bind fun x_33 => Out.ok ([x_33.1])).bind fun j_35 => chk (lenOk (i_34.length + j_35.length)) (i_34 ++ j_35)).bind fun row_36 => (((Out.ok depths_4).bind fun i_37 => (Out.ok x_11).bind fun j_38 => item i_37 j_38).bind fun last_39 => (Out.ok (Ctl.nxt (row_36, last_39)))))) xs (row_5, last_7)).bind (Aft.go fun s_10 : (List Int) × Int => (((Out.ok s_10.1).bind fun i_48 => ((((Out.ok (0 : Int)).bind fun a_40 => (Out.ok ()).bind fun b_41 => Out.ok (a_40, b_41)).bind fun x_42 => Out.ok ([x_42.1])).bind fun i_46 => ((Out.ok s_10.2).bind fun i_44 => (Out.ok (1 : Int)).bind fun j_45 => Out.ok (i_44 + j_45)).bind fun j_47 => chk (repOk i_46.length j_47) (List.replicate j_47.toNat i_46).flatten).bind fun j_49 => chk (lenOk (i_48.length + j_49.length)) (i_48 ++ j_49)).bind fun r_50 => Out.ok r_50))))))

def m__law_segment (v_digits : (List Int)) (v_at : Int) (v_size : Int) : Out (List Int) :=
  (((Out.ok (2 : Int)).bind fun i_5 => (((Out.ok v_digits).bind fun i_1 => (Out.ok v_at).bind fun j_2 => item i_1 j_2).bind fun i_3 => Out.ok (i_3 % (4 : Int))).bind fun j_6 => Out.ok (i_5 + j_6)).bind fun turn_7 => ((Out.ok (9 : Int)).bind fun few_8 => (((((Out.ok v_digits).bind fun i_12 => ((Out.ok v_at).bind fun i_10 => (Out.ok (1 : Int)).bind fun j_11 => Out.ok (i_10 + j_11)).bind fun j_13 => item i_12 j_13).bind fun i_14 => Out.ok (i_14 % (2 : Int))).bind fun i_15 => (Out.ok (1 : Int)).bind fun j_16 => Out.ok (decide (i_15 = j_16))).bind fun b_17 => Out.bind (if b_17 = true then (((Out.ok (1 : Int)).bind fun i_27 => ((((Out.ok v_digits).bind fun i_22 => ((Out.ok v_at).bind fun i_20 => (Out.ok (1 : Int)).bind fun j_21 => Out.ok (i_20 + j_21)).bind fun j_23 => item i_22 j_23).bind fun i_24 => Out.ok (i_24 / (2 : Int))).bind fun i_25 => Out.ok (i_25 % (3 : Int))).bind fun j_28 => Out.ok (i_27 + j_28)).bind fun few_29 => (Out.ok few_29)) else (Out.ok few_8)) (fun s_18 : Int => ((Out.ok ([] : (List Int))).bind fun row_30 => (((Out.ok v_size).bind fun n_31 => chk (rngOk n_31) (rangeI 0 n_31.toNat)).bind fun xs => (forL (fun (x_33 : Int) (s_32 : (List Int)) => (((Out.ok v_digits).bind fun i_40 => (((Out.ok v_at).bind fun i_35 => (Out.ok (3 : Int)).bind fun j_36 => Out.ok (i_35 + j_36)).bind fun i_38 => (Out.ok x_33).bind fun j_39 => Out.ok (i_38 + j_39)).bind fun j_41 => item i_40 j_41).bind fun mark_42 => (((Out.ok (1 : Int)).bind fun i_57 => (((((Out.ok mark_42).bind fun i_43 => Out.ok (i_43 / (7 : Int))).bind fun i_45 => (Out.ok s_18).bind fun j_46 => chk (0 < j_46) (i_45 % j_46)).bind fun i_53 => ((Out.ok v_digits).bind fun i_50 => ((Out.ok v_at).bind fun i_48 => (Out.ok (2 : Int)).bind fun j_49 => Out.ok (i_48 + j_49)).bind fun j_51 => item i_50 j_51).bind fun j_54 => Out.ok (i_53 + j_54)).bind fun i_55 => Out.ok (i_55 % (9 : Int))).bind fun j_58 => Out.ok (i_57 + j_58)).bind fun label_59 => (((((Out.ok mark_42).bind fun i_60 => Out.ok (i_60 % (7 : Int))).bind fun i_61 => (Out.ok turn_7).bind fun j_62 => Out.ok (decide (i_61 < j_62))).bind fun x_63 => if x_63 = true then (Out.ok (0 : Int)) else (Out.ok label_59)).bind fun y_64 => (appL s_32 y_64).bind fun row_65 => (Out.ok (Ctl.nxt row_65)))))) xs row_30).bind (Aft.go fun s_32 : (List Int) => ((Out.ok s_32).bind fun r_66 => Out.ok r_66))))))))

def m__law_bad_sign (v_row : (List Int)) : Out Int :=
  ((((Out.ok v_row).bind fun x_1 => Out.ok (x_1.length : Int)).bind fun n_2 => chk (rngOk n_2) (rangeI 0 n_2.toNat)).bind fun xs => (forL (fun (x_4 : Int) (s_3 : Unit) => ((((Out.ok (0 : Int)).bind fun i_7 => ((Out.ok v_row).bind fun i_5 => (Out.ok x_4).bind fun j_6 => item i_5 j_6).bind fun j_8 => Out.ok (decide (i_7 ≤ j_8) && decide (j_8 ≤ (9 : Int)))).bind fun x_10 => Out.ok (!x_10)).bind fun b_11 => if b_11 = true then ((Out.ok x_4).bind fun r_12 => Out.ok (Ctl.out r_12)) else (Out.ok (Ctl.nxt ())))) xs ()).bind (Aft.go fun s_3 : Unit => (((Out.ok (1 : Int)).bind fun x_13 => Out.ok (-x_13)).bind fun r_14 => Out.ok r_14)))

def m__law_bad_place (v_row : (List Int)) : Out Int :=
  ((Out.ok (0 : Int)).bind fun excess_1 => ((((Out.ok v_row).bind fun x_2 => Out.ok (x_2.length : Int)).bind fun n_3 => chk (rngOk n_3) (rangeI 0 n_3.toNat)).bind fun xs => (forL (fun (x_5 : Int) (s_4 : Int) => ((((Out.ok x_5).bind fun i_6 => (Out.ok (0 : Int)).bind fun j_7 => Out.ok (decide (j_7 < i_6))).bind fun x_10 => if x_10 = true then ((Out.ok s_4).bind fun i_8 => (Out.ok (1 : Int)).bind fun j_9 => Out.ok (decide (i_8 < j_9))) else Out.ok false).bind fun b_11 => if b_11 = true then ((Out.ok x_5).bind fun r_12 => Out.ok (Ctl.out r_12)) else (((Out.ok s_4).bind fun i_20 => ((((Out.ok v_row).bind fun i_13 => (Out.ok x_5).bind fun j_14 => item i_13 j_14).bind fun i_15 => (Out.ok (0 : Int)).bind fun j_16 => Out.ok (decide (j_16 < i_15))).bind fun x_18 => if x_18 = true then (Out.ok (1 : Int)) else ((Out.ok (1 : Int)).bind fun x_17 => Out.ok (-x_17))).bind fun j_21 => Out.ok (i_20 + j_21)).bind fun excess_22 => (((Out.ok excess_22).bind fun i_23 => (Out.ok (0 : Int)).bind fun j_24 => Out.ok (decide (i_23 < j_24))).bind fun b_25 => if b_25 = true then ((Out.ok x_5).bind fun r_26 => Out.ok (Ctl.out r_26)) else (Out.ok (Ctl.nxt excess_22)))))) xs excess_1).bind (Aft.go fun s_4 : Int => ((((Out.ok v_row).bind fun i_27 => (Out.ok ([] : (List Int))).bind fun j_28 => Out.ok (!decide (i_27 = j_28))).bind fun x_31 => if x_31 = true then ((Out.ok s_4).bind fun i_29 => (Out.ok (0 : Int)).bind fun j_30 => Out.ok (decide (i_29 = j_30))) else Out.ok false).bind fun b_32 => if b_32 = true then (((Out.ok (1 : Int)).bind fun x_33 => Out.ok (-x_33)).bind fun r_34 => Out.ok r_34) else (((Out.ok v_row).bind fun x_35 => Out.ok (x_35.length : Int)).bind fun r_36 => Out.ok r_36)))))

def m__law_bent_row (v_row : (List Int)) (v_five : (List Int)) : Out (List Int) :=
  (((((Out.ok v_five).bind fun i_1 => (Out.ok (0 : Int)).bind fun j_2 => item i_1 j_2).bind fun i_7 => (((Out.ok v_five).bind fun i_3 => (Out.ok (1 : Int)).bind fun j_4 => item i_3 j_4).bind fun i_5 => Out.ok ((63 : Int) * i_5)).bind fun j_8 => Out.ok (i_7 + j_8)).bind fun i_14 => (((Out.ok v_row).bind fun x_9 => Out.ok (x_9.length : Int)).bind fun i_11 => (Out.ok (1 : Int)).bind fun j_12 => Out.ok (i_11 + j_12)).bind fun j_15 => chk (0 < j_15) (i_14 % j_15)).bind fun place_16 => (((((Out.ok v_five).bind fun i_17 => (Out.ok (2 : Int)).bind fun j_18 => item i_17 j_18).bind fun i_19 => Out.ok (i_19 / (2 : Int))).bind fun i_20 => Out.ok (i_20 % (10 : Int))).bind fun sign_21 => (((((Out.ok v_five).bind fun i_22 => (Out.ok (2 : Int)).bind fun j_23 => item i_22 j_23).bind fun i_24 => Out.ok (i_24 % (8 : Int))).bind fun i_25 => (Out.ok (7 : Int)).bind fun j_26 => Out.ok (decide (i_25 = j_26))).bind fun b_27 => Out.bind (if b_27 = true then ((((((Out.ok (1 : Int)).bind fun x_29 => Out.ok (-x_29)).bind fun a_39 => ((Out.ok (10 : Int)).bind fun a_37 => (((Out.ok ((2 : Int) ^ (64 : Int).toNat)).bind fun i_30 => Out.ok (i_30 * (31 : Int))).bind fun a_35 => ((((Out.ok ((2 : Int) ^ (64 : Int).toNat)).bind fun i_31 => Out.ok (i_31 * (31 : Int))).bind fun x_32 => Out.ok (-x_32)).bind fun a_33 => (Out.ok ()).bind fun b_34 => Out.ok (a_33, b_34)).bind fun b_36 => Out.ok (a_35, b_36)).bind fun b_38 => Out.ok (a_37, b_38)).bind fun b_40 => Out.ok (a_39, b_40)).bind fun x_41 => Out.ok ([x_41.1, x_41.2.1, x_41.2.2.1, x_41.2.2.2.1])).bind fun i_45 => (((Out.ok v_five).bind fun i_42 => (Out.ok (3 : Int)).bind fun j_43 => item i_42 j_43).bind fun i_44 => Out.ok (i_44 % (4 : Int))).bind fun j_46 => item i_45 j_46).bind fun sign_47 => (Out.ok sign_47)) else (Out.ok sign_21)) (fun s_28 : Int => (((((Out.ok v_five).bind fun i_48 => (Out.ok (2 : Int)).bind fun j_49 => item i_48 j_49).bind fun i_50 => Out.ok (i_50 % (8 : Int))).bind fun i_51 => (Out.ok (5 : Int)).bind fun j_52 => Out.ok (decide (i_51 = j_52))).bind fun b_53 => Out.bind (if b_53 = true then ((Out.ok (0 : Int)).bind fun sign_55 => (Out.ok sign_55)) else (Out.ok s_28)) (fun s_54 : Int => (((((Out.ok v_five).bind fun i_56 => (Out.ok (4 : Int)).bind fun j_57 => item i_56 j_57).bind fun i_58 => Out.ok (i_58 % (3 : Int))).bind fun i_59 => (Out.ok (0 : Int)).bind fun j_60 => Out.ok (decide (i_59 = j_60))).bind fun b_61 => if b_61 = true then (((((Out.ok v_row).bind fun x_63 => (Out.ok none).bind fun l_64 => ((Out.ok place_16).bind fun i_62 => Out.ok (some i_62)).bind fun h_65 => Out.ok (cut x_63 l_64 h_65)).bind fun i_69 => (((Out.ok s_54).bind fun a_66 => (Out.ok ()).bind fun b_67 => Out.ok (a_66, b_67)).bind fun x_68 => Out.ok ([x_68.1])).bind fun j_70 => chk (lenOk (i_69.length + j_70.length)) (i_69 ++ j_70)).bind fun i_78 => ((Out.ok v_row).bind fun x_75 => (((Out.ok place_16).bind fun i_72 => (Out.ok (1 : Int)).bind fun j_73 => Out.ok (i_72 + j_73)).bind fun i_74 => Out.ok (some i_74)).bind fun l_76 => (Out.ok none).bind fun h_77 => Out.ok (cut x_75 l_76 h_77)).bind fun j_79 => chk (lenOk (i_78.length + j_79.length)) (i_78 ++ j_79)).bind fun r_80 => Out.ok r_80) else (((((Out.ok v_five).bind fun i_81 => (Out.ok (4 : Int)).bind fun j_82 => item i_81 j_82).bind fun i_83 => Out.ok (i_83 % (3 : Int))).bind fun i_84 => (Out.ok (1 : Int)).bind fun j_85 => Out.ok (decide (i_84 = j_85))).bind fun b_86 => if b_86 = true then (((((Out.ok v_row).bind fun x_88 => (Out.ok none).bind fun l_89 => ((Out.ok place_16).bind fun i_87 => Out.ok (some i_87)).bind fun h_90 => Out.ok (cut x_88 l_89 h_90)).bind fun i_94 => (((Out.ok s_54).bind fun a_91 => (Out.ok ()).bind fun b_92 => Out.ok (a_91, b_92)).bind fun x_93 => Out.ok ([x_93.1])).bind fun j_95 => chk (lenOk (i_94.length + j_95.length)) (i_94 ++ j_95)).bind fun i_100 => ((Out.ok v_row).bind fun x_97 => ((Out.ok place_16).bind fun i_96 => Out.ok (some i_96)).bind fun l_98 => (Out.ok none).bind fun h_99 => Out.ok (cut x_97 l_98 h_99)).bind fun j_101 => chk (lenOk (i_100.length + j_101.length)) (i_100 ++ j_101)).bind fun r_102 => Out.ok r_102) else ((((Out.ok v_row).bind fun x_104 => (Out.ok none).bind fun l_105 => ((Out.ok place_16).bind fun i_103 => Out.ok (some i_103)).bind fun h_106 => Out.ok (cut x_104 l_105 h_106)).bind fun i_114 => ((Out.ok v_row).bind fun x_111 => (((Out.ok place_16).bind fun i_108 => (Out.ok (1 : Int)).bind fun j_109 => Out.ok (i_108 + j_109)).bind fun i_110 => Out.ok (some i_110)).bind fun l_112 => (Out.ok none).bind fun h_113 => Out.ok (cut x_111 l_112 h_113)).bind fun j_115 => chk (lenOk (i_114.length + j_115.length)) (i_114 ++ j_115)).bind fun r_116 => Out.ok r_116)))))))))

def m__law_due (v_way : Int) (v_row : (List Int)) : Out (Pr Str Un) :=
  (((((Out.ok v_row).bind fun a_1 => (Out.ok ()).bind fun b_2 => Out.ok (a_1, b_2)).bind fun x_3 => m__law_bad_sign x_3.1).bind fun i_4 => (Out.ok (0 : Int)).bind fun j_5 => Out.ok (decide (j_5 ≤ i_4))).bind fun b_6 => if b_6 = true then ((((Out.ok ("BadSign" : Str)).bind fun a_12 => (((((Out.ok v_row).bind fun a_7 => (Out.ok ()).bind fun b_8 => Out.ok (a_7, b_8)).bind fun x_9 => m__law_bad_sign x_9.1).bind fun x => Out.ok (Un.i x)).bind fun a_10 => (Out.ok ()).bind fun b_11 => Out.ok (a_10, b_11)).bind fun b_13 => Out.ok (a_12, b_13)).bind fun x_14 => Out.ok (Pr.mk x_14.1 x_14.2.1)).bind fun r_15 => Out.ok r_15) else (((Out.ok v_way).bind fun i_16 => (Out.ok (0 : Int)).bind fun j_17 => Out.ok (decide (i_16 = j_17))).bind fun b_18 => if b_18 = true then ((((Out.ok ("row" : Str)).bind fun a_21 => (((Out.ok v_row).bind fun x => Out.ok (Un.l x)).bind fun a_19 => (Out.ok ()).bind fun b_20 => Out.ok (a_19, b_20)).bind fun b_22 => Out.ok (a_21, b_22)).bind fun x_23 => Out.ok (Pr.mk x_23.1 x_23.2.1)).bind fun r_24 => Out.ok r_24) else (((Out.ok v_way).bind fun i_25 => (Out.ok (1 : Int)).bind fun j_26 => Out.ok (decide (i_25 = j_26))).bind fun b_27 => if b_27 = true then ((((Out.ok ("row" : Str)).bind fun a_34 => ((((Out.ok v_row).bind fun xs => lcL (fun x_28 => (Out.ok true)) (fun x_28 => (((Out.ok x_28).bind fun i_29 => (Out.ok (0 : Int)).bind fun j_30 => Out.ok (decide (j_30 < i_29))).bind fun x_31 => Out.ok (if x_31 = true then (1 : Int) else 0))) xs []).bind fun x => Out.ok (Un.l x)).bind fun a_32 => (Out.ok ()).bind fun b_33 => Out.ok (a_32, b_33)).bind fun b_35 => Out.ok (a_34, b_35)).bind fun x_36 => Out.ok (Pr.mk x_36.1 x_36.2.1)).bind fun r_37 => Out.ok r_37) else (((Out.ok v_way).bind fun i_38 => (Out.ok (2 : Int)).bind fun j_39 => Out.ok (decide (i_38 = j_39))).bind fun b_40 => if b_40 = true then ((((Out.ok ("row" : Str)).bind fun a_46 => ((((Out.ok v_row).bind fun xs => lcL (fun x_41 => ((Out.ok x_41).bind fun i_42 => (Out.ok (0 : Int)).bind fun j_43 => Out.ok (decide (j_43 < i_42)))) (fun x_41 => (Out.ok x_41)) xs []).bind fun x => Out.ok (Un.l x)).bind fun a_44 => (Out.ok ()).bind fun b_45 => Out.ok (a_44, b_45)).bind fun b_47 => Out.ok (a_46, b_47)).bind fun x_48 => Out.ok (Pr.mk x_48.1 x_48.2.1)).bind fun r_49 => Out.ok r_49) else (((((Out.ok v_row).bind fun a_50 => (Out.ok ()).bind fun b_51 => Out.ok (a_50, b_51)).bind fun x_52 => m__law_bad_place x_52.1).bind fun i_53 => (Out.ok (0 : Int)).bind fun j_54 => Out.ok (decide (j_54 ≤ i_53))).bind fun b_55 => if b_55 = true then ((((Out.ok ("place" : Str)).bind fun a_61 => (((((Out.ok v_row).bind fun a_56 => (Out.ok ()).bind fun b_57 => Out.ok (a_56, b_57)).bind fun x_58 => m__law_bad_place x_58.1).bind fun x => Out.ok (Un.i x)).bind fun a_59 => (Out.ok ()).bind fun b_60 => Out.ok (a_59, b_60)).bind fun b_62 => Out.ok (a_61, b_62)).bind fun x_63 => Out.ok (Pr.mk x_63.1 x_63.2.1)).bind fun r_64 => Out.ok r_64) else ((((Out.ok ("none" : Str)).bind fun a_67 => (((Out.ok (0 : Int)).bind fun x => Out.ok (Un.i x)).bind fun a_65 => (Out.ok ()).bind fun b_66 => Out.ok (a_65, b_66)).bind fun b_68 => Out.ok (a_67, b_68)).bind fun x_69 => Out.ok (Pr.mk x_69.1 x_69.2.1)).bind fun r_70 => Out.ok r_70))))))

def m__law_told (v_way : Int) (v_handed : (List Int)) : Out (Pr Str Un) :=
  ((((Out.ok ("wrong" : Str)).bind fun a_3 => (((Out.ok (0 : Int)).bind fun x => Out.ok (Un.i x)).bind fun a_1 => (Out.ok ()).bind fun b_2 => Out.ok (a_1, b_2)).bind fun b_4 => Out.ok (a_3, b_4)).bind fun x_5 => Out.ok (Pr.mk x_5.1 x_5.2.1)).bind fun told_6 => ((tryE pk (((Out.ok v_way).bind fun i_9 => (Out.ok (0 : Int)).bind fun j_10 => Out.ok (decide (i_9 = j_10))).bind fun b_11 => if b_11 = true then ((((Out.ok ("row" : Str)).bind fun a_17 => (((((Out.ok v_handed).bind fun a_12 => (Out.ok ()).bind fun b_13 => Out.ok (a_12, b_13)).bind fun x_14 => m_checked_row x_14.1).bind fun x => Out.ok (Un.l x)).bind fun a_15 => (Out.ok ()).bind fun b_16 => Out.ok (a_15, b_16)).bind fun b_18 => Out.ok (a_17, b_18)).bind fun x_19 => Out.ok (Pr.mk x_19.1 x_19.2.1)).bind fun told_20 => (Out.ok (Sum.inl told_20))) else (((Out.ok v_way).bind fun i_21 => (Out.ok (1 : Int)).bind fun j_22 => Out.ok (decide (i_21 = j_22))).bind fun b_23 => if b_23 = true then ((((Out.ok ("row" : Str)).bind fun a_29 => (((((Out.ok v_handed).bind fun a_24 => (Out.ok ()).bind fun b_25 => Out.ok (a_24, b_25)).bind fun x_26 => m_shape_of x_26.1).bind fun x => Out.ok (Un.l x)).bind fun a_27 => (Out.ok ()).bind fun b_28 => Out.ok (a_27, b_28)).bind fun b_30 => Out.ok (a_29, b_30)).bind fun x_31 => Out.ok (Pr.mk x_31.1 x_31.2.1)).bind fun told_32 => (Out.ok (Sum.inl told_32))) else (((Out.ok v_way).bind fun i_33 => (Out.ok (2 : Int)).bind fun j_34 => Out.ok (decide (i_33 = j_34))).bind fun b_35 => if b_35 = true then ((((Out.ok ("row" : Str)).bind fun a_41 => (((((Out.ok v_handed).bind fun a_36 => (Out.ok ()).bind fun b_37 => Out.ok (a_36, b_37)).bind fun x_38 => m_labels_of x_38.1).bind fun x => Out.ok (Un.l x)).bind fun a_39 => (Out.ok ()).bind fun b_40 => Out.ok (a_39, b_40)).bind fun b_42 => Out.ok (a_41, b_42)).bind fun x_43 => Out.ok (Pr.mk x_43.1 x_43.2.1)).bind fun told_44 => (Out.ok (Sum.inl told_44))) else ((((Out.ok v_handed).bind fun a_45 => (Out.ok ()).bind fun b_46 => Out.ok (a_45, b_46)).bind fun x_47 => m_bad_place x_47.1).bind fun place_48 => ((((Out.ok ("place" : Str)).bind fun a_51 => (((Out.ok place_48).bind fun x => Out.ok (Un.ofO x)).bind fun a_49 => (Out.ok ()).bind fun b_50 => Out.ok (a_49, b_50)).bind fun b_52 => Out.ok (a_51, b_52)).bind fun x_53 => Out.ok (Pr.mk x_53.1 x_53.2.1)).bind fun told_54 => (((Out.ok place_48).bind fun x_55 => Out.ok (x_55.isNone)).bind fun b_56 => if b_56 = true then ((((Out.ok ("none" : Str)).bind fun a_59 => (((Out.ok (0 : Int)).bind fun x => Out.ok (Un.i x)).bind fun a_57 => (Out.ok ()).bind fun b_58 => Out.ok (a_57, b_58)).bind fun b_60 => Out.ok (a_59, b_60)).bind fun x_61 => Out.ok (Pr.mk x_61.1 x_61.2.1)).bind fun told_62 => (Out.ok (Sum.inl told_62))) else (Out.ok (Sum.inl told_54)))))))) (fun e_7 => ((((Out.ok (isaE (e_7).k .BadSign)).bind fun a_67 => ((Out.ok (isaE (e_7).k .BadLabel)).bind fun a_65 => ((Out.ok (isaE (e_7).k .BadNumber)).bind fun a_63 => (Out.ok ()).bind fun b_64 => Out.ok (a_63, b_64)).bind fun b_66 => Out.ok (a_65, b_66)).bind fun b_68 => Out.ok (a_67, b_68)).bind fun x_69 => Out.ok ([x_69.1, x_69.2.1, x_69.2.2.1])).bind fun kinds_70 => (((Out.ok kinds_70).bind fun i_76 => (((Out.ok (isaE (e_7).k .BadRow)).bind fun a_73 => ((Out.ok (isaE (e_7).k .BadSlots)).bind fun a_71 => (Out.ok ()).bind fun b_72 => Out.ok (a_71, b_72)).bind fun b_74 => Out.ok (a_73, b_74)).bind fun x_75 => Out.ok ([x_75.1, x_75.2.1])).bind fun j_77 => chk (lenOk (i_76.length + j_77.length)) (i_76 ++ j_77)).bind fun kinds_78 => ((((Out.ok kinds_78).bind fun i_79 => (Out.ok (0 : Int)).bind fun j_80 => item i_79 j_80).bind fun x_85 => if x_85 = true then ((((Out.ok true).bind fun x_81 => Out.ok ((kinds_78.countP fun z => decide (z = x_81) : Nat) : Int)).bind fun i_82 => (Out.ok (1 : Int)).bind fun j_83 => Out.ok (decide (i_82 = j_83))).bind fun x_84 => if x_84 = true then (Out.ok true) else Out.ok false) else Out.ok false).bind fun b_86 => if b_86 = true then ((((Out.ok ("BadSign" : Str)).bind fun a_89 => (((Err.fI e_7 "place").bind fun x => Out.ok (Un.i x)).bind fun a_87 => (Out.ok ()).bind fun b_88 => Out.ok (a_87, b_88)).bind fun b_90 => Out.ok (a_89, b_90)).bind fun x_91 => Out.ok (Pr.mk x_91.1 x_91.2.1)).bind fun r_92 => Out.ok (Sum.inr r_92)) else ((((Out.ok ("wrong" : Str)).bind fun a_95 => (((Out.ok (0 : Int)).bind fun x => Out.ok (Un.i x)).bind fun a_93 => (Out.ok ()).bind fun b_94 => Out.ok (a_93, b_94)).bind fun b_96 => Out.ok (a_95, b_96)).bind fun x_97 => Out.ok (Pr.mk x_97.1 x_97.2.1)).bind fun r_98 => Out.ok (Sum.inr r_98))))))).bind (Sum.elim (fun s_8 : (Pr Str Un) => ((Out.ok s_8).bind fun r_99 => Out.ok r_99)) Out.ok)))

def m__law_right (v_way : Int) (v_row : (List Int)) : Out Bool :=
  ((((Out.ok v_way).bind fun a_3 => ((Out.ok v_row).bind fun a_1 => (Out.ok ()).bind fun b_2 => Out.ok (a_1, b_2)).bind fun b_4 => Out.ok (a_3, b_4)).bind fun x_5 => m__law_due x_5.1 x_5.2.1).bind fun due_6 => (((Out.ok v_row).bind fun x_7 => Out.ok x_7).bind fun handed_8 => ((((Out.ok v_way).bind fun a_11 => ((Out.ok handed_8).bind fun a_9 => (Out.ok ()).bind fun b_10 => Out.ok (a_9, b_10)).bind fun b_12 => Out.ok (a_11, b_12)).bind fun x_13 => m__law_told x_13.1 x_13.2.1).bind fun told_14 => ((((Out.ok told_14.a).bind fun i_15 => (Out.ok due_6.a).bind fun j_16 => Out.ok (!decide (i_15 = j_16))).bind fun x_23 => if x_23 = true then Out.ok true else ((((Out.ok handed_8).bind fun a_19 => ((Out.ok v_row).bind fun a_17 => (Out.ok ()).bind fun b_18 => Out.ok (a_17, b_18)).bind fun b_20 => Out.ok (a_19, b_20)).bind fun x_21 => m__law_row x_21.1 x_21.2.1).bind fun x_22 => Out.ok (!x_22))).bind fun b_24 => if b_24 = true then ((Out.ok false).bind fun r_25 => Out.ok r_25) else (((Out.ok due_6.a).bind fun i_26 => (Out.ok ("row" : Str)).bind fun j_27 => Out.ok (!decide (i_26 = j_27))).bind fun b_28 => if b_28 = true then (((((Un.toI told_14.b).bind fun a_29 => (Out.ok ()).bind fun b_30 => Out.ok (a_29, b_30)).bind fun x_31 => m__law_whole x_31.1).bind fun x_34 => if x_34 = true then ((Un.toI told_14.b).bind fun i_32 => (Un.toI due_6.b).bind fun j_33 => Out.ok (decide (i_32 = j_33))) else Out.ok false).bind fun r_35 => Out.ok r_35) else (((((Un.toL told_14.b).bind fun a_38 => ((Un.toL due_6.b).bind fun a_36 => (Out.ok ()).bind fun b_37 => Out.ok (a_36, b_37)).bind fun b_39 => Out.ok (a_38, b_39)).bind fun x_40 => m__law_row x_40.1 x_40.2.1).bind fun x_41 => Out.ok (!x_41)).bind fun b_42 => if b_42 = true then ((Out.ok false).bind fun r_43 => Out.ok r_43) else ((Un.toL told_14.b).bind fun xs_44 => (Out.ok (3 : Int)).bind fun y_45 => (appL xs_44 y_45).bind fun ys_46 => (fun told_47 : (Pr Str Un) => (((((Out.ok handed_8).bind fun a_50 => ((Out.ok v_row).bind fun a_48 => (Out.ok ()).bind fun b_49 => Out.ok (a_48, b_49)).bind fun b_51 => Out.ok (a_50, b_51)).bind fun x_52 => m__law_row x_52.1 x_52.2.1).bind fun x_53 => Out.ok (!x_53)).bind fun b_54 => if b_54 = true then ((Out.ok false).bind fun r_55 => Out.ok r_55) else ((Out.ok (0 : Int)).bind fun y_56 => (appL handed_8 y_56).bind fun handed_57 => ((((Un.toL told_47.b).bind fun a_65 => (((Un.toL due_6.b).bind fun i_61 => (((Out.ok (3 : Int)).bind fun a_58 => (Out.ok ()).bind fun b_59 => Out.ok (a_58, b_59)).bind fun x_60 => Out.ok ([x_60.1])).bind fun j_62 => chk (lenOk (i_61.length + j_62.length)) (i_61 ++ j_62)).bind fun a_63 => (Out.ok ()).bind fun b_64 => Out.ok (a_63, b_64)).bind fun b_66 => Out.ok (a_65, b_66)).bind fun x_67 => m__law_row x_67.1 x_67.2.1).bind fun r_68 => Out.ok r_68)))) (Pr.mk told_14.a (Un.l ys_46)))))))))

def m__law_labelled_due (v_shape : (List Int)) (v_labels : (List Int)) : Out (Pr Str Un) :=
  ((((Out.ok v_shape).bind fun x_1 => Out.ok (x_1.length : Int)).bind fun n_2 => chk (rngOk n_2) (rangeI 0 n_2.toNat)).bind fun xs => (forL (fun (x_4 : Int) (s_3 : Unit) => ((((Out.ok (0 : Int)).bind fun i_7 => ((Out.ok v_shape).bind fun i_5 => (Out.ok x_4).bind fun j_6 => item i_5 j_6).bind fun j_8 => Out.ok (decide (i_7 ≤ j_8) && decide (j_8 ≤ (1 : Int)))).bind fun x_10 => Out.ok (!x_10)).bind fun b_11 => if b_11 = true then ((((Out.ok ("BadSign" : Str)).bind fun a_14 => (((Out.ok x_4).bind fun x => Out.ok (Un.i x)).bind fun a_12 => (Out.ok ()).bind fun b_13 => Out.ok (a_12, b_13)).bind fun b_15 => Out.ok (a_14, b_15)).bind fun x_16 => Out.ok (Pr.mk x_16.1 x_16.2.1)).bind fun r_17 => Out.ok (Ctl.out r_17)) else (Out.ok (Ctl.nxt ())))) xs ()).bind (Aft.go fun s_3 : Unit => ((Out.ok v_labels).bind fun xs => (forL (fun (x_19 : Int) (s_18 : Unit) => ((((Out.ok (1 : Int)).bind fun i_20 => (Out.ok x_19).bind fun j_21 => Out.ok (decide (i_20 ≤ j_21) && decide (j_21 ≤ (9 : Int)))).bind fun x_23 => Out.ok (!x_23)).bind fun b_24 => if b_24 = true then ((((Out.ok ("BadLabel" : Str)).bind fun a_27 => (((Out.ok x_19).bind fun x => Out.ok (Un.i x)).bind fun a_25 => (Out.ok ()).bind fun b_26 => Out.ok (a_25, b_26)).bind fun b_28 => Out.ok (a_27, b_28)).bind fun x_29 => Out.ok (Pr.mk x_29.1 x_29.2.1)).bind fun r_30 => Out.ok (Ctl.out r_30)) else (Out.ok (Ctl.nxt ())))) xs ()).bind (Aft.go fun s_18 : Unit => ((((Out.ok v_labels).bind fun x_31 => Out.ok (x_31.length : Int)).bind fun i_33 => ((Out.ok v_shape).bind fun x_32 => Out.ok x_32.sum).bind fun j_34 => Out.ok (!decide (i_33 = j_34))).bind fun b_35 => if b_35 = true then ((((Out.ok ("BadNumber" : Str)).bind fun a_39 => ((((Out.ok v_labels).bind fun x_36 => Out.ok (x_36.length : Int)).bind fun x => Out.ok (Un.i x)).bind fun a_37 => (Out.ok ()).bind fun b_38 => Out.ok (a_37, b_38)).bind fun b_40 => Out.ok (a_39, b_40)).bind fun x_41 => Out.ok (Pr.mk x_41.1 x_41.2.1)).bind fun r_42 => Out.ok r_42) else ((Out.ok ([] : (List Int))).bind fun row_43 => ((Out.ok (0 : Int)).bind fun used_44 => ((Out.ok v_shape).bind fun xs => (forL (fun (x_46 : Int) (s_45 : (List Int) × Int) => ((((Out.ok x_46).bind fun i_47 => (Out.ok (1 : Int)).bind fun j_48 => Out.ok (decide (i_47 = j_48))).bind fun x_51 => if x_51 = true then ((Out.ok v_labels).bind fun i_49 => (Out.ok s_45.2).bind fun j_50 => item i_49 j_50) else (Out.ok (0 : Int))).bind fun y_52 => (appL s_45.1 y_52).bind fun row_53 => (((Out.ok s_45.2).bind fun i_55 => (Out.ok x_46).bind fun j_56 => Out.ok (i_55 + j_56)).bind fun used_57 => (Out.ok (Ctl.nxt (row_53, used_57)))))) xs (row_43, used_44)).bind (Aft.go fun s_45 : (List Int) × Int => ((((Out.ok ("row" : Str)).bind fun a_60 => (((Out.ok s_45.1).bind fun x => Out.ok (Un.l x)).bind fun a_58 => (Out.ok ()).bind fun b_59 => Out.ok (a_58, b_59)).bind fun b_61 => Out.ok (a_60, b_61)).bind fun x_62 => Out.ok (Pr.mk x_62.1 x_62.2.1)).bind fun r_63 => Out.ok r_63))))))))))

def m__law_labelled_told (v_shape : (List Int)) (v_labels : (List Int)) : Out (Pr Str Un) :=
  ((((Out.ok ("wrong" : Str)).bind fun a_3 => (((Out.ok (0 : Int)).bind fun x => Out.ok (Un.i x)).bind fun a_1 => (Out.ok ()).bind fun b_2 => Out.ok (a_1, b_2)).bind fun b_4 => Out.ok (a_3, b_4)).bind fun x_5 => Out.ok (Pr.mk x_5.1 x_5.2.1)).bind fun told_6 => ((tryE pk ((((Out.ok ("row" : Str)).bind fun a_16 => (((((Out.ok v_shape).bind fun a_11 => ((Out.ok v_labels).bind fun a_9 => (Out.ok ()).bind fun b_10 => Out.ok (a_9, b_10)).bind fun b_12 => Out.ok (a_11, b_12)).bind fun x_13 => m_labelled x_13.1 x_13.2.1).bind fun x => Out.ok (Un.l x)).bind fun a_14 => (Out.ok ()).bind fun b_15 => Out.ok (a_14, b_15)).bind fun b_17 => Out.ok (a_16, b_17)).bind fun x_18 => Out.ok (Pr.mk x_18.1 x_18.2.1)).bind fun told_19 => (Out.ok (Sum.inl told_19))) (fun e_7 => ((((Out.ok (isaE (e_7).k .BadSign)).bind fun a_24 => ((Out.ok (isaE (e_7).k .BadLabel)).bind fun a_22 => ((Out.ok (isaE (e_7).k .BadNumber)).bind fun a_20 => (Out.ok ()).bind fun b_21 => Out.ok (a_20, b_21)).bind fun b_23 => Out.ok (a_22, b_23)).bind fun b_25 => Out.ok (a_24, b_25)).bind fun x_26 => Out.ok ([x_26.1, x_26.2.1, x_26.2.2.1])).bind fun kinds_27 => (((Out.ok kinds_27).bind fun i_33 => (((Out.ok (isaE (e_7).k .BadRow)).bind fun a_30 => ((Out.ok (isaE (e_7).k .BadSlots)).bind fun a_28 => (Out.ok ()).bind fun b_29 => Out.ok (a_28, b_29)).bind fun b_31 => Out.ok (a_30, b_31)).bind fun x_32 => Out.ok ([x_32.1, x_32.2.1])).bind fun j_34 => chk (lenOk (i_33.length + j_34.length)) (i_33 ++ j_34)).bind fun kinds_35 => (((((Out.ok true).bind fun x_36 => Out.ok ((kinds_35.countP fun z => decide (z = x_36) : Nat) : Int)).bind fun i_37 => (Out.ok (1 : Int)).bind fun j_38 => Out.ok (!decide (i_37 = j_38))).bind fun x_40 => if x_40 = true then Out.ok true else ((Out.ok true).bind fun x_39 => Out.ok (!x_39))).bind fun b_41 => if b_41 = true then ((((Out.ok ("wrong" : Str)).bind fun a_44 => (((Out.ok (0 : Int)).bind fun x => Out.ok (Un.i x)).bind fun a_42 => (Out.ok ()).bind fun b_43 => Out.ok (a_42, b_43)).bind fun b_45 => Out.ok (a_44, b_45)).bind fun x_46 => Out.ok (Pr.mk x_46.1 x_46.2.1)).bind fun r_47 => Out.ok (Sum.inr r_47)) else (((Out.ok kinds_35).bind fun i_48 => (Out.ok (0 : Int)).bind fun j_49 => item i_48 j_49).bind fun b_50 => if b_50 = true then ((((Out.ok ("BadSign" : Str)).bind fun a_53 => (((Err.fI e_7 "place").bind fun x => Out.ok (Un.i x)).bind fun a_51 => (Out.ok ()).bind fun b_52 => Out.ok (a_51, b_52)).bind fun b_54 => Out.ok (a_53, b_54)).bind fun x_55 => Out.ok (Pr.mk x_55.1 x_55.2.1)).bind fun r_56 => Out.ok (Sum.inr r_56)) else (((Out.ok kinds_35).bind fun i_57 => (Out.ok (1 : Int)).bind fun j_58 => item i_57 j_58).bind fun b_59 => if b_59 = true then ((((Out.ok ("BadLabel" : Str)).bind fun a_62 => (((Err.fI e_7 "label").bind fun x => Out.ok (Un.i x)).bind fun a_60 => (Out.ok ()).bind fun b_61 => Out.ok (a_60, b_61)).bind fun b_63 => Out.ok (a_62, b_63)).bind fun x_64 => Out.ok (Pr.mk x_64.1 x_64.2.1)).bind fun r_65 => Out.ok (Sum.inr r_65)) else (((Out.ok kinds_35).bind fun i_66 => (Out.ok (2 : Int)).bind fun j_67 => item i_66 j_67).bind fun b_68 => if b_68 = true then ((((Out.ok ("BadNumber" : Str)).bind fun a_71 => (((Err.fI e_7 "value").bind fun x => Out.ok (Un.i x)).bind fun a_69 => (Out.ok ()).bind fun b_70 => Out.ok (a_69, b_70)).bind fun b_72 => Out.ok (a_71, b_72)).bind fun x_73 => Out.ok (Pr.mk x_73.1 x_73.2.1)).bind fun r_74 => Out.ok (Sum.inr r_74)) else ((((Out.ok ("wrong" : Str)).bind fun a_77 => (((Out.ok (0 : Int)).bind fun x => Out.ok (Un.i x)).bind fun a_75 => (Out.ok ()).bind fun b_76 => Out.ok (a_75, b_76)).bind fun b_78 => Out.ok (a_77, b_78)).bind fun x_79 => Out.ok (Pr.mk x_79.1 x_79.2.1)).bind fun r_80 => Out.ok (Sum.inr r_80)))))))))).bind (Sum.elim (fun s_8 : (Pr Str Un) => ((Out.ok s_8).bind fun r_81 => Out.ok r_81)) Out.ok)))

def m__law_labelled_right (v_shape : (List Int)) (v_labels : (List Int)) : Out Bool :=
  ((((Out.ok v_shape).bind fun a_3 => ((Out.ok v_labels).bind fun a_1 => (Out.ok ()).bind fun b_2 => Out.ok (a_1, b_2)).bind fun b_4 => Out.ok (a_3, b_4)).bind fun x_5 => m__law_labelled_due x_5.1 x_5.2.1).bind fun due_6 => (((Out.ok v_shape).bind fun x_7 => Out.ok x_7).bind fun handed_8 => (((Out.ok v_labels).bind fun x_9 => Out.ok x_9).bind fun other_10 => ((((Out.ok handed_8).bind fun a_13 => ((Out.ok other_10).bind fun a_11 => (Out.ok ()).bind fun b_12 => Out.ok (a_11, b_12)).bind fun b_14 => Out.ok (a_13, b_14)).bind fun x_15 => m__law_labelled_told x_15.1 x_15.2.1).bind fun told_16 => ((((((Out.ok handed_8).bind fun a_19 => ((Out.ok v_shape).bind fun a_17 => (Out.ok ()).bind fun b_18 => Out.ok (a_17, b_18)).bind fun b_20 => Out.ok (a_19, b_20)).bind fun x_21 => m__law_row x_21.1 x_21.2.1).bind fun x_22 => Out.ok (!x_22)).bind fun x_29 => if x_29 = true then Out.ok true else ((((Out.ok other_10).bind fun a_25 => ((Out.ok v_labels).bind fun a_23 => (Out.ok ()).bind fun b_24 => Out.ok (a_23, b_24)).bind fun b_26 => Out.ok (a_25, b_26)).bind fun x_27 => m__law_row x_27.1 x_27.2.1).bind fun x_28 => Out.ok (!x_28))).bind fun b_30 => if b_30 = true then ((Out.ok false).bind fun r_31 => Out.ok r_31) else (((Out.ok told_16.a).bind fun i_32 => (Out.ok due_6.a).bind fun j_33 => Out.ok (!decide (i_32 = j_33))).bind fun b_34 => if b_34 = true then ((Out.ok false).bind fun r_35 => Out.ok r_35) else (((Out.ok due_6.a).bind fun i_36 => (Out.ok ("row" : Str)).bind fun j_37 => Out.ok (!decide (i_36 = j_37))).bind fun b_38 => if b_38 = true then (((((Un.toI told_16.b).bind fun a_39 => (Out.ok ()).bind fun b_40 => Out.ok (a_39, b_40)).bind fun x_41 => m__law_whole x_41.1).bind fun x_44 => if x_44 = true then ((Un.toI told_16.b).bind fun i_42 => (Un.toI due_6.b).bind fun j_43 => Out.ok (decide (i_42 = j_43))) else Out.ok false).bind fun r_45 => Out.ok r_45) else (((((Un.toL told_16.b).bind fun a_48 => ((Un.toL due_6.b).bind fun a_46 => (Out.ok ()).bind fun b_47 => Out.ok (a_46, b_47)).bind fun b_49 => Out.ok (a_48, b_49)).bind fun x_50 => m__law_row x_50.1 x_50.2.1).bind fun x_51 => Out.ok (!x_51)).bind fun b_52 => if b_52 = true then ((Out.ok false).bind fun r_53 => Out.ok r_53) else ((Un.toL told_16.b).bind fun xs_54 => (Out.ok (0 : Int)).bind fun y_55 => (appL xs_54 y_55).bind fun ys_56 => (fun told_57 : (Pr Str Un) => (((((Out.ok handed_8).bind fun a_60 => ((Out.ok v_shape).bind fun a_58 => (Out.ok ()).bind fun b_59 => Out.ok (a_58, b_59)).bind fun b_61 => Out.ok (a_60, b_61)).bind fun x_62 => m__law_row x_62.1 x_62.2.1).bind fun x_68 => if x_68 = true then (((Out.ok other_10).bind fun a_65 => ((Out.ok v_labels).bind fun a_63 => (Out.ok ()).bind fun b_64 => Out.ok (a_63, b_64)).bind fun b_66 => Out.ok (a_65, b_66)).bind fun x_67 => m__law_row x_67.1 x_67.2.1) else Out.ok false).bind fun r_69 => Out.ok r_69)) (Pr.mk told_16.a (Un.l ys_56)))))))))))

def m__law_spoilt (v_row : (List Int)) (v_members : (List Int)) (v_three : (List Int)) : Out (List Int) :=
  ((((Out.ok v_three).bind fun i_1 => (Out.ok (0 : Int)).bind fun j_2 => item i_1 j_2).bind fun i_8 => (((Out.ok v_row).bind fun x_3 => Out.ok (x_3.length : Int)).bind fun i_5 => (Out.ok (1 : Int)).bind fun j_6 => Out.ok (i_5 + j_6)).bind fun j_9 => chk (0 < j_9) (i_8 % j_9)).bind fun place_10 => (((Out.ok v_members).bind fun i_17 => (((Out.ok v_three).bind fun i_11 => (Out.ok (1 : Int)).bind fun j_12 => item i_11 j_12).bind fun i_15 => ((Out.ok v_members).bind fun x_13 => Out.ok (x_13.length : Int)).bind fun j_16 => chk (0 < j_16) (i_15 % j_16)).bind fun j_18 => item i_17 j_18).bind fun member_19 => (((((Out.ok v_three).bind fun i_20 => (Out.ok (2 : Int)).bind fun j_21 => item i_20 j_21).bind fun i_22 => Out.ok (i_22 % (5 : Int))).bind fun i_23 => (Out.ok (0 : Int)).bind fun j_24 => Out.ok (decide (i_23 = j_24))).bind fun b_25 => if b_25 = true then (((((Out.ok v_row).bind fun x_27 => (Out.ok none).bind fun l_28 => ((Out.ok place_10).bind fun i_26 => Out.ok (some i_26)).bind fun h_29 => Out.ok (cut x_27 l_28 h_29)).bind fun i_33 => (((Out.ok member_19).bind fun a_30 => (Out.ok ()).bind fun b_31 => Out.ok (a_30, b_31)).bind fun x_32 => Out.ok ([x_32.1])).bind fun j_34 => chk (lenOk (i_33.length + j_34.length)) (i_33 ++ j_34)).bind fun i_42 => ((Out.ok v_row).bind fun x_39 => (((Out.ok place_10).bind fun i_36 => (Out.ok (1 : Int)).bind fun j_37 => Out.ok (i_36 + j_37)).bind fun i_38 => Out.ok (some i_38)).bind fun l_40 => (Out.ok none).bind fun h_41 => Out.ok (cut x_39 l_40 h_41)).bind fun j_43 => chk (lenOk (i_42.length + j_43.length)) (i_42 ++ j_43)).bind fun r_44 => Out.ok r_44) else (((((Out.ok v_three).bind fun i_45 => (Out.ok (2 : Int)).bind fun j_46 => item i_45 j_46).bind fun i_47 => Out.ok (i_47 % (5 : Int))).bind fun i_48 => (Out.ok (1 : Int)).bind fun j_49 => Out.ok (decide (i_48 = j_49))).bind fun b_50 => if b_50 = true then (((((Out.ok v_row).bind fun x_52 => (Out.ok none).bind fun l_53 => ((Out.ok place_10).bind fun i_51 => Out.ok (some i_51)).bind fun h_54 => Out.ok (cut x_52 l_53 h_54)).bind fun i_58 => (((Out.ok member_19).bind fun a_55 => (Out.ok ()).bind fun b_56 => Out.ok (a_55, b_56)).bind fun x_57 => Out.ok ([x_57.1])).bind fun j_59 => chk (lenOk (i_58.length + j_59.length)) (i_58 ++ j_59)).bind fun i_64 => ((Out.ok v_row).bind fun x_61 => ((Out.ok place_10).bind fun i_60 => Out.ok (some i_60)).bind fun l_62 => (Out.ok none).bind fun h_63 => Out.ok (cut x_61 l_62 h_63)).bind fun j_65 => chk (lenOk (i_64.length + j_65.length)) (i_64 ++ j_65)).bind fun r_66 => Out.ok r_66) else (((((Out.ok v_three).bind fun i_67 => (Out.ok (2 : Int)).bind fun j_68 => item i_67 j_68).bind fun i_69 => Out.ok (i_69 % (5 : Int))).bind fun i_70 => (Out.ok (2 : Int)).bind fun j_71 => Out.ok (decide (i_70 = j_71))).bind fun b_72 => if b_72 = true then ((((Out.ok v_row).bind fun x_74 => (Out.ok none).bind fun l_75 => ((Out.ok place_10).bind fun i_73 => Out.ok (some i_73)).bind fun h_76 => Out.ok (cut x_74 l_75 h_76)).bind fun i_84 => ((Out.ok v_row).bind fun x_81 => (((Out.ok place_10).bind fun i_78 => (Out.ok (1 : Int)).bind fun j_79 => Out.ok (i_78 + j_79)).bind fun i_80 => Out.ok (some i_80)).bind fun l_82 => (Out.ok none).bind fun h_83 => Out.ok (cut x_81 l_82 h_83)).bind fun j_85 => chk (lenOk (i_84.length + j_85.length)) (i_84 ++ j_85)).bind fun r_86 => Out.ok r_86) else (((Out.ok v_row).bind fun x_87 => Out.ok x_87).bind fun r_88 => Out.ok r_88))))))

def m_law (v_script : Scr) : Out Bool :=
  ((((Out.ok v_script).bind fun a_3 => ((Out.ok (360 : Int)).bind fun a_1 => (Out.ok ()).bind fun b_2 => Out.ok (a_1, b_2)).bind fun b_4 => Out.ok (a_3, b_4)).bind fun x_5 => m__law_digits x_5.1 x_5.2.1).bind fun digits_6 => (((((Out.ok digits_6).bind fun i_7 => (Out.ok (0 : Int)).bind fun j_8 => item i_7 j_8).bind fun i_10 => (Out.ok (9 : Int)).bind fun j_11 => Out.ok (i_10 + j_11)).bind fun i_12 => Out.ok (i_12 % (41 : Int))).bind fun size_13 => (((((Out.ok digits_6).bind fun i_14 => (Out.ok (1 : Int)).bind fun j_15 => item i_14 j_15).bind fun i_16 => Out.ok (i_16 % (8 : Int))).bind fun i_17 => (Out.ok (7 : Int)).bind fun j_18 => Out.ok (decide (i_17 = j_18))).bind fun b_19 => Out.bind (if b_19 = true then ((((Out.ok digits_6).bind fun i_21 => (Out.ok (0 : Int)).bind fun j_22 => item i_21 j_22).bind fun i_23 => Out.ok (i_23 % (61 : Int))).bind fun size_24 => (Out.ok size_24)) else (Out.ok size_13)) (fun s_20 : Int => ((((((Out.ok digits_6).bind fun a_36 => (((Out.ok (1 : Int)).bind fun i_32 => ((((Out.ok digits_6).bind fun i_25 => (Out.ok (2 : Int)).bind fun j_26 => item i_25 j_26).bind fun i_28 => (Out.ok (5 : Int)).bind fun j_29 => Out.ok (i_28 + j_29)).bind fun i_30 => Out.ok (i_30 % (24 : Int))).bind fun j_33 => Out.ok (i_32 + j_33)).bind fun a_34 => (Out.ok ()).bind fun b_35 => Out.ok (a_34, b_35)).bind fun b_37 => Out.ok (a_36, b_37)).bind fun x_38 => m__law_drawn x_38.1 x_38.2.1).bind fun a_39 => (Out.ok ()).bind fun b_40 => Out.ok (a_39, b_40)).bind fun x_41 => m__law_signs x_41.1).bind fun tree_42 => ((((Out.ok digits_6).bind fun a_47 => ((Out.ok (60 : Int)).bind fun a_45 => ((Out.ok s_20).bind fun a_43 => (Out.ok ()).bind fun b_44 => Out.ok (a_43, b_44)).bind fun b_46 => Out.ok (a_45, b_46)).bind fun b_48 => Out.ok (a_47, b_48)).bind fun x_49 => m__law_segment x_49.1 x_49.2.1 x_49.2.2.1).bind fun free_50 => ((((Out.ok ([] : (List Int))).bind fun a_68 => ((Out.ok tree_42).bind fun a_66 => ((Out.ok free_50).bind fun a_64 => (((Out.ok tree_42).bind fun x_52 => ((Out.ok (1 : Int)).bind fun i_51 => Out.ok (some i_51)).bind fun l_53 => (Out.ok none).bind fun h_54 => Out.ok (cut x_52 l_53 h_54)).bind fun a_62 => (((Out.ok tree_42).bind fun x_57 => (Out.ok none).bind fun l_58 => (((Out.ok (1 : Int)).bind fun x_55 => Out.ok (-x_55)).bind fun i_56 => Out.ok (some i_56)).bind fun h_59 => Out.ok (cut x_57 l_58 h_59)).bind fun a_60 => (Out.ok ()).bind fun b_61 => Out.ok (a_60, b_61)).bind fun b_63 => Out.ok (a_62, b_63)).bind fun b_65 => Out.ok (a_64, b_65)).bind fun b_67 => Out.ok (a_66, b_67)).bind fun b_69 => Out.ok (a_68, b_69)).bind fun x_70 => Out.ok ([x_70.1, x_70.2.1, x_70.2.2.1, x_70.2.2.2.1, x_70.2.2.2.2.1])).bind fun rows_71 => (((Out.ok rows_71).bind fun i_93 => ((((Out.ok tree_42).bind fun i_75 => (((Out.ok (0 : Int)).bind fun a_72 => (Out.ok ()).bind fun b_73 => Out.ok (a_72, b_73)).bind fun x_74 => Out.ok ([x_74.1])).bind fun j_76 => chk (lenOk (i_75.length + j_76.length)) (i_75 ++ j_76)).bind fun a_90 => (((Out.ok tree_42).bind fun i_86 => ((((Out.ok (1 : Int)).bind fun i_81 => (((Out.ok digits_6).bind fun i_77 => (Out.ok (6 : Int)).bind fun j_78 => item i_77 j_78).bind fun i_79 => Out.ok (i_79 % (9 : Int))).bind fun j_82 => Out.ok (i_81 + j_82)).bind fun a_83 => (Out.ok ()).bind fun b_84 => Out.ok (a_83, b_84)).bind fun x_85 => Out.ok ([x_85.1])).bind fun j_87 => chk (lenOk (i_86.length + j_87.length)) (i_86 ++ j_87)).bind fun a_88 => (Out.ok ()).bind fun b_89 => Out.ok (a_88, b_89)).bind fun b_91 => Out.ok (a_90, b_91)).bind fun x_92 => Out.ok ([x_92.1, x_92.2.1])).bind fun j_94 => chk (lenOk (i_93.length + j_94.length)) (i_93 ++ j_94)).bind fun rows_95 => (((Out.ok (8 : Int)).bind fun n_96 => chk (rngOk n_96) (rangeI 0 n_96.toNat)).bind fun xs => (forL (fun (x_98 : Int) (s_97 : (List (List Int))) => ((((Out.ok x_98).bind fun i_99 => (Out.ok (5 : Int)).bind fun j_100 => Out.ok (decide (j_100 < i_99))).bind fun x_101 => if x_101 = true then (Out.ok free_50) else (Out.ok tree_42)).bind fun row_102 => ((((Out.ok row_102).bind fun a_118 => (((Out.ok digits_6).bind fun x_113 => (((Out.ok (260 : Int)).bind fun i_105 => ((Out.ok x_98).bind fun i_103 => Out.ok ((5 : Int) * i_103)).bind fun j_106 => Out.ok (i_105 + j_106)).bind fun i_111 => Out.ok (some i_111)).bind fun l_114 => (((Out.ok (265 : Int)).bind fun i_109 => ((Out.ok x_98).bind fun i_107 => Out.ok ((5 : Int) * i_107)).bind fun j_110 => Out.ok (i_109 + j_110)).bind fun i_112 => Out.ok (some i_112)).bind fun h_115 => Out.ok (cut x_113 l_114 h_115)).bind fun a_116 => (Out.ok ()).bind fun b_117 => Out.ok (a_116, b_117)).bind fun b_119 => Out.ok (a_118, b_119)).bind fun x_120 => m__law_bent_row x_120.1 x_120.2.1).bind fun y_121 => (appL s_97 y_121).bind fun rows_122 => (Out.ok (Ctl.nxt rows_122))))) xs rows_95).bind (Aft.go fun s_97 : (List (List Int)) => ((((((Out.ok s_97).bind fun i_123 => (Out.ok (13 : Int)).bind fun j_124 => item i_123 j_124).bind fun i_128 => (((Out.ok (10 : Int)).bind fun a_125 => (Out.ok ()).bind fun b_126 => Out.ok (a_125, b_126)).bind fun x_127 => Out.ok ([x_127.1])).bind fun j_129 => chk (lenOk (i_128.length + j_129.length)) (i_128 ++ j_129)).bind fun i_132 => ((Out.ok s_97).bind fun i_130 => (Out.ok (7 : Int)).bind fun j_131 => item i_130 j_131).bind fun j_133 => chk (lenOk (i_132.length + j_133.length)) (i_132 ++ j_133)).bind fun i_138 => ((((Out.ok (1 : Int)).bind fun x_134 => Out.ok (-x_134)).bind fun a_135 => (Out.ok ()).bind fun b_136 => Out.ok (a_135, b_136)).bind fun x_137 => Out.ok ([x_137.1])).bind fun j_139 => chk (lenOk (i_138.length + j_139.length)) (i_138 ++ j_139)).bind fun y_140 => (appL s_97 y_140).bind fun rows_141 => ((((((Out.ok ((2 : Int) ^ (64 : Int).toNat)).bind fun i_142 => Out.ok (i_142 * (31 : Int))).bind fun a_143 => (Out.ok ()).bind fun b_144 => Out.ok (a_143, b_144)).bind fun x_145 => Out.ok ([x_145.1])).bind fun i_148 => ((Out.ok rows_141).bind fun i_146 => (Out.ok (14 : Int)).bind fun j_147 => item i_146 j_147).bind fun j_149 => chk (lenOk (i_148.length + j_149.length)) (i_148 ++ j_149)).bind fun y_150 => (appL rows_141 y_150).bind fun rows_151 => ((Out.ok rows_151).bind fun xs => (forL (fun (x_153 : (List Int)) (s_152 : Unit) => (((Out.ok (4 : Int)).bind fun n_154 => chk (rngOk n_154) (rangeI 0 n_154.toNat)).bind fun xs => (forL (fun (x_156 : Int) (s_155 : Unit) => (((((Out.ok x_156).bind fun a_159 => ((Out.ok x_153).bind fun a_157 => (Out.ok ()).bind fun b_158 => Out.ok (a_157, b_158)).bind fun b_160 => Out.ok (a_159, b_160)).bind fun x_161 => m__law_right x_161.1 x_161.2.1).bind fun x_162 => Out.ok (!x_162)).bind fun b_163 => if b_163 = true then ((Out.ok false).bind fun r_164 => Out.ok (Ctl.out (Ctl.out r_164))) else (Out.ok (Ctl.nxt ())))) xs ()).bind (Aft.go fun s_155 : Unit => (Out.ok (Ctl.nxt ()))))) xs ()).bind (Aft.go fun s_152 : Unit => (((Out.ok ((2 : Int) ^ (64 : Int).toNat)).bind fun i_165 => Out.ok (i_165 * (31 : Int))).bind fun far_166 => (((Out.ok (6 : Int)).bind fun n_167 => chk (rngOk n_167) (rangeI 0 n_167.toNat)).bind fun xs => (forL (fun (x_169 : Int) (s_168 : Unit) => (((Out.ok digits_6).bind fun x_180 => (((Out.ok (300 : Int)).bind fun i_172 => ((Out.ok x_169).bind fun i_170 => Out.ok ((6 : Int) * i_170)).bind fun j_173 => Out.ok (i_172 + j_173)).bind fun i_178 => Out.ok (some i_178)).bind fun l_181 => (((Out.ok (306 : Int)).bind fun i_176 => ((Out.ok x_169).bind fun i_174 => Out.ok ((6 : Int) * i_174)).bind fun j_177 => Out.ok (i_176 + j_177)).bind fun i_179 => Out.ok (some i_179)).bind fun h_182 => Out.ok (cut x_180 l_181 h_182)).bind fun six_183 => (((((Out.ok tree_42).bind fun a_186 => ((Out.ok free_50).bind fun a_184 => (Out.ok ()).bind fun b_185 => Out.ok (a_184, b_185)).bind fun b_187 => Out.ok (a_186, b_187)).bind fun x_188 => Out.ok ([x_188.1, x_188.2.1])).bind fun i_190 => ((Out.ok x_169).bind fun i_189 => Out.ok (i_189 % (2 : Int))).bind fun j_191 => item i_190 j_191).bind fun row_192 => (((Out.ok row_192).bind fun xs => lcL (fun x_193 => (Out.ok true)) (fun x_193 => (((Out.ok x_193).bind fun i_194 => (Out.ok (0 : Int)).bind fun j_195 => Out.ok (decide (j_195 < i_194))).bind fun x_196 => Out.ok (if x_196 = true then (1 : Int) else 0))) xs []).bind fun shape_197 => (((Out.ok row_192).bind fun xs => lcL (fun x_198 => ((Out.ok x_198).bind fun i_199 => (Out.ok (0 : Int)).bind fun j_200 => Out.ok (decide (j_200 < i_199)))) (fun x_198 => (Out.ok x_198)) xs []).bind fun labels_201 => (((((Out.ok shape_197).bind fun a_204 => ((Out.ok labels_201).bind fun a_202 => (Out.ok ()).bind fun b_203 => Out.ok (a_202, b_203)).bind fun b_205 => Out.ok (a_204, b_205)).bind fun x_206 => m__law_labelled_right x_206.1 x_206.2.1).bind fun x_207 => Out.ok (!x_207)).bind fun b_208 => if b_208 = true then ((Out.ok false).bind fun r_209 => Out.ok (Ctl.out r_209)) else ((((Out.ok shape_197).bind fun a_236 => ((((Out.ok (0 : Int)).bind fun a_225 => ((Out.ok (1 : Int)).bind fun a_223 => ((Out.ok (2 : Int)).bind fun a_221 => (((Out.ok (1 : Int)).bind fun x_210 => Out.ok (-x_210)).bind fun a_219 => ((Out.ok (9 : Int)).bind fun a_217 => ((Out.ok far_166).bind fun a_215 => ((Out.ok (1 : Int)).bind fun a_213 => ((Out.ok (0 : Int)).bind fun a_211 => (Out.ok ()).bind fun b_212 => Out.ok (a_211, b_212)).bind fun b_214 => Out.ok (a_213, b_214)).bind fun b_216 => Out.ok (a_215, b_216)).bind fun b_218 => Out.ok (a_217, b_218)).bind fun b_220 => Out.ok (a_219, b_220)).bind fun b_222 => Out.ok (a_221, b_222)).bind fun b_224 => Out.ok (a_223, b_224)).bind fun b_226 => Out.ok (a_225, b_226)).bind fun x_227 => Out.ok ([x_227.1, x_227.2.1, x_227.2.2.1, x_227.2.2.2.1, x_227.2.2.2.2.1, x_227.2.2.2.2.2.1, x_227.2.2.2.2.2.2.1, x_227.2.2.2.2.2.2.2.1])).bind fun a_234 => (((Out.ok six_183).bind fun x_229 => (Out.ok none).bind fun l_230 => ((Out.ok (3 : Int)).bind fun i_228 => Out.ok (some i_228)).bind fun h_231 => Out.ok (cut x_229 l_230 h_231)).bind fun a_232 => (Out.ok ()).bind fun b_233 => Out.ok (a_232, b_233)).bind fun b_235 => Out.ok (a_234, b_235)).bind fun b_237 => Out.ok (a_236, b_237)).bind fun x_238 => m__law_spoilt x_238.1 x_238.2.1 x_238.2.2.1).bind fun shape_239 => ((((Out.ok labels_201).bind fun a_267 => ((((Out.ok (0 : Int)).bind fun a_256 => ((Out.ok (10 : Int)).bind fun a_254 => (((Out.ok (1 : Int)).bind fun x_240 => Out.ok (-x_240)).bind fun a_252 => ((Out.ok far_166).bind fun a_250 => (((Out.ok far_166).bind fun x_241 => Out.ok (-x_241)).bind fun a_248 => ((Out.ok (1 : Int)).bind fun a_246 => ((Out.ok (5 : Int)).bind fun a_244 => ((Out.ok (9 : Int)).bind fun a_242 => (Out.ok ()).bind fun b_243 => Out.ok (a_242, b_243)).bind fun b_245 => Out.ok (a_244, b_245)).bind fun b_247 => Out.ok (a_246, b_247)).bind fun b_249 => Out.ok (a_248, b_249)).bind fun b_251 => Out.ok (a_250, b_251)).bind fun b_253 => Out.ok (a_252, b_253)).bind fun b_255 => Out.ok (a_254, b_255)).bind fun b_257 => Out.ok (a_256, b_257)).bind fun x_258 => Out.ok ([x_258.1, x_258.2.1, x_258.2.2.1, x_258.2.2.2.1, x_258.2.2.2.2.1, x_258.2.2.2.2.2.1, x_258.2.2.2.2.2.2.1, x_258.2.2.2.2.2.2.2.1])).bind fun a_265 => (((Out.ok six_183).bind fun x_260 => ((Out.ok (3 : Int)).bind fun i_259 => Out.ok (some i_259)).bind fun l_261 => (Out.ok none).bind fun h_262 => Out.ok (cut x_260 l_261 h_262)).bind fun a_263 => (Out.ok ()).bind fun b_264 => Out.ok (a_263, b_264)).bind fun b_266 => Out.ok (a_265, b_266)).bind fun b_268 => Out.ok (a_267, b_268)).bind fun x_269 => m__law_spoilt x_269.1 x_269.2.1 x_269.2.2.1).bind fun labels_270 => (((((Out.ok shape_239).bind fun a_273 => ((Out.ok labels_270).bind fun a_271 => (Out.ok ()).bind fun b_272 => Out.ok (a_271, b_272)).bind fun b_274 => Out.ok (a_273, b_274)).bind fun x_275 => m__law_labelled_right x_275.1 x_275.2.1).bind fun x_276 => Out.ok (!x_276)).bind fun b_277 => if b_277 = true then ((Out.ok false).bind fun r_278 => Out.ok (Ctl.out r_278)) else (Out.ok (Ctl.nxt ()))))))))))) xs ()).bind (Aft.go fun s_168 : Unit => (((((Out.ok (3 : Int)).bind fun a_281 => ((Out.ok tree_42).bind fun a_279 => (Out.ok ()).bind fun b_280 => Out.ok (a_279, b_280)).bind fun b_282 => Out.ok (a_281, b_282)).bind fun x_283 => m__law_right x_283.1 x_283.2.1).bind fun x_289 => if x_289 = true then (((Out.ok (3 : Int)).bind fun a_286 => ((Out.ok free_50).bind fun a_284 => (Out.ok ()).bind fun b_285 => Out.ok (a_284, b_285)).bind fun b_287 => Out.ok (a_286, b_287)).bind fun x_288 => m__law_right x_288.1 x_288.2.1) else Out.ok false).bind fun r_290 => Out.ok r_290))))))))))))))))))

end K06
set_option maxRecDepth 100000
set_option maxHeartbeats 4000000
namespace K06
open PySem PySem.Spec PyProof.Rows L2 Mw

/-! ### signs -/
def Good (x : Int) : Prop := 0 ≤ x ∧ x ≤ 9
instance (x : Int) : Decidable (Good x) := by unfold Good; infer_instance
/-- all good, or a first bad one -/
theorem good_or : ∀ row : List Int, (∀ x ∈ row, Good x) ∨ ∃ (n : Nat) (x : Int), row[n]? = some x ∧ ¬ Good x ∧ ∀ (i : Nat) (y : Int), i < n → row[i]? = some y → Good y
  | [] => .inl fun _ h => nomatch h
  | x :: xs => by
    by_cases h : Good x
    · rcases good_or xs with g | ⟨n, y, h1, h2, h3⟩
      · refine .inl fun z hz => ?_
        rcases List.mem_cons.mp hz with e | e
        · rw [e]; exact h
        · exact g z e
      · refine .inr ⟨n + 1, y, by simpa using h1, h2, fun i z hi hz => ?_⟩
        cases i with
        | zero =>
          have e : x = z := by simpa using hz
          rw [← e]
          exact h
        | succ i => exact h3 i z (by omega) (by simpa using hz)
    · exact .inr ⟨0, x, rfl, h, fun i y hi => absurd hi (Nat.not_lt_zero _)⟩
theorem good_at {row : List Int} (h : ∀ x ∈ row, Good x) {i : Nat} {y : Int} (e : row[i]? = some y) : Good y := h y (List.mem_of_getElem? e)
theorem enum_at {row : List Int} {i : Nat} {y : Int × Int} (h : (enumI 0 row)[i]? = some y) : row[i]? = some y.2 ∧ y = ((i : Int), y.2) := by
  obtain ⟨x, hx, e⟩ := enumI_get h
  subst e
  refine ⟨hx, ?_⟩
  simp
theorem range_at {lo : Int} {n i : Nat} {x : Int} (h : (rangeI lo n)[i]? = some x) : i < n ∧ x = lo + i := rangeI_get h

def ferr (n : Nat) : Err := ⟨.BadSign, some [("place", PyE.val (n : Int))]⟩
theorem checked_good {row : List Int} (h : ∀ x ∈ row, Good x) : m_checked_row row = .ok row := by
  unfold m_checked_row
  simp only [Out.bind_assoc, bnd_ok]
  rw [forL_run (fun _ => ())]
  · rfl
  · intro i y hy
    obtain ⟨h1, _⟩ := enum_at hy
    obtain ⟨g1, g2⟩ := good_at h h1
    have c1 : decide (y.2 < 0) = false := decide_eq_false (by omega)
    have c2 : decide (9 < y.2) = false := decide_eq_false (by omega)
    simp only [c1, c2, bnd_ok, Bool.false_eq_true, if_false]
theorem checked_bad {row : List Int} {n : Nat} {x : Int} (h1 : row[n]? = some x) (h2 : ¬ Good x) (h3 : ∀ (i : Nat) (y : Int), i < n → row[i]? = some y → Good y) : m_checked_row row = .err (ferr n) := by
  unfold m_checked_row
  simp only [Out.bind_assoc, bnd_ok]
  have e0 : (enumI 0 row)[n]? = some ((n : Int), x) := by
    have := enumI_at (k := 0) h1
    rw [this, Nat.zero_add]
  rw [forL_stopE (w := ferr n) (fun _ => ()) e0]
  · rfl
  · intro i y hi hy
    obtain ⟨e1, _⟩ := enum_at hy
    obtain ⟨g1, g2⟩ := h3 i _ hi e1
    have c1 : decide (y.2 < 0) = false := decide_eq_false (by omega)
    have c2 : decide (9 < y.2) = false := decide_eq_false (by omega)
    simp only [c1, c2, bnd_ok, Bool.false_eq_true, if_false]
  · unfold Good at h2
    by_cases hx : x < 0
    · have c1 : decide (x < 0) = true := decide_eq_true hx
      simp only [c1, bnd_ok, if_true]
      rfl
    · have c1 : decide (x < 0) = false := decide_eq_false hx
      have c2 : decide (9 < x) = true := decide_eq_true (by omega)
      simp only [c1, c2, bnd_ok, Bool.false_eq_true, if_false, if_true]
      rfl
/-! ### rows of the law -/
theorem row_self {a : List Int} (hl : a.length < 16777216) : m__law_row a a = .ok true := by
  have e : m__law_row a a = (chk (rngOk (a.length : Int)) (rangeI 0 (a.length : Int).toNat)).bind fun xs => (forL (fun (x : Int) (_ : Unit) => (item a x).bind fun _ => (item a x).bind fun y => (item a x).bind fun z => if (!decide (y = z)) = true then Out.ok (Ctl.out false) else Out.ok (Ctl.nxt ())) xs ()).bind (Aft.go fun _ => Out.ok true) := by
    unfold m__law_row m__law_whole
    simp only [Out.bind_assoc, bnd_ok, Bool.not_true, Bool.not_false, if_true, if_false, Bool.false_eq_true, decide_true]
  rw [e, rng0 (by omega), bnd_ok, forL_run (fun _ => ()), bnd_ok, go_fin]
  intro i x hx
  obtain ⟨h1, h2⟩ := range_at hx
  have e1 := item_at (xs := a) (List.getElem?_eq_getElem h1)
  rw [h2, Int.zero_add, e1, bnd_ok, bnd_ok, bnd_ok]
  rw [if_neg (by simp)]
theorem bad_good {row : List Int} (hl : row.length < 16777216) (h : ∀ x ∈ row, Good x) : m__law_bad_sign row = .ok (-1) := by
  unfold m__law_bad_sign
  simp only [Out.bind_assoc, bnd_ok]
  rw [rng0 (by omega), bnd_ok, forL_run (fun _ => ()), bnd_ok, go_fin]
  intro i x hx
  obtain ⟨h1, h2⟩ := range_at hx
  have e0 := List.getElem?_eq_getElem h1
  have e1 := item_at (xs := row) e0
  obtain ⟨g1, g2⟩ := good_at h e0
  rw [h2, Int.zero_add, e1, bnd_ok, if_neg (by simp; omega)]
theorem bad_bad {row : List Int} {n : Nat} {x : Int} (hl : row.length < 16777216) (h1 : row[n]? = some x) (h2 : ¬ Good x) (h3 : ∀ (i : Nat) (y : Int), i < n → row[i]? = some y → Good y) : m__law_bad_sign row = .ok (n : Int) := by
  unfold m__law_bad_sign
  simp only [Out.bind_assoc, bnd_ok]
  obtain ⟨hn, _⟩ := List.getElem?_eq_some_iff.mp h1
  rw [rng0 (by omega), bnd_ok, forL_stop (w := (n : Int)) (fun _ => ()) (n := n) (x := (0 : Int) + n) (rangeI_at hn), bnd_ok, go_out]
  · intro i y hi hy
    obtain ⟨k1, k2⟩ := range_at hy
    have e0 := List.getElem?_eq_getElem k1
    obtain ⟨g1, g2⟩ := h3 i _ hi e0
    rw [k2, Int.zero_add, item_at e0, bnd_ok, if_neg (by simp; omega)]
  · unfold Good at h2
    rw [Int.zero_add, item_at h1, bnd_ok, if_pos (by simp; omega)]
/-! ### what the law builds -/
theorem digits_is (sc : Scr) (h : sc.l.length ≤ 63) : Is (m__law_digits sc 360) fun d => d.length = 360 := by
  unfold m__law_digits
  simp only [Out.bind_assoc, bnd_ok]
  refine Is.for (fun i (s : List Int) => s.length ≤ 700 + i) (by simp) (fun i x s hx hs => ?_) (fun s hs => ?_)
  · have hi : i < 63 := by
      obtain ⟨h1, _⟩ := List.getElem?_eq_some_iff.mp hx
      have := cut_len (xs := sc.l) (lo := none) (hi := some 63)
      omega
    refine Is.bind (Q := fun _ => True) (Is.chk (by decide) trivial) fun l _ => ?_
    refine Is.bind (Q := fun p : List Int => p.length ≤ 700 + (i + 1)) (Is.app (by omega) (by simp; omega)) fun p hp => ?_
    rw [rng_ok (by decide) (by decide), bnd_ok]
    refine Is.for (fun _ (s : List Int × Int) => s.1.length ≤ 700 + (i + 1)) hp (fun j y t hy ht => ?_) (fun t ht => Is.ok ⟨_, rfl, ht⟩)
    refine Is.bind (Q := fun b => b = true → t.1.length < 360) (Is.ite (fun _ => Is.ok fun hb => by have hb' : (t.1.length : Int) < 360 := of_decide_eq_true hb; omega) fun _ => Is.ok fun hb => by cases hb) fun b hb => ?_
    refine Is.ite (fun hb' => ?_) fun _ => Is.ok ⟨_, rfl, ht⟩
    have := hb hb'
    exact Is.bind (Q := fun p : List Int => p.length ≤ 700 + (i + 1)) (Is.app (by omega) (by simp; omega)) fun p hp => Is.ok ⟨_, rfl, hp⟩
  · have hl : (cut sc.l none (some 63)).length ≤ 63 := Nat.le_trans cut_len h
    refine Is.bind (Q := fun p : List Int => 0 < p.length ∧ p.length ≤ 800) ?_ fun p hp => ?_
    · by_cases he : s = []
      · subst he
        simp only [decide_true, if_true]
        rw [appL_ok (by decide), bnd_ok]
        exact Is.ok ⟨by decide, by decide⟩
      · rw [decide_eq_false he]
        simp only [Bool.false_eq_true, if_false]
        exact Is.ok ⟨List.length_pos_iff.mpr he, by omega⟩
    · rw [rng_ok (by decide) (by decide), bnd_ok]
      refine Is.for (fun i (s : List Int) => s.length = i) rfl (fun i x s hx hs => ?_) (fun s hs => Is.ok (by rw [hs, rangeI_len]; rfl))
      obtain ⟨h1, h2⟩ := range_at hx
      have hi : i < 360 := h1
      have hx2 : x = (i : Int) := by omega
      have hm : 0 ≤ x % (p.length : Int) ∧ x % (p.length : Int) < p.length := ⟨Int.emod_nonneg _ (by omega), Int.emod_lt_of_pos _ (by omega)⟩
      refine Is.bind (Q := fun y => y = x % (p.length : Int)) (Is.chk (by omega) rfl) fun y hy => ?_
      subst hy
      refine Is.bind (Q := fun _ => True) (Is.item hm.1 hm.2 fun _ _ _ => trivial) fun y _ => ?_
      refine Is.bind (Q := fun _ => True) (Is.chk (by unfold CMul; left; omega) trivial) fun z _ => ?_
      exact Is.bind (Q := fun q : List Int => q.length = i + 1) (Is.app (by omega) (by simp [hs])) fun q hq => Is.ok ⟨_, rfl, hq⟩
def PairsOk (ps : List (Int × Int)) : Prop := ∀ (k : Nat) (p : Int × Int), ps[k]? = some p → -1 ≤ p.1 ∧ p.1 < k
theorem depths_is {ps : List (Int × Int)} (h : PairsOk ps) (hl : ps.length ≤ 1000) : Is (m__law_depths ps) fun d => d.length = ps.length ∧ ∀ x ∈ d, 0 ≤ x ∧ x ≤ ps.length := by
  unfold m__law_depths
  simp only [Out.bind_assoc, bnd_ok]
  refine Is.for (fun i (s : List Int) => s.length = i ∧ ∀ x ∈ s, 0 ≤ x ∧ x ≤ i) ⟨rfl, fun _ h => nomatch h⟩ (fun i x s hx hs => ?_) (fun s hs => Is.ok hs)
  obtain ⟨h1, h2⟩ := h i x hx
  obtain ⟨hi, _⟩ := List.getElem?_eq_some_iff.mp hx
  refine Is.bind (Q := fun y => 0 ≤ y ∧ y ≤ (i : Int) + 1) (Is.ite (fun c => ?_) fun _ => Is.ok (by omega)) fun y hy => ?_
  · have c' : 0 ≤ x.1 := of_decide_eq_true c
    refine Is.bind (Q := fun y => 0 ≤ y ∧ y ≤ (i : Int)) (Is.item c' (by omega) fun z hz _ => hs.2 z hz) fun y hy => Is.ok (by omega)
  · refine Is.bind (Q := fun q : List Int => q.length = i + 1 ∧ ∀ x ∈ q, 0 ≤ x ∧ x ≤ ((i + 1 : Nat) : Int)) (Is.app (by omega) ⟨by simp [hs.1], fun z hz => ?_⟩) fun q hq => Is.ok ⟨_, rfl, hq⟩
    rcases List.mem_append.mp hz with hz | hz
    · have := hs.2 z hz
      omega
    · rw [List.mem_singleton.mp hz]
      omega
theorem signs_is {ps : List (Int × Int)} (h : PairsOk ps) (hl : ps.length ≤ 30) : Is (m__law_signs ps) fun r => r.length ≤ 2000 := by
  unfold m__law_signs
  simp only [Out.bind_assoc, bnd_ok, flat_one]
  refine Is.bind (depths_is h (by omega)) fun d hd => ?_
  rw [rng0 (by omega), bnd_ok]
  refine Is.for (fun i (s : List Int × Int) => s.1.length ≤ 40 * i ∧ -1 ≤ s.2 ∧ s.2 ≤ 30) ⟨Nat.le_refl _, by decide, by decide⟩ (fun i x s hx hs => ?_) (fun s hs => ?_)
  · obtain ⟨k1, k2⟩ := range_at hx
    obtain ⟨s1, s2, s3⟩ := hs
    refine Is.bind (Q := fun y => 0 ≤ y ∧ y ≤ (30 : Int)) (Is.item (by omega) (by omega) fun z hz _ => by have := hd.2 z hz; omega) fun y hy => ?_
    refine Is.bind (Q := fun q : List Int => q.length ≤ 35) (Is.chk (rep_ok (by omega) (by omega) rfl) (by rw [List.length_replicate]; omega)) fun q hq => ?_
    refine Is.bind (Q := fun q : List Int => q.length ≤ 40 * i + 35) (Is.chk (by unfold lenOk; omega) (by rw [List.length_append]; omega)) fun q2 hq2 => ?_
    refine Is.bind (Q := fun _ => True) (Is.item (by omega) (by omega) fun _ _ _ => trivial) fun z _ => ?_
    refine Is.bind (Q := fun q : List Int => q.length ≤ 40 * i + 36) (Is.chk (by unfold lenOk; rw [len1]; omega) (by rw [List.length_append, len1]; omega)) fun q3 hq3 => ?_
    refine Is.bind (Q := fun y => 0 ≤ y ∧ y ≤ (30 : Int)) (Is.item (by omega) (by omega) fun z hz _ => by have := hd.2 z hz; omega) fun y2 hy2 => ?_
    exact Is.ok ⟨_, rfl, by show q3.length ≤ _; omega, by show (-1 : Int) ≤ y2; omega, hy2.2⟩
  · obtain ⟨s1, s2, s3⟩ := hs
    rw [rangeI_len] at s1
    refine Is.bind (Q := fun q : List Int => q.length ≤ 35) (Is.chk (rep_ok (by omega) (by omega) rfl) (by rw [List.length_replicate]; omega)) fun q hq => ?_
    exact Is.bind (Q := fun q : List Int => q.length ≤ 2000) (Is.chk (by unfold lenOk; omega) (by rw [List.length_append]; omega)) fun q2 hq2 => Is.ok hq2
theorem segment_is {d : List Int} (hd : d.length = 360) {n : Int} (h0 : 0 ≤ n) (h1 : n ≤ 60) : Is (m__law_segment d 60 n) fun r => r.length ≤ 300 := by
  unfold m__law_segment
  simp only [Out.bind_assoc, bnd_ok]
  refine Is.bind (Q := fun _ => True) (Is.item (by decide) (by omega) fun _ _ _ => trivial) fun x3 _ => ?_
  refine Is.bind (Q := fun _ => True) (Is.item (by decide) (by omega) fun _ _ _ => trivial) fun x4 _ => ?_
  refine Is.bind (Q := fun few : Int => 0 < few) (Is.ite (fun _ => Is.bind (Q := fun _ => True) (Is.item (by decide) (by omega) fun _ _ _ => trivial) fun x _ => Is.ok (by omega)) fun _ => Is.ok (by decide)) fun few hf => ?_
  rw [rng_ok h0 (by omega), bnd_ok]
  refine Is.for (fun i (s : List Int) => s.length = i) rfl (fun i x s hx hs => ?_) (fun s hs => Is.ok (by rw [hs, rangeI_len]; omega))
  obtain ⟨k1, k2⟩ := range_at hx
  refine Is.bind (Q := fun _ => True) (Is.item (by omega) (by omega) fun _ _ _ => trivial) fun _ _ => ?_
  refine Is.bind (Q := fun _ => True) (Is.chk hf trivial) fun _ _ => ?_
  refine Is.bind (Q := fun _ => True) (Is.item (by decide) (by omega) fun _ _ _ => trivial) fun _ _ => ?_
  refine Is.bind (Q := fun _ => True) (Is.ite (fun _ => Is.ok trivial) fun _ => Is.ok trivial) fun _ _ => ?_
  exact Is.bind (Q := fun q : List Int => q.length = i + 1) (Is.app (by omega) (by simp [hs])) fun q hq => Is.ok ⟨_, rfl, hq⟩
theorem bent_is {r d : List Int} (hr : r.length ≤ 2000) (hd : d.length = 5) : Is (m__law_bent_row r d) fun q => q.length ≤ 4001 := by
  unfold m__law_bent_row
  simp only [Out.bind_assoc, bnd_ok]
  have it : ∀ k : Int, 0 ≤ k → k < 5 → Is (item d k) fun _ => True := fun k h0 h1 => Is.item h0 (by omega) fun _ _ _ => trivial
  refine Is.bind (it _ (by decide) (by decide)) fun x0 _ => Is.bind (it _ (by decide) (by decide)) fun x1 _ => ?_
  refine Is.bind (Q := fun _ => True) (Is.chk (by omega) trivial) fun p _ => ?_
  refine Is.bind (it _ (by decide) (by decide)) fun x2 _ => Is.bind (it _ (by decide) (by decide)) fun x3 _ => ?_
  refine Is.bind (Q := fun _ => True) (Is.ite (fun _ => ?_) fun _ => Is.ok trivial) fun s _ => ?_
  · refine Is.bind (it _ (by decide) (by decide)) fun x _ => ?_
    refine Is.bind (Q := fun _ => True) (Is.item (by omega) (by show x % 4 < 4; omega) fun _ _ _ => trivial) fun _ _ => Is.ok trivial
  refine Is.bind (it _ (by decide) (by decide)) fun x5 _ => ?_
  refine Is.bind (Q := fun _ => True) (Is.ite (fun _ => Is.ok trivial) fun _ => Is.ok trivial) fun s2 _ => ?_
  have c1 : ∀ lo hi : Option Int, (cut r lo hi).length ≤ 2000 := fun lo hi => Nat.le_trans cut_len hr
  have a1 := c1 none (some p)
  have a2 := c1 (some (p + 1)) none
  have a3 := c1 (some p) none
  refine Is.bind (it _ (by decide) (by decide)) fun x6 _ => Is.ite (fun _ => ?_) fun _ => ?_
  · refine Is.bind (Q := fun q : List Int => q.length ≤ 2001) (Is.chk (by unfold lenOk; rw [len1]; omega) (by rw [List.length_append, len1]; omega)) fun q hq => ?_
    exact Is.bind (Q := fun q : List Int => q.length ≤ 4001) (Is.chk (by unfold lenOk; omega) (by rw [List.length_append]; omega)) fun q2 hq2 => Is.ok hq2
  · refine Is.bind (it _ (by decide) (by decide)) fun x7 _ => Is.ite (fun _ => ?_) fun _ => ?_
    · refine Is.bind (Q := fun q : List Int => q.length ≤ 2001) (Is.chk (by unfold lenOk; rw [len1]; omega) (by rw [List.length_append, len1]; omega)) fun q hq => ?_
      exact Is.bind (Q := fun q : List Int => q.length ≤ 4001) (Is.chk (by unfold lenOk; omega) (by rw [List.length_append]; omega)) fun q2 hq2 => Is.ok hq2
    · exact Is.bind (Q := fun q : List Int => q.length ≤ 4001) (Is.chk (by unfold lenOk; omega) (by rw [List.length_append]; omega)) fun q2 hq2 => Is.ok hq2

/-! ### the three readings -/
theorem shape_good {row : List Int} (hl : row.length < 16777216) (h : ∀ x ∈ row, Good x) : m_shape_of row = .ok (row.map fun x => if 0 < x then 1 else 0) := by
  have e : (fun x : Int => if decide (0 < x) = true then Out.ok (1 : Int) else Out.ok 0) = fun x => Out.ok (if 0 < x then 1 else 0) := by
    funext x
    rw [ite_b]
    split <;> rfl
  unfold m_shape_of
  simp only [Out.bind_assoc, bnd_ok, checked_good h, e]
  rw [lcL_map row [] (by rw [List.length_nil]; omega), bnd_ok, List.nil_append]
theorem labels_good {row : List Int} (hl : row.length < 16777216) (h : ∀ x ∈ row, Good x) : m_labels_of row = .ok (row.filter fun x => decide (0 < x)) := by
  unfold m_labels_of
  simp only [Out.bind_assoc, bnd_ok, checked_good h]
  rw [lcL_filter (p := fun x => decide (0 < x)) row [] (by rw [List.length_nil]; omega), bnd_ok, List.nil_append]
/-- the first place where the excess fails, from place k on with the excess e -/
def bp : Nat → Int → List Int → Option Int
  | k, e, [] => if e = 0 ∧ 0 < k then none else some (k : Int)
  | k, e, x :: xs => if e = 0 ∧ (0 < k ∨ x = 0) then some (k : Int) else bp (k + 1) (if 0 < x then e + 1 else e - 1) xs
def bF (x : Int × Int) (s : Int) : Out (Ctl Int (Option Int)) := (if decide (s = 0) = true then if decide (0 < x.1) = true then Out.ok true else Out.ok (decide (x.2 = 0)) else Out.ok false).bind fun b => if b = true then Out.ok (Ctl.out (some x.1)) else if decide (0 < x.2) = true then Out.ok (Ctl.nxt (s + 1)) else Out.ok (Ctl.nxt (s - 1))
theorem bF_is (x : Int × Int) (s : Int) : bF x s = if s = 0 ∧ (0 < x.1 ∨ x.2 = 0) then Out.ok (Ctl.out (some x.1)) else Out.ok (Ctl.nxt (if 0 < x.2 then s + 1 else s - 1)) := by
  unfold bF
  by_cases h1 : s = 0 <;> by_cases h2 : 0 < x.1 <;> by_cases h3 : x.2 = 0 <;> by_cases h4 : 0 < x.2 <;> simp [h1, h2, h3, h4, bnd_ok]
theorem bF_run (g : Int → Out (Option Int)) : ∀ (xs : List Int) (k : Nat) (e : Int), (∀ e', g e' = Out.ok (if e' = 0 ∧ 0 < k + xs.length then none else some ((k + xs.length : Nat) : Int))) → (forL bF (enumI k xs) e).bind (Aft.go g) = .ok (bp k e xs)
  | [], k, e, hg => by
    rw [show enumI k ([] : List Int) = [] from rfl, forL_nil, bnd_ok, go_fin, hg]
    rfl
  | x :: xs, k, e, hg => by
    have e1 := bF_is ((k : Int), x) e
    rw [show enumI k (x :: xs) = ((k : Int), x) :: enumI (k + 1) xs from rfl]
    show _ = Out.ok (if e = 0 ∧ (0 < k ∨ x = 0) then some (k : Int) else bp (k + 1) (if 0 < x then e + 1 else e - 1) xs)
    by_cases h : e = 0 ∧ (0 < k ∨ x = 0)
    · rw [if_pos ⟨h.1, h.2.imp (fun z => by show (0 : Int) < (k : Int); omega) id⟩] at e1
      rw [forL_out e1, bnd_ok, go_out, if_pos h]
    · rw [if_neg (fun z => h ⟨z.1, z.2.imp (fun q => by have q' : (0 : Int) < (k : Int) := q; omega) id⟩)] at e1
      rw [forL_nxt e1, if_neg h]
      exact bF_run g xs (k + 1) _ fun e' => by
        rw [hg e']
        have : k + (x :: xs).length = k + 1 + xs.length := by rw [List.length_cons]; omega
        rw [this]
theorem bad_place_good {row : List Int} (h : ∀ x ∈ row, Good x) : m_bad_place row = .ok (bp 0 0 row) := by
  have e : m_bad_place row = (forL bF (enumI 0 row) 0).bind (Aft.go fun s => (if decide (s = 0) = true then Out.ok (decide ((0 : Int) < (row.length : Int))) else Out.ok false).bind fun b => if b = true then Out.ok none else Out.ok (some (row.length : Int))) := by
    unfold m_bad_place bF
    simp only [Out.bind_assoc, bnd_ok, checked_good h]
  rw [e]
  refine bF_run _ row 0 0 fun e' => ?_
  rw [Nat.zero_add]
  by_cases h1 : e' = 0
  · rw [decide_eq_true h1, if_pos rfl, bnd_ok, ite_b]
    by_cases h2 : 0 < row.length
    · rw [if_pos (by omega), if_pos ⟨h1, h2⟩]
    · rw [if_neg (by omega), if_neg (fun z => h2 z.2)]
  · rw [decide_eq_false h1, if_neg Bool.false_ne_true, bnd_ok, if_neg Bool.false_ne_true, if_neg (fun z => h1 z.1)]
def bcode : Option Int → Int
  | none => -1
  | some i => i
def lF (row : List Int) (x s : Int) : Out (Ctl Int Int) := (if decide (0 < x) = true then Out.ok (decide (s < 1)) else Out.ok false).bind fun b => if b = true then Out.ok (Ctl.out x) else (item row x).bind fun y => (if decide (0 < y) = true then Out.ok (1 : Int) else Out.ok (-1)).bind fun z => if decide (s + z < 0) = true then Out.ok (Ctl.out x) else Out.ok (Ctl.nxt (s + z))
theorem lF_is {row : List Int} {k : Nat} {y : Int} (hy : row[k]? = some y) (s : Int) : lF row (k : Int) s = if 0 < k ∧ s < 1 then Out.ok (Ctl.out (k : Int)) else if s + (if 0 < y then 1 else -1) < 0 then Out.ok (Ctl.out (k : Int)) else Out.ok (Ctl.nxt (s + (if 0 < y then 1 else -1))) := by
  unfold lF
  rw [item_at hy, bnd_ok]
  by_cases h1 : 0 < k <;> by_cases h2 : s < 1 <;> by_cases h3 : 0 < y <;> simp [h1, h2, h3, bnd_ok]
theorem lF_run {row : List Int} (hr : ∀ x ∈ row, Good x) (g : Int → Out Int) : ∀ (xs : List Int) (k : Nat) (e : Int), ((k = 0 ∧ e = 0) ∨ (0 < k ∧ 0 ≤ e)) → (∀ (i : Nat) (y : Int), xs[i]? = some y → row[k + i]? = some y) → (∀ e', g e' = Out.ok (if e' = 0 ∧ 0 < k + xs.length then -1 else ((k + xs.length : Nat) : Int))) →
    (forL (lF row) (rangeI (k : Int) xs.length) e).bind (Aft.go g) = .ok (bcode (bp k e xs))
  | [], k, e, he, hx, hg => by
    rw [show rangeI (k : Int) ([] : List Int).length = [] from rfl, forL_nil, bnd_ok, go_fin, hg]
    show Out.ok (if e = 0 ∧ 0 < k then -1 else (k : Int)) = Out.ok (bcode (if e = 0 ∧ 0 < k then none else some (k : Int)))
    by_cases h : e = 0 ∧ 0 < k
    · rw [if_pos h, if_pos h]
      rfl
    · rw [if_neg h, if_neg h]
      rfl
  | x :: xs, k, e, he, hx, hg => by
    have e0 := hx 0 x rfl
    obtain ⟨g1, g2⟩ := good_at hr e0
    have e1 := lF_is (row := row) (k := k) e0 e
    rw [List.length_cons, rangeI_succ]
    show _ = Out.ok (bcode (if e = 0 ∧ (0 < k ∨ x = 0) then some (k : Int) else bp (k + 1) (if 0 < x then e + 1 else e - 1) xs))
    by_cases h : e = 0 ∧ (0 < k ∨ x = 0)
    · have e2 : lF row (k : Int) e = Out.ok (Ctl.out (k : Int)) := by
        rw [e1]
        by_cases h1 : 0 < k ∧ e < 1
        · rw [if_pos h1]
        · have hx0 : x = 0 := by
            rcases h.2 with z | z
            · exact absurd ⟨z, by omega⟩ h1
            · exact z
          rw [if_neg h1, if_neg (show ¬ 0 < x by omega), if_pos (by omega)]
      rw [forL_out e2, bnd_ok, go_out, if_pos h]
      rfl
    · have hz : (if 0 < x then e + 1 else e - 1) = e + (if 0 < x then 1 else -1) := by
        by_cases h4 : 0 < x
        · rw [if_pos h4, if_pos h4]
        · rw [if_neg h4, if_neg h4]
          omega
      have hnn : 0 ≤ e + (if 0 < x then (1 : Int) else -1) := by
        by_cases h4 : 0 < x
        · rw [if_pos h4]; omega
        · rw [if_neg h4]
          have : x = 0 := by omega
          have : ¬ e = 0 := fun z => h ⟨z, .inr this⟩
          omega
      have e2 : lF row (k : Int) e = Out.ok (Ctl.nxt (e + (if 0 < x then 1 else -1))) := by
        rw [e1, if_neg (fun z => h ⟨by omega, .inl z.1⟩), if_neg (by omega)]
      rw [forL_nxt e2, if_neg h, hz]
      have e3 : ((k : Int) + 1) = ((k + 1 : Nat) : Int) := by omega
      rw [e3]
      refine lF_run hr g xs (k + 1) _ (.inr ⟨by omega, hnn⟩) (fun i y hi => ?_) fun e' => ?_
      · have := hx (i + 1) y (by simpa using hi)
        rw [← this]
        congr 1
        omega
      · rw [hg e']
        have : k + (x :: xs).length = k + 1 + xs.length := by rw [List.length_cons]; omega
        rw [this]
theorem law_bad_place_good {row : List Int} (hl : row.length < 16777216) (h : ∀ x ∈ row, Good x) : m__law_bad_place row = .ok (bcode (bp 0 0 row)) := by
  have e : m__law_bad_place row = (chk (rngOk (row.length : Int)) (rangeI 0 (row.length : Int).toNat)).bind fun xs => (forL (lF row) xs 0).bind (Aft.go fun s => (if (!decide (row = [])) = true then Out.ok (decide (s = 0)) else Out.ok false).bind fun b => if b = true then Out.ok (-1) else Out.ok (row.length : Int)) := by
    unfold m__law_bad_place lF
    simp only [Out.bind_assoc, bnd_ok]
  rw [e, rng0 (by omega), bnd_ok]
  refine lF_run h _ row 0 0 (.inl ⟨rfl, rfl⟩) (fun i y hi => by rw [Nat.zero_add]; exact hi) fun e' => ?_
  rw [Nat.zero_add]
  by_cases h2 : row = []
  · subst h2
    rw [if_neg (by simp), bnd_ok, if_neg Bool.false_ne_true, if_neg (fun z => absurd z.2 (by simp))]
  · rw [if_pos (by simp [h2]), bnd_ok, ite_b]
    have hp : 0 < row.length := List.length_pos_iff.mpr h2
    by_cases h1 : e' = 0
    · rw [if_pos h1, if_pos ⟨h1, hp⟩]
    · rw [if_neg h1, if_neg (fun z => h1 z.1)]

/-! ### shapes and labels -/
theorem first_or {P : Int → Prop} [DecidablePred P] : ∀ xs : List Int, (∀ x ∈ xs, P x) ∨ ∃ (n : Nat) (x : Int), xs[n]? = some x ∧ ¬ P x ∧ ∀ (i : Nat) (y : Int), i < n → xs[i]? = some y → P y
  | [] => .inl fun _ h => nomatch h
  | x :: xs => by
    by_cases h : P x
    · rcases first_or (P := P) xs with g | ⟨n, y, h1, h2, h3⟩
      · refine .inl fun z hz => ?_
        rcases List.mem_cons.mp hz with e | e
        · rw [e]; exact h
        · exact g z e
      · refine .inr ⟨n + 1, y, by simpa using h1, h2, fun i z hi hz => ?_⟩
        cases i with
        | zero =>
          have e : x = z := by simpa using hz
          rw [← e]
          exact h
        | succ i => exact h3 i z (by omega) (by simpa using hz)
    · exact .inr ⟨0, x, rfl, h, fun i y hi => absurd hi (Nat.not_lt_zero _)⟩
def Sh (x : Int) : Prop := 0 ≤ x ∧ x ≤ 1
instance : DecidablePred Sh := fun x => by unfold Sh; infer_instance
def Lb (x : Int) : Prop := 1 ≤ x ∧ x ≤ 9
instance : DecidablePred Lb := fun x => by unfold Lb; infer_instance
/-- the row of a shape, its labels from number u on -/
def fl (ls : List Int) : Nat → List Int → List Int
  | _, [] => []
  | u, x :: xs => if x = 1 then ls.getD u 0 :: fl ls (u + 1) xs else 0 :: fl ls u xs
def l1 (x : Int × Int) (_ : Unit) : Out (Ctl Unit (List Int)) := (if decide (x.2 < 0) = true then Out.ok true else Out.ok (decide (1 < x.2))).bind fun b => if b = true then Out.err ⟨.BadSign, some [("place", PyE.val x.1)]⟩ else Out.ok (Ctl.nxt ())
def l2 (x : Int) (_ : Unit) : Out (Ctl Unit (List Int)) := (if decide (x < 1) = true then Out.ok true else Out.ok (decide (9 < x))).bind fun b => if b = true then Out.err ⟨.BadLabel, some [("label", PyE.val x)]⟩ else Out.ok (Ctl.nxt ())
def l3 (ls : List Int) (x : Int) (s : List Int × Int) : Out (Ctl (List Int × Int) (List Int)) := if decide (x = 1) = true then (item ls s.2).bind fun y => (appL s.1 y).bind fun r => Out.ok (Ctl.nxt (r, s.2 + 1)) else (appL s.1 0).bind fun r => Out.ok (Ctl.nxt (r, s.2))
theorem labelled_eq {sh ls : List Int} : m_labelled sh ls = (forL l1 (enumI 0 sh) ()).bind (Aft.go fun _ => (forL l2 ls ()).bind (Aft.go fun _ => if (!decide ((ls.length : Int) = sh.sum)) = true then Out.err ⟨.BadNumber, some [("value", PyE.val (ls.length : Int))]⟩ else (forL (l3 ls) sh ([], 0)).bind (Aft.go fun s => Out.ok s.1))) := by
  unfold m_labelled l1 l2 l3
  simp only [Out.bind_assoc, bnd_ok]
theorem l1_good {x : Int × Int} (h : Sh x.2) : l1 x () = .ok (.nxt ()) := by
  unfold Sh at h
  unfold l1
  rw [decide_eq_false (show ¬ x.2 < 0 by omega), decide_eq_false (show ¬ 1 < x.2 by omega), if_neg Bool.false_ne_true, bnd_ok, if_neg Bool.false_ne_true]
theorem l1_bad {x : Int × Int} (h : ¬ Sh x.2) : l1 x () = .err ⟨.BadSign, some [("place", PyE.val x.1)]⟩ := by
  unfold Sh at h
  unfold l1
  by_cases h1 : x.2 < 0
  · rw [decide_eq_true h1, if_pos rfl, bnd_ok, if_pos rfl]
  · rw [decide_eq_false h1, if_neg Bool.false_ne_true, bnd_ok, decide_eq_true (show 1 < x.2 by omega), if_pos rfl]
theorem l2_good {x : Int} (h : Lb x) : l2 x () = .ok (.nxt ()) := by
  unfold Lb at h
  unfold l2
  rw [decide_eq_false (show ¬ x < 1 by omega), decide_eq_false (show ¬ 9 < x by omega), if_neg Bool.false_ne_true, bnd_ok, if_neg Bool.false_ne_true]
theorem l2_bad {x : Int} (h : ¬ Lb x) : l2 x () = .err ⟨.BadLabel, some [("label", PyE.val x)]⟩ := by
  unfold Lb at h
  unfold l2
  by_cases h1 : x < 1
  · rw [decide_eq_true h1, if_pos rfl, bnd_ok, if_pos rfl]
  · rw [decide_eq_false h1, if_neg Bool.false_ne_true, bnd_ok, decide_eq_true (show 9 < x by omega), if_pos rfl]
theorem sum_nn : ∀ {xs : List Int}, (∀ x ∈ xs, Sh x) → 0 ≤ xs.sum
  | [], _ => by simp
  | x :: xs, h => by
    have h1 := h x List.mem_cons_self
    have h2 := sum_nn (xs := xs) fun y hy => h y (List.mem_cons_of_mem _ hy)
    unfold Sh at h1
    rw [List.sum_cons]
    omega
theorem l3_run {ω : Type} {ls : List Int} {f : Int → List Int × Int → Out (Ctl (List Int × Int) ω)} {g : List Int × Int → Out ω} {h : List Int → ω} (hf : ∀ (x : Int) (acc : List Int) (u : Nat), Sh x → acc.length < 16777216 → (x = 1 → u < ls.length) → f x (acc, (u : Int)) = Out.ok (Ctl.nxt (if x = 1 then (acc ++ [ls.getD u 0], ((u + 1 : Nat) : Int)) else (acc ++ [0], (u : Int))))) (hg : ∀ s, g s = Out.ok (h s.1)) :
    ∀ (xs acc : List Int) (u : Nat), (∀ x ∈ xs, Sh x) → (u : Int) + xs.sum ≤ ls.length → acc.length + xs.length < 16777216 → (forL f xs (acc, (u : Int))).bind (Aft.go g) = .ok (h (acc ++ fl ls u xs))
  | [], acc, u, _, _, _ => by
    rw [forL_nil, bnd_ok, go_fin, hg]
    show Out.ok (h acc) = Out.ok (h (acc ++ []))
    rw [List.append_nil]
  | x :: xs, acc, u, hx, hs, hl => by
    have hx0 := hx x List.mem_cons_self
    have hx1 : ∀ y ∈ xs, Sh y := fun y hy => hx y (List.mem_cons_of_mem _ hy)
    have hnn := sum_nn hx1
    rw [List.sum_cons] at hs
    rw [List.length_cons] at hl
    have e := hf x acc u hx0 (by omega) fun e1 => by omega
    unfold Sh at hx0
    show _ = Out.ok (h (acc ++ if x = 1 then ls.getD u 0 :: fl ls (u + 1) xs else 0 :: fl ls u xs))
    by_cases h1 : x = 1
    · rw [if_pos h1] at e
      rw [forL_nxt e, if_pos h1, l3_run hf hg xs (acc ++ [ls.getD u 0]) (u + 1) hx1 (by omega) (by rw [List.length_append, len1]; omega), List.append_assoc]
      rfl
    · rw [if_neg h1] at e
      rw [forL_nxt e, if_neg h1, l3_run hf hg xs (acc ++ [0]) u hx1 (by omega) (by rw [List.length_append, len1]; omega), List.append_assoc]
      rfl
theorem l3_step {ls : List Int} (x : Int) (acc : List Int) (u : Nat) (hx : Sh x) (hl : acc.length < 16777216) (hu : x = 1 → u < ls.length) : l3 ls x (acc, (u : Int)) = Out.ok (Ctl.nxt (if x = 1 then (acc ++ [ls.getD u 0], ((u + 1 : Nat) : Int)) else (acc ++ [0], (u : Int)))) := by
  unfold l3
  rw [ite_b]
  by_cases h : x = 1
  · have e : ls[u]? = some (ls.getD u 0) := by
      rw [List.getD_eq_getElem?_getD, List.getElem?_eq_getElem (hu h)]
      rfl
    rw [if_pos h, if_pos h]
    show (item ls (u : Int)).bind _ = _
    rw [item_at e, bnd_ok, appL_ok hl, bnd_ok]
    rfl
  · rw [if_neg h, if_neg h]
    show (appL acc 0).bind _ = _
    rw [appL_ok hl, bnd_ok]
def d1 (sh : List Int) (x : Int) (_ : Unit) : Out (Ctl Unit (Pr Str Un)) := (item sh x).bind fun y => if (!(decide (0 ≤ y) && decide (y ≤ 1))) = true then Out.ok (Ctl.out ⟨"BadSign", .i x⟩) else Out.ok (Ctl.nxt ())
def d2 (x : Int) (_ : Unit) : Out (Ctl Unit (Pr Str Un)) := if (!(decide (1 ≤ x) && decide (x ≤ 9))) = true then Out.ok (Ctl.out ⟨"BadLabel", .i x⟩) else Out.ok (Ctl.nxt ())
def d3 (ls : List Int) (x : Int) (s : List Int × Int) : Out (Ctl (List Int × Int) (Pr Str Un)) := (if decide (x = 1) = true then item ls s.2 else Out.ok 0).bind fun y => (appL s.1 y).bind fun r => Out.ok (Ctl.nxt (r, s.2 + x))
theorem due_eq {sh ls : List Int} : m__law_labelled_due sh ls = (chk (rngOk (sh.length : Int)) (rangeI 0 (sh.length : Int).toNat)).bind fun xs => (forL (d1 sh) xs ()).bind (Aft.go fun _ => (forL d2 ls ()).bind (Aft.go fun _ => if (!decide ((ls.length : Int) = sh.sum)) = true then Out.ok ⟨"BadNumber", .i (ls.length : Int)⟩ else (forL (d3 ls) sh ([], 0)).bind (Aft.go fun s => Out.ok ⟨"row", .l s.1⟩))) := by
  unfold m__law_labelled_due d1 d2 d3
  simp only [Out.bind_assoc, bnd_ok]
theorem d3_step {ls : List Int} (x : Int) (acc : List Int) (u : Nat) (hx : Sh x) (hl : acc.length < 16777216) (hu : x = 1 → u < ls.length) : d3 ls x (acc, (u : Int)) = Out.ok (Ctl.nxt (if x = 1 then (acc ++ [ls.getD u 0], ((u + 1 : Nat) : Int)) else (acc ++ [0], (u : Int)))) := by
  unfold d3
  rw [ite_b]
  by_cases h : x = 1
  · have e : ls[u]? = some (ls.getD u 0) := by
      rw [List.getD_eq_getElem?_getD, List.getElem?_eq_getElem (hu h)]
      rfl
    rw [if_pos h, if_pos h]
    show (item ls (u : Int)).bind _ = _
    rw [item_at e, bnd_ok, appL_ok hl, bnd_ok, h]
    rfl
  · have h0 : x = 0 := by unfold Sh at hx; omega
    rw [if_neg h, if_neg h, bnd_ok]
    show (appL acc 0).bind _ = _
    rw [appL_ok hl, bnd_ok, h0]
    show Out.ok (Ctl.nxt (acc ++ [0], (u : Int) + 0)) = _
    rw [Int.add_zero]
theorem d1_good {sh : List Int} {i : Nat} {y : Int} (e : sh[i]? = some y) (h : Sh y) : d1 sh (i : Int) () = .ok (.nxt ()) := by
  unfold Sh at h
  unfold d1
  rw [item_at e, bnd_ok, if_neg (by simp; omega)]
theorem d1_bad {sh : List Int} {i : Nat} {y : Int} (e : sh[i]? = some y) (h : ¬ Sh y) : d1 sh (i : Int) () = .ok (.out ⟨"BadSign", .i (i : Int)⟩) := by
  unfold Sh at h
  unfold d1
  rw [item_at e, bnd_ok, if_pos (by simp; omega)]
theorem d2_good {x : Int} (h : Lb x) : d2 x () = .ok (.nxt ()) := by
  unfold Lb at h
  unfold d2
  rw [if_neg (by simp; omega)]
theorem d2_bad {x : Int} (h : ¬ Lb x) : d2 x () = .ok (.out ⟨"BadLabel", .i x⟩) := by
  unfold Lb at h
  unfold d2
  rw [if_pos (by simp; omega)]
/-- how a shape and labels end: an error, or a row -/
inductive LEnd (sh ls : List Int) : Prop where
  | er (k : EK) (f nm : Str) (v : Int) (h1 : m_labelled sh ls = .err ⟨k, some [(f, PyE.val v)]⟩) (h2 : m__law_labelled_due sh ls = .ok ⟨nm, .i v⟩) (hk : (k = .BadSign ∧ f = "place" ∧ nm = "BadSign") ∨ (k = .BadLabel ∧ f = "label" ∧ nm = "BadLabel") ∨ (k = .BadNumber ∧ f = "value" ∧ nm = "BadNumber"))
  | row (r : List Int) (hr : r.length < 16777215) (h1 : m_labelled sh ls = .ok r) (h2 : m__law_labelled_due sh ls = .ok ⟨"row", .l r⟩)
theorem fl_len {ls : List Int} : ∀ (xs : List Int) (u : Nat), (fl ls u xs).length = xs.length
  | [], _ => rfl
  | x :: xs, u => by
    unfold fl
    split <;> rw [List.length_cons, List.length_cons, fl_len xs]
theorem lend (sh ls : List Int) (hs : sh.length < 16777215) : LEnd sh ls := by
  rcases first_or (P := Sh) sh with g | ⟨n, x, a1, a2, a3⟩
  · have e1 : forL l1 (enumI 0 sh) () = .ok (.fin ()) := forL_run (fun _ => ()) fun i y hy => by
      obtain ⟨q1, _⟩ := enum_at hy
      exact l1_good (g _ (List.mem_of_getElem? q1))
    have e2 : forL (d1 sh) (rangeI 0 sh.length) () = .ok (.fin ()) := forL_run (fun _ => ()) fun i y hy => by
      obtain ⟨q1, q2⟩ := range_at hy
      rw [q2, Int.zero_add]
      exact d1_good (List.getElem?_eq_getElem q1) (g _ (List.getElem_mem q1))
    rcases first_or (P := Lb) ls with g' | ⟨n, x, b1, b2, b3⟩
    · have e3 : forL l2 ls () = .ok (.fin ()) := forL_run (fun _ => ()) fun i y hy => l2_good (g' _ (List.mem_of_getElem? hy))
      have e4 : forL d2 ls () = .ok (.fin ()) := forL_run (fun _ => ()) fun i y hy => d2_good (g' _ (List.mem_of_getElem? hy))
      by_cases hc : (ls.length : Int) = sh.sum
      · refine .row (fl ls 0 sh) (by rw [fl_len]; exact hs) ?_ ?_
        · rw [labelled_eq, e1, bnd_ok, go_fin, e3, bnd_ok, go_fin, if_neg (by simp [hc])]
          exact l3_run (h := fun r => r) l3_step (fun _ => rfl) sh [] 0 g (by omega) (by rw [List.length_nil]; omega)
        · rw [due_eq, rng0 (by omega), bnd_ok, e2, bnd_ok, go_fin, e4, bnd_ok, go_fin, if_neg (by simp [hc])]
          exact l3_run (h := fun r => (⟨"row", .l r⟩ : Pr Str Un)) d3_step (fun _ => rfl) sh [] 0 g (by omega) (by rw [List.length_nil]; omega)
      · refine .er .BadNumber "value" "BadNumber" (ls.length : Int) ?_ ?_ (.inr (.inr ⟨rfl, rfl, rfl⟩))
        · rw [labelled_eq, e1, bnd_ok, go_fin, e3, bnd_ok, go_fin, if_pos (by simp [hc])]
        · rw [due_eq, rng0 (by omega), bnd_ok, e2, bnd_ok, go_fin, e4, bnd_ok, go_fin, if_pos (by simp [hc])]
    · refine .er .BadLabel "label" "BadLabel" x ?_ ?_ (.inr (.inl ⟨rfl, rfl, rfl⟩))
      · rw [labelled_eq, e1, bnd_ok, go_fin, forL_stopE (w := ⟨.BadLabel, some [("label", PyE.val x)]⟩) (fun _ => ()) b1 (fun i y hi hy => l2_good (b3 i y hi hy)) (l2_bad b2), bnd_err]
      · rw [due_eq, rng0 (by omega), bnd_ok, e2, bnd_ok, go_fin, forL_stop (w := (⟨"BadLabel", .i x⟩ : Pr Str Un)) (fun _ => ()) b1 (fun i y hi hy => d2_good (b3 i y hi hy)) (d2_bad b2), bnd_ok, go_out]
  · obtain ⟨hn, _⟩ := List.getElem?_eq_some_iff.mp a1
    refine .er .BadSign "place" "BadSign" (n : Int) ?_ ?_ (.inl ⟨rfl, rfl, rfl⟩)
    · have e0 : (enumI 0 sh)[n]? = some ((n : Int), x) := by
        rw [enumI_at (k := 0) a1, Nat.zero_add]
      rw [labelled_eq, forL_stopE (w := ⟨.BadSign, some [("place", PyE.val (n : Int))]⟩) (fun _ => ()) e0 (fun i y hi hy => ?_) (l1_bad a2), bnd_err]
      obtain ⟨q1, _⟩ := enum_at hy
      exact l1_good (a3 i _ hi q1)
    · have e0 : (rangeI 0 sh.length)[n]? = some (n : Int) := by
        rw [rangeI_at hn, Int.zero_add]
      rw [due_eq, rng0 (by omega), bnd_ok, forL_stop (w := (⟨"BadSign", .i (n : Int)⟩ : Pr Str Un)) (fun _ => ()) e0 (fun i y hi hy => ?_) (d1_bad a1 a2), bnd_ok, go_out]
      obtain ⟨q1, q2⟩ := range_at hy
      rw [q2, Int.zero_add]
      exact d1_good (List.getElem?_eq_getElem q1) (a3 i _ hi (List.getElem?_eq_getElem q1))

/-! ### what is told -/
theorem toI_i {x : Int} : (Un.i x).toI = .ok x := rfl
theorem toL_l {x : List Int} : (Un.l x).toL = .ok x := rfl
def mapP (row : List Int) : List Int := row.map fun x => if 0 < x then 1 else 0
theorem due_good {row : List Int} (hl : row.length < 16777216) (h : ∀ x ∈ row, Good x) (way : Int) : m__law_due way row = .ok (if way = 0 then ⟨"row", .l row⟩ else if way = 1 then ⟨"row", .l (mapP row)⟩ else if way = 2 then ⟨"row", .l (row.filter fun x => decide (0 < x))⟩ else if 0 ≤ bcode (bp 0 0 row) then ⟨"place", .i (bcode (bp 0 0 row))⟩ else ⟨"none", .i 0⟩) := by
  have e1 : (fun x : Int => Out.ok (if decide (0 < x) = true then (1 : Int) else 0)) = fun x => Out.ok (if 0 < x then 1 else 0) := by
    funext x
    rw [ite_b]
  unfold m__law_due
  simp only [Out.bind_assoc, bnd_ok, bad_good hl h, decide_eq_false (show ¬ (0 : Int) ≤ -1 by omega), Bool.false_eq_true, if_false, ite_b, law_bad_place_good hl h]
  by_cases h0 : way = 0
  · simp only [h0, if_true]
  · simp only [h0, if_false]
    by_cases h1 : way = 1
    · simp only [h1, if_true]
      rw [lcL_map row [] (by rw [List.length_nil]; omega), bnd_ok, List.nil_append]
      rfl
    · simp only [h1, if_false]
      by_cases h2 : way = 2
      · simp only [h2, if_true]
        rw [lcL_filter (p := fun x => decide (0 < x)) row [] (by rw [List.length_nil]; omega), bnd_ok, List.nil_append]
      · simp only [h2, if_false]
        by_cases h3 : 0 ≤ bcode (bp 0 0 row)
        · simp only [h3, if_true]
        · simp only [h3, if_false]
theorem bp_code (k : Nat) (e : Int) (xs : List Int) : (bp k e xs = none ∧ bcode (bp k e xs) = -1) ∨ ∃ i : Nat, bp k e xs = some (i : Int) ∧ bcode (bp k e xs) = i := by
  induction xs generalizing k e with
  | nil =>
    unfold bp
    split
    · exact .inl ⟨rfl, rfl⟩
    · exact .inr ⟨k, rfl, rfl⟩
  | cons x xs ih =>
    unfold bp
    split
    · exact .inr ⟨k, rfl, rfl⟩
    · exact ih _ _
theorem told_good {row : List Int} (hl : row.length < 16777216) (h : ∀ x ∈ row, Good x) (way : Int) : m__law_told way row = .ok (if way = 0 then ⟨"row", .l row⟩ else if way = 1 then ⟨"row", .l (mapP row)⟩ else if way = 2 then ⟨"row", .l (row.filter fun x => decide (0 < x))⟩ else if 0 ≤ bcode (bp 0 0 row) then ⟨"place", .i (bcode (bp 0 0 row))⟩ else ⟨"none", .i 0⟩) := by
  unfold m__law_told
  simp only [Out.bind_assoc, bnd_ok, checked_good h, shape_good hl h, labels_good hl h, bad_place_good h, ite_b]
  by_cases h0 : way = 0
  · simp only [h0, if_true, tryE_okE, bnd_ok]
    rfl
  · simp only [h0, if_false]
    by_cases h1 : way = 1
    · simp only [h1, if_true, tryE_okE, bnd_ok]
      rfl
    · simp only [h1, if_false]
      by_cases h2 : way = 2
      · simp only [h2, if_true, tryE_okE, bnd_ok]
        rfl
      · simp only [h2, if_false]
        rcases bp_code 0 0 row with ⟨a1, a2⟩ | ⟨i, a1, a2⟩
        · rw [a2, a1]
          simp only [Option.isNone_none, if_true, tryE_okE, bnd_ok]
          rfl
        · rw [a2, a1]
          simp only [Option.isNone_some, Bool.false_eq_true, if_false, tryE_okE, bnd_ok, show (0 : Int) ≤ (i : Int) from by omega, if_true]
          rfl
theorem told_bad {row : List Int} {n : Nat} {x : Int} (h1 : row[n]? = some x) (h2 : ¬ Good x) (h3 : ∀ (i : Nat) (y : Int), i < n → row[i]? = some y → Good y) (way : Int) : m__law_told way row = .ok ⟨"BadSign", .i (n : Int)⟩ := by
  have e1 : m_shape_of row = .err (ferr n) := by
    unfold m_shape_of
    simp only [Out.bind_assoc, bnd_ok, checked_bad h1 h2 h3, bnd_err]
  have e2 : m_labels_of row = .err (ferr n) := by
    unfold m_labels_of
    simp only [Out.bind_assoc, bnd_ok, checked_bad h1 h2 h3, bnd_err]
  have e3 : m_bad_place row = .err (ferr n) := by
    unfold m_bad_place
    simp only [Out.bind_assoc, bnd_ok, checked_bad h1 h2 h3, bnd_err]
  unfold m__law_told
  simp only [Out.bind_assoc, bnd_ok, checked_bad h1 h2 h3, e1, e2, e3, bnd_err, ite_self]
  rw [tryE_errE (e := ferr n) (a := Sum.inr ⟨"BadSign", .i (n : Int)⟩) rfl]
  · rfl
  · rfl
theorem due_bad {row : List Int} {n : Nat} {x : Int} (hl : row.length < 16777216) (h1 : row[n]? = some x) (h2 : ¬ Good x) (h3 : ∀ (i : Nat) (y : Int), i < n → row[i]? = some y → Good y) (way : Int) : m__law_due way row = .ok ⟨"BadSign", .i (n : Int)⟩ := by
  unfold m__law_due
  simp only [Out.bind_assoc, bnd_ok, bad_bad hl h1 h2 h3, decide_eq_true (show (0 : Int) ≤ (n : Int) by omega), if_true]
theorem whole_true {x : Int} : m__law_whole x = .ok true := by
  unfold m__law_whole
  simp only [Out.bind_assoc, bnd_ok, if_true, Bool.not_false]
theorem right_true {way : Int} {row : List Int} (hl : row.length < 16777214) : m__law_right way row = .ok true := by
  have key : ∃ nm, (∃ v, m__law_due way row = .ok ⟨nm, .i v⟩ ∧ m__law_told way row = .ok ⟨nm, .i v⟩ ∧ nm ≠ "row") ∨ (∃ r : List Int, r.length ≤ row.length ∧ m__law_due way row = .ok ⟨"row", .l r⟩ ∧ m__law_told way row = .ok ⟨"row", .l r⟩) := by
    rcases good_or row with h | ⟨n, x, h1, h2, h3⟩
    · have d := due_good (show row.length < 16777216 by omega) h way
      have t := told_good (show row.length < 16777216 by omega) h way
      by_cases c0 : way = 0
      · rw [if_pos c0] at d t
        exact ⟨"row", .inr ⟨_, Nat.le_refl _, d, t⟩⟩
      · rw [if_neg c0] at d t
        by_cases c1 : way = 1
        · rw [if_pos c1] at d t
          exact ⟨"row", .inr ⟨_, by unfold mapP; rw [List.length_map]; exact Nat.le_refl _, d, t⟩⟩
        · rw [if_neg c1] at d t
          by_cases c2 : way = 2
          · rw [if_pos c2] at d t
            exact ⟨"row", .inr ⟨_, List.length_filter_le _ _, d, t⟩⟩
          · rw [if_neg c2] at d t
            by_cases c3 : 0 ≤ bcode (bp 0 0 row)
            · rw [if_pos c3] at d t
              exact ⟨"place", .inl ⟨_, d, t, by decide⟩⟩
            · rw [if_neg c3] at d t
              exact ⟨"none", .inl ⟨_, d, t, by decide⟩⟩
    · exact ⟨"BadSign", .inl ⟨_, due_bad (by omega) h1 h2 h3 way, told_bad h1 h2 h3 way, by decide⟩⟩
  obtain ⟨nm, ⟨v, d, t, hn⟩ | ⟨r, hr, d, t⟩⟩ := key
  · unfold m__law_right
    simp only [Out.bind_assoc, bnd_ok, d, t, decide_true, Bool.not_true, Bool.false_eq_true, if_false, row_self (show row.length < 16777216 by omega), decide_eq_false hn, Bool.not_false, if_true, toI_i, whole_true]
  · have hr3 : (r ++ [3]).length < 16777216 := by rw [List.length_append, len1]; omega
    unfold m__law_right
    simp only [Out.bind_assoc, bnd_ok, d, t, decide_true, Bool.not_true, Bool.false_eq_true, if_false, row_self (show row.length < 16777216 by omega), toL_l, row_self (show r.length < 16777216 by omega)]
    rw [appL_ok (show r.length < 16777216 by omega), bnd_ok, appL_ok (show row.length < 16777216 by omega), bnd_ok]
    rw [chk_pos (show lenOk (r.length + [(3 : Int)].length) by unfold lenOk; rw [len1]; omega), bnd_ok, row_self hr3, bnd_ok]
theorem ltold_err {sh ls : List Int} {k : EK} {f nm : Str} {v : Int} (h1 : m_labelled sh ls = .err ⟨k, some [(f, PyE.val v)]⟩) (hk : (k = .BadSign ∧ f = "place" ∧ nm = "BadSign") ∨ (k = .BadLabel ∧ f = "label" ∧ nm = "BadLabel") ∨ (k = .BadNumber ∧ f = "value" ∧ nm = "BadNumber")) : m__law_labelled_told sh ls = .ok ⟨nm, .i v⟩ := by
  unfold m__law_labelled_told
  simp only [Out.bind_assoc, bnd_ok, h1, bnd_err]
  rcases hk with ⟨a, b, c⟩ | ⟨a, b, c⟩ | ⟨a, b, c⟩ <;> subst a b c
  · rw [tryE_errE (a := Sum.inr ⟨"BadSign", .i v⟩) rfl]
    · rfl
    · rfl
  · rw [tryE_errE (a := Sum.inr ⟨"BadLabel", .i v⟩) rfl]
    · rfl
    · rfl
  · rw [tryE_errE (a := Sum.inr ⟨"BadNumber", .i v⟩) rfl]
    · rfl
    · rfl
theorem ltold_row {sh ls r : List Int} (h1 : m_labelled sh ls = .ok r) : m__law_labelled_told sh ls = .ok ⟨"row", .l r⟩ := by
  unfold m__law_labelled_told
  simp only [Out.bind_assoc, bnd_ok, h1, tryE_okE]
  rfl
theorem lright_true {sh ls : List Int} (hs : sh.length < 16777215) (hl : ls.length < 16777215) : m__law_labelled_right sh ls = .ok true := by
  cases lend sh ls hs with
  | er k f nm v h1 h2 hk =>
    have t := ltold_err h1 hk
    have hn : nm ≠ "row" := by rcases hk with ⟨_, _, c⟩ | ⟨_, _, c⟩ | ⟨_, _, c⟩ <;> subst c <;> decide
    unfold m__law_labelled_right
    simp only [Out.bind_assoc, bnd_ok, h2, t, decide_true, Bool.not_true, Bool.false_eq_true, if_false, row_self (show sh.length < 16777216 by omega), row_self (show ls.length < 16777216 by omega), decide_eq_false hn, Bool.not_false, if_true, toI_i, whole_true]
  | row r hr h1 h2 =>
    have t := ltold_row h1
    unfold m__law_labelled_right
    simp only [Out.bind_assoc, bnd_ok, h2, t, decide_true, Bool.not_true, Bool.false_eq_true, if_false, row_self (show sh.length < 16777216 by omega), row_self (show ls.length < 16777216 by omega), toL_l, row_self (show r.length < 16777216 by omega)]
    rw [appL_ok (show r.length < 16777216 by omega), bnd_ok]
    simp only [if_true, bnd_ok]

/-! ### the rest of what the law builds -/
theorem drawn_is {d : List Int} (hd : d.length = 360) {n : Int} (h0 : 1 ≤ n) (h1 : n ≤ 24) : Is (m__law_drawn d n) fun ps => PairsOk ps ∧ ps.length = n.toNat := by
  unfold m__law_drawn
  simp only [Out.bind_assoc, bnd_ok]
  refine Is.bind (Q := fun _ => True) (Is.item (by decide) (by omega) fun _ _ _ => trivial) fun x3 _ => ?_
  refine Is.bind (Q := fun few : Int => 0 < few) (Is.ite (fun _ => Is.bind (Q := fun _ => True) (Is.item (by decide) (by omega) fun _ _ _ => trivial) fun x _ => Is.ok (by omega)) fun _ => Is.ok (by decide)) fun few hf => ?_
  rw [rng_ok (by omega) (by omega), bnd_ok]
  refine Is.for (fun i (s : List (Int × Int) × List Int) => (s.1.length = i ∧ PairsOk s.1) ∧ s.2.length ≤ i ∧ (0 < i → 0 < s.2.length) ∧ ∀ y ∈ s.2, 0 ≤ y ∧ y < i) ⟨⟨rfl, fun k p h => by simp at h⟩, Nat.le_refl _, fun h => absurd h (Nat.lt_irrefl _), fun _ h => nomatch h⟩ (fun i x s hx hs => ?_) (fun s hs => Is.ok ⟨hs.1.2, by rw [hs.1.1, rangeI_len]⟩)
  obtain ⟨k1, k2⟩ := range_at hx
  have hi : i < 24 := by omega
  have hxi : x = (i : Int) := by omega
  obtain ⟨⟨s1, s2⟩, s3, s5, s4⟩ := hs
  refine Is.bind (Q := fun _ => True) (Is.item (by omega) (by omega) fun _ _ _ => trivial) fun mark _ => ?_
  refine Is.bind (Q := fun b => b = true → 0 < i) (Is.ite (fun c => Is.ok fun _ => by have c' : 0 < x := of_decide_eq_true c; omega) fun _ => Is.ok fun z => by cases z) fun b hb => ?_
  refine Is.bind (Q := fun _ => True) (Is.ite (fun c => ?_) fun _ => Is.ok trivial) fun keep _ => ?_
  · have := s5 (hb c)
    refine Is.bind (Q := fun _ => True) (Is.item (by omega) (by omega) fun _ _ _ => trivial) fun y _ => ?_
    exact Is.bind (Q := fun _ => True) (Is.chk (by omega) trivial) fun _ _ => Is.ok trivial
  generalize hp : cut s.2 none (some (if keep > 1 then keep else 1)) = path
  have hpt : path = s.2.take (if keep > 1 then keep else 1).toNat := by
    rw [← hp]
    exact cut_to (by split <;> omega)
  have hpl : path.length ≤ i := by
    rw [← hp]
    exact Nat.le_trans cut_len s3
  have hpm : ∀ y ∈ path, 0 ≤ y ∧ y < (i : Int) := fun y hy => s4 y (by rw [← hp] at hy; exact cut_mem hy)
  refine Is.bind (Q := fun up : Int => -1 ≤ up ∧ up < i) (Is.ite (fun c => ?_) fun _ => Is.ok (by omega)) fun up hup => ?_
  · have c' : 0 < x := of_decide_eq_true c
    have hpos := s5 (by omega)
    have hne : path ≠ [] := by
      intro z
      have hz : path.length = 0 := by rw [z]; rfl
      rw [hpt, List.length_take] at hz
      have : 1 ≤ (if keep > 1 then keep else 1).toNat := by split <;> omega
      omega
    exact (Is.last hne hpm).mono fun y hy => by omega
  refine Is.bind (Q := fun _ => True) (Is.chk hf trivial) fun _ _ => ?_
  refine Is.bind (Q := fun _ => True) (Is.item (by decide) (by omega) fun _ _ _ => trivial) fun _ _ => ?_
  refine Is.bind (Q := fun q : List (Int × Int) => q.length = i + 1 ∧ PairsOk q) (Is.app (by omega) ⟨by simp [s1], fun k p hk => ?_⟩) fun q hq => ?_
  · by_cases hk' : k < s.1.length
    · rw [List.getElem?_append_left hk'] at hk
      exact s2 k p hk
    · rw [List.getElem?_append_right (by omega)] at hk
      have hk2 : k = i := by
        obtain ⟨z, _⟩ := List.getElem?_eq_some_iff.mp hk
        simp at z
        omega
      subst hk2
      rw [s1, Nat.sub_self] at hk
      have e := Option.some.inj hk
      rw [← e]
      exact hup
  refine Is.bind (Q := fun q : List Int => q.length ≤ i + 1 ∧ 0 < q.length ∧ ∀ y ∈ q, 0 ≤ y ∧ y < ((i + 1 : Nat) : Int)) (Is.app (by omega) ⟨by simp; omega, by simp, fun y hy => ?_⟩) fun r hr => Is.ok ⟨_, rfl, hq, hr.1, fun _ => hr.2.1, hr.2.2⟩
  rcases List.mem_append.mp hy with hy | hy
  · have := hpm y hy
    omega
  · rw [List.mem_singleton.mp hy]
    omega
theorem spoilt_is {r m t : List Int} (hr : r.length ≤ 2000) (hm : 0 < m.length) (ht : t.length = 3) : Is (m__law_spoilt r m t) fun q => q.length ≤ 4001 := by
  unfold m__law_spoilt
  simp only [Out.bind_assoc, bnd_ok]
  have it : ∀ k : Int, 0 ≤ k → k < 3 → Is (item t k) fun _ => True := fun k h0 h1 => Is.item h0 (by omega) fun _ _ _ => trivial
  have c1 : ∀ lo hi : Option Int, (cut r lo hi).length ≤ 2000 := fun lo hi => Nat.le_trans cut_len hr
  refine Is.bind (it _ (by decide) (by decide)) fun x0 _ => ?_
  refine Is.bind (Q := fun _ => True) (Is.chk (by omega) trivial) fun p _ => ?_
  have a1 := c1 none (some p)
  have a2 := c1 (some (p + 1)) none
  have a3 := c1 (some p) none
  refine Is.bind (it _ (by decide) (by decide)) fun x1 _ => ?_
  have hmod : 0 ≤ x1 % (m.length : Int) ∧ x1 % (m.length : Int) < m.length := ⟨Int.emod_nonneg _ (by omega), Int.emod_lt_of_pos _ (by omega)⟩
  refine Is.bind (Q := fun y => y = x1 % (m.length : Int)) (Is.chk (by omega) rfl) fun y hy => ?_
  subst hy
  refine Is.bind (Q := fun _ => True) (Is.item hmod.1 hmod.2 fun _ _ _ => trivial) fun mem _ => ?_
  refine Is.bind (it _ (by decide) (by decide)) fun x2 _ => Is.ite (fun _ => ?_) fun _ => ?_
  · refine Is.bind (Q := fun q : List Int => q.length ≤ 2001) (Is.chk (by unfold lenOk; rw [len1]; omega) (by rw [List.length_append, len1]; omega)) fun q hq => ?_
    exact Is.bind (Q := fun q : List Int => q.length ≤ 4001) (Is.chk (by unfold lenOk; omega) (by rw [List.length_append]; omega)) fun q2 hq2 => Is.ok hq2
  · refine Is.bind (it _ (by decide) (by decide)) fun x3 _ => Is.ite (fun _ => ?_) fun _ => ?_
    · refine Is.bind (Q := fun q : List Int => q.length ≤ 2001) (Is.chk (by unfold lenOk; rw [len1]; omega) (by rw [List.length_append, len1]; omega)) fun q hq => ?_
      exact Is.bind (Q := fun q : List Int => q.length ≤ 4001) (Is.chk (by unfold lenOk; omega) (by rw [List.length_append]; omega)) fun q2 hq2 => Is.ok hq2
    · refine Is.bind (it _ (by decide) (by decide)) fun x4 _ => Is.ite (fun _ => ?_) fun _ => Is.ok (by omega)
      exact Is.bind (Q := fun q : List Int => q.length ≤ 4001) (Is.chk (by unfold lenOk; omega) (by rw [List.length_append]; omega)) fun q2 hq2 => Is.ok hq2
theorem law_true (ns : List Int) (hns : ns.length ≤ 63) : m_law ⟨ns⟩ = .ok true := by
  suffices h : Is (m_law ⟨ns⟩) fun b => b = true by
    obtain ⟨b, e, q⟩ := h
    rw [e, q]
  unfold m_law
  simp only [Out.bind_assoc, bnd_ok]
  refine Is.bind (digits_is ⟨ns⟩ hns) fun d hd => ?_
  have it : ∀ k : Int, 0 ≤ k → k < 360 → Is (item d k) fun _ => True := fun k h0 h1 => Is.item h0 (by omega) fun _ _ _ => trivial
  refine Is.bind (it _ (by decide) (by decide)) fun x0 _ => Is.bind (it _ (by decide) (by decide)) fun x1 _ => ?_
  refine Is.bind (Q := fun n : Int => 0 ≤ n ∧ n ≤ 60) (Is.ite (fun _ => Is.bind (it _ (by decide) (by decide)) fun y0 _ => Is.ok (by omega)) fun _ => Is.ok (by omega)) fun n hn => ?_
  refine Is.bind (it _ (by decide) (by decide)) fun x2 _ => ?_
  refine Is.bind (drawn_is hd (n := 1 + (x2 + 5) % 24) (by omega) (by omega)) fun ps hps => ?_
  refine Is.bind (signs_is hps.1 (by rw [hps.2]; omega)) fun tr htr => ?_
  refine Is.bind (segment_is hd hn.1 hn.2) fun fr hfr => ?_
  refine Is.bind (Q := fun q : List Int => q.length ≤ 2001) (Is.chk (by unfold lenOk; rw [len1]; omega) (by rw [List.length_append, len1]; omega)) fun r5 h5 => ?_
  refine Is.bind (it _ (by decide) (by decide)) fun x6 _ => ?_
  refine Is.bind (Q := fun q : List Int => q.length ≤ 2001) (Is.chk (by unfold lenOk; rw [len1]; omega) (by rw [List.length_append, len1]; omega)) fun r6 h6 => ?_
  have hc1 : (cut tr (some 1) none).length ≤ 2000 := Nat.le_trans cut_len htr
  have hc2 : (cut tr none (some (-1))).length ≤ 2000 := Nat.le_trans cut_len htr
  refine Is.bind (Q := fun q : List (List Int) => q.length = 7 ∧ ∀ r ∈ q, r.length ≤ 5000) (Is.chk (show lenOk 7 by unfold lenOk; omega) ⟨rfl, fun r hr => ?_⟩) fun rows hrows => ?_
  · simp only [List.cons_append, List.nil_append, List.mem_cons, List.not_mem_nil, or_false] at hr
    rcases hr with e | e | e | e | e | e | e <;> subst e <;> first | omega | (show _ ≤ 5000; simp) | (simp; omega)
  rw [rng_ok (by decide) (by decide), bnd_ok]
  refine Is.for (fun i (s : List (List Int)) => s.length = 7 + i ∧ ∀ r ∈ s, r.length ≤ 5000) hrows (fun i x s hx hs => ?_) (fun s hs => ?_)
  · obtain ⟨k1, k2⟩ := range_at hx
    have hi : i < 8 := k1
    refine Is.bind (Q := fun q : List Int => q.length ≤ 2000) (Is.ite (fun _ => Is.ok (by omega)) fun _ => Is.ok htr) fun r hr => ?_
    have hc : (cut d (some (260 + 5 * x)) (some (265 + 5 * x))).length = 5 := by
      rw [cut_two (by omega) (by omega), List.length_take, List.length_drop]
      omega
    refine Is.bind (bent_is hr hc) fun q hq => ?_
    refine Is.bind (Q := fun q : List (List Int) => q.length = 7 + (i + 1) ∧ ∀ r ∈ q, r.length ≤ 5000) (Is.app (by omega) ⟨by simp [hs.1]; omega, fun r hr => ?_⟩) fun q hq => Is.ok ⟨_, rfl, hq⟩
    rcases List.mem_append.mp hr with hr | hr
    · exact hs.2 r hr
    · rw [List.mem_singleton.mp hr]
      omega
  rw [rangeI_len] at hs
  have hs1 : s.length = 15 := hs.1
  refine Is.bind (Q := fun q : List Int => q.length ≤ 5000) (Is.item (by decide) (by omega) fun r hr _ => hs.2 r hr) fun q1 g1 => ?_
  refine Is.bind (Q := fun q : List Int => q.length ≤ 5001) (Is.chk (by unfold lenOk; rw [len1]; omega) (by rw [List.length_append, len1]; omega)) fun q2 g2 => ?_
  refine Is.bind (Q := fun q : List Int => q.length ≤ 5000) (Is.item (by decide) (by omega) fun r hr _ => hs.2 r hr) fun q3 g3 => ?_
  refine Is.bind (Q := fun q : List Int => q.length ≤ 10001) (Is.chk (by unfold lenOk; omega) (by rw [List.length_append]; omega)) fun q4 g4 => ?_
  refine Is.bind (Q := fun q : List Int => q.length ≤ 10002) (Is.chk (by unfold lenOk; rw [len1]; omega) (by rw [List.length_append, len1]; omega)) fun q5 g5 => ?_
  refine Is.bind (Q := fun q : List (List Int) => q.length = 16 ∧ ∀ r ∈ q, r.length ≤ 10002) (Is.app (by omega) ⟨by simp [hs1], fun r hr => ?_⟩) fun rs hrs => ?_
  · rcases List.mem_append.mp hr with hr | hr
    · have := hs.2 r hr
      omega
    · rw [List.mem_singleton.mp hr]
      omega
  refine Is.bind (Q := fun q : List Int => q.length ≤ 10002) (Is.item (by decide) (by omega) fun r hr _ => hrs.2 r hr) fun q6 g6 => ?_
  refine Is.bind (Q := fun q : List Int => q.length ≤ 10003) (Is.chk (by unfold lenOk; rw [len1]; omega) (by rw [List.length_append, len1]; omega)) fun q7 g7 => ?_
  refine Is.bind (Q := fun q : List (List Int) => ∀ r ∈ q, r.length ≤ 10003) (Is.app (by omega) fun r hr => ?_) fun rt hrt => ?_
  · rcases List.mem_append.mp hr with hr | hr
    · have := hrs.2 r hr
      omega
    · rw [List.mem_singleton.mp hr]
      omega
  refine Is.for (fun _ _ => True) trivial (fun i x s hx _ => ?_) fun _ _ => ?_
  · have hm := hrt x (List.mem_of_getElem? hx)
    rw [rng_ok (by decide) (by decide), bnd_ok]
    refine Is.for (fun _ _ => True) trivial (fun j y t hy _ => ?_) fun _ _ => Is.ok ⟨(), rfl, trivial⟩
    rw [right_true (by omega), bnd_ok]
    exact Is.ok ⟨(), rfl, trivial⟩
  rw [rng_ok (by decide) (by decide), bnd_ok]
  refine Is.for (fun _ _ => True) trivial (fun i x s hx _ => ?_) fun _ _ => ?_
  · obtain ⟨k1, k2⟩ := range_at hx
    have hi : i < 6 := k1
    refine Is.bind (Q := fun q : List Int => q.length ≤ 2000) (Is.item (by omega) (by show x % 2 < 2; omega) fun r hr _ => ?_) fun r hr => ?_
    · simp only [List.mem_cons, List.not_mem_nil, or_false] at hr
      rcases hr with e | e <;> subst e <;> omega
    refine Is.bind (Q := fun q : List Int => q.length ≤ 2000) ⟨_, lcL_map r [] (by rw [List.length_nil]; omega), (show (([] : List Int) ++ _).length ≤ 2000 by rw [List.nil_append, List.length_map]; exact hr)⟩ fun sh hsh => ?_
    refine Is.bind (Q := fun q : List Int => q.length ≤ 2000) ⟨_, lcL_filter r [] (by rw [List.length_nil]; omega), by rw [List.nil_append]; exact Nat.le_trans (List.length_filter_le _ _) hr⟩ fun lb hlb => ?_
    rw [lright_true (by omega) (by omega), bnd_ok, if_neg (by simp)]
    have hd6 : (cut d (some (300 + 6 * x)) (some (306 + 6 * x))).length = 6 := by
      rw [cut_two (by omega) (by omega), List.length_take, List.length_drop]
      omega
    have h3a : (cut (cut d (some (300 + 6 * x)) (some (306 + 6 * x))) none (some 3)).length = 3 := by
      rw [cut_to (by decide), List.length_take, hd6]
      rfl
    have h3b : (cut (cut d (some (300 + 6 * x)) (some (306 + 6 * x))) (some 3) none).length = 3 := by
      rw [cut_from (by decide), List.length_drop, hd6]
      rfl
    refine Is.bind (spoilt_is hsh (by decide) h3a) fun sh2 hsh2 => ?_
    refine Is.bind (spoilt_is hlb (by decide) h3b) fun lb2 hlb2 => ?_
    rw [lright_true (by omega) (by omega), bnd_ok, if_neg (by simp)]
    exact Is.ok ⟨(), rfl, trivial⟩
  · rw [right_true (by omega), right_true (by omega), bnd_ok]
    exact Is.ok rfl
end K06
set_option maxRecDepth 100000
set_option maxHeartbeats 4000000
namespace K06
open PySem PySem.Spec PyProof.Rows L2 Mw

def top (i : Nat) : Stmt := PySem.Challenge.pw_packedtrees_k06_tree_rows_judged.main.body.getD i (.Pass ⟨0, 0, 0, 0⟩)
abbrev st_checked_row : Stmt := top 8
abbrev st_bad_place : Stmt := top 9
abbrev st_shape_of : Stmt := top 10
abbrev st_labels_of : Stmt := top 11
abbrev st_labelled : Stmt := top 12
abbrev st__law_digits : Stmt := top 14
abbrev st__law_drawn : Stmt := top 15
abbrev st__law_whole : Stmt := top 16
abbrev st__law_row : Stmt := top 17
abbrev st__law_depths : Stmt := top 18
abbrev st__law_signs : Stmt := top 19
abbrev st__law_segment : Stmt := top 20
abbrev st__law_bad_sign : Stmt := top 21
abbrev st__law_bad_place : Stmt := top 22
abbrev st__law_bent_row : Stmt := top 23
abbrev st__law_due : Stmt := top 24
abbrev st__law_told : Stmt := top 25
abbrev st__law_right : Stmt := top 26
abbrev st__law_labelled_due : Stmt := top 27
abbrev st__law_labelled_told : Stmt := top 28
abbrev st__law_labelled_right : Stmt := top 29
abbrev st__law_spoilt : Stmt := top 30
abbrev st_law : Stmt := top 31
abbrev st_iBadLabel : Stmt := inClass (top 5) 0
abbrev st_iBadNumber : Stmt := inClass (top 6) 0
abbrev st_iBadSign : Stmt := inClass (top 2) 0
theorem sc_checked_row : FnScope ["row", "place", "sign"] ["row"] (defScope st_checked_row) := ⟨rfl, rfl, rfl, by decide +kernel, rfl, by decide +kernel, by decide +kernel⟩
theorem sc_bad_place : FnScope ["row", "signs", "excess", "place", "sign"] ["row"] (defScope st_bad_place) := ⟨rfl, rfl, rfl, by decide +kernel, rfl, by decide +kernel, by decide +kernel⟩
theorem sc_shape_of : FnScope ["row", "sign"] ["row"] (defScope st_shape_of) := ⟨rfl, rfl, rfl, by decide +kernel, rfl, by decide +kernel, by decide +kernel⟩
theorem sc_labels_of : FnScope ["row", "sign"] ["row"] (defScope st_labels_of) := ⟨rfl, rfl, rfl, by decide +kernel, rfl, by decide +kernel, by decide +kernel⟩
theorem sc_labelled : FnScope ["shape", "labels", "place", "sign", "label", "row", "used"] ["shape", "labels"] (defScope st_labelled) := ⟨rfl, rfl, rfl, by decide +kernel, rfl, by decide +kernel, by decide +kernel⟩
theorem sc__law_digits : FnScope ["script", "many", "pool", "cell", "left", "k", "size", "digits"] ["script", "many"] (defScope st__law_digits) := ⟨rfl, rfl, rfl, by decide +kernel, rfl, by decide +kernel, by decide +kernel⟩
theorem sc__law_drawn : FnScope ["digits", "size", "few", "pairs", "path", "k", "mark", "keep", "up"] ["digits", "size"] (defScope st__law_drawn) := ⟨rfl, rfl, rfl, by decide +kernel, rfl, by decide +kernel, by decide +kernel⟩
theorem sc__law_whole : FnScope ["told"] ["told"] (defScope st__law_whole) := ⟨rfl, rfl, rfl, by decide +kernel, rfl, by decide +kernel, by decide +kernel⟩
theorem sc__law_row : FnScope ["told", "due", "k"] ["told", "due"] (defScope st__law_row) := ⟨rfl, rfl, rfl, by decide +kernel, rfl, by decide +kernel, by decide +kernel⟩
theorem sc__law_depths : FnScope ["pairs", "depths", "up", "label"] ["pairs"] (defScope st__law_depths) := ⟨rfl, rfl, rfl, by decide +kernel, rfl, by decide +kernel, by decide +kernel⟩
theorem sc__law_signs : FnScope ["pairs", "depths", "row", "last", "k"] ["pairs"] (defScope st__law_signs) := ⟨rfl, rfl, rfl, by decide +kernel, rfl, by decide +kernel, by decide +kernel⟩
theorem sc__law_segment : FnScope ["digits", "at", "size", "turn", "few", "row", "k", "mark", "label"] ["digits", "at", "size"] (defScope st__law_segment) := ⟨rfl, rfl, rfl, by decide +kernel, rfl, by decide +kernel, by decide +kernel⟩
theorem sc__law_bad_sign : FnScope ["row", "k"] ["row"] (defScope st__law_bad_sign) := ⟨rfl, rfl, rfl, by decide +kernel, rfl, by decide +kernel, by decide +kernel⟩
theorem sc__law_bad_place : FnScope ["row", "excess", "k"] ["row"] (defScope st__law_bad_place) := ⟨rfl, rfl, rfl, by decide +kernel, rfl, by decide +kernel, by decide +kernel⟩
theorem sc__law_bent_row : FnScope ["row", "five", "place", "sign"] ["row", "five"] (defScope st__law_bent_row) := ⟨rfl, rfl, rfl, by decide +kernel, rfl, by decide +kernel, by decide +kernel⟩
theorem sc__law_due : FnScope ["way", "row", "sign"] ["way", "row"] (defScope st__law_due) := ⟨rfl, rfl, rfl, by decide +kernel, rfl, by decide +kernel, by decide +kernel⟩
theorem sc__law_told : FnScope ["way", "handed", "told", "place", "e", "kinds"] ["way", "handed"] (defScope st__law_told) := ⟨rfl, rfl, rfl, by decide +kernel, rfl, by decide +kernel, by decide +kernel⟩
theorem sc__law_right : FnScope ["way", "row", "due", "handed", "told"] ["way", "row"] (defScope st__law_right) := ⟨rfl, rfl, rfl, by decide +kernel, rfl, by decide +kernel, by decide +kernel⟩
theorem sc__law_labelled_due : FnScope ["shape", "labels", "k", "label", "row", "used", "sign"] ["shape", "labels"] (defScope st__law_labelled_due) := ⟨rfl, rfl, rfl, by decide +kernel, rfl, by decide +kernel, by decide +kernel⟩
theorem sc__law_labelled_told : FnScope ["shape", "labels", "told", "e", "kinds"] ["shape", "labels"] (defScope st__law_labelled_told) := ⟨rfl, rfl, rfl, by decide +kernel, rfl, by decide +kernel, by decide +kernel⟩
theorem sc__law_labelled_right : FnScope ["shape", "labels", "due", "handed", "other", "told"] ["shape", "labels"] (defScope st__law_labelled_right) := ⟨rfl, rfl, rfl, by decide +kernel, rfl, by decide +kernel, by decide +kernel⟩
theorem sc__law_spoilt : FnScope ["row", "members", "three", "place", "member"] ["row", "members", "three"] (defScope st__law_spoilt) := ⟨rfl, rfl, rfl, by decide +kernel, rfl, by decide +kernel, by decide +kernel⟩
theorem sc_law : FnScope ["script", "digits", "size", "tree", "free", "rows", "k", "row", "way", "far", "six", "shape", "sign", "labels"] ["script"] (defScope st_law) := ⟨rfl, rfl, rfl, by decide +kernel, rfl, by decide +kernel, by decide +kernel⟩
theorem sc_iBadLabel : FnScope ["self", "label"] ["self", "label"] (defScope st_iBadLabel) := ⟨rfl, rfl, rfl, by decide +kernel, rfl, by decide +kernel, by decide +kernel⟩
theorem sc_iBadNumber : FnScope ["self", "value"] ["self", "value"] (defScope st_iBadNumber) := ⟨rfl, rfl, rfl, by decide +kernel, rfl, by decide +kernel, by decide +kernel⟩
theorem sc_iBadSign : FnScope ["self", "place"] ["self", "place"] (defScope st_iBadSign) := ⟨rfl, rfl, rfl, by decide +kernel, rfl, by decide +kernel, by decide +kernel⟩
structure Tx (K : PySem.W.Frag) (mg : Str → Option Value) (eg : EK → Addr) where
  a_checked_row : Addr
  d_checked_row : FuncData
  u_checked_row : Fun K "checked_row" "checked_row" st_checked_row a_checked_row d_checked_row
  b_checked_row : Binds K d_checked_row ["row"] []
  m_checked_row : mg "checked_row" = some (.ref a_checked_row)
  k_checked_row : PySem.W.keepIn K (.ref a_checked_row) = true
  a_bad_place : Addr
  d_bad_place : FuncData
  u_bad_place : Fun K "bad_place" "bad_place" st_bad_place a_bad_place d_bad_place
  b_bad_place : Binds K d_bad_place ["row"] []
  m_bad_place : mg "bad_place" = some (.ref a_bad_place)
  k_bad_place : PySem.W.keepIn K (.ref a_bad_place) = true
  a_shape_of : Addr
  d_shape_of : FuncData
  u_shape_of : Fun K "shape_of" "shape_of" st_shape_of a_shape_of d_shape_of
  b_shape_of : Binds K d_shape_of ["row"] []
  m_shape_of : mg "shape_of" = some (.ref a_shape_of)
  k_shape_of : PySem.W.keepIn K (.ref a_shape_of) = true
  a_labels_of : Addr
  d_labels_of : FuncData
  u_labels_of : Fun K "labels_of" "labels_of" st_labels_of a_labels_of d_labels_of
  b_labels_of : Binds K d_labels_of ["row"] []
  m_labels_of : mg "labels_of" = some (.ref a_labels_of)
  k_labels_of : PySem.W.keepIn K (.ref a_labels_of) = true
  a_labelled : Addr
  d_labelled : FuncData
  u_labelled : Fun K "labelled" "labelled" st_labelled a_labelled d_labelled
  b_labelled : Binds K d_labelled ["shape", "labels"] []
  m_labelled : mg "labelled" = some (.ref a_labelled)
  k_labelled : PySem.W.keepIn K (.ref a_labelled) = true
  a__law_digits : Addr
  d__law_digits : FuncData
  u__law_digits : Fun K "_law_digits" "_law_digits" st__law_digits a__law_digits d__law_digits
  b__law_digits : Binds K d__law_digits ["script", "many"] []
  m__law_digits : mg "_law_digits" = some (.ref a__law_digits)
  k__law_digits : PySem.W.keepIn K (.ref a__law_digits) = true
  a__law_drawn : Addr
  d__law_drawn : FuncData
  u__law_drawn : Fun K "_law_drawn" "_law_drawn" st__law_drawn a__law_drawn d__law_drawn
  b__law_drawn : Binds K d__law_drawn ["digits", "size"] []
  m__law_drawn : mg "_law_drawn" = some (.ref a__law_drawn)
  k__law_drawn : PySem.W.keepIn K (.ref a__law_drawn) = true
  a__law_whole : Addr
  d__law_whole : FuncData
  u__law_whole : Fun K "_law_whole" "_law_whole" st__law_whole a__law_whole d__law_whole
  b__law_whole : Binds K d__law_whole ["told"] []
  m__law_whole : mg "_law_whole" = some (.ref a__law_whole)
  k__law_whole : PySem.W.keepIn K (.ref a__law_whole) = true
  a__law_row : Addr
  d__law_row : FuncData
  u__law_row : Fun K "_law_row" "_law_row" st__law_row a__law_row d__law_row
  b__law_row : Binds K d__law_row ["told", "due"] []
  m__law_row : mg "_law_row" = some (.ref a__law_row)
  k__law_row : PySem.W.keepIn K (.ref a__law_row) = true
  a__law_depths : Addr
  d__law_depths : FuncData
  u__law_depths : Fun K "_law_depths" "_law_depths" st__law_depths a__law_depths d__law_depths
  b__law_depths : Binds K d__law_depths ["pairs"] []
  m__law_depths : mg "_law_depths" = some (.ref a__law_depths)
  k__law_depths : PySem.W.keepIn K (.ref a__law_depths) = true
  a__law_signs : Addr
  d__law_signs : FuncData
  u__law_signs : Fun K "_law_signs" "_law_signs" st__law_signs a__law_signs d__law_signs
  b__law_signs : Binds K d__law_signs ["pairs"] []
  m__law_signs : mg "_law_signs" = some (.ref a__law_signs)
  k__law_signs : PySem.W.keepIn K (.ref a__law_signs) = true
  a__law_segment : Addr
  d__law_segment : FuncData
  u__law_segment : Fun K "_law_segment" "_law_segment" st__law_segment a__law_segment d__law_segment
  b__law_segment : Binds K d__law_segment ["digits", "at", "size"] []
  m__law_segment : mg "_law_segment" = some (.ref a__law_segment)
  k__law_segment : PySem.W.keepIn K (.ref a__law_segment) = true
  a__law_bad_sign : Addr
  d__law_bad_sign : FuncData
  u__law_bad_sign : Fun K "_law_bad_sign" "_law_bad_sign" st__law_bad_sign a__law_bad_sign d__law_bad_sign
  b__law_bad_sign : Binds K d__law_bad_sign ["row"] []
  m__law_bad_sign : mg "_law_bad_sign" = some (.ref a__law_bad_sign)
  k__law_bad_sign : PySem.W.keepIn K (.ref a__law_bad_sign) = true
  a__law_bad_place : Addr
  d__law_bad_place : FuncData
  u__law_bad_place : Fun K "_law_bad_place" "_law_bad_place" st__law_bad_place a__law_bad_place d__law_bad_place
  b__law_bad_place : Binds K d__law_bad_place ["row"] []
  m__law_bad_place : mg "_law_bad_place" = some (.ref a__law_bad_place)
  k__law_bad_place : PySem.W.keepIn K (.ref a__law_bad_place) = true
  a__law_bent_row : Addr
  d__law_bent_row : FuncData
  u__law_bent_row : Fun K "_law_bent_row" "_law_bent_row" st__law_bent_row a__law_bent_row d__law_bent_row
  b__law_bent_row : Binds K d__law_bent_row ["row", "five"] []
  m__law_bent_row : mg "_law_bent_row" = some (.ref a__law_bent_row)
  k__law_bent_row : PySem.W.keepIn K (.ref a__law_bent_row) = true
  a__law_due : Addr
  d__law_due : FuncData
  u__law_due : Fun K "_law_due" "_law_due" st__law_due a__law_due d__law_due
  b__law_due : Binds K d__law_due ["way", "row"] []
  m__law_due : mg "_law_due" = some (.ref a__law_due)
  k__law_due : PySem.W.keepIn K (.ref a__law_due) = true
  a__law_told : Addr
  d__law_told : FuncData
  u__law_told : Fun K "_law_told" "_law_told" st__law_told a__law_told d__law_told
  b__law_told : Binds K d__law_told ["way", "handed"] []
  m__law_told : mg "_law_told" = some (.ref a__law_told)
  k__law_told : PySem.W.keepIn K (.ref a__law_told) = true
  a__law_right : Addr
  d__law_right : FuncData
  u__law_right : Fun K "_law_right" "_law_right" st__law_right a__law_right d__law_right
  b__law_right : Binds K d__law_right ["way", "row"] []
  m__law_right : mg "_law_right" = some (.ref a__law_right)
  k__law_right : PySem.W.keepIn K (.ref a__law_right) = true
  a__law_labelled_due : Addr
  d__law_labelled_due : FuncData
  u__law_labelled_due : Fun K "_law_labelled_due" "_law_labelled_due" st__law_labelled_due a__law_labelled_due d__law_labelled_due
  b__law_labelled_due : Binds K d__law_labelled_due ["shape", "labels"] []
  m__law_labelled_due : mg "_law_labelled_due" = some (.ref a__law_labelled_due)
  k__law_labelled_due : PySem.W.keepIn K (.ref a__law_labelled_due) = true
  a__law_labelled_told : Addr
  d__law_labelled_told : FuncData
  u__law_labelled_told : Fun K "_law_labelled_told" "_law_labelled_told" st__law_labelled_told a__law_labelled_told d__law_labelled_told
  b__law_labelled_told : Binds K d__law_labelled_told ["shape", "labels"] []
  m__law_labelled_told : mg "_law_labelled_told" = some (.ref a__law_labelled_told)
  k__law_labelled_told : PySem.W.keepIn K (.ref a__law_labelled_told) = true
  a__law_labelled_right : Addr
  d__law_labelled_right : FuncData
  u__law_labelled_right : Fun K "_law_labelled_right" "_law_labelled_right" st__law_labelled_right a__law_labelled_right d__law_labelled_right
  b__law_labelled_right : Binds K d__law_labelled_right ["shape", "labels"] []
  m__law_labelled_right : mg "_law_labelled_right" = some (.ref a__law_labelled_right)
  k__law_labelled_right : PySem.W.keepIn K (.ref a__law_labelled_right) = true
  a__law_spoilt : Addr
  d__law_spoilt : FuncData
  u__law_spoilt : Fun K "_law_spoilt" "_law_spoilt" st__law_spoilt a__law_spoilt d__law_spoilt
  b__law_spoilt : Binds K d__law_spoilt ["row", "members", "three"] []
  m__law_spoilt : mg "_law_spoilt" = some (.ref a__law_spoilt)
  k__law_spoilt : PySem.W.keepIn K (.ref a__law_spoilt) = true
  a_law : Addr
  d_law : FuncData
  u_law : Fun K "law" "law" st_law a_law d_law
  b_law : Binds K d_law ["script"] []
  m_law : mg "law" = some (.ref a_law)
  k_law : PySem.W.keepIn K (.ref a_law) = true
  ia_BadLabel : Addr
  id_BadLabel : FuncData
  iu_BadLabel : Fun K "__init__" "BadLabel.__init__" st_iBadLabel ia_BadLabel id_BadLabel
  ib_BadLabel : Binds K id_BadLabel ["self", "label"] []
  in_BadLabel : PySem.W.findIn K (.ref (eg .BadLabel)) "__init__" = some (some (.ref ia_BadLabel))
  it_BadLabel : PySem.W.typeIn K (.ref ia_BadLabel) = some (.type "function")
  oex_BadLabel : OexC K (eg .BadLabel)
  ino_BadLabel : PySem.W.findIn K (.ref (eg .BadLabel)) "label" = some none
  ia_BadNumber : Addr
  id_BadNumber : FuncData
  iu_BadNumber : Fun K "__init__" "BadNumber.__init__" st_iBadNumber ia_BadNumber id_BadNumber
  ib_BadNumber : Binds K id_BadNumber ["self", "value"] []
  in_BadNumber : PySem.W.findIn K (.ref (eg .BadNumber)) "__init__" = some (some (.ref ia_BadNumber))
  it_BadNumber : PySem.W.typeIn K (.ref ia_BadNumber) = some (.type "function")
  oex_BadNumber : OexC K (eg .BadNumber)
  ino_BadNumber : PySem.W.findIn K (.ref (eg .BadNumber)) "value" = some none
  ia_BadSign : Addr
  id_BadSign : FuncData
  iu_BadSign : Fun K "__init__" "BadSign.__init__" st_iBadSign ia_BadSign id_BadSign
  ib_BadSign : Binds K id_BadSign ["self", "place"] []
  in_BadSign : PySem.W.findIn K (.ref (eg .BadSign)) "__init__" = some (some (.ref ia_BadSign))
  it_BadSign : PySem.W.typeIn K (.ref ia_BadSign) = some (.type "function")
  oex_BadSign : OexC K (eg .BadSign)
  ino_BadSign : PySem.W.findIn K (.ref (eg .BadSign)) "place" = some none
  g_BadLabel : mg "BadLabel" = some (.ref (eg .BadLabel))
  g_BadNumber : mg "BadNumber" = some (.ref (eg .BadNumber))
  g_BadRow : mg "BadRow" = some (.ref (eg .BadRow))
  g_BadSign : mg "BadSign" = some (.ref (eg .BadSign))
  g_BadSlots : mg "BadSlots" = some (.ref (eg .BadSlots))
  g_PackError : mg "PackError" = some (.ref (eg .PackError))
  no_BadLabel_label : PySem.W.findIn K (.ref (eg .BadLabel)) "label" = some none
  no_BadLabel_place : PySem.W.findIn K (.ref (eg .BadLabel)) "place" = some none
  no_BadLabel_value : PySem.W.findIn K (.ref (eg .BadLabel)) "value" = some none
  xc_BadLabel : ExcC K (eg .BadLabel)
  xf_BadLabel : XfC K (eg .BadLabel)
  xm_BadLabel_PackError : PySem.W.exmOne K (.ref (eg .BadLabel)) (.ref (eg .PackError)) = some true
  xk_BadLabel_BadLabel : PySem.W.kitOne K (.ref (eg .BadLabel)) (.ref (eg .BadLabel)) = some (isaE .BadLabel .BadLabel)
  xk_BadLabel_BadNumber : PySem.W.kitOne K (.ref (eg .BadLabel)) (.ref (eg .BadNumber)) = some (isaE .BadLabel .BadNumber)
  xk_BadLabel_BadRow : PySem.W.kitOne K (.ref (eg .BadLabel)) (.ref (eg .BadRow)) = some (isaE .BadLabel .BadRow)
  xk_BadLabel_BadSign : PySem.W.kitOne K (.ref (eg .BadLabel)) (.ref (eg .BadSign)) = some (isaE .BadLabel .BadSign)
  xk_BadLabel_BadSlots : PySem.W.kitOne K (.ref (eg .BadLabel)) (.ref (eg .BadSlots)) = some (isaE .BadLabel .BadSlots)
  xk_BadLabel_ValueError : PySem.W.kitOne K (.ref (eg .BadLabel)) (.type "ValueError") = some true
  no_BadNumber_label : PySem.W.findIn K (.ref (eg .BadNumber)) "label" = some none
  no_BadNumber_place : PySem.W.findIn K (.ref (eg .BadNumber)) "place" = some none
  no_BadNumber_value : PySem.W.findIn K (.ref (eg .BadNumber)) "value" = some none
  xc_BadNumber : ExcC K (eg .BadNumber)
  xf_BadNumber : XfC K (eg .BadNumber)
  xm_BadNumber_PackError : PySem.W.exmOne K (.ref (eg .BadNumber)) (.ref (eg .PackError)) = some true
  xk_BadNumber_BadLabel : PySem.W.kitOne K (.ref (eg .BadNumber)) (.ref (eg .BadLabel)) = some (isaE .BadNumber .BadLabel)
  xk_BadNumber_BadNumber : PySem.W.kitOne K (.ref (eg .BadNumber)) (.ref (eg .BadNumber)) = some (isaE .BadNumber .BadNumber)
  xk_BadNumber_BadRow : PySem.W.kitOne K (.ref (eg .BadNumber)) (.ref (eg .BadRow)) = some (isaE .BadNumber .BadRow)
  xk_BadNumber_BadSign : PySem.W.kitOne K (.ref (eg .BadNumber)) (.ref (eg .BadSign)) = some (isaE .BadNumber .BadSign)
  xk_BadNumber_BadSlots : PySem.W.kitOne K (.ref (eg .BadNumber)) (.ref (eg .BadSlots)) = some (isaE .BadNumber .BadSlots)
  xk_BadNumber_ValueError : PySem.W.kitOne K (.ref (eg .BadNumber)) (.type "ValueError") = some true
  no_BadSign_label : PySem.W.findIn K (.ref (eg .BadSign)) "label" = some none
  no_BadSign_place : PySem.W.findIn K (.ref (eg .BadSign)) "place" = some none
  no_BadSign_value : PySem.W.findIn K (.ref (eg .BadSign)) "value" = some none
  xc_BadSign : ExcC K (eg .BadSign)
  xf_BadSign : XfC K (eg .BadSign)
  xm_BadSign_PackError : PySem.W.exmOne K (.ref (eg .BadSign)) (.ref (eg .PackError)) = some true
  xk_BadSign_BadLabel : PySem.W.kitOne K (.ref (eg .BadSign)) (.ref (eg .BadLabel)) = some (isaE .BadSign .BadLabel)
  xk_BadSign_BadNumber : PySem.W.kitOne K (.ref (eg .BadSign)) (.ref (eg .BadNumber)) = some (isaE .BadSign .BadNumber)
  xk_BadSign_BadRow : PySem.W.kitOne K (.ref (eg .BadSign)) (.ref (eg .BadRow)) = some (isaE .BadSign .BadRow)
  xk_BadSign_BadSign : PySem.W.kitOne K (.ref (eg .BadSign)) (.ref (eg .BadSign)) = some (isaE .BadSign .BadSign)
  xk_BadSign_BadSlots : PySem.W.kitOne K (.ref (eg .BadSign)) (.ref (eg .BadSlots)) = some (isaE .BadSign .BadSlots)
  xk_BadSign_ValueError : PySem.W.kitOne K (.ref (eg .BadSign)) (.type "ValueError") = some true
  z_ValueError : mg "ValueError" = none
  z_abs : mg "abs" = none
  z_bool : mg "bool" = none
  z_enumerate : mg "enumerate" = none
  z_int : mg "int" = none
  z_isinstance : mg "isinstance" = none
  z_len : mg "len" = none
  z_list : mg "list" = none
  z_max : mg "max" = none
  z_range : mg "range" = none
  z_sum : mg "sum" = none
section
variable {P : Program} {w : World} {K : PySem.W.Frag} {mg : Str → Option Value} {base : Heap} {eg : EK → Addr}
theorem Tx.ex_fs (T : Tx K mg eg) {e : Err} (h : pk e = some true) : e.fs.isSome = true := by
  obtain ⟨k, fs⟩ := e
  cases k <;> cases fs <;> first | rfl | cases h
theorem Tx.ex_c (T : Tx K mg eg) {e : Err} (h : pk e = some true) : ExcC K (eg e.k) := by
  obtain ⟨k, fs⟩ := e
  cases k <;> cases fs <;> first | exact T.xc_BadLabel | exact T.xc_BadNumber | exact T.xc_BadSign | cases h
theorem Tx.ex_f (T : Tx K mg eg) {e : Err} (h : pk e = some true) : XfC K (eg e.k) := by
  obtain ⟨k, fs⟩ := e
  cases k <;> cases fs <;> first | exact T.xf_BadLabel | exact T.xf_BadNumber | exact T.xf_BadSign | cases h
theorem Tx.no_label (T : Tx K mg eg) {e : Err} (h : pk e = some true) : PySem.W.findIn K (.ref (eg e.k)) "label" = some none := by
  obtain ⟨k, fs⟩ := e
  cases k <;> cases fs <;> first | exact T.no_BadLabel_label | exact T.no_BadNumber_label | exact T.no_BadSign_label | cases h
theorem Tx.no_place (T : Tx K mg eg) {e : Err} (h : pk e = some true) : PySem.W.findIn K (.ref (eg e.k)) "place" = some none := by
  obtain ⟨k, fs⟩ := e
  cases k <;> cases fs <;> first | exact T.no_BadLabel_place | exact T.no_BadNumber_place | exact T.no_BadSign_place | cases h
theorem Tx.no_value (T : Tx K mg eg) {e : Err} (h : pk e = some true) : PySem.W.findIn K (.ref (eg e.k)) "value" = some none := by
  obtain ⟨k, fs⟩ := e
  cases k <;> cases fs <;> first | exact T.no_BadLabel_value | exact T.no_BadNumber_value | exact T.no_BadSign_value | cases h
theorem Tx.ex_BadLabel (T : Tx K mg eg) {e : Err} (h : pk e = some true) : PySem.W.kitOne K (.ref (eg e.k)) (.ref (eg .BadLabel)) = some (isaE e.k .BadLabel) := by
  obtain ⟨k, fs⟩ := e
  cases k <;> cases fs <;> first | exact T.xk_BadLabel_BadLabel | exact T.xk_BadNumber_BadLabel | exact T.xk_BadSign_BadLabel | cases h
theorem Tx.ex_BadNumber (T : Tx K mg eg) {e : Err} (h : pk e = some true) : PySem.W.kitOne K (.ref (eg e.k)) (.ref (eg .BadNumber)) = some (isaE e.k .BadNumber) := by
  obtain ⟨k, fs⟩ := e
  cases k <;> cases fs <;> first | exact T.xk_BadLabel_BadNumber | exact T.xk_BadNumber_BadNumber | exact T.xk_BadSign_BadNumber | cases h
theorem Tx.ex_BadRow (T : Tx K mg eg) {e : Err} (h : pk e = some true) : PySem.W.kitOne K (.ref (eg e.k)) (.ref (eg .BadRow)) = some (isaE e.k .BadRow) := by
  obtain ⟨k, fs⟩ := e
  cases k <;> cases fs <;> first | exact T.xk_BadLabel_BadRow | exact T.xk_BadNumber_BadRow | exact T.xk_BadSign_BadRow | cases h
theorem Tx.ex_BadSign (T : Tx K mg eg) {e : Err} (h : pk e = some true) : PySem.W.kitOne K (.ref (eg e.k)) (.ref (eg .BadSign)) = some (isaE e.k .BadSign) := by
  obtain ⟨k, fs⟩ := e
  cases k <;> cases fs <;> first | exact T.xk_BadLabel_BadSign | exact T.xk_BadNumber_BadSign | exact T.xk_BadSign_BadSign | cases h
theorem Tx.ex_BadSlots (T : Tx K mg eg) {e : Err} (h : pk e = some true) : PySem.W.kitOne K (.ref (eg e.k)) (.ref (eg .BadSlots)) = some (isaE e.k .BadSlots) := by
  obtain ⟨k, fs⟩ := e
  cases k <;> cases fs <;> first | exact T.xk_BadLabel_BadSlots | exact T.xk_BadNumber_BadSlots | exact T.xk_BadSign_BadSlots | cases h
theorem Tx.ex_ValueError (T : Tx K mg eg) {e : Err} (h : pk e = some true) : PySem.W.kitOne K (.ref (eg e.k)) (.type "ValueError") = some true := by
  obtain ⟨k, fs⟩ := e
  cases k <;> cases fs <;> first | exact T.xk_BadLabel_ValueError | exact T.xk_BadNumber_ValueError | exact T.xk_BadSign_ValueError | cases h
theorem Tx.ex_m (T : Tx K mg eg) (e : Err) (b : Bool) (h : pk e = some b) : PySem.W.exmOne K (.ref (eg e.k)) (.ref (eg .PackError)) = some b := by
  obtain ⟨k, fs⟩ := e
  cases k <;> cases fs <;> first | (cases h; first | exact T.xm_BadLabel_PackError | exact T.xm_BadNumber_PackError | exact T.xm_BadSign_PackError) | cases h
theorem ok_iBadLabel (T : Tx K mg eg) : FnOk P w K mg base (L2.CX P w) 1 T.ia_BadLabel T.id_BadLabel ["self", "label"] (spIn K "label") := ok_in T.iu_BadLabel sc_iBadLabel rfl (Or.inl rfl) (Or.inl rfl) (by decide) (by decide) (fun _ _ _ => rfl)
theorem ok_iBadNumber (T : Tx K mg eg) : FnOk P w K mg base (L2.CX P w) 1 T.ia_BadNumber T.id_BadNumber ["self", "value"] (spIn K "value") := ok_in T.iu_BadNumber sc_iBadNumber rfl (Or.inl rfl) (Or.inl rfl) (by decide) (by decide) (fun _ _ _ => rfl)
theorem ok_iBadSign (T : Tx K mg eg) : FnOk P w K mg base (L2.CX P w) 1 T.ia_BadSign T.id_BadSign ["self", "place"] (spIn K "place") := ok_in T.iu_BadSign sc_iBadSign rfl (Or.inl rfl) (Or.inl rfl) (by decide) (by decide) (fun _ _ _ => rfl)
theorem ok_checked_row (T : Tx K mg eg) : FnOk P w K mg base (L2.CX P w) 3 T.a_checked_row T.d_checked_row ["row"] (spM K eg .own (fun y : (List Int) × Unit => m_checked_row y.1) (fun y => [aB K y.1])) := by
  refine fn_mir T.u_checked_row sc_checked_row (fun y => [sB K y.1]) (fun _ => rfl) (fun _ => rfl) fun cdv A outer s H E O y hr => ?_
  obtain ⟨v_row, _⟩ := y
  show JS _ [some (asn K H .bor v_row), none, none] _ (m_checked_row v_row) _
  unfold m_checked_row
  exact (js_for (tl := (fun s_2 : Unit => [some (asn K H .bor v_row), none, none])) (s0 := ()) (ji_enum T.z_enumerate (fun _ => rdeI) (je_nb 0 rfl (pv 0))) (pg_tup rfl (pgs_cons (pg_name (i := 1) sc_checked_row.nd rfl (Or.inl rfl)) (pgs_cons (pg_name (i := 2) sc_checked_row.nd rfl (Or.inl rfl)) pgs_nil))) (tgt_pair 1 2) (.keep (.drop (.drop .nil))) (fun x_3 s_2 => (js_ifL (jt_w (jw_or (jt_lt (je_ni 2 rfl (pv 2)) je_int) (jw_or1 (jt_gt (je_ni 2 rfl (pv 2)) je_int)))) (js_raise1 rfl tk_of T.oex_BadSign T.in_BadSign T.it_BadSign (ok_iBadSign T) (hr.mono (by decide)) T.ib_BadSign T.ino_BadSign T.g_BadSign (fun _ => rdV) (je_ni 1 rfl (pv 1)) trivial) (js_nilA rfl (.keep (.drop (.drop .nil)))))) (fun s_2 => (js_ret (je_listL T.z_list (fun y => Rd.els (rdS 0 rfl y)) (je_sl 0 rfl (pv 0))) (fun _ => rfl))) hpo_of)
theorem ok_bad_place (T : Tx K mg eg) : FnOk P w K mg base (L2.CX P w) 4 T.a_bad_place T.d_bad_place ["row"] (spM K eg .val (fun y : (List Int) × Unit => m_bad_place y.1) (fun y => [aB K y.1])) := by
  refine fn_mir T.u_bad_place sc_bad_place (fun y => [sB K y.1]) (fun _ => rfl) (fun _ => rfl) fun cdv A outer s H E O y hr => ?_
  obtain ⟨v_row, _⟩ := y
  show JS _ [some (asn K H .bor v_row), none, none, none, none] _ (m_bad_place v_row) _
  unfold m_bad_place
  exact (js_set (i := 1) sc_bad_place.nd rfl (je_fn (ok_checked_row T) (hr.mono (by decide)) T.m_checked_row T.k_checked_row T.b_checked_row tk_of (ja_cons (je_sl 0 rfl (pv 0)) ja_nil) (fun _ => (psl_cons (psB ((rdS 0 rfl) _)) psl_nil)) trivial) fun signs_4 => (js_wk (.keep (.frz (.drop (.drop (.drop .nil))))) (js_set (i := 2) sc_bad_place.nd rfl je_int fun excess_5 => (js_for (tl := (fun s_7 : Int => [some (asn K H .bor v_row), some (asn K H .val signs_4), some (asn K H .val s_7), none, none])) (s0 := excess_5) (ji_enum T.z_enumerate (fun _ => rdeW (.inl rfl)) (je_nm 1 rfl (pv 1))) (pg_tup rfl (pgs_cons (pg_name (i := 3) sc_bad_place.nd rfl (Or.inl rfl)) (pgs_cons (pg_name (i := 4) sc_bad_place.nd rfl (Or.inl rfl)) pgs_nil))) (tgt_pair 3 4) (.keep (.keep (.keep (.drop (.drop .nil))))) (fun x_8 s_7 => (js_ifA (jt_w (jw_and (jt_eq (je_ni 2 rfl (pv 2)) je_int) (jw_and1 (jt_w (jw_or (jt_gt (je_ni 3 rfl (pv 3)) je_int) (jw_or1 (jt_eq (je_ni 4 rfl (pv 4)) je_int))))))) (js_ret (je_some (je_ni 3 rfl (pv 3))) (fun _ => rfl)) (js_ifL (jt_gt (je_ni 4 rfl (pv 4)) je_int) (js_aug (k := fun excess_23 : Int => (Out.ok (Ctl.nxt excess_23))) 2 ip_add rfl sc_bad_place.nd rfl je_int (fun excess_23 => (js_nilA rfl (.keep (.keep (.keep (.drop (.drop .nil)))))))) (js_aug (k := fun excess_25 : Int => (Out.ok (Ctl.nxt excess_25))) 2 ip_sub rfl sc_bad_place.nd rfl je_int (fun excess_25 => (js_nilA rfl (.keep (.keep (.keep (.drop (.drop .nil))))))))))) (fun s_7 => (js_ifA (jt_w (jw_and (jt_eq (je_ni 2 rfl (pv 2)) je_int) (jw_and1 (jt_gt (je_len T.z_len (fun _ => rdV) (je_nm 1 rfl (pv 1))) je_int)))) (js_ret je_none (fun _ => rfl)) (js_ret (je_some (je_len T.z_len (fun _ => rdV) (je_nm 1 rfl (pv 1)))) (fun _ => rfl)))) hpo_of))))
theorem ok_shape_of (T : Tx K mg eg) : FnOk P w K mg base (L2.CX P w) 4 T.a_shape_of T.d_shape_of ["row"] (spM K eg .own (fun y : (List Int) × Unit => m_shape_of y.1) (fun y => [aB K y.1])) := by
  refine fn_mir T.u_shape_of sc_shape_of (fun y => [sB K y.1]) (fun _ => rfl) (fun _ => rfl) fun cdv A outer s H E O y hr => ?_
  obtain ⟨v_row, _⟩ := y
  show JS _ [some (asn K H .bor v_row), none] _ (m_shape_of v_row) _
  unfold m_shape_of
  exact (js_ret (je_lc (own := [("sign", 1)]) rfl sc_shape_of.nd (ji_list (fun _ => rdeW (.inr rfl)) (je_fn (ok_checked_row T) (hr.mono (by decide)) T.m_checked_row T.k_checked_row T.b_checked_row tk_of (ja_cons (je_sl 0 rfl (pv 0)) ja_nil) (fun _ => (psl_cons (psB ((rdS 0 rfl) _)) psl_nil)) trivial)) (by show blkC ["row", "sign"] (defScope st_shape_of) _ _ = true; decide +kernel) (tgw_name 1) (fun i hi => by cases List.mem_singleton.mp hi; rfl) (Nat.le_of_ble_eq_true rfl) (fun _ _ => fzV) (fun _ => wipe1 _) (fun _ => .keep (.drop (.nil))) (fun s9 H9 C9 cl9 fp9 => pg_name (i := 1) sc_shape_of.nd rfl (Or.inl rfl)) (fun x_4 s9 H9 C9 cl9 fp9 => jts_nil) (fun x_4 s9 H9 C9 cl9 fp9 => (je_if (jt_gt (je_ni 1 rfl (pv 1)) je_int) je_int je_int))) (fun _ => rfl))
theorem ok_labels_of (T : Tx K mg eg) : FnOk P w K mg base (L2.CX P w) 4 T.a_labels_of T.d_labels_of ["row"] (spM K eg .own (fun y : (List Int) × Unit => m_labels_of y.1) (fun y => [aB K y.1])) := by
  refine fn_mir T.u_labels_of sc_labels_of (fun y => [sB K y.1]) (fun _ => rfl) (fun _ => rfl) fun cdv A outer s H E O y hr => ?_
  obtain ⟨v_row, _⟩ := y
  show JS _ [some (asn K H .bor v_row), none] _ (m_labels_of v_row) _
  unfold m_labels_of
  exact (js_ret (je_lc (own := [("sign", 1)]) rfl sc_labels_of.nd (ji_list (fun _ => rdeW (.inr rfl)) (je_fn (ok_checked_row T) (hr.mono (by decide)) T.m_checked_row T.k_checked_row T.b_checked_row tk_of (ja_cons (je_sl 0 rfl (pv 0)) ja_nil) (fun _ => (psl_cons (psB ((rdS 0 rfl) _)) psl_nil)) trivial)) (by show blkC ["row", "sign"] (defScope st_labels_of) _ _ = true; decide +kernel) (tgw_name 1) (fun i hi => by cases List.mem_singleton.mp hi; rfl) (Nat.le_of_ble_eq_true rfl) (fun _ _ => fzV) (fun _ => wipe1 _) (fun _ => .keep (.drop (.nil))) (fun s9 H9 C9 cl9 fp9 => pg_name (i := 1) sc_labels_of.nd rfl (Or.inl rfl)) (fun x_4 s9 H9 C9 cl9 fp9 => (jts_one (jt_gt (je_ni 1 rfl (pv 1)) je_int))) (fun x_4 s9 H9 C9 cl9 fp9 => (je_ni 1 rfl (pv 1)))) (fun _ => rfl))
theorem ok_labelled (T : Tx K mg eg) : FnOk P w K mg base (L2.CX P w) 3 T.a_labelled T.d_labelled ["shape", "labels"] (spM K eg .own (fun y : (List Int) × (List Int) × Unit => m_labelled y.1 y.2.1) (fun y => [aB K y.1, aB K y.2.1])) := by
  refine fn_mir T.u_labelled sc_labelled (fun y => [sB K y.1, sB K y.2.1]) (fun _ => rfl) (fun _ => rfl) fun cdv A outer s H E O y hr => ?_
  obtain ⟨v_shape, v_labels, _⟩ := y
  show JS _ [some (asn K H .bor v_shape), some (asn K H .bor v_labels), none, none, none, none, none] _ (m_labelled v_shape v_labels) _
  unfold m_labelled
  exact (js_for (tl := (fun s_2 : Unit => [some (asn K H .bor v_shape), some (asn K H .bor v_labels), none, none, none, none, none])) (s0 := ()) (ji_enum T.z_enumerate (fun _ => rdeI) (je_nb 0 rfl (pv 0))) (pg_tup rfl (pgs_cons (pg_name (i := 2) sc_labelled.nd rfl (Or.inl rfl)) (pgs_cons (pg_name (i := 3) sc_labelled.nd rfl (Or.inl rfl)) pgs_nil))) (tgt_pair 2 3) (.keep (.keep (.drop (.drop (.drop (.drop (.drop .nil))))))) (fun x_3 s_2 => (js_ifL (jt_w (jw_or (jt_lt (je_ni 3 rfl (pv 3)) je_int) (jw_or1 (jt_gt (je_ni 3 rfl (pv 3)) je_int)))) (js_raise1 rfl tk_of T.oex_BadSign T.in_BadSign T.it_BadSign (ok_iBadSign T) (hr.mono (by decide)) T.ib_BadSign T.ino_BadSign T.g_BadSign (fun _ => rdV) (je_ni 2 rfl (pv 2)) trivial) (js_nilA rfl (.keep (.keep (.drop (.drop (.drop (.drop (.drop .nil)))))))))) (fun s_2 => (js_for (tl := (fun s_11 : Unit => [some (asn K H .bor v_shape), some (asn K H .bor v_labels), none, none, none, none, none])) (s0 := ()) (ji_list (fun _ => rdeI) (je_nb 1 rfl (pv 1))) (pg_name (i := 4) sc_labelled.nd rfl (Or.inl rfl)) (tgt_name 4) (.keep (.keep (.drop (.drop (.drop (.drop (.drop .nil))))))) (fun x_12 s_11 => (js_ifL (jt_w (jw_or (jt_lt (je_ni 4 rfl (pv 4)) je_int) (jw_or1 (jt_gt (je_ni 4 rfl (pv 4)) je_int)))) (js_raise1 rfl tk_of T.oex_BadLabel T.in_BadLabel T.it_BadLabel (ok_iBadLabel T) (hr.mono (by decide)) T.ib_BadLabel T.ino_BadLabel T.g_BadLabel (fun _ => rdV) (je_ni 4 rfl (pv 4)) trivial) (js_nilA rfl (.keep (.keep (.drop (.drop (.drop (.drop (.drop .nil)))))))))) (fun s_11 => (js_ifA (jt_ne (je_len T.z_len (rdS 1 rfl) (je_sl 1 rfl (pv 1))) (je_sum rfl T.z_sum (rdS 0 rfl) (je_sl 0 rfl (pv 0)))) (js_raise1 rfl tk_of T.oex_BadNumber T.in_BadNumber T.it_BadNumber (ok_iBadNumber T) (hr.mono (by decide)) T.ib_BadNumber T.ino_BadNumber T.g_BadNumber (fun _ => rdV) (je_len T.z_len (rdS 1 rfl) (je_sl 1 rfl (pv 1))) trivial) (js_set (i := 5) sc_labelled.nd rfl je_nil fun row_27 => (js_set (i := 6) sc_labelled.nd rfl je_int fun used_28 => (js_for (tl := (fun s_29 : (List Int) × Int => [some (asn K H .bor v_shape), some (asn K H .bor v_labels), none, none, none, some (asn K H .own s_29.1), some (asn K H .val s_29.2)])) (s0 := (row_27, used_28)) (ji_list (fun _ => rdeI) (je_nb 0 rfl (pv 0))) (pg_name (i := 3) sc_labelled.nd rfl (Or.inl rfl)) (tgt_name 3) (.keep (.keep (.drop (.drop (.drop (.keep (.keep (.nil)))))))) (fun x_30 s_29 => (js_ifL (jt_eq (je_ni 3 rfl (pv 3)) je_int) (js_app (xs := s_29.1) 5 rfl (fun _ => fzV) (je_item (fun y => Rd.els (rdS 1 rfl y)) (je_sl 1 rfl (pv 1)) (je_ni 6 rfl (pv 6))) (fun h => pe_bm PySem.F.plainAttrs_list PySem.F.slot_list_append PySem.F.type_list_append mt_append (pv 5) h) fun row_37 => (js_aug (k := fun used_39 : Int => (Out.ok (Ctl.nxt (row_37, used_39)))) 6 ip_add rfl sc_labelled.nd rfl je_int (fun used_39 => (js_nilA rfl (.keep (.keep (.drop (.drop (.drop (.keep (.keep (.nil)))))))))))) (js_app (xs := s_29.1) 5 rfl (fun _ => fzV) je_int (fun h => pe_bm PySem.F.plainAttrs_list PySem.F.slot_list_append PySem.F.type_list_append mt_append (pv 5) h) fun row_41 => (js_nilA rfl (.keep (.keep (.drop (.drop (.drop (.keep (.keep (.nil)))))))))))) (fun s_29 => (js_retO 5 rfl (pv 5) (fun _ => rfl))) hpo_of))))) hpo_of)) hpo_of)
theorem ok__law_digits (T : Tx K mg eg) : FnOk P w K mg base (L2.CX P w) 2 T.a__law_digits T.d__law_digits ["script", "many"] (spM K eg .own (fun y : Scr × Int × Unit => m__law_digits y.1 y.2.1) (fun y => [aV K y.1, aV K y.2.1])) := by
  refine fn_mir T.u__law_digits sc__law_digits (fun y => [sV K y.1, sV K y.2.1]) (fun _ => rfl) (fun _ => rfl) fun cdv A outer s H E O y hr => ?_
  obtain ⟨v_script, v_many, _⟩ := y
  show JS _ [some (asn K H .val v_script), some (asn K H .val v_many), none, none, none, none, none, none] _ (m__law_digits v_script v_many) _
  unfold m__law_digits
  exact (js_set (i := 2) sc__law_digits.nd rfl je_nil fun pool_1 => (js_for (tl := (fun s_6 : (List Int) => [some (asn K H .val v_script), some (asn K H .val v_many), some (asn K H .own s_6), none, none, none, none, none])) (s0 := pool_1) (ji_list (fun _ => rdeW (.inr rfl)) (je_sliceS (fun _ => rdV) (je_nm 0 rfl (pv 0)) jo_none (jo_some je_int))) (pg_name (i := 3) sc__law_digits.nd rfl (Or.inl rfl)) (tgt_name 3) (.keep (.keep (.keep (.drop (.drop (.drop (.drop (.drop .nil)))))))) (fun x_7 s_6 => (js_set (i := 4) sc__law_digits.nd rfl (je_mod (je_abs T.z_abs (je_intI T.z_int (je_ni 3 rfl (pv 3)))) je_powK) fun left_13 => (js_app (xs := s_6) 2 rfl (fun _ => fzV) (je_modK (je_ni 4 rfl (pv 4))) (fun h => pe_bm PySem.F.plainAttrs_list PySem.F.slot_list_append PySem.F.type_list_append mt_append (pv 2) h) fun pool_16 => (js_for (tl := (fun s_18 : (List Int) × Int => [some (asn K H .val v_script), some (asn K H .val v_many), some (asn K H .own s_18.1), some (asn K H .val x_7), some (asn K H .val s_18.2), none, none, none])) (s0 := (pool_16, left_13)) (ji_range1 T.z_range je_int) (pg_name (i := 5) sc__law_digits.nd rfl (Or.inl rfl)) (tgt_name 5) (.keep (.keep (.keep (.keep (.keep (.drop (.drop (.drop .nil)))))))) (fun x_19 s_18 => (js_set (i := 4) sc__law_digits.nd rfl (je_divK (je_ni 4 rfl (pv 4))) fun left_21 => (js_ifL (jt_w (jw_and (jt_gt (je_ni 4 rfl (pv 4)) je_int) (jw_and1 (jt_lt (je_len T.z_len (rdS 2 rfl) (je_sl 2 rfl (pv 2))) (je_ni 1 rfl (pv 1)))))) (js_app (xs := s_18.1) 2 rfl (fun _ => fzV) (je_modK (je_ni 4 rfl (pv 4))) (fun h => pe_bm PySem.F.plainAttrs_list PySem.F.slot_list_append PySem.F.type_list_append mt_append (pv 2) h) fun pool_31 => (js_nilA rfl (.keep (.keep (.keep (.keep (.keep (.drop (.drop (.drop .nil)))))))))) (js_nilA rfl (.keep (.keep (.keep (.keep (.keep (.drop (.drop (.drop .nil)))))))))))) (fun s_18 => (js_nilA rfl (.keep (.keep (.keep (.drop (.drop (.drop (.drop (.drop .nil)))))))))) hpo_of)))) (fun s_6 => (js_ifJ (tj := (fun s_35 : (List Int) => [some (asn K H .val v_script), some (asn K H .val v_many), some (asn K H .own s_35), none, none, none, none, none])) (jt_eqD hr (je_sl 2 rfl (pv 2)) je_nil (rdS 2 rfl) (fun _ => rdO)) (js_app (xs := s_6) 2 rfl (fun _ => fzV) je_int (fun h => pe_bm PySem.F.plainAttrs_list PySem.F.slot_list_append PySem.F.type_list_append mt_append (pv 2) h) fun pool_37 => (js_nil rfl (.keep (.keep (.keep (.drop (.drop (.drop (.drop (.drop .nil)))))))))) (js_nil rfl (.keep (.keep (.keep (.drop (.drop (.drop (.drop (.drop .nil))))))))) fun s_35 => (js_set (i := 6) sc__law_digits.nd rfl (je_len T.z_len (rdS 2 rfl) (je_sl 2 rfl (pv 2))) fun size_39 => (js_set (i := 7) sc__law_digits.nd rfl je_nil fun digits_40 => (js_for (tl := (fun s_42 : (List Int) => [some (asn K H .val v_script), some (asn K H .val v_many), some (asn K H .own s_35), none, none, none, some (asn K H .val size_39), some (asn K H .own s_42)])) (s0 := digits_40) (ji_range1 T.z_range (je_ni 1 rfl (pv 1))) (pg_name (i := 5) sc__law_digits.nd rfl (Or.inl rfl)) (tgt_name 5) (.keep (.keep (.keep (.drop (.drop (.drop (.keep (.keep (.nil))))))))) (fun x_43 s_42 => (js_app (xs := s_42) 7 rfl (fun _ => fzV) (je_modK (je_add (je_item (rdeS 2 rfl) (je_sl 2 rfl (pv 2)) (je_mod (je_ni 5 rfl (pv 5)) (je_ni 6 rfl (pv 6)))) (je_mul (je_ni 5 rfl (pv 5)) (je_intB T.z_int (je_ge (je_ni 5 rfl (pv 5)) (je_ni 6 rfl (pv 6))))))) (fun h => pe_bm PySem.F.plainAttrs_list PySem.F.slot_list_append PySem.F.type_list_append mt_append (pv 7) h) fun digits_60 => (js_nilA rfl (.keep (.keep (.keep (.drop (.drop (.drop (.keep (.keep (.nil)))))))))))) (fun s_42 => (js_retO 7 rfl (pv 7) (fun _ => rfl))) hpo_of))))) hpo_of))
theorem ok__law_drawn (T : Tx K mg eg) : FnOk P w K mg base (L2.CX P w) 2 T.a__law_drawn T.d__law_drawn ["digits", "size"] (spM K eg .own (fun y : (List Int) × Int × Unit => m__law_drawn y.1 y.2.1) (fun y => [aB K y.1, aV K y.2.1])) := by
  refine fn_mir T.u__law_drawn sc__law_drawn (fun y => [sB K y.1, sV K y.2.1]) (fun _ => rfl) (fun _ => rfl) fun cdv A outer s H E O y hr => ?_
  obtain ⟨v_digits, v_size, _⟩ := y
  show JS _ [some (asn K H .bor v_digits), some (asn K H .val v_size), none, none, none, none, none, none, none] _ (m__law_drawn v_digits v_size) _
  unfold m__law_drawn
  exact (js_set (i := 2) sc__law_drawn.nd rfl je_int fun few_1 => (js_ifJ (tj := (fun s_8 : Int => [some (asn K H .bor v_digits), some (asn K H .val v_size), some (asn K H .val s_8), none, none, none, none, none, none])) (jt_eq (je_modK (je_item (fun y => Rd.els (rdS 0 rfl y)) (je_sl 0 rfl (pv 0)) je_int)) je_int) (js_set (i := 2) sc__law_drawn.nd rfl (je_add je_int (je_modK (je_item (fun y => Rd.els (rdS 0 rfl y)) (je_sl 0 rfl (pv 0)) je_int))) fun few_15 => (js_nil rfl (.keep (.keep (.keep (.drop (.drop (.drop (.drop (.drop (.drop .nil))))))))))) (js_nil rfl (.keep (.keep (.keep (.drop (.drop (.drop (.drop (.drop (.drop .nil)))))))))) fun s_8 => (js_set (i := 3) sc__law_drawn.nd rfl je_nil fun pairs_16 => (js_set (i := 4) sc__law_drawn.nd rfl je_nil fun path_17 => (js_for (tl := (fun s_19 : (List (Int × Int)) × (List Int) => [some (asn K H .bor v_digits), some (asn K H .val v_size), some (asn K H .val s_8), some (asn K H .own s_19.1), some (asn K H .own s_19.2), none, none, none, none])) (s0 := (pairs_16, path_17)) (ji_range1 T.z_range (je_ni 1 rfl (pv 1))) (pg_name (i := 5) sc__law_drawn.nd rfl (Or.inl rfl)) (tgt_name 5) (.keep (.keep (.keep (.keep (.keep (.drop (.drop (.drop (.drop .nil))))))))) (fun x_20 s_19 => (js_set (i := 6) sc__law_drawn.nd rfl (je_item (fun y => Rd.els (rdS 0 rfl y)) (je_sl 0 rfl (pv 0)) (je_add je_int (je_ni 5 rfl (pv 5)))) fun mark_26 => (js_set (i := 7) sc__law_drawn.nd rfl (je_sub (je_len T.z_len (rdS 4 rfl) (je_sl 4 rfl (pv 4))) (je_intB T.z_int (je_gt (je_modK (je_ni 6 rfl (pv 6))) je_int))) fun keep_35 => (js_ifJ (tj := (fun s_43 : Int => [some (asn K H .bor v_digits), some (asn K H .val v_size), some (asn K H .val s_8), some (asn K H .own s_19.1), some (asn K H .own s_19.2), some (asn K H .val x_20), some (asn K H .val mark_26), some (asn K H .val s_43), none])) (jt_w (jw_and (jt_gt (je_ni 5 rfl (pv 5)) je_int) (jw_and1 (jt_eq (je_modK (je_ni 6 rfl (pv 6))) je_int)))) (js_set (i := 7) sc__law_drawn.nd rfl (je_add je_int (je_mod (je_item (fun y => Rd.els (rdS 0 rfl y)) (je_sl 0 rfl (pv 0)) (je_add je_int (je_ni 5 rfl (pv 5)))) (je_len T.z_len (rdS 4 rfl) (je_sl 4 rfl (pv 4))))) fun keep_56 => (js_nil rfl (.keep (.keep (.keep (.keep (.keep (.keep (.keep (.keep (.drop .nil))))))))))) (js_nil rfl (.keep (.keep (.keep (.keep (.keep (.keep (.keep (.keep (.drop .nil)))))))))) fun s_43 => (js_set (i := 4) sc__law_drawn.nd rfl (je_slice (rdeS 4 rfl) (je_sl 4 rfl (pv 4)) jo_none (jo_some (je_max2 rfl T.z_max je_int (je_ni 7 rfl (pv 7))))) fun path_63 => (js_set (i := 8) sc__law_drawn.nd rfl (je_if (jt_gt (je_ni 5 rfl (pv 5)) je_int) (je_item (rdeS 4 rfl) (je_sl 4 rfl (pv 4)) (je_neg je_int)) (je_neg je_int)) fun up_71 => (js_app (xs := s_19.1) 3 rfl (fun _ => fzV) (je_tup2 (fun _ => fzV) (fun _ => fzV) (ja_cons (je_ni 8 rfl (pv 8)) (ja_cons (je_add je_int (je_modK (je_add (je_mod (je_divK (je_ni 6 rfl (pv 6))) (je_ni 2 rfl (pv 2))) (je_item (fun y => Rd.els (rdS 0 rfl y)) (je_sl 0 rfl (pv 0)) je_int)))) ja_nil))) (fun h => pe_bm PySem.F.plainAttrs_list PySem.F.slot_list_append PySem.F.type_list_append mt_append (pv 3) h) fun pairs_91 => (js_app (xs := path_63) 4 rfl (fun _ => fzV) (je_ni 5 rfl (pv 5)) (fun h => pe_bm PySem.F.plainAttrs_list PySem.F.slot_list_append PySem.F.type_list_append mt_append (pv 4) h) fun path_93 => (js_nilA rfl (.keep (.keep (.keep (.keep (.keep (.drop (.drop (.drop (.drop .nil)))))))))))))))))) (fun s_19 => (js_retO 3 rfl (pv 3) (fun _ => rfl))) hpo_of)))))
theorem ok__law_whole (T : Tx K mg eg) : FnOk P w K mg base (L2.CX P w) 2 T.a__law_whole T.d__law_whole ["told"] (spM K eg .val (fun y : Int × Unit => m__law_whole y.1) (fun y => [aV K y.1])) := by
  refine fn_mir T.u__law_whole sc__law_whole (fun y => [sV K y.1]) (fun _ => rfl) (fun _ => rfl) fun cdv A outer s H E O y hr => ?_
  obtain ⟨v_told, _⟩ := y
  show JS _ [some (asn K H .val v_told)] _ (m__law_whole v_told) _
  unfold m__law_whole
  exact (js_ret (je_and (je_isi (T := "int") (r := (fun _ => true)) T.z_isinstance T.z_int (by decide +kernel) (fun _ => (by decide +kernel : kitB "int" "int" = some true)) (fun _ => rdV) (je_ni 0 rfl (pv 0))) (je_one (je_not (je_isi (T := "bool") (r := (fun _ => false)) T.z_isinstance T.z_bool (by decide +kernel) (fun _ => (by decide +kernel : kitB "int" "bool" = some false)) (fun _ => rdV) (je_ni 0 rfl (pv 0)))))) (fun _ => rfl))
theorem ok__law_row (T : Tx K mg eg) : FnOk P w K mg base (L2.CX P w) 3 T.a__law_row T.d__law_row ["told", "due"] (spM K eg .val (fun y : (List Int) × (List Int) × Unit => m__law_row y.1 y.2.1) (fun y => [aB K y.1, aB K y.2.1])) := by
  refine fn_mir T.u__law_row sc__law_row (fun y => [sB K y.1, sB K y.2.1]) (fun _ => rfl) (fun _ => rfl) fun cdv A outer s H E O y hr => ?_
  obtain ⟨v_told, v_due, _⟩ := y
  show JS _ [some (asn K H .bor v_told), some (asn K H .bor v_due), none] _ (m__law_row v_told v_due) _
  unfold m__law_row
  exact (js_ifA (jt_w (jw_or (jt_not (jt_val (je_isi (T := "list") (r := (fun _ => true)) T.z_isinstance T.z_list (by decide +kernel) (fun _ => (by decide +kernel : kitB "list" "list" = some true)) (rdS 0 rfl) (je_sl 0 rfl (pv 0))))) (jw_or1 (jt_ne (je_len T.z_len (rdS 0 rfl) (je_sl 0 rfl (pv 0))) (je_len T.z_len (rdS 1 rfl) (je_sl 1 rfl (pv 1))))))) (js_ret je_bl (fun _ => rfl)) (js_for (tl := (fun s_12 : Unit => [some (asn K H .bor v_told), some (asn K H .bor v_due), none])) (s0 := ()) (ji_range1 T.z_range (je_len T.z_len (rdS 1 rfl) (je_sl 1 rfl (pv 1)))) (pg_name (i := 2) sc__law_row.nd rfl (Or.inl rfl)) (tgt_name 2) (.keep (.keep (.drop .nil))) (fun x_13 s_12 => (js_ifL (jt_w (jw_or (jt_not (jt_val (je_fn (ok__law_whole T) (hr.mono (by decide)) T.m__law_whole T.k__law_whole T.b__law_whole tk_of (ja_cons (je_item (fun y => Rd.els (rdS 0 rfl y)) (je_sl 0 rfl (pv 0)) (je_ni 2 rfl (pv 2))) ja_nil) (fun _ => (psl_cons (psV fzV) psl_nil)) trivial))) (jw_or1 (jt_ne (je_item (fun y => Rd.els (rdS 0 rfl y)) (je_sl 0 rfl (pv 0)) (je_ni 2 rfl (pv 2))) (je_item (fun y => Rd.els (rdS 1 rfl y)) (je_sl 1 rfl (pv 1)) (je_ni 2 rfl (pv 2))))))) (js_ret je_bl (fun _ => rfl)) (js_nilA rfl (.keep (.keep (.drop .nil)))))) (fun s_12 => (js_ret je_bl (fun _ => rfl))) hpo_of))
theorem ok__law_depths (T : Tx K mg eg) : FnOk P w K mg base (L2.CX P w) 2 T.a__law_depths T.d__law_depths ["pairs"] (spM K eg .own (fun y : (List (Int × Int)) × Unit => m__law_depths y.1) (fun y => [aB K y.1])) := by
  refine fn_mir T.u__law_depths sc__law_depths (fun y => [sB K y.1]) (fun _ => rfl) (fun _ => rfl) fun cdv A outer s H E O y hr => ?_
  obtain ⟨v_pairs, _⟩ := y
  show JS _ [some (asn K H .bor v_pairs), none, none, none] _ (m__law_depths v_pairs) _
  unfold m__law_depths
  exact (js_set (i := 1) sc__law_depths.nd rfl je_nil fun depths_1 => (js_for (tl := (fun s_2 : (List Int) => [some (asn K H .bor v_pairs), some (asn K H .own s_2), none, none])) (s0 := depths_1) (ji_list (fun _ => rdeI) (je_nb 0 rfl (pv 0))) (pg_tup rfl (pgs_cons (pg_name (i := 2) sc__law_depths.nd rfl (Or.inl rfl)) (pgs_cons (pg_name (i := 3) sc__law_depths.nd rfl (Or.inl rfl)) pgs_nil))) (tgt_pair 2 3) (.keep (.keep (.drop (.drop .nil)))) (fun x_3 s_2 => (js_app (xs := s_2) 1 rfl (fun _ => fzV) (je_if (jt_ge (je_ni 2 rfl (pv 2)) je_int) (je_add (je_item (rdeS 1 rfl) (je_sl 1 rfl (pv 1)) (je_ni 2 rfl (pv 2))) je_int) je_int) (fun h => pe_bm PySem.F.plainAttrs_list PySem.F.slot_list_append PySem.F.type_list_append mt_append (pv 1) h) fun depths_13 => (js_nilA rfl (.keep (.keep (.drop (.drop .nil))))))) (fun s_2 => (js_retO 1 rfl (pv 1) (fun _ => rfl))) hpo_of))
theorem ok__law_signs (T : Tx K mg eg) : FnOk P w K mg base (L2.CX P w) 3 T.a__law_signs T.d__law_signs ["pairs"] (spM K eg .own (fun y : (List (Int × Int)) × Unit => m__law_signs y.1) (fun y => [aB K y.1])) := by
  refine fn_mir T.u__law_signs sc__law_signs (fun y => [sB K y.1]) (fun _ => rfl) (fun _ => rfl) fun cdv A outer s H E O y hr => ?_
  obtain ⟨v_pairs, _⟩ := y
  show JS _ [some (asn K H .bor v_pairs), none, none, none, none] _ (m__law_signs v_pairs) _
  unfold m__law_signs
  exact (js_set (i := 1) sc__law_signs.nd rfl (je_fn (ok__law_depths T) (hr.mono (by decide)) T.m__law_depths T.k__law_depths T.b__law_depths tk_of (ja_cons (je_sl 0 rfl (pv 0)) ja_nil) (fun _ => (psl_cons (psB ((rdS 0 rfl) _)) psl_nil)) trivial) fun depths_4 => (js_wk (.keep (.frz (.drop (.drop (.drop .nil))))) (js_set (i := 2) sc__law_signs.nd rfl je_nil fun row_5 => (js_wk (.keep (.keep (.frz (.drop (.drop .nil))))) (js_set (i := 3) sc__law_signs.nd rfl (je_neg je_int) fun last_7 => (js_for (tl := (fun s_10 : (List Int) × Int => [some (asn K H .bor v_pairs), some (asn K H .val depths_4), some (asn K H .val s_10.1), some (asn K H .val s_10.2), none])) (s0 := (row_5, last_7)) (ji_range1 T.z_range (je_len T.z_len (rdS 0 rfl) (je_sl 0 rfl (pv 0)))) (pg_name (i := 4) sc__law_signs.nd rfl (Or.inl rfl)) (tgt_name 4) (.keep (.keep (.keep (.keep (.drop .nil))))) (fun x_11 s_10 => (js_set (i := 2) sc__law_signs.nd rfl (je_cat (fun _ => rdeO) (fun _ => rdeO) (je_cat (fun _ => rdeV) (fun _ => rdeO) (je_nm 2 rfl (pv 2)) (je_rep (fun _ => rdeO) (je_list (ja_cons je_int ja_nil) (fun x_14 => [x_14.1]) (fun _ => (fzl_cons fzV fzl_nil)) (fun _ => Nat.le_of_ble_eq_true rfl)) (je_sub (je_add (je_ni 3 rfl (pv 3)) je_int) (je_item (fun _ => rdeV) (je_nm 1 rfl (pv 1)) (je_ni 4 rfl (pv 4)))))) (je_list (ja_cons (je_itemK k_snd (je_item (fun y => Rd.els (rdS 0 rfl y)) (je_sl 0 rfl (pv 0)) (je_ni 4 rfl (pv 4)))) ja_nil) (fun x_33 => [x_33.1]) (fun _ => (fzl_cons fzV fzl_nil)) (fun _ => Nat.le_of_ble_eq_true rfl))) fun row_36 => (js_wk (.keep (.keep (.frz (.keep (.keep (.nil)))))) (js_set (i := 3) sc__law_signs.nd rfl (je_item (fun _ => rdeV) (je_nm 1 rfl (pv 1)) (je_ni 4 rfl (pv 4))) fun last_39 => (js_nilA rfl (.keep (.keep (.keep (.keep (.drop .nil)))))))))) (fun s_10 => (js_ret (je_cat (fun _ => rdeV) (fun _ => rdeO) (je_nm 2 rfl (pv 2)) (je_rep (fun _ => rdeO) (je_list (ja_cons je_int ja_nil) (fun x_42 => [x_42.1]) (fun _ => (fzl_cons fzV fzl_nil)) (fun _ => Nat.le_of_ble_eq_true rfl)) (je_add (je_ni 3 rfl (pv 3)) je_int))) (fun _ => rfl))) hpo_of))))))
theorem ok__law_segment (T : Tx K mg eg) : FnOk P w K mg base (L2.CX P w) 2 T.a__law_segment T.d__law_segment ["digits", "at", "size"] (spM K eg .own (fun y : (List Int) × Int × Int × Unit => m__law_segment y.1 y.2.1 y.2.2.1) (fun y => [aB K y.1, aV K y.2.1, aV K y.2.2.1])) := by
  refine fn_mir T.u__law_segment sc__law_segment (fun y => [sB K y.1, sV K y.2.1, sV K y.2.2.1]) (fun _ => rfl) (fun _ => rfl) fun cdv A outer s H E O y hr => ?_
  obtain ⟨v_digits, v_at, v_size, _⟩ := y
  show JS _ [some (asn K H .bor v_digits), some (asn K H .val v_at), some (asn K H .val v_size), none, none, none, none, none, none] _ (m__law_segment v_digits v_at v_size) _
  unfold m__law_segment
  exact (js_set (i := 3) sc__law_segment.nd rfl (je_add je_int (je_modK (je_item (fun y => Rd.els (rdS 0 rfl y)) (je_sl 0 rfl (pv 0)) (je_ni 1 rfl (pv 1))))) fun turn_7 => (js_set (i := 4) sc__law_segment.nd rfl je_int fun few_8 => (js_ifJ (tj := (fun s_18 : Int => [some (asn K H .bor v_digits), some (asn K H .val v_at), some (asn K H .val v_size), some (asn K H .val turn_7), some (asn K H .val s_18), none, none, none, none])) (jt_eq (je_modK (je_item (fun y => Rd.els (rdS 0 rfl y)) (je_sl 0 rfl (pv 0)) (je_add (je_ni 1 rfl (pv 1)) je_int))) je_int) (js_set (i := 4) sc__law_segment.nd rfl (je_add je_int (je_modK (je_divK (je_item (fun y => Rd.els (rdS 0 rfl y)) (je_sl 0 rfl (pv 0)) (je_add (je_ni 1 rfl (pv 1)) je_int))))) fun few_29 => (js_nil rfl (.keep (.keep (.keep (.keep (.keep (.drop (.drop (.drop (.drop .nil))))))))))) (js_nil rfl (.keep (.keep (.keep (.keep (.keep (.drop (.drop (.drop (.drop .nil)))))))))) fun s_18 => (js_set (i := 5) sc__law_segment.nd rfl je_nil fun row_30 => (js_for (tl := (fun s_32 : (List Int) => [some (asn K H .bor v_digits), some (asn K H .val v_at), some (asn K H .val v_size), some (asn K H .val turn_7), some (asn K H .val s_18), some (asn K H .own s_32), none, none, none])) (s0 := row_30) (ji_range1 T.z_range (je_ni 2 rfl (pv 2))) (pg_name (i := 6) sc__law_segment.nd rfl (Or.inl rfl)) (tgt_name 6) (.keep (.keep (.keep (.keep (.keep (.keep (.drop (.drop (.drop .nil))))))))) (fun x_33 s_32 => (js_set (i := 7) sc__law_segment.nd rfl (je_item (fun y => Rd.els (rdS 0 rfl y)) (je_sl 0 rfl (pv 0)) (je_add (je_add (je_ni 1 rfl (pv 1)) je_int) (je_ni 6 rfl (pv 6)))) fun mark_42 => (js_set (i := 8) sc__law_segment.nd rfl (je_add je_int (je_modK (je_add (je_mod (je_divK (je_ni 7 rfl (pv 7))) (je_ni 4 rfl (pv 4))) (je_item (fun y => Rd.els (rdS 0 rfl y)) (je_sl 0 rfl (pv 0)) (je_add (je_ni 1 rfl (pv 1)) je_int))))) fun label_59 => (js_app (xs := s_32) 5 rfl (fun _ => fzV) (je_if (jt_lt (je_modK (je_ni 7 rfl (pv 7))) (je_ni 3 rfl (pv 3))) je_int (je_ni 8 rfl (pv 8))) (fun h => pe_bm PySem.F.plainAttrs_list PySem.F.slot_list_append PySem.F.type_list_append mt_append (pv 5) h) fun row_65 => (js_nilA rfl (.keep (.keep (.keep (.keep (.keep (.keep (.drop (.drop (.drop .nil)))))))))))))) (fun s_32 => (js_retO 5 rfl (pv 5) (fun _ => rfl))) hpo_of)))))
theorem ok__law_bad_sign (T : Tx K mg eg) : FnOk P w K mg base (L2.CX P w) 2 T.a__law_bad_sign T.d__law_bad_sign ["row"] (spM K eg .val (fun y : (List Int) × Unit => m__law_bad_sign y.1) (fun y => [aB K y.1])) := by
  refine fn_mir T.u__law_bad_sign sc__law_bad_sign (fun y => [sB K y.1]) (fun _ => rfl) (fun _ => rfl) fun cdv A outer s H E O y hr => ?_
  obtain ⟨v_row, _⟩ := y
  show JS _ [some (asn K H .bor v_row), none] _ (m__law_bad_sign v_row) _
  unfold m__law_bad_sign
  exact (js_for (tl := (fun s_3 : Unit => [some (asn K H .bor v_row), none])) (s0 := ()) (ji_range1 T.z_range (je_len T.z_len (rdS 0 rfl) (je_sl 0 rfl (pv 0)))) (pg_name (i := 1) sc__law_bad_sign.nd rfl (Or.inl rfl)) (tgt_name 1) (.keep (.drop .nil)) (fun x_4 s_3 => (js_ifL (jt_not (jt_chainT (p := fun i j => decide (i ≤ j)) (q := fun i j => decide (i ≤ j)) op_le op_le je_int (je_item (fun y => Rd.els (rdS 0 rfl y)) (je_sl 0 rfl (pv 0)) (je_ni 1 rfl (pv 1))) je_int)) (js_ret (je_ni 1 rfl (pv 1)) (fun _ => rfl)) (js_nilA rfl (.keep (.drop .nil))))) (fun s_3 => (js_ret (je_neg je_int) (fun _ => rfl))) hpo_of)
theorem ok__law_bad_place (T : Tx K mg eg) : FnOk P w K mg base (L2.CX P w) 2 T.a__law_bad_place T.d__law_bad_place ["row"] (spM K eg .val (fun y : (List Int) × Unit => m__law_bad_place y.1) (fun y => [aB K y.1])) := by
  refine fn_mir T.u__law_bad_place sc__law_bad_place (fun y => [sB K y.1]) (fun _ => rfl) (fun _ => rfl) fun cdv A outer s H E O y hr => ?_
  obtain ⟨v_row, _⟩ := y
  show JS _ [some (asn K H .bor v_row), none, none] _ (m__law_bad_place v_row) _
  unfold m__law_bad_place
  exact (js_set (i := 1) sc__law_bad_place.nd rfl je_int fun excess_1 => (js_for (tl := (fun s_4 : Int => [some (asn K H .bor v_row), some (asn K H .val s_4), none])) (s0 := excess_1) (ji_range1 T.z_range (je_len T.z_len (rdS 0 rfl) (je_sl 0 rfl (pv 0)))) (pg_name (i := 2) sc__law_bad_place.nd rfl (Or.inl rfl)) (tgt_name 2) (.keep (.keep (.drop .nil))) (fun x_5 s_4 => (js_ifA (jt_w (jw_and (jt_gt (je_ni 2 rfl (pv 2)) je_int) (jw_and1 (jt_lt (je_ni 1 rfl (pv 1)) je_int)))) (js_ret (je_ni 2 rfl (pv 2)) (fun _ => rfl)) (js_set (i := 1) sc__law_bad_place.nd rfl (je_add (je_ni 1 rfl (pv 1)) (je_if (jt_gt (je_item (fun y => Rd.els (rdS 0 rfl y)) (je_sl 0 rfl (pv 0)) (je_ni 2 rfl (pv 2))) je_int) je_int (je_neg je_int))) fun excess_22 => (js_ifL (jt_lt (je_ni 1 rfl (pv 1)) je_int) (js_ret (je_ni 2 rfl (pv 2)) (fun _ => rfl)) (js_nilA rfl (.keep (.keep (.drop .nil)))))))) (fun s_4 => (js_ifA (jt_w (jw_and (jt_neD hr (je_sl 0 rfl (pv 0)) je_nil (rdS 0 rfl) (fun _ => rdO)) (jw_and1 (jt_eq (je_ni 1 rfl (pv 1)) je_int)))) (js_ret (je_neg je_int) (fun _ => rfl)) (js_ret (je_len T.z_len (rdS 0 rfl) (je_sl 0 rfl (pv 0))) (fun _ => rfl)))) hpo_of))
theorem ok__law_bent_row (T : Tx K mg eg) : FnOk P w K mg base (L2.CX P w) 2 T.a__law_bent_row T.d__law_bent_row ["row", "five"] (spM K eg .own (fun y : (List Int) × (List Int) × Unit => m__law_bent_row y.1 y.2.1) (fun y => [aB K y.1, aB K y.2.1])) := by
  refine fn_mir T.u__law_bent_row sc__law_bent_row (fun y => [sB K y.1, sB K y.2.1]) (fun _ => rfl) (fun _ => rfl) fun cdv A outer s H E O y hr => ?_
  obtain ⟨v_row, v_five, _⟩ := y
  show JS _ [some (asn K H .bor v_row), some (asn K H .bor v_five), none, none] _ (m__law_bent_row v_row v_five) _
  unfold m__law_bent_row
  exact (js_set (i := 2) sc__law_bent_row.nd rfl (je_mod (je_add (je_item (fun y => Rd.els (rdS 1 rfl y)) (je_sl 1 rfl (pv 1)) je_int) (je_mulKl (je_item (fun y => Rd.els (rdS 1 rfl y)) (je_sl 1 rfl (pv 1)) je_int))) (je_add (je_len T.z_len (rdS 0 rfl) (je_sl 0 rfl (pv 0))) je_int)) fun place_16 => (js_set (i := 3) sc__law_bent_row.nd rfl (je_modK (je_divK (je_item (fun y => Rd.els (rdS 1 rfl y)) (je_sl 1 rfl (pv 1)) je_int))) fun sign_21 => (js_ifJ (tj := (fun s_28 : Int => [some (asn K H .bor v_row), some (asn K H .bor v_five), some (asn K H .val place_16), some (asn K H .val s_28)])) (jt_eq (je_modK (je_item (fun y => Rd.els (rdS 1 rfl y)) (je_sl 1 rfl (pv 1)) je_int)) je_int) (js_set (i := 3) sc__law_bent_row.nd rfl (je_item (fun _ => rdeO) (je_list (ja_cons (je_neg je_int) (ja_cons je_int (ja_cons (je_mulK je_powK) (ja_cons (je_neg (je_mulK je_powK)) ja_nil)))) (fun x_41 => [x_41.1, x_41.2.1, x_41.2.2.1, x_41.2.2.2.1]) (fun _ => (fzl_cons fzV (fzl_cons fzV (fzl_cons fzV (fzl_cons fzV fzl_nil))))) (fun _ => Nat.le_of_ble_eq_true rfl)) (je_modK (je_item (fun y => Rd.els (rdS 1 rfl y)) (je_sl 1 rfl (pv 1)) je_int))) fun sign_47 => (js_nil rfl (.keep (.keep (.keep (.keep (.nil))))))) (js_nil rfl (.keep (.keep (.keep (.keep (.nil)))))) fun s_28 => (js_ifJ (tj := (fun s_54 : Int => [some (asn K H .bor v_row), some (asn K H .bor v_five), some (asn K H .val place_16), some (asn K H .val s_54)])) (jt_eq (je_modK (je_item (fun y => Rd.els (rdS 1 rfl y)) (je_sl 1 rfl (pv 1)) je_int)) je_int) (js_set (i := 3) sc__law_bent_row.nd rfl je_int fun sign_55 => (js_nil rfl (.keep (.keep (.keep (.keep (.nil))))))) (js_nil rfl (.keep (.keep (.keep (.keep (.nil)))))) fun s_54 => (js_ifA (jt_eq (je_modK (je_item (fun y => Rd.els (rdS 1 rfl y)) (je_sl 1 rfl (pv 1)) je_int)) je_int) (js_ret (je_cat (fun _ => rdeO) (fun _ => rdeO) (je_cat (fun _ => rdeO) (fun _ => rdeO) (je_slice (fun y => Rd.els (rdS 0 rfl y)) (je_sl 0 rfl (pv 0)) jo_none (jo_some (je_ni 2 rfl (pv 2)))) (je_list (ja_cons (je_ni 3 rfl (pv 3)) ja_nil) (fun x_68 => [x_68.1]) (fun _ => (fzl_cons fzV fzl_nil)) (fun _ => Nat.le_of_ble_eq_true rfl))) (je_slice (fun y => Rd.els (rdS 0 rfl y)) (je_sl 0 rfl (pv 0)) (jo_some (je_add (je_ni 2 rfl (pv 2)) je_int)) jo_none)) (fun _ => rfl)) (js_ifA (jt_eq (je_modK (je_item (fun y => Rd.els (rdS 1 rfl y)) (je_sl 1 rfl (pv 1)) je_int)) je_int) (js_ret (je_cat (fun _ => rdeO) (fun _ => rdeO) (je_cat (fun _ => rdeO) (fun _ => rdeO) (je_slice (fun y => Rd.els (rdS 0 rfl y)) (je_sl 0 rfl (pv 0)) jo_none (jo_some (je_ni 2 rfl (pv 2)))) (je_list (ja_cons (je_ni 3 rfl (pv 3)) ja_nil) (fun x_93 => [x_93.1]) (fun _ => (fzl_cons fzV fzl_nil)) (fun _ => Nat.le_of_ble_eq_true rfl))) (je_slice (fun y => Rd.els (rdS 0 rfl y)) (je_sl 0 rfl (pv 0)) (jo_some (je_ni 2 rfl (pv 2))) jo_none)) (fun _ => rfl)) (js_ret (je_cat (fun _ => rdeO) (fun _ => rdeO) (je_slice (fun y => Rd.els (rdS 0 rfl y)) (je_sl 0 rfl (pv 0)) jo_none (jo_some (je_ni 2 rfl (pv 2)))) (je_slice (fun y => Rd.els (rdS 0 rfl y)) (je_sl 0 rfl (pv 0)) (jo_some (je_add (je_ni 2 rfl (pv 2)) je_int)) jo_none)) (fun _ => rfl))))))))
theorem ok__law_due (T : Tx K mg eg) : FnOk P w K mg base (L2.CX P w) 3 T.a__law_due T.d__law_due ["way", "row"] (spM K eg .val (fun y : Int × (List Int) × Unit => m__law_due y.1 y.2.1) (fun y => [aV K y.1, aV K y.2.1])) := by
  refine fn_mir T.u__law_due sc__law_due (fun y => [sV K y.1, sV K y.2.1]) (fun _ => rfl) (fun _ => rfl) fun cdv A outer s H E O y hr => ?_
  obtain ⟨v_way, v_row, _⟩ := y
  show JS _ [some (asn K H .val v_way), some (asn K H .val v_row), none] _ (m__law_due v_way v_row) _
  unfold m__law_due
  exact (js_ifA (jt_ge (je_fn (ok__law_bad_sign T) (hr.mono (by decide)) T.m__law_bad_sign T.k__law_bad_sign T.b__law_bad_sign tk_of (ja_cons (je_nm 1 rfl (pv 1)) ja_nil) (fun _ => (psl_cons (psB ((fun _ => rdV) _)) psl_nil)) trivial) je_int) (js_ret (je_prV (A := Vl _) (B := Vl _) (ja_cons je_str (ja_cons (je_upI (je_fn (ok__law_bad_sign T) (hr.mono (by decide)) T.m__law_bad_sign T.k__law_bad_sign T.b__law_bad_sign tk_of (ja_cons (je_nm 1 rfl (pv 1)) ja_nil) (fun _ => (psl_cons (psB ((fun _ => rdV) _)) psl_nil)) trivial)) ja_nil)) (fun _ => rfl) (fun _ => fzV) (fun _ => fzV)) (fun _ => rfl)) (js_ifA (jt_eq (je_ni 0 rfl (pv 0)) je_int) (js_ret (je_prV (A := Vl _) (B := Vl _) (ja_cons je_str (ja_cons (je_upL (je_nm 1 rfl (pv 1))) ja_nil)) (fun _ => rfl) (fun _ => fzV) (fun _ => fzV)) (fun _ => rfl)) (js_ifA (jt_eq (je_ni 0 rfl (pv 0)) je_int) (js_ret (je_prV (A := Vl _) (B := Ow _) (ja_cons je_str (ja_cons (je_upLO (je_lc (own := [("sign", 2)]) rfl sc__law_due.nd (ji_list (fun _ => rdeW (.inl rfl)) (je_nm 1 rfl (pv 1))) (by show blkC ["way", "row", "sign"] (defScope st__law_due) _ _ = true; decide +kernel) (tgw_name 2) (fun i hi => by cases List.mem_singleton.mp hi; rfl) (Nat.le_of_ble_eq_true rfl) (fun _ _ => fzV) (fun _ => wipe1 _) (fun _ => .keep (.keep (.drop (.nil)))) (fun s9 H9 C9 cl9 fp9 => pg_name (i := 2) sc__law_due.nd rfl (Or.inl rfl)) (fun x_28 s9 H9 C9 cl9 fp9 => jts_nil) (fun x_28 s9 H9 C9 cl9 fp9 => (je_intB T.z_int (je_gt (je_ni 2 rfl (pv 2)) je_int))))) ja_nil)) (fun _ => rfl) (fun _ => fzV) (fun _ => fzO)) (fun _ => rfl)) (js_ifA (jt_eq (je_ni 0 rfl (pv 0)) je_int) (js_ret (je_prV (A := Vl _) (B := Ow _) (ja_cons je_str (ja_cons (je_upLO (je_lc (own := [("sign", 2)]) rfl sc__law_due.nd (ji_list (fun _ => rdeW (.inl rfl)) (je_nm 1 rfl (pv 1))) (by show blkC ["way", "row", "sign"] (defScope st__law_due) _ _ = true; decide +kernel) (tgw_name 2) (fun i hi => by cases List.mem_singleton.mp hi; rfl) (Nat.le_of_ble_eq_true rfl) (fun _ _ => fzV) (fun _ => wipe1 _) (fun _ => .keep (.keep (.drop (.nil)))) (fun s9 H9 C9 cl9 fp9 => pg_name (i := 2) sc__law_due.nd rfl (Or.inl rfl)) (fun x_41 s9 H9 C9 cl9 fp9 => (jts_one (jt_gt (je_ni 2 rfl (pv 2)) je_int))) (fun x_41 s9 H9 C9 cl9 fp9 => (je_ni 2 rfl (pv 2))))) ja_nil)) (fun _ => rfl) (fun _ => fzV) (fun _ => fzO)) (fun _ => rfl)) (js_ifA (jt_ge (je_fn (ok__law_bad_place T) (hr.mono (by decide)) T.m__law_bad_place T.k__law_bad_place T.b__law_bad_place tk_of (ja_cons (je_nm 1 rfl (pv 1)) ja_nil) (fun _ => (psl_cons (psB ((fun _ => rdV) _)) psl_nil)) trivial) je_int) (js_ret (je_prV (A := Vl _) (B := Vl _) (ja_cons je_str (ja_cons (je_upI (je_fn (ok__law_bad_place T) (hr.mono (by decide)) T.m__law_bad_place T.k__law_bad_place T.b__law_bad_place tk_of (ja_cons (je_nm 1 rfl (pv 1)) ja_nil) (fun _ => (psl_cons (psB ((fun _ => rdV) _)) psl_nil)) trivial)) ja_nil)) (fun _ => rfl) (fun _ => fzV) (fun _ => fzV)) (fun _ => rfl)) (js_ret (je_prV (A := Vl _) (B := Vl _) (ja_cons je_str (ja_cons (je_upI je_int) ja_nil)) (fun _ => rfl) (fun _ => fzV) (fun _ => fzV)) (fun _ => rfl)))))))
theorem ok__law_told (T : Tx K mg eg) : FnOk P w K mg base (L2.CX P w) 5 T.a__law_told T.d__law_told ["way", "handed"] (spM K eg .own (fun y : Int × (List Int) × Unit => m__law_told y.1 y.2.1) (fun y => [aV K y.1, aB K y.2.1])) := by
  refine fn_mir T.u__law_told sc__law_told (fun y => [sV K y.1, sB K y.2.1]) (fun _ => rfl) (fun _ => rfl) fun cdv A outer s H E O y hr => ?_
  obtain ⟨v_way, v_handed, _⟩ := y
  show JS _ [some (asn K H .val v_way), some (asn K H .bor v_handed), none, none, none, none] _ (m__law_told v_way v_handed) _
  unfold m__law_told
  exact (js_set (i := 2) sc__law_told.nd rfl (je_pr (fun _ => fzV) (ja_cons je_str (ja_cons (je_upIO je_int) ja_nil))) fun told_6 => (js_tryAs (tj := (fun s_8 : (Pr Str Un) => [some (asn K H .val v_way), some (asn K H .bor v_handed), some (asn K H .own s_8), none, none, none])) (tx := [some (asn K H .val v_way), some (asn K H .bor v_handed), some (asn K H .own told_6), none, none, none]) (i := 4) rfl rfl sc__law_told.nd rfl rfl ⟨rfl, by decide, Or.inl T.g_PackError⟩ tk_of T.ex_m (Nat.le_of_ble_eq_true rfl) (fun _ => rfl) (fun _ => trivial) trivial (fun W pn xe tk hpo => (js_ifL (jt_eq (je_ni 0 rfl (pv 0)) je_int) (js_set (i := 2) sc__law_told.nd rfl (je_pr (fun _ => fzV) (ja_cons je_str (ja_cons (je_upLO (je_fn (ok_checked_row T) (hr.mono (by decide)) T.m_checked_row T.k_checked_row T.b_checked_row tk (ja_cons (je_sl 1 rfl (pv 1)) ja_nil) (fun _ => (psl_cons (psB ((rdS 1 rfl) _)) psl_nil)) (@wkx_refl _ _ rfl))) ja_nil))) fun told_20 => (js_nil rfl (.keep (.keep (.keep (.drop (.drop (.drop .nil)))))))) (js_ifL (jt_eq (je_ni 0 rfl (pv 0)) je_int) (js_set (i := 2) sc__law_told.nd rfl (je_pr (fun _ => fzV) (ja_cons je_str (ja_cons (je_upLO (je_fn (ok_shape_of T) (hr.mono (by decide)) T.m_shape_of T.k_shape_of T.b_shape_of tk (ja_cons (je_sl 1 rfl (pv 1)) ja_nil) (fun _ => (psl_cons (psB ((rdS 1 rfl) _)) psl_nil)) (@wkx_refl _ _ rfl))) ja_nil))) fun told_32 => (js_nil rfl (.keep (.keep (.keep (.drop (.drop (.drop .nil)))))))) (js_ifL (jt_eq (je_ni 0 rfl (pv 0)) je_int) (js_set (i := 2) sc__law_told.nd rfl (je_pr (fun _ => fzV) (ja_cons je_str (ja_cons (je_upLO (je_fn (ok_labels_of T) (hr.mono (by decide)) T.m_labels_of T.k_labels_of T.b_labels_of tk (ja_cons (je_sl 1 rfl (pv 1)) ja_nil) (fun _ => (psl_cons (psB ((rdS 1 rfl) _)) psl_nil)) (@wkx_refl _ _ rfl))) ja_nil))) fun told_44 => (js_nil rfl (.keep (.keep (.keep (.drop (.drop (.drop .nil)))))))) (js_set (i := 3) sc__law_told.nd rfl (je_fn (ok_bad_place T) (hr.mono (by decide)) T.m_bad_place T.k_bad_place T.b_bad_place tk (ja_cons (je_sl 1 rfl (pv 1)) ja_nil) (fun _ => (psl_cons (psB ((rdS 1 rfl) _)) psl_nil)) (@wkx_refl _ _ rfl)) fun place_48 => (js_set (i := 2) sc__law_told.nd rfl (je_pr (fun _ => fzV) (ja_cons je_str (ja_cons (je_upNO (je_ni 3 rfl (pv 3))) ja_nil))) fun told_54 => (js_ifL (jt_isN (je_ni 3 rfl (pv 3)) (fun _ => rdV)) (js_set (i := 2) sc__law_told.nd rfl (je_pr (fun _ => fzV) (ja_cons je_str (ja_cons (je_upIO je_int) ja_nil))) fun told_62 => (js_nil rfl (.keep (.keep (.keep (.drop (.drop (.drop .nil)))))))) (js_nil rfl (.keep (.keep (.keep (.drop (.drop (.drop .nil)))))))))))))) (fun e_7 a oe d pn hpe hz hf => (js_set (i := 5) sc__law_told.nd rfl (je_list (ja_cons (je_isE (b := isaE (e_7).k .BadSign) (cw := .ref (eg .BadSign)) (cv := .ref (eg .BadSign)) 4 rfl (T.ex_fs hpe) (T.ex_c hpe) hz hf (pv 4) (by exact pe_glob rfl T.g_BadSign rfl) (fun _ h => h) (T.ex_BadSign hpe) T.z_isinstance) (ja_cons (je_isE (b := isaE (e_7).k .BadLabel) (cw := .ref (eg .BadLabel)) (cv := .ref (eg .BadLabel)) 4 rfl (T.ex_fs hpe) (T.ex_c hpe) hz hf (pv 4) (by exact pe_glob rfl T.g_BadLabel rfl) (fun _ h => h) (T.ex_BadLabel hpe) T.z_isinstance) (ja_cons (je_isE (b := isaE (e_7).k .BadNumber) (cw := .ref (eg .BadNumber)) (cv := .ref (eg .BadNumber)) 4 rfl (T.ex_fs hpe) (T.ex_c hpe) hz hf (pv 4) (by exact pe_glob rfl T.g_BadNumber rfl) (fun _ h => h) (T.ex_BadNumber hpe) T.z_isinstance) ja_nil))) (fun x_69 => [x_69.1, x_69.2.1, x_69.2.2.1]) (fun _ => (fzl_cons fzV (fzl_cons fzV (fzl_cons fzV fzl_nil)))) (fun _ => Nat.le_of_ble_eq_true rfl)) fun kinds_70 => (js_wk (.keep (.keep (.keep (.drop (.keep (.frz (.nil))))))) (js_set (i := 5) sc__law_told.nd rfl (je_cat (fun _ => rdeV) (fun _ => rdeO) (je_nm 5 rfl (pv 5)) (je_list (ja_cons (je_isE (b := isaE (e_7).k .BadRow) (cw := .ref (eg .BadRow)) (cv := .ref (eg .BadRow)) 4 rfl (T.ex_fs hpe) (T.ex_c hpe) hz hf (pv 4) (by exact pe_glob rfl T.g_BadRow rfl) (fun _ h => h) (T.ex_BadRow hpe) T.z_isinstance) (ja_cons (je_isE (b := isaE (e_7).k .BadSlots) (cw := .ref (eg .BadSlots)) (cv := .ref (eg .BadSlots)) 4 rfl (T.ex_fs hpe) (T.ex_c hpe) hz hf (pv 4) (by exact pe_glob rfl T.g_BadSlots rfl) (fun _ h => h) (T.ex_BadSlots hpe) T.z_isinstance) ja_nil)) (fun x_75 => [x_75.1, x_75.2.1]) (fun _ => (fzl_cons fzV (fzl_cons fzV fzl_nil))) (fun _ => Nat.le_of_ble_eq_true rfl))) fun kinds_78 => (js_wk (.keep (.keep (.keep (.drop (.keep (.frz (.nil))))))) (js_ifA (jt_w (jw_and (jt_val (je_item (fun _ => rdeV) (je_nm 5 rfl (pv 5)) je_int)) (jw_and (jt_eq (je_count 5 rfl (fun _ => rdV) je_bl (fun h => pe_bm PySem.F.plainAttrs_list PySem.F.slot_list_count PySem.F.type_list_count mt_lcountV (pv 5) h)) je_int) (jw_and1 (jt_val (je_isE (b := true) (cw := .ty "ValueError") (cv := .type "ValueError") 4 rfl (T.ex_fs hpe) (T.ex_c hpe) hz hf (pv 4) (by exact pe_bltn rfl T.z_ValueError (by decide +kernel) rfl) (fun _ h => h) (T.ex_ValueError hpe) T.z_isinstance)))))) (js_ret (je_pr (fun _ => fzV) (ja_cons je_str (ja_cons (je_upIO (je_ef 4 rfl (T.ex_f hpe) (T.no_place hpe) hz hf (pv 4))) ja_nil))) (fun _ => rfl)) (js_ret (je_pr (fun _ => fzV) (ja_cons je_str (ja_cons (je_upIO je_int) ja_nil))) (fun _ => rfl)))))))) fun s_8 => (js_retO 2 rfl (pv 2) (fun _ => rfl))))
theorem ok__law_right (T : Tx K mg eg) : FnOk P w K mg base (L2.CX P w) 6 T.a__law_right T.d__law_right ["way", "row"] (spM K eg .val (fun y : Int × (List Int) × Unit => m__law_right y.1 y.2.1) (fun y => [aV K y.1, aV K y.2.1])) := by
  refine fn_mir T.u__law_right sc__law_right (fun y => [sV K y.1, sV K y.2.1]) (fun _ => rfl) (fun _ => rfl) fun cdv A outer s H E O y hr => ?_
  obtain ⟨v_way, v_row, _⟩ := y
  show JS _ [some (asn K H .val v_way), some (asn K H .val v_row), none, none, none] _ (m__law_right v_way v_row) _
  unfold m__law_right
  exact (js_set (i := 2) sc__law_right.nd rfl (je_fn (ok__law_due T) (hr.mono (by decide)) T.m__law_due T.k__law_due T.b__law_due tk_of (ja_cons (je_ni 0 rfl (pv 0)) (ja_cons (je_nm 1 rfl (pv 1)) ja_nil)) (fun _ => (psl_cons (psV fzV) (psl_cons (psV fzV) psl_nil))) trivial) fun due_6 => (js_set (i := 3) sc__law_right.nd rfl (je_listL T.z_list (fun _ => rdeV) (je_nm 1 rfl (pv 1))) fun handed_8 => (js_set (i := 4) sc__law_right.nd rfl (je_fn (ok__law_told T) (hr.mono (by decide)) T.m__law_told T.k__law_told T.b__law_told tk_of (ja_cons (je_ni 0 rfl (pv 0)) (ja_cons (je_sl 3 rfl (pv 3)) ja_nil)) (fun _ => (psl_cons (psV fzV) (psl_cons (psB ((rdS 3 rfl) _)) psl_nil))) trivial) fun told_14 => (js_ifA (jt_w (jw_or (jt_ne (je_p1 4 rfl (pv 4)) (je_p1 2 rfl (pv 2))) (jw_or1 (jt_not (jt_val (je_fn (ok__law_row T) (hr.mono (by decide)) T.m__law_row T.k__law_row T.b__law_row tk_of (ja_cons (je_sl 3 rfl (pv 3)) (ja_cons (je_nm 1 rfl (pv 1)) ja_nil)) (fun _ => (psl_cons (psB ((rdS 3 rfl) _)) (psl_cons (psB ((fun _ => rdV) _)) psl_nil))) trivial)))))) (js_ret je_bl (fun _ => rfl)) (js_ifA (jt_ne (je_p1 2 rfl (pv 2)) je_str) (js_ret (je_and (je_fn (ok__law_whole T) (hr.mono (by decide)) T.m__law_whole T.k__law_whole T.b__law_whole tk_of (ja_cons (je_p2S (f := Un.toI) 4 (.inr rfl) rfl (toI_b _) toI_r (pv 4)) ja_nil) (fun _ => (psl_cons (psV fzV) psl_nil)) trivial) (je_one (je_eq (je_p2S (f := Un.toI) 4 (.inr rfl) rfl (toI_b _) toI_r (pv 4)) (je_p2S (f := Un.toI) 2 (.inl rfl) rfl (toI_b _) toI_r (pv 2))))) (fun _ => rfl)) (js_ifA (jt_not (jt_val (je_fn (ok__law_row T) (hr.mono (by decide)) T.m__law_row T.k__law_row T.b__law_row tk_of (ja_cons (je_p2A (f := Un.toL) 4 (.inr rfl) rfl (toL_b _) (pv 4)) (ja_cons (je_p2A (f := Un.toL) 2 (.inl rfl) rfl (toL_b _) (pv 2)) ja_nil)) (fun _ => (psl_cons (psB ((rdPA (f := Un.toL) 4 rfl toL_r) _)) (psl_cons (psB ((rdPA (f := Un.toL) 2 rfl toL_r) _)) psl_nil))) trivial))) (js_ret je_bl (fun _ => rfl)) (js_appP (x := told_14) (k := fun told_47 : (Pr Str Un) => (((((Out.ok handed_8).bind fun a_50 => ((Out.ok v_row).bind fun a_48 => (Out.ok ()).bind fun b_49 => Out.ok (a_48, b_49)).bind fun b_51 => Out.ok (a_50, b_51)).bind fun x_52 => m__law_row x_52.1 x_52.2.1).bind fun x_53 => Out.ok (!x_53)).bind fun b_54 => if b_54 = true then ((Out.ok false).bind fun r_55 => Out.ok r_55) else ((Out.ok (0 : Int)).bind fun y_56 => (appL handed_8 y_56).bind fun handed_57 => ((((Un.toL told_47.b).bind fun a_65 => (((Un.toL due_6.b).bind fun i_61 => (((Out.ok (3 : Int)).bind fun a_58 => (Out.ok ()).bind fun b_59 => Out.ok (a_58, b_59)).bind fun x_60 => Out.ok ([x_60.1])).bind fun j_62 => chk (lenOk (i_61.length + j_62.length)) (i_61 ++ j_62)).bind fun a_63 => (Out.ok ()).bind fun b_64 => Out.ok (a_63, b_64)).bind fun b_66 => Out.ok (a_65, b_66)).bind fun x_67 => m__law_row x_67.1 x_67.2.1).bind fun r_68 => Out.ok r_68)))) 4 rfl (pv 4) je_int (fun h1 h2 => pe_bm PySem.F.plainAttrs_list PySem.F.slot_list_append PySem.F.type_list_append mt_append h1 h2) fun told_47 => (js_ifA (jt_not (jt_val (je_fn (ok__law_row T) (hr.mono (by decide)) T.m__law_row T.k__law_row T.b__law_row tk_of (ja_cons (je_sl 3 rfl (pv 3)) (ja_cons (je_nm 1 rfl (pv 1)) ja_nil)) (fun _ => (psl_cons (psB ((rdS 3 rfl) _)) (psl_cons (psB ((fun _ => rdV) _)) psl_nil))) trivial))) (js_ret je_bl (fun _ => rfl)) (js_app (xs := handed_8) 3 rfl (fun _ => fzV) je_int (fun h => pe_bm PySem.F.plainAttrs_list PySem.F.slot_list_append PySem.F.type_list_append mt_append (pv 3) h) fun handed_57 => (js_ret (je_fn (ok__law_row T) (hr.mono (by decide)) T.m__law_row T.k__law_row T.b__law_row tk_of (ja_cons (je_p2A (f := Un.toL) 4 (.inr rfl) rfl (toL_b _) (pv 4)) (ja_cons (je_cat (fun y => Rd.els ((rdPA (f := Un.toL) 2 rfl toL_r) y)) (fun _ => rdeO) (je_p2A (f := Un.toL) 2 (.inl rfl) rfl (toL_b _) (pv 2)) (je_list (ja_cons je_int ja_nil) (fun x_60 => [x_60.1]) (fun _ => (fzl_cons fzV fzl_nil)) (fun _ => Nat.le_of_ble_eq_true rfl))) ja_nil)) (fun _ => (psl_cons (psB ((rdPA (f := Un.toL) 4 rfl toL_r) _)) (psl_cons (psB ((fun _ => rdO) _)) psl_nil))) trivial) (fun _ => rfl)))))))))))
theorem ok__law_labelled_due (T : Tx K mg eg) : FnOk P w K mg base (L2.CX P w) 2 T.a__law_labelled_due T.d__law_labelled_due ["shape", "labels"] (spM K eg .val (fun y : (List Int) × (List Int) × Unit => m__law_labelled_due y.1 y.2.1) (fun y => [aB K y.1, aB K y.2.1])) := by
  refine fn_mir T.u__law_labelled_due sc__law_labelled_due (fun y => [sB K y.1, sB K y.2.1]) (fun _ => rfl) (fun _ => rfl) fun cdv A outer s H E O y hr => ?_
  obtain ⟨v_shape, v_labels, _⟩ := y
  show JS _ [some (asn K H .bor v_shape), some (asn K H .bor v_labels), none, none, none, none, none] _ (m__law_labelled_due v_shape v_labels) _
  unfold m__law_labelled_due
  exact (js_for (tl := (fun s_3 : Unit => [some (asn K H .bor v_shape), some (asn K H .bor v_labels), none, none, none, none, none])) (s0 := ()) (ji_range1 T.z_range (je_len T.z_len (rdS 0 rfl) (je_sl 0 rfl (pv 0)))) (pg_name (i := 2) sc__law_labelled_due.nd rfl (Or.inl rfl)) (tgt_name 2) (.keep (.keep (.drop (.drop (.drop (.drop (.drop .nil))))))) (fun x_4 s_3 => (js_ifL (jt_not (jt_chainT (p := fun i j => decide (i ≤ j)) (q := fun i j => decide (i ≤ j)) op_le op_le je_int (je_item (fun y => Rd.els (rdS 0 rfl y)) (je_sl 0 rfl (pv 0)) (je_ni 2 rfl (pv 2))) je_int)) (js_ret (je_prV (A := Vl _) (B := Vl _) (ja_cons je_str (ja_cons (je_upI (je_ni 2 rfl (pv 2))) ja_nil)) (fun _ => rfl) (fun _ => fzV) (fun _ => fzV)) (fun _ => rfl)) (js_nilA rfl (.keep (.keep (.drop (.drop (.drop (.drop (.drop .nil)))))))))) (fun s_3 => (js_for (tl := (fun s_18 : Unit => [some (asn K H .bor v_shape), some (asn K H .bor v_labels), none, none, none, none, none])) (s0 := ()) (ji_list (fun _ => rdeI) (je_nb 1 rfl (pv 1))) (pg_name (i := 3) sc__law_labelled_due.nd rfl (Or.inl rfl)) (tgt_name 3) (.keep (.keep (.drop (.drop (.drop (.drop (.drop .nil))))))) (fun x_19 s_18 => (js_ifL (jt_not (jt_chainT (p := fun i j => decide (i ≤ j)) (q := fun i j => decide (i ≤ j)) op_le op_le je_int (je_ni 3 rfl (pv 3)) je_int)) (js_ret (je_prV (A := Vl _) (B := Vl _) (ja_cons je_str (ja_cons (je_upI (je_ni 3 rfl (pv 3))) ja_nil)) (fun _ => rfl) (fun _ => fzV) (fun _ => fzV)) (fun _ => rfl)) (js_nilA rfl (.keep (.keep (.drop (.drop (.drop (.drop (.drop .nil)))))))))) (fun s_18 => (js_ifA (jt_ne (je_len T.z_len (rdS 1 rfl) (je_sl 1 rfl (pv 1))) (je_sum rfl T.z_sum (rdS 0 rfl) (je_sl 0 rfl (pv 0)))) (js_ret (je_prV (A := Vl _) (B := Vl _) (ja_cons je_str (ja_cons (je_upI (je_len T.z_len (rdS 1 rfl) (je_sl 1 rfl (pv 1)))) ja_nil)) (fun _ => rfl) (fun _ => fzV) (fun _ => fzV)) (fun _ => rfl)) (js_set (i := 4) sc__law_labelled_due.nd rfl je_nil fun row_43 => (js_set (i := 5) sc__law_labelled_due.nd rfl je_int fun used_44 => (js_for (tl := (fun s_45 : (List Int) × Int => [some (asn K H .bor v_shape), some (asn K H .bor v_labels), none, none, some (asn K H .own s_45.1), some (asn K H .val s_45.2), none])) (s0 := (row_43, used_44)) (ji_list (fun _ => rdeI) (je_nb 0 rfl (pv 0))) (pg_name (i := 6) sc__law_labelled_due.nd rfl (Or.inl rfl)) (tgt_name 6) (.keep (.keep (.drop (.drop (.keep (.keep (.drop .nil))))))) (fun x_46 s_45 => (js_app (xs := s_45.1) 4 rfl (fun _ => fzV) (je_if (jt_eq (je_ni 6 rfl (pv 6)) je_int) (je_item (fun y => Rd.els (rdS 1 rfl y)) (je_sl 1 rfl (pv 1)) (je_ni 5 rfl (pv 5))) je_int) (fun h => pe_bm PySem.F.plainAttrs_list PySem.F.slot_list_append PySem.F.type_list_append mt_append (pv 4) h) fun row_53 => (js_set (i := 5) sc__law_labelled_due.nd rfl (je_add (je_ni 5 rfl (pv 5)) (je_ni 6 rfl (pv 6))) fun used_57 => (js_nilA rfl (.keep (.keep (.drop (.drop (.keep (.keep (.drop .nil))))))))))) (fun s_45 => (js_wk (.keep (.keep (.drop (.drop (.frz (.keep (.drop .nil))))))) (js_ret (je_prV (A := Vl _) (B := Vl _) (ja_cons je_str (ja_cons (je_upL (je_nm 4 rfl (pv 4))) ja_nil)) (fun _ => rfl) (fun _ => fzV) (fun _ => fzV)) (fun _ => rfl)))) hpo_of))))) hpo_of)) hpo_of)
theorem ok__law_labelled_told (T : Tx K mg eg) : FnOk P w K mg base (L2.CX P w) 4 T.a__law_labelled_told T.d__law_labelled_told ["shape", "labels"] (spM K eg .own (fun y : (List Int) × (List Int) × Unit => m__law_labelled_told y.1 y.2.1) (fun y => [aB K y.1, aB K y.2.1])) := by
  refine fn_mir T.u__law_labelled_told sc__law_labelled_told (fun y => [sB K y.1, sB K y.2.1]) (fun _ => rfl) (fun _ => rfl) fun cdv A outer s H E O y hr => ?_
  obtain ⟨v_shape, v_labels, _⟩ := y
  show JS _ [some (asn K H .bor v_shape), some (asn K H .bor v_labels), none, none, none] _ (m__law_labelled_told v_shape v_labels) _
  unfold m__law_labelled_told
  exact (js_set (i := 2) sc__law_labelled_told.nd rfl (je_pr (fun _ => fzV) (ja_cons je_str (ja_cons (je_upIO je_int) ja_nil))) fun told_6 => (js_tryAs (tj := (fun s_8 : (Pr Str Un) => [some (asn K H .bor v_shape), some (asn K H .bor v_labels), some (asn K H .own s_8), none, none])) (tx := [some (asn K H .bor v_shape), some (asn K H .bor v_labels), some (asn K H .own told_6), none, none]) (i := 3) rfl rfl sc__law_labelled_told.nd rfl rfl ⟨rfl, by decide, Or.inl T.g_PackError⟩ tk_of T.ex_m (Nat.le_of_ble_eq_true rfl) (fun _ => rfl) (fun _ => trivial) trivial (fun W pn xe tk hpo => (js_set (i := 2) sc__law_labelled_told.nd rfl (je_pr (fun _ => fzV) (ja_cons je_str (ja_cons (je_upLO (je_fn (ok_labelled T) (hr.mono (by decide)) T.m_labelled T.k_labelled T.b_labelled tk (ja_cons (je_sl 0 rfl (pv 0)) (ja_cons (je_sl 1 rfl (pv 1)) ja_nil)) (fun _ => (psl_cons (psB ((rdS 0 rfl) _)) (psl_cons (psB ((rdS 1 rfl) _)) psl_nil))) (@wkx_refl _ _ rfl))) ja_nil))) fun told_19 => (js_nil rfl (.keep (.keep (.keep (.drop (.drop .nil)))))))) (fun e_7 a oe d pn hpe hz hf => (js_set (i := 4) sc__law_labelled_told.nd rfl (je_list (ja_cons (je_isE (b := isaE (e_7).k .BadSign) (cw := .ref (eg .BadSign)) (cv := .ref (eg .BadSign)) 3 rfl (T.ex_fs hpe) (T.ex_c hpe) hz hf (pv 3) (by exact pe_glob rfl T.g_BadSign rfl) (fun _ h => h) (T.ex_BadSign hpe) T.z_isinstance) (ja_cons (je_isE (b := isaE (e_7).k .BadLabel) (cw := .ref (eg .BadLabel)) (cv := .ref (eg .BadLabel)) 3 rfl (T.ex_fs hpe) (T.ex_c hpe) hz hf (pv 3) (by exact pe_glob rfl T.g_BadLabel rfl) (fun _ h => h) (T.ex_BadLabel hpe) T.z_isinstance) (ja_cons (je_isE (b := isaE (e_7).k .BadNumber) (cw := .ref (eg .BadNumber)) (cv := .ref (eg .BadNumber)) 3 rfl (T.ex_fs hpe) (T.ex_c hpe) hz hf (pv 3) (by exact pe_glob rfl T.g_BadNumber rfl) (fun _ h => h) (T.ex_BadNumber hpe) T.z_isinstance) ja_nil))) (fun x_26 => [x_26.1, x_26.2.1, x_26.2.2.1]) (fun _ => (fzl_cons fzV (fzl_cons fzV (fzl_cons fzV fzl_nil)))) (fun _ => Nat.le_of_ble_eq_true rfl)) fun kinds_27 => (js_wk (.keep (.keep (.keep (.keep (.frz (.nil)))))) (js_set (i := 4) sc__law_labelled_told.nd rfl (je_cat (fun _ => rdeV) (fun _ => rdeO) (je_nm 4 rfl (pv 4)) (je_list (ja_cons (je_isE (b := isaE (e_7).k .BadRow) (cw := .ref (eg .BadRow)) (cv := .ref (eg .BadRow)) 3 rfl (T.ex_fs hpe) (T.ex_c hpe) hz hf (pv 3) (by exact pe_glob rfl T.g_BadRow rfl) (fun _ h => h) (T.ex_BadRow hpe) T.z_isinstance) (ja_cons (je_isE (b := isaE (e_7).k .BadSlots) (cw := .ref (eg .BadSlots)) (cv := .ref (eg .BadSlots)) 3 rfl (T.ex_fs hpe) (T.ex_c hpe) hz hf (pv 3) (by exact pe_glob rfl T.g_BadSlots rfl) (fun _ h => h) (T.ex_BadSlots hpe) T.z_isinstance) ja_nil)) (fun x_32 => [x_32.1, x_32.2.1]) (fun _ => (fzl_cons fzV (fzl_cons fzV fzl_nil))) (fun _ => Nat.le_of_ble_eq_true rfl))) fun kinds_35 => (js_wk (.keep (.keep (.keep (.keep (.frz (.nil)))))) (js_ifA (jt_w (jw_or (jt_ne (je_count 4 rfl (fun _ => rdV) je_bl (fun h => pe_bm PySem.F.plainAttrs_list PySem.F.slot_list_count PySem.F.type_list_count mt_lcountV (pv 4) h)) je_int) (jw_or1 (jt_not (jt_val (je_isE (b := true) (cw := .ty "ValueError") (cv := .type "ValueError") 3 rfl (T.ex_fs hpe) (T.ex_c hpe) hz hf (pv 3) (by exact pe_bltn rfl T.z_ValueError (by decide +kernel) rfl) (fun _ h => h) (T.ex_ValueError hpe) T.z_isinstance)))))) (js_ret (je_pr (fun _ => fzV) (ja_cons je_str (ja_cons (je_upIO je_int) ja_nil))) (fun _ => rfl)) (js_ifA (jt_val (je_item (fun _ => rdeV) (je_nm 4 rfl (pv 4)) je_int)) (js_ret (je_pr (fun _ => fzV) (ja_cons je_str (ja_cons (je_upIO (je_ef 3 rfl (T.ex_f hpe) (T.no_place hpe) hz hf (pv 3))) ja_nil))) (fun _ => rfl)) (js_ifA (jt_val (je_item (fun _ => rdeV) (je_nm 4 rfl (pv 4)) je_int)) (js_ret (je_pr (fun _ => fzV) (ja_cons je_str (ja_cons (je_upIO (je_ef 3 rfl (T.ex_f hpe) (T.no_label hpe) hz hf (pv 3))) ja_nil))) (fun _ => rfl)) (js_ifA (jt_val (je_item (fun _ => rdeV) (je_nm 4 rfl (pv 4)) je_int)) (js_ret (je_pr (fun _ => fzV) (ja_cons je_str (ja_cons (je_upIO (je_ef 3 rfl (T.ex_f hpe) (T.no_value hpe) hz hf (pv 3))) ja_nil))) (fun _ => rfl)) (js_ret (je_pr (fun _ => fzV) (ja_cons je_str (ja_cons (je_upIO je_int) ja_nil))) (fun _ => rfl))))))))))) fun s_8 => (js_retO 2 rfl (pv 2) (fun _ => rfl))))
theorem ok__law_labelled_right (T : Tx K mg eg) : FnOk P w K mg base (L2.CX P w) 5 T.a__law_labelled_right T.d__law_labelled_right ["shape", "labels"] (spM K eg .val (fun y : (List Int) × (List Int) × Unit => m__law_labelled_right y.1 y.2.1) (fun y => [aB K y.1, aB K y.2.1])) := by
  refine fn_mir T.u__law_labelled_right sc__law_labelled_right (fun y => [sB K y.1, sB K y.2.1]) (fun _ => rfl) (fun _ => rfl) fun cdv A outer s H E O y hr => ?_
  obtain ⟨v_shape, v_labels, _⟩ := y
  show JS _ [some (asn K H .bor v_shape), some (asn K H .bor v_labels), none, none, none, none] _ (m__law_labelled_right v_shape v_labels) _
  unfold m__law_labelled_right
  exact (js_set (i := 2) sc__law_labelled_right.nd rfl (je_fn (ok__law_labelled_due T) (hr.mono (by decide)) T.m__law_labelled_due T.k__law_labelled_due T.b__law_labelled_due tk_of (ja_cons (je_sl 0 rfl (pv 0)) (ja_cons (je_sl 1 rfl (pv 1)) ja_nil)) (fun _ => (psl_cons (psB ((rdS 0 rfl) _)) (psl_cons (psB ((rdS 1 rfl) _)) psl_nil))) trivial) fun due_6 => (js_set (i := 3) sc__law_labelled_right.nd rfl (je_listL T.z_list (fun y => Rd.els (rdS 0 rfl y)) (je_sl 0 rfl (pv 0))) fun handed_8 => (js_wk (.keep (.keep (.keep (.frz (.drop (.drop .nil)))))) (js_set (i := 4) sc__law_labelled_right.nd rfl (je_listL T.z_list (fun y => Rd.els (rdS 1 rfl y)) (je_sl 1 rfl (pv 1))) fun other_10 => (js_wk (.keep (.keep (.keep (.keep (.frz (.drop .nil)))))) (js_set (i := 5) sc__law_labelled_right.nd rfl (je_fn (ok__law_labelled_told T) (hr.mono (by decide)) T.m__law_labelled_told T.k__law_labelled_told T.b__law_labelled_told tk_of (ja_cons (je_nm 3 rfl (pv 3)) (ja_cons (je_nm 4 rfl (pv 4)) ja_nil)) (fun _ => (psl_cons (psB ((fun _ => rdV) _)) (psl_cons (psB ((fun _ => rdV) _)) psl_nil))) trivial) fun told_16 => (js_ifA (jt_w (jw_or (jt_not (jt_val (je_fn (ok__law_row T) (hr.mono (by decide)) T.m__law_row T.k__law_row T.b__law_row tk_of (ja_cons (je_nm 3 rfl (pv 3)) (ja_cons (je_sl 0 rfl (pv 0)) ja_nil)) (fun _ => (psl_cons (psB ((fun _ => rdV) _)) (psl_cons (psB ((rdS 0 rfl) _)) psl_nil))) trivial))) (jw_or1 (jt_not (jt_val (je_fn (ok__law_row T) (hr.mono (by decide)) T.m__law_row T.k__law_row T.b__law_row tk_of (ja_cons (je_nm 4 rfl (pv 4)) (ja_cons (je_sl 1 rfl (pv 1)) ja_nil)) (fun _ => (psl_cons (psB ((fun _ => rdV) _)) (psl_cons (psB ((rdS 1 rfl) _)) psl_nil))) trivial)))))) (js_ret je_bl (fun _ => rfl)) (js_ifA (jt_ne (je_p1 5 rfl (pv 5)) (je_p1 2 rfl (pv 2))) (js_ret je_bl (fun _ => rfl)) (js_ifA (jt_ne (je_p1 2 rfl (pv 2)) je_str) (js_ret (je_and (je_fn (ok__law_whole T) (hr.mono (by decide)) T.m__law_whole T.k__law_whole T.b__law_whole tk_of (ja_cons (je_p2S (f := Un.toI) 5 (.inr rfl) rfl (toI_b _) toI_r (pv 5)) ja_nil) (fun _ => (psl_cons (psV fzV) psl_nil)) trivial) (je_one (je_eq (je_p2S (f := Un.toI) 5 (.inr rfl) rfl (toI_b _) toI_r (pv 5)) (je_p2S (f := Un.toI) 2 (.inl rfl) rfl (toI_b _) toI_r (pv 2))))) (fun _ => rfl)) (js_ifA (jt_not (jt_val (je_fn (ok__law_row T) (hr.mono (by decide)) T.m__law_row T.k__law_row T.b__law_row tk_of (ja_cons (je_p2A (f := Un.toL) 5 (.inr rfl) rfl (toL_b _) (pv 5)) (ja_cons (je_p2A (f := Un.toL) 2 (.inl rfl) rfl (toL_b _) (pv 2)) ja_nil)) (fun _ => (psl_cons (psB ((rdPA (f := Un.toL) 5 rfl toL_r) _)) (psl_cons (psB ((rdPA (f := Un.toL) 2 rfl toL_r) _)) psl_nil))) trivial))) (js_ret je_bl (fun _ => rfl)) (js_appP (x := told_16) (k := fun told_57 : (Pr Str Un) => (((((Out.ok handed_8).bind fun a_60 => ((Out.ok v_shape).bind fun a_58 => (Out.ok ()).bind fun b_59 => Out.ok (a_58, b_59)).bind fun b_61 => Out.ok (a_60, b_61)).bind fun x_62 => m__law_row x_62.1 x_62.2.1).bind fun x_68 => if x_68 = true then (((Out.ok other_10).bind fun a_65 => ((Out.ok v_labels).bind fun a_63 => (Out.ok ()).bind fun b_64 => Out.ok (a_63, b_64)).bind fun b_66 => Out.ok (a_65, b_66)).bind fun x_67 => m__law_row x_67.1 x_67.2.1) else Out.ok false).bind fun r_69 => Out.ok r_69)) 5 rfl (pv 5) je_int (fun h1 h2 => pe_bm PySem.F.plainAttrs_list PySem.F.slot_list_append PySem.F.type_list_append mt_append h1 h2) fun told_57 => (js_ret (je_and (je_fn (ok__law_row T) (hr.mono (by decide)) T.m__law_row T.k__law_row T.b__law_row tk_of (ja_cons (je_nm 3 rfl (pv 3)) (ja_cons (je_sl 0 rfl (pv 0)) ja_nil)) (fun _ => (psl_cons (psB ((fun _ => rdV) _)) (psl_cons (psB ((rdS 0 rfl) _)) psl_nil))) trivial) (je_one (je_fn (ok__law_row T) (hr.mono (by decide)) T.m__law_row T.k__law_row T.b__law_row tk_of (ja_cons (je_nm 4 rfl (pv 4)) (ja_cons (je_sl 1 rfl (pv 1)) ja_nil)) (fun _ => (psl_cons (psB ((fun _ => rdV) _)) (psl_cons (psB ((rdS 1 rfl) _)) psl_nil))) trivial))) (fun _ => rfl)))))))))))))
theorem ok__law_spoilt (T : Tx K mg eg) : FnOk P w K mg base (L2.CX P w) 2 T.a__law_spoilt T.d__law_spoilt ["row", "members", "three"] (spM K eg .own (fun y : (List Int) × (List Int) × (List Int) × Unit => m__law_spoilt y.1 y.2.1 y.2.2.1) (fun y => [aB K y.1, aB K y.2.1, aB K y.2.2.1])) := by
  refine fn_mir T.u__law_spoilt sc__law_spoilt (fun y => [sB K y.1, sB K y.2.1, sB K y.2.2.1]) (fun _ => rfl) (fun _ => rfl) fun cdv A outer s H E O y hr => ?_
  obtain ⟨v_row, v_members, v_three, _⟩ := y
  show JS _ [some (asn K H .bor v_row), some (asn K H .bor v_members), some (asn K H .bor v_three), none, none] _ (m__law_spoilt v_row v_members v_three) _
  unfold m__law_spoilt
  exact (js_set (i := 3) sc__law_spoilt.nd rfl (je_mod (je_item (fun y => Rd.els (rdS 2 rfl y)) (je_sl 2 rfl (pv 2)) je_int) (je_add (je_len T.z_len (rdS 0 rfl) (je_sl 0 rfl (pv 0))) je_int)) fun place_10 => (js_set (i := 4) sc__law_spoilt.nd rfl (je_item (fun y => Rd.els (rdS 1 rfl y)) (je_sl 1 rfl (pv 1)) (je_mod (je_item (fun y => Rd.els (rdS 2 rfl y)) (je_sl 2 rfl (pv 2)) je_int) (je_len T.z_len (rdS 1 rfl) (je_sl 1 rfl (pv 1))))) fun member_19 => (js_ifA (jt_eq (je_modK (je_item (fun y => Rd.els (rdS 2 rfl y)) (je_sl 2 rfl (pv 2)) je_int)) je_int) (js_ret (je_cat (fun _ => rdeO) (fun _ => rdeO) (je_cat (fun _ => rdeO) (fun _ => rdeO) (je_slice (fun y => Rd.els (rdS 0 rfl y)) (je_sl 0 rfl (pv 0)) jo_none (jo_some (je_ni 3 rfl (pv 3)))) (je_list (ja_cons (je_ni 4 rfl (pv 4)) ja_nil) (fun x_32 => [x_32.1]) (fun _ => (fzl_cons fzV fzl_nil)) (fun _ => Nat.le_of_ble_eq_true rfl))) (je_slice (fun y => Rd.els (rdS 0 rfl y)) (je_sl 0 rfl (pv 0)) (jo_some (je_add (je_ni 3 rfl (pv 3)) je_int)) jo_none)) (fun _ => rfl)) (js_ifA (jt_eq (je_modK (je_item (fun y => Rd.els (rdS 2 rfl y)) (je_sl 2 rfl (pv 2)) je_int)) je_int) (js_ret (je_cat (fun _ => rdeO) (fun _ => rdeO) (je_cat (fun _ => rdeO) (fun _ => rdeO) (je_slice (fun y => Rd.els (rdS 0 rfl y)) (je_sl 0 rfl (pv 0)) jo_none (jo_some (je_ni 3 rfl (pv 3)))) (je_list (ja_cons (je_ni 4 rfl (pv 4)) ja_nil) (fun x_57 => [x_57.1]) (fun _ => (fzl_cons fzV fzl_nil)) (fun _ => Nat.le_of_ble_eq_true rfl))) (je_slice (fun y => Rd.els (rdS 0 rfl y)) (je_sl 0 rfl (pv 0)) (jo_some (je_ni 3 rfl (pv 3))) jo_none)) (fun _ => rfl)) (js_ifA (jt_eq (je_modK (je_item (fun y => Rd.els (rdS 2 rfl y)) (je_sl 2 rfl (pv 2)) je_int)) je_int) (js_ret (je_cat (fun _ => rdeO) (fun _ => rdeO) (je_slice (fun y => Rd.els (rdS 0 rfl y)) (je_sl 0 rfl (pv 0)) jo_none (jo_some (je_ni 3 rfl (pv 3)))) (je_slice (fun y => Rd.els (rdS 0 rfl y)) (je_sl 0 rfl (pv 0)) (jo_some (je_add (je_ni 3 rfl (pv 3)) je_int)) jo_none)) (fun _ => rfl)) (js_ret (je_listL T.z_list (fun y => Rd.els (rdS 0 rfl y)) (je_sl 0 rfl (pv 0))) (fun _ => rfl)))))))
theorem ok_law (T : Tx K mg eg) : FnOk P w K mg base (L2.CX P w) 7 T.a_law T.d_law ["script"] (spM K eg .val (fun y : Scr × Unit => m_law y.1) (fun y => [aV K y.1])) := by
  refine fn_mir T.u_law sc_law (fun y => [sV K y.1]) (fun _ => rfl) (fun _ => rfl) fun cdv A outer s H E O y hr => ?_
  obtain ⟨v_script, _⟩ := y
  show JS _ [some (asn K H .val v_script), none, none, none, none, none, none, none, none, none, none, none, none, none] _ (m_law v_script) _
  unfold m_law
  exact (js_set (i := 1) sc_law.nd rfl (je_fn (ok__law_digits T) (hr.mono (by decide)) T.m__law_digits T.k__law_digits T.b__law_digits tk_of (ja_cons (je_nm 0 rfl (pv 0)) (ja_cons je_int ja_nil)) (fun _ => (psl_cons (psV fzV) (psl_cons (psV fzV) psl_nil))) trivial) fun digits_6 => (js_wk (.keep (.frz (.drop (.drop (.drop (.drop (.drop (.drop (.drop (.drop (.drop (.drop (.drop (.drop .nil)))))))))))))) (js_set (i := 2) sc_law.nd rfl (je_modK (je_add (je_item (fun _ => rdeV) (je_nm 1 rfl (pv 1)) je_int) je_int)) fun size_13 => (js_ifJ (tj := (fun s_20 : Int => [some (asn K H .val v_script), some (asn K H .val digits_6), some (asn K H .val s_20), none, none, none, none, none, none, none, none, none, none, none])) (jt_eq (je_modK (je_item (fun _ => rdeV) (je_nm 1 rfl (pv 1)) je_int)) je_int) (js_set (i := 2) sc_law.nd rfl (je_modK (je_item (fun _ => rdeV) (je_nm 1 rfl (pv 1)) je_int)) fun size_24 => (js_nil rfl (.keep (.keep (.keep (.drop (.drop (.drop (.drop (.drop (.drop (.drop (.drop (.drop (.drop (.drop .nil)))))))))))))))) (js_nil rfl (.keep (.keep (.keep (.drop (.drop (.drop (.drop (.drop (.drop (.drop (.drop (.drop (.drop (.drop .nil))))))))))))))) fun s_20 => (js_set (i := 3) sc_law.nd rfl (je_fn (ok__law_signs T) (hr.mono (by decide)) T.m__law_signs T.k__law_signs T.b__law_signs tk_of (ja_cons (je_fn (ok__law_drawn T) (hr.mono (by decide)) T.m__law_drawn T.k__law_drawn T.b__law_drawn tk_of (ja_cons (je_nm 1 rfl (pv 1)) (ja_cons (je_add je_int (je_modK (je_add (je_item (fun _ => rdeV) (je_nm 1 rfl (pv 1)) je_int) je_int))) ja_nil)) (fun _ => (psl_cons (psB ((fun _ => rdV) _)) (psl_cons (psV fzV) psl_nil))) trivial) ja_nil) (fun _ => (psl_cons (psB ((fun _ => rdO) _)) psl_nil)) trivial) fun tree_42 => (js_wk (.keep (.keep (.keep (.frz (.drop (.drop (.drop (.drop (.drop (.drop (.drop (.drop (.drop (.drop .nil)))))))))))))) (js_set (i := 4) sc_law.nd rfl (je_fn (ok__law_segment T) (hr.mono (by decide)) T.m__law_segment T.k__law_segment T.b__law_segment tk_of (ja_cons (je_nm 1 rfl (pv 1)) (ja_cons je_int (ja_cons (je_ni 2 rfl (pv 2)) ja_nil))) (fun _ => (psl_cons (psB ((fun _ => rdV) _)) (psl_cons (psV fzV) (psl_cons (psV fzV) psl_nil)))) trivial) fun free_50 => (js_wk (.keep (.keep (.keep (.keep (.frz (.drop (.drop (.drop (.drop (.drop (.drop (.drop (.drop (.drop .nil)))))))))))))) (js_set (i := 5) sc_law.nd rfl (je_list (ja_cons je_nil (ja_cons (je_nm 3 rfl (pv 3)) (ja_cons (je_nm 4 rfl (pv 4)) (ja_cons (je_slice (fun _ => rdeV) (je_nm 3 rfl (pv 3)) (jo_some je_int) jo_none) (ja_cons (je_slice (fun _ => rdeV) (je_nm 3 rfl (pv 3)) jo_none (jo_some (je_neg je_int))) ja_nil))))) (fun x_70 => [x_70.1, x_70.2.1, x_70.2.2.1, x_70.2.2.2.1, x_70.2.2.2.2.1]) (fun _ => (fzl_cons fzO (fzl_cons fzV (fzl_cons fzV (fzl_cons fzO (fzl_cons fzO fzl_nil)))))) (fun _ => Nat.le_of_ble_eq_true rfl)) fun rows_71 => (js_set (i := 5) sc_law.nd rfl (je_cat (rdeS 5 rfl) (fun _ => rdeO) (je_sl 5 rfl (pv 5)) (je_list (ja_cons (je_cat (fun _ => rdeV) (fun _ => rdeO) (je_nm 3 rfl (pv 3)) (je_list (ja_cons je_int ja_nil) (fun x_74 => [x_74.1]) (fun _ => (fzl_cons fzV fzl_nil)) (fun _ => Nat.le_of_ble_eq_true rfl))) (ja_cons (je_cat (fun _ => rdeV) (fun _ => rdeO) (je_nm 3 rfl (pv 3)) (je_list (ja_cons (je_add je_int (je_modK (je_item (fun _ => rdeV) (je_nm 1 rfl (pv 1)) je_int))) ja_nil) (fun x_85 => [x_85.1]) (fun _ => (fzl_cons fzV fzl_nil)) (fun _ => Nat.le_of_ble_eq_true rfl))) ja_nil)) (fun x_92 => [x_92.1, x_92.2.1]) (fun _ => (fzl_cons fzO (fzl_cons fzO fzl_nil))) (fun _ => Nat.le_of_ble_eq_true rfl))) fun rows_95 => (js_for (tl := (fun s_97 : (List (List Int)) => [some (asn K H .val v_script), some (asn K H .val digits_6), some (asn K H .val s_20), some (asn K H .val tree_42), some (asn K H .val free_50), some (asn K H .own s_97), none, none, none, none, none, none, none, none])) (s0 := rows_95) (ji_range1 T.z_range je_int) (pg_name (i := 6) sc_law.nd rfl (Or.inl rfl)) (tgt_name 6) (.keep (.keep (.keep (.keep (.keep (.keep (.drop (.drop (.drop (.drop (.drop (.drop (.drop (.drop .nil)))))))))))))) (fun x_98 s_97 => (js_set (i := 7) sc_law.nd rfl (je_if (jt_gt (je_ni 6 rfl (pv 6)) je_int) (je_nm 4 rfl (pv 4)) (je_nm 3 rfl (pv 3))) fun row_102 => (js_app (xs := s_97) 5 rfl (fun _ => fzO) (je_fn (ok__law_bent_row T) (hr.mono (by decide)) T.m__law_bent_row T.k__law_bent_row T.b__law_bent_row tk_of (ja_cons (je_nm 7 rfl (pv 7)) (ja_cons (je_slice (fun _ => rdeV) (je_nm 1 rfl (pv 1)) (jo_some (je_add je_int (je_mulKl (je_ni 6 rfl (pv 6))))) (jo_some (je_add je_int (je_mulKl (je_ni 6 rfl (pv 6)))))) ja_nil)) (fun _ => (psl_cons (psB ((fun _ => rdV) _)) (psl_cons (psB ((fun _ => rdO) _)) psl_nil))) trivial) (fun h => pe_bm PySem.F.plainAttrs_list PySem.F.slot_list_append PySem.F.type_list_append mt_append (pv 5) h) fun rows_122 => (js_nilA rfl (.keep (.keep (.keep (.keep (.keep (.keep (.drop (.drop (.drop (.drop (.drop (.drop (.drop (.drop .nil)))))))))))))))))) (fun s_97 => (js_app (xs := s_97) 5 rfl (fun _ => fzO) (je_cat (fun _ => rdeO) (fun _ => rdeO) (je_cat (fun _ => rdeO) (fun _ => rdeV) (je_cat (fun _ => rdeV) (fun _ => rdeO) (je_item (rdeS 5 rfl) (je_sl 5 rfl (pv 5)) je_int) (je_list (ja_cons je_int ja_nil) (fun x_127 => [x_127.1]) (fun _ => (fzl_cons fzV fzl_nil)) (fun _ => Nat.le_of_ble_eq_true rfl))) (je_item (rdeS 5 rfl) (je_sl 5 rfl (pv 5)) je_int)) (je_list (ja_cons (je_neg je_int) ja_nil) (fun x_137 => [x_137.1]) (fun _ => (fzl_cons fzV fzl_nil)) (fun _ => Nat.le_of_ble_eq_true rfl))) (fun h => pe_bm PySem.F.plainAttrs_list PySem.F.slot_list_append PySem.F.type_list_append mt_append (pv 5) h) fun rows_141 => (js_app (xs := rows_141) 5 rfl (fun _ => fzO) (je_cat (fun _ => rdeO) (fun _ => rdeV) (je_list (ja_cons (je_mulK je_powK) ja_nil) (fun x_145 => [x_145.1]) (fun _ => (fzl_cons fzV fzl_nil)) (fun _ => Nat.le_of_ble_eq_true rfl)) (je_item (rdeS 5 rfl) (je_sl 5 rfl (pv 5)) je_int)) (fun h => pe_bm PySem.F.plainAttrs_list PySem.F.slot_list_append PySem.F.type_list_append mt_append (pv 5) h) fun rows_151 => (js_wk (.keep (.keep (.keep (.keep (.keep (.frz (.drop (.drop (.drop (.drop (.drop (.drop (.drop (.drop .nil)))))))))))))) (js_for (tl := (fun s_152 : Unit => [some (asn K H .val v_script), some (asn K H .val digits_6), some (asn K H .val s_20), some (asn K H .val tree_42), some (asn K H .val free_50), some (asn K H .val rows_151), none, none, none, none, none, none, none, none])) (s0 := ()) (ji_list (fun _ => rdeW (.inl rfl)) (je_nm 5 rfl (pv 5))) (pg_name (i := 7) sc_law.nd rfl (Or.inl rfl)) (tgt_name 7) (.keep (.keep (.keep (.keep (.keep (.keep (.drop (.drop (.drop (.drop (.drop (.drop (.drop (.drop .nil)))))))))))))) (fun x_153 s_152 => (js_for (tl := (fun s_155 : Unit => [some (asn K H .val v_script), some (asn K H .val digits_6), some (asn K H .val s_20), some (asn K H .val tree_42), some (asn K H .val free_50), some (asn K H .val rows_151), none, some (asn K H .val x_153), none, none, none, none, none, none])) (s0 := ()) (ji_range1 T.z_range je_int) (pg_name (i := 8) sc_law.nd rfl (Or.inl rfl)) (tgt_name 8) (.keep (.keep (.keep (.keep (.keep (.keep (.drop (.keep (.drop (.drop (.drop (.drop (.drop (.drop .nil)))))))))))))) (fun x_156 s_155 => (js_ifL (jt_not (jt_val (je_fn (ok__law_right T) (hr.mono (by decide)) T.m__law_right T.k__law_right T.b__law_right tk_of (ja_cons (je_ni 8 rfl (pv 8)) (ja_cons (je_nm 7 rfl (pv 7)) ja_nil)) (fun _ => (psl_cons (psV fzV) (psl_cons (psV fzV) psl_nil))) trivial))) (js_ret je_bl (fun _ => rfl)) (js_nilA rfl (.keep (.keep (.keep (.keep (.keep (.keep (.drop (.keep (.drop (.drop (.drop (.drop (.drop (.drop .nil))))))))))))))))) (fun s_155 => (js_nilA rfl (.keep (.keep (.keep (.keep (.keep (.keep (.drop (.drop (.drop (.drop (.drop (.drop (.drop (.drop .nil)))))))))))))))) hpo_of)) (fun s_152 => (js_set (i := 9) sc_law.nd rfl (je_mulK je_powK) fun far_166 => (js_for (tl := (fun s_168 : Unit => [some (asn K H .val v_script), some (asn K H .val digits_6), some (asn K H .val s_20), some (asn K H .val tree_42), some (asn K H .val free_50), some (asn K H .val rows_151), none, none, none, some (asn K H .val far_166), none, none, none, none])) (s0 := ()) (ji_range1 T.z_range je_int) (pg_name (i := 6) sc_law.nd rfl (Or.inl rfl)) (tgt_name 6) (.keep (.keep (.keep (.keep (.keep (.keep (.drop (.drop (.drop (.keep (.drop (.drop (.drop (.drop .nil)))))))))))))) (fun x_169 s_168 => (js_set (i := 10) sc_law.nd rfl (je_slice (fun _ => rdeV) (je_nm 1 rfl (pv 1)) (jo_some (je_add je_int (je_mulKl (je_ni 6 rfl (pv 6))))) (jo_some (je_add je_int (je_mulKl (je_ni 6 rfl (pv 6)))))) fun six_183 => (js_wk (.keep (.keep (.keep (.keep (.keep (.keep (.keep (.drop (.drop (.keep (.frz (.drop (.drop (.drop .nil)))))))))))))) (js_set (i := 7) sc_law.nd rfl (je_item (fun _ => rdeO) (je_list (ja_cons (je_nm 3 rfl (pv 3)) (ja_cons (je_nm 4 rfl (pv 4)) ja_nil)) (fun x_188 => [x_188.1, x_188.2.1]) (fun _ => (fzl_cons fzV (fzl_cons fzV fzl_nil))) (fun _ => Nat.le_of_ble_eq_true rfl)) (je_modK (je_ni 6 rfl (pv 6)))) fun row_192 => (js_setLc (i := 11) (own := [("sign", 12)]) rfl sc_law.nd rfl rfl (sw_true rfl rfl rfl rfl) (ji_list (fun _ => rdeW (.inl rfl)) (je_nm 7 rfl (pv 7))) (by show blkC ["script", "digits", "size", "tree", "free", "rows", "k", "row", "way", "far", "six", "shape", "sign", "labels"] (defScope st_law) _ _ = true; decide +kernel) (tgw_name 12) (fun i hi => by cases List.mem_singleton.mp hi; rfl) (Nat.le_of_ble_eq_true rfl) (fun _ _ => fzV) (fun _ => wipe1 _) (fun _ => .keep (.keep (.keep (.keep (.keep (.keep (.keep (.keep (.drop (.keep (.keep (.drop (.drop (.drop (.nil))))))))))))))) (fun s9 H9 C9 cl9 fp9 => pg_name (i := 12) sc_law.nd rfl (Or.inl rfl)) (fun x_193 s9 H9 C9 cl9 fp9 => jts_nil) (fun x_193 s9 H9 C9 cl9 fp9 => (je_intB T.z_int (je_gt (je_ni 12 rfl (pv 12)) je_int))) (fun shape_197 => (js_wk (.keep (.keep (.keep (.keep (.keep (.keep (.keep (.keep (.drop (.keep (.keep (.frz (.drop (.drop .nil)))))))))))))) (js_setLc (i := 13) (own := [("sign", 12)]) rfl sc_law.nd rfl rfl (sw_true rfl rfl rfl rfl) (ji_list (fun _ => rdeW (.inl rfl)) (je_nm 7 rfl (pv 7))) (by show blkC ["script", "digits", "size", "tree", "free", "rows", "k", "row", "way", "far", "six", "shape", "sign", "labels"] (defScope st_law) _ _ = true; decide +kernel) (tgw_name 12) (fun i hi => by cases List.mem_singleton.mp hi; rfl) (Nat.le_of_ble_eq_true rfl) (fun _ _ => fzV) (fun _ => wipe1 _) (fun _ => .keep (.keep (.keep (.keep (.keep (.keep (.keep (.keep (.drop (.keep (.keep (.keep (.drop (.drop (.nil))))))))))))))) (fun s9 H9 C9 cl9 fp9 => pg_name (i := 12) sc_law.nd rfl (Or.inl rfl)) (fun x_198 s9 H9 C9 cl9 fp9 => (jts_one (jt_gt (je_ni 12 rfl (pv 12)) je_int))) (fun x_198 s9 H9 C9 cl9 fp9 => (je_ni 12 rfl (pv 12))) (fun labels_201 => (js_wk (.keep (.keep (.keep (.keep (.keep (.keep (.keep (.keep (.drop (.keep (.keep (.keep (.drop (.frz (.nil))))))))))))))) (js_ifA (jt_not (jt_val (je_fn (ok__law_labelled_right T) (hr.mono (by decide)) T.m__law_labelled_right T.k__law_labelled_right T.b__law_labelled_right tk_of (ja_cons (je_nm 11 rfl (pv 11)) (ja_cons (je_nm 13 rfl (pv 13)) ja_nil)) (fun _ => (psl_cons (psB ((fun _ => rdV) _)) (psl_cons (psB ((fun _ => rdV) _)) psl_nil))) trivial))) (js_ret je_bl (fun _ => rfl)) (js_set (i := 11) sc_law.nd rfl (je_fn (ok__law_spoilt T) (hr.mono (by decide)) T.m__law_spoilt T.k__law_spoilt T.b__law_spoilt tk_of (ja_cons (je_nm 11 rfl (pv 11)) (ja_cons (je_list (ja_cons je_int (ja_cons je_int (ja_cons je_int (ja_cons (je_neg je_int) (ja_cons je_int (ja_cons (je_ni 9 rfl (pv 9)) (ja_cons je_int (ja_cons je_int ja_nil)))))))) (fun x_227 => [x_227.1, x_227.2.1, x_227.2.2.1, x_227.2.2.2.1, x_227.2.2.2.2.1, x_227.2.2.2.2.2.1, x_227.2.2.2.2.2.2.1, x_227.2.2.2.2.2.2.2.1]) (fun _ => (fzl_cons fzV (fzl_cons fzV (fzl_cons fzV (fzl_cons fzV (fzl_cons fzV (fzl_cons fzV (fzl_cons fzV (fzl_cons fzV fzl_nil))))))))) (fun _ => Nat.le_of_ble_eq_true rfl)) (ja_cons (je_slice (fun _ => rdeV) (je_nm 10 rfl (pv 10)) jo_none (jo_some je_int)) ja_nil))) (fun _ => (psl_cons (psB ((fun _ => rdV) _)) (psl_cons (psB ((fun _ => rdO) _)) (psl_cons (psB ((fun _ => rdO) _)) psl_nil)))) trivial) fun shape_239 => (js_wk (.keep (.keep (.keep (.keep (.keep (.keep (.keep (.keep (.drop (.keep (.keep (.frz (.drop (.keep (.nil))))))))))))))) (js_set (i := 13) sc_law.nd rfl (je_fn (ok__law_spoilt T) (hr.mono (by decide)) T.m__law_spoilt T.k__law_spoilt T.b__law_spoilt tk_of (ja_cons (je_nm 13 rfl (pv 13)) (ja_cons (je_list (ja_cons je_int (ja_cons je_int (ja_cons (je_neg je_int) (ja_cons (je_ni 9 rfl (pv 9)) (ja_cons (je_neg (je_ni 9 rfl (pv 9))) (ja_cons je_int (ja_cons je_int (ja_cons je_int ja_nil)))))))) (fun x_258 => [x_258.1, x_258.2.1, x_258.2.2.1, x_258.2.2.2.1, x_258.2.2.2.2.1, x_258.2.2.2.2.2.1, x_258.2.2.2.2.2.2.1, x_258.2.2.2.2.2.2.2.1]) (fun _ => (fzl_cons fzV (fzl_cons fzV (fzl_cons fzV (fzl_cons fzV (fzl_cons fzV (fzl_cons fzV (fzl_cons fzV (fzl_cons fzV fzl_nil))))))))) (fun _ => Nat.le_of_ble_eq_true rfl)) (ja_cons (je_slice (fun _ => rdeV) (je_nm 10 rfl (pv 10)) (jo_some je_int) jo_none) ja_nil))) (fun _ => (psl_cons (psB ((fun _ => rdV) _)) (psl_cons (psB ((fun _ => rdO) _)) (psl_cons (psB ((fun _ => rdO) _)) psl_nil)))) trivial) fun labels_270 => (js_wk (.keep (.keep (.keep (.keep (.keep (.keep (.keep (.keep (.drop (.keep (.keep (.keep (.drop (.frz (.nil))))))))))))))) (js_ifL (jt_not (jt_val (je_fn (ok__law_labelled_right T) (hr.mono (by decide)) T.m__law_labelled_right T.k__law_labelled_right T.b__law_labelled_right tk_of (ja_cons (je_nm 11 rfl (pv 11)) (ja_cons (je_nm 13 rfl (pv 13)) ja_nil)) (fun _ => (psl_cons (psB ((fun _ => rdV) _)) (psl_cons (psB ((fun _ => rdV) _)) psl_nil))) trivial))) (js_ret je_bl (fun _ => rfl)) (js_nilA rfl (.keep (.keep (.keep (.keep (.keep (.keep (.drop (.drop (.drop (.keep (.drop (.drop (.drop (.drop .nil))))))))))))))))))))))) (Nat.le_of_ble_eq_true rfl)))) (Nat.le_of_ble_eq_true rfl)))))) (fun s_168 => (js_ret (je_and (je_fn (ok__law_right T) (hr.mono (by decide)) T.m__law_right T.k__law_right T.b__law_right tk_of (ja_cons je_int (ja_cons (je_nm 3 rfl (pv 3)) ja_nil)) (fun _ => (psl_cons (psV fzV) (psl_cons (psV fzV) psl_nil))) trivial) (je_one (je_fn (ok__law_right T) (hr.mono (by decide)) T.m__law_right T.k__law_right T.b__law_right tk_of (ja_cons je_int (ja_cons (je_nm 4 rfl (pv 4)) ja_nil)) (fun _ => (psl_cons (psV fzV) (psl_cons (psV fzV) psl_nil))) trivial))) (fun _ => rfl))) hpo_of))) hpo_of))))) hpo_of)))))))))))
end
end K06
set_option maxRecDepth 100000
set_option maxHeartbeats 4000000
namespace K06
open PySem PySem.Spec PyProof.Rows L2 Mw

theorem all_mk {P : Program} {w : World} {K : PySem.W.Frag} {h : Heap} {mg : Str → Option Value} {fa : Addr} (X : K.In h) (G : h.Ns mainGlobals mg) (hfa : mg "law" = some (.ref fa))
    {f_checked_row : Addr} {od_checked_row an_checked_row : Option Addr} {sl_checked_row : Array (Option Value)} {oc_checked_row kV_checked_row dc_checked_row pm_checked_row cd_checked_row ct_checked_row : Value}
    {f_bad_place : Addr} {od_bad_place an_bad_place : Option Addr} {sl_bad_place : Array (Option Value)} {oc_bad_place kV_bad_place dc_bad_place pm_bad_place cd_bad_place ct_bad_place : Value}
    {f_shape_of : Addr} {od_shape_of an_shape_of : Option Addr} {sl_shape_of : Array (Option Value)} {oc_shape_of kV_shape_of dc_shape_of pm_shape_of cd_shape_of ct_shape_of : Value}
    {f_labels_of : Addr} {od_labels_of an_labels_of : Option Addr} {sl_labels_of : Array (Option Value)} {oc_labels_of kV_labels_of dc_labels_of pm_labels_of cd_labels_of ct_labels_of : Value}
    {f_labelled : Addr} {od_labelled an_labelled : Option Addr} {sl_labelled : Array (Option Value)} {oc_labelled kV_labelled dc_labelled pm_labelled cd_labelled ct_labelled : Value}
    {f__law_digits : Addr} {od__law_digits an__law_digits : Option Addr} {sl__law_digits : Array (Option Value)} {oc__law_digits kV__law_digits dc__law_digits pm__law_digits cd__law_digits ct__law_digits : Value}
    {f__law_drawn : Addr} {od__law_drawn an__law_drawn : Option Addr} {sl__law_drawn : Array (Option Value)} {oc__law_drawn kV__law_drawn dc__law_drawn pm__law_drawn cd__law_drawn ct__law_drawn : Value}
    {f__law_whole : Addr} {od__law_whole an__law_whole : Option Addr} {sl__law_whole : Array (Option Value)} {oc__law_whole kV__law_whole dc__law_whole pm__law_whole cd__law_whole ct__law_whole : Value}
    {f__law_row : Addr} {od__law_row an__law_row : Option Addr} {sl__law_row : Array (Option Value)} {oc__law_row kV__law_row dc__law_row pm__law_row cd__law_row ct__law_row : Value}
    {f__law_depths : Addr} {od__law_depths an__law_depths : Option Addr} {sl__law_depths : Array (Option Value)} {oc__law_depths kV__law_depths dc__law_depths pm__law_depths cd__law_depths ct__law_depths : Value}
    {f__law_signs : Addr} {od__law_signs an__law_signs : Option Addr} {sl__law_signs : Array (Option Value)} {oc__law_signs kV__law_signs dc__law_signs pm__law_signs cd__law_signs ct__law_signs : Value}
    {f__law_segment : Addr} {od__law_segment an__law_segment : Option Addr} {sl__law_segment : Array (Option Value)} {oc__law_segment kV__law_segment dc__law_segment pm__law_segment cd__law_segment ct__law_segment : Value}
    {f__law_bad_sign : Addr} {od__law_bad_sign an__law_bad_sign : Option Addr} {sl__law_bad_sign : Array (Option Value)} {oc__law_bad_sign kV__law_bad_sign dc__law_bad_sign pm__law_bad_sign cd__law_bad_sign ct__law_bad_sign : Value}
    {f__law_bad_place : Addr} {od__law_bad_place an__law_bad_place : Option Addr} {sl__law_bad_place : Array (Option Value)} {oc__law_bad_place kV__law_bad_place dc__law_bad_place pm__law_bad_place cd__law_bad_place ct__law_bad_place : Value}
    {f__law_bent_row : Addr} {od__law_bent_row an__law_bent_row : Option Addr} {sl__law_bent_row : Array (Option Value)} {oc__law_bent_row kV__law_bent_row dc__law_bent_row pm__law_bent_row cd__law_bent_row ct__law_bent_row : Value}
    {f__law_due : Addr} {od__law_due an__law_due : Option Addr} {sl__law_due : Array (Option Value)} {oc__law_due kV__law_due dc__law_due pm__law_due cd__law_due ct__law_due : Value}
    {f__law_told : Addr} {od__law_told an__law_told : Option Addr} {sl__law_told : Array (Option Value)} {oc__law_told kV__law_told dc__law_told pm__law_told cd__law_told ct__law_told : Value}
    {f__law_right : Addr} {od__law_right an__law_right : Option Addr} {sl__law_right : Array (Option Value)} {oc__law_right kV__law_right dc__law_right pm__law_right cd__law_right ct__law_right : Value}
    {f__law_labelled_due : Addr} {od__law_labelled_due an__law_labelled_due : Option Addr} {sl__law_labelled_due : Array (Option Value)} {oc__law_labelled_due kV__law_labelled_due dc__law_labelled_due pm__law_labelled_due cd__law_labelled_due ct__law_labelled_due : Value}
    {f__law_labelled_told : Addr} {od__law_labelled_told an__law_labelled_told : Option Addr} {sl__law_labelled_told : Array (Option Value)} {oc__law_labelled_told kV__law_labelled_told dc__law_labelled_told pm__law_labelled_told cd__law_labelled_told ct__law_labelled_told : Value}
    {f__law_labelled_right : Addr} {od__law_labelled_right an__law_labelled_right : Option Addr} {sl__law_labelled_right : Array (Option Value)} {oc__law_labelled_right kV__law_labelled_right dc__law_labelled_right pm__law_labelled_right cd__law_labelled_right ct__law_labelled_right : Value}
    {f__law_spoilt : Addr} {od__law_spoilt an__law_spoilt : Option Addr} {sl__law_spoilt : Array (Option Value)} {oc__law_spoilt kV__law_spoilt dc__law_spoilt pm__law_spoilt cd__law_spoilt ct__law_spoilt : Value}
    {f_law : Addr} {od_law an_law : Option Addr} {sl_law : Array (Option Value)} {oc_law kV_law dc_law pm_law cd_law ct_law : Value}
    {C_BadLabel : Addr}
    {C_BadNumber : Addr}
    {C_BadRow : Addr}
    {C_BadSign : Addr}
    {C_BadSlots : Addr}
    {C_PackError : Addr}
    {f_iBadLabel : Addr} {od_iBadLabel an_iBadLabel : Option Addr} {sl_iBadLabel : Array (Option Value)} {oc_iBadLabel kV_iBadLabel dc_iBadLabel pm_iBadLabel cd_iBadLabel ct_iBadLabel : Value}
    {nm_BadLabel q_BadLabel : Str} {N_BadLabel : Addr} {bs_BadLabel : List Value} {sn_BadLabel : List Str} {sub_BadLabel : List Value} {ab_BadLabel : Bool} {col_BadLabel : Option Bool} {dd_BadLabel : Option Addr} {k0_BadLabel k1_BadLabel k2_BadLabel k3_BadLabel k5_BadLabel : Option Value}
    {f_iBadNumber : Addr} {od_iBadNumber an_iBadNumber : Option Addr} {sl_iBadNumber : Array (Option Value)} {oc_iBadNumber kV_iBadNumber dc_iBadNumber pm_iBadNumber cd_iBadNumber ct_iBadNumber : Value}
    {nm_BadNumber q_BadNumber : Str} {N_BadNumber : Addr} {bs_BadNumber : List Value} {sn_BadNumber : List Str} {sub_BadNumber : List Value} {ab_BadNumber : Bool} {col_BadNumber : Option Bool} {dd_BadNumber : Option Addr} {k0_BadNumber k1_BadNumber k2_BadNumber k3_BadNumber k5_BadNumber : Option Value}
    {f_iBadSign : Addr} {od_iBadSign an_iBadSign : Option Addr} {sl_iBadSign : Array (Option Value)} {oc_iBadSign kV_iBadSign dc_iBadSign pm_iBadSign cd_iBadSign ct_iBadSign : Value}
    {nm_BadSign q_BadSign : Str} {N_BadSign : Addr} {bs_BadSign : List Value} {sn_BadSign : List Str} {sub_BadSign : List Value} {ab_BadSign : Bool} {col_BadSign : Option Bool} {dd_BadSign : Option Addr} {k0_BadSign k1_BadSign k2_BadSign k3_BadSign k5_BadSign : Option Value}
    (a_checked_row : PySem.W.nsIn K mainGlobals "checked_row" = some (some (.ref f_checked_row)))
    (l_checked_row : K.lookup f_checked_row = some ⟨oc_checked_row, od_checked_row, .func (PySem.W.fnOf "checked_row" "checked_row" (defArgs st_checked_row) (defBody st_checked_row) (defScope st_checked_row) .none kV_checked_row dc_checked_row pm_checked_row an_checked_row cd_checked_row ct_checked_row), sl_checked_row⟩)
    (c_checked_row : PySem.W.codeIn K cd_checked_row "checked_row" = true)
    (k_checked_row : PySem.W.keepIn K (.ref f_checked_row) = true)
    (a_bad_place : PySem.W.nsIn K mainGlobals "bad_place" = some (some (.ref f_bad_place)))
    (l_bad_place : K.lookup f_bad_place = some ⟨oc_bad_place, od_bad_place, .func (PySem.W.fnOf "bad_place" "bad_place" (defArgs st_bad_place) (defBody st_bad_place) (defScope st_bad_place) .none kV_bad_place dc_bad_place pm_bad_place an_bad_place cd_bad_place ct_bad_place), sl_bad_place⟩)
    (c_bad_place : PySem.W.codeIn K cd_bad_place "bad_place" = true)
    (k_bad_place : PySem.W.keepIn K (.ref f_bad_place) = true)
    (a_shape_of : PySem.W.nsIn K mainGlobals "shape_of" = some (some (.ref f_shape_of)))
    (l_shape_of : K.lookup f_shape_of = some ⟨oc_shape_of, od_shape_of, .func (PySem.W.fnOf "shape_of" "shape_of" (defArgs st_shape_of) (defBody st_shape_of) (defScope st_shape_of) .none kV_shape_of dc_shape_of pm_shape_of an_shape_of cd_shape_of ct_shape_of), sl_shape_of⟩)
    (c_shape_of : PySem.W.codeIn K cd_shape_of "shape_of" = true)
    (k_shape_of : PySem.W.keepIn K (.ref f_shape_of) = true)
    (a_labels_of : PySem.W.nsIn K mainGlobals "labels_of" = some (some (.ref f_labels_of)))
    (l_labels_of : K.lookup f_labels_of = some ⟨oc_labels_of, od_labels_of, .func (PySem.W.fnOf "labels_of" "labels_of" (defArgs st_labels_of) (defBody st_labels_of) (defScope st_labels_of) .none kV_labels_of dc_labels_of pm_labels_of an_labels_of cd_labels_of ct_labels_of), sl_labels_of⟩)
    (c_labels_of : PySem.W.codeIn K cd_labels_of "labels_of" = true)
    (k_labels_of : PySem.W.keepIn K (.ref f_labels_of) = true)
    (a_labelled : PySem.W.nsIn K mainGlobals "labelled" = some (some (.ref f_labelled)))
    (l_labelled : K.lookup f_labelled = some ⟨oc_labelled, od_labelled, .func (PySem.W.fnOf "labelled" "labelled" (defArgs st_labelled) (defBody st_labelled) (defScope st_labelled) .none kV_labelled dc_labelled pm_labelled an_labelled cd_labelled ct_labelled), sl_labelled⟩)
    (c_labelled : PySem.W.codeIn K cd_labelled "labelled" = true)
    (k_labelled : PySem.W.keepIn K (.ref f_labelled) = true)
    (a__law_digits : PySem.W.nsIn K mainGlobals "_law_digits" = some (some (.ref f__law_digits)))
    (l__law_digits : K.lookup f__law_digits = some ⟨oc__law_digits, od__law_digits, .func (PySem.W.fnOf "_law_digits" "_law_digits" (defArgs st__law_digits) (defBody st__law_digits) (defScope st__law_digits) .none kV__law_digits dc__law_digits pm__law_digits an__law_digits cd__law_digits ct__law_digits), sl__law_digits⟩)
    (c__law_digits : PySem.W.codeIn K cd__law_digits "_law_digits" = true)
    (k__law_digits : PySem.W.keepIn K (.ref f__law_digits) = true)
    (a__law_drawn : PySem.W.nsIn K mainGlobals "_law_drawn" = some (some (.ref f__law_drawn)))
    (l__law_drawn : K.lookup f__law_drawn = some ⟨oc__law_drawn, od__law_drawn, .func (PySem.W.fnOf "_law_drawn" "_law_drawn" (defArgs st__law_drawn) (defBody st__law_drawn) (defScope st__law_drawn) .none kV__law_drawn dc__law_drawn pm__law_drawn an__law_drawn cd__law_drawn ct__law_drawn), sl__law_drawn⟩)
    (c__law_drawn : PySem.W.codeIn K cd__law_drawn "_law_drawn" = true)
    (k__law_drawn : PySem.W.keepIn K (.ref f__law_drawn) = true)
    (a__law_whole : PySem.W.nsIn K mainGlobals "_law_whole" = some (some (.ref f__law_whole)))
    (l__law_whole : K.lookup f__law_whole = some ⟨oc__law_whole, od__law_whole, .func (PySem.W.fnOf "_law_whole" "_law_whole" (defArgs st__law_whole) (defBody st__law_whole) (defScope st__law_whole) .none kV__law_whole dc__law_whole pm__law_whole an__law_whole cd__law_whole ct__law_whole), sl__law_whole⟩)
    (c__law_whole : PySem.W.codeIn K cd__law_whole "_law_whole" = true)
    (k__law_whole : PySem.W.keepIn K (.ref f__law_whole) = true)
    (a__law_row : PySem.W.nsIn K mainGlobals "_law_row" = some (some (.ref f__law_row)))
    (l__law_row : K.lookup f__law_row = some ⟨oc__law_row, od__law_row, .func (PySem.W.fnOf "_law_row" "_law_row" (defArgs st__law_row) (defBody st__law_row) (defScope st__law_row) .none kV__law_row dc__law_row pm__law_row an__law_row cd__law_row ct__law_row), sl__law_row⟩)
    (c__law_row : PySem.W.codeIn K cd__law_row "_law_row" = true)
    (k__law_row : PySem.W.keepIn K (.ref f__law_row) = true)
    (a__law_depths : PySem.W.nsIn K mainGlobals "_law_depths" = some (some (.ref f__law_depths)))
    (l__law_depths : K.lookup f__law_depths = some ⟨oc__law_depths, od__law_depths, .func (PySem.W.fnOf "_law_depths" "_law_depths" (defArgs st__law_depths) (defBody st__law_depths) (defScope st__law_depths) .none kV__law_depths dc__law_depths pm__law_depths an__law_depths cd__law_depths ct__law_depths), sl__law_depths⟩)
    (c__law_depths : PySem.W.codeIn K cd__law_depths "_law_depths" = true)
    (k__law_depths : PySem.W.keepIn K (.ref f__law_depths) = true)
    (a__law_signs : PySem.W.nsIn K mainGlobals "_law_signs" = some (some (.ref f__law_signs)))
    (l__law_signs : K.lookup f__law_signs = some ⟨oc__law_signs, od__law_signs, .func (PySem.W.fnOf "_law_signs" "_law_signs" (defArgs st__law_signs) (defBody st__law_signs) (defScope st__law_signs) .none kV__law_signs dc__law_signs pm__law_signs an__law_signs cd__law_signs ct__law_signs), sl__law_signs⟩)
    (c__law_signs : PySem.W.codeIn K cd__law_signs "_law_signs" = true)
    (k__law_signs : PySem.W.keepIn K (.ref f__law_signs) = true)
    (a__law_segment : PySem.W.nsIn K mainGlobals "_law_segment" = some (some (.ref f__law_segment)))
    (l__law_segment : K.lookup f__law_segment = some ⟨oc__law_segment, od__law_segment, .func (PySem.W.fnOf "_law_segment" "_law_segment" (defArgs st__law_segment) (defBody st__law_segment) (defScope st__law_segment) .none kV__law_segment dc__law_segment pm__law_segment an__law_segment cd__law_segment ct__law_segment), sl__law_segment⟩)
    (c__law_segment : PySem.W.codeIn K cd__law_segment "_law_segment" = true)
    (k__law_segment : PySem.W.keepIn K (.ref f__law_segment) = true)
    (a__law_bad_sign : PySem.W.nsIn K mainGlobals "_law_bad_sign" = some (some (.ref f__law_bad_sign)))
    (l__law_bad_sign : K.lookup f__law_bad_sign = some ⟨oc__law_bad_sign, od__law_bad_sign, .func (PySem.W.fnOf "_law_bad_sign" "_law_bad_sign" (defArgs st__law_bad_sign) (defBody st__law_bad_sign) (defScope st__law_bad_sign) .none kV__law_bad_sign dc__law_bad_sign pm__law_bad_sign an__law_bad_sign cd__law_bad_sign ct__law_bad_sign), sl__law_bad_sign⟩)
    (c__law_bad_sign : PySem.W.codeIn K cd__law_bad_sign "_law_bad_sign" = true)
    (k__law_bad_sign : PySem.W.keepIn K (.ref f__law_bad_sign) = true)
    (a__law_bad_place : PySem.W.nsIn K mainGlobals "_law_bad_place" = some (some (.ref f__law_bad_place)))
    (l__law_bad_place : K.lookup f__law_bad_place = some ⟨oc__law_bad_place, od__law_bad_place, .func (PySem.W.fnOf "_law_bad_place" "_law_bad_place" (defArgs st__law_bad_place) (defBody st__law_bad_place) (defScope st__law_bad_place) .none kV__law_bad_place dc__law_bad_place pm__law_bad_place an__law_bad_place cd__law_bad_place ct__law_bad_place), sl__law_bad_place⟩)
    (c__law_bad_place : PySem.W.codeIn K cd__law_bad_place "_law_bad_place" = true)
    (k__law_bad_place : PySem.W.keepIn K (.ref f__law_bad_place) = true)
    (a__law_bent_row : PySem.W.nsIn K mainGlobals "_law_bent_row" = some (some (.ref f__law_bent_row)))
    (l__law_bent_row : K.lookup f__law_bent_row = some ⟨oc__law_bent_row, od__law_bent_row, .func (PySem.W.fnOf "_law_bent_row" "_law_bent_row" (defArgs st__law_bent_row) (defBody st__law_bent_row) (defScope st__law_bent_row) .none kV__law_bent_row dc__law_bent_row pm__law_bent_row an__law_bent_row cd__law_bent_row ct__law_bent_row), sl__law_bent_row⟩)
    (c__law_bent_row : PySem.W.codeIn K cd__law_bent_row "_law_bent_row" = true)
    (k__law_bent_row : PySem.W.keepIn K (.ref f__law_bent_row) = true)
    (a__law_due : PySem.W.nsIn K mainGlobals "_law_due" = some (some (.ref f__law_due)))
    (l__law_due : K.lookup f__law_due = some ⟨oc__law_due, od__law_due, .func (PySem.W.fnOf "_law_due" "_law_due" (defArgs st__law_due) (defBody st__law_due) (defScope st__law_due) .none kV__law_due dc__law_due pm__law_due an__law_due cd__law_due ct__law_due), sl__law_due⟩)
    (c__law_due : PySem.W.codeIn K cd__law_due "_law_due" = true)
    (k__law_due : PySem.W.keepIn K (.ref f__law_due) = true)
    (a__law_told : PySem.W.nsIn K mainGlobals "_law_told" = some (some (.ref f__law_told)))
    (l__law_told : K.lookup f__law_told = some ⟨oc__law_told, od__law_told, .func (PySem.W.fnOf "_law_told" "_law_told" (defArgs st__law_told) (defBody st__law_told) (defScope st__law_told) .none kV__law_told dc__law_told pm__law_told an__law_told cd__law_told ct__law_told), sl__law_told⟩)
    (c__law_told : PySem.W.codeIn K cd__law_told "_law_told" = true)
    (k__law_told : PySem.W.keepIn K (.ref f__law_told) = true)
    (a__law_right : PySem.W.nsIn K mainGlobals "_law_right" = some (some (.ref f__law_right)))
    (l__law_right : K.lookup f__law_right = some ⟨oc__law_right, od__law_right, .func (PySem.W.fnOf "_law_right" "_law_right" (defArgs st__law_right) (defBody st__law_right) (defScope st__law_right) .none kV__law_right dc__law_right pm__law_right an__law_right cd__law_right ct__law_right), sl__law_right⟩)
    (c__law_right : PySem.W.codeIn K cd__law_right "_law_right" = true)
    (k__law_right : PySem.W.keepIn K (.ref f__law_right) = true)
    (a__law_labelled_due : PySem.W.nsIn K mainGlobals "_law_labelled_due" = some (some (.ref f__law_labelled_due)))
    (l__law_labelled_due : K.lookup f__law_labelled_due = some ⟨oc__law_labelled_due, od__law_labelled_due, .func (PySem.W.fnOf "_law_labelled_due" "_law_labelled_due" (defArgs st__law_labelled_due) (defBody st__law_labelled_due) (defScope st__law_labelled_due) .none kV__law_labelled_due dc__law_labelled_due pm__law_labelled_due an__law_labelled_due cd__law_labelled_due ct__law_labelled_due), sl__law_labelled_due⟩)
    (c__law_labelled_due : PySem.W.codeIn K cd__law_labelled_due "_law_labelled_due" = true)
    (k__law_labelled_due : PySem.W.keepIn K (.ref f__law_labelled_due) = true)
    (a__law_labelled_told : PySem.W.nsIn K mainGlobals "_law_labelled_told" = some (some (.ref f__law_labelled_told)))
    (l__law_labelled_told : K.lookup f__law_labelled_told = some ⟨oc__law_labelled_told, od__law_labelled_told, .func (PySem.W.fnOf "_law_labelled_told" "_law_labelled_told" (defArgs st__law_labelled_told) (defBody st__law_labelled_told) (defScope st__law_labelled_told) .none kV__law_labelled_told dc__law_labelled_told pm__law_labelled_told an__law_labelled_told cd__law_labelled_told ct__law_labelled_told), sl__law_labelled_told⟩)
    (c__law_labelled_told : PySem.W.codeIn K cd__law_labelled_told "_law_labelled_told" = true)
    (k__law_labelled_told : PySem.W.keepIn K (.ref f__law_labelled_told) = true)
    (a__law_labelled_right : PySem.W.nsIn K mainGlobals "_law_labelled_right" = some (some (.ref f__law_labelled_right)))
    (l__law_labelled_right : K.lookup f__law_labelled_right = some ⟨oc__law_labelled_right, od__law_labelled_right, .func (PySem.W.fnOf "_law_labelled_right" "_law_labelled_right" (defArgs st__law_labelled_right) (defBody st__law_labelled_right) (defScope st__law_labelled_right) .none kV__law_labelled_right dc__law_labelled_right pm__law_labelled_right an__law_labelled_right cd__law_labelled_right ct__law_labelled_right), sl__law_labelled_right⟩)
    (c__law_labelled_right : PySem.W.codeIn K cd__law_labelled_right "_law_labelled_right" = true)
    (k__law_labelled_right : PySem.W.keepIn K (.ref f__law_labelled_right) = true)
    (a__law_spoilt : PySem.W.nsIn K mainGlobals "_law_spoilt" = some (some (.ref f__law_spoilt)))
    (l__law_spoilt : K.lookup f__law_spoilt = some ⟨oc__law_spoilt, od__law_spoilt, .func (PySem.W.fnOf "_law_spoilt" "_law_spoilt" (defArgs st__law_spoilt) (defBody st__law_spoilt) (defScope st__law_spoilt) .none kV__law_spoilt dc__law_spoilt pm__law_spoilt an__law_spoilt cd__law_spoilt ct__law_spoilt), sl__law_spoilt⟩)
    (c__law_spoilt : PySem.W.codeIn K cd__law_spoilt "_law_spoilt" = true)
    (k__law_spoilt : PySem.W.keepIn K (.ref f__law_spoilt) = true)
    (a_law : PySem.W.nsIn K mainGlobals "law" = some (some (.ref f_law)))
    (l_law : K.lookup f_law = some ⟨oc_law, od_law, .func (PySem.W.fnOf "law" "law" (defArgs st_law) (defBody st_law) (defScope st_law) .none kV_law dc_law pm_law an_law cd_law ct_law), sl_law⟩)
    (c_law : PySem.W.codeIn K cd_law "law" = true)
    (k_law : PySem.W.keepIn K (.ref f_law) = true)
    (aC_BadLabel : PySem.W.nsIn K mainGlobals "BadLabel" = some (some (.ref C_BadLabel)))
    (aC_BadNumber : PySem.W.nsIn K mainGlobals "BadNumber" = some (some (.ref C_BadNumber)))
    (aC_BadRow : PySem.W.nsIn K mainGlobals "BadRow" = some (some (.ref C_BadRow)))
    (aC_BadSign : PySem.W.nsIn K mainGlobals "BadSign" = some (some (.ref C_BadSign)))
    (aC_BadSlots : PySem.W.nsIn K mainGlobals "BadSlots" = some (some (.ref C_BadSlots)))
    (aC_PackError : PySem.W.nsIn K mainGlobals "PackError" = some (some (.ref C_PackError)))
    (x_BadLabel : K.lookup C_BadLabel = some (excClassObj nm_BadLabel q_BadLabel C_BadLabel N_BadLabel bs_BadLabel [.ref C_PackError, .type "ValueError", .type "Exception", .type "BaseException", .type "object"] true sn_BadLabel sub_BadLabel ab_BadLabel col_BadLabel dd_BadLabel k0_BadLabel k1_BadLabel k2_BadLabel k3_BadLabel k5_BadLabel "ValueError.__new__"))
    (sa_BadLabel : PySem.W.findIn K (.ref C_BadLabel) "__setattr__" = some (some (.builtin "object.__setattr__")))
    (ga_BadLabel : PySem.W.findIn K (.ref C_BadLabel) "__getattribute__" = some (some (.builtin "BaseException.__getattribute__")))
    (gg_BadLabel : PySem.W.findIn K (.ref C_BadLabel) "__getattr__" = some none)
    (hc_BadLabel : PySem.W.findIn K (.ref C_BadLabel) "__class__" = some (some (.builtin "object.__class__")))
    (no_BadLabel : PySem.W.findIn K (.ref C_BadLabel) "label" = some none)
    (iC_BadLabel : PySem.W.findIn K (.ref C_BadLabel) "__init__" = some (some (.ref f_iBadLabel)))
    (nf_BadLabel_place : PySem.W.findIn K (.ref C_BadLabel) "place" = some none)
    (nf_BadLabel_value : PySem.W.findIn K (.ref C_BadLabel) "value" = some none)
    (tI_BadLabel : PySem.W.typeIn K (.ref f_iBadLabel) = some (.type "function"))
    (kC_BadLabel : PySem.W.keepIn K (.ref C_BadLabel) = true)
    (exC_BadLabel : PySem.W.subIn K (.ref C_BadLabel) (.type "BaseException") = some true)
    (veC_BadLabel : PySem.W.subIn K (.ref C_BadLabel) (.type "ValueError") = some true)
    (tyC_BadLabel : PySem.W.typeIn K (.ref C_BadLabel) = some (.type "type"))
    (hdC_BadLabel : PySem.W.hasDictIn K C_BadLabel = true)
    (mro_BadLabel : PySem.W.mroIn K C_BadLabel (.type "object") = some true)
    (sub_BadLabel : PySem.W.subIn K (.ref C_BadLabel) (.ref C_BadLabel) = some true)
    (par_BadLabel : PySem.W.subIn K (.ref C_BadLabel) (.ref C_PackError) = some true)
    (li_BadLabel : K.lookup f_iBadLabel = some ⟨oc_iBadLabel, od_iBadLabel, .func (PySem.W.fnOf "__init__" "BadLabel.__init__" (defArgs st_iBadLabel) (defBody st_iBadLabel) (defScope st_iBadLabel) .none kV_iBadLabel dc_iBadLabel pm_iBadLabel an_iBadLabel cd_iBadLabel ct_iBadLabel), sl_iBadLabel⟩)
    (ci_BadLabel : PySem.W.codeIn K cd_iBadLabel "BadLabel.__init__" = true)
    (ki_BadLabel : PySem.W.keepIn K (.ref f_iBadLabel) = true)
    (x_BadNumber : K.lookup C_BadNumber = some (excClassObj nm_BadNumber q_BadNumber C_BadNumber N_BadNumber bs_BadNumber [.ref C_PackError, .type "ValueError", .type "Exception", .type "BaseException", .type "object"] true sn_BadNumber sub_BadNumber ab_BadNumber col_BadNumber dd_BadNumber k0_BadNumber k1_BadNumber k2_BadNumber k3_BadNumber k5_BadNumber "ValueError.__new__"))
    (sa_BadNumber : PySem.W.findIn K (.ref C_BadNumber) "__setattr__" = some (some (.builtin "object.__setattr__")))
    (ga_BadNumber : PySem.W.findIn K (.ref C_BadNumber) "__getattribute__" = some (some (.builtin "BaseException.__getattribute__")))
    (gg_BadNumber : PySem.W.findIn K (.ref C_BadNumber) "__getattr__" = some none)
    (hc_BadNumber : PySem.W.findIn K (.ref C_BadNumber) "__class__" = some (some (.builtin "object.__class__")))
    (no_BadNumber : PySem.W.findIn K (.ref C_BadNumber) "value" = some none)
    (iC_BadNumber : PySem.W.findIn K (.ref C_BadNumber) "__init__" = some (some (.ref f_iBadNumber)))
    (nf_BadNumber_label : PySem.W.findIn K (.ref C_BadNumber) "label" = some none)
    (nf_BadNumber_place : PySem.W.findIn K (.ref C_BadNumber) "place" = some none)
    (tI_BadNumber : PySem.W.typeIn K (.ref f_iBadNumber) = some (.type "function"))
    (kC_BadNumber : PySem.W.keepIn K (.ref C_BadNumber) = true)
    (exC_BadNumber : PySem.W.subIn K (.ref C_BadNumber) (.type "BaseException") = some true)
    (veC_BadNumber : PySem.W.subIn K (.ref C_BadNumber) (.type "ValueError") = some true)
    (tyC_BadNumber : PySem.W.typeIn K (.ref C_BadNumber) = some (.type "type"))
    (hdC_BadNumber : PySem.W.hasDictIn K C_BadNumber = true)
    (mro_BadNumber : PySem.W.mroIn K C_BadNumber (.type "object") = some true)
    (sub_BadNumber : PySem.W.subIn K (.ref C_BadNumber) (.ref C_BadNumber) = some true)
    (par_BadNumber : PySem.W.subIn K (.ref C_BadNumber) (.ref C_PackError) = some true)
    (li_BadNumber : K.lookup f_iBadNumber = some ⟨oc_iBadNumber, od_iBadNumber, .func (PySem.W.fnOf "__init__" "BadNumber.__init__" (defArgs st_iBadNumber) (defBody st_iBadNumber) (defScope st_iBadNumber) .none kV_iBadNumber dc_iBadNumber pm_iBadNumber an_iBadNumber cd_iBadNumber ct_iBadNumber), sl_iBadNumber⟩)
    (ci_BadNumber : PySem.W.codeIn K cd_iBadNumber "BadNumber.__init__" = true)
    (ki_BadNumber : PySem.W.keepIn K (.ref f_iBadNumber) = true)
    (x_BadSign : K.lookup C_BadSign = some (excClassObj nm_BadSign q_BadSign C_BadSign N_BadSign bs_BadSign [.ref C_PackError, .type "ValueError", .type "Exception", .type "BaseException", .type "object"] true sn_BadSign sub_BadSign ab_BadSign col_BadSign dd_BadSign k0_BadSign k1_BadSign k2_BadSign k3_BadSign k5_BadSign "ValueError.__new__"))
    (sa_BadSign : PySem.W.findIn K (.ref C_BadSign) "__setattr__" = some (some (.builtin "object.__setattr__")))
    (ga_BadSign : PySem.W.findIn K (.ref C_BadSign) "__getattribute__" = some (some (.builtin "BaseException.__getattribute__")))
    (gg_BadSign : PySem.W.findIn K (.ref C_BadSign) "__getattr__" = some none)
    (hc_BadSign : PySem.W.findIn K (.ref C_BadSign) "__class__" = some (some (.builtin "object.__class__")))
    (no_BadSign : PySem.W.findIn K (.ref C_BadSign) "place" = some none)
    (iC_BadSign : PySem.W.findIn K (.ref C_BadSign) "__init__" = some (some (.ref f_iBadSign)))
    (nf_BadSign_label : PySem.W.findIn K (.ref C_BadSign) "label" = some none)
    (nf_BadSign_value : PySem.W.findIn K (.ref C_BadSign) "value" = some none)
    (tI_BadSign : PySem.W.typeIn K (.ref f_iBadSign) = some (.type "function"))
    (kC_BadSign : PySem.W.keepIn K (.ref C_BadSign) = true)
    (exC_BadSign : PySem.W.subIn K (.ref C_BadSign) (.type "BaseException") = some true)
    (veC_BadSign : PySem.W.subIn K (.ref C_BadSign) (.type "ValueError") = some true)
    (tyC_BadSign : PySem.W.typeIn K (.ref C_BadSign) = some (.type "type"))
    (hdC_BadSign : PySem.W.hasDictIn K C_BadSign = true)
    (mro_BadSign : PySem.W.mroIn K C_BadSign (.type "object") = some true)
    (sub_BadSign : PySem.W.subIn K (.ref C_BadSign) (.ref C_BadSign) = some true)
    (par_BadSign : PySem.W.subIn K (.ref C_BadSign) (.ref C_PackError) = some true)
    (li_BadSign : K.lookup f_iBadSign = some ⟨oc_iBadSign, od_iBadSign, .func (PySem.W.fnOf "__init__" "BadSign.__init__" (defArgs st_iBadSign) (defBody st_iBadSign) (defScope st_iBadSign) .none kV_iBadSign dc_iBadSign pm_iBadSign an_iBadSign cd_iBadSign ct_iBadSign), sl_iBadSign⟩)
    (ci_BadSign : PySem.W.codeIn K cd_iBadSign "BadSign.__init__" = true)
    (ki_BadSign : PySem.W.keepIn K (.ref f_iBadSign) = true)
    (qh_BadRow : PySem.W.hasDictIn K C_BadRow = true)
    (qt_BadRow : PySem.W.typeIn K (.ref C_BadRow) = some (.type "type"))
    (qh_BadSlots : PySem.W.hasDictIn K C_BadSlots = true)
    (qt_BadSlots : PySem.W.typeIn K (.ref C_BadSlots) = some (.type "type"))
    (qh_PackError : PySem.W.hasDictIn K C_PackError = true)
    (qt_PackError : PySem.W.typeIn K (.ref C_PackError) = some (.type "type"))
    (qb_PackError : PySem.W.subIn K (.ref C_PackError) (.type "BaseException") = some true)
    (sb_BadLabel_BadNumber : PySem.W.subIn K (.ref C_BadLabel) (.ref C_BadNumber) = some false)
    (sb_BadLabel_BadRow : PySem.W.subIn K (.ref C_BadLabel) (.ref C_BadRow) = some false)
    (sb_BadLabel_BadSign : PySem.W.subIn K (.ref C_BadLabel) (.ref C_BadSign) = some false)
    (sb_BadLabel_BadSlots : PySem.W.subIn K (.ref C_BadLabel) (.ref C_BadSlots) = some false)
    (sb_BadNumber_BadLabel : PySem.W.subIn K (.ref C_BadNumber) (.ref C_BadLabel) = some false)
    (sb_BadNumber_BadRow : PySem.W.subIn K (.ref C_BadNumber) (.ref C_BadRow) = some false)
    (sb_BadNumber_BadSign : PySem.W.subIn K (.ref C_BadNumber) (.ref C_BadSign) = some false)
    (sb_BadNumber_BadSlots : PySem.W.subIn K (.ref C_BadNumber) (.ref C_BadSlots) = some false)
    (sb_BadSign_BadLabel : PySem.W.subIn K (.ref C_BadSign) (.ref C_BadLabel) = some false)
    (sb_BadSign_BadNumber : PySem.W.subIn K (.ref C_BadSign) (.ref C_BadNumber) = some false)
    (sb_BadSign_BadRow : PySem.W.subIn K (.ref C_BadSign) (.ref C_BadRow) = some false)
    (sb_BadSign_BadSlots : PySem.W.subIn K (.ref C_BadSign) (.ref C_BadSlots) = some false)
    (sn : PySem.W.specialIn K (.builtin "object.__class__") "__get__" = some (some (.builtin "getset_descriptor.__get__")))
    (sk : PySem.W.takesIn K (.builtin "object.__class__") = some true)
    (z_ValueError : PySem.W.nsIn K mainGlobals "ValueError" = some none)
    (z_abs : PySem.W.nsIn K mainGlobals "abs" = some none)
    (z_bool : PySem.W.nsIn K mainGlobals "bool" = some none)
    (z_enumerate : PySem.W.nsIn K mainGlobals "enumerate" = some none)
    (z_int : PySem.W.nsIn K mainGlobals "int" = some none)
    (z_isinstance : PySem.W.nsIn K mainGlobals "isinstance" = some none)
    (z_len : PySem.W.nsIn K mainGlobals "len" = some none)
    (z_list : PySem.W.nsIn K mainGlobals "list" = some none)
    (z_max : PySem.W.nsIn K mainGlobals "max" = some none)
    (z_range : PySem.W.nsIn K mainGlobals "range" = some none)
    (z_sum : PySem.W.nsIn K mainGlobals "sum" = some none) :
    ∃ eg : EK → Addr, ∃ fd : FuncData, (∀ (s : Shared) (v : Value), BindsTo s fd ⟨[v], []⟩ [("script", v)]) ∧ ∀ base : Heap, K.In base → base.Ns mainGlobals mg → FnOk P w K mg base (L2.CX P w) 7 fa fd ["script"] (spL K eg m_law) := by
  have e := hfa.symm.trans (PySem.W.mg_of X G a_law)
  cases e
  have e_BadLabel : ErrTxt K C_BadLabel C_PackError f_iBadLabel "label" := ⟨⟨_, _, _, _, _, _, _, _, _, _, _, _, _, _, x_BadLabel⟩, sa_BadLabel, ga_BadLabel, gg_BadLabel, hc_BadLabel, no_BadLabel, iC_BadLabel, tI_BadLabel, kC_BadLabel, exC_BadLabel, veC_BadLabel, tyC_BadLabel, hdC_BadLabel, mro_BadLabel, sub_BadLabel, par_BadLabel⟩
  have e_BadNumber : ErrTxt K C_BadNumber C_PackError f_iBadNumber "value" := ⟨⟨_, _, _, _, _, _, _, _, _, _, _, _, _, _, x_BadNumber⟩, sa_BadNumber, ga_BadNumber, gg_BadNumber, hc_BadNumber, no_BadNumber, iC_BadNumber, tI_BadNumber, kC_BadNumber, exC_BadNumber, veC_BadNumber, tyC_BadNumber, hdC_BadNumber, mro_BadNumber, sub_BadNumber, par_BadNumber⟩
  have e_BadSign : ErrTxt K C_BadSign C_PackError f_iBadSign "place" := ⟨⟨_, _, _, _, _, _, _, _, _, _, _, _, _, _, x_BadSign⟩, sa_BadSign, ga_BadSign, gg_BadSign, hc_BadSign, no_BadSign, iC_BadSign, tI_BadSign, kC_BadSign, exC_BadSign, veC_BadSign, tyC_BadSign, hdC_BadSign, mro_BadSign, sub_BadSign, par_BadSign⟩
  let T : Tx K mg (fun k => match k with | .BadLabel => C_BadLabel | .BadNumber => C_BadNumber | .BadRow => C_BadRow | .BadSign => C_BadSign | .BadSlots => C_BadSlots | .PackError => C_PackError | _ => 0) := { a_checked_row := f_checked_row, d_checked_row := _, u_checked_row := fun_mk (st := st_checked_row) l_checked_row c_checked_row k_checked_row, b_checked_row := (fun_mk (st := st_checked_row) l_checked_row c_checked_row k_checked_row).binds (ps := ["row"]) (fun _ _ _ _ _ _ us hl => match us, hl with | [_], _ => rfl), m_checked_row := PySem.W.mg_of X G a_checked_row, k_checked_row := k_checked_row, a_bad_place := f_bad_place, d_bad_place := _, u_bad_place := fun_mk (st := st_bad_place) l_bad_place c_bad_place k_bad_place, b_bad_place := (fun_mk (st := st_bad_place) l_bad_place c_bad_place k_bad_place).binds (ps := ["row"]) (fun _ _ _ _ _ _ us hl => match us, hl with | [_], _ => rfl), m_bad_place := PySem.W.mg_of X G a_bad_place, k_bad_place := k_bad_place, a_shape_of := f_shape_of, d_shape_of := _, u_shape_of := fun_mk (st := st_shape_of) l_shape_of c_shape_of k_shape_of, b_shape_of := (fun_mk (st := st_shape_of) l_shape_of c_shape_of k_shape_of).binds (ps := ["row"]) (fun _ _ _ _ _ _ us hl => match us, hl with | [_], _ => rfl), m_shape_of := PySem.W.mg_of X G a_shape_of, k_shape_of := k_shape_of, a_labels_of := f_labels_of, d_labels_of := _, u_labels_of := fun_mk (st := st_labels_of) l_labels_of c_labels_of k_labels_of, b_labels_of := (fun_mk (st := st_labels_of) l_labels_of c_labels_of k_labels_of).binds (ps := ["row"]) (fun _ _ _ _ _ _ us hl => match us, hl with | [_], _ => rfl), m_labels_of := PySem.W.mg_of X G a_labels_of, k_labels_of := k_labels_of, a_labelled := f_labelled, d_labelled := _, u_labelled := fun_mk (st := st_labelled) l_labelled c_labelled k_labelled, b_labelled := (fun_mk (st := st_labelled) l_labelled c_labelled k_labelled).binds (ps := ["shape", "labels"]) (fun _ _ _ _ _ _ us hl => match us, hl with | [_, _], _ => rfl), m_labelled := PySem.W.mg_of X G a_labelled, k_labelled := k_labelled, a__law_digits := f__law_digits, d__law_digits := _, u__law_digits := fun_mk (st := st__law_digits) l__law_digits c__law_digits k__law_digits, b__law_digits := (fun_mk (st := st__law_digits) l__law_digits c__law_digits k__law_digits).binds (ps := ["script", "many"]) (fun _ _ _ _ _ _ us hl => match us, hl with | [_, _], _ => rfl), m__law_digits := PySem.W.mg_of X G a__law_digits, k__law_digits := k__law_digits, a__law_drawn := f__law_drawn, d__law_drawn := _, u__law_drawn := fun_mk (st := st__law_drawn) l__law_drawn c__law_drawn k__law_drawn, b__law_drawn := (fun_mk (st := st__law_drawn) l__law_drawn c__law_drawn k__law_drawn).binds (ps := ["digits", "size"]) (fun _ _ _ _ _ _ us hl => match us, hl with | [_, _], _ => rfl), m__law_drawn := PySem.W.mg_of X G a__law_drawn, k__law_drawn := k__law_drawn, a__law_whole := f__law_whole, d__law_whole := _, u__law_whole := fun_mk (st := st__law_whole) l__law_whole c__law_whole k__law_whole, b__law_whole := (fun_mk (st := st__law_whole) l__law_whole c__law_whole k__law_whole).binds (ps := ["told"]) (fun _ _ _ _ _ _ us hl => match us, hl with | [_], _ => rfl), m__law_whole := PySem.W.mg_of X G a__law_whole, k__law_whole := k__law_whole, a__law_row := f__law_row, d__law_row := _, u__law_row := fun_mk (st := st__law_row) l__law_row c__law_row k__law_row, b__law_row := (fun_mk (st := st__law_row) l__law_row c__law_row k__law_row).binds (ps := ["told", "due"]) (fun _ _ _ _ _ _ us hl => match us, hl with | [_, _], _ => rfl), m__law_row := PySem.W.mg_of X G a__law_row, k__law_row := k__law_row, a__law_depths := f__law_depths, d__law_depths := _, u__law_depths := fun_mk (st := st__law_depths) l__law_depths c__law_depths k__law_depths, b__law_depths := (fun_mk (st := st__law_depths) l__law_depths c__law_depths k__law_depths).binds (ps := ["pairs"]) (fun _ _ _ _ _ _ us hl => match us, hl with | [_], _ => rfl), m__law_depths := PySem.W.mg_of X G a__law_depths, k__law_depths := k__law_depths, a__law_signs := f__law_signs, d__law_signs := _, u__law_signs := fun_mk (st := st__law_signs) l__law_signs c__law_signs k__law_signs, b__law_signs := (fun_mk (st := st__law_signs) l__law_signs c__law_signs k__law_signs).binds (ps := ["pairs"]) (fun _ _ _ _ _ _ us hl => match us, hl with | [_], _ => rfl), m__law_signs := PySem.W.mg_of X G a__law_signs, k__law_signs := k__law_signs, a__law_segment := f__law_segment, d__law_segment := _, u__law_segment := fun_mk (st := st__law_segment) l__law_segment c__law_segment k__law_segment, b__law_segment := (fun_mk (st := st__law_segment) l__law_segment c__law_segment k__law_segment).binds (ps := ["digits", "at", "size"]) (fun _ _ _ _ _ _ us hl => match us, hl with | [_, _, _], _ => rfl), m__law_segment := PySem.W.mg_of X G a__law_segment, k__law_segment := k__law_segment, a__law_bad_sign := f__law_bad_sign, d__law_bad_sign := _, u__law_bad_sign := fun_mk (st := st__law_bad_sign) l__law_bad_sign c__law_bad_sign k__law_bad_sign, b__law_bad_sign := (fun_mk (st := st__law_bad_sign) l__law_bad_sign c__law_bad_sign k__law_bad_sign).binds (ps := ["row"]) (fun _ _ _ _ _ _ us hl => match us, hl with | [_], _ => rfl), m__law_bad_sign := PySem.W.mg_of X G a__law_bad_sign, k__law_bad_sign := k__law_bad_sign, a__law_bad_place := f__law_bad_place, d__law_bad_place := _, u__law_bad_place := fun_mk (st := st__law_bad_place) l__law_bad_place c__law_bad_place k__law_bad_place, b__law_bad_place := (fun_mk (st := st__law_bad_place) l__law_bad_place c__law_bad_place k__law_bad_place).binds (ps := ["row"]) (fun _ _ _ _ _ _ us hl => match us, hl with | [_], _ => rfl), m__law_bad_place := PySem.W.mg_of X G a__law_bad_place, k__law_bad_place := k__law_bad_place, a__law_bent_row := f__law_bent_row, d__law_bent_row := _, u__law_bent_row := fun_mk (st := st__law_bent_row) l__law_bent_row c__law_bent_row k__law_bent_row, b__law_bent_row := (fun_mk (st := st__law_bent_row) l__law_bent_row c__law_bent_row k__law_bent_row).binds (ps := ["row", "five"]) (fun _ _ _ _ _ _ us hl => match us, hl with | [_, _], _ => rfl), m__law_bent_row := PySem.W.mg_of X G a__law_bent_row, k__law_bent_row := k__law_bent_row, a__law_due := f__law_due, d__law_due := _, u__law_due := fun_mk (st := st__law_due) l__law_due c__law_due k__law_due, b__law_due := (fun_mk (st := st__law_due) l__law_due c__law_due k__law_due).binds (ps := ["way", "row"]) (fun _ _ _ _ _ _ us hl => match us, hl with | [_, _], _ => rfl), m__law_due := PySem.W.mg_of X G a__law_due, k__law_due := k__law_due, a__law_told := f__law_told, d__law_told := _, u__law_told := fun_mk (st := st__law_told) l__law_told c__law_told k__law_told, b__law_told := (fun_mk (st := st__law_told) l__law_told c__law_told k__law_told).binds (ps := ["way", "handed"]) (fun _ _ _ _ _ _ us hl => match us, hl with | [_, _], _ => rfl), m__law_told := PySem.W.mg_of X G a__law_told, k__law_told := k__law_told, a__law_right := f__law_right, d__law_right := _, u__law_right := fun_mk (st := st__law_right) l__law_right c__law_right k__law_right, b__law_right := (fun_mk (st := st__law_right) l__law_right c__law_right k__law_right).binds (ps := ["way", "row"]) (fun _ _ _ _ _ _ us hl => match us, hl with | [_, _], _ => rfl), m__law_right := PySem.W.mg_of X G a__law_right, k__law_right := k__law_right, a__law_labelled_due := f__law_labelled_due, d__law_labelled_due := _, u__law_labelled_due := fun_mk (st := st__law_labelled_due) l__law_labelled_due c__law_labelled_due k__law_labelled_due, b__law_labelled_due := (fun_mk (st := st__law_labelled_due) l__law_labelled_due c__law_labelled_due k__law_labelled_due).binds (ps := ["shape", "labels"]) (fun _ _ _ _ _ _ us hl => match us, hl with | [_, _], _ => rfl), m__law_labelled_due := PySem.W.mg_of X G a__law_labelled_due, k__law_labelled_due := k__law_labelled_due, a__law_labelled_told := f__law_labelled_told, d__law_labelled_told := _, u__law_labelled_told := fun_mk (st := st__law_labelled_told) l__law_labelled_told c__law_labelled_told k__law_labelled_told, b__law_labelled_told := (fun_mk (st := st__law_labelled_told) l__law_labelled_told c__law_labelled_told k__law_labelled_told).binds (ps := ["shape", "labels"]) (fun _ _ _ _ _ _ us hl => match us, hl with | [_, _], _ => rfl), m__law_labelled_told := PySem.W.mg_of X G a__law_labelled_told, k__law_labelled_told := k__law_labelled_told, a__law_labelled_right := f__law_labelled_right, d__law_labelled_right := _, u__law_labelled_right := fun_mk (st := st__law_labelled_right) l__law_labelled_right c__law_labelled_right k__law_labelled_right, b__law_labelled_right := (fun_mk (st := st__law_labelled_right) l__law_labelled_right c__law_labelled_right k__law_labelled_right).binds (ps := ["shape", "labels"]) (fun _ _ _ _ _ _ us hl => match us, hl with | [_, _], _ => rfl), m__law_labelled_right := PySem.W.mg_of X G a__law_labelled_right, k__law_labelled_right := k__law_labelled_right, a__law_spoilt := f__law_spoilt, d__law_spoilt := _, u__law_spoilt := fun_mk (st := st__law_spoilt) l__law_spoilt c__law_spoilt k__law_spoilt, b__law_spoilt := (fun_mk (st := st__law_spoilt) l__law_spoilt c__law_spoilt k__law_spoilt).binds (ps := ["row", "members", "three"]) (fun _ _ _ _ _ _ us hl => match us, hl with | [_, _, _], _ => rfl), m__law_spoilt := PySem.W.mg_of X G a__law_spoilt, k__law_spoilt := k__law_spoilt, a_law := fa, d_law := _, u_law := fun_mk (st := st_law) l_law c_law k_law, b_law := (fun_mk (st := st_law) l_law c_law k_law).binds (ps := ["script"]) (fun _ _ _ _ _ _ us hl => match us, hl with | [_], _ => rfl), m_law := PySem.W.mg_of X G a_law, k_law := k_law, ia_BadLabel := f_iBadLabel, id_BadLabel := _, iu_BadLabel := fun_mk (st := st_iBadLabel) li_BadLabel ci_BadLabel ki_BadLabel, ib_BadLabel := (fun_mk (st := st_iBadLabel) li_BadLabel ci_BadLabel ki_BadLabel).binds (ps := ["self", "label"]) (fun _ _ _ _ _ _ us hl => match us, hl with | [_, _], _ => rfl), in_BadLabel := iC_BadLabel, it_BadLabel := tI_BadLabel, oex_BadLabel := e_BadLabel.oex, ino_BadLabel := no_BadLabel, xc_BadLabel := e_BadLabel.xc sn sk, xf_BadLabel := e_BadLabel.xf, no_BadLabel_label := no_BadLabel, no_BadLabel_place := nf_BadLabel_place, no_BadLabel_value := nf_BadLabel_value, xm_BadLabel_PackError := PySem.W.exm_ref qb_PackError qh_PackError qt_PackError par_BadLabel, xk_BadLabel_BadLabel := kit_ref sub_BadLabel hdC_BadLabel tyC_BadLabel sub_BadLabel, xk_BadLabel_BadNumber := kit_ref sub_BadLabel hdC_BadNumber tyC_BadNumber sb_BadLabel_BadNumber, xk_BadLabel_BadRow := kit_ref sub_BadLabel qh_BadRow qt_BadRow sb_BadLabel_BadRow, xk_BadLabel_BadSign := kit_ref sub_BadLabel hdC_BadSign tyC_BadSign sb_BadLabel_BadSign, xk_BadLabel_BadSlots := kit_ref sub_BadLabel qh_BadSlots qt_BadSlots sb_BadLabel_BadSlots, xk_BadLabel_ValueError := kit_ve (by decide +kernel) veC_BadLabel, ia_BadNumber := f_iBadNumber, id_BadNumber := _, iu_BadNumber := fun_mk (st := st_iBadNumber) li_BadNumber ci_BadNumber ki_BadNumber, ib_BadNumber := (fun_mk (st := st_iBadNumber) li_BadNumber ci_BadNumber ki_BadNumber).binds (ps := ["self", "value"]) (fun _ _ _ _ _ _ us hl => match us, hl with | [_, _], _ => rfl), in_BadNumber := iC_BadNumber, it_BadNumber := tI_BadNumber, oex_BadNumber := e_BadNumber.oex, ino_BadNumber := no_BadNumber, xc_BadNumber := e_BadNumber.xc sn sk, xf_BadNumber := e_BadNumber.xf, no_BadNumber_label := nf_BadNumber_label, no_BadNumber_place := nf_BadNumber_place, no_BadNumber_value := no_BadNumber, xm_BadNumber_PackError := PySem.W.exm_ref qb_PackError qh_PackError qt_PackError par_BadNumber, xk_BadNumber_BadLabel := kit_ref sub_BadNumber hdC_BadLabel tyC_BadLabel sb_BadNumber_BadLabel, xk_BadNumber_BadNumber := kit_ref sub_BadNumber hdC_BadNumber tyC_BadNumber sub_BadNumber, xk_BadNumber_BadRow := kit_ref sub_BadNumber qh_BadRow qt_BadRow sb_BadNumber_BadRow, xk_BadNumber_BadSign := kit_ref sub_BadNumber hdC_BadSign tyC_BadSign sb_BadNumber_BadSign, xk_BadNumber_BadSlots := kit_ref sub_BadNumber qh_BadSlots qt_BadSlots sb_BadNumber_BadSlots, xk_BadNumber_ValueError := kit_ve (by decide +kernel) veC_BadNumber, ia_BadSign := f_iBadSign, id_BadSign := _, iu_BadSign := fun_mk (st := st_iBadSign) li_BadSign ci_BadSign ki_BadSign, ib_BadSign := (fun_mk (st := st_iBadSign) li_BadSign ci_BadSign ki_BadSign).binds (ps := ["self", "place"]) (fun _ _ _ _ _ _ us hl => match us, hl with | [_, _], _ => rfl), in_BadSign := iC_BadSign, it_BadSign := tI_BadSign, oex_BadSign := e_BadSign.oex, ino_BadSign := no_BadSign, xc_BadSign := e_BadSign.xc sn sk, xf_BadSign := e_BadSign.xf, no_BadSign_label := nf_BadSign_label, no_BadSign_place := no_BadSign, no_BadSign_value := nf_BadSign_value, xm_BadSign_PackError := PySem.W.exm_ref qb_PackError qh_PackError qt_PackError par_BadSign, xk_BadSign_BadLabel := kit_ref sub_BadSign hdC_BadLabel tyC_BadLabel sb_BadSign_BadLabel, xk_BadSign_BadNumber := kit_ref sub_BadSign hdC_BadNumber tyC_BadNumber sb_BadSign_BadNumber, xk_BadSign_BadRow := kit_ref sub_BadSign qh_BadRow qt_BadRow sb_BadSign_BadRow, xk_BadSign_BadSign := kit_ref sub_BadSign hdC_BadSign tyC_BadSign sub_BadSign, xk_BadSign_BadSlots := kit_ref sub_BadSign qh_BadSlots qt_BadSlots sb_BadSign_BadSlots, xk_BadSign_ValueError := kit_ve (by decide +kernel) veC_BadSign, g_BadLabel := PySem.W.mg_of X G aC_BadLabel, g_BadNumber := PySem.W.mg_of X G aC_BadNumber, g_BadRow := PySem.W.mg_of X G aC_BadRow, g_BadSign := PySem.W.mg_of X G aC_BadSign, g_BadSlots := PySem.W.mg_of X G aC_BadSlots, g_PackError := PySem.W.mg_of X G aC_PackError, z_ValueError := PySem.W.mg_none_of X G z_ValueError, z_abs := PySem.W.mg_none_of X G z_abs, z_bool := PySem.W.mg_none_of X G z_bool, z_enumerate := PySem.W.mg_none_of X G z_enumerate, z_int := PySem.W.mg_none_of X G z_int, z_isinstance := PySem.W.mg_none_of X G z_isinstance, z_len := PySem.W.mg_none_of X G z_len, z_list := PySem.W.mg_none_of X G z_list, z_max := PySem.W.mg_none_of X G z_max, z_range := PySem.W.mg_none_of X G z_range, z_sum := PySem.W.mg_none_of X G z_sum }
  exact ⟨_, PySem.W.fnOf "law" "law" (defArgs st_law) (defBody st_law) (defScope st_law) .none kV_law dc_law pm_law an_law cd_law ct_law, fun s v => .of_eq rfl, fun base _ _ => ok_law (P := P) (w := w) (base := base) T⟩
end K06
open PySem PySem.W PyProof.Rows
set_option maxRecDepth 100000 in
set_option maxHeartbeats 0 in
theorem PySem.Challenge.cw_packedtrees_k06_tree_rows_judged_holds : PySem.Challenge.rw_packedtrees_k06_tree_rows_judged.Holds := by
  w_on; o_law; k_head; (case hw => w_witness2)
  k_fill
  refine Mw.walk_ex (k := 7) (l := PySem.Challenge.rw_packedtrees_k06_tree_rows_judged) (m := K06.m_law) rfl rfl ⟨rfl, by decide, by decide⟩ (fun w h Y => PySem.W.kIn_of Y) ?F K06.law_true
  case F =>
    intro w mg fa h KX G hmg
    refine' K06.all_mk KX G hmg ?a_checked_row ?l_checked_row ?c_checked_row ?k_checked_row ?a_bad_place ?l_bad_place ?c_bad_place ?k_bad_place ?a_shape_of ?l_shape_of ?c_shape_of ?k_shape_of ?a_labels_of ?l_labels_of ?c_labels_of ?k_labels_of ?a_labelled ?l_labelled ?c_labelled ?k_labelled ?a__law_digits ?l__law_digits ?c__law_digits ?k__law_digits ?a__law_drawn ?l__law_drawn ?c__law_drawn ?k__law_drawn ?a__law_whole ?l__law_whole ?c__law_whole ?k__law_whole ?a__law_row ?l__law_row ?c__law_row ?k__law_row ?a__law_depths ?l__law_depths ?c__law_depths ?k__law_depths ?a__law_signs ?l__law_signs ?c__law_signs ?k__law_signs ?a__law_segment ?l__law_segment ?c__law_segment ?k__law_segment ?a__law_bad_sign ?l__law_bad_sign ?c__law_bad_sign ?k__law_bad_sign ?a__law_bad_place ?l__law_bad_place ?c__law_bad_place ?k__law_bad_place ?a__law_bent_row ?l__law_bent_row ?c__law_bent_row ?k__law_bent_row ?a__law_due ?l__law_due ?c__law_due ?k__law_due ?a__law_told ?l__law_told ?c__law_told ?k__law_told ?a__law_right ?l__law_right ?c__law_right ?k__law_right ?a__law_labelled_due ?l__law_labelled_due ?c__law_labelled_due ?k__law_labelled_due ?a__law_labelled_told ?l__law_labelled_told ?c__law_labelled_told ?k__law_labelled_told ?a__law_labelled_right ?l__law_labelled_right ?c__law_labelled_right ?k__law_labelled_right ?a__law_spoilt ?l__law_spoilt ?c__law_spoilt ?k__law_spoilt ?a_law ?l_law ?c_law ?k_law ?aC_BadLabel ?aC_BadNumber ?aC_BadRow ?aC_BadSign ?aC_BadSlots ?aC_PackError ?x_BadLabel ?sa_BadLabel ?ga_BadLabel ?gg_BadLabel ?hc_BadLabel ?no_BadLabel ?iC_BadLabel ?nf_BadLabel_place ?nf_BadLabel_value ?tI_BadLabel ?kC_BadLabel ?exC_BadLabel ?veC_BadLabel ?tyC_BadLabel ?hdC_BadLabel ?mro_BadLabel ?sub_BadLabel ?par_BadLabel ?li_BadLabel ?ci_BadLabel ?ki_BadLabel ?x_BadNumber ?sa_BadNumber ?ga_BadNumber ?gg_BadNumber ?hc_BadNumber ?no_BadNumber ?iC_BadNumber ?nf_BadNumber_label ?nf_BadNumber_place ?tI_BadNumber ?kC_BadNumber ?exC_BadNumber ?veC_BadNumber ?tyC_BadNumber ?hdC_BadNumber ?mro_BadNumber ?sub_BadNumber ?par_BadNumber ?li_BadNumber ?ci_BadNumber ?ki_BadNumber ?x_BadSign ?sa_BadSign ?ga_BadSign ?gg_BadSign ?hc_BadSign ?no_BadSign ?iC_BadSign ?nf_BadSign_label ?nf_BadSign_value ?tI_BadSign ?kC_BadSign ?exC_BadSign ?veC_BadSign ?tyC_BadSign ?hdC_BadSign ?mro_BadSign ?sub_BadSign ?par_BadSign ?li_BadSign ?ci_BadSign ?ki_BadSign ?qh_BadRow ?qt_BadRow ?qh_BadSlots ?qt_BadSlots ?qh_PackError ?qt_PackError ?qb_PackError ?sb_BadLabel_BadNumber ?sb_BadLabel_BadRow ?sb_BadLabel_BadSign ?sb_BadLabel_BadSlots ?sb_BadNumber_BadLabel ?sb_BadNumber_BadRow ?sb_BadNumber_BadSign ?sb_BadNumber_BadSlots ?sb_BadSign_BadLabel ?sb_BadSign_BadNumber ?sb_BadSign_BadRow ?sb_BadSign_BadSlots ?sn ?sk ?z_ValueError ?z_abs ?z_bool ?z_enumerate ?z_int ?z_isinstance ?z_len ?z_list ?z_max ?z_range ?z_sum
    (case a_checked_row => k_is)
    (case l_checked_row => k_is)
    (case c_checked_row => k_is)
    (case k_checked_row => k_is)
    (case a_bad_place => k_is)
    (case l_bad_place => k_is)
    (case c_bad_place => k_is)
    (case k_bad_place => k_is)
    (case a_shape_of => k_is)
    (case l_shape_of => k_is)
    (case c_shape_of => k_is)
    (case k_shape_of => k_is)
    (case a_labels_of => k_is)
    (case l_labels_of => k_is)
    (case c_labels_of => k_is)
    (case k_labels_of => k_is)
    (case a_labelled => k_is)
    (case l_labelled => k_is)
    (case c_labelled => k_is)
    (case k_labelled => k_is)
    (case a__law_digits => k_is)
    (case l__law_digits => k_is)
    (case c__law_digits => k_is)
    (case k__law_digits => k_is)
    (case a__law_drawn => k_is)
    (case l__law_drawn => k_is)
    (case c__law_drawn => k_is)
    (case k__law_drawn => k_is)
    (case a__law_whole => k_is)
    (case l__law_whole => k_is)
    (case c__law_whole => k_is)
    (case k__law_whole => k_is)
    (case a__law_row => k_is)
    (case l__law_row => k_is)
    (case c__law_row => k_is)
    (case k__law_row => k_is)
    (case a__law_depths => k_is)
    (case l__law_depths => k_is)
    (case c__law_depths => k_is)
    (case k__law_depths => k_is)
    (case a__law_signs => k_is)
    (case l__law_signs => k_is)
    (case c__law_signs => k_is)
    (case k__law_signs => k_is)
    (case a__law_segment => k_is)
    (case l__law_segment => k_is)
    (case c__law_segment => k_is)
    (case k__law_segment => k_is)
    (case a__law_bad_sign => k_is)
    (case l__law_bad_sign => k_is)
    (case c__law_bad_sign => k_is)
    (case k__law_bad_sign => k_is)
    (case a__law_bad_place => k_is)
    (case l__law_bad_place => k_is)
    (case c__law_bad_place => k_is)
    (case k__law_bad_place => k_is)
    (case a__law_bent_row => k_is)
    (case l__law_bent_row => k_is)
    (case c__law_bent_row => k_is)
    (case k__law_bent_row => k_is)
    (case a__law_due => k_is)
    (case l__law_due => k_is)
    (case c__law_due => k_is)
    (case k__law_due => k_is)
    (case a__law_told => k_is)
    (case l__law_told => k_is)
    (case c__law_told => k_is)
    (case k__law_told => k_is)
    (case a__law_right => k_is)
    (case l__law_right => k_is)
    (case c__law_right => k_is)
    (case k__law_right => k_is)
    (case a__law_labelled_due => k_is)
    (case l__law_labelled_due => k_is)
    (case c__law_labelled_due => k_is)
    (case k__law_labelled_due => k_is)
    (case a__law_labelled_told => k_is)
    (case l__law_labelled_told => k_is)
    (case c__law_labelled_told => k_is)
    (case k__law_labelled_told => k_is)
    (case a__law_labelled_right => k_is)
    (case l__law_labelled_right => k_is)
    (case c__law_labelled_right => k_is)
    (case k__law_labelled_right => k_is)
    (case a__law_spoilt => k_is)
    (case l__law_spoilt => k_is)
    (case c__law_spoilt => k_is)
    (case k__law_spoilt => k_is)
    (case a_law => k_is)
    (case l_law => k_is)
    (case c_law => k_is)
    (case k_law => k_is)
    (case aC_BadLabel => k_is)
    (case aC_BadNumber => k_is)
    (case aC_BadRow => k_is)
    (case aC_BadSign => k_is)
    (case aC_BadSlots => k_is)
    (case aC_PackError => k_is)
    (case x_BadLabel => k_is)
    (case sa_BadLabel => k_is)
    (case ga_BadLabel => k_is)
    (case gg_BadLabel => k_is)
    (case hc_BadLabel => k_is)
    (case no_BadLabel => k_is)
    (case iC_BadLabel => k_is)
    (case nf_BadLabel_place => k_is)
    (case nf_BadLabel_value => k_is)
    (case tI_BadLabel => k_is)
    (case kC_BadLabel => k_is)
    (case exC_BadLabel => k_is)
    (case veC_BadLabel => k_is)
    (case tyC_BadLabel => k_is)
    (case hdC_BadLabel => k_is)
    (case mro_BadLabel => k_is)
    (case sub_BadLabel => first | rfl | k_is)
    (case par_BadLabel => k_is)
    (case li_BadLabel => k_is)
    (case ci_BadLabel => k_is)
    (case ki_BadLabel => k_is)
    (case x_BadNumber => k_is)
    (case sa_BadNumber => k_is)
    (case ga_BadNumber => k_is)
    (case gg_BadNumber => k_is)
    (case hc_BadNumber => k_is)
    (case no_BadNumber => k_is)
    (case iC_BadNumber => k_is)
    (case nf_BadNumber_label => k_is)
    (case nf_BadNumber_place => k_is)
    (case tI_BadNumber => k_is)
    (case kC_BadNumber => k_is)
    (case exC_BadNumber => k_is)
    (case veC_BadNumber => k_is)
    (case tyC_BadNumber => k_is)
    (case hdC_BadNumber => k_is)
    (case mro_BadNumber => k_is)
    (case sub_BadNumber => first | rfl | k_is)
    (case par_BadNumber => k_is)
    (case li_BadNumber => k_is)
    (case ci_BadNumber => k_is)
    (case ki_BadNumber => k_is)
    (case x_BadSign => k_is)
    (case sa_BadSign => k_is)
    (case ga_BadSign => k_is)
    (case gg_BadSign => k_is)
    (case hc_BadSign => k_is)
    (case no_BadSign => k_is)
    (case iC_BadSign => k_is)
    (case nf_BadSign_label => k_is)
    (case nf_BadSign_value => k_is)
    (case tI_BadSign => k_is)
    (case kC_BadSign => k_is)
    (case exC_BadSign => k_is)
    (case veC_BadSign => k_is)
    (case tyC_BadSign => k_is)
    (case hdC_BadSign => k_is)
    (case mro_BadSign => k_is)
    (case sub_BadSign => first | rfl | k_is)
    (case par_BadSign => k_is)
    (case li_BadSign => k_is)
    (case ci_BadSign => k_is)
    (case ki_BadSign => k_is)
    (case qh_BadRow => k_is)
    (case qt_BadRow => k_is)
    (case qh_BadSlots => k_is)
    (case qt_BadSlots => k_is)
    (case qh_PackError => k_is)
    (case qt_PackError => k_is)
    (case qb_PackError => k_is)
    (case sb_BadLabel_BadNumber => k_is)
    (case sb_BadLabel_BadRow => k_is)
    (case sb_BadLabel_BadSign => k_is)
    (case sb_BadLabel_BadSlots => k_is)
    (case sb_BadNumber_BadLabel => k_is)
    (case sb_BadNumber_BadRow => k_is)
    (case sb_BadNumber_BadSign => k_is)
    (case sb_BadNumber_BadSlots => k_is)
    (case sb_BadSign_BadLabel => k_is)
    (case sb_BadSign_BadNumber => k_is)
    (case sb_BadSign_BadRow => k_is)
    (case sb_BadSign_BadSlots => k_is)
    (case sn => k_is)
    (case sk => k_is)
    (case z_ValueError => k_is)
    (case z_abs => k_is)
    (case z_bool => k_is)
    (case z_enumerate => k_is)
    (case z_int => k_is)
    (case z_isinstance => k_is)
    (case z_len => k_is)
    (case z_list => k_is)
    (case z_max => k_is)
    (case z_range => k_is)
    (case z_sum => k_is)

