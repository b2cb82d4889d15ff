import PyProof.Rows.All
import Wide.All
import OpenK.AllK
import Wide.FinOn
import HandS.ForMost
import HandS.Exc
import HandS.ExcInit
import HandS.ExcField
import HandS.ExcIs
import HandS.ExcOwn
import HandS.WordsExc
import HandS.TryMany
import HandS.TryOnly
import HandS.IsInst
import HandS.Flow
import HandS.Wide
import HandS.Conv
import KE.DataEq
import HandS.ExcCtx
import HandS.HotCalls
import HandS.SetFor
import HandS.Style
import HandS.Small
import HandS.Property
import HandS.TupAny
import HandS.Zip
import HandS.NoneIn
import OpenK.KMeth
import HandS.SlotsOwn
import HandS.ClsMeth
import PySem.Challenge.RW_packedtrees_k03_binary_there_and_back
set_option Elab.async false
set_option linter.all false
set_option maxRecDepth 100000
set_option maxHeartbeats 4000000
/-! Mw: Python code as a function of plain data (its mirror), and that the code computes its mirror.
A mirror hands back Out: a value, an error of the package, or nothing that is known (bad). -/
namespace Mw
open PySem PySem.Spec PyProof.Rows L2

abbrev Sl := L2.St
/-! ### mirrors' results -/
inductive EK where
  | PackError | BadTree | BadText | BadSign | BadRow | BadBinary | BadCode | BadSlots | BadQuestion | NoNode | BadLabel | BadNumber | NoAnswer | Hidden | Unsettled
  | BadEdit | RootEdit | Inside | BadScript | NothingToUndo | NothingToRedo | BadWord | NoWord | BadHead | BadPart | NotTree | WrongHead | NotWorld | NotTaken | BadPaper
  | BadWidth | NoRule | NoName | BadLetter | TooLong | TooMany | BadField | BadTape | Lost | BadKind | NotOfKind | BadPrices
  deriving DecidableEq

/-- an error: its class, its fields (none: the class has no __init__ of its own) -/
structure Err where
  k : EK
  fs : Option (List (Str × V))

inductive Out (α : Type) where
  | ok (a : α)
  | err (e : Err)
  | bad

namespace Out
variable {α β : Type}
def bind (m : Out α) (f : α → Out β) : Out β := match m with
  | ok a => f a
  | err e => err e
  | bad => bad
def wp (m : Out α) (Q : α → Prop) (E : Err → Prop) : Prop := match m with
  | ok a => Q a
  | err e => E e
  | bad => False
@[simp] theorem bind_ok (a : α) (f : α → Out β) : bind (ok a) f = f a := rfl
@[simp] theorem bind_err (e : Err) (f : α → Out β) : bind (err e : Out α) f = err e := rfl
@[simp] theorem bind_bad (f : α → Out β) : bind (bad : Out α) f = bad := rfl
theorem wp_bind {m : Out α} {f : α → Out β} {Q : β → Prop} {E : Err → Prop} (h : (bind m f).wp Q E) : m.wp (fun a => (f a).wp Q E) E := by
  cases m with
  | ok a => exact h
  | err e => exact h
  | bad => exact h
theorem wp_mono {m : Out α} {Q Q' : α → Prop} {E E' : Err → Prop} (h : m.wp Q E) (hq : ∀ a, m = ok a → Q a → Q' a) (he : ∀ e, m = err e → E e → E' e) : m.wp Q' E' := by
  cases m with
  | ok a => exact hq a rfl h
  | err e => exact he e rfl h
  | bad => exact h
end Out

/-! ### heaps: what is hidden -/
def hide (O : List Addr) (H : Hp) : Hp := fun a => if a ∈ O then none else H a
theorem hide_some {O : List Addr} {H : Hp} {a : Addr} {o : HO} (h : hide O H a = some o) : a ∉ O ∧ H a = some o := by
  unfold hide at h
  split at h
  · cases h
  · rename_i n
    exact ⟨n, h⟩
theorem hide_of {O : List Addr} {H : Hp} {a : Addr} (h : a ∉ O) : hide O H a = H a := if_neg h
theorem hide_in {O : List Addr} {H : Hp} {a : Addr} (h : a ∈ O) : hide O H a = none := if_pos h
theorem hide_le {O : List Addr} {H : Hp} : Same (hide O H) H := fun _ _ h => (hide_some h).2
theorem hide_nil {H : Hp} : hide [] H = H := by
  funext a
  exact if_neg (by simp)
/-- the fields of instances that stay as they were made -/
def immNames : List (List Str) := [["need", "rise", "pairs", "mid", "counts"], ["above", "marks", "below"], ["of_whole", "of_parts", "of_heads", "opens_to", "closings_to"], ["partial", "question", "answer"], ["first_labels", "label_rules"]]
/-- what may be owned: what may be written -/
def mutO : HO → Bool
  | .lst _ => true
  | .dK _ => true
  | .dT _ => true
  | .set _ _ => true
  | .ins _ _ fs => !immNames.contains (fs.map (·.1))
  | .own _ => true
  | _ => false
def MutA (H : Hp) (a : Addr) : Prop := ∃ o, H a = some o ∧ mutO o = true

/-! ### assertions about a value -/
/-- P: what stays as it is; H: the heap; F: what is owned -/
structure Asn where
  p : Hp → Hp → List Addr → V → Prop
  st : ∀ {P P' H H' : Hp} {F : List Addr} {v : V}, Same P P' → (∀ a ∈ F, ∀ o, H a = some o → H' a = some o) → p P H F v → p P' H' F v

/-- how a type's values stand in the heap; how they stand where their mutable parts are owned -/
class Py (α : Type) where
  rep : PySem.W.Frag → Hp → V → α → Prop
  mono : ∀ {K : PySem.W.Frag} {H H' : Hp} {v : V} {x : α}, Same H H' → rep K H v x → rep K H' v x
  own : PySem.W.Frag → Hp → Hp → List Addr → V → α → Prop
  own_st : ∀ {K : PySem.W.Frag} {P P' H H' : Hp} {F : List Addr} {v : V} {x : α}, Same P P' → (∀ a ∈ F, ∀ o, H a = some o → H' a = some o) → own K P H F v x → own K P' H' F v x
  own_rep : ∀ {K : PySem.W.Frag} {P P' H : Hp} {F : List Addr} {v : V} {x : α}, Same P P' → (∀ a ∈ F, ∀ o, H a = some o → P' a = some o) → own K P H F v x → rep K P' v x
/-- a type whose own parts are nothing -/
@[reducible] def Py.flat {α : Type} (rep : PySem.W.Frag → Hp → V → α → Prop) (mono : ∀ {K : PySem.W.Frag} {H H' : Hp} {v : V} {x : α}, Same H H' → rep K H v x → rep K H' v x) : Py α where
  rep := rep
  mono := mono
  own := fun K P _ F v x => F = [] ∧ rep K P v x
  own_st := fun s _ h => ⟨h.1, mono s h.2⟩
  own_rep := fun s _ h => mono s h.2

/-- what is seen does not lean on what may be written: it may be seen in a part -/
class PyI (α : Type) [Py α] : Prop where
  imm : ∀ {K : PySem.W.Frag} {H : Hp} {O : List Addr} {v : V} {x : α}, (∀ a ∈ O, ∀ o, H a = some o → mutO o = true) → Py.rep K H v x → Py.rep K (hide O H) v x
/-- what is seen does not lean on the heap -/
class PyS (α : Type) [Py α] : Prop where
  any : ∀ {K K' : PySem.W.Frag} {H H' : Hp} {v : V} {x : α}, Py.rep K H v x → Py.rep K' H' v x
instance {α : Type} [Py α] [PyS α] : PyI α := ⟨fun _ h => PyS.any h⟩

instance : Py Int := Py.flat (fun _ _ v x => v = .int x) (fun _ h => h)
instance : PyS Int := ⟨fun h => h⟩
instance : Py Bool := Py.flat (fun _ _ v x => v = .bl x) (fun _ h => h)
instance : PyS Bool := ⟨fun h => h⟩
instance : Py Unit := Py.flat (fun _ _ v _ => v = .non) (fun _ h => h)
instance : PyS Unit := ⟨fun h => h⟩
instance : Py Str := Py.flat (fun _ _ v x => v = .str x) (fun _ h => h)
instance : PyS Str := ⟨fun h => h⟩

abbrev Reps {α : Type} [Py α] (K : PySem.W.Frag) (H : Hp) : List V → List α → Prop := Paired fun v x => Py.rep K H v x
theorem Reps.mono {α : Type} [Py α] {K : PySem.W.Frag} {H H' : Hp} {vs : List V} {xs : List α} (s : Same H H') (r : Reps K H vs xs) : Reps K H' vs xs := Paired.mapP r fun _ _ => Py.mono s
instance {α : Type} [Py α] : Py (List α) where
  rep := fun K H v xs => ∃ a vs, v = .ref a ∧ H a = some (.lst vs) ∧ Reps K H vs xs
  mono := fun s ⟨a, vs, e, h, r⟩ => ⟨a, vs, e, s _ _ h, r.mono s⟩
  own := fun K P H F v xs => ∃ a vs, v = .ref a ∧ F = [a] ∧ H a = some (.lst vs) ∧ Reps K P vs xs
  own_st := fun s k ⟨a, vs, e, hF, h, r⟩ => ⟨a, vs, e, hF, k a (by rw [hF]; exact List.mem_cons_self) _ h, r.mono s⟩
  own_rep := fun s k ⟨a, vs, e, hF, h, r⟩ => ⟨a, vs, e, k a (by rw [hF]; exact List.mem_cons_self) _ h, r.mono s⟩

/-! tuples -/
theorem Same.seqT {K : PySem.W.Frag} {H H' : Hp} {a : Addr} {xs : List V} (e : Same H H') (h : SqT K H a xs) : SqT K H' a xs := by
  rcases h with (h | ⟨o, h⟩) | h
  · exact .inl (.inl (e _ _ h))
  · exact .inl (.inr ⟨o, e _ _ h⟩)
  · exact .inr h
theorem seqT_hide {K : PySem.W.Frag} {H : Hp} {O : List Addr} {a : Addr} {xs : List V} (n : ∀ a ∈ O, ∀ o, H a = some o → mutO o = true) (h : SqT K H a xs) : SqT K (hide O H) a xs := by
  have key : ∀ {o : HO}, H a = some o → mutO o = false → hide O H a = some o := fun {o} e m => by
    rw [hide_of (fun q => by rw [n a q o e] at m; cases m)]
    exact e
  rcases h with (h | ⟨o, h⟩) | h
  · exact .inl (.inl (key h rfl))
  · exact .inl (.inr ⟨o, key h rfl⟩)
  · exact .inr h
instance {α β : Type} [Py α] [Py β] : Py (α × β) := Py.flat (fun K H v x => ∃ a v1 v2, v = .ref a ∧ SqT K H a [v1, v2] ∧ Py.rep K H v1 x.1 ∧ Py.rep K H v2 x.2)
  (fun s ⟨a, v1, v2, e, h, r1, r2⟩ => ⟨a, v1, v2, e, Same.seqT s h, Py.mono s r1, Py.mono s r2⟩)
instance {α β : Type} [Py α] [Py β] [PyI α] [PyI β] : PyI (α × β) :=
  ⟨fun n ⟨a, v1, v2, e, h, r1, r2⟩ => ⟨a, v1, v2, e, seqT_hide n h, PyI.imm n r1, PyI.imm n r2⟩⟩
/-- a tuple of one, three, four members -/
structure T1 (α : Type) where
  a : α
structure T3 (α β γ : Type) where
  a : α
  b : β
  c : γ
  deriving DecidableEq
structure T4 (α β γ δ : Type) where
  a : α
  b : β
  c : γ
  d : δ
  deriving DecidableEq
instance {α : Type} [Py α] : Py (T1 α) := Py.flat (fun K H v x => ∃ a v1, v = .ref a ∧ SqT K H a [v1] ∧ Py.rep K H v1 x.a)
  (fun s ⟨a, v1, e, h, r1⟩ => ⟨a, v1, e, Same.seqT s h, Py.mono s r1⟩)
instance {α β γ : Type} [Py α] [Py β] [Py γ] : Py (T3 α β γ) := Py.flat (fun K H v x => ∃ a v1 v2 v3, v = .ref a ∧ SqT K H a [v1, v2, v3] ∧ Py.rep K H v1 x.a ∧ Py.rep K H v2 x.b ∧ Py.rep K H v3 x.c)
  (fun s ⟨a, v1, v2, v3, e, h, r1, r2, r3⟩ => ⟨a, v1, v2, v3, e, Same.seqT s h, Py.mono s r1, Py.mono s r2, Py.mono s r3⟩)
instance {α β γ : Type} [Py α] [Py β] [Py γ] [PyI α] [PyI β] [PyI γ] : PyI (T3 α β γ) :=
  ⟨fun n ⟨a, v1, v2, v3, e, h, r1, r2, r3⟩ => ⟨a, v1, v2, v3, e, seqT_hide n h, PyI.imm n r1, PyI.imm n r2, PyI.imm n r3⟩⟩
instance {α β γ δ : Type} [Py α] [Py β] [Py γ] [Py δ] : Py (T4 α β γ δ) := Py.flat (fun K H v x => ∃ a v1 v2 v3 v4, v = .ref a ∧ SqT K H a [v1, v2, v3, v4] ∧ Py.rep K H v1 x.a ∧ Py.rep K H v2 x.b ∧ Py.rep K H v3 x.c ∧ Py.rep K H v4 x.d)
  (fun s ⟨a, v1, v2, v3, v4, e, h, r1, r2, r3, r4⟩ => ⟨a, v1, v2, v3, v4, e, Same.seqT s h, Py.mono s r1, Py.mono s r2, Py.mono s r3, Py.mono s r4⟩)
/-- a tuple of any length -/
structure Tup (α : Type) where
  l : List α
  deriving DecidableEq
instance {α : Type} [Py α] : Py (Tup α) := Py.flat (fun K H v x => ∃ a vs, v = .ref a ∧ SqT K H a vs ∧ Reps K H vs x.l)
  (fun s ⟨a, vs, e, h, r⟩ => ⟨a, vs, e, Same.seqT s h, r.mono s⟩)
instance {α : Type} [Py α] [PyI α] : PyI (Tup α) := ⟨fun n ⟨a, vs, e, h, r⟩ => ⟨a, vs, e, seqT_hide n h, Paired.mapP r fun _ _ q => PyI.imm n q⟩⟩
/-- the script: a list of ints that is only read -/
structure Scr where
  l : List Int
instance : Py Scr := Py.flat (fun K H v x => ∃ a, v = .ref a ∧ SqL K H a (x.l.map V.int)) (fun s ⟨a, e, h⟩ => ⟨a, e, Same.seq s h⟩)
/-- None or a value -/
instance {α : Type} [Py α] : Py (Option α) := Py.flat (fun K H v x => match x with
  | none => v = .non
  | some y => Py.rep K H v y ∧ v ≠ .non) (fun {K H H' v x} s h => by
    cases x with
    | none => exact h
    | some y => exact ⟨Py.mono s h.1, h.2⟩)
instance {α : Type} [Py α] [PyI α] : PyI (Option α) := ⟨fun {K H O v x} n h => by
    cases x with
    | none => exact h
    | some y => exact ⟨PyI.imm n h.1, h.2⟩⟩
instance {α : Type} [Py α] [PyS α] : PyS (Option α) := ⟨fun {K K' H H' v x} h => by
    cases x with
    | none => exact h
    | some y => exact ⟨PyS.any h.1, h.2⟩⟩

/-! ### modes: seen and staying | borrowed from the ground | owned -/
inductive Md where
  | val | bor | own
def asn {α : Type} [Py α] (K : PySem.W.Frag) (G : Hp) (m : Md) (x : α) : Asn := match m with
  | .val => ⟨fun P _ F v => F = [] ∧ Py.rep K P v x, fun s _ h => ⟨h.1, Py.mono s h.2⟩⟩
  | .bor => ⟨fun _ _ F v => F = [] ∧ Py.rep K G v x, fun _ _ h => h⟩
  | .own => ⟨fun P H F v => Py.own K P H F v x, fun s k h => Py.own_st s k h⟩

/-! ### the frame's slots and what waits -/
/-- what waits: a value of its own, or a copy of slot i, or the second part of the pair in slot i -/
inductive Ent where
  | as (A : Asn)
  | al (i : Nat)
  | p2 (i : Nat)
def EntOk (P H : Hp) (t : Option Asn) (v : Option V) (F : List Addr) : Prop := match t with
  | none => F = []
  | some A => ∃ u, v = some u ∧ A.p P H F u
def EnvL (P H : Hp) : List (Option Asn) → Sl → List Addr → Prop
  | [], [], F => F = []
  | t :: ts, v :: vs, F => ∃ F1 F2, F = F1 ++ F2 ∧ EntOk P H t v F1 ∧ EnvL P H ts vs F2
  | _, _, _ => False
def StkOk (P H : Hp) (σ : Sl) (e : Ent) (v : V) (F : List Addr) : Prop := match e with
  | .as A => A.p P H F v
  | .al i => F = [] ∧ σ[i]? = some (some v)
  | .p2 i => F = [] ∧ ∃ (a : Addr) (u : V), σ[i]? = some (some (.ref a)) ∧ P a = some (.tup [u, v])
def StkL (P H : Hp) (σ : Sl) : List Ent → List V → List Addr → Prop
  | [], [], F => F = []
  | e :: es, v :: vs, F => ∃ F1 F2, F = F1 ++ F2 ∧ StkOk P H σ e v F1 ∧ StkL P H σ es vs F2
  | _, _, _ => False
/-- where a piece of code stands: its frame's context, the ground (what was there at the entry and is not handed over to be changed), what others own of it, what an exception that leaves it must meet -/
structure Cw where
  X : Cx
  G : Hp
  Of : List Addr
  W : WX
  tx : Option (List (Option Asn))
  eg : EK → Addr
structure EnvF (c : Cw) (ts : List (Option Asn)) (us : List Ent) (σ : Sl) (vs : List V) (H : Hp) (F1 F2 : List Addr) : Prop where
  sl : EnvL (hide (c.Of ++ (F1 ++ F2)) H) H ts σ F1
  sk : StkL (hide (c.Of ++ (F1 ++ F2)) H) H σ us vs F2
  nd : (F1 ++ F2).Nodup
  fr : ∀ a ∈ F1 ++ F2, c.G a = none ∧ MutA H a
  g : Same c.G H
  og : ∀ a ∈ c.Of, MutA c.G a
def Env (c : Cw) (ts : List (Option Asn)) (us : List Ent) (σ : Sl) (vs : List V) (H : Hp) : Prop := ∃ F1 F2, EnvF c ts us σ vs H F1 F2

section
variable {P P' H H' : Hp} {ts : List (Option Asn)} {us : List Ent} {σ : Sl} {vs : List V} {F F1 F2 : List Addr} {c : Cw}
theorem EntOk.st {t : Option Asn} {v : Option V} (s : Same P P') (k : ∀ a ∈ F, ∀ o, H a = some o → H' a = some o) (h : EntOk P H t v F) : EntOk P' H' t v F := by
  cases t with
  | none => exact h
  | some A =>
    obtain ⟨u, e, q⟩ := h
    exact ⟨u, e, A.st s k q⟩
theorem StkOk.st {t : Ent} {v : V} (s : Same P P') (k : ∀ a ∈ F, ∀ o, H a = some o → H' a = some o) (h : StkOk P H σ t v F) : StkOk P' H' σ t v F := by
  cases t with
  | as A => exact A.st s k h
  | al i => exact h
  | p2 i =>
    obtain ⟨h1, a, u, h2, h3⟩ := h
    exact ⟨h1, a, u, h2, s _ _ h3⟩
theorem EnvL.st (s : Same P P') : ∀ {ts : List (Option Asn)} {σ : Sl} {F : List Addr}, (∀ a ∈ F, ∀ o, H a = some o → H' a = some o) → EnvL P H ts σ F → EnvL P' H' ts σ F
  | [], [], _, _, h => h
  | [], _ :: _, _, _, h => h.elim
  | _ :: _, [], _, _, h => h.elim
  | t :: ts, v :: vs, F, k, h => by
    obtain ⟨F1, F2, e, h1, h2⟩ := h
    subst e
    exact ⟨F1, F2, rfl, h1.st s fun a ha => k a (List.mem_append_left _ ha), EnvL.st s (fun a ha => k a (List.mem_append_right _ ha)) h2⟩
theorem StkL.st (s : Same P P') : ∀ {us : List Ent} {vs : List V} {F : List Addr}, (∀ a ∈ F, ∀ o, H a = some o → H' a = some o) → StkL P H σ us vs F → StkL P' H' σ us vs F
  | [], [], _, _, h => h
  | [], _ :: _, _, _, h => h.elim
  | _ :: _, [], _, _, h => h.elim
  | t :: ts, v :: vs, F, k, h => by
    obtain ⟨F1, F2, e, h1, h2⟩ := h
    subst e
    exact ⟨F1, F2, rfl, h1.st s fun a ha => k a (List.mem_append_left _ ha), StkL.st s (fun a ha => k a (List.mem_append_right _ ha)) h2⟩
/-- slot i apart from the others -/
theorem EnvL.at : ∀ {ts : List (Option Asn)} {σ : Sl} {F : List Addr} (i : Nat) {t : Option Asn}, EnvL P H ts σ F → ts[i]? = some t →
    ∃ (v : Option V) (F1 Fi F2 : List Addr), σ[i]? = some v ∧ F = F1 ++ (Fi ++ F2) ∧ EntOk P H t v Fi ∧ i < σ.length ∧
      ∀ (P' H' : Hp) (t' : Option Asn) (v' : Option V) (F' : List Addr), Same P P' → (∀ a ∈ F1 ++ F2, ∀ o, H a = some o → H' a = some o) → EntOk P' H' t' v' F' → EnvL P' H' (ts.set i t') (σ.set i v') (F1 ++ (F' ++ F2))
  | [], _, _, _, _, _, e => by simp at e
  | _ :: _, [], _, _, _, h, _ => h.elim
  | t0 :: ts, v :: vs, F, 0, t, h, e => by
    obtain ⟨F1, F2, eF, h1, h2⟩ := h
    have et : t0 = t := by simpa using e
    subst et
    refine ⟨v, [], F1, F2, rfl, by rw [eF]; rfl, h1, by simp, fun P' H' t' v' F' s k q => ?_⟩
    exact ⟨F', F2, rfl, q, EnvL.st s (fun a ha => k a (by simpa using ha)) h2⟩
  | t0 :: ts, v :: vs, F, i + 1, t, h, e => by
    obtain ⟨F0, F9, eF, h1, h2⟩ := h
    obtain ⟨w, F1, Fi, F2, e1, e2, q, hl, rest⟩ := EnvL.at i (t := t) h2 (by simpa using e)
    refine ⟨w, F0 ++ F1, Fi, F2, by simpa using e1, by rw [eF, e2, List.append_assoc], q, by simpa using hl, fun P' H' t' v' F' s k q' => ?_⟩
    refine ⟨F0, F1 ++ (F' ++ F2), by rw [List.append_assoc], h1.st s (fun a ha => k a ?_), rest P' H' t' v' F' s (fun a ha => k a ?_) q'⟩
    · exact List.mem_append_left _ (List.mem_append_left _ ha)
    · rcases List.mem_append.mp ha with ha | ha
      · exact List.mem_append_left _ (List.mem_append_right _ ha)
      · exact List.mem_append_right _ ha
theorem EnvL.len : ∀ {ts : List (Option Asn)} {σ : Sl} {F : List Addr}, EnvL P H ts σ F → ts.length = σ.length
  | [], [], _, _ => rfl
  | [], _ :: _, _, h => h.elim
  | _ :: _, [], _, h => h.elim
  | _ :: ts, _ :: vs, _, ⟨_, _, _, _, h⟩ => by simp [EnvL.len h]
end
end Mw
set_option maxRecDepth 100000
set_option maxHeartbeats 4000000
namespace Mw
open PySem PySem.Spec PyProof.Rows L2

section
variable {c : Cw} {ts : List (Option Asn)} {us es : List Ent} {σ : Sl} {vs ws : List V} {H H' : Hp} {F F1 F2 : List Addr}

theorem StkL.cons {P H : Hp} {e : Ent} {v : V} (h : StkL P H σ (e :: us) (v :: vs) F) : ∃ F1 F2, F = F1 ++ F2 ∧ StkOk P H σ e v F1 ∧ StkL P H σ us vs F2 := h
theorem StkL.split {P H : Hp} : ∀ {es : List Ent} {ws : List V} {F : List Addr}, es.length = ws.length → StkL P H σ (es ++ us) (ws ++ vs) F → ∃ F1 F2, F = F1 ++ F2 ∧ StkL P H σ es ws F1 ∧ StkL P H σ us vs F2
  | [], [], F, _, h => ⟨[], F, rfl, rfl, h⟩
  | [], _ :: _, _, e, _ => by simp at e
  | _ :: _, [], _, e, _ => by simp at e
  | e :: es, w :: ws, F, el, h => by
    obtain ⟨F1, F2, eF, h1, h2⟩ := h
    obtain ⟨F3, F4, eF', h3, h4⟩ := StkL.split (by simpa using el) h2
    exact ⟨F1 ++ F3, F4, by rw [eF, eF', List.append_assoc], ⟨F1, F3, rfl, h1, h3⟩, h4⟩
theorem StkL.append {P H : Hp} : ∀ {es : List Ent} {ws : List V} {F1 F2 : List Addr}, StkL P H σ es ws F1 → StkL P H σ us vs F2 → StkL P H σ (es ++ us) (ws ++ vs) (F1 ++ F2)
  | [], [], F1, F2, h, h' => by
    have e : F1 = [] := h
    subst e
    exact h'
  | [], _ :: _, _, _, h, _ => h.elim
  | _ :: _, [], _, _, h, _ => h.elim
  | e :: es, w :: ws, F1, F2, h, h' => by
    obtain ⟨G1, G2, eF, h1, h2⟩ := h
    exact ⟨G1, G2 ++ F2, by rw [eF, List.append_assoc], h1, StkL.append h2 h'⟩
theorem StkL.len {P H : Hp} : ∀ {us : List Ent} {vs : List V} {F : List Addr}, StkL P H σ us vs F → us.length = vs.length
  | [], [], _, _ => rfl
  | [], _ :: _, _, h => h.elim
  | _ :: _, [], _, h => h.elim
  | _ :: us, _ :: vs, _, ⟨_, _, _, _, h⟩ => by simp [StkL.len h]

/-- what is hidden may be written -/
theorem EnvF.muts (E : EnvF c ts us σ vs H F1 F2) : ∀ a ∈ c.Of ++ (F1 ++ F2), ∀ o, H a = some o → mutO o = true := fun a ha o e => by
  rcases List.mem_append.mp ha with h | h
  · obtain ⟨o', e', m⟩ := E.og a h
    rw [E.g _ _ e'] at e
    cases e
    exact m
  · obtain ⟨_, o', e', m⟩ := E.fr a h
    rw [e'] at e
    cases e
    exact m
theorem EnvF.trk (E : EnvF c ts us σ vs H F1 F2) : ∀ a ∈ c.Of ++ (F1 ++ F2), H a ≠ none := fun a ha q => by
  rcases List.mem_append.mp ha with h | h
  · obtain ⟨o', e', m⟩ := E.og a h
    rw [E.g _ _ e'] at q
    cases q
  · obtain ⟨_, o', e', m⟩ := E.fr a h
    rw [e'] at q
    cases q
/-- the heap grew -/
theorem EnvF.same (E : EnvF c ts us σ vs H F1 F2) (s : Same H H') : EnvF c ts us σ vs H' F1 F2 := by
  have s' : Same (hide (c.Of ++ (F1 ++ F2)) H) (hide (c.Of ++ (F1 ++ F2)) H') := fun a o e => by
    obtain ⟨n, e⟩ := hide_some e
    rw [hide_of n]
    exact s _ _ e
  refine ⟨E.sl.st s' fun a _ o e => s _ _ e, E.sk.st s' fun a _ o e => s _ _ e, E.nd, fun a ha => ?_, Same.trans E.g s, E.og⟩
  obtain ⟨h1, o, h2, h3⟩ := E.fr a ha
  exact ⟨h1, o, s _ _ h2, h3⟩
theorem Env.same (E : Env c ts us σ vs H) (s : Same H H') : Env c ts us σ vs H' := by
  obtain ⟨F1, F2, E⟩ := E
  exact ⟨F1, F2, E.same s⟩
theorem Env.ground (E : Env c ts us σ vs H) : Same c.G H := by
  obtain ⟨F1, F2, E⟩ := E
  exact E.g
theorem Env.len (E : Env c ts us σ vs H) : ts.length = σ.length := by
  obtain ⟨F1, F2, E⟩ := E
  exact E.sl.len

/-- what a place shows: P is the part of H that stays as it is -/
structure Part (P H : Hp) : Prop where
  ex : ∃ O : List Addr, P = hide O H ∧ ∀ a ∈ O, ∀ o, H a = some o → mutO o = true
theorem Part.le {P H : Hp} (p : Part P H) : Same P H := by
  obtain ⟨O, e, _⟩ := p.ex
  subst e
  exact hide_le
theorem Part.imm {P H : Hp} (p : Part P H) {α : Type} [Py α] [PyI α] {K : PySem.W.Frag} {v : V} {x : α} (h : Py.rep K H v x) : Py.rep K P v x := by
  obtain ⟨O, e, m⟩ := p.ex
  subst e
  exact PyI.imm m h
theorem EnvF.part (E : EnvF c ts us σ vs H F1 F2) : Part (hide (c.Of ++ (F1 ++ F2)) H) H := ⟨⟨_, rfl, E.muts⟩⟩

/-- THE STEP: what waits on top (es, ws) goes, v comes -/
theorem EnvF.top {e : Ent} {v : V} {FB F : List Addr} (E : EnvF c ts (es ++ us) σ (ws ++ vs) H F1 (FB ++ F2)) (h2 : StkL (hide (c.Of ++ (F1 ++ (FB ++ F2))) H) H σ us vs F2) (s : Same H H')
    (f1 : ∀ a ∈ F, a ∈ FB ∨ H a = none) (f2 : F.Nodup) (f3 : ∀ a ∈ F, MutA H' a)
    (f4 : ∀ P', Same (hide (c.Of ++ (F1 ++ (FB ++ F2))) H) P' → (∀ b o, H b = none ∨ b ∈ FB → b ∉ F → H' b = some o → P' b = some o) → Same P' H' → StkOk P' H' σ e v F) : EnvF c ts (e :: us) σ (v :: vs) H' F1 (F ++ F2) := by
  have trk := E.trk
  have inB : ∀ a, a ∈ FB → a ∈ c.Of ++ (F1 ++ (FB ++ F2)) := fun a h => List.mem_append_right _ (List.mem_append_right _ (List.mem_append_left _ h))
  have old : ∀ a ∈ F, a ∈ c.Of ++ (F1 ++ (FB ++ F2)) → a ∈ FB := fun a h q => (f1 a h).elim id fun z => absurd z (trk a q)
  have nd := E.nd
  have ndB : ∀ a ∈ FB, a ∉ F1 ∧ a ∉ F2 := fun a h => by
    obtain ⟨n1, n2, n3⟩ := List.nodup_append.mp nd
    obtain ⟨m1, m2, m3⟩ := List.nodup_append.mp n2
    exact ⟨fun q => n3 a q a (List.mem_append_left _ h) rfl, fun q => m3 a h a q rfl⟩
  have noOf : ∀ a ∈ FB, a ∉ c.Of := fun a h q => by
    have := (E.fr a (List.mem_append_right _ (List.mem_append_left _ h))).1
    obtain ⟨o, e, _⟩ := E.og a q
    rw [this] at e
    cases e
  have nF1 : ∀ a ∈ F, a ∉ F1 := fun a h q => (ndB a (old a h (List.mem_append_right _ (List.mem_append_left _ q)))).1 q
  have nF2 : ∀ a ∈ F, a ∉ F2 := fun a h q => (ndB a (old a h (List.mem_append_right _ (List.mem_append_right _ (List.mem_append_right _ q))))).2 q
  have sP : Same (hide (c.Of ++ (F1 ++ (FB ++ F2))) H) (hide (c.Of ++ (F1 ++ (F ++ F2))) H') := fun a o q => by
    obtain ⟨n, q⟩ := hide_some q
    rw [hide_of (fun z => ?_)]
    · exact s _ _ q
    · rcases List.mem_append.mp z with z | z
      · exact n (List.mem_append_left _ z)
      · rcases List.mem_append.mp z with z | z
        · exact n (List.mem_append_right _ (List.mem_append_left _ z))
        · rcases List.mem_append.mp z with z | z
          · rcases f1 a z with y | y
            · exact n (inB a y)
            · rw [y] at q
              cases q
          · exact n (List.mem_append_right _ (List.mem_append_right _ (List.mem_append_right _ z)))
  have new : ∀ b o, H b = none ∨ b ∈ FB → b ∉ F → H' b = some o → hide (c.Of ++ (F1 ++ (F ++ F2))) H' b = some o := fun b o n nF q => by
    rw [hide_of (fun z => ?_)]
    · exact q
    · rcases List.mem_append.mp z with z | z
      · rcases n with n | n
        · exact trk b (List.mem_append_left _ z) n
        · exact noOf b n z
      · rcases List.mem_append.mp z with z | z
        · rcases n with n | n
          · exact trk b (List.mem_append_right _ (List.mem_append_left _ z)) n
          · exact (ndB b n).1 z
        · rcases List.mem_append.mp z with z | z
          · exact nF z
          · rcases n with n | n
            · exact trk b (List.mem_append_right _ (List.mem_append_right _ (List.mem_append_right _ z))) n
            · exact (ndB b n).2 z
  have kp : ∀ (L : List Addr), ∀ a ∈ L, ∀ o, H a = some o → H' a = some o := fun _ a _ o q => s _ _ q
  refine ⟨E.sl.st sP (kp F1), ⟨F, F2, rfl, f4 _ sP new hide_le, h2.st sP (kp F2)⟩, ?_, fun a ha => ?_, Same.trans E.g s, E.og⟩
  · obtain ⟨n1, n2, n3⟩ := List.nodup_append.mp nd
    obtain ⟨m1, m2, m3⟩ := List.nodup_append.mp n2
    refine List.nodup_append.mpr ⟨n1, List.nodup_append.mpr ⟨f2, m2, fun a ha b hb q => ?_⟩, fun a ha b hb q => ?_⟩
    · subst q
      exact nF2 a ha hb
    · subst q
      rcases List.mem_append.mp hb with hb | hb
      · exact nF1 a hb ha
      · exact n3 a ha a (List.mem_append_right _ hb) rfl
  · have keep : ∀ a, a ∈ F1 ++ (FB ++ F2) → c.G a = none ∧ MutA H' a := fun a h => by
      obtain ⟨h1, o, h2, h3⟩ := E.fr a h
      exact ⟨h1, o, s _ _ h2, h3⟩
    rcases List.mem_append.mp ha with h | h
    · exact keep a (List.mem_append_left _ h)
    · rcases List.mem_append.mp h with h | h
      · refine ⟨?_, f3 a h⟩
        rcases f1 a h with y | y
        · exact (keep a (List.mem_append_right _ (List.mem_append_left _ y))).1
        · exact E.g.free y
      · exact keep a (List.mem_append_right _ (List.mem_append_right _ h))
theorem Env.top {e : Ent} {v : V} (E : Env c ts (es ++ us) σ (ws ++ vs) H) (hl : es.length = ws.length) (s : Same H H')
    (hA : ∀ P F1 FB, Part P H → Same c.G H → EnvL P H ts σ F1 → StkL P H σ es ws FB → ∃ F : List Addr, (∀ a ∈ F, a ∈ FB ∨ H a = none) ∧ F.Nodup ∧ (∀ a ∈ F, MutA H' a) ∧
      ∀ P', Same P P' → (∀ b o, H b = none ∨ b ∈ FB → b ∉ F → H' b = some o → P' b = some o) → Same P' H' → StkOk P' H' σ e v F) : Env c ts (e :: us) σ (v :: vs) H' := by
  obtain ⟨F1, F0, E⟩ := E
  obtain ⟨FB, F2, eF, h1, h2⟩ := E.sk.split hl
  subst eF
  obtain ⟨F, f1, f2, f3, f4⟩ := hA _ F1 FB E.part E.g E.sl h1
  exact ⟨F1, F ++ F2, E.top h2 s f1 f2 f3 f4⟩
/-- what waits on top goes -/
theorem Env.pop (E : Env c ts (es ++ us) σ (ws ++ vs) H) (hl : es.length = ws.length) : Env c ts us σ vs H := by
  obtain ⟨F1, F0, E⟩ := E
  obtain ⟨FB, F2, eF, h1, h2⟩ := E.sk.split hl
  subst eF
  have sub : ∀ a, a ∈ F1 ++ F2 → a ∈ F1 ++ (FB ++ F2) := fun a h => by
    rcases List.mem_append.mp h with h | h
    · exact List.mem_append_left _ h
    · exact List.mem_append_right _ (List.mem_append_right _ h)
  have sP : Same (hide (c.Of ++ (F1 ++ (FB ++ F2))) H) (hide (c.Of ++ (F1 ++ F2)) H) := fun a o q => by
    obtain ⟨n, q⟩ := hide_some q
    rw [hide_of (fun z => n ?_)]
    · exact q
    · rcases List.mem_append.mp z with z | z
      · exact List.mem_append_left _ z
      · exact List.mem_append_right _ (sub a z)
  refine ⟨F1, F2, E.sl.st sP fun a _ o q => q, h2.st sP fun a _ o q => q, ?_, fun a ha => E.fr a (sub a ha), E.g, E.og⟩
  obtain ⟨n1, n2, n3⟩ := List.nodup_append.mp E.nd
  obtain ⟨m1, m2, m3⟩ := List.nodup_append.mp n2
  exact List.nodup_append.mpr ⟨n1, m2, fun a ha b hb => n3 a ha b (List.mem_append_right _ hb)⟩

/-! ### readers -/
/-- the entry e shows x -/
def Rd (c : Cw) (ts : List (Option Asn)) (e : Ent) {α : Type} [Py α] (x : α) : Prop :=
  ∀ {P H : Hp} {σ : Sl} {F F1 : List Addr} {v : V}, Part P H → Same c.G H → EnvL P H ts σ F1 → StkOk P H σ e v F → Py.rep c.X.K H v x
theorem asn_rep {α : Type} [Py α] {K : PySem.W.Frag} {G : Hp} {m : Md} {x : α} {P H : Hp} {F : List Addr} {v : V} (p : Same P H) (g : Same G H) (h : (asn K G m x).p P H F v) : Py.rep K H v x := by
  cases m with
  | val => exact Py.mono p h.2
  | bor => exact Py.mono g h.2
  | own => exact Py.own_rep p (fun _ _ _ q => q) h
theorem rdA {α : Type} [Py α] {m : Md} {x : α} : Rd c ts (.as (asn c.X.K c.G m x)) x := fun p g _ h => asn_rep p.le g h
theorem EnvL.get {P H : Hp} {i : Nat} {A : Asn} (E : EnvL P H ts σ F) (h : ts[i]? = some (some A)) : ∃ v Fi, σ[i]? = some (some v) ∧ A.p P H Fi v := by
  obtain ⟨v, F1, Fi, F2, e, _, q, _⟩ := E.at i h
  obtain ⟨u, e', q⟩ := q
  subst e'
  exact ⟨u, Fi, e, q⟩
theorem rdL {α : Type} [Py α] {m : Md} {x : α} (i : Nat) (h : ts[i]? = some (some (asn c.X.K c.G m x))) : Rd c ts (.al i) x := fun p g E h' => by
  obtain ⟨v, Fi, e, q⟩ := E.get h
  obtain ⟨_, e'⟩ := h'
  rw [e] at e'
  cases e'
  exact asn_rep p.le g q
/-- the entry e is a list that shows xs, and what stands in it stays -/
def RdE (c : Cw) (ts : List (Option Asn)) (e : Ent) {α : Type} [Py α] (xs : List α) : Prop :=
  ∀ {P H : Hp} {σ : Sl} {F F1 : List Addr} {v : V}, Part P H → Same c.G H → EnvL P H ts σ F1 → StkOk P H σ e v F → ∃ a vs, v = .ref a ∧ H a = some (.lst vs) ∧ Reps c.X.K P vs xs
theorem Rd.els {α : Type} [Py α] [PyI α] {e : Ent} {xs : List α} (r : Rd c ts e xs) : RdE c ts e xs := fun p g E h => by
  obtain ⟨a, vs, e, h, q⟩ := r p g E h
  exact ⟨a, vs, e, h, Paired.mapP q fun _ _ z => p.imm z⟩
theorem asn_els {α : Type} [Py α] {K : PySem.W.Frag} {G : Hp} {m : Md} {xs : List α} {P H : Hp} {F : List Addr} {v : V} (hm : m = .val ∨ m = .own) (p : Same P H) (h : (asn K G m xs).p P H F v) : ∃ a vs, v = .ref a ∧ H a = some (.lst vs) ∧ Reps K P vs xs := by
  rcases hm with e | e
  · subst e
    obtain ⟨_, a, vs, e, h, r⟩ := h
    exact ⟨a, vs, e, p _ _ h, r⟩
  · subst e
    obtain ⟨a, vs, e, _, h, r⟩ := h
    exact ⟨a, vs, e, h, r⟩
theorem rdeA {α : Type} [Py α] {m : Md} {xs : List α} (hm : m = .val ∨ m = .own := by first | exact .inl rfl | exact .inr rfl) : RdE c ts (.as (asn c.X.K c.G m xs)) xs := fun p g _ h => asn_els hm p.le h
theorem rdeL {α : Type} [Py α] {m : Md} {xs : List α} (i : Nat) (h : ts[i]? = some (some (asn c.X.K c.G m xs))) (hm : m = .val ∨ m = .own := by first | exact .inl rfl | exact .inr rfl) : RdE c ts (.al i) xs := fun p g E h' => by
  obtain ⟨v, Fi, e, q⟩ := E.get h
  obtain ⟨_, e'⟩ := h'
  rw [e] at e'
  cases e'
  exact asn_els hm p.le q
end

/-! ### the judgements -/
def ErrAt (e : Err) (d : Option Addr) (H' : Hp) : Prop := match e.fs with
  | none => d = none
  | some fs => ∃ a, d = some a ∧ H' a = some (.xd fs)
/-- where an error leaves: of the slots only what tx tells is known -/
def EnvX (c : Cw) (us : List Ent) (σ : Sl) (vs : List V) (H : Hp) : Prop := match c.tx with
  | none => Same c.G H
  | some tx => Env c tx us σ vs H
/-- what an error must meet -/
def Ex (c : Cw) (us : List Ent) (σ : Sl) (vs : List V) (e : Err) : Prop := ∀ d H', ErrAt e d H' → EnvX c us σ vs H' → c.W (.ref (c.eg e.k)) d σ H'
theorem EnvX.pop {c : Cw} {us es : List Ent} {σ : Sl} {vs ws : List V} {H : Hp} (E : EnvX c (es ++ us) σ (ws ++ vs) H) (hl : es.length = ws.length) : EnvX c us σ vs H := by
  unfold EnvX at E ⊢
  split at E
  · exact E
  · exact Env.pop E hl
def tJ (c : Cw) (ts : List (Option Asn)) {α : Type} (m : Out α) (A : α → Ent) : TE := fun σ H Q => ∃ us vs, Env c ts us σ vs H ∧ m.wp (fun a => ∀ v H', Env c ts (A a :: us) σ (v :: vs) H' → Q v H') (Ex c us σ vs)
def tT (c : Cw) (ts : List (Option Asn)) (m : Out Bool) : TT := fun σ H Q => ∃ us vs, Env c ts us σ vs H ∧ m.wp (fun b => ∀ H', Env c ts us σ vs H' → Q b H') (Ex c us σ vs)
/-- e is worth m -/
def JE (c : Cw) (ts : List (Option Asn)) (e : Expr) {α : Type} (m : Out α) (A : α → Ent) : Prop := PE c.X e (tJ c ts m A)
def JT (c : Cw) (ts : List (Option Asn)) (e : Expr) (m : Out Bool) : Prop := PT c.X e (tT c ts m)
theorem PE.imp {X : Cx} {e : Expr} {t t' : TE} (h : PE X e t) (i : ∀ σ H Q, t' σ H Q → t σ H Q) : PE X e t' := ⟨fun pins s σ H Q I q => h.run pins s σ H Q I (i σ H Q q)⟩
theorem PT.imp {X : Cx} {e : Expr} {t t' : TT} (h : PT X e t) (i : ∀ σ H Q, t' σ H Q → t σ H Q) : PT X e t' := ⟨fun pins s σ H Q I q => h.run pins s σ H Q I (i σ H Q q)⟩
/-- a value that stays; one that is owned -/
def Vl (c : Cw) {α : Type} [Py α] (x : α) : Ent := .as (asn c.X.K c.G .val x)
def Ow (c : Cw) {α : Type} [Py α] (x : α) : Ent := .as (asn c.X.K c.G .own x)

section
variable {c : Cw} {ts : List (Option Asn)} {us es : List Ent} {σ : Sl} {vs ws : List V} {H H' : Hp} {α β γ : Type} [Py α] [Py β] [Py γ]
theorem rdV {x : α} : Rd c ts (Vl c x) x := rdA
theorem rdO {x : α} : Rd c ts (Ow c x) x := rdA
theorem rdeV {x : List α} : RdE c ts (Vl c x) x := rdeA
theorem rdeO {x : List α} : RdE c ts (Ow c x) x := rdeA
/-- a value without heap comes -/
theorem Env.pushS [PyS α] {x : α} {v : V} {K : PySem.W.Frag} {H0 : Hp} (E : Env c ts (es ++ us) σ (ws ++ vs) H) (hl : es.length = ws.length) (r : Py.rep K H0 v x) : Env c ts (Vl c x :: us) σ (v :: vs) H :=
  E.top hl (Same.refl _) fun P _ _ _ _ _ _ => ⟨[], fun _ h => (nomatch h), List.nodup_nil, fun _ h => (nomatch h), fun P' _ _ _ => ⟨rfl, PyS.any r⟩⟩
/-- a value that is seen comes -/
theorem Env.pushV {x : α} {v : V} (E : Env c ts (es ++ us) σ (ws ++ vs) H) (hl : es.length = ws.length) (s : Same H H')
    (r : ∀ P F1 FB, Part P H → Same c.G H → EnvL P H ts σ F1 → StkL P H σ es ws FB → ∀ P', Same P P' → (∀ b o, H b = none → H' b = some o → P' b = some o) → Py.rep c.X.K P' v x) : Env c ts (Vl c x :: us) σ (v :: vs) H' :=
  E.top hl s fun P F1 FB p g e k => ⟨[], fun _ h => (nomatch h), List.nodup_nil, fun _ h => (nomatch h), fun P' s' n _ => ⟨rfl, r P F1 FB p g e k P' s' fun b o h1 h2 => n b o (.inl h1) (by simp) h2⟩⟩
theorem same_new {p : Addr} {o : HO} (h : H p = none) : Same H (upd H p o) := fun b u e => by
  rw [upd_ne (ne_of_none e h)]
  exact e
/-- a new list comes -/
theorem Env.pushN {xs : List α} {zs : List V} {p : Addr} (E : Env c ts (es ++ us) σ (ws ++ vs) H) (hl : es.length = ws.length) (hp : H p = none)
    (r : ∀ P F1 FB, Part P H → Same c.G H → EnvL P H ts σ F1 → StkL P H σ es ws FB → Reps c.X.K P zs xs) : Env c ts (Ow c xs :: us) σ (.ref p :: vs) (upd H p (.lst zs)) :=
  E.top hl (same_new hp) fun P F1 FB pp g e k => ⟨[p], fun a h => .inr (by rw [List.mem_singleton.mp h]; exact hp), (by simp), fun a h => ⟨.lst zs, by rw [List.mem_singleton.mp h]; exact upd_same, rfl⟩,
    fun P' s' n _ => ⟨p, zs, rfl, rfl, upd_same, (r P F1 FB pp g e k).mono s'⟩⟩

/-! names -/
theorem Env.slot {i : Nat} {A : Asn} (E : Env c ts us σ vs H) (h : ts[i]? = some (some A)) : ∃ v P F F1, σ[i]? = some (some v) ∧ Part P H ∧ EnvL P H ts σ F1 ∧ A.p P H F v := by
  obtain ⟨F1, F2, E⟩ := E
  obtain ⟨v, Fi, e, q⟩ := E.sl.get h
  exact ⟨v, _, Fi, F1, e, E.part, E.sl, q⟩
theorem EnvF.slot {i : Nat} {A : Asn} {F1 F2 : List Addr} (E : EnvF c ts us σ vs H F1 F2) (h : ts[i]? = some (some A)) : ∃ v F, σ[i]? = some (some v) ∧ A.p (hide (c.Of ++ (F1 ++ F2)) H) H F v := by
  obtain ⟨v, Fi, e, q⟩ := E.sl.get h
  exact ⟨v, Fi, e, q⟩
/-- a copy of a slot -/
theorem je_al {x : α} {m : Md} {n : Str} {pos : Pos} (i : Nat) (h : ts[i]? = some (some (asn c.X.K c.G m x))) (hp : PE c.X (.Name n pos) (tVar i)) : JE c ts (.Name n pos) (.ok x) (fun _ => .al i) :=
  PE.imp hp fun σ H Q ⟨us, vs, E, q⟩ => by
    obtain ⟨v, P, F, F1, e, _, _, _⟩ := E.slot h
    refine ⟨v, e, q v H ?_⟩
    exact Env.top (es := []) (ws := []) E rfl (Same.refl _) fun P F1 FB _ _ _ _ => ⟨[], fun _ h => (nomatch h), List.nodup_nil, fun _ h => (nomatch h), fun P' _ _ _ => ⟨rfl, e⟩⟩
/-- the entry e where p holds, else nothing -/
noncomputable def cndE (p : Prop) (e : Ent) : Ent := @ite Ent p (Classical.propDecidable p) e (.as ⟨fun _ _ _ _ => False, fun _ _ h => h⟩)
theorem cndE_pos {p : Prop} {e : Ent} (h : p) : cndE p e = e := @if_pos p (Classical.propDecidable p) h Ent _ _
theorem rdCnd {p : Prop} {e : Ent} {x : α} (h : p → Rd c ts e x) : Rd c ts (cndE p e) x := fun pp g E k => by
  by_cases hp : p
  · rw [cndE_pos hp] at k
    exact h hp pp g E k
  · have z : cndE p e = .as ⟨fun _ _ _ _ => False, fun _ _ h => h⟩ := @if_neg p (Classical.propDecidable p) hp Ent _ _
    rw [z] at k
    exact k.elim
theorem rdeCnd {p : Prop} {e : Ent} {x : List α} (h : p → RdE c ts e x) : RdE c ts (cndE p e) x := fun pp g E k => by
  by_cases hp : p
  · rw [cndE_pos hp] at k
    exact h hp pp g E k
  · have z : cndE p e = .as ⟨fun _ _ _ _ => False, fun _ _ h => h⟩ := @if_neg p (Classical.propDecidable p) hp Ent _ _
    rw [z] at k
    exact k.elim
/-- slot i, which holds x -/
noncomputable def Al (i : Nat) (x y : α) : Ent := cndE (y = x) (.al i)
theorem rdS {m : Md} {x : α} (i : Nat) (h : ts[i]? = some (some (asn c.X.K c.G m x))) : ∀ y, Rd c ts (Al i x y) y := fun y => rdCnd fun e => by
  rw [e]
  exact rdL i h
theorem rdeS {m : Md} {x : List α} (i : Nat) (h : ts[i]? = some (some (asn c.X.K c.G m x))) (hm : m = .val ∨ m = .own := by first | exact .inl rfl | exact .inr rfl) : ∀ y, RdE c ts (Al i x y) y := fun y => rdeCnd fun e => by
  rw [e]
  exact rdeL i h hm
theorem je_sl {x : α} {m : Md} {n : Str} {pos : Pos} (i : Nat) (h : ts[i]? = some (some (asn c.X.K c.G m x))) (hp : PE c.X (.Name n pos) (tVar i)) : JE c ts (.Name n pos) (.ok x) (Al i x) :=
  PE.imp (je_al i h hp) fun σ H Q ⟨us, vs, E, q⟩ => ⟨us, vs, E, fun v H' E' => q v H' (by
    unfold Al
    rw [cndE_pos rfl]
    exact E')⟩
/-- a name whose value is seen -/
theorem je_nm {x : α} {n : Str} {pos : Pos} (i : Nat) (h : ts[i]? = some (some (asn c.X.K c.G .val x))) (hp : PE c.X (.Name n pos) (tVar i)) : JE c ts (.Name n pos) (.ok x) (Vl c) :=
  PE.imp hp fun σ H Q ⟨us, vs, E, q⟩ => by
    obtain ⟨v, P, F, F1, e, _, _, _⟩ := E.slot h
    refine ⟨v, e, q v H (Env.pushV (es := []) (ws := []) E rfl (Same.refl _) fun P F1 FB _ _ E' _ P' s' _ => ?_)⟩
    obtain ⟨v', F', e', q'⟩ := E'.get h
    rw [e] at e'
    cases e'
    exact Py.mono s' q'.2
/-- .. of a type whose values stay anyway -/
theorem je_ni [PyI α] {x : α} {m : Md} {n : Str} {pos : Pos} (i : Nat) (h : ts[i]? = some (some (asn c.X.K c.G m x))) (hp : PE c.X (.Name n pos) (tVar i)) : JE c ts (.Name n pos) (.ok x) (Vl c) :=
  PE.imp hp fun σ H Q ⟨us, vs, E, q⟩ => by
    obtain ⟨v, P, F, F1, e, _, _, _⟩ := E.slot h
    refine ⟨v, e, q v H (Env.pushV (es := []) (ws := []) E rfl (Same.refl _) fun P F1 FB p g E' _ P' s' _ => ?_)⟩
    obtain ⟨v', F', e', q'⟩ := E'.get h
    rw [e] at e'
    cases e'
    exact Py.mono s' (p.imm (asn_rep p.le g q'))
/-! constants -/
theorem je_k {e : Expr} {x : α} [PyS α] {v : V} (hp : PE c.X e (tC v)) (r : ∀ K H, Py.rep K H v x) : JE c ts e (.ok x) (Vl c) :=
  PE.imp hp fun σ H Q ⟨us, vs, E, q⟩ => q v H (Env.pushS (es := []) (ws := []) (K := c.X.K) (H0 := H) E rfl (r _ _))
theorem je_int {i : Int} {k : Nat} {pos : Pos} : JE c ts (.Constant (.int i) k pos) (.ok i) (Vl c) := je_k pe_int fun _ _ => rfl
theorem je_bl {b : Bool} {k : Nat} {pos : Pos} : JE c ts (.Constant (.bool b) k pos) (.ok b) (Vl c) := je_k pe_bl fun _ _ => rfl
theorem je_str {x : Str} {k : Nat} {pos : Pos} : JE c ts (.Constant (.str x) k pos) (.ok x) (Vl c) := je_k pe_str fun _ _ => rfl
theorem je_non {k : Nat} {pos : Pos} : JE c ts (.Constant .none k pos) (.ok ()) (Vl c) := je_k pe_non fun _ _ => rfl
theorem je_none {k : Nat} {pos : Pos} : JE c ts (.Constant .none k pos) (.ok (none : Option α)) (Vl c) :=
  PE.imp pe_non fun σ H Q ⟨us, vs, E, q⟩ => q _ H (Env.pushV (es := []) (ws := []) E rfl (Same.refl _) fun P F1 FB _ _ E' _ P' s' _ => rfl)

/-! two parts -/
theorem je_two {a b e : Expr} {ma : Out α} {mb : Out β} {A : α → Ent} {B : β → Ent} {C : γ → Ent} {f : α → β → Out γ} {r : R2} {t : TE → TE → TE} (hp : ∀ {ta tb}, PE c.X a ta → PE c.X b tb → PE c.X e (t ta tb)) (ha : JE c ts a ma A) (hb : JE c ts b mb B)
    (ht : ∀ {ta tb σ H Q}, ta σ H (fun x H1 => tb σ H1 fun y H2 => r x y H2 Q) → t ta tb σ H Q)
    (hr : ∀ {us σ vs H2 i j x y Q}, Env c ts (B j :: A i :: us) σ (y :: x :: vs) H2 → (f i j).wp (fun z => ∀ v H', Env c ts (C z :: us) σ (v :: vs) H' → Q v H') (Ex c us σ vs) → r x y H2 Q) :
    JE c ts e (ma.bind fun i => mb.bind fun j => f i j) C :=
  PE.imp (hp ha hb) fun σ H Q ⟨us, vs, E, q⟩ => by
    refine ht ⟨us, vs, E, Out.wp_mono (Out.wp_bind q) (fun i _ q => ?_) fun _ _ h => h⟩
    intro x H1 E1
    refine ⟨_, _, E1, Out.wp_mono (Out.wp_bind q) (fun j _ q => ?_) fun e _ h => ?_⟩
    · intro y H2 E2
      exact hr E2 q
    · intro d H' e1 E3
      exact h d H' e1 (EnvX.pop (es := [A i]) (ws := [x]) E3 rfl)
theorem je_bin {a b : Expr} {op : Operator} {pos : Pos} {ma : Out α} {mb : Out β} {A : α → Ent} {B : β → Ent} {C : γ → Ent} {f : α → β → Out γ} {r : R2} (ho : OpR c.X (binaryOp op) r) (ha : JE c ts a ma A) (hb : JE c ts b mb B)
    (hr : ∀ {us σ vs H2 i j x y Q}, Env c ts (B j :: A i :: us) σ (y :: x :: vs) H2 → (f i j).wp (fun z => ∀ v H', Env c ts (C z :: us) σ (v :: vs) H' → Q v H') (Ex c us σ vs) → r x y H2 Q) :
    JE c ts (.BinOp a op b pos) (ma.bind fun i => mb.bind fun j => f i j) C :=
  je_two (t := tOp r) (r := r) (pe_op ho) ha hb (fun h => h) hr
theorem je_cmpG {a b : Expr} {op : CmpOp} {pos : Pos} {ma : Out α} {mb : Out β} {A : α → Ent} {B : β → Ent} {C : γ → Ent} {f : α → β → Out γ} {r : R2} (ho : OpR c.X (compareOp op) r) (hm : behindInMarks op b = false) (ha : JE c ts a ma A) (hb : JE c ts b mb B)
    (hr : ∀ {us σ vs H2 i j x y Q}, Env c ts (B j :: A i :: us) σ (y :: x :: vs) H2 → (f i j).wp (fun z => ∀ v H', Env c ts (C z :: us) σ (v :: vs) H' → Q v H') (Ex c us σ vs) → r x y H2 Q) :
    JE c ts (.Compare a [op] [b] pos) (ma.bind fun i => mb.bind fun j => f i j) C :=
  je_two (t := tOp r) (r := r) (fun h1 h2 => pe_cmpR ho h1 h2 hm) ha hb (fun h => h) hr
theorem Env.top2 {x y : V} {i : α} {j : β} (E : Env c ts (Vl c j :: Vl c i :: us) σ (y :: x :: vs) H) : ∃ P P', Py.rep c.X.K P x i ∧ Py.rep c.X.K P' y j := by
  obtain ⟨F1, F2, E⟩ := E
  obtain ⟨G1, G2, e, h1, G3, G4, e', h2, _⟩ := E.sk
  exact ⟨_, _, h2.2, h1.2⟩
theorem Env.top1 {x : V} {i : α} (E : Env c ts (Vl c i :: us) σ (x :: vs) H) : ∃ P, Part P H ∧ Py.rep c.X.K P x i := by
  obtain ⟨F1, F2, E⟩ := E
  obtain ⟨G1, G2, e, h1, _⟩ := E.sk
  exact ⟨_, E.part, h1.2⟩
theorem Env.ints {x y : V} {i j : Int} (E : Env c ts (Vl c j :: Vl c i :: us) σ (y :: x :: vs) H) : x = .int i ∧ y = .int j := by
  obtain ⟨_, _, h1, h2⟩ := E.top2
  exact ⟨h1, h2⟩

/-- ints: an operator that is always defined -/
theorem je_i0 {a b : Expr} {op : Operator} {pos : Pos} {ma mb : Out Int} {g : Int → Int → Int} (ho : OpR c.X (binaryOp op) (rI0 fun i j => .int (g i j))) (ha : JE c ts a ma (Vl c)) (hb : JE c ts b mb (Vl c)) :
    JE c ts (.BinOp a op b pos) (ma.bind fun i => mb.bind fun j => .ok (g i j)) (Vl c) :=
  je_bin ho ha hb fun {us σ vs H2 i j x y Q} E q => by
    obtain ⟨e1, e2⟩ := E.ints
    exact ⟨i, j, e1, e2, q _ H2 (Env.pushS (es := [_, _]) (ws := [_, _]) (K := c.X.K) (H0 := H2) E rfl rfl)⟩
end
/-- known only where p holds -/
def chk {α : Type} (p : Prop) [Decidable p] (x : α) : Out α := if p then .ok x else .bad
theorem chk_pos {α : Type} {p : Prop} [Decidable p] {x : α} (h : p) : chk p x = .ok x := if_pos h
theorem wp_chk {α : Type} {p : Prop} [Decidable p] {x : α} {Q : α → Prop} {E : Err → Prop} (h : (chk p x).wp Q E) : p ∧ Q x := by
  unfold chk at h
  split at h
  · rename_i hp
    exact ⟨hp, h⟩
  · exact h.elim
section
variable {c : Cw} {ts : List (Option Asn)} {us es : List Ent} {σ : Sl} {vs ws : List V} {H H' : Hp} {a b : Expr} {pos : Pos} {ma mb : Out Int}
/-- ints: an operator that asks something -/
theorem je_iC {op : Operator} {C : Int → Int → Prop} [∀ i j, Decidable (C i j)] {g : Int → Int → Int} (ho : OpR c.X (binaryOp op) (rI C fun i j => .int (g i j))) (ha : JE c ts a ma (Vl c)) (hb : JE c ts b mb (Vl c)) :
    JE c ts (.BinOp a op b pos) (ma.bind fun i => mb.bind fun j => chk (C i j) (g i j)) (Vl c) :=
  je_bin ho ha hb fun {us σ vs H2 i j x y Q} E q => by
    obtain ⟨e1, e2⟩ := E.ints
    obtain ⟨hc, q⟩ := wp_chk q
    exact ⟨i, j, e1, e2, hc, q _ H2 (Env.pushS (es := [_, _]) (ws := [_, _]) (K := c.X.K) (H0 := H2) E rfl rfl)⟩
/-- .. whose right side is written -/
theorem je_iK {op : Operator} {C : Int → Int → Prop} {g : Int → Int → Int} {k : Int} {n : Nat} {pos' : Pos} (ho : OpR c.X (binaryOp op) (rI C fun i j => .int (g i j))) (ha : JE c ts a ma (Vl c)) (hk : ∀ i, C i k) :
    JE c ts (.BinOp a op (.Constant (.int k) n pos') pos) (ma.bind fun i => .ok (g i k)) (Vl c) :=
  je_bin (f := fun i j => .ok (g i k)) (mb := .ok k) (B := fun _ => Vl c k) ho ha je_int fun {us σ vs H2 i j x y Q} E q => by
    obtain ⟨e1, e2⟩ := E.ints
    exact ⟨i, k, e1, e2, hk i, q _ H2 (Env.pushS (es := [_, _]) (ws := [_, _]) (K := c.X.K) (H0 := H2) E rfl rfl)⟩
/-- .. whose left side is written -/
theorem je_iKl {op : Operator} {C : Int → Int → Prop} {g : Int → Int → Int} {k : Int} {n : Nat} {pos' : Pos} (ho : OpR c.X (binaryOp op) (rI C fun i j => .int (g i j))) (hb : JE c ts b mb (Vl c)) (hk : ∀ i, C k i) :
    JE c ts (.BinOp (.Constant (.int k) n pos') op b pos) (mb.bind fun j => .ok (g k j)) (Vl c) :=
  je_bin (f := fun i j => .ok (g k j)) (ma := .ok k) (A := fun _ => Vl c k) ho je_int hb fun {us σ vs H2 i j x y Q} E q => by
    obtain ⟨e1, e2⟩ := E.ints
    exact ⟨k, j, e1, e2, hk j, q _ H2 (Env.pushS (es := [_, _]) (ws := [_, _]) (K := c.X.K) (H0 := H2) E rfl rfl)⟩
theorem je_add (ha : JE c ts a ma (Vl c)) (hb : JE c ts b mb (Vl c)) : JE c ts (.BinOp a .Add b pos) (ma.bind fun i => mb.bind fun j => .ok (i + j)) (Vl c) := je_i0 op_add ha hb
theorem je_sub (ha : JE c ts a ma (Vl c)) (hb : JE c ts b mb (Vl c)) : JE c ts (.BinOp a .Sub b pos) (ma.bind fun i => mb.bind fun j => .ok (i - j)) (Vl c) := je_i0 op_sub ha hb
theorem je_modK {k : Int} {n : Nat} {pos' : Pos} (ha : JE c ts a ma (Vl c)) (hk : 0 < k := by decide) : JE c ts (.BinOp a .Mod (.Constant (.int k) n pos') pos) (ma.bind fun i => .ok (i % k)) (Vl c) := je_iK op_mod ha fun _ => hk
theorem je_mod (ha : JE c ts a ma (Vl c)) (hb : JE c ts b mb (Vl c)) : JE c ts (.BinOp a .Mod b pos) (ma.bind fun i => mb.bind fun j => chk (0 < j) (i % j)) (Vl c) := je_iC op_mod ha hb
theorem je_divK {k : Int} {n : Nat} {pos' : Pos} (ha : JE c ts a ma (Vl c)) (hk : 0 < k ∧ k < 1073741824 := by decide) : JE c ts (.BinOp a .FloorDiv (.Constant (.int k) n pos') pos) (ma.bind fun i => .ok (i / k)) (Vl c) := je_iK op_fdiv ha fun _ => hk
theorem je_mulK {k : Int} {n : Nat} {pos' : Pos} (ha : JE c ts a ma (Vl c)) (hk : -(2 ^ 64) < k ∧ k < 2 ^ 64 := by decide) : JE c ts (.BinOp a .Mult (.Constant (.int k) n pos') pos) (ma.bind fun i => .ok (i * k)) (Vl c) := je_iK op_mul ha fun _ => .inr hk
theorem je_mulKl {k : Int} {n : Nat} {pos' : Pos} (hb : JE c ts b mb (Vl c)) (hk : -(2 ^ 64) < k ∧ k < 2 ^ 64 := by decide) : JE c ts (.BinOp (.Constant (.int k) n pos') .Mult b pos) (mb.bind fun i => .ok (k * i)) (Vl c) := je_iKl op_mul hb fun _ => .inl hk
instance (i j : Int) : Decidable (CMul i j) := by unfold CMul; infer_instance
theorem je_mul (ha : JE c ts a ma (Vl c)) (hb : JE c ts b mb (Vl c)) : JE c ts (.BinOp a .Mult b pos) (ma.bind fun i => mb.bind fun j => chk (CMul i j) (i * j)) (Vl c) := je_iC op_mul ha hb
/-- a power of written numbers -/
theorem je_powK {i k : Int} {n n' : Nat} {pos1 pos2 : Pos} (hk : 0 ≤ k ∧ k ≤ 1000000 ∧ i.natAbs < 2 ^ 64 := by decide) : JE c ts (.BinOp (.Constant (.int i) n pos1) .Pow (.Constant (.int k) n' pos2) pos) (.ok (i ^ k.toNat)) (Vl c) :=
  je_bin (f := fun _ _ => .ok (i ^ k.toNat)) (ma := .ok i) (mb := .ok k) (A := fun _ => Vl c i) (B := fun _ => Vl c k) op_pow je_int je_int fun {us σ vs H2 i' j x y Q} E q => by
    obtain ⟨e1, e2⟩ := E.ints
    exact ⟨i, k, e1, e2, hk, q _ H2 (Env.pushS (es := [_, _]) (ws := [_, _]) (K := c.X.K) (H0 := H2) E rfl rfl)⟩
end
end Mw
set_option maxRecDepth 100000
set_option maxHeartbeats 4000000
namespace Mw
open PySem PySem.Spec PyProof.Rows L2

/-! ### tests, truth values -/
section
variable {c : Cw} {ts : List (Option Asn)} {us es : List Ent} {σ : Sl} {vs ws : List V} {H H' : Hp} {α β γ : Type} [Py α] [Py β] [Py γ] {a b e : Expr} {pos : Pos}

theorem jt_of {m : Out Bool} {t : TE} (hp : PT c.X e (tTest t)) (h : ∀ σ H Q, tJ c ts m (Vl c) σ H Q → t σ H Q) : JT c ts e m :=
  PT.imp hp fun σ H Q ⟨us, vs, E, q⟩ => h σ H _ ⟨us, vs, E, Out.wp_mono q (fun b _ q v H' E' => by
    obtain ⟨_, _, h1⟩ := E'.top1
    exact ⟨b, h1, q H' (Env.pop (es := [_]) (ws := [_]) E' rfl)⟩) fun _ _ z => z⟩
/-- an expression worth a truth value, as a test -/
theorem jt_val {m : Out Bool} (h : JE c ts e m (Vl c)) (he : ∀ whole, isTrue e c.X.env whole = (do let v ← whole; standAt e.pos; holding [v] (truthy v)) := by intro _; rfl) : JT c ts e m :=
  jt_of (pt_val h he) fun _ _ _ z => z

theorem two_imp {ma : Out α} {mb : Out β} {A : α → Ent} {B : β → Ent} {C : γ → Ent} {f : α → β → Out γ} {r : R2}
    (hr : ∀ {us σ vs H2 i j x y Q}, Env c ts (B j :: A i :: us) σ (y :: x :: vs) H2 → (f i j).wp (fun z => ∀ v H', Env c ts (C z :: us) σ (v :: vs) H' → Q v H') (Ex c us σ vs) → r x y H2 Q)
    (σ : Sl) (H : Hp) (Q : VK) : tJ c ts (ma.bind fun i => mb.bind fun j => f i j) C σ H Q → tOp r (tJ c ts ma A) (tJ c ts mb B) σ H Q := fun ⟨us, vs, E, q⟩ => by
  refine ⟨us, vs, E, Out.wp_mono (Out.wp_bind q) (fun i _ q => ?_) fun _ _ h => h⟩
  intro x H1 E1
  refine ⟨_, _, E1, Out.wp_mono (Out.wp_bind q) (fun j _ q => ?_) fun e _ h => ?_⟩
  · intro y H2 E2
    exact hr E2 q
  · intro d H' e1 E3
    exact h d H' e1 (EnvX.pop (es := [A i]) (ws := [x]) E3 rfl)
/-- a comparison: as a value, as a test -/
theorem je_cmp {op : CmpOp} {ma : Out α} {mb : Out β} {A : α → Ent} {B : β → Ent} {f : α → β → Out Bool} {r : R2} (ho : OpR c.X (compareOp op) r)
    (hr : ∀ {us σ vs H2 i j x y Q}, Env c ts (B j :: A i :: us) σ (y :: x :: vs) H2 → (f i j).wp (fun z => ∀ v H', Env c ts (Vl c z :: us) σ (v :: vs) H' → Q v H') (Ex c us σ vs) → r x y H2 Q)
    (hm : behindInMarks op b = false) (ha : JE c ts a ma A) (hb : JE c ts b mb B) : JE c ts (.Compare a [op] [b] pos) (ma.bind fun i => mb.bind fun j => f i j) (Vl c) :=
  PE.imp (pe_cmpR ho ha hb hm) (two_imp hr)
theorem jt_cmp {op : CmpOp} {ma : Out α} {mb : Out β} {A : α → Ent} {B : β → Ent} {f : α → β → Out Bool} {r : R2} (ho : OpR c.X (compareOp op) r)
    (hr : ∀ {us σ vs H2 i j x y Q}, Env c ts (B j :: A i :: us) σ (y :: x :: vs) H2 → (f i j).wp (fun z => ∀ v H', Env c ts (Vl c z :: us) σ (v :: vs) H' → Q v H') (Ex c us σ vs) → r x y H2 Q)
    (hm : behindInMarks op b = false) (ha : JE c ts a ma A) (hb : JE c ts b mb B) : JT c ts (.Compare a [op] [b] pos) (ma.bind fun i => mb.bind fun j => f i j) :=
  jt_of (pt_cmpR ho ha hb hm) (two_imp hr)

theorem hr_ii {g : Int → Int → Bool} : ∀ {us σ vs H2} {i j : Int} {x y : V} {Q : VK}, Env c ts (Vl c j :: Vl c i :: us) σ (y :: x :: vs) H2 → (Out.ok (g i j)).wp (fun z => ∀ v H', Env c ts (Vl c z :: us) σ (v :: vs) H' → Q v H') (Ex c us σ vs) →
    rI0 (fun i j => .bl (g i j)) x y H2 Q := fun {us σ vs H2 i j x y Q} E q => by
  obtain ⟨e1, e2⟩ := E.ints
  exact ⟨i, j, e1, e2, q _ H2 (Env.pushS (es := [_, _]) (ws := [_, _]) (K := c.X.K) (H0 := H2) E rfl rfl)⟩
variable {ma mb : Out Int}
theorem je_lt (ha : JE c ts a ma (Vl c)) (hb : JE c ts b mb (Vl c)) : JE c ts (.Compare a [.Lt] [b] pos) (ma.bind fun i => mb.bind fun j => .ok (decide (i < j))) (Vl c) := je_cmp op_lt (hr_ii (g := fun i j => decide (i < j))) (nomark _) ha hb
theorem je_le (ha : JE c ts a ma (Vl c)) (hb : JE c ts b mb (Vl c)) : JE c ts (.Compare a [.LtE] [b] pos) (ma.bind fun i => mb.bind fun j => .ok (decide (i ≤ j))) (Vl c) := je_cmp op_le (hr_ii (g := fun i j => decide (i ≤ j))) (nomark _) ha hb
theorem je_gt (ha : JE c ts a ma (Vl c)) (hb : JE c ts b mb (Vl c)) : JE c ts (.Compare a [.Gt] [b] pos) (ma.bind fun i => mb.bind fun j => .ok (decide (j < i))) (Vl c) := je_cmp op_gt (hr_ii (g := fun i j => decide (j < i))) (nomark _) ha hb
theorem je_ge (ha : JE c ts a ma (Vl c)) (hb : JE c ts b mb (Vl c)) : JE c ts (.Compare a [.GtE] [b] pos) (ma.bind fun i => mb.bind fun j => .ok (decide (j ≤ i))) (Vl c) := je_cmp op_ge (hr_ii (g := fun i j => decide (j ≤ i))) (nomark _) ha hb
theorem jt_lt (ha : JE c ts a ma (Vl c)) (hb : JE c ts b mb (Vl c)) : JT c ts (.Compare a [.Lt] [b] pos) (ma.bind fun i => mb.bind fun j => .ok (decide (i < j))) := jt_cmp op_lt (hr_ii (g := fun i j => decide (i < j))) (nomark _) ha hb
theorem jt_le (ha : JE c ts a ma (Vl c)) (hb : JE c ts b mb (Vl c)) : JT c ts (.Compare a [.LtE] [b] pos) (ma.bind fun i => mb.bind fun j => .ok (decide (i ≤ j))) := jt_cmp op_le (hr_ii (g := fun i j => decide (i ≤ j))) (nomark _) ha hb
theorem jt_gt (ha : JE c ts a ma (Vl c)) (hb : JE c ts b mb (Vl c)) : JT c ts (.Compare a [.Gt] [b] pos) (ma.bind fun i => mb.bind fun j => .ok (decide (j < i))) := jt_cmp op_gt (hr_ii (g := fun i j => decide (j < i))) (nomark _) ha hb
theorem jt_ge (ha : JE c ts a ma (Vl c)) (hb : JE c ts b mb (Vl c)) : JT c ts (.Compare a [.GtE] [b] pos) (ma.bind fun i => mb.bind fun j => .ok (decide (j ≤ i))) := jt_cmp op_ge (hr_ii (g := fun i j => decide (j ≤ i))) (nomark _) ha hb
end

/-- values of one kind, compared by == -/
class PyE (α : Type) [Py α] [DecidableEq α] where
  val : α → V
  rep : ∀ {K : PySem.W.Frag} {H : Hp} {v : V} {x : α}, Py.rep K H v x → v = val x
  inj : ∀ {x y : α}, val x = val y → x = y
  sc : ∀ x y : α, scal (val x) (val y) = true
theorem PyE.dec {α : Type} [Py α] [DecidableEq α] [PyE α] (x y : α) : decide (PyE.val x = PyE.val y) = decide (x = y) := by
  by_cases h : x = y
  · subst h
    simp
  · rw [decide_eq_false h, decide_eq_false fun q => h (PyE.inj q)]
instance : PyE Int := ⟨V.int, fun h => h, fun h => by cases h; rfl, fun _ _ => rfl⟩
instance : PyE Bool := ⟨V.bl, fun h => h, fun h => by cases h; rfl, fun _ _ => rfl⟩
instance : PyE Str := ⟨V.str, fun h => h, fun h => by cases h; rfl, fun _ _ => rfl⟩
section
variable {c : Cw} {ts : List (Option Asn)} {α : Type} [Py α] [DecidableEq α] [PyE α] {a b e : Expr} {pos : Pos} {ma mb : Out α}
theorem hr_eq : ∀ {us σ vs H2} {i j : α} {x y : V} {Q : VK}, Env c ts (Vl c j :: Vl c i :: us) σ (y :: x :: vs) H2 → (Out.ok (decide (i = j))).wp (fun z => ∀ v H', Env c ts (Vl c z :: us) σ (v :: vs) H' → Q v H') (Ex c us σ vs) →
    rEq x y H2 Q := fun {us σ vs H2 i j x y Q} E q => by
  obtain ⟨_, _, h1, h2⟩ := E.top2
  rw [PyE.rep h1, PyE.rep h2] at E ⊢
  exact ⟨PyE.sc i j, q _ H2 (Env.pushS (es := [_, _]) (ws := [_, _]) (K := c.X.K) (H0 := H2) E rfl (by rw [PyE.dec] <;> rfl))⟩
theorem hr_ne : ∀ {us σ vs H2} {i j : α} {x y : V} {Q : VK}, Env c ts (Vl c j :: Vl c i :: us) σ (y :: x :: vs) H2 → (Out.ok (!decide (i = j))).wp (fun z => ∀ v H', Env c ts (Vl c z :: us) σ (v :: vs) H' → Q v H') (Ex c us σ vs) →
    rNe x y H2 Q := fun {us σ vs H2 i j x y Q} E q => by
  obtain ⟨_, _, h1, h2⟩ := E.top2
  rw [PyE.rep h1, PyE.rep h2] at E ⊢
  exact ⟨PyE.sc i j, q _ H2 (Env.pushS (es := [_, _]) (ws := [_, _]) (K := c.X.K) (H0 := H2) E rfl (by rw [PyE.dec] <;> rfl))⟩
theorem je_eq (ha : JE c ts a ma (Vl c)) (hb : JE c ts b mb (Vl c)) : JE c ts (.Compare a [.Eq] [b] pos) (ma.bind fun i => mb.bind fun j => .ok (decide (i = j))) (Vl c) := je_cmp op_eq hr_eq (nomark _) ha hb
theorem je_ne (ha : JE c ts a ma (Vl c)) (hb : JE c ts b mb (Vl c)) : JE c ts (.Compare a [.NotEq] [b] pos) (ma.bind fun i => mb.bind fun j => .ok (!decide (i = j))) (Vl c) := je_cmp op_ne hr_ne (nomark _) ha hb
theorem jt_eq (ha : JE c ts a ma (Vl c)) (hb : JE c ts b mb (Vl c)) : JT c ts (.Compare a [.Eq] [b] pos) (ma.bind fun i => mb.bind fun j => .ok (decide (i = j))) := jt_cmp op_eq hr_eq (nomark _) ha hb
theorem jt_ne (ha : JE c ts a ma (Vl c)) (hb : JE c ts b mb (Vl c)) : JT c ts (.Compare a [.NotEq] [b] pos) (ma.bind fun i => mb.bind fun j => .ok (!decide (i = j))) := jt_cmp op_ne hr_ne (nomark _) ha hb
end

/-! data, compared by == at any depth -/
class PyD (α : Type) [Py α] [DecidableEq α] where
  enc : α → PyData
  dep : Nat
  dp : ∀ {K : PySem.W.Frag} {H : Hp} {x : α} {v : V}, Py.rep K H v x → Dp K H v (enc x)
  plain : ∀ x : α, (enc x).plain = true
  depth : ∀ x : α, (enc x).depth ≤ dep
  eqv : ∀ x y : α, PyData.eqv (enc x) (enc y) = decide (x = y)
instance : PyD Int := ⟨.int, 0, fun h => by rw [show _ = V.int _ from h]; exact .int _, fun _ => rfl, fun _ => Nat.le_refl _, fun x y => by simp only [PyData.eqv]; exact Bool.beq_eq_decide_eq x y⟩
instance : PyD Bool := ⟨.bool, 0, fun h => by rw [show _ = V.bl _ from h]; exact .bl _, fun _ => rfl, fun _ => Nat.le_refl _, fun x y => by simp only [PyData.eqv]; exact Bool.beq_eq_decide_eq x y⟩
instance : PyD Str := ⟨.str, 0, fun h => by rw [show _ = V.str _ from h]; exact .str _, fun _ => rfl, fun _ => Nat.le_refl _, fun x y => by simp only [PyData.eqv]; exact Bool.beq_eq_decide_eq x y⟩
theorem dpAll_of {α : Type} [Py α] [DecidableEq α] [PyD α] {K : PySem.W.Frag} {H : Hp} : ∀ {vs : List V} {xs : List α}, Reps K H vs xs → DpAll K H vs (xs.map PyD.enc)
  | _, _, .nil => .nil
  | _, _, .cons r t => .cons (PyD.dp r) (dpAll_of t)
theorem plainAll_of {α : Type} [Py α] [DecidableEq α] [PyD α] : ∀ xs : List α, PyData.plainAll (xs.map PyD.enc) = true
  | [] => rfl
  | x :: xs => by
    show (PyData.plain (PyD.enc x) && PyData.plainAll (xs.map PyD.enc)) = true
    rw [PyD.plain, plainAll_of xs, Bool.and_self]
theorem depthAll_of {α : Type} [Py α] [DecidableEq α] [PyD α] : ∀ xs : List α, PyData.depthAll (xs.map PyD.enc) ≤ PyD.dep α
  | [] => Nat.zero_le _
  | x :: xs => by
    show max (PyData.depth (PyD.enc x)) (PyData.depthAll (xs.map PyD.enc)) ≤ _
    have := PyD.depth x
    have := depthAll_of xs
    omega
theorem eqvAll_of {α : Type} [Py α] [DecidableEq α] [PyD α] : ∀ xs ys : List α, PyData.eqvAll (xs.map PyD.enc) (ys.map PyD.enc) = decide (xs = ys)
  | [], [] => by simp [PyData.eqvAll]
  | [], y :: ys => by simp [PyData.eqvAll]
  | x :: xs, [] => by simp [PyData.eqvAll]
  | x :: xs, y :: ys => by
    show (PyData.eqv (PyD.enc x) (PyD.enc y) && PyData.eqvAll (xs.map PyD.enc) (ys.map PyD.enc)) = _
    rw [PyD.eqv, eqvAll_of xs ys]
    by_cases h : x = y <;> by_cases h' : xs = ys <;> simp [h, h']
instance {α : Type} [Py α] [DecidableEq α] [PyD α] : PyD (List α) where
  enc := fun xs => .list (xs.map PyD.enc)
  dep := PyD.dep α + 1
  dp := fun ⟨a, vs, e, h, r⟩ => by
    subst e
    exact .lst (SqL.of h) (dpAll_of r)
  plain := fun xs => plainAll_of xs
  depth := fun xs => Nat.succ_le_succ (depthAll_of xs)
  eqv := fun xs ys => by
    show PyData.eqvAll _ _ = _
    rw [eqvAll_of]
instance {α : Type} [Py α] [DecidableEq α] [PyD α] : PyD (Tup α) where
  enc := fun xs => .tuple (xs.l.map PyD.enc)
  dep := PyD.dep α + 1
  dp := fun ⟨a, vs, e, h, r⟩ => by
    subst e
    exact .tup h (dpAll_of r)
  plain := fun xs => plainAll_of xs.l
  depth := fun xs => Nat.succ_le_succ (depthAll_of xs.l)
  eqv := fun xs ys => by
    show PyData.eqvAll _ _ = _
    rw [eqvAll_of]
    obtain ⟨xs⟩ := xs
    obtain ⟨ys⟩ := ys
    by_cases h : xs = ys <;> simp [h]
instance {α β : Type} [Py α] [DecidableEq α] [PyD α] [Py β] [DecidableEq β] [PyD β] : PyD (α × β) where
  enc := fun x => .tuple [PyD.enc x.1, PyD.enc x.2]
  dep := max (PyD.dep α) (PyD.dep β) + 1
  dp := fun ⟨a, v1, v2, e, h, r1, r2⟩ => by
    subst e
    exact .tup h (.cons (PyD.dp r1) (.cons (PyD.dp r2) .nil))
  plain := fun x => by
    show (PyData.plain (PyD.enc x.1) && (PyData.plain (PyD.enc x.2) && true)) = true
    rw [PyD.plain, PyD.plain] <;> rfl
  depth := fun x => by
    show max (PyData.depth (PyD.enc x.1)) (max (PyData.depth (PyD.enc x.2)) 0) + 1 ≤ _
    have := PyD.depth x.1
    have := PyD.depth x.2
    omega
  eqv := fun x y => by
    obtain ⟨x1, x2⟩ := x
    obtain ⟨y1, y2⟩ := y
    show (PyData.eqv (PyD.enc x1) (PyD.enc y1) && (PyData.eqv (PyD.enc x2) (PyD.enc y2) && true)) = _
    rw [PyD.eqv, PyD.eqv]
    by_cases h : x1 = y1 <;> by_cases h' : x2 = y2 <;> simp [h, h']
instance {α β γ : Type} [Py α] [DecidableEq α] [PyD α] [Py β] [DecidableEq β] [PyD β] [Py γ] [DecidableEq γ] [PyD γ] : PyD (T3 α β γ) where
  enc := fun x => .tuple [PyD.enc x.a, PyD.enc x.b, PyD.enc x.c]
  dep := max (PyD.dep α) (max (PyD.dep β) (PyD.dep γ)) + 1
  dp := fun ⟨a, v1, v2, v3, e, h, r1, r2, r3⟩ => by
    subst e
    exact .tup h (.cons (PyD.dp r1) (.cons (PyD.dp r2) (.cons (PyD.dp r3) .nil)))
  plain := fun x => by
    show (PyData.plain (PyD.enc x.a) && (PyData.plain (PyD.enc x.b) && (PyData.plain (PyD.enc x.c) && true))) = true
    rw [PyD.plain, PyD.plain, PyD.plain] <;> rfl
  depth := fun x => by
    show max (PyData.depth (PyD.enc x.a)) (max (PyData.depth (PyD.enc x.b)) (max (PyData.depth (PyD.enc x.c)) 0)) + 1 ≤ _
    have := PyD.depth x.a
    have := PyD.depth x.b
    have := PyD.depth x.c
    omega
  eqv := fun x y => by
    obtain ⟨x1, x2, x3⟩ := x
    obtain ⟨y1, y2, y3⟩ := y
    show (PyData.eqv (PyD.enc x1) (PyD.enc y1) && (PyData.eqv (PyD.enc x2) (PyD.enc y2) && (PyData.eqv (PyD.enc x3) (PyD.enc y3) && true))) = _
    rw [PyD.eqv, PyD.eqv, PyD.eqv]
    by_cases h : x1 = y1 <;> by_cases h' : x2 = y2 <;> by_cases h3 : x3 = y3 <;> simp [h, h', h3]

section
variable {X : Cx}
def rEqP (K : PySem.W.Frag) : R2 := fun x y H Q => ∃ d e, Dp K H x d ∧ Dp K H y e ∧ d.plain = true ∧ e.plain = true ∧ d.depth ≤ 64 ∧ Q (.bl (PyData.eqv d e)) H
def rNeP (K : PySem.W.Frag) : R2 := fun x y H Q => ∃ d e, Dp K H x d ∧ Dp K H y e ∧ d.plain = true ∧ e.plain = true ∧ d.depth ≤ 64 ∧ Q (.bl (!PyData.eqv d e)) H
theorem op_eqP (hu : X.A.units + 64 < cLine) : OpR X (compareOp .Eq) (rEqP X.K) := by
  intro pins s σ H x y v u Q I rx ry h
  obtain ⟨d, e, hd, he, sd, se, hdp, q⟩ := h
  obtain ⟨as, r1⟩ := Dp.reads I d x v hd rx
  obtain ⟨bs, r2⟩ := Dp.reads I e y u he ry
  refine SeqAt.eq_plain r1 r2 sd se ?_ ⟨.bl _, H, I, rfl, q⟩
  have : min d.depth e.depth ≤ d.depth := Nat.min_le_left _ _
  omega
theorem op_neP (hu : X.A.units + 64 < cLine) : OpR X (compareOp .NotEq) (rNeP X.K) := by
  intro pins s σ H x y v u Q I rx ry h
  obtain ⟨d, e, hd, he, sd, se, hdp, q⟩ := h
  obtain ⟨as, r1⟩ := Dp.reads I d x v hd rx
  obtain ⟨bs, r2⟩ := Dp.reads I e y u he ry
  refine SeqAt.ne_plain r1 r2 sd se ?_ ⟨.bl _, H, I, rfl, q⟩
  have : min d.depth e.depth ≤ d.depth := Nat.min_le_left _ _
  omega
end
section
variable {c : Cw} {ts : List (Option Asn)} {α : Type} [Py α] [DecidableEq α] [PyD α] {a b e : Expr} {pos : Pos} {ma mb : Out α} {A B : α → Ent}
theorem Env.rd2 {β : Type} [Py β] {us : List Ent} {σ : Sl} {vs : List V} {H : Hp} {i : α} {j : β} {x y : V} {eA eB : Ent} (rA : Rd c ts eA i) (rB : Rd c ts eB j) (E : Env c ts (eB :: eA :: us) σ (y :: x :: vs) H) : Py.rep c.X.K H x i ∧ Py.rep c.X.K H y j := by
  obtain ⟨F1, F2, E⟩ := E
  obtain ⟨G1, G2, e, h1, G3, G4, e', h2, _⟩ := E.sk
  exact ⟨rA E.part E.g E.sl h2, rB E.part E.g E.sl h1⟩
theorem hr_eqD (hd : PyD.dep α ≤ 64) (rA : ∀ i, Rd c ts (A i) i) (rB : ∀ j, Rd c ts (B j) j) : ∀ {us σ vs H2} {i j : α} {x y : V} {Q : VK}, Env c ts (B j :: A i :: us) σ (y :: x :: vs) H2 → (Out.ok (decide (i = j))).wp (fun z => ∀ v H', Env c ts (Vl c z :: us) σ (v :: vs) H' → Q v H') (Ex c us σ vs) →
    rEqP c.X.K x y H2 Q := fun {us σ vs H2 i j x y Q} E q => by
  obtain ⟨h1, h2⟩ := E.rd2 (rA i) (rB j)
  refine ⟨_, _, PyD.dp h1, PyD.dp h2, PyD.plain i, PyD.plain j, Nat.le_trans (PyD.depth i) hd, ?_⟩
  rw [PyD.eqv]
  exact q _ H2 (Env.pushS (es := [_, _]) (ws := [_, _]) (K := c.X.K) (H0 := H2) E rfl rfl)
theorem hr_neD (hd : PyD.dep α ≤ 64) (rA : ∀ i, Rd c ts (A i) i) (rB : ∀ j, Rd c ts (B j) j) : ∀ {us σ vs H2} {i j : α} {x y : V} {Q : VK}, Env c ts (B j :: A i :: us) σ (y :: x :: vs) H2 → (Out.ok (!decide (i = j))).wp (fun z => ∀ v H', Env c ts (Vl c z :: us) σ (v :: vs) H' → Q v H') (Ex c us σ vs) →
    rNeP c.X.K x y H2 Q := fun {us σ vs H2 i j x y Q} E q => by
  obtain ⟨h1, h2⟩ := E.rd2 (rA i) (rB j)
  refine ⟨_, _, PyD.dp h1, PyD.dp h2, PyD.plain i, PyD.plain j, Nat.le_trans (PyD.depth i) hd, ?_⟩
  rw [PyD.eqv]
  exact q _ H2 (Env.pushS (es := [_, _]) (ws := [_, _]) (K := c.X.K) (H0 := H2) E rfl rfl)
theorem je_eqD {k : Nat} (hr : Room k c.X.A) (ha : JE c ts a ma A) (hb : JE c ts b mb B) (rA : ∀ i, Rd c ts (A i) i) (rB : ∀ j, Rd c ts (B j) j) (hd : PyD.dep α ≤ 64 := by decide) : JE c ts (.Compare a [.Eq] [b] pos) (ma.bind fun i => mb.bind fun j => .ok (decide (i = j))) (Vl c) := je_cmp (op_eqP hr.units) (hr_eqD hd rA rB) (nomark _) ha hb
theorem je_neD {k : Nat} (hr : Room k c.X.A) (ha : JE c ts a ma A) (hb : JE c ts b mb B) (rA : ∀ i, Rd c ts (A i) i) (rB : ∀ j, Rd c ts (B j) j) (hd : PyD.dep α ≤ 64 := by decide) : JE c ts (.Compare a [.NotEq] [b] pos) (ma.bind fun i => mb.bind fun j => .ok (!decide (i = j))) (Vl c) := je_cmp (op_neP hr.units) (hr_neD hd rA rB) (nomark _) ha hb
theorem jt_eqD {k : Nat} (hr : Room k c.X.A) (ha : JE c ts a ma A) (hb : JE c ts b mb B) (rA : ∀ i, Rd c ts (A i) i) (rB : ∀ j, Rd c ts (B j) j) (hd : PyD.dep α ≤ 64 := by decide) : JT c ts (.Compare a [.Eq] [b] pos) (ma.bind fun i => mb.bind fun j => .ok (decide (i = j))) := jt_cmp (op_eqP hr.units) (hr_eqD hd rA rB) (nomark _) ha hb
theorem jt_neD {k : Nat} (hr : Room k c.X.A) (ha : JE c ts a ma A) (hb : JE c ts b mb B) (rA : ∀ i, Rd c ts (A i) i) (rB : ∀ j, Rd c ts (B j) j) (hd : PyD.dep α ≤ 64 := by decide) : JT c ts (.Compare a [.NotEq] [b] pos) (ma.bind fun i => mb.bind fun j => .ok (!decide (i = j))) := jt_cmp (op_neP hr.units) (hr_neD hd rA rB) (nomark _) ha hb
end

/-! and, or, not, a if t else b, a < b < c, is None -/
section
variable {c : Cw} {ts : List (Option Asn)} {us es : List Ent} {σ : Sl} {vs ws : List V} {H H' : Hp} {α β γ : Type} [Py α] {a b d e : Expr} {rest : List Expr} {pos : Pos} {ma mb : Out Bool}
/-- a test whatever its whole is -/
def JW (c : Cw) (ts : List (Option Asn)) (e : Expr) (m : Out Bool) : Prop := PW c.X e (tT c ts m)
theorem PW.imp {X : Cx} {e : Expr} {t t' : TT} (h : PW X e t) (i : ∀ σ H Q, t' σ H Q → t σ H Q) : PW X e t' := ⟨fun wh pins s σ H Q I q => h.run wh pins s σ H Q I (i σ H Q q)⟩
theorem jw_and1 (ha : JT c ts a ma) : JW c ts (.BoolOp .And [a] pos) ma := pw_and1 ha
theorem jw_or1 (ha : JT c ts a ma) : JW c ts (.BoolOp .Or [a] pos) ma := pw_or1 ha
theorem jw_and (ha : JT c ts a ma) (hb : JW c ts (.BoolOp .And (b :: rest) pos) mb) : JW c ts (.BoolOp .And (a :: b :: rest) pos) (ma.bind fun x => if x = true then mb else .ok false) :=
  PW.imp (pw_and ha hb) fun σ H Q ⟨us, vs, E, q⟩ => ⟨us, vs, E, Out.wp_mono (Out.wp_bind q) (fun x _ q H' E' => by
    cases x with
    | true => exact ⟨us, vs, E', q⟩
    | false => exact q H' E') fun _ _ z => z⟩
theorem jw_or (ha : JT c ts a ma) (hb : JW c ts (.BoolOp .Or (b :: rest) pos) mb) : JW c ts (.BoolOp .Or (a :: b :: rest) pos) (ma.bind fun x => if x = true then .ok true else mb) :=
  PW.imp (pw_or ha hb) fun σ H Q ⟨us, vs, E, q⟩ => ⟨us, vs, E, Out.wp_mono (Out.wp_bind q) (fun x _ q H' E' => by
    cases x with
    | false => exact ⟨us, vs, E', q⟩
    | true => exact q H' E') fun _ _ z => z⟩
/-- .. whose right side is always known -/
theorem jw_andT {y : Bool} (ha : JT c ts a ma) (hb : JW c ts (.BoolOp .And (b :: rest) pos) (.ok y)) : JW c ts (.BoolOp .And (a :: b :: rest) pos) (ma.bind fun x => .ok (x && y)) := by
  have e : (ma.bind fun x => if x = true then .ok y else .ok false) = ma.bind fun x => .ok (x && y) := by
    congr 1
    funext x
    cases x <;> rfl
  rw [← e]
  exact jw_and ha hb
theorem jw_orT {y : Bool} (ha : JT c ts a ma) (hb : JW c ts (.BoolOp .Or (b :: rest) pos) (.ok y)) : JW c ts (.BoolOp .Or (a :: b :: rest) pos) (ma.bind fun x => .ok (x || y)) := by
  have e : (ma.bind fun x => if x = true then .ok true else .ok y) = ma.bind fun x => .ok (x || y) := by
    congr 1
    funext x
    cases x <;> rfl
  rw [← e]
  exact jw_or ha hb
theorem jt_w (h : JW c ts e ma) : JT c ts e ma := PW.pt h
theorem jt_not (ha : JT c ts a ma) : JT c ts (.UnaryOp .Not a pos) (ma.bind fun x => .ok (!x)) :=
  PT.imp (pt_not ha) fun σ H Q ⟨us, vs, E, q⟩ => ⟨us, vs, E, Out.wp_mono (Out.wp_bind q) (fun x _ q H' E' => q H' E') fun _ _ z => z⟩
theorem Env.b1 {x : V} {i : Bool} (E : Env c ts (Vl c i :: us) σ (x :: vs) H) : x = .bl i ∧ Env c ts us σ vs H := by
  obtain ⟨_, _, h1⟩ := E.top1
  exact ⟨h1, Env.pop (es := [_]) (ws := [_]) E rfl⟩
theorem Env.pushB {i : Bool} (E : Env c ts us σ vs H) : Env c ts (Vl c i :: us) σ (.bl i :: vs) H := Env.pushS (es := []) (ws := []) (K := c.X.K) (H0 := H) E rfl rfl
theorem je_one {op : BoolOp} (ha : JE c ts a ma (Vl c)) : JE c ts (.BoolOp op [a] pos) ma (Vl c) := pe_one ha
theorem je_and (ha : JE c ts a ma (Vl c)) (hb : JE c ts (.BoolOp .And (b :: rest) pos) mb (Vl c)) : JE c ts (.BoolOp .And (a :: b :: rest) pos) (ma.bind fun x => if x = true then mb else .ok false) (Vl c) :=
  PE.imp (pe_and ha hb) fun σ H Q ⟨us, vs, E, q⟩ => ⟨us, vs, E, Out.wp_mono (Out.wp_bind q) (fun x _ q v H' E' => by
    obtain ⟨e, E2⟩ := E'.b1
    refine ⟨x, e, ?_⟩
    cases x with
    | true => exact ⟨us, vs, E2, q⟩
    | false => exact q _ H' E2.pushB) fun _ _ z => z⟩
theorem je_or (ha : JE c ts a ma (Vl c)) (hb : JE c ts (.BoolOp .Or (b :: rest) pos) mb (Vl c)) : JE c ts (.BoolOp .Or (a :: b :: rest) pos) (ma.bind fun x => if x = true then .ok true else mb) (Vl c) :=
  PE.imp (pe_or ha hb) fun σ H Q ⟨us, vs, E, q⟩ => ⟨us, vs, E, Out.wp_mono (Out.wp_bind q) (fun x _ q v H' E' => by
    obtain ⟨e, E2⟩ := E'.b1
    refine ⟨x, e, ?_⟩
    cases x with
    | false => exact ⟨us, vs, E2, q⟩
    | true => exact q _ H' E2.pushB) fun _ _ z => z⟩
theorem je_andT {y : Bool} (ha : JE c ts a ma (Vl c)) (hb : JE c ts (.BoolOp .And (b :: rest) pos) (.ok y) (Vl c)) : JE c ts (.BoolOp .And (a :: b :: rest) pos) (ma.bind fun x => .ok (x && y)) (Vl c) := by
  have e : (ma.bind fun x => if x = true then .ok y else .ok false) = ma.bind fun x => .ok (x && y) := by
    congr 1
    funext x
    cases x <;> rfl
  rw [← e]
  exact je_and ha hb
theorem je_orT {y : Bool} (ha : JE c ts a ma (Vl c)) (hb : JE c ts (.BoolOp .Or (b :: rest) pos) (.ok y) (Vl c)) : JE c ts (.BoolOp .Or (a :: b :: rest) pos) (ma.bind fun x => .ok (x || y)) (Vl c) := by
  have e : (ma.bind fun x => if x = true then .ok true else .ok y) = ma.bind fun x => .ok (x || y) := by
    congr 1
    funext x
    cases x <;> rfl
  rw [← e]
  exact je_or ha hb
theorem je_not (ha : JE c ts a ma (Vl c)) : JE c ts (.UnaryOp .Not a pos) (ma.bind fun x => .ok (!x)) (Vl c) :=
  PE.imp (pe_not ha) fun σ H Q ⟨us, vs, E, q⟩ => ⟨us, vs, E, Out.wp_mono (Out.wp_bind q) (fun x _ q v H' E' => by
    obtain ⟨e, E2⟩ := E'.b1
    exact ⟨x, e, q _ H' E2.pushB⟩) fun _ _ z => z⟩
theorem je_neg {ma : Out Int} (ha : JE c ts a ma (Vl c)) : JE c ts (.UnaryOp .USub a pos) (ma.bind fun x => .ok (-x)) (Vl c) :=
  PE.imp (pe_un un_neg ha) fun σ H Q ⟨us, vs, E, q⟩ => ⟨us, vs, E, Out.wp_mono (Out.wp_bind q) (fun x _ q v H' E' => by
    obtain ⟨_, _, h1⟩ := E'.top1
    exact ⟨x, h1, q _ H' (Env.pushS (es := [_]) (ws := [_]) (K := c.X.K) (H0 := H') E' rfl rfl)⟩) fun _ _ z => z⟩
/-- a if t else b -/
theorem je_if {mt : Out Bool} {m1 m2 : Out α} {A : α → Ent} (ht : JT c ts d mt) (ha : JE c ts a m1 A) (hb : JE c ts b m2 A) : JE c ts (.IfExp d a b pos) (mt.bind fun x => if x = true then m1 else m2) A :=
  PE.imp (pe_ifExp ht ha hb) fun σ H Q ⟨us, vs, E, q⟩ => ⟨us, vs, E, Out.wp_mono (Out.wp_bind q) (fun x _ q H' E' => by
    cases x with
    | true => exact ⟨us, vs, E', q⟩
    | false => exact ⟨us, vs, E', q⟩) fun _ _ z => z⟩
theorem je_ifT {mt : Out Bool} {y1 y2 : α} {A : α → Ent} (ht : JT c ts d mt) (ha : JE c ts a (.ok y1) A) (hb : JE c ts b (.ok y2) A) : JE c ts (.IfExp d a b pos) (mt.bind fun x => .ok (if x = true then y1 else y2)) A := by
  have e : (mt.bind fun x => if x = true then .ok y1 else .ok y2) = mt.bind fun x => .ok (if x = true then y1 else y2) := by
    congr 1
    funext x
    cases x <;> rfl
  rw [← e]
  exact je_if ht ha hb
/-- a < b < c -/
theorem chain_imp {op : CmpOp} {p q : Int → Int → Bool} {m1 m2 m3 : Out Int} (σ : Sl) (H : Hp) (Q : VK) :
    tJ c ts (m1.bind fun i => m2.bind fun j => if p i j = true then m3.bind fun k => .ok (q j k) else .ok false) (Vl c) σ H Q → tChain (rI0 fun i j => .bl (p i j)) (rI0 fun i j => .bl (q i j)) (tJ c ts m1 (Vl c)) (tJ c ts m2 (Vl c)) (tJ c ts m3 (Vl c)) σ H Q := fun ⟨us, vs, E, h⟩ => by
  refine ⟨us, vs, E, Out.wp_mono (Out.wp_bind h) (fun i _ h => ?_) fun _ _ z => z⟩
  intro x H1 E1
  refine ⟨_, _, E1, Out.wp_mono (Out.wp_bind h) (fun j _ h => ?_) fun e _ z => ?_⟩
  · intro y H2 E2
    obtain ⟨e1, e2⟩ := E2.ints
    refine ⟨i, j, e1, e2, p i j, rfl, ?_⟩
    by_cases hp : p i j = true
    · rw [if_pos hp] at h ⊢
      refine ⟨_, _, E2, Out.wp_mono (Out.wp_bind h) (fun k _ h => ?_) fun e _ z => ?_⟩
      · intro w H3 E3
        have E4 := E3
        obtain ⟨F1, F2, E4⟩ := E4
        obtain ⟨G1, G2, _, h1, _⟩ := E4.sk
        exact ⟨j, k, e2, h1.2, h _ H3 (Env.pushS (es := [_, _, _]) (ws := [_, _, _]) (K := c.X.K) (H0 := H2) E3 rfl rfl)⟩
      · intro d H' e1 E3
        exact z d H' e1 (EnvX.pop (es := [_, _]) (ws := [_, _]) E3 rfl)
    · rw [if_neg hp] at h
      rw [if_neg hp]
      exact h _ H2 (Env.pushB (Env.pop (es := [_, _]) (ws := [_, _]) E2 rfl))
  · intro d H' e1 E3
    exact z d H' e1 (EnvX.pop (es := [_]) (ws := [_]) E3 rfl)
theorem je_chain {op op' : CmpOp} {p q : Int → Int → Bool} {m1 m2 m3 : Out Int} (ho : OpR c.X (compareOp op) (rI0 fun i j => .bl (p i j))) (ho' : OpR c.X (compareOp op') (rI0 fun i j => .bl (q i j)))
    (ha : JE c ts a m1 (Vl c)) (hb : JE c ts b m2 (Vl c)) (hd : JE c ts d m3 (Vl c)) (hm : lastMarks [op, op'] [b, d] = false := by with_unfolding_all rfl) :
    JE c ts (.Compare a [op, op'] [b, d] pos) (m1.bind fun i => m2.bind fun j => if p i j = true then m3.bind fun k => .ok (q j k) else .ok false) (Vl c) :=
  PE.imp (pe_chain ho ho' ha hb hd hm) (chain_imp (op := op))
theorem jt_chain {op op' : CmpOp} {p q : Int → Int → Bool} {m1 m2 m3 : Out Int} (ho : OpR c.X (compareOp op) (rI0 fun i j => .bl (p i j))) (ho' : OpR c.X (compareOp op') (rI0 fun i j => .bl (q i j)))
    (ha : JE c ts a m1 (Vl c)) (hb : JE c ts b m2 (Vl c)) (hd : JE c ts d m3 (Vl c)) (hm : lastMarks [op, op'] [b, d] = false := by with_unfolding_all rfl) :
    JT c ts (.Compare a [op, op'] [b, d] pos) (m1.bind fun i => m2.bind fun j => if p i j = true then m3.bind fun k => .ok (q j k) else .ok false) :=
  jt_of (pt_chain ho ho' ha hb hd hm) (chain_imp (op := op))
theorem chainT {p q : Int → Int → Bool} {m1 m2 : Out Int} {z : Int} : (m1.bind fun i => m2.bind fun j => if p i j = true then (Out.ok z).bind fun k => .ok (q j k) else .ok false) = m1.bind fun i => m2.bind fun j => .ok (p i j && q j z) := by
  congr 1
  funext i
  congr 1
  funext j
  cases p i j <;> rfl
theorem je_chainT {op op' : CmpOp} {p q : Int → Int → Bool} {m1 m2 : Out Int} {z : Int} (ho : OpR c.X (compareOp op) (rI0 fun i j => .bl (p i j))) (ho' : OpR c.X (compareOp op') (rI0 fun i j => .bl (q i j)))
    (ha : JE c ts a m1 (Vl c)) (hb : JE c ts b m2 (Vl c)) (hd : JE c ts d (.ok z) (Vl c)) (hm : lastMarks [op, op'] [b, d] = false := by with_unfolding_all rfl) :
    JE c ts (.Compare a [op, op'] [b, d] pos) (m1.bind fun i => m2.bind fun j => .ok (p i j && q j z)) (Vl c) := by
  rw [← chainT]
  exact je_chain ho ho' ha hb hd hm
theorem jt_chainT {op op' : CmpOp} {p q : Int → Int → Bool} {m1 m2 : Out Int} {z : Int} (ho : OpR c.X (compareOp op) (rI0 fun i j => .bl (p i j))) (ho' : OpR c.X (compareOp op') (rI0 fun i j => .bl (q i j)))
    (ha : JE c ts a m1 (Vl c)) (hb : JE c ts b m2 (Vl c)) (hd : JE c ts d (.ok z) (Vl c)) (hm : lastMarks [op, op'] [b, d] = false := by with_unfolding_all rfl) :
    JT c ts (.Compare a [op, op'] [b, d] pos) (m1.bind fun i => m2.bind fun j => .ok (p i j && q j z)) := by
  rw [← chainT]
  exact jt_chain ho ho' ha hb hd hm
/-- x is None, x is not None -/
theorem isN_imp {m : Out (Option α)} {A : Option α → Ent} {neg : Bool} (rA : ∀ i, Rd c ts (A i) i) (σ : Sl) (H : Hp) (Q : VK) :
    tJ c ts (m.bind fun x => .ok (bif neg then !x.isNone else x.isNone)) (Vl c) σ H Q → tOp (fun x y H Q => y = .non ∧ Q (.bl (bif neg then !decide (x = .non) else decide (x = .non))) H) (tJ c ts m A) (tC .non) σ H Q := fun ⟨us, vs, E, h⟩ => by
  refine ⟨us, vs, E, Out.wp_mono (Out.wp_bind h) (fun i _ h => ?_) fun _ _ z => z⟩
  intro x H1 E1
  have E2 := E1
  obtain ⟨F1, F2, E2⟩ := E2
  obtain ⟨G1, G2, e, h1, _⟩ := E2.sk
  have r := rA i E2.part E2.g E2.sl h1
  have ex : decide (x = .non) = i.isNone := by
    cases i with
    | none =>
      have r' : x = .non := r
      rw [r']
      rfl
    | some y => exact decide_eq_false r.2
  refine ⟨rfl, ?_⟩
  rw [ex]
  exact h _ H1 (Env.pushB (Env.pop (es := [_]) (ws := [_]) E1 rfl))
theorem je_isN {m : Out (Option α)} {A : Option α → Ent} {k : Nat} {pos' : Pos} (ha : JE c ts a m A) (rA : ∀ i, Rd c ts (A i) i) : JE c ts (.Compare a [.Is] [.Constant .none k pos'] pos) (m.bind fun x => .ok x.isNone) (Vl c) := PE.imp (pe_cmpR op_isN ha pe_non (nomark _)) (isN_imp (neg := false) rA)
theorem je_notN {m : Out (Option α)} {A : Option α → Ent} {k : Nat} {pos' : Pos} (ha : JE c ts a m A) (rA : ∀ i, Rd c ts (A i) i) : JE c ts (.Compare a [.IsNot] [.Constant .none k pos'] pos) (m.bind fun x => .ok (!x.isNone)) (Vl c) := PE.imp (pe_cmpR op_notN ha pe_non (nomark _)) (isN_imp (neg := true) rA)
theorem jt_isN {m : Out (Option α)} {A : Option α → Ent} {k : Nat} {pos' : Pos} (ha : JE c ts a m A) (rA : ∀ i, Rd c ts (A i) i) : JT c ts (.Compare a [.Is] [.Constant .none k pos'] pos) (m.bind fun x => .ok x.isNone) := jt_of (pt_cmpR op_isN ha pe_non (nomark _)) (isN_imp (neg := false) rA)
theorem jt_notN {m : Out (Option α)} {A : Option α → Ent} {k : Nat} {pos' : Pos} (ha : JE c ts a m A) (rA : ∀ i, Rd c ts (A i) i) : JT c ts (.Compare a [.IsNot] [.Constant .none k pos'] pos) (m.bind fun x => .ok (!x.isNone)) := jt_of (pt_cmpR op_notN ha pe_non (nomark _)) (isN_imp (neg := true) rA)
end
end Mw
set_option maxRecDepth 100000
set_option maxHeartbeats 4000000
namespace Mw
open PySem PySem.Spec PyProof.Rows L2

/-! ### plain lists -/
def item {α : Type} (xs : List α) (i : Int) : Out α := match atI xs i with
  | some x => .ok x
  | none => .bad
def cut {α : Type} (xs : List α) (lo hi : Option Int) : List α := (xs.drop (HT.sIx xs.length 0 lo)).take (HT.sIx xs.length xs.length hi - HT.sIx xs.length 0 lo)
theorem Pd.len {α β : Type} {R : α → β → Prop} : ∀ {vs : List α} {xs : List β}, Paired R vs xs → vs.length = xs.length
  | _, _, .nil => rfl
  | _, _, .cons _ t => by simp [Pd.len t]
theorem Pd.get {α β : Type} {R : α → β → Prop} : ∀ {vs : List α} {xs : List β} {j : Nat} {x : β}, Paired R vs xs → xs[j]? = some x → ∃ v, vs[j]? = some v ∧ R v x
  | _, _, _, _, .nil, h => by simp at h
  | _, _, 0, _, .cons r _, h => by
    simp at h
    subst h
    exact ⟨_, rfl, r⟩
  | _, _, j + 1, _, .cons _ t, h => by
    obtain ⟨v, e, r⟩ := Pd.get (j := j) t (by simpa using h)
    exact ⟨v, by simpa using e, r⟩
theorem Pd.at {α β : Type} {R : α → β → Prop} {vs : List α} {xs : List β} {i : Int} {x : β} (r : Paired R vs xs) (h : atI xs i = some x) : ∃ v, atI vs i = some v ∧ R v x := by
  unfold atI at h ⊢
  rw [Pd.len r]
  cases e : ixN xs.length i with
  | none =>
    rw [e] at h
    cases h
  | some j =>
    rw [e] at h
    exact Pd.get r h
theorem Pd.take {α β : Type} {R : α → β → Prop} : ∀ {vs : List α} {xs : List β} (n : Nat), Paired R vs xs → Paired R (vs.take n) (xs.take n)
  | _, _, 0, _ => .nil
  | _, _, _ + 1, .nil => .nil
  | _, _, n + 1, .cons r t => .cons r (Pd.take n t)
theorem Pd.drop {α β : Type} {R : α → β → Prop} : ∀ {vs : List α} {xs : List β} (n : Nat), Paired R vs xs → Paired R (vs.drop n) (xs.drop n)
  | _, _, 0, r => r
  | _, _, _ + 1, .nil => .nil
  | _, _, n + 1, .cons _ t => Pd.drop n t
theorem Pd.cut {R : V → β → Prop} {vs : List V} {xs : List β} {lo hi : Option Int} (r : Paired R vs xs) : Paired R (cutV vs lo hi) (cut xs lo hi) := by
  unfold cutV Mw.cut
  rw [Pd.len r]
  exact Pd.take _ (Pd.drop _ r)
theorem Pd.append {α β : Type} {R : α → β → Prop} : ∀ {vs ws : List α} {xs ys : List β}, Paired R vs xs → Paired R ws ys → Paired R (vs ++ ws) (xs ++ ys)
  | _, _, _, _, .nil, s => s
  | _, _, _, _, .cons r t, s => .cons r (Pd.append t s)
theorem Pd.rep {α β : Type} {R : α → β → Prop} {vs : List α} {xs : List β} (r : Paired R vs xs) : ∀ n : Nat, Paired R (List.replicate n vs).flatten (List.replicate n xs).flatten
  | 0 => .nil
  | n + 1 => by
    rw [List.replicate_succ, List.replicate_succ, List.flatten_cons, List.flatten_cons]
    exact Pd.append r (Pd.rep r n)
theorem Pd.dropLast {α β : Type} {R : α → β → Prop} {vs : List α} {xs : List β} (r : Paired R vs xs) : Paired R vs.dropLast xs.dropLast := by
  rw [List.dropLast_eq_take, List.dropLast_eq_take, Pd.len r]
  exact Pd.take _ r
theorem Pd.reverse {α β : Type} {R : α → β → Prop} : ∀ {vs : List α} {xs : List β}, Paired R vs xs → Paired R vs.reverse xs.reverse
  | _, _, .nil => .nil
  | _, _, .cons r t => by
    rw [List.reverse_cons, List.reverse_cons]
    exact Pd.append (Pd.reverse t) (.cons r .nil)
theorem Pd.set {α β : Type} {R : α → β → Prop} {v : α} {x : β} (q : R v x) : ∀ {vs : List α} {xs : List β} (i : Nat), Paired R vs xs → Paired R (vs.set i v) (xs.set i x)
  | _, _, _, .nil => .nil
  | _, _, 0, .cons _ t => .cons q t
  | _, _, i + 1, .cons r t => .cons r (Pd.set q i t)
theorem Pd.map_ints {K : PySem.W.Frag} {H : Hp} : ∀ {vs : List V} {xs : List Int}, Reps K H vs xs → vs = xs.map V.int
  | _, _, .nil => rfl
  | _, _, .cons r t => by
    have e : _ = V.int _ := r
    rw [e, Pd.map_ints t]
    rfl
theorem Pd.map_bls {K : PySem.W.Frag} {H : Hp} : ∀ {vs : List V} {xs : List Bool}, Reps K H vs xs → vs = xs.map V.bl
  | _, _, .nil => rfl
  | _, _, .cons r t => by
    have e : _ = V.bl _ := r
    rw [e, Pd.map_bls t]
    rfl

section
variable {c : Cw} {ts : List (Option Asn)} {us es : List Ent} {σ : Sl} {vs ws : List V} {H H' : Hp} {α β γ δ : Type} [Py α] [Py β] [Py γ] {a b e : Expr} {pos : Pos}

/-! ### one part -/
theorem je_one1 {ma : Out α} {A : α → Ent} {C : β → Ent} {f : α → Out β} {r : V → Hp → VK → Prop} {t : TE → TE} (hp : ∀ {ta}, PE c.X a ta → PE c.X e (t ta)) (ha : JE c ts a ma A)
    (ht : ∀ {ta σ H Q}, ta σ H (fun x H1 => r x H1 Q) → t ta σ H Q)
    (hr : ∀ {us σ vs H2 i x Q}, Env c ts (A i :: us) σ (x :: vs) H2 → (f i).wp (fun z => ∀ v H', Env c ts (C z :: us) σ (v :: vs) H' → Q v H') (Ex c us σ vs) → r x H2 Q) :
    JE c ts e (ma.bind f) C :=
  PE.imp (hp ha) fun σ H Q ⟨us, vs, E, q⟩ => ht ⟨us, vs, E, Out.wp_mono (Out.wp_bind q) (fun i _ q => by
    intro x H1 E1
    exact hr E1 q) fun _ _ h => h⟩
/-- what the top shows -/
theorem Env.rd1 {i : α} {x : V} {eA : Ent} (rA : Rd c ts eA i) (E : Env c ts (eA :: us) σ (x :: vs) H) : Py.rep c.X.K H x i := by
  obtain ⟨F1, F2, E⟩ := E
  obtain ⟨G1, G2, e, h1, _⟩ := E.sk
  exact rA E.part E.g E.sl h1
theorem StkL.one {P H : Hp} {F : List Addr} {e : Ent} {v : V} (h : StkL P H σ [e] [v] F) : StkOk P H σ e v F := by
  obtain ⟨F1, F2, eF, h1, h2⟩ := h
  have e2 : F2 = [] := h2
  rw [eF, e2, List.append_nil]
  exact h1
theorem StkL.two {P H : Hp} {F : List Addr} {e e' : Ent} {v v' : V} (h : StkL P H σ [e, e'] [v, v'] F) : ∃ F1 F2, F = F1 ++ F2 ∧ StkOk P H σ e v F1 ∧ StkOk P H σ e' v' F2 := by
  obtain ⟨F1, F2, eF, h1, h2⟩ := h
  exact ⟨F1, F2, eF, h1, StkL.one h2⟩
theorem Env.open (E : Env c ts (es ++ us) σ (ws ++ vs) H) (hl : es.length = ws.length) : ∃ F1 FB F2, EnvF c ts (es ++ us) σ (ws ++ vs) H F1 (FB ++ F2) ∧ StkL (hide (c.Of ++ (F1 ++ (FB ++ F2))) H) H σ es ws FB ∧ StkL (hide (c.Of ++ (F1 ++ (FB ++ F2))) H) H σ us vs F2 := by
  obtain ⟨F1, F0, E⟩ := E
  obtain ⟨FB, F2, eF, h1, h2⟩ := E.sk.split hl
  subst eF
  exact ⟨F1, FB, F2, E, h1, h2⟩
theorem EnvF.pushV {x : α} {v : V} {F1 FB F2 : List Addr} (E : EnvF c ts (es ++ us) σ (ws ++ vs) H F1 (FB ++ F2)) (h2 : StkL (hide (c.Of ++ (F1 ++ (FB ++ F2))) H) H σ us vs F2) (s : Same H H')
    (r : ∀ P', Same (hide (c.Of ++ (F1 ++ (FB ++ F2))) H) P' → (∀ b o, H b = none ∨ b ∈ FB → H' b = some o → P' b = some o) → Same P' H' → Py.rep c.X.K P' v x) : Env c ts (Vl c x :: us) σ (v :: vs) H' :=
  ⟨F1, [] ++ F2, E.top h2 s (fun _ h => (nomatch h)) List.nodup_nil (fun _ h => (nomatch h)) fun P' s' n l => ⟨rfl, r P' s' (fun b o h1 h2 => n b o h1 (by simp) h2) l⟩⟩
theorem EnvF.pushN {xs : List α} {zs : List V} {p : Addr} {F1 FB F2 : List Addr} (E : EnvF c ts (es ++ us) σ (ws ++ vs) H F1 (FB ++ F2)) (h2 : StkL (hide (c.Of ++ (F1 ++ (FB ++ F2))) H) H σ us vs F2) (hp : H p = none)
    (r : ∀ P', Same (hide (c.Of ++ (F1 ++ (FB ++ F2))) H) P' → (∀ b o, b ∈ FB → H b = some o → P' b = some o) → Reps c.X.K P' zs xs) : Env c ts (Ow c xs :: us) σ (.ref p :: vs) (upd H p (.lst zs)) :=
  ⟨F1, [p] ++ F2, E.top h2 (same_new hp) (fun a h => .inr (by rw [List.mem_singleton.mp h]; exact hp)) (by simp) (fun a h => ⟨.lst zs, by rw [List.mem_singleton.mp h]; exact upd_same, rfl⟩)
    fun P' s' n _ => ⟨p, zs, rfl, rfl, upd_same, r P' s' fun b o h q => n b o (.inr h) (fun z => by rw [List.mem_singleton.mp z, hp] at q; cases q) (by rw [upd_ne (ne_of_none q hp)]; exact q)⟩⟩
theorem ref_inj {a b : Addr} (h : V.ref a = V.ref b) : a = b := V.ref.inj h
theorem lst_inj {H : Hp} {a : Addr} {xs ys : List V} (h : H a = some (.lst xs)) (h' : H a = some (.lst ys)) : xs = ys := by
  rw [h] at h'
  exact HO.lst.inj (Option.some.inj h')

/-! xs[i] -/
theorem je_item {mx : Out (List α)} {mi : Out Int} {A : List α → Ent} (rx : ∀ xs, RdE c ts (A xs) xs) (ha : JE c ts a mx A) (hb : JE c ts b mi (Vl c)) (hs : PlainIx b := by intro _ _; rfl) : JE c ts (.Subscript a b pos) (mx.bind fun xs => mi.bind fun i => item xs i) (Vl c) :=
  PE.imp (pe_ix ix_list ha hb hs) (two_imp fun {us σ vs H2 xs i x y Q} E q => by
    obtain ⟨F1, FB, F2, E, k, h2⟩ := Env.open (es := [_, _]) (ws := [_, _]) E rfl
    obtain ⟨_, _, _, k1, k2⟩ := StkL.two k
    obtain ⟨p, zs, ex, hp, rp⟩ := rx xs E.part E.g E.sl k2
    unfold item at q
    cases hx : atI xs i with
    | none =>
      rw [hx] at q
      exact q.elim
    | some z =>
      rw [hx] at q
      obtain ⟨v, hv, rv⟩ := Pd.at rp hx
      exact ⟨p, zs, i, v, ex, k1.2, SqL.of hp, hv, q v H2 (E.pushV h2 (Same.refl _) fun P' s' _ _ => Py.mono s' rv)⟩)
theorem atI_map {α β : Type} {f : α → β} {xs : List α} {i : Int} {z : α} (hx : atI xs i = some z) : atI (xs.map f) i = some (f z) := by
  unfold atI at hx ⊢
  rw [List.length_map]
  cases e : ixN xs.length i with
  | none =>
    rw [e] at hx
    cases hx
  | some j =>
    rw [e] at hx
    have hx' : xs[j]? = some z := hx
    show (xs.map f)[j]? = _
    rw [List.getElem?_map, hx']
    rfl
/-- the script's -/
theorem je_itemS {mx : Out Scr} {mi : Out Int} {A : Scr → Ent} (rx : ∀ xs, Rd c ts (A xs) xs) (ha : JE c ts a mx A) (hb : JE c ts b mi (Vl c)) (hs : PlainIx b := by intro _ _; rfl) : JE c ts (.Subscript a b pos) (mx.bind fun xs => mi.bind fun i => item xs.l i) (Vl c) :=
  PE.imp (pe_ix ix_list ha hb hs) (two_imp fun {us σ vs H2 xs i x y Q} E q => by
    obtain ⟨F1, FB, F2, E1, k, h2⟩ := Env.open (es := [_, _]) (ws := [_, _]) E rfl
    obtain ⟨_, _, _, k1, k2⟩ := StkL.two k
    obtain ⟨p, ex, hp⟩ := rx xs E1.part E1.g E1.sl k2
    unfold item at q
    cases hx : atI xs.l i with
    | none =>
      rw [hx] at q
      exact q.elim
    | some z =>
      rw [hx] at q
      exact ⟨p, _, i, _, ex, k1.2, hp, atI_map hx, q _ H2 (Env.pushS (es := [_, _]) (ws := [_, _]) (K := c.X.K) (H0 := H2) E rfl rfl)⟩)
/-- a tuple of any length -/
theorem je_itemT {mx : Out (Tup α)} {mi : Out Int} (ha : JE c ts a mx (Vl c)) (hb : JE c ts b mi (Vl c)) (hs : PlainIx b := by intro _ _; rfl) : JE c ts (.Subscript a b pos) (mx.bind fun xs => mi.bind fun i => item xs.l i) (Vl c) :=
  PE.imp (pe_ix ix_tup ha hb hs) (two_imp fun {us σ vs H2 xs i x y Q} E q => by
    obtain ⟨F1, FB, F2, E, k, h2⟩ := Env.open (es := [_, _]) (ws := [_, _]) E rfl
    obtain ⟨_, _, _, k1, k2⟩ := StkL.two k
    obtain ⟨p, zs, ex, hp, rp⟩ := k2.2
    unfold item at q
    cases hx : atI xs.l i with
    | none =>
      rw [hx] at q
      exact q.elim
    | some z =>
      rw [hx] at q
      obtain ⟨v, hv, rv⟩ := Pd.at rp hx
      exact ⟨p, zs, i, v, ex, k1.2, Same.seqT hide_le hp, hv, q v H2 (E.pushV h2 (Same.refl _) fun P' s' _ _ => Py.mono s' rv)⟩)
/-- a tuple's member at a written place -/
theorem je_itemK {τ : Type} [Py τ] {mx : Out τ} {i : Int} {n : Nat} {pos' : Pos} {f : τ → α} (hf : ∀ {K : PySem.W.Frag} {H : Hp} {v : V} {x : τ}, Py.rep K H v x → ∃ a vs v1, v = .ref a ∧ SqT K H a vs ∧ atI vs i = some v1 ∧ Py.rep K H v1 (f x))
    (ha : JE c ts a mx (Vl c)) (hs : PlainIx (.Constant (.int i) n pos') := by intro _ _; rfl) : JE c ts (.Subscript a (.Constant (.int i) n pos') pos) (mx.bind fun x => (Out.ok i).bind fun _ => .ok (f x)) (Vl c) :=
  PE.imp (pe_ix ix_tup ha je_int hs) (two_imp (B := fun _ => Vl c i) fun {us σ vs H2 xs j x y Q} E q => by
    obtain ⟨F1, FB, F2, E, k, h2⟩ := Env.open (es := [_, _]) (ws := [_, _]) E rfl
    obtain ⟨_, _, _, k1, k2⟩ := StkL.two k
    obtain ⟨p, zs, v1, ex, hp, hx, rv⟩ := hf k2.2
    exact ⟨p, zs, i, v1, ex, k1.2, Same.seqT hide_le hp, hx, q v1 H2 (E.pushV h2 (Same.refl _) fun P' s' _ _ => Py.mono s' rv)⟩)
theorem k_fst {K : PySem.W.Frag} {H : Hp} {v : V} {x : α × β} (h : Py.rep K H v x) : ∃ a vs v1, v = .ref a ∧ SqT K H a vs ∧ atI vs 0 = some v1 ∧ Py.rep K H v1 x.1 := by
  obtain ⟨a, v1, v2, e, h, r1, r2⟩ := h
  exact ⟨a, _, v1, e, h, rfl, r1⟩
theorem k_snd {K : PySem.W.Frag} {H : Hp} {v : V} {x : α × β} (h : Py.rep K H v x) : ∃ a vs v1, v = .ref a ∧ SqT K H a vs ∧ atI vs 1 = some v1 ∧ Py.rep K H v1 x.2 := by
  obtain ⟨a, v1, v2, e, h, r1, r2⟩ := h
  exact ⟨a, _, v2, e, h, rfl, r2⟩
theorem k_3a {K : PySem.W.Frag} {H : Hp} {v : V} {x : T3 α β γ} (h : Py.rep K H v x) : ∃ a vs v1, v = .ref a ∧ SqT K H a vs ∧ atI vs 0 = some v1 ∧ Py.rep K H v1 x.a := by
  obtain ⟨a, v1, v2, v3, e, h, r1, r2, r3⟩ := h
  exact ⟨a, _, _, e, h, rfl, r1⟩
theorem k_3b {K : PySem.W.Frag} {H : Hp} {v : V} {x : T3 α β γ} (h : Py.rep K H v x) : ∃ a vs v1, v = .ref a ∧ SqT K H a vs ∧ atI vs 1 = some v1 ∧ Py.rep K H v1 x.b := by
  obtain ⟨a, v1, v2, v3, e, h, r1, r2, r3⟩ := h
  exact ⟨a, _, _, e, h, rfl, r2⟩
theorem k_3c {K : PySem.W.Frag} {H : Hp} {v : V} {x : T3 α β γ} (h : Py.rep K H v x) : ∃ a vs v1, v = .ref a ∧ SqT K H a vs ∧ atI vs 2 = some v1 ∧ Py.rep K H v1 x.c := by
  obtain ⟨a, v1, v2, v3, e, h, r1, r2, r3⟩ := h
  exact ⟨a, _, _, e, h, rfl, r3⟩

/-! len -/
theorem call1 {x : Str} {p : Pos} {id : String} {r : List V → Hp → VK → Prop} (hc : CallR c.X (.builtin id) r) (hg : Gl c.X x) (hm : c.X.mg x = none) (hv : bootBuiltins x = some (.builtin id)) (hn : x ≠ "__name__") (hdb : (x == ("__debug__" : Str)) = false)
    (he : starEach [a] c.X.env = (false, eval a c.X.env) :: starEach [] c.X.env) (hpl : (backTo pos (starEach [] c.X.env)).any (·.1) = false) {ta : TE} (ha : PE c.X a ta) : PE c.X (.Call (.Name x p) [a] [] pos) (fun σ H Q => ta σ H fun y H1 => r [y] H1 Q) :=
  pe_callB hc hg hm hv (pa_cons ha pa_nil he) hn hdb he hpl
theorem je_len {mx : Out (List α)} {A : List α → Ent} {p : Pos} (hm : c.X.mg "len" = none) (rx : ∀ xs, Rd c ts (A xs) xs) (ha : JE c ts a mx A) (hg : Gl c.X "len" := by rfl) (he : starEach [a] c.X.env = (false, eval a c.X.env) :: starEach [] c.X.env := by rfl) (hpl : (backTo pos (starEach [] c.X.env)).any (·.1) = false := by rfl) :
    JE c ts (.Call (.Name "len" p) [a] [] pos) (mx.bind fun xs => .ok (xs.length : Int)) (Vl c) :=
  je_one1 (t := fun ta => fun σ H Q => ta σ H fun y H1 => (fun xs H Q => ∃ p ys, xs = [V.ref p] ∧ (SqL c.X.K H p ys ∨ SqT c.X.K H p ys) ∧ Q (.int ys.length) H) [y] H1 Q) (r := fun y H1 Q => ∃ p ys, [y] = [V.ref p] ∧ (SqL c.X.K H1 p ys ∨ SqT c.X.K H1 p ys) ∧ Q (.int ys.length) H1)
    (fun h => call1 call_len_seq hg hm PySem.boot_len (by decide) (by decide) he hpl h) ha (fun h => h) fun {us σ vs H2 xs x Q} E q => by
    obtain ⟨p, zs, ex, hp, rp⟩ := E.rd1 (rx xs)
    subst ex
    refine ⟨p, zs, rfl, .inl (SqL.of hp), ?_⟩
    rw [Pd.len rp]
    exact q _ H2 (Env.pushS (es := [_]) (ws := [_]) (K := c.X.K) (H0 := H2) E rfl rfl)
theorem je_lenT {mx : Out (Tup α)} {p : Pos} (hm : c.X.mg "len" = none) (ha : JE c ts a mx (Vl c)) (hg : Gl c.X "len" := by rfl) (he : starEach [a] c.X.env = (false, eval a c.X.env) :: starEach [] c.X.env := by rfl) (hpl : (backTo pos (starEach [] c.X.env)).any (·.1) = false := by rfl) :
    JE c ts (.Call (.Name "len" p) [a] [] pos) (mx.bind fun xs => .ok (xs.l.length : Int)) (Vl c) :=
  je_one1 (t := fun ta => fun σ H Q => ta σ H fun y H1 => (fun xs H Q => ∃ p ys, xs = [V.ref p] ∧ (SqL c.X.K H p ys ∨ SqT c.X.K H p ys) ∧ Q (.int ys.length) H) [y] H1 Q) (r := fun y H1 Q => ∃ p ys, [y] = [V.ref p] ∧ (SqL c.X.K H1 p ys ∨ SqT c.X.K H1 p ys) ∧ Q (.int ys.length) H1)
    (fun h => call1 call_len_seq hg hm PySem.boot_len (by decide) (by decide) he hpl h) ha (fun h => h) fun {us σ vs H2 xs x Q} E q => by
    obtain ⟨p, zs, ex, hp, rp⟩ := E.rd1 rdV
    subst ex
    refine ⟨p, zs, rfl, .inr hp, ?_⟩
    rw [Pd.len rp]
    exact q _ H2 (Env.pushS (es := [_]) (ws := [_]) (K := c.X.K) (H0 := H2) E rfl rfl)
theorem je_lenS {mx : Out Scr} {A : Scr → Ent} {p : Pos} (hm : c.X.mg "len" = none) (rx : ∀ xs, Rd c ts (A xs) xs) (ha : JE c ts a mx A) (hg : Gl c.X "len" := by rfl) (he : starEach [a] c.X.env = (false, eval a c.X.env) :: starEach [] c.X.env := by rfl) (hpl : (backTo pos (starEach [] c.X.env)).any (·.1) = false := by rfl) :
    JE c ts (.Call (.Name "len" p) [a] [] pos) (mx.bind fun xs => .ok (xs.l.length : Int)) (Vl c) :=
  je_one1 (t := fun ta => fun σ H Q => ta σ H fun y H1 => (fun xs H Q => ∃ p ys, xs = [V.ref p] ∧ (SqL c.X.K H p ys ∨ SqT c.X.K H p ys) ∧ Q (.int ys.length) H) [y] H1 Q) (r := fun y H1 Q => ∃ p ys, [y] = [V.ref p] ∧ (SqL c.X.K H1 p ys ∨ SqT c.X.K H1 p ys) ∧ Q (.int ys.length) H1)
    (fun h => call1 call_len_seq hg hm PySem.boot_len (by decide) (by decide) he hpl h) ha (fun h => h) fun {us σ vs H2 xs x Q} E q => by
    obtain ⟨p, ex, hp⟩ := E.rd1 (rx xs)
    subst ex
    refine ⟨p, _, rfl, .inl hp, ?_⟩
    rw [List.length_map]
    exact q _ H2 (Env.pushS (es := [_]) (ws := [_]) (K := c.X.K) (H0 := H2) E rfl rfl)
/-! abs, int -/
theorem je_abs {mx : Out Int} {p : Pos} (hm : c.X.mg "abs" = none) (ha : JE c ts a mx (Vl c)) (hg : Gl c.X "abs" := by rfl) (he : starEach [a] c.X.env = (false, eval a c.X.env) :: starEach [] c.X.env := by rfl) (hpl : (backTo pos (starEach [] c.X.env)).any (·.1) = false := by rfl) :
    JE c ts (.Call (.Name "abs" p) [a] [] pos) (mx.bind fun x => .ok (if x < 0 then -x else x)) (Vl c) :=
  je_one1 (t := fun ta => fun σ H Q => ta σ H fun y H1 => (fun (xs : List V) (H : Hp) (Q : VK) => ∃ i, xs = [V.int i] ∧ Q (.int (if i < 0 then -i else i)) H) [y] H1 Q) (r := fun y H1 Q => ∃ i, [y] = [V.int i] ∧ Q (.int (if i < 0 then -i else i)) H1)
    (fun h => call1 call_abs hg hm (by decide +kernel) (by decide) (by decide) he hpl h) ha (fun h => h) fun {us σ vs H2 i x Q} E q => by
    have ex : x = .int i := E.rd1 rdV
    subst ex
    exact ⟨i, rfl, q _ H2 (Env.pushS (es := [_]) (ws := [_]) (K := c.X.K) (H0 := H2) E rfl rfl)⟩
theorem callT1 {x : Str} {p : Pos} {T : String} {r : List V → Hp → VK → Prop} (hc : CallR c.X (.type T) r) (hg : Gl c.X x) (hm : c.X.mg x = none) (hv : bootBuiltins x = some (.type T)) (hn : x ≠ "__name__") (hdb : (x == ("__debug__" : Str)) = false)
    (he : starEach [a] c.X.env = (false, eval a c.X.env) :: starEach [] c.X.env) (hpl : (backTo pos (starEach [] c.X.env)).any (·.1) = false) {ta : TE} (ha : PE c.X a ta) : PE c.X (.Call (.Name x p) [a] [] pos) (fun σ H Q => ta σ H fun y H1 => r [y] H1 Q) :=
  pe_callTy hc hg hm hv (pa_cons ha pa_nil he) hn hdb he hpl
theorem je_intI {mx : Out Int} {p : Pos} (hm : c.X.mg "int" = none) (ha : JE c ts a mx (Vl c)) (hg : Gl c.X "int" := by rfl) (he : starEach [a] c.X.env = (false, eval a c.X.env) :: starEach [] c.X.env := by rfl) (hpl : (backTo pos (starEach [] c.X.env)).any (·.1) = false := by rfl) :
    JE c ts (.Call (.Name "int" p) [a] [] pos) (mx.bind fun x => .ok x) (Vl c) :=
  je_one1 (t := fun ta => fun σ H Q => ta σ H fun y H1 => (fun (xs : List V) (H : Hp) (Q : VK) => (∃ i, xs = [V.int i] ∧ Q (.int i) H) ∨ ∃ k, xs = [.bl k] ∧ Q (.int (if k then 1 else 0)) H) [y] H1 Q) (r := fun y H1 Q => (∃ i, [y] = [V.int i] ∧ Q (.int i) H1) ∨ ∃ k, [y] = [V.bl k] ∧ Q (.int (if k then 1 else 0)) H1)
    (fun h => callT1 call_int1 hg hm (by decide +kernel) (by decide) (by decide) he hpl h) ha (fun h => h) fun {us σ vs H2 i x Q} E q => by
    have ex : x = .int i := E.rd1 rdV
    subst ex
    exact .inl ⟨i, rfl, q _ H2 (Env.pushS (es := [_]) (ws := [_]) (K := c.X.K) (H0 := H2) E rfl rfl)⟩
theorem je_intB {mx : Out Bool} {p : Pos} (hm : c.X.mg "int" = none) (ha : JE c ts a mx (Vl c)) (hg : Gl c.X "int" := by rfl) (he : starEach [a] c.X.env = (false, eval a c.X.env) :: starEach [] c.X.env := by rfl) (hpl : (backTo pos (starEach [] c.X.env)).any (·.1) = false := by rfl) :
    JE c ts (.Call (.Name "int" p) [a] [] pos) (mx.bind fun x => .ok (if x = true then (1 : Int) else 0)) (Vl c) :=
  je_one1 (t := fun ta => fun σ H Q => ta σ H fun y H1 => (fun (xs : List V) (H : Hp) (Q : VK) => (∃ i, xs = [V.int i] ∧ Q (.int i) H) ∨ ∃ k, xs = [.bl k] ∧ Q (.int (if k then 1 else 0)) H) [y] H1 Q) (r := fun y H1 Q => (∃ i, [y] = [V.int i] ∧ Q (.int i) H1) ∨ ∃ k, [y] = [V.bl k] ∧ Q (.int (if k then 1 else 0)) H1)
    (fun h => callT1 call_int1 hg hm (by decide +kernel) (by decide) (by decide) he hpl h) ha (fun h => h) fun {us σ vs H2 i x Q} E q => by
    have ex : x = .bl i := E.rd1 rdV
    subst ex
    exact .inr ⟨i, rfl, q _ H2 (Env.pushS (es := [_]) (ws := [_]) (K := c.X.K) (H0 := H2) E rfl rfl)⟩
/-! list(xs) -/
theorem je_listL {mx : Out (List α)} {A : List α → Ent} {p : Pos} (hm : c.X.mg "list" = none) (rx : ∀ xs, RdE c ts (A xs) xs) (ha : JE c ts a mx A) (hg : Gl c.X "list" := by rfl) (he : starEach [a] c.X.env = (false, eval a c.X.env) :: starEach [] c.X.env := by rfl) (hpl : (backTo pos (starEach [] c.X.env)).any (·.1) = false := by rfl) :
    JE c ts (.Call (.Name "list" p) [a] [] pos) (mx.bind fun xs => .ok xs) (Ow c) :=
  je_one1 (t := fun ta => fun σ H Q => ta σ H fun y H1 => (fun xs H Q => ∃ p ys, xs = [V.ref p] ∧ (SqL c.X.K H p ys ∨ SqT c.X.K H p ys) ∧ ∀ l, H l = none → Q (.ref l) (upd H l (.lst ys))) [y] H1 Q) (r := fun y H1 Q => ∃ p ys, [y] = [V.ref p] ∧ (SqL c.X.K H1 p ys ∨ SqT c.X.K H1 p ys) ∧ ∀ l, H1 l = none → Q (.ref l) (upd H1 l (.lst ys)))
    (fun h => callT1 call_list_of hg hm (by decide +kernel) (by decide) (by decide) he hpl h) ha (fun h => h) fun {us σ vs H2 xs x Q} E q => by
    obtain ⟨F1, FB, F2, E, k, h2⟩ := Env.open (es := [_]) (ws := [_]) E rfl
    obtain ⟨p, zs, ex, hp, rp⟩ := rx xs E.part E.g E.sl (StkL.one k)
    subst ex
    exact ⟨p, zs, rfl, .inl (SqL.of hp), fun l hl => q _ _ (E.pushN h2 hl fun P' s' _ => rp.mono s')⟩
theorem je_listT {mx : Out (Tup α)} {p : Pos} (hm : c.X.mg "list" = none) (ha : JE c ts a mx (Vl c)) (hg : Gl c.X "list" := by rfl) (he : starEach [a] c.X.env = (false, eval a c.X.env) :: starEach [] c.X.env := by rfl) (hpl : (backTo pos (starEach [] c.X.env)).any (·.1) = false := by rfl) :
    JE c ts (.Call (.Name "list" p) [a] [] pos) (mx.bind fun xs => .ok xs.l) (Ow c) :=
  je_one1 (t := fun ta => fun σ H Q => ta σ H fun y H1 => (fun xs H Q => ∃ p ys, xs = [V.ref p] ∧ (SqL c.X.K H p ys ∨ SqT c.X.K H p ys) ∧ ∀ l, H l = none → Q (.ref l) (upd H l (.lst ys))) [y] H1 Q) (r := fun y H1 Q => ∃ p ys, [y] = [V.ref p] ∧ (SqL c.X.K H1 p ys ∨ SqT c.X.K H1 p ys) ∧ ∀ l, H1 l = none → Q (.ref l) (upd H1 l (.lst ys)))
    (fun h => callT1 call_list_of hg hm (by decide +kernel) (by decide) (by decide) he hpl h) ha (fun h => h) fun {us σ vs H2 xs x Q} E q => by
    obtain ⟨F1, FB, F2, E, k, h2⟩ := Env.open (es := [_]) (ws := [_]) E rfl
    obtain ⟨p, zs, ex, hp, rp⟩ := (StkL.one k).2
    subst ex
    exact ⟨p, zs, rfl, .inr (Same.seqT hide_le hp), fun l hl => q _ _ (E.pushN h2 hl fun P' s' _ => rp.mono s')⟩
/-! xs + ys, xs * n -/
def lenOk (n : Nat) : Prop := n ≤ 16777216
instance (n : Nat) : Decidable (lenOk n) := by unfold lenOk; infer_instance
theorem lenOk.le {n : Nat} (h : lenOk n) : n ≤ sizeLine := by
  rw [sizeLine_eq]
  exact h
theorem je_cat {m1 m2 : Out (List α)} {A B : List α → Ent} (rA : ∀ xs, RdE c ts (A xs) xs) (rB : ∀ xs, RdE c ts (B xs) xs) (ha : JE c ts a m1 A) (hb : JE c ts b m2 B) :
    JE c ts (.BinOp a .Add b pos) (m1.bind fun xs => m2.bind fun ys => chk (lenOk (xs.length + ys.length)) (xs ++ ys)) (Ow c) :=
  PE.imp (pe_op op_cat ha hb) (two_imp fun {us σ vs H2 xs ys x y Q} E q => by
    obtain ⟨F1, FB, F2, E, k, h2⟩ := Env.open (es := [_, _]) (ws := [_, _]) E rfl
    obtain ⟨_, _, _, k1, k2⟩ := StkL.two k
    obtain ⟨p1, z1, e1, hp1, r1⟩ := rA xs E.part E.g E.sl k2
    obtain ⟨p2, z2, e2, hp2, r2⟩ := rB ys E.part E.g E.sl k1
    obtain ⟨hl, q⟩ := wp_chk q
    refine ⟨p1, p2, z1, z2, e1, e2, hp1, hp2, by rw [Pd.len r1, Pd.len r2]; exact hl.le, fun l hl => q _ _ (E.pushN h2 hl fun P' s' _ => Pd.append (r1.mono s') (r2.mono s'))⟩)
def repOk (n : Nat) (k : Int) : Prop := -(2 ^ 63) ≤ k ∧ k < 2 ^ 63 ∧ n * k.toNat ≤ 16777216
instance (n : Nat) (k : Int) : Decidable (repOk n k) := by unfold repOk; infer_instance
theorem je_rep {m1 : Out (List α)} {m2 : Out Int} {A : List α → Ent} (rA : ∀ xs, RdE c ts (A xs) xs) (ha : JE c ts a m1 A) (hb : JE c ts b m2 (Vl c)) :
    JE c ts (.BinOp a .Mult b pos) (m1.bind fun xs => m2.bind fun n => chk (repOk xs.length n) (List.replicate n.toNat xs).flatten) (Ow c) :=
  PE.imp (pe_op op_rep ha hb) (two_imp fun {us σ vs H2 xs n x y Q} E q => by
    obtain ⟨F1, FB, F2, E, k, h2⟩ := Env.open (es := [_, _]) (ws := [_, _]) E rfl
    obtain ⟨_, _, _, k1, k2⟩ := StkL.two k
    obtain ⟨p1, z1, e1, hp1, r1⟩ := rA xs E.part E.g E.sl k2
    obtain ⟨hl, q⟩ := wp_chk q
    refine ⟨p1, n, z1, e1, k1.2, hp1, hl.1, hl.2.1, by rw [Pd.len r1, sizeLine_eq]; exact hl.2.2, fun l hl => q _ _ (E.pushN h2 hl fun P' s' _ => Pd.rep (r1.mono s') _)⟩)
/-! slices -/
def tO (c : Cw) (ts : List (Option Asn)) (m : Out (Option Int)) : TO := fun σ H Q => ∃ us vs, Env c ts us σ vs H ∧ m.wp (fun b => ∀ H', Env c ts us σ vs H' → Q b H') (Ex c us σ vs)
def JO (c : Cw) (ts : List (Option Asn)) (e : Option Expr) (m : Out (Option Int)) : Prop := PO c.X e (tO c ts m)
theorem jo_none : JO c ts none (.ok none) := ⟨fun pins s σ H Q I ⟨us, vs, E, q⟩ => po_none.run pins s σ H Q I (q H E)⟩
theorem jo_some {m : Out Int} (h : JE c ts e m (Vl c)) : JO c ts (some e) (m.bind fun i => .ok (some i)) := ⟨fun pins s σ H Q I ⟨us, vs, E, q⟩ => (po_some h).run pins s σ H Q I ⟨us, vs, E, Out.wp_mono (Out.wp_bind q) (fun i _ q v H' E' => by
    have ex : v = .int i := E'.rd1 rdV
    exact ⟨i, ex, q H' (Env.pop (es := [_]) (ws := [_]) E' rfl)⟩) fun _ _ z => z⟩⟩
theorem je_sliceG {lo hi : Option Expr} {p2 : Pos} {mx : Out α} {ml mh : Out (Option Int)} {A : α → Ent} {C : β → Ent} {f : α → Option Int → Option Int → Out β} {r : V → Option Int → Option Int → Hp → VK → Prop} (hr : SlR c.X r) (ha : JE c ts a mx A) (hl : JO c ts lo ml) (hh : JO c ts hi mh)
    (hq : ∀ {us σ vs H2 xs x l h Q}, Env c ts (A xs :: us) σ (x :: vs) H2 → (f xs l h).wp (fun z => ∀ v H', Env c ts (C z :: us) σ (v :: vs) H' → Q v H') (Ex c us σ vs) → r x l h H2 Q) :
    JE c ts (.Subscript a (.Slice lo hi none p2) pos) (mx.bind fun xs => ml.bind fun l => mh.bind fun h => f xs l h) C :=
  PE.imp (pe_slice hr ha hl hh) fun σ H Q ⟨us, vs, E, q⟩ => ⟨us, vs, E, Out.wp_mono (Out.wp_bind q) (fun xs _ q => by
    intro x H1 E1
    refine ⟨_, _, E1, Out.wp_mono (Out.wp_bind q) (fun l _ q => ?_) fun e _ z d H' e1 E3 => z d H' e1 (EnvX.pop (es := [_]) (ws := [_]) E3 rfl)⟩
    intro H2 E2
    refine ⟨_, _, E2, Out.wp_mono (Out.wp_bind q) (fun h _ q => ?_) fun e _ z d H' e1 E3 => z d H' e1 (EnvX.pop (es := [_]) (ws := [_]) E3 rfl)⟩
    intro H3 E3
    exact hq E3 q) fun _ _ z => z⟩
theorem je_slice {lo hi : Option Expr} {p2 : Pos} {mx : Out (List α)} {ml mh : Out (Option Int)} {A : List α → Ent} (rA : ∀ xs, RdE c ts (A xs) xs) (ha : JE c ts a mx A) (hl : JO c ts lo ml) (hh : JO c ts hi mh) :
    JE c ts (.Subscript a (.Slice lo hi none p2) pos) (mx.bind fun xs => ml.bind fun l => mh.bind fun h => .ok (cut xs l h)) (Ow c) :=
  je_sliceG (f := fun xs l h => .ok (cut xs l h)) sl_list ha hl hh fun {us σ vs H2 xs x l h Q} E q => by
    obtain ⟨F1, FB, F2, E, k, h2⟩ := Env.open (es := [_]) (ws := [_]) E rfl
    obtain ⟨p, zs, ex, hp, rp⟩ := rA xs E.part E.g E.sl (StkL.one k)
    exact ⟨p, zs, ex, SqL.of hp, fun n hn => q _ _ (E.pushN h2 hn fun P' s' _ => Pd.cut (rp.mono s'))⟩
theorem reps_ints (K : PySem.W.Frag) (H : Hp) : ∀ xs : List Int, Reps K H (xs.map V.int) xs
  | [] => .nil
  | x :: xs => .cons rfl (reps_ints K H xs)
theorem je_sliceS {lo hi : Option Expr} {p2 : Pos} {mx : Out Scr} {ml mh : Out (Option Int)} {A : Scr → Ent} (rA : ∀ xs, Rd c ts (A xs) xs) (ha : JE c ts a mx A) (hl : JO c ts lo ml) (hh : JO c ts hi mh) :
    JE c ts (.Subscript a (.Slice lo hi none p2) pos) (mx.bind fun xs => ml.bind fun l => mh.bind fun h => .ok (cut xs.l l h)) (Ow c) :=
  je_sliceG (f := fun xs l h => .ok (cut xs.l l h)) sl_list ha hl hh fun {us σ vs H2 xs x l h Q} E q => by
    obtain ⟨F1, FB, F2, E, k, h2⟩ := Env.open (es := [_]) (ws := [_]) E rfl
    obtain ⟨p, ex, hp⟩ := rA xs E.part E.g E.sl (StkL.one k)
    exact ⟨p, _, ex, hp, fun n hn => q _ _ (E.pushN h2 hn fun P' s' _ => Pd.cut (reps_ints _ _ xs.l))⟩
end
end Mw
set_option maxRecDepth 100000
set_option maxHeartbeats 4000000
namespace Mw
open PySem PySem.Spec PyProof.Rows L2
theorem noCXo {P : Program} {w : World} {o : List PySem.Env} {H : Hp} {s : Shared} {e : Value} {s' : Shared} (h : L2N.CX P w o H s (fun _ _ _ => False) e s') : False := by
  obtain ⟨_, _, _, _, _, _, _, _, _, _, _, _, z⟩ := h
  exact z.elim
theorem passLN {X : Cx} : Passes (L2N.CX X.prog X.w) X (fun _ _ _ => False) := fun _ _ _ _ _ _ _ h => (noCXo h).elim
theorem okXN {P : Program} {w : World} {K : PySem.W.Frag} {mg : Str → Option Value} {base : Heap} {x qual : Str} {st : Stmt} {f : Addr} {fd : FuncData} {N ps : List Str} {k : Nat} {sp : Sp} (F : Fun K x qual st f fd) (S : FnScope N ps (defScope st)) (len : ∀ vs H Q E, sp vs H Q E → vs.length = ps.length)
    (hbody : ∀ (cdv : Value) (A : Around) (outer : List PySem.Env) (s : Shared) (H : Hp) (vs : List V) (Q : VK) (E : XK), Room k (A.deeper (envOfC qual (defScope st) s.heap.objs.size f cdv)) → sp vs H Q E →
      ∃ t, PSs (cxOf (L2N.CX P w) P w K mg base N qual (defScope st) f cdv A outer s H E) (defBody st) t ∧ t { nx := fun _ H' => Q .non H', rt := Q } (L2.start N vs) H) : FnOk P w K mg base (L2N.CX P w) (k + 1) f fd ps sp := by
  obtain ⟨oc, od, kV, doc, pm, an, cdv, ct, osl, rfl, lk, hcd⟩ := F.ex
  exact fn_of lk hcd S len fun A outer s H vs Q E hr hsp => hbody cdv A outer s H vs Q E hr hsp
section
variable {X : Cx} {e : Expr} {es : List Expr} {ta : TA} {p pos : Pos}
theorem mk_endN {pins : List (Addr × Obj)} {σ : L2.St} {H1 H2 : Hp} {Q : XK} {hp hp2 h2 : Heap} {g1 g2 : Array GenState} {d1 d2 : Drawn} {t1 t2 : Nat} {os1 os2 : OsState} {a C d : Addr} {fs : List (Str × V)} (T : Raises X (.ref C)) (I1 : Inv X pins σ H1 ⟨hp, g1, d1, t1, os1⟩)
    (ha : hp.objs.size ≤ a) (k : ∀ b o, hp.get? b = some o → hp2.get? b = some o) (un : Un (frs X.stack) [] (upd H1 a (exo a C none)) H2 hp2 h2) (hok : HOk X.prog X.w H2 h2) (ho : os2 = os1) (hb : AllBare g2)
    (ea : H2 a = some (exo a C (some d))) (ed : H2 d = some (exd d fs)) (hd1 : H1 d = none) (q : Q (.ref C) (some d) (upd (del H2 a) d (.xd fs))) : L2N.MkP X pins σ Q (.ref a) ⟨h2, g2, d2, t2, os2⟩ := by
  obtain ⟨t0, G, J, kG, ge, hoe, na⟩ := mk_end0 (d2 := d2) (t2 := t2) I1 ha k un hok ho hb ea ed hd1
  exact ⟨a, _, _, ⟨G, g2, d2, t2, os2⟩, _, .ref C, some d, rfl, J, kG, ge, hoe, ⟨rfl, rfl, fun vs e => by cases e; rfl⟩, rfl, rfl, na, rfl, hb, T, q⟩
theorem pmk_oexN {CX : CXT} {x : Str} {C fI : Addr} {k : Nat} {fd : FuncData} {ps : List Str} {sp : Sp} {ds : List Value} {dvs : List V} (T : OexC X.K C) (iC : PySem.W.findIn X.K (.ref C) "__init__" = some (some (.ref fI))) (tI : PySem.W.typeIn X.K (.ref fI) = some (.type "function"))
    (F1 : FnOk X.prog X.w X.K X.mg X.base CX k fI fd ps sp) (hr : Room (k + 1) X.A) (hb : Binds X.K fd ps ds) (hd : Vals dvs ds) (hx : Passes CX X (fun _ _ _ => False)) (hg : Gl X x) (hm : X.mg x = some (.ref C)) (ha : PA X (e :: es) ta)
    (hdb : (x == ("__debug__" : Str)) = false := by decide) (he : starEach (e :: es) X.env = (false, eval e X.env) :: starEach es X.env := by rfl) (hpl : (backTo pos (starEach es X.env)).any (·.1) = false := by rfl) :
    L2N.PMk X (.Call (.Name x p) (e :: es) [] pos) (tMkO C sp dvs ta) := by
  intro pins s σ H Q I h
  obtain ⟨nm, q, N, bs, bm, sn, sub, ab, col, dd, k0, k1, k2, k3, k5, hC, hbm⟩ := T.cls
  refine wpAny_Call_Name_kw (ld_glob I hg hm ?_ hdb)
  refine PySem.W.callWith_K (h₀ := X.base) I.ok.mod.kin T.kC (thn (ha.run pos pins s σ H _ I h) fun us s1 ⟨vs, H1, I1, r1, hz, q1⟩ => ⟨I1.kIn, ?_⟩) he hpl
  show wpAny _ _ (call (.ref C) us) _ _ _
  obtain ⟨hp, g, dr, tk, os⟩ := s1
  have hsz : hp.objs.size ≤ hp.objs.size + 1 := Nat.le_succ _
  have hn : H1 (hp.objs.size + 1) = none := I1.hok.fresh hsz
  have hq := q1 (hp.objs.size + 1) hn
  have kk : ∀ b o, hp.get? b = some o → ((hp.push (PySem.W.kdv_tup us)).push (PySem.HandSPX.excO C hp.objs.size)).get? b = some o := fun b o e => Heap.get?_push_of_some _ (Heap.get?_push_of_some _ e)
  have hget : ((hp.push (PySem.W.kdv_tup us)).push (PySem.HandSPX.excO C hp.objs.size)).get? (hp.objs.size + 1) = some (PySem.HandSPX.excO C hp.objs.size) := by heap_get
  have I2 : Inv X pins σ (upd H1 (hp.objs.size + 1) (exo (hp.objs.size + 1) C none)) ⟨(hp.push (PySem.W.kdv_tup us)).push (PySem.HandSPX.excO C hp.objs.size), g, dr, tk, os⟩ :=
    I1.laid (t' := tk) (a := hp.objs.size + 1) (o := exo (hp.objs.size + 1) C none) (h' := (hp.push (PySem.W.kdv_tup us)).push (PySem.HandSPX.excO C hp.objs.size)) kk hsz (exo_ok hget)
  have r2 : Vals (V.ref (hp.objs.size + 1) :: (vs ++ dvs)) (Value.ref (hp.objs.size + 1) :: (us ++ ds)) := .cons rfl (r1.append hd)
  have hl : (Value.ref (hp.objs.size + 1) :: us ++ ds).length = ps.length := by
    have e := r2.length
    rw [F1.len _ _ _ _ hq] at e
    exact e.symm
  have hus : us.length ≤ sizeLine := by
    rw [← Paired.length r1, sizeLine_eq]
    omega
  refine wpAny_call (PySem.HandSPX.call_own F.excBase_ValueError (fun Y => PySem.HandSPX.refsVE_contains Y bm hbm) (I1.kIn _ _ hC) (PySem.W.looks_findIn I1.kIn iC) (fun self => PySem.W.bind_fn I1.kIn self tI) hus
    (codeAny_mono (F1.run _ X.stack _ _ ⟨Value.ref (hp.objs.size + 1) :: us, []⟩ (Value.ref (hp.objs.size + 1) :: (us ++ ds)) _ _ (fun _ _ _ => False) (hr.make C us []) (I2.env0.make C us []) (hb _ (Value.ref (hp.objs.size + 1) :: us) I2.kIn hl) r2 hq) fun r s' hq' => ?_))
  cases r with
  | error er => exact hx pins σ _ _ er s' I2 hq'
  | ok fl =>
    cases fl with
    | ret u =>
      obtain ⟨v, H2, os2, bare2, un2, hok2, rv, ev, d, fs, ea, ed, hd1, q2⟩ := hq'
      subst ev
      obtain ⟨h2, g2, d2, t2, os'⟩ := s'
      exact ⟨rv, mk_endN (raises_own T.exC T.tyC) I1 hsz kk un2 hok2 os2 bare2 ea ed hd1 q2⟩
    | next => exact False.elim hq'
    | brk => exact False.elim hq'
    | cont => exact False.elim hq'
end
end Mw
set_option maxRecDepth 100000
set_option maxHeartbeats 4000000
namespace Mw
open PySem PySem.Spec PyProof.Rows L2

theorem hide_congr {O O' : List Addr} {H : Hp} (h : ∀ a, a ∈ O ↔ a ∈ O') : hide O H = hide O' H := by
  funext a
  unfold hide
  by_cases q : a ∈ O
  · rw [if_pos q, if_pos ((h a).mp q)]
  · rw [if_neg q, if_neg fun z => q ((h a).mpr z)]

section
variable {c : Cw} {ts : List (Option Asn)} {us es : List Ent} {σ : Sl} {vs ws : List V} {H H' : Hp} {α β γ δ τ ρ : Type} [Py α] [Py β] [Py ρ] [Py τ] {a b e : Expr} {pos : Pos}

/-- one entry goes on top -/
theorem Env.rot {e : Ent} {v : V} (E : Env c ts (es ++ e :: us) σ (ws ++ v :: vs) H) (hl : es.length = ws.length) : Env c ts (e :: (es ++ us)) σ (v :: (ws ++ vs)) H := by
  obtain ⟨F1, FB, F2, E, h1, h2⟩ := Env.open E hl
  obtain ⟨Fe, Fu, eF, h3, h4⟩ := h2
  subst eF
  have m : ∀ a, a ∈ F1 ++ (FB ++ (Fe ++ Fu)) ↔ a ∈ F1 ++ (Fe ++ (FB ++ Fu)) := fun a => by
    simp only [List.mem_append]
    constructor
    · rintro (h | h | h | h)
      · exact .inl h
      · exact .inr (.inr (.inl h))
      · exact .inr (.inl h)
      · exact .inr (.inr (.inr h))
    · rintro (h | h | h | h)
      · exact .inl h
      · exact .inr (.inr (.inl h))
      · exact .inr (.inl h)
      · exact .inr (.inr (.inr h))
  have m' : ∀ a, a ∈ c.Of ++ (F1 ++ (FB ++ (Fe ++ Fu))) ↔ a ∈ c.Of ++ (F1 ++ (Fe ++ (FB ++ Fu))) := fun a => by
    rw [List.mem_append, m a, ← List.mem_append]
  have eh := hide_congr (H := H) m'
  refine ⟨F1, Fe ++ (FB ++ Fu), ?_, ⟨Fe, FB ++ Fu, rfl, ?_, ?_⟩, ?_, fun a ha => E.fr a ((m a).mpr ha), E.g, E.og⟩
  · rw [← eh]
    exact E.sl
  · rw [← eh]
    exact h3
  · rw [← eh]
    exact StkL.append h1 h4
  · have p : (F1 ++ (FB ++ (Fe ++ Fu))).Perm (F1 ++ (Fe ++ (FB ++ Fu))) := by
      refine List.Perm.append_left _ ?_
      rw [← List.append_assoc, ← List.append_assoc]
      exact List.Perm.append_right _ List.perm_append_comm
    exact p.nodup_iff.mp E.nd
theorem Env.unrot {e : Ent} {v : V} (E : Env c ts (e :: (es ++ us)) σ (v :: (ws ++ vs)) H) (hl : es.length = ws.length) : Env c ts (es ++ e :: us) σ (ws ++ v :: vs) H := by
  obtain ⟨F1, F0, E⟩ := E
  obtain ⟨Fe, FC, eF, h3, h2⟩ := E.sk
  subst eF
  obtain ⟨FB, Fu, eF, h1, h4⟩ := h2.split hl
  subst eF
  have m : ∀ a, a ∈ F1 ++ (Fe ++ (FB ++ Fu)) ↔ a ∈ F1 ++ (FB ++ (Fe ++ Fu)) := fun a => by
    simp only [List.mem_append]
    constructor
    · rintro (h | h | h | h)
      · exact .inl h
      · exact .inr (.inr (.inl h))
      · exact .inr (.inl h)
      · exact .inr (.inr (.inr h))
    · rintro (h | h | h | h)
      · exact .inl h
      · exact .inr (.inr (.inl h))
      · exact .inr (.inl h)
      · exact .inr (.inr (.inr h))
  have m' : ∀ a, a ∈ c.Of ++ (F1 ++ (Fe ++ (FB ++ Fu))) ↔ a ∈ c.Of ++ (F1 ++ (FB ++ (Fe ++ Fu))) := fun a => by
    rw [List.mem_append, m a, ← List.mem_append]
  have eh := hide_congr (H := H) m'
  refine ⟨F1, FB ++ (Fe ++ Fu), ?_, ?_, ?_, fun a ha => E.fr a ((m a).mpr ha), E.g, E.og⟩
  · rw [← eh]
    exact E.sl
  · rw [← eh]
    exact StkL.append h1 ⟨Fe, Fu, rfl, h3, h4⟩
  · have p : (F1 ++ (Fe ++ (FB ++ Fu))).Perm (F1 ++ (FB ++ (Fe ++ Fu))) := by
      refine List.Perm.append_left _ ?_
      rw [← List.append_assoc, ← List.append_assoc]
      exact List.Perm.append_right _ List.perm_append_comm
    exact p.nodup_iff.mp E.nd

/-! ### argument lists -/
def tA (c : Cw) (ts : List (Option Asn)) {γ : Type} (m : Out γ) (As : γ → List Ent) : TA := fun σ H Q => ∃ us vs, Env c ts us σ vs H ∧ m.wp (fun x => ∀ ws H', (As x).length = ws.length → Env c ts (As x ++ us) σ (ws ++ vs) H' → Q ws H') (Ex c us σ vs)
def JA (c : Cw) (ts : List (Option Asn)) (es : List Expr) {γ : Type} (m : Out γ) (As : γ → List Ent) : Prop := PA c.X es (tA c ts m As)
theorem PA.imp {X : Cx} {es : List Expr} {t t' : TA} (h : PA X es t) (i : ∀ σ H Q, t' σ H Q → t σ H Q) : PA X es t' := ⟨fun pos pins s σ H Q I q => h.run pos pins s σ H Q I (i σ H Q q)⟩
theorem ja_nil : JA c ts [] (.ok ()) (fun _ => []) := PA.imp pa_nil fun σ H Q ⟨us, vs, E, q⟩ => q [] H rfl E
theorem ja_cons {e : Expr} {es : List Expr} {m1 : Out α} {m2 : Out γ} {A : α → Ent} {As : γ → List Ent} (h1 : JE c ts e m1 A) (h2 : JA c ts es m2 As) (hs : starEach (e :: es) c.X.env = (false, eval e c.X.env) :: starEach es c.X.env := by rfl) :
    JA c ts (e :: es) (m1.bind fun a => m2.bind fun x => .ok (a, x)) (fun p => A p.1 :: As p.2) :=
  PA.imp (pa_cons h1 h2 hs) fun σ H Q ⟨us, vs, E, q⟩ => ⟨us, vs, E, Out.wp_mono (Out.wp_bind q) (fun a _ q => by
    intro v H1 E1
    refine ⟨_, _, E1, Out.wp_mono (Out.wp_bind q) (fun x _ q => ?_) fun e _ z d H' e1 E3 => z d H' e1 (EnvX.pop (es := [_]) (ws := [_]) E3 rfl)⟩
    intro ws H2 hl E2
    exact q (v :: ws) H2 (by simp [hl]) (Env.rot E2 hl)) fun _ _ z => z⟩

/-! ### what waits is let go: it stays as it is from now on -/
def Fz (c : Cw) (e : Ent) {α : Type} [Py α] (x : α) : Prop := ∀ {P P' H : Hp} {σ : Sl} {F : List Addr} {v : V}, StkOk P H σ e v F → Same P P' → (∀ a ∈ F, ∀ o, H a = some o → P' a = some o) → Py.rep c.X.K P' v x
theorem fzV {x : α} : Fz c (Vl c x) x := fun h s _ => Py.mono s h.2
theorem fzO {x : α} : Fz c (Ow c x) x := fun h s k => Py.own_rep s k h
def FzL (c : Cw) (es : List Ent) {α : Type} [Py α] (xs : List α) : Prop := ∀ {P P' H : Hp} {σ : Sl} {F : List Addr} {ws : List V}, StkL P H σ es ws F → Same P P' → (∀ a ∈ F, ∀ o, H a = some o → P' a = some o) → Reps c.X.K P' ws xs
theorem fzl_nil : FzL c [] ([] : List α) := fun {P P' H σ F ws} h _ _ => by
  cases ws with
  | nil => exact .nil
  | cons _ _ => exact h.elim
theorem fzl_cons {e : Ent} {es : List Ent} {x : α} {xs : List α} (h : Fz c e x) (t : FzL c es xs) : FzL c (e :: es) (x :: xs) := fun {P P' H σ F ws} k s q => by
  cases ws with
  | nil => exact k.elim
  | cons w ws =>
    obtain ⟨F1, F2, eF, k1, k2⟩ := k
    subst eF
    exact .cons (h k1 s fun a ha => q a (List.mem_append_left _ ha)) (t k2 s fun a ha => q a (List.mem_append_right _ ha))
theorem fzl_map : ∀ {xs : List α}, FzL c (xs.map (Vl c)) xs
  | [] => fzl_nil
  | _ :: _ => fzl_cons fzV fzl_map

theorem StkL.wl {P H : Hp} {F : List Addr} (h : StkL P H σ es ws F) : es.length = ws.length := h.len

/-! displays -/
theorem je_list {es : List Expr} {m : Out γ} {As : γ → List Ent} (ha : JA c ts es m As) (toL : γ → List α) (hf : ∀ x, FzL c (As x) (toL x)) (hn : ∀ x, (As x).length ≤ 1000) : JE c ts (.List es pos) (m.bind fun x => .ok (toL x)) (Ow c) :=
  PE.imp (pe_lst ha) fun σ H Q ⟨us, vs, E, q⟩ => ⟨us, vs, E, Out.wp_mono (Out.wp_bind q) (fun x _ q => by
    intro ws H1 hl E1
    refine ⟨by rw [← hl, sizeLine_eq]; exact Nat.le_trans (hn x) (by decide), fun p hp => ?_⟩
    obtain ⟨F1, FB, F2, E1, k, h2⟩ := Env.open E1 hl
    exact q _ _ (E1.pushN h2 hp fun P' s' f => hf x k s' fun a ha o e => f a o ha e)) fun _ _ z => z⟩
theorem je_nil : JE c ts (.List [] pos) (.ok ([] : List α)) (Ow c) :=
  PE.imp (pe_lst pa_nil) fun σ H Q ⟨us, vs, E, q⟩ => ⟨Nat.zero_le _, fun p hp => q _ _ (Env.pushN (es := []) (ws := []) E rfl hp fun _ _ _ _ _ _ _ => .nil)⟩
theorem je_tup {es : List Expr} {m : Out γ} {As : γ → List Ent} {k : Nat} (ha : JA c ts es m As) (toT : γ → τ)
    (hf : ∀ x {P P' H : Hp} {σ : Sl} {F : List Addr} {ws : List V} {p : Addr}, StkL P H σ (As x) ws F → Same P P' → (∀ a ∈ F, ∀ o, H a = some o → P' a = some o) → P' p = some (.tup ws) → Py.rep c.X.K P' (.ref p) (toT x)) (hn : ∀ x, (As x).length ≤ 1000) :
    JE c ts (.Tuple es k pos) (m.bind fun x => .ok (toT x)) (Vl c) :=
  PE.imp (pe_tup ha) fun σ H Q ⟨us, vs, E, q⟩ => ⟨us, vs, E, Out.wp_mono (Out.wp_bind q) (fun x _ q => by
    intro ws H1 hl E1
    refine ⟨by rw [← hl, sizeLine_eq]; exact Nat.le_trans (hn x) (by decide), fun p hp => ?_⟩
    obtain ⟨F1, FB, F2, E1, k, h2⟩ := Env.open E1 hl
    refine q _ _ (E1.pushV h2 (same_new hp) fun P' s' n _ => hf x k s' (fun a ha o e => n a o (.inr ha) ?_) (n p _ (.inl hp) upd_same))
    rw [upd_ne (ne_of_none e hp)]
    exact e) fun _ _ z => z⟩
theorem stk1 {P H : Hp} {F : List Addr} {e : Ent} {ws : List V} (h : StkL P H σ [e] ws F) : ∃ v, ws = [v] ∧ StkOk P H σ e v F := by
  match ws, h with
  | [v], h => exact ⟨v, rfl, StkL.one h⟩
  | [], h => exact h.elim
  | _ :: _ :: _, ⟨_, _, _, _, h⟩ => exact h.elim
theorem stk2 {P H : Hp} {F : List Addr} {e1 e2 : Ent} {ws : List V} (h : StkL P H σ [e1, e2] ws F) : ∃ v1 v2 F1 F2, ws = [v1, v2] ∧ F = F1 ++ F2 ∧ StkOk P H σ e1 v1 F1 ∧ StkOk P H σ e2 v2 F2 := by
  match ws, h with
  | v :: ws, ⟨F1, F2, eF, h1, h2⟩ =>
    obtain ⟨v2, e, h2'⟩ := stk1 h2
    subst e
    exact ⟨v, v2, F1, F2, rfl, eF, h1, h2'⟩
theorem je_tup2 {es : List Expr} {m : Out (α × β × Unit)} {A : α → Ent} {B : β → Ent} {k : Nat} (fA : ∀ x, Fz c (A x) x) (fB : ∀ x, Fz c (B x) x) (ha : JA c ts es m (fun p => [A p.1, B p.2.1])) :
    JE c ts (.Tuple es k pos) (m.bind fun x => .ok (x.1, x.2.1)) (Vl c) :=
  je_tup ha (fun x => (x.1, x.2.1)) (fun x {P P' H σ F ws p} h s f hp => by
    obtain ⟨v1, v2, F1, F2, e, eF, h1, h2⟩ := stk2 h
    subst e eF
    exact ⟨p, v1, v2, rfl, SqT.of hp, fA _ h1 s fun a ha => f a (List.mem_append_left _ ha), fB _ h2 s fun a ha => f a (List.mem_append_right _ ha)⟩) fun _ => Nat.le_of_ble_eq_true rfl
theorem je_tup3 {γ' : Type} [Py γ'] {es : List Expr} {m : Out (α × β × γ' × Unit)} {A : α → Ent} {B : β → Ent} {C : γ' → Ent} {k : Nat} (fA : ∀ x, Fz c (A x) x) (fB : ∀ x, Fz c (B x) x) (fC : ∀ x, Fz c (C x) x) (ha : JA c ts es m (fun p => [A p.1, B p.2.1, C p.2.2.1])) :
    JE c ts (.Tuple es k pos) (m.bind fun x => .ok (T3.mk x.1 x.2.1 x.2.2.1)) (Vl c) :=
  je_tup ha (fun x => T3.mk x.1 x.2.1 x.2.2.1) (fun x {P P' H σ F ws p} h s f hp => by
    match ws, h with
    | v :: ws, ⟨F1, F2, eF, h1, h2⟩ =>
      obtain ⟨v2, v3, F3, F4, e, eF', h3, h4⟩ := stk2 h2
      subst e eF eF'
      exact ⟨p, v, v2, v3, rfl, SqT.of hp, fA _ h1 s fun a ha => f a (List.mem_append_left _ ha), fB _ h3 s fun a ha => f a (List.mem_append_right _ (List.mem_append_left _ ha)),
        fC _ h4 s fun a ha => f a (List.mem_append_right _ (List.mem_append_right _ ha))⟩) fun _ => Nat.le_of_ble_eq_true rfl
/-- a tuple of things alike -/
theorem je_tupL {es : List Expr} {m : Out γ} {As : γ → List Ent} {k : Nat} (ha : JA c ts es m As) (toL : γ → List α) (hf : ∀ x, FzL c (As x) (toL x)) (hn : ∀ x, (As x).length ≤ 1000) : JE c ts (.Tuple es k pos) (m.bind fun x => .ok (Tup.mk (toL x))) (Vl c) :=
  je_tup ha (fun x => Tup.mk (toL x)) (fun x {P P' H σ F ws p} h s f hp => ⟨p, ws, rfl, SqT.of hp, hf x h s f⟩) hn

/-! ### own functions -/
abbrev ArgP := Hp → Hp → V → Prop
def aV (K : PySem.W.Frag) {α : Type} [Py α] (x : α) : ArgP := fun P _ v => Py.rep K P v x
def aB (K : PySem.W.Frag) {α : Type} [Py α] (x : α) : ArgP := fun _ H v => Py.rep K H v x
def ArgL (ps : List ArgP) (P H : Hp) (vs : List V) : Prop := Paired (fun v p => p P H v) vs ps
def ResOk (K : PySem.W.Frag) (md : Md) {ρ : Type} [Py ρ] (O : List Addr) (H H' : Hp) (r : ρ) (v : V) : Prop :=
  ∃ F : List Addr, (∀ a ∈ F, H a = none) ∧ F.Nodup ∧ (∀ a ∈ F, MutA H' a) ∧ (asn K H md r).p (hide (O ++ F) H') H' F v
/-- the promise: it does what its mirror f says -/
def spM (K : PySem.W.Frag) (eg : EK → Addr) (md : Md) {γ ρ : Type} [Py ρ] (f : γ → Out ρ) (As : γ → List ArgP) : Sp := fun vs H Q E =>
  ∃ (x : γ) (O : List Addr), (∀ a ∈ O, MutA H a) ∧ ArgL (As x) (hide O H) H vs ∧ (f x).wp (fun r => ∀ v H', Same H H' → ResOk K md O H H' r v → Q v H') (fun e => ∀ d H', ErrAt e d H' → Same H H' → E (.ref (eg e.k)) d H')
def Ps (c : Cw) (ts : List (Option Asn)) (e : Ent) (p : ArgP) : Prop := ∀ {P H P' : Hp} {σ : Sl} {F F1 : List Addr} {v : V}, Part P H → Same c.G H → EnvL P H ts σ F1 → StkOk P H σ e v F → Same P P' → (∀ a ∈ F, ∀ o, H a = some o → P' a = some o) → p P' H v
theorem psB {e : Ent} {x : α} (r : Rd c ts e x) : Ps c ts e (aB c.X.K x) := fun p g l h _ _ => r p g l h
theorem psV {e : Ent} {x : α} (r : Fz c e x) : Ps c ts e (aV c.X.K x) := fun _ _ _ h s k => r h s k
def PsL (c : Cw) (ts : List (Option Asn)) (es : List Ent) (ps : List ArgP) : Prop := ∀ {P H P' : Hp} {σ : Sl} {F F1 : List Addr} {ws : List V}, Part P H → Same c.G H → EnvL P H ts σ F1 → StkL P H σ es ws F → Same P P' → (∀ a ∈ F, ∀ o, H a = some o → P' a = some o) → ArgL ps P' H ws
theorem psl_nil : PsL c ts [] [] := fun {P H P' σ F F1 ws} _ _ _ h _ _ => by
  cases ws with
  | nil => exact .nil
  | cons _ _ => exact h.elim
theorem psl_cons {e : Ent} {es : List Ent} {p : ArgP} {ps : List ArgP} (h : Ps c ts e p) (t : PsL c ts es ps) : PsL c ts (e :: es) (p :: ps) := fun {P H P' σ F F1 ws} pp g l k s q => by
  cases ws with
  | nil => exact k.elim
  | cons w ws =>
    obtain ⟨F1, F2, eF, k1, k2⟩ := k
    subst eF
    exact .cons (h pp g l k1 s fun a ha => q a (List.mem_append_left _ ha)) (t pp g l k2 s fun a ha => q a (List.mem_append_right _ ha))
/-- of the slots only what tx tells is kept -/
def Wk (c : Cw) (ts ts' : List (Option Asn)) : Prop := ∀ {us : List Ent} {σ : Sl} {vs : List V} {H : Hp}, Env c ts us σ vs H → Env c ts' us σ vs H
def WkX (c : Cw) (ts : List (Option Asn)) : Prop := match c.tx with
  | none => True
  | some tx => Wk c ts tx
theorem WkX.go (w : WkX c ts) (E : Env c ts us σ vs H) : EnvX c us σ vs H := by
  unfold WkX at w
  unfold EnvX
  cases h : c.tx with
  | none => exact E.ground
  | some tx =>
    rw [h] at w
    exact w E

theorem je_call {CX : CXT} {x : Str} {p : Pos} {e : Expr} {es : List Expr} {m : Out γ} {Es : γ → List Ent} {As : γ → List ArgP} {mf : γ → Out ρ} {md : Md} (hmd : md = .val ∨ md = .own) {k : Nat} {f : Addr} {fd : FuncData} {ps : List Str}
    (pe : ∀ {t : TA}, PA c.X (e :: es) t → PE c.X (.Call (.Name x p) (e :: es) [] pos) (tCallS (spM c.X.K c.eg md mf As) (WE c.W) t))
    (ha : JA c ts (e :: es) m Es) (hp : ∀ x, PsL c ts (Es x) (As x)) (hw : WkX c ts) :
    JE c ts (.Call (.Name x p) (e :: es) [] pos) (m.bind fun x => mf x) (fun r => .as (asn c.X.K c.G md r)) :=
  PE.imp (pe ha) fun σ H Q ⟨us, vs, E, q⟩ => ⟨us, vs, E, Out.wp_mono (Out.wp_bind q) (fun y _ q => by
    intro ws H1 hl E1
    obtain ⟨F1, FB, F2, E1, k, h2⟩ := Env.open E1 hl
    have nd := E1.nd
    have nB : ∀ a ∈ FB, a ∉ c.Of ++ (F1 ++ F2) := fun a h z => by
      obtain ⟨n1, n2, n3⟩ := List.nodup_append.mp nd
      obtain ⟨m1, m2, m3⟩ := List.nodup_append.mp n2
      rcases List.mem_append.mp z with z | z
      · have q1 := (E1.fr a (List.mem_append_right _ (List.mem_append_left _ h))).1
        obtain ⟨o, e, _⟩ := E1.og a z
        rw [q1] at e
        cases e
      · rcases List.mem_append.mp z with z | z
        · exact n3 a z a (List.mem_append_left _ h) rfl
        · exact m3 a h a z rfl
    have sub : ∀ a, a ∈ c.Of ++ (F1 ++ F2) → a ∈ c.Of ++ (F1 ++ (FB ++ F2)) := fun a h => by
      rcases List.mem_append.mp h with h | h
      · exact List.mem_append_left _ h
      · rcases List.mem_append.mp h with h | h
        · exact List.mem_append_right _ (List.mem_append_left _ h)
        · exact List.mem_append_right _ (List.mem_append_right _ (List.mem_append_right _ h))
    have sO : Same (hide (c.Of ++ (F1 ++ (FB ++ F2))) H1) (hide (c.Of ++ (F1 ++ F2)) H1) := fun a o z => by
      obtain ⟨n, z⟩ := hide_some z
      rw [hide_of fun y => n (sub a y)]
      exact z
    refine ⟨y, c.Of ++ (F1 ++ F2), fun a ha => ?_, hp y E1.part E1.g E1.sl k sO (fun a ha o e => by rw [hide_of (nB a ha)]; exact e), Out.wp_mono q (fun r _ q v H2 s r' => ?_) fun er _ q d H2 h1 s => ?_⟩
    · rcases List.mem_append.mp ha with h | h
      · obtain ⟨o, e, mo⟩ := E1.og a h
        exact ⟨o, E1.g _ _ e, mo⟩
      · exact (E1.fr a (by
          rcases List.mem_append.mp h with h | h
          · exact List.mem_append_left _ h
          · exact List.mem_append_right _ (List.mem_append_right _ h))).2
    · obtain ⟨F, g1, g2, g3, g4⟩ := r'
      refine q v H2 ⟨F1, F ++ F2, E1.top h2 s (fun a h => .inr (g1 a h)) g2 g3 fun P' s' n l => ?_⟩
      have hs : Same (hide (c.Of ++ (F1 ++ F2) ++ F) H2) P' := fun a o z => by
        obtain ⟨n', z⟩ := hide_some z
        have nF : a ∉ F := fun y => n' (List.mem_append_right _ y)
        have nO : a ∉ c.Of ++ (F1 ++ F2) := fun y => n' (List.mem_append_left _ y)
        by_cases hB : a ∈ FB
        · exact n a o (.inr hB) nF z
        · cases e : H1 a with
          | none => exact n a o (.inl e) nF z
          | some u =>
            have z' := s _ _ e
            rw [z] at z'
            cases z'
            refine s' a o ?_
            rw [hide_of fun y => ?_]
            · exact e
            · rcases List.mem_append.mp y with y | y
              · exact nO (List.mem_append_left _ y)
              · rcases List.mem_append.mp y with y | y
                · exact nO (List.mem_append_right _ (List.mem_append_left _ y))
                · rcases List.mem_append.mp y with y | y
                  · exact hB y
                  · exact nO (List.mem_append_right _ (List.mem_append_right _ y))
      have e : asn c.X.K H1 md r = asn c.X.K c.G md r := by rcases hmd with e | e <;> subst e <;> rfl
      rw [e] at g4
      exact (asn c.X.K c.G md r).st hs (fun _ _ _ z => z) g4
    · exact q d H2 h1 (hw.go (Env.pop (Env.same ⟨F1, FB ++ F2, E1⟩ s) hl))) fun _ _ z => z⟩
theorem je_fn {x : Str} {p : Pos} {e : Expr} {es : List Expr} {m : Out γ} {Es : γ → List Ent} {As : γ → List ArgP} {mf : γ → Out ρ} {md : Md} {k : Nat} {f : Addr} {fd : FuncData} {ps : List Str}
    (F : FnOk c.X.prog c.X.w c.X.K c.X.mg c.X.base (L2N.CX c.X.prog c.X.w) k f fd ps (spM c.X.K c.eg md mf As)) (hr : Room k c.X.A) (hm : c.X.mg x = some (.ref f)) (hk : PySem.W.keepIn c.X.K (.ref f) = true) (hb : Binds c.X.K fd ps []) (tk : L2N.Takes c.X c.W)
    (ha : JA c ts (e :: es) m Es) (hp : ∀ x, PsL c ts (Es x) (As x)) (hw : WkX c ts) (hmd : md = .val ∨ md = .own := by first | exact .inl rfl | exact .inr rfl) (hg : Gl c.X x := by rfl) (hdb : (x == ("__debug__" : Str)) = false := by decide)
    (he : starEach (e :: es) c.X.env = (false, eval e c.X.env) :: starEach es c.X.env := by rfl) (hpl : (backTo pos (starEach es c.X.env)).any (·.1) = false := by rfl) :
    JE c ts (.Call (.Name x p) (e :: es) [] pos) (m.bind fun x => mf x) (fun r => .as (asn c.X.K c.G md r)) :=
  je_call (CX := L2N.CX c.X.prog c.X.w) (k := k) (f := f) (fd := fd) (ps := ps) hmd (fun h => pe_callS F hr hg hm hk hb (fun σ => L2N.passAt tk σ) h hdb he hpl) ha hp hw
end
end Mw
set_option maxRecDepth 100000
set_option maxHeartbeats 4000000
namespace Mw
open PySem PySem.Spec PyProof.Rows L2

/-! ### statements -/
/-- how a block may be left -/
inductive Exit where
  | next (ts : List (Option Asn))
  | again (ts : List (Option Asn))
  | cnt (ts : List (Option Asn))
  | brk (ts : List (Option Asn))
  | ret (A : Asn)
  | never
def Exit.noF : Exit → Exit
  | .next _ => .never
  | .again ts => .cnt ts
  | x => x
def Exit.retO : Exit → Exit
  | .ret A => .ret A
  | _ => .never
def ExitOk (c : Cw) (us : List Asn) (vs : List V) (D : Ends) : Exit → Prop
  | .next ts => ∀ σ H, Env c ts (us.map .as) σ vs H → D.nx σ H
  | .again ts => (∀ σ H, Env c ts (us.map .as) σ vs H → D.nx σ H) ∧ ∀ σ H, Env c ts (us.map .as) σ vs H → D.ct σ H
  | .cnt ts => ∀ σ H, Env c ts (us.map .as) σ vs H → D.ct σ H
  | .brk ts => ∀ σ H, Env c ts (us.map .as) σ vs H → D.bk σ H
  | .ret A => ∀ v H, Env c [] (.as A :: us.map .as) [] (v :: vs) H → D.rt v H
  | .never => True
def ExS (c : Cw) (us : List Asn) (vs : List V) (e : Err) : Prop := ∀ σ, Ex c (us.map .as) σ vs e
def tS (c : Cw) (ts : List (Option Asn)) {ω : Type} (m : Out ω) (post : ω → Exit) : TS := fun D σ H => ∃ (us : List Asn) (vs : List V), Env c ts (us.map .as) σ vs H ∧ m.wp (fun w => ExitOk c us vs D (post w)) (ExS c us vs)
/-- the block st does what m says -/
def JS (c : Cw) (ts : List (Option Asn)) (st : List Stmt) {ω : Type} (m : Out ω) (post : ω → Exit) : Prop := PSs c.X st (tS c ts m post)
theorem PSs.imp {X : Cx} {st : List Stmt} {t t' : TS} (h : PSs X st t) (i : ∀ D σ H, t' D σ H → t D σ H) : PSs X st t' := ⟨fun pins s σ H D I q => h.run pins s σ H D I (i D σ H q)⟩
theorem PSs.ex {X : Cx} {st : List Stmt} {ι : Type} {t : ι → TS} (h : ∀ i, PSs X st (t i)) : PSs X st (fun D σ H => ∃ i, t i D σ H) := ⟨fun pins s σ H D I ⟨i, q⟩ => (h i).run pins s σ H D I q⟩

section
variable {c : Cw} {ts tt : List (Option Asn)} {us : List Asn} {es : List Ent} {σ : Sl} {vs ws : List V} {H H' : Hp} {α β γ ω S ρ : Type} [Py α] [Py β] {a b e : Expr} {st rest A B : List Stmt} {pos : Pos} {post : ω → Exit}

/-! slots -/
theorem stk_map {P H : Hp} {σ' : Sl} {F : List Addr} : ∀ {us : List Asn} {vs : List V} {F : List Addr}, StkL P H σ (us.map .as) vs F → StkL P H σ' (us.map .as) vs F
  | [], [], _, h => h
  | [], _ :: _, _, h => h.elim
  | _ :: _, [], _, h => h.elim
  | _ :: us, _ :: vs, _, ⟨F1, F2, e, h1, h2⟩ => ⟨F1, F2, e, h1, stk_map (F := []) h2⟩
theorem Env.slots {ts' : List (Option Asn)} {σ' : Sl} (E : Env c ts (us.map .as) σ vs H) (h : ∀ {P F}, F.Nodup → EnvL P H ts σ F → ∃ F', (∀ a ∈ F', a ∈ F) ∧ F'.Nodup ∧ ∀ P', Same P P' → (∀ a ∈ F, a ∉ F' → ∀ o, H a = some o → P' a = some o) → EnvL P' H ts' σ' F') : Env c ts' (us.map .as) σ' vs H := by
  obtain ⟨F1, F2, E⟩ := E
  obtain ⟨n1, n2, n3⟩ := List.nodup_append.mp E.nd
  obtain ⟨F', f1, f2, f3⟩ := h n1 E.sl
  have noOf : ∀ a ∈ F1, a ∉ c.Of := fun a h q => by
    have := (E.fr a (List.mem_append_left _ h)).1
    obtain ⟨o, e, _⟩ := E.og a q
    rw [this] at e
    cases e
  have sP : Same (hide (c.Of ++ (F1 ++ F2)) H) (hide (c.Of ++ (F' ++ F2)) H) := fun a o q => by
    obtain ⟨n, q⟩ := hide_some q
    rw [hide_of (fun z => n ?_)]
    · exact q
    · rcases List.mem_append.mp z with z | z
      · exact List.mem_append_left _ z
      · rcases List.mem_append.mp z with z | z
        · exact List.mem_append_right _ (List.mem_append_left _ (f1 a z))
        · exact List.mem_append_right _ (List.mem_append_right _ z)
  refine ⟨F', F2, f3 _ sP fun a ha nF o q => ?_, stk_map (F := []) (E.sk.st sP fun a _ o q => q), ?_, fun a ha => E.fr a ?_, E.g, E.og⟩
  · rw [hide_of (fun z => ?_)]
    · exact q
    · rcases List.mem_append.mp z with z | z
      · exact noOf a ha z
      · rcases List.mem_append.mp z with z | z
        · exact nF z
        · exact n3 a ha a z rfl
  · exact List.nodup_append.mpr ⟨f2, n2, fun a ha b hb => n3 a (f1 a ha) b hb⟩
  · rcases List.mem_append.mp ha with h | h
    · exact List.mem_append_left _ (f1 a h)
    · exact List.mem_append_right _ h
/-- what is known of the slots, weakened -/
inductive WkL : List (Option Asn) → List (Option Asn) → Prop
  | nil : WkL [] []
  | keep {t : Option Asn} {ts ts' : List (Option Asn)} : WkL ts ts' → WkL (t :: ts) (t :: ts')
  | drop {t : Option Asn} {ts ts' : List (Option Asn)} : WkL ts ts' → WkL (t :: ts) (none :: ts')
  | frz {α : Type} [Py α] {K : PySem.W.Frag} {G : Hp} {x : α} {ts ts' : List (Option Asn)} : WkL ts ts' → WkL (some (asn K G .own x) :: ts) (some (asn K G .val x) :: ts')
theorem WkL.go {P H : Hp} {ts ts' : List (Option Asn)} (w : WkL ts ts') : ∀ {σ : Sl} {F : List Addr}, F.Nodup → EnvL P H ts σ F → ∃ F', (∀ a ∈ F', a ∈ F) ∧ F'.Nodup ∧ ∀ P', Same P P' → (∀ a ∈ F, a ∉ F' → ∀ o, H a = some o → P' a = some o) → EnvL P' H ts' σ F' := by
  induction w with
  | nil =>
    intro σ F _ h
    cases σ with
    | nil =>
      have e : F = [] := h
      subst e
      exact ⟨[], fun _ z => z, List.nodup_nil, fun _ _ _ => rfl⟩
    | cons _ _ => exact h.elim
  | @keep t ts ts' w ih =>
    intro σ F nd h
    cases σ with
    | nil => exact h.elim
    | cons v σ =>
      obtain ⟨F1, F2, e, h1, h2⟩ := h
      subst e
      obtain ⟨n1, n2, n3⟩ := List.nodup_append.mp nd
      obtain ⟨F', f1, f2, f3⟩ := ih n2 h2
      refine ⟨F1 ++ F', fun a ha => ?_, List.nodup_append.mpr ⟨n1, f2, fun a ha b hb => n3 a ha b (f1 b hb)⟩, fun P' s k => ⟨F1, F', rfl, h1.st s fun _ _ _ z => z, f3 P' s fun a ha nF => k a (List.mem_append_right _ ha) fun z => ?_⟩⟩
      · rcases List.mem_append.mp ha with h | h
        · exact List.mem_append_left _ h
        · exact List.mem_append_right _ (f1 a h)
      · rcases List.mem_append.mp z with z | z
        · exact n3 a z a ha rfl
        · exact nF z
  | @drop t ts ts' w ih =>
    intro σ F nd h
    cases σ with
    | nil => exact h.elim
    | cons v σ =>
      obtain ⟨F1, F2, e, h1, h2⟩ := h
      subst e
      obtain ⟨n1, n2, n3⟩ := List.nodup_append.mp nd
      obtain ⟨F', f1, f2, f3⟩ := ih n2 h2
      exact ⟨F', fun a ha => List.mem_append_right _ (f1 a ha), f2, fun P' s k => ⟨[], F', rfl, rfl, f3 P' s fun a ha nF => k a (List.mem_append_right _ ha) nF⟩⟩
  | @frz α _ K G x ts ts' w ih =>
    intro σ F nd h
    cases σ with
    | nil => exact h.elim
    | cons v σ =>
      obtain ⟨F1, F2, e, h1, h2⟩ := h
      subst e
      obtain ⟨n1, n2, n3⟩ := List.nodup_append.mp nd
      obtain ⟨F', f1, f2, f3⟩ := ih n2 h2
      obtain ⟨u, eu, h1⟩ := h1
      refine ⟨F', fun a ha => List.mem_append_right _ (f1 a ha), f2, fun P' s k => ⟨[], F', rfl, ⟨u, eu, rfl, Py.own_rep s (fun a ha => k a (List.mem_append_left _ ha) fun z => n3 a ha a (f1 a z) rfl) h1⟩, f3 P' s fun a ha nF => k a (List.mem_append_right _ ha) nF⟩⟩
theorem Env.wk (w : WkL ts tt) (E : Env c ts (us.map .as) σ vs H) : Env c tt (us.map .as) σ vs H := Env.slots E fun nd h => w.go nd h
theorem wk_of (w : WkL ts tt) (E : Env c ts (us.map .as) σ vs H) : Env c tt (us.map .as) σ vs H := E.wk w
/-- all slots go -/
theorem Env.nosl (E : Env c ts (us.map .as) σ vs H) : Env c [] (us.map .as) [] vs H :=
  Env.slots E fun {P F} _ _ => ⟨[], fun _ z => (nomatch z), List.nodup_nil, fun _ _ _ => rfl⟩
/-- the top goes into slot i -/
theorem Env.store {A : Asn} {v : V} {i : Nat} (E : Env c ts ((A :: us).map .as) σ (v :: vs) H) (hi : i < ts.length) : Env c (ts.set i (some A)) (us.map .as) (σ.set i (some v)) vs H := by
  obtain ⟨F1, F0, E⟩ := E
  obtain ⟨Fa, F2, eF, h1, h2⟩ := E.sk
  subst eF
  have ht : ts[i]? = some (ts[i]) := List.getElem?_eq_getElem hi
  obtain ⟨w, G1, Gi, G2, e1, e2, q, hl, put⟩ := E.sl.at i ht
  subst e2
  have sub : ∀ a, a ∈ G1 ++ (Fa ++ G2) ++ F2 → a ∈ G1 ++ (Gi ++ G2) ++ (Fa ++ F2) := fun a h => by
    simp only [List.mem_append] at h ⊢
    rcases h with (h | h | h) | h
    · exact .inl (.inl h)
    · exact .inr (.inl h)
    · exact .inl (.inr (.inr h))
    · exact .inr (.inr h)
  have sP : Same (hide (c.Of ++ (G1 ++ (Gi ++ G2) ++ (Fa ++ F2))) H) (hide (c.Of ++ (G1 ++ (Fa ++ G2) ++ F2)) H) := fun a o q => by
    obtain ⟨n, q⟩ := hide_some q
    rw [hide_of (fun z => n ?_)]
    · exact q
    · rcases List.mem_append.mp z with z | z
      · exact List.mem_append_left _ z
      · exact List.mem_append_right _ (sub a z)
  refine ⟨G1 ++ (Fa ++ G2), F2, put _ H (some A) (some v) Fa sP (fun _ _ _ z => z) ⟨v, rfl, A.st sP (fun _ _ _ z => z) h1⟩, stk_map (F := []) (h2.st sP fun _ _ _ z => z), ?_, fun a ha => E.fr a (sub a ha), E.g, E.og⟩
  have p : (G1 ++ (Gi ++ G2) ++ (Fa ++ F2)).Perm (Gi ++ (G1 ++ (Fa ++ G2) ++ F2)) := by
    have q1 : (G1 ++ (Gi ++ G2) ++ (Fa ++ F2)).Perm (Gi ++ (G1 ++ G2) ++ (Fa ++ F2)) := by
      refine List.Perm.append_right _ ?_
      rw [← List.append_assoc, ← List.append_assoc]
      exact List.Perm.append_right _ List.perm_append_comm
    refine q1.trans ?_
    rw [List.append_assoc]
    refine List.Perm.append_left _ ?_
    rw [List.append_assoc, List.append_assoc, List.append_assoc]
    refine List.Perm.append_left _ ?_
    rw [← List.append_assoc, ← List.append_assoc]
    exact List.Perm.append_right _ List.perm_append_comm
  exact (List.nodup_append.mp (p.nodup_iff.mp E.nd)).2.1

/-! the end of a block -/
theorem js_nil {w : ω} (hp : post w = .next tt) (hw : WkL ts tt) : JS c ts [] (.ok w) post :=
  PSs.imp pss_nil fun D σ H ⟨us, vs, E, q⟩ => by
    have q' : ExitOk c us vs D (post w) := q
    rw [hp] at q'
    exact q' σ H (E.wk hw)
theorem js_nilA {w : ω} (hp : post w = .again tt) (hw : WkL ts tt) : JS c ts [] (.ok w) post :=
  PSs.imp pss_nil fun D σ H ⟨us, vs, E, q⟩ => by
    have q' : ExitOk c us vs D (post w) := q
    rw [hp] at q'
    exact q'.1 σ H (E.wk hw)
theorem js_pass {m : Out ω} (h : JS c ts rest m post) : JS c ts (.Pass pos :: rest) m post :=
  PSs.imp (pss_cons ps_pass h) fun D σ H q => q
theorem js_cont {w : ω} (hp : post w = .cnt tt ∨ post w = .again tt) (hw : WkL ts tt) : JS c ts (.Continue pos :: rest) (.ok w) post :=
  PSs.imp (pss_cons (u := tNever) ps_continue pss_never) fun D σ H ⟨us, vs, E, q⟩ => by
    have q' : ExitOk c us vs D (post w) := q
    rcases hp with hp | hp
    · rw [hp] at q'
      exact q' σ H (E.wk hw)
    · rw [hp] at q'
      exact q'.2 σ H (E.wk hw)
theorem js_brk {w : ω} (hp : post w = .brk tt) (hw : WkL ts tt) : JS c ts (.Break pos :: rest) (.ok w) post :=
  PSs.imp (pss_cons (u := tNever) ps_break pss_never) fun D σ H ⟨us, vs, E, q⟩ => by
    have q' : ExitOk c us vs D (post w) := q
    rw [hp] at q'
    exact q' σ H (E.wk hw)
/-- a handed back value: a stack of one entry -/
theorem Env.noneT {A : Asn} {v : V} (E : Env c ts (.as A :: us.map .as) σ (v :: vs) H) : Env c [] (.as A :: us.map .as) [] (v :: vs) H := Env.nosl (us := A :: us) E
theorem tJ_S {m : Out α} {A : α → Asn} {Q : VK} (E : Env c ts (us.map .as) σ vs H) (q : m.wp (fun a => ∀ v H', Env c ts ((A a :: us).map .as) σ (v :: vs) H' → Q v H') (ExS c us vs)) : tJ c ts m (fun a => .as (A a)) σ H Q :=
  ⟨_, _, E, Out.wp_mono q (fun a _ q v H' E' => q v H' E') fun _ _ z => z σ⟩
theorem tT_S {m : Out Bool} {Q : Bool → Hp → Prop} (E : Env c ts (us.map .as) σ vs H) (q : m.wp (fun b => ∀ H', Env c ts (us.map .as) σ vs H' → Q b H') (ExS c us vs)) : tT c ts m σ H Q :=
  ⟨_, _, E, Out.wp_mono q (fun a _ q H' E' => q H' E') fun _ _ z => z σ⟩
theorem js_ret {m : Out α} {A : α → Asn} {inj : α → ω} (he : JE c ts e m (fun a => .as (A a))) (hp : ∀ a, post (inj a) = .ret (A a)) : JS c ts (.Return (some e) pos :: rest) (m.bind fun a => .ok (inj a)) post :=
  PSs.imp (pss_cons (u := tNever) (ps_ret he) pss_never) fun D σ H ⟨us, vs, E, q⟩ => tJ_S E (Out.wp_mono (Out.wp_bind q) (fun a _ q v H' E' => by
    have q' : ExitOk c us vs D (post (inj a)) := q
    rw [hp] at q'
    exact q' v H' E'.noneT) fun _ _ z => z)
/-- .. as the whole -/
theorem js_retT {m : Out α} {A : α → Asn} (he : JE c ts e m (fun a => .as (A a))) : JS c ts (.Return (some e) pos :: rest) m (fun a => .ret (A a)) :=
  PSs.imp (pss_cons (u := tNever) (ps_ret he) pss_never) fun D σ H ⟨us, vs, E, q⟩ => tJ_S E (Out.wp_mono q (fun a _ q v H' E' => q v H' E'.noneT) fun _ _ z => z)
/-! x = e -/
theorem js_set {i : Nat} {x : Str} {pos' : Pos} {m : Out α} {A : α → Asn} {k : α → Out ω} (hN : c.X.N.Nodup) (hi : c.X.N[i]? = some x) (he : JE c ts e m (fun a => .as (A a))) (hk : ∀ a, JS c (ts.set i (some (A a))) rest (k a) post)
    (hl : i < ts.length := by exact Nat.lt_of_succ_le (Nat.le_of_ble_eq_true rfl)) (hx : Loc c.X.env.scope x := by first | exact Or.inl rfl | exact Or.inr rfl) (hs : swapsWith e (some (.Name x pos')) pos.line c.X.env = pure false := by rfl)
    (hf : c.X.fn x = true ∨ c.X.env.scope.names.lookup x = some .local := by first | exact .inl rfl | exact .inr rfl | assumption) : JS c ts (.Assign [.Name x pos'] e pos :: rest) (m.bind k) post :=
  PSs.imp (pss_cons (ps_set hN hi hx he hs hf) (PSs.ex hk)) fun D σ H ⟨us, vs, E, q⟩ => tJ_S E (Out.wp_mono (Out.wp_bind q) (fun a _ q v H' E' => ⟨a, us, vs, E'.store hl, q⟩) fun _ _ z => z)
/-- an expression whose value is dropped -/
theorem js_expr {m : Out α} {A : α → Asn} {k : α → Out ω} (he : JE c ts e m (fun a => .as (A a))) (hk : ∀ a, JS c ts rest (k a) post) (hs : swapsWith e none pos.line c.X.env = pure false := by rfl) : JS c ts (.Expr e pos :: rest) (m.bind k) post :=
  PSs.imp (pss_cons (ps_expr he hs) (PSs.ex hk)) fun D σ H ⟨us, vs, E, q⟩ => tJ_S E (Out.wp_mono (Out.wp_bind q) (fun a _ q v H' E' => ⟨a, us, vs, Env.pop (es := [_]) (ws := [_]) E' rfl, q⟩) fun _ _ z => z)
/-- nothing changes; the slots are known less -/
theorem js_wk {m : Out ω} (hw : WkL ts tt) (h : JS c tt st m post) : JS c ts st m post := PSs.imp h fun D σ H ⟨us, vs, E, q⟩ => ⟨us, vs, E.wk hw, q⟩
/-! if -/
theorem wp_if {b : Bool} {m1 m2 : Out α} {Q : α → Prop} {E : Err → Prop} (h : (if b = true then m1 else m2).wp Q E) : if b = true then m1.wp Q E else m2.wp Q E := by
  cases b with
  | true => exact h
  | false => exact h
theorem noF_ok {D : Ends} {n : L2.St → Hp → Prop} {x : Exit} (h : ExitOk c us vs D x) : ExitOk c us vs { D with nx := n } x.noF := by
  cases x with
  | next ts => trivial
  | again ts => exact h.2
  | cnt ts => exact h
  | brk ts => exact h
  | ret A => exact h
  | never => trivial
/-- if a: A; rest, A never goes on -/
theorem js_ifA {mc : Out Bool} {mA mB : Out ω} (hc : JT c ts a mc) (hA : JS c ts A mA (fun w => (post w).noF)) (hB : JS c ts rest mB post) : JS c ts (.If a A [] pos :: rest) (mc.bind fun b => if b = true then mA else mB) post :=
  PSs.imp (pss_cons (ps_if hc hA pss_nil) hB) fun D σ H ⟨us, vs, E, q⟩ => tT_S E (Out.wp_mono (Out.wp_bind q) (fun b _ q H' E' => by
    cases b with
    | true => exact ⟨us, vs, E', Out.wp_mono q (fun w _ q => noF_ok q) fun _ _ z => z⟩
    | false => exact ⟨us, vs, E', q⟩) fun _ _ z => z)
/-- the last statement of a block -/
theorem js_ifL {mc : Out Bool} {mA mB : Out ω} (hc : JT c ts a mc) (hA : JS c ts A mA post) (hB : JS c ts B mB post) : JS c ts [.If a A B pos] (mc.bind fun b => if b = true then mA else mB) post :=
  PSs.imp (pss_one (ps_if hc hA hB)) fun D σ H ⟨us, vs, E, q⟩ => tT_S E (Out.wp_mono (Out.wp_bind q) (fun b _ q H' E' => by
    cases b with
    | true => exact ⟨us, vs, E', q⟩
    | false => exact ⟨us, vs, E', q⟩) fun _ _ z => z)
/-- if a: A else: B; rest, both go on -/
theorem js_ifJ {mc : Out Bool} {mA mB : Out S} {tj : S → List (Option Asn)} {k : S → Out ω} (hc : JT c ts a mc) (hA : JS c ts A mA (fun s => .next (tj s))) (hB : JS c ts B mB (fun s => .next (tj s))) (hk : ∀ s, JS c (tj s) rest (k s) post) :
    JS c ts (.If a A B pos :: rest) (mc.bind fun b => (if b = true then mA else mB).bind k) post :=
  PSs.imp (pss_cons (ps_if hc hA hB) (PSs.ex hk)) fun D σ H ⟨us, vs, E, q⟩ => tT_S E (Out.wp_mono (Out.wp_bind q) (fun b _ q H' E' => by
    have q' := Out.wp_bind q
    cases b with
    | true => exact ⟨us, vs, E', Out.wp_mono q' (fun s _ q σ' H2 E2 => ⟨s, us, vs, E2, q⟩) fun _ _ z => z⟩
    | false => exact ⟨us, vs, E', Out.wp_mono q' (fun s _ q σ' H2 E2 => ⟨s, us, vs, E2, q⟩) fun _ _ z => z⟩) fun _ _ z => z)
/-- .. some ways go on, some don't -/
theorem js_ifX {mc : Out Bool} {mA mB : Out (S ⊕ ω)} {tj : S → List (Option Asn)} {k : S → Out ω} (hc : JT c ts a mc) (hA : JS c ts A mA (Sum.elim (fun s => .next (tj s)) fun w => (post w).noF)) (hB : JS c ts B mB (Sum.elim (fun s => .next (tj s)) fun w => (post w).noF)) (hk : ∀ s, JS c (tj s) rest (k s) post) :
    JS c ts (.If a A B pos :: rest) (mc.bind fun b => (if b = true then mA else mB).bind (Sum.elim k .ok)) post := by
  refine PSs.imp (pss_cons (ps_if hc hA hB) (PSs.ex hk)) fun D σ H ⟨us, vs, E, q⟩ => tT_S E (Out.wp_mono (Out.wp_bind q) (fun b _ q H' E' => ?_) fun _ _ z => z)
  have q' := Out.wp_bind q
  have fin : ∀ z : S ⊕ ω, (Sum.elim k Out.ok z).wp (fun w => ExitOk c us vs D (post w)) (ExS c us vs) → ExitOk c us vs { D with nx := fun σ H => ∃ s, tS c (tj s) (k s) post D σ H } (Sum.elim (fun s => .next (tj s)) (fun w => (post w).noF) z) := fun z q => by
    cases z with
    | inl s => exact fun σ' H2 E2 => ⟨s, us, vs, E2, q⟩
    | inr w => exact noF_ok q
  cases b with
  | true => exact ⟨us, vs, E', Out.wp_mono q' (fun z _ q => fin z q) fun _ _ z => z⟩
  | false => exact ⟨us, vs, E', Out.wp_mono q' (fun z _ q => fin z q) fun _ _ z => z⟩
end
end Mw
set_option maxRecDepth 100000
set_option maxHeartbeats 4000000
namespace Mw
open PySem PySem.Spec PyProof.Rows L2

/-! ### loops -/
inductive Ctl (S ω : Type) where
  | nxt (s : S)
  | brk (s : S)
  | out (w : ω)
/-- behind a loop -/
inductive Aft (S ω : Type) where
  | fin (s : S)
  | out (w : ω)
def forL {α S ω : Type} (body : α → S → Out (Ctl S ω)) : List α → S → Out (Aft S ω)
  | [], s => .ok (.fin s)
  | x :: xs, s => (body x s).bind fun z => match z with
    | .nxt s' => forL body xs s'
    | .brk s' => .ok (.fin s')
    | .out w => .ok (.out w)
def whileF {S ω : Type} (cond : S → Out Bool) (body : S → Out (Ctl S ω)) : Nat → S → Out (Aft S ω)
  | 0, _ => .bad
  | n + 1, s => (cond s).bind fun b => if b = true then (body s).bind fun z => match z with
    | .nxt s' => whileF cond body n s'
    | .brk s' => .ok (.fin s')
    | .out w => .ok (.out w)
    else .ok (.fin s)
/-- lo, lo + c, .. -/
def rangeI (lo : Int) (n : Nat) : List Int := (List.range n).map fun (i : Nat) => lo + (i : Int)
def rangeC (lo c : Int) (n : Nat) : List Int := (List.range n).map fun (i : Nat) => lo + (i : Int) * c
def enumI {α : Type} : Nat → List α → List (Int × α)
  | _, [] => []
  | i, x :: xs => ((i : Int), x) :: enumI (i + 1) xs
theorem enumI_get {α : Type} : ∀ {xs : List α} {k i : Nat} {y : Int × α}, (enumI k xs)[i]? = some y → ∃ x, xs[i]? = some x ∧ y = (((k + i : Nat) : Int), x)
  | [], _, _, _, h => by simp [enumI] at h
  | x :: xs, k, 0, y, h => by
    simp [enumI] at h
    subst h
    exact ⟨x, rfl, rfl⟩
  | x :: xs, k, i + 1, y, h => by
    obtain ⟨z, e, r⟩ := enumI_get (xs := xs) (k := k + 1) (i := i) (y := y) (by simpa [enumI] using h)
    exact ⟨z, by simpa using e, by rw [r]; congr 2; omega⟩
theorem enumI_len {α : Type} : ∀ {xs : List α} {k : Nat}, (enumI k xs).length = xs.length
  | [], _ => rfl
  | x :: xs, k => by simp [enumI, enumI_len (xs := xs)]

def Ctl.ex {S ω : Type} (tl : S → List (Option Asn)) (post : ω → Exit) : Ctl S ω → Exit
  | .nxt s => .again (tl s)
  | .brk s => .brk (tl s)
  | .out w => (post w).retO
def Aft.go {S ω : Type} (k : S → Out ω) : Aft S ω → Out ω
  | .fin s => k s
  | .out w => .ok w

/-- what is walked: at turn i it hands out xs[i] -/
structure Src (c : Cw) (J : It) (ps : List Asn) (pv : List V) {α : Type} (xs : List α) (El : α → Asn) : Prop where
  go : ∀ {ts : List (Option Asn)} {us : List Ent} {σ : Sl} {vs : List V} {H : Hp} {i : Nat} {x : α}, Env c ts (ps.map .as ++ us) σ (pv ++ vs) H → xs[i]? = some x → J.go i H ∧ ∀ y H', J.yld i H y H' → Env c ts (.as (El x) :: (ps.map .as ++ us)) σ (y :: (pv ++ vs)) H'
  stop : ∀ {ts : List (Option Asn)} {us : List Ent} {σ : Sl} {vs : List V} {H : Hp}, Env c ts (ps.map .as ++ us) σ (pv ++ vs) H → J.stop xs.length H
def tI (c : Cw) (ts : List (Option Asn)) {α : Type} (m : Out (List α)) (El : α → Asn) : TI := fun σ H R => ∃ us vs, Env c ts us σ vs H ∧ m.wp (fun xs => ∀ J H' ps pv, ps.length = pv.length → Src c J ps pv xs El → Env c ts (ps.map .as ++ us) σ (pv ++ vs) H' → R J H') (Ex c us σ vs)
def JI (c : Cw) (ts : List (Option Asn)) (tg iter : Expr) {α : Type} (m : Out (List α)) (El : α → Asn) : Prop := PI c.X tg iter (tI c ts m El)
theorem PI.imp {X : Cx} {tg iter : Expr} {t t' : TI} (h : PI X tg iter t) (i : ∀ σ H R, t' σ H R → t σ H R) : PI X tg iter t' := ⟨fun pins s σ H R I q => h.run pins s σ H R I (i σ H R q)⟩
/-- where the items go -/
def Tgt (c : Cw) (n : Nat) {α : Type} (g : TG) (El : α → Asn) (up : α → List (Option Asn) → List (Option Asn)) : Prop := ∀ {x : α} {ts : List (Option Asn)} {us : List Asn} {σ : Sl} {y : V} {vs : List V} {H : Hp} {Q : L2.St → Hp → Prop},
  n ≤ ts.length → Env c ts ((El x :: us).map .as) σ (y :: vs) H → (∀ σ' H', Env c (up x ts) (us.map .as) σ' vs H' → Q σ' H') → g y σ H Q

section
variable {c : Cw} {ts tt : List (Option Asn)} {us : List Asn} {es : List Ent} {σ : Sl} {vs ws : List V} {H H' : Hp} {α β γ ω S ρ : Type} [Py α] [Py β] [Py γ] {a b e tg iter : Expr} {st rest A B body : List Stmt} {pos : Pos} {post : ω → Exit}

theorem tgt_name {El : α → Asn} (i : Nat) : Tgt c (i + 1) (gName i) El (fun x ts => ts.set i (some (El x))) := fun hl E q => q _ _ (E.store hl)
/-- one more value, seen from what is there -/
theorem EnvF.addVF {us : List Ent} {x : α} {v : V} {F1 F2 : List Addr} (E : EnvF c ts us σ vs H F1 F2) (r : Py.rep c.X.K (hide (c.Of ++ (F1 ++ F2)) H) v x) : EnvF c ts (.as (asn c.X.K c.G .val x) :: us) σ (v :: vs) H F1 F2 :=
  EnvF.top (es := []) (ws := []) (FB := []) (F := []) E E.sk (Same.refl _) (fun _ h => (nomatch h)) List.nodup_nil (fun _ h => (nomatch h)) fun P' s' _ _ => ⟨rfl, Py.mono s' r⟩
/-- a pair into two names -/
theorem tgt_pair (i j : Nat) : Tgt c (max i j + 1) (gTup c.X.K 2 (gCons (gName i) (gCons (gName j) gNil))) (fun x : α × β => asn c.X.K c.G .val x) (fun x ts => (ts.set i (some (asn c.X.K c.G .val x.1))).set j (some (asn c.X.K c.G .val x.2))) := fun {x ts us σ y vs H Q} hl E q => by
  obtain ⟨F1, F2, E0⟩ := E
  obtain ⟨G1, G2, eG, k, _⟩ := E0.sk
  obtain ⟨p, v1, v2, ey, hp, r1, r2⟩ := k.2
  subst ey
  refine ⟨p, _, rfl, Same.seqT hide_le hp, rfl, v1, _, rfl, v2, _, rfl, rfl, q _ _ ?_⟩
  have s2 : Env c ts ((asn c.X.K c.G .val x.1 :: asn c.X.K c.G .val x.2 :: asn c.X.K c.G .val x :: us).map .as) σ (v1 :: v2 :: .ref p :: vs) H := ⟨F1, F2, (E0.addVF r2).addVF r1⟩
  have s4 := s2.store (i := i) (by have := Nat.le_max_left i j; omega)
  have s5 := s4.store (i := j) (by rw [List.length_set]; have := Nat.le_max_right i j; omega)
  exact Env.pop (es := [_]) (ws := [_]) s5 rfl

/-- for target in iter: body; rest -/
theorem js_forG {n : Nat} {m : Out (List α)} {El : α → Asn} {g : TG} {up : α → List (Option Asn) → List (Option Asn)} {tl : S → List (Option Asn)} {s0 : S} {f : α → S → Out (Ctl S ω)} {k : S → Out ω} (hps : ∀ {tb : TS}, PSs c.X body tb → PS c.X (.For tg iter body [] pos) (tFor (tI c ts m El) g tb)) (ht : Tgt c n g El up)
    (hw : WkL ts (tl s0)) (hb : ∀ x s, JS c (up x (tl s)) body (f x s) (Ctl.ex tl post)) (hk : ∀ s, JS c (tl s) rest (k s) post)
    (hl : ∀ s, n ≤ (tl s).length) :
    JS c ts (.For tg iter body [] pos :: rest) (m.bind fun xs => (forL f xs s0).bind (Aft.go k)) post := by
  refine PSs.imp (pss_cons (hps (PSs.ex fun x => PSs.ex fun s => hb x s)) (PSs.ex hk)) fun D σ H ⟨us, vs, E, q⟩ => ?_
  refine ⟨_, _, E, Out.wp_mono (Out.wp_bind q) (fun xs _ q => ?_) fun _ _ z => z σ⟩
  intro J H1 ps pv hpl sr E1
  have E1' : Env c ts ((ps ++ us).map .as) σ (pv ++ vs) H1 := by
    rw [List.map_append]
    exact E1
  let fin : Aft S ω → Prop := fun z => (Aft.go k z).wp (fun w => ExitOk c us vs D (post w)) (ExS c us vs)
  have hfin : ∀ s, fin (.fin s) → ∀ σ H, Env c (tl s) (us.map .as) σ vs H → ∃ s, tS c (tl s) (k s) post D σ H := fun s hz σ H E => ⟨s, us, vs, E, hz⟩
  refine ⟨fun i mm σ H => mm = xs.length - i ∧ i ≤ xs.length ∧ ∃ s, Env c (tl s) ((ps ++ us).map .as) σ (pv ++ vs) H ∧ (forL f (xs.drop i) s).wp fin (ExS c us vs), ⟨_, rfl, Nat.zero_le _, s0, E1'.wk hw, by rw [List.drop_zero]; exact Out.wp_bind q⟩, ?_⟩
  rintro i mm σ H ⟨rfl, hi', s, E2, q2⟩
  have E2' : Env c (tl s) (ps.map .as ++ us.map .as) σ (pv ++ vs) H := by
    rw [← List.map_append]
    exact E2
  by_cases hlt : i < xs.length
  · have hx : xs[i]? = some xs[i] := List.getElem?_eq_getElem hlt
    rw [List.drop_eq_getElem_cons hlt] at q2
    have q3 := Out.wp_bind (m := f xs[i] s) q2
    obtain ⟨g1, g2⟩ := sr.go E2' hx
    refine .inr ⟨g1, fun σ' H' => ∃ s', Env c (tl s') ((ps ++ us).map .as) σ' (pv ++ vs) H' ∧ (forL f (xs.drop (i + 1)) s').wp fin (ExS c us vs), fun σ' H' ⟨s', E3, q4⟩ => ⟨_, by omega, rfl, hlt, s', E3, q4⟩, fun y H' hy => ?_⟩
    have E3 := g2 y H' hy
    have E3' : Env c (tl s) ((El xs[i] :: (ps ++ us)).map .as) σ (y :: (pv ++ vs)) H' := by
      rw [List.map_cons, List.map_append]
      exact E3
    refine ht (hl s) E3' fun σ2 H2 E4 => ⟨xs[i], s, ps ++ us, pv ++ vs, E4, Out.wp_mono q3 (fun z _ q => ?_) fun er _ q σ3 d H3 h1 h2 => ?_⟩
    · cases z with
      | nxt s' => exact ⟨fun σ3 H3 E5 => ⟨s', E5, q⟩, fun σ3 H3 E5 => ⟨s', E5, q⟩⟩
      | brk s' =>
        intro σ3 H3 E5
        have E6 : Env c (tl s') (ps.map .as ++ us.map .as) σ3 (pv ++ vs) H3 := by
          rw [← List.map_append]
          exact E5
        exact hfin s' q σ3 H3 (Env.pop E6 (by rw [List.length_map]; exact hpl))
      | out w =>
        have q' : ExitOk c us vs D (post w) := q
        show ExitOk c (ps ++ us) (pv ++ vs) _ (post w).retO
        cases e : post w with
        | ret A =>
          rw [e] at q'
          intro v3 H3 E5
          refine q' v3 H3 ?_
          refine Env.pop (es := ps.map .as) (ws := pv) (Env.unrot ?_ (by rw [List.length_map]; exact hpl)) (by rw [List.length_map]; exact hpl)
          rw [List.map_append] at E5
          exact E5
        | next _ => trivial
        | again _ => trivial
        | cnt _ => trivial
        | brk _ => trivial
        | never => trivial
    · refine q σ3 d H3 h1 ?_
      refine EnvX.pop (es := ps.map .as) (ws := pv) ?_ (by rw [List.length_map]; exact hpl)
      rw [← List.map_append]
      exact h2
  · have e : i = xs.length := by omega
    subst e
    rw [List.drop_eq_nil_of_le (Nat.le_refl _)] at q2
    exact .inl ⟨sr.stop E2', hfin s q2 σ H (Env.pop E2' (by rw [List.length_map]; exact hpl))⟩
theorem js_for {n : Nat} {m : Out (List α)} {El : α → Asn} {g : TG} {up : α → List (Option Asn) → List (Option Asn)} {tl : S → List (Option Asn)} {s0 : S} {f : α → S → Out (Ctl S ω)} {k : S → Out ω} (hi : JI c ts tg iter m El) (hg : PG c.X tg g) (ht : Tgt c n g El up)
    (hw : WkL ts (tl s0)) (hb : ∀ x s, JS c (up x (tl s)) body (f x s) (Ctl.ex tl post)) (hk : ∀ s, JS c (tl s) rest (k s) post) (hp : PassesOwn (model c.X.prog c.X.w) c.X.A c.X.env c.X.xe) (hc : c.X.calm = true := by rfl)
    (hl : ∀ s, n ≤ (tl s).length := by intro _; exact Nat.le_of_ble_eq_true rfl) (hs : ∀ x, foldedSetIterable iter c.X.env x = pure x := by intro _; rfl) :
    JS c ts (.For tg iter body [] pos :: rest) (m.bind fun xs => (forL f xs s0).bind (Aft.go k)) post := js_forG (fun h => ps_for hp hc hi hg h hs) ht hw hb hk hl
def JIH (c : Cw) (ts : List (Option Asn)) (tg iter : Expr) {α : Type} (m : Out (List α)) (El : α → Asn) : Prop := L2H.PIH c.X tg iter (tI c ts m El)
theorem js_forH {n : Nat} {m : Out (List α)} {El : α → Asn} {g : TG} {up : α → List (Option Asn) → List (Option Asn)} {tl : S → List (Option Asn)} {s0 : S} {f : α → S → Out (Ctl S ω)} {k : S → Out ω} (hi : JIH c ts tg iter m El) (hg : PG c.X tg g) (ht : Tgt c n g El up)
    (hw : WkL ts (tl s0)) (hb : ∀ x s, JS c (up x (tl s)) body (f x s) (Ctl.ex tl post)) (hk : ∀ s, JS c (tl s) rest (k s) post) (hp : PassesOwn (model c.X.prog c.X.w) c.X.A c.X.env c.X.xe) (hc : L2H.HotC c.X)
    (hl : ∀ s, n ≤ (tl s).length := by intro _; exact Nat.le_of_ble_eq_true rfl) (hs : ∀ x, foldedSetIterable iter c.X.env x = pure x := by intro _; rfl) :
    JS c ts (.For tg iter body [] pos :: rest) (m.bind fun xs => (forL f xs s0).bind (Aft.go k)) post := js_forG (fun h => L2H.ps_forH hp hc hi hg h hs) ht hw hb hk hl

end
end Mw
set_option maxRecDepth 100000
set_option maxHeartbeats 4000000
namespace Mw
open PySem PySem.Spec PyProof.Rows L2

def rngOk (n : Int) : Prop := -(2 ^ 62) ≤ n ∧ n < 2 ^ 62
instance (n : Int) : Decidable (rngOk n) := by unfold rngOk; infer_instance
def setAt {α : Type} (xs : List α) (i : Int) (x : α) : Out (List α) := match ixN xs.length i with
  | some j => .ok (xs.set j x)
  | none => .bad
def popL {α : Type} (xs : List α) : Out (α × List α) := match xs[xs.length - 1]? with
  | some x => .ok (x, xs.dropLast)
  | none => .bad
def appL {α : Type} (xs : List α) (x : α) : Out (List α) := chk (xs.length < 16777216) (xs ++ [x])

section
variable {c : Cw} {ts tt : List (Option Asn)} {us : List Asn} {es ues : List Ent} {σ : Sl} {vs ws : List V} {H H' : Hp} {α β γ ω S ρ : Type} [Py α] [Py β] [Py γ] {a b e tg iter : Expr} {st rest A B body : List Stmt} {pos : Pos} {post : ω → Exit}

/-! ### what is walked -/
/-- a list -/
theorem ji_list {m : Out (List α)} {A : List α → Asn} (rx : ∀ {ts : List (Option Asn)} xs, RdE c ts (.as (A xs)) xs) (ha : JE c ts iter m (fun x => .as (A x))) : JI c ts tg iter m (fun x => asn c.X.K c.G .val x) :=
  PI.imp (pi_list ha) fun σ H R ⟨us, vs, E, q⟩ => ⟨us, vs, E, Out.wp_mono q (fun xs _ q => by
    intro v H1 E1
    obtain ⟨F1, F2, E2⟩ := id E1
    obtain ⟨G1, G2, eG, k, _⟩ := E2.sk
    obtain ⟨p, zs, ex, hp, rp⟩ := rx xs E2.part E2.g E2.sl k
    subst ex
    refine ⟨p, rfl, ⟨zs, SqL.of hp⟩, q (Itl c.X.K p) H1 [A xs] [.ref p] rfl ⟨fun {ts us σ vs H i x} E hx => ?_, fun {ts us σ vs H} E => ?_⟩ E1⟩
    · obtain ⟨F1, F2, E2⟩ := id E
      obtain ⟨G1, G2, eG, k, _⟩ := E2.sk
      obtain ⟨p', zs, ex, hp, rp⟩ := rx xs E2.part E2.g E2.sl k
      cases ex
      obtain ⟨v, hv, rv⟩ := Pd.get rp hx
      refine ⟨⟨zs, v, SqL.of hp, hv⟩, fun y H' ⟨eH, hy⟩ => ?_⟩
      subst eH
      have ey := hy zs (SqL.of hp)
      rw [hv] at ey
      cases ey
      exact ⟨F1, F2, E2.addVF rv⟩
    · obtain ⟨F1, F2, E2⟩ := id E
      obtain ⟨G1, G2, eG, k, _⟩ := E2.sk
      obtain ⟨p', zs, ex, hp, rp⟩ := rx xs E2.part E2.g E2.sl k
      cases ex
      exact ⟨zs, SqL.of hp, Nat.le_of_eq (Pd.len rp)⟩) fun _ _ z => z⟩
/-- a tuple of any length -/
theorem ji_tup {m : Out (Tup α)} (ha : JE c ts iter m (Vl c)) : JI c ts tg iter (m.bind fun x => .ok x.l) (fun x => asn c.X.K c.G .val x) :=
  PI.imp (pi_tup ha) fun σ H R ⟨us, vs, E, q⟩ => ⟨us, vs, E, Out.wp_mono (Out.wp_bind q) (fun xs _ q => by
    intro v H1 E1
    obtain ⟨F1, F2, E2⟩ := id E1
    obtain ⟨G1, G2, eG, k, _⟩ := E2.sk
    obtain ⟨p, zs, ex, hp, rp⟩ := k.2
    subst ex
    refine ⟨p, rfl, ⟨zs, Same.seqT hide_le hp⟩, q (Itt c.X.K p) H1 [asn c.X.K c.G .val xs] [.ref p] rfl ⟨fun {ts us σ vs H i x} E hx => ?_, fun {ts us σ vs H} E => ?_⟩ E1⟩
    · obtain ⟨F1, F2, E2⟩ := id E
      obtain ⟨G1, G2, eG, k, _⟩ := E2.sk
      obtain ⟨p', zs, ex, hp, rp⟩ := k.2
      cases ex
      obtain ⟨v, hv, rv⟩ := Pd.get rp hx
      refine ⟨⟨zs, v, Same.seqT hide_le hp, hv⟩, fun y H' ⟨eH, hy⟩ => ?_⟩
      subst eH
      have ey := hy zs (Same.seqT hide_le hp)
      rw [hv] at ey
      cases ey
      exact ⟨F1, F2, E2.addVF rv⟩
    · obtain ⟨F1, F2, E2⟩ := id E
      obtain ⟨G1, G2, eG, k, _⟩ := E2.sk
      obtain ⟨p', zs, ex, hp, rp⟩ := k.2
      cases ex
      exact ⟨zs, Same.seqT hide_le hp, Nat.le_of_eq (Pd.len rp)⟩) fun _ _ z => z⟩
/-- range(n) -/
theorem rangeI_get {lo : Int} {n i : Nat} {x : Int} (h : (rangeI lo n)[i]? = some x) : i < n ∧ x = lo + i := by
  unfold rangeI at h
  rw [List.getElem?_map] at h
  cases e : (List.range n)[i]? with
  | none =>
    rw [e] at h
    cases h
  | some k =>
    rw [e] at h
    obtain ⟨hl, hk⟩ := List.getElem?_eq_some_iff.mp e
    rw [List.length_range] at hl
    rw [List.getElem_range] at hk
    subst hk
    exact ⟨hl, (Option.some.inj h).symm⟩
theorem rangeI_len {lo : Int} {n : Nat} : (rangeI lo n).length = n := by
  unfold rangeI
  rw [List.length_map, List.length_range]
theorem src_range {lo : Int} {n : Nat} : Src c (Itr lo n) [] [] (rangeI lo n) (fun x => asn c.X.K c.G .val x) :=
  ⟨fun {ts us σ vs H i x} E hx => by
    obtain ⟨h1, h2⟩ := rangeI_get hx
    refine ⟨h1, fun y H' ⟨eH, ey⟩ => ?_⟩
    subst eH ey
    rw [h2]
    exact Env.pushS (es := []) (ws := []) (K := c.X.K) (H0 := H') E rfl rfl, fun E => by
    show n ≤ _
    rw [rangeI_len]
    exact Nat.le_refl _⟩
theorem ji_range1 {m : Out Int} {p : Pos} (hm : c.X.mg "range" = none) (ha : JE c ts a m (Vl c)) (hg : Gl c.X "range" := by rfl) (hs : starEach [a] c.X.env = [(false, eval a c.X.env)] := by rfl) :
    JI c ts tg (.Call (.Name "range" p) [a] [] pos) (m.bind fun n => chk (rngOk n) (rangeI 0 n.toNat)) (fun x => asn c.X.K c.G .val x) :=
  PI.imp (pi_range1 hg hm (pa_cons ha pa_nil hs) hs) fun σ H R ⟨us, vs, E, q⟩ => ⟨us, vs, E, Out.wp_mono (Out.wp_bind q) (fun n _ q => by
    intro v H1 E1
    have ev : v = .int n := E1.rd1 rdV
    subst ev
    obtain ⟨hn, q⟩ := wp_chk q
    exact ⟨n, rfl, hn.1, hn.2, q _ H1 [] [] rfl src_range (Env.pop (es := [_]) (ws := [_]) E1 rfl)⟩) fun _ _ z => z⟩
theorem ji_range2 {m1 m2 : Out Int} {p : Pos} (hm : c.X.mg "range" = none) (ha : JE c ts a m1 (Vl c)) (hb : JE c ts b m2 (Vl c)) (hg : Gl c.X "range" := by rfl) (hs : starEach [a, b] c.X.env = [(false, eval a c.X.env), (false, eval b c.X.env)] := by rfl) (hs2 : starEach [b] c.X.env = [(false, eval b c.X.env)] := by rfl) :
    JI c ts tg (.Call (.Name "range" p) [a, b] [] pos) (m1.bind fun i => m2.bind fun j => chk (rngOk i ∧ rngOk j) (rangeI i (j - i).toNat)) (fun x => asn c.X.K c.G .val x) :=
  PI.imp (pi_range2 hg hm (pa_cons ha (pa_cons hb pa_nil hs2) (by rw [hs, hs2])) hs hs2) fun σ H R ⟨us, vs, E, q⟩ => ⟨us, vs, E, Out.wp_mono (Out.wp_bind q) (fun i _ q => by
    intro x H1 E1
    refine ⟨_, _, E1, Out.wp_mono (Out.wp_bind q) (fun j _ q => ?_) fun e _ z d H' e1 E3 => z d H' e1 (EnvX.pop (es := [_]) (ws := [_]) E3 rfl)⟩
    intro y H2 E2
    obtain ⟨e1, e2⟩ := E2.ints
    subst e1 e2
    obtain ⟨hn, q⟩ := wp_chk q
    exact ⟨i, j, rfl, ⟨hn.1.1, hn.1.2, hn.2.1, hn.2.2⟩, q _ H2 [] [] rfl src_range (Env.pop (es := [_, _]) (ws := [_, _]) E2 rfl)⟩) fun _ _ z => z⟩
/-- enumerate(xs) -/
theorem ji_enum {m : Out (List α)} {A : List α → Asn} {p tpos : Pos} {elts : List Expr} {kk : Nat} (hm : c.X.mg "enumerate" = none) (rx : ∀ {ts : List (Option Asn)} xs, RdE c ts (.as (A xs)) xs) (ha : JE c ts a m (fun x => .as (A x))) (hg : Gl c.X "enumerate" := by rfl) (hs : starEach [a] c.X.env = [(false, eval a c.X.env)] := by rfl) :
    JI c ts (.Tuple elts kk tpos) (.Call (.Name "enumerate" p) [a] [] pos) (m.bind fun xs => .ok (enumI 0 xs)) (fun x => asn c.X.K c.G .val x) :=
  PI.imp (pi_enum hg hm (pa_cons ha pa_nil hs) hs) fun σ H R ⟨us, vs, E, q⟩ => ⟨us, vs, E, Out.wp_mono (Out.wp_bind q) (fun xs _ q => by
    intro v H1 E1
    obtain ⟨F1, F2, E2⟩ := id E1
    obtain ⟨G1, G2, eG, k, _⟩ := E2.sk
    obtain ⟨p, zs, ex, hp, rp⟩ := rx xs E2.part E2.g E2.sl k
    subst ex
    refine ⟨p, zs, rfl, SqL.of hp, q (Ite c.X.K p) H1 [A xs] [.ref p] rfl ⟨fun {ts us σ vs H i x} E hx => ?_, fun {ts us σ vs H} E => ?_⟩ E1⟩
    · obtain ⟨F1, F2, E2⟩ := id E
      obtain ⟨G1, G2, eG, k, _⟩ := E2.sk
      obtain ⟨p', zs, ex, hp, rp⟩ := rx xs E2.part E2.g E2.sl k
      cases ex
      obtain ⟨x', hx', ex⟩ := enumI_get hx
      subst ex
      obtain ⟨v, hv, rv⟩ := Pd.get rp hx'
      refine ⟨⟨zs, v, SqL.of hp, hv⟩, fun y H' ⟨T, w, ey, hT, eH, hy⟩ => ?_⟩
      subst ey eH
      have ew := hy zs (SqL.of hp)
      rw [hv] at ew
      cases ew
      have e0 : (((0 + i : Nat) : Int)) = (i : Int) := by omega
      rw [e0]
      refine ⟨F1, F2, EnvF.top (es := []) (ws := []) (FB := []) (F := []) E2 E2.sk (same_new hT) (fun _ h => (nomatch h)) List.nodup_nil (fun _ h => (nomatch h)) fun P' s' n _ => ⟨rfl, T, _, _, rfl, SqT.of (n T _ (.inl hT) (by simp) upd_same), rfl, Py.mono s' rv⟩⟩
    · obtain ⟨F1, F2, E2⟩ := id E
      obtain ⟨G1, G2, eG, k, _⟩ := E2.sk
      obtain ⟨p', zs, ex, hp, rp⟩ := rx xs E2.part E2.g E2.sl k
      cases ex
      exact ⟨zs, SqL.of hp, by rw [enumI_len, Pd.len rp]; exact Nat.le_refl _⟩) fun _ _ z => z⟩
/-- readers for entries in any slots -/
theorem rdeW {m : Md} {xs : List α} (hm : m = .val ∨ m = .own) : ∀ {ts : List (Option Asn)}, RdE c ts (.as (asn c.X.K c.G m xs)) xs := rdeA hm
theorem rdeI [PyI α] {m : Md} {xs : List α} : ∀ {ts : List (Option Asn)}, RdE c ts (.as (asn c.X.K c.G m xs)) xs := Rd.els rdA
/-- a borrowed name as it is -/
theorem je_nb {x : α} {n : Str} {pos : Pos} (i : Nat) (h : ts[i]? = some (some (asn c.X.K c.G .bor x))) (hp : PE c.X (.Name n pos) (tVar i)) : JE c ts (.Name n pos) (.ok x) (fun x => .as (asn c.X.K c.G .bor x)) :=
  PE.imp hp fun σ H Q ⟨us, vs, E, q⟩ => by
    obtain ⟨v, P, F, F1, e, _, _, hb⟩ := E.slot h
    exact ⟨v, e, q v H (Env.top (es := []) (ws := []) E rfl (Same.refl _) fun P F1 FB _ _ _ _ => ⟨[], fun _ h => (nomatch h), List.nodup_nil, fun _ h => (nomatch h), fun P' _ _ _ => ⟨rfl, hb.2⟩⟩)⟩

/-! ### while -/
theorem js_while {mc : S → Out Bool} {f : S → Out (Ctl S ω)} {tl : S → List (Option Asn)} {s0 : S} {k : S → Out ω} {n : Nat} (hw : WkL ts (tl s0)) (hc : ∀ s, JT c (tl s) a (mc s)) (hb : ∀ s, JS c (tl s) body (f s) (Ctl.ex tl post)) (hk : ∀ s, JS c (tl s) rest (k s) post)
    (hp : PassesOwn (model c.X.prog c.X.w) c.X.A c.X.env c.X.xe) : JS c ts (.While a body [] pos :: rest) ((whileF mc f n s0).bind (Aft.go k)) post := by
  have hcx : PT c.X a (fun σ H Q => ∃ s, tT c (tl s) (mc s) σ H Q) := ⟨fun pins s σ H Q I ⟨s', q⟩ => (hc s').run pins s σ H Q I q⟩
  refine PSs.imp (pss_cons (ps_while hp hcx (PSs.ex fun s => hb s)) (PSs.ex hk)) fun D σ H ⟨us, vs, E, q⟩ => ?_
  let fin : Aft S ω → Prop := fun z => (Aft.go k z).wp (fun w => ExitOk c us vs D (post w)) (ExS c us vs)
  have hfin : ∀ s, fin (.fin s) → ∀ σ H, Env c (tl s) (us.map .as) σ vs H → ∃ s, tS c (tl s) (k s) post D σ H := fun s hz σ H E => ⟨s, us, vs, E, hz⟩
  refine ⟨fun m σ H => ∃ s, Env c (tl s) (us.map .as) σ vs H ∧ (whileF mc f m s).wp fin (ExS c us vs), ⟨n, s0, E.wk hw, Out.wp_bind q⟩, ?_⟩
  rintro m σ H ⟨s, E, q⟩
  cases m with
  | zero => exact q.elim
  | succ m =>
    have q1 := Out.wp_bind (m := mc s) q
    refine ⟨s, us.map .as, vs, E, Out.wp_mono q1 (fun b _ q H1 E1 => ?_) fun _ _ z => z σ⟩
    cases b with
    | false => exact hfin s q σ H1 E1
    | true =>
      refine ⟨fun σ' H' => ∃ s', Env c (tl s') (us.map .as) σ' vs H' ∧ (whileF mc f m s').wp fin (ExS c us vs), fun σ' H' h => ⟨m, Nat.lt_succ_self m, h⟩, s, us, vs, E1, Out.wp_mono (Out.wp_bind (m := f s) q) (fun z _ q => ?_) fun _ _ z => z⟩
      cases z with
      | nxt s' => exact ⟨fun σ3 H3 E5 => ⟨s', E5, q⟩, fun σ3 H3 E5 => ⟨s', E5, q⟩⟩
      | brk s' => exact fun σ3 H3 E5 => hfin s' q σ3 H3 E5
      | out w =>
        have q' : ExitOk c us vs D (post w) := q
        show ExitOk c us vs _ (post w).retO
        cases e : post w with
        | ret A =>
          rw [e] at q'
          exact q'
        | next _ => trivial
        | again _ => trivial
        | cnt _ => trivial
        | brk _ => trivial
        | never => trivial

/-! ### an owned list is changed -/
theorem Env.mut {i : Nat} {xs : List α} (E : Env c ts (es ++ ues) σ (ws ++ vs) H) (hl : es.length = ws.length) (h : ts[i]? = some (some (asn c.X.K c.G .own xs))) :
    ∃ l zs P F1 FB, σ[i]? = some (some (.ref l)) ∧ H l = some (.lst zs) ∧ Reps c.X.K P zs xs ∧ Part P H ∧ EnvL P H ts σ F1 ∧ StkL P H σ es ws FB ∧ ∀ (zs' : List V) (xs' : List α), (∀ P', Same P P' → (∀ a ∈ FB, ∀ o, H a = some o → P' a = some o) → Reps c.X.K P' zs' xs') →
      Env c (ts.set i (some (asn c.X.K c.G .own xs'))) ues σ vs (upd H l (.lst zs')) := by
  obtain ⟨F1, FB, F2, E, k, h2⟩ := Env.open E hl
  obtain ⟨v, G1, Gi, G2, e1, e2, q, hlt, put⟩ := E.sl.at i h
  subst e2
  obtain ⟨u, eu, l, zs, ev, eF, hH, r⟩ := q
  subst eu ev eF
  refine ⟨l, zs, _, _, FB, e1, hH, r, E.part, E.sl, k, fun zs' xs' hr => ?_⟩
  have nd := E.nd
  have lin : l ∈ G1 ++ ([l] ++ G2) := by simp
  have sub : ∀ a, a ∈ c.Of ++ (G1 ++ ([l] ++ G2) ++ F2) → a ∈ c.Of ++ (G1 ++ ([l] ++ G2) ++ (FB ++ F2)) := fun a h => by
    rcases List.mem_append.mp h with h | h
    · exact List.mem_append_left _ h
    · rcases List.mem_append.mp h with h | h
      · exact List.mem_append_right _ (List.mem_append_left _ h)
      · exact List.mem_append_right _ (List.mem_append_right _ (List.mem_append_right _ h))
  obtain ⟨n1, n2, n3⟩ := List.nodup_append.mp nd
  obtain ⟨m1, m2, m3⟩ := List.nodup_append.mp n2
  have noOf : ∀ a, a ∈ G1 ++ ([l] ++ G2) ++ (FB ++ F2) → a ∉ c.Of := fun a h q => by
    have := (E.fr a h).1
    obtain ⟨o, e, _⟩ := E.og a q
    rw [this] at e
    cases e
  have sP : Same (hide (c.Of ++ (G1 ++ ([l] ++ G2) ++ (FB ++ F2))) H) (hide (c.Of ++ (G1 ++ ([l] ++ G2) ++ F2)) (upd H l (.lst zs'))) := fun a o q => by
    obtain ⟨n, q⟩ := hide_some q
    have al : a ≠ l := fun z => n (by rw [z]; exact List.mem_append_right _ (List.mem_append_left _ lin))
    rw [hide_of fun z => n (sub a z), upd_ne al]
    exact q
  have kB : ∀ a ∈ FB, ∀ o, H a = some o → hide (c.Of ++ (G1 ++ ([l] ++ G2) ++ F2)) (upd H l (.lst zs')) a = some o := fun a ha o q => by
    have al : a ≠ l := fun z => n3 l lin a (List.mem_append_left _ ha) z.symm
    rw [hide_of fun z => ?_, upd_ne al]
    · exact q
    · rcases List.mem_append.mp z with z | z
      · exact noOf a (List.mem_append_right _ (List.mem_append_left _ ha)) z
      · rcases List.mem_append.mp z with z | z
        · exact n3 a z a (List.mem_append_left _ ha) rfl
        · exact m3 a ha a z rfl
  obtain ⟨p1, p2, p3⟩ := List.nodup_append.mp n1
  obtain ⟨r1, r2, r3⟩ := List.nodup_append.mp p2
  have ln : ∀ a, a ∈ G1 ++ G2 → a ≠ l := fun a ha z => by
    subst z
    rcases List.mem_append.mp ha with ha | ha
    · exact p3 a ha a (by simp) rfl
    · exact r3 a (by simp) a ha rfl
  have put' := put _ (upd H l (.lst zs')) (some (asn c.X.K c.G .own xs')) (some (.ref l)) [l] sP (fun a ha o q => by rw [upd_ne (ln a ha)]; exact q) ⟨_, rfl, l, zs', rfl, rfl, upd_same, hr _ sP kB⟩
  have es : σ.set i (some (.ref l)) = σ := by
    obtain ⟨hi, e⟩ := List.getElem?_eq_some_iff.mp e1
    rw [← e]
    exact List.set_getElem_self hi
  rw [es] at put'
  refine ⟨G1 ++ ([l] ++ G2), F2, put', h2.st sP fun a ha o q => ?_, List.nodup_append.mpr ⟨n1, m2, fun a ha b hb => n3 a ha b (List.mem_append_right _ hb)⟩, fun a ha => ?_, fun a o q => ?_, E.og⟩
  · have al : a ≠ l := fun z => n3 l lin a (List.mem_append_right _ ha) z.symm
    rw [upd_ne al]
    exact q
  · have ha' : a ∈ G1 ++ ([l] ++ G2) ++ (FB ++ F2) := by
      rcases List.mem_append.mp ha with h | h
      · exact List.mem_append_left _ h
      · exact List.mem_append_right _ (List.mem_append_right _ h)
    obtain ⟨g1, o, g2, g3⟩ := E.fr a ha'
    refine ⟨g1, ?_⟩
    by_cases al : a = l
    · subst al
      exact ⟨_, upd_same, rfl⟩
    · exact ⟨o, by rw [upd_ne al]; exact g2, g3⟩
  · have al : a ≠ l := fun z => by
      have := (E.fr l (List.mem_append_left _ lin)).1
      rw [z, this] at q
      cases q
    rw [upd_ne al]
    exact E.g _ _ q

/-- an expression that changes slots: behind it they are t' -/
def tM (c : Cw) (ts : List (Option Asn)) {α : Type} (m : Out α) (t' : α → List (Option Asn)) (A : α → Ent) : TE := fun σ H Q => ∃ us vs, Env c ts us σ vs H ∧ m.wp (fun a => ∀ v H', Env c (t' a) (A a :: us) σ (v :: vs) H' → Q v H') (Ex c us σ vs)
def JM (c : Cw) (ts : List (Option Asn)) (e : Expr) {α : Type} (m : Out α) (t' : α → List (Option Asn)) (A : α → Ent) : Prop := PE c.X e (tM c ts m t' A)
theorem tM_S {m : Out α} {t' : α → List (Option Asn)} {A : α → Asn} {Q : VK} (E : Env c ts (us.map .as) σ vs H) (q : m.wp (fun a => ∀ v H', Env c (t' a) ((A a :: us).map .as) σ (v :: vs) H' → Q v H') (ExS c us vs)) : tM c ts m t' (fun a => .as (A a)) σ H Q :=
  ⟨_, _, E, Out.wp_mono q (fun a _ q v H' E' => q v H' E') fun _ _ z => z σ⟩
theorem jm_of {m : Out α} {A : α → Ent} (h : JE c ts e m A) : JM c ts e m (fun _ => ts) A := h
theorem js_setM {i : Nat} {x : Str} {pos' : Pos} {m : Out γ} {t' : γ → List (Option Asn)} {A : γ → Asn} {k : γ → Out ω} (hN : c.X.N.Nodup) (hi : c.X.N[i]? = some x) (he : JM c ts e m t' (fun a => .as (A a))) (hk : ∀ a, JS c ((t' a).set i (some (A a))) rest (k a) post)
    (hl : ∀ a, i < (t' a).length := by intro _; exact Nat.lt_of_succ_le (Nat.le_of_ble_eq_true rfl)) (hx : Loc c.X.env.scope x := by first | exact Or.inl rfl | exact Or.inr rfl) (hs : swapsWith e (some (.Name x pos')) pos.line c.X.env = pure false := by rfl)
    (hf : c.X.fn x = true ∨ c.X.env.scope.names.lookup x = some .local := by first | exact .inl rfl | exact .inr rfl | assumption) : JS c ts (.Assign [.Name x pos'] e pos :: rest) (m.bind k) post :=
  PSs.imp (pss_cons (ps_set hN hi hx he hs hf) (PSs.ex hk)) fun D σ H ⟨us, vs, E, q⟩ => tM_S E (Out.wp_mono (Out.wp_bind q) (fun a _ q v H' E' => ⟨a, us, vs, E'.store (hl a), q⟩) fun _ _ z => z)
theorem js_exprM {m : Out γ} {t' : γ → List (Option Asn)} {A : γ → Asn} {k : γ → Out ω} (he : JM c ts e m t' (fun a => .as (A a))) (hk : ∀ a, JS c (t' a) rest (k a) post) (hs : swapsWith e none pos.line c.X.env = pure false := by rfl) : JS c ts (.Expr e pos :: rest) (m.bind k) post :=
  PSs.imp (pss_cons (ps_expr he hs) (PSs.ex hk)) fun D σ H ⟨us, vs, E, q⟩ => tM_S E (Out.wp_mono (Out.wp_bind q) (fun a _ q v H' E' => ⟨a, us, vs, Env.pop (es := [_]) (ws := [_]) E' rfl, q⟩) fun _ _ z => z)
/-- target = e -/
theorem js_asg {m : Out γ} {t' : γ → List (Option Asn)} {A : γ → Asn} {k : γ → Out ω} {n : Nat} {g : TG} {up : γ → List (Option Asn) → List (Option Asn)} (he : JM c ts e m t' (fun a => .as (A a))) (hg : PG c.X tg g) (ht : Tgt c n g A up) (hk : ∀ a, JS c (up a (t' a)) rest (k a) post)
    (hl : ∀ a, n ≤ (t' a).length := by intro _; exact Nat.le_of_ble_eq_true rfl) (hs : swapsWithSole [tg] e pos.line c.X.env = pure false := by rfl) (hw : swappedStores [tg] e c.X.env = pure none := by rfl)
    (h1 : (assignEach [tg] c.X.env).map (·.2) = [assign tg c.X.env] := by rfl) : JS c ts (.Assign [tg] e pos :: rest) (m.bind k) post :=
  PSs.imp (pss_cons (ps_asg he hg hs hw h1) (PSs.ex hk)) fun D σ H ⟨us, vs, E, q⟩ => tM_S E (Out.wp_mono (Out.wp_bind q) (fun a _ q v H' E' => ht (hl a) E' fun σ' H2 E2 => ⟨a, us, vs, E2, q⟩) fun _ _ z => z)
/-- xs.pop() -/
theorem jm_pop {xs : List α} {n : Str} {p1 p2 : Pos} (i : Nat) (h : ts[i]? = some (some (asn c.X.K c.G .own xs))) (hp : PE c.X (.Call (.Attribute (.Name n p1) "pop" p2) [] [] pos) (tBM0 c.X.K "list" rPop (tVar i))) :
    JM c ts (.Call (.Attribute (.Name n p1) "pop" p2) [] [] pos) (popL xs) (fun r => ts.set i (some (asn c.X.K c.G .own r.2))) (fun r => Vl c r.1) :=
  PE.imp hp fun σ H Q ⟨us, vs, E, q⟩ => by
    obtain ⟨l, zs, P, F1, FB, e1, hH, r, _, _, _, put⟩ := Env.mut (es := []) (ws := []) E rfl h
    refine ⟨_, e1, .inl ⟨rfl, _, SqL.of hH⟩, ?_⟩
    unfold popL at q
    cases hx : xs[xs.length - 1]? with
    | none =>
      rw [hx] at q
      exact q.elim
    | some x =>
      rw [hx] at q
      obtain ⟨v, hv, rv⟩ := Pd.get r hx
      refine ⟨l, zs, v, rfl, rfl, hH, by rw [Pd.len r]; exact hv, q v _ ?_⟩
      have E2 : Env c ts (Vl c x :: us) σ (v :: vs) H := Env.pushV (es := []) (ws := []) E rfl (Same.refl _) fun P0 F0 FB0 p0 g0 sl0 _ P' s' _ => by
        obtain ⟨v', Fi, e', k'⟩ := sl0.get h
        rw [e1] at e'
        cases e'
        obtain ⟨l', zs', el, _, hH', r'⟩ := k'
        cases el
        have ez := lst_inj hH hH'
        subst ez
        obtain ⟨v2, hv2, rv2⟩ := Pd.get r' hx
        rw [hv] at hv2
        cases hv2
        exact Py.mono s' rv2
      obtain ⟨l2, zs2, P2, F12, FB2, e12, hH2, r2, _, _, _, put2⟩ := Env.mut (es := []) (ws := []) E2 rfl h
      rw [e1] at e12
      cases e12
      have ez := lst_inj hH hH2
      subst ez
      exact put2 _ _ fun P' s' _ => Pd.dropLast (r2.mono s')
/-- xs.append(e) -/
theorem js_app {xs : List α} {n : Str} {p1 p2 pos' : Pos} {m : Out α} {A : α → Asn} {k : List α → Out ω} (i : Nat) (h : ts[i]? = some (some (asn c.X.K c.G .own xs))) (fz : ∀ x, Fz c (.as (A x)) x) (he : JE c ts e m (fun a => .as (A a)))
    (hp : ∀ {t : TA}, PA c.X [e] t → PE c.X (.Call (.Attribute (.Name n p1) "append" p2) [e] [] pos') (tBM c.X.K "list" rAppend (tVar i) t)) (hk : ∀ xs', JS c (ts.set i (some (asn c.X.K c.G .own xs'))) rest (k xs') post)
    (hs : swapsWith (.Call (.Attribute (.Name n p1) "append" p2) [e] [] pos') none pos.line c.X.env = pure false := by rfl) (hst : starEach [e] c.X.env = (false, eval e c.X.env) :: starEach [] c.X.env := by rfl) :
    JS c ts (.Expr (.Call (.Attribute (.Name n p1) "append" p2) [e] [] pos') pos :: rest) (m.bind fun x => (appL xs x).bind k) post :=
  PSs.imp (pss_cons (ps_expr (hp (pa_cons he pa_nil hst)) hs) (PSs.ex hk)) fun D σ H ⟨us, vs, E, q⟩ => by
    obtain ⟨v0, P0, F0, F01, e0, _, _, q0⟩ := E.slot h
    obtain ⟨l0, zs0, el, _, hH0, _⟩ := q0
    subst el
    refine ⟨_, e0, .inl ⟨rfl, _, SqL.of hH0⟩, tJ_S E (Out.wp_mono (Out.wp_bind q) (fun x _ q v H1 E1 => ?_) fun _ _ z => z)⟩
    obtain ⟨l, zs, P, F1, FB, e1, hH, r, _, _, sk, put⟩ := Env.mut (es := [_]) (ws := [_]) E1 rfl h
    rw [e0] at e1
    cases e1
    obtain ⟨hlen, q⟩ := wp_chk (Out.wp_bind (m := appL xs x) q)
    refine ⟨l0, zs, v, rfl, rfl, hH, by rw [Pd.len r, sizeLine_eq]; exact hlen, _, us, vs, put _ _ fun P' s' f => Pd.append (r.mono s') (.cons (fz x (StkL.one sk) s' f) .nil), q⟩
/-- xs[i] = e -/
theorem js_setI {xs : List α} {n : Str} {p1 p2 : Pos} {m : Out γ} {t1 : γ → List (Option Asn)} {A : γ → Asn} {val : γ → α} {mi : γ → Out Int} {k : γ → List α → Out ω} (i : Nat) (he : JM c ts e m t1 (fun a => .as (A a))) (h : ∀ y, (t1 y)[i]? = some (some (asn c.X.K c.G .own xs))) (fz : ∀ y, Fz c (.as (A y)) (val y))
    (hi : ∀ y, JE c (t1 y) b (mi y) (Vl c)) (hn : PE c.X (.Name n p1) (tVar i)) (hk : ∀ y xs', JS c ((t1 y).set i (some (asn c.X.K c.G .own xs'))) rest (k y xs') post)
    (hs : swapsWithSole [.Subscript (.Name n p1) b p2] e pos.line c.X.env = pure false := by rfl) (hw : swappedStores [.Subscript (.Name n p1) b p2] e c.X.env = pure none := by rfl)
    (h1 : (assignEach [.Subscript (.Name n p1) b p2] c.X.env).map (·.2) = [assign (.Subscript (.Name n p1) b p2) c.X.env] := by rfl)
    (ha : ∀ v, assign (.Subscript (.Name n p1) b p2) c.X.env v = (do
      let ov ← holding [v] (eval (.Name n p1) c.X.env)
      let iv ← holding [v, ov] (eval b c.X.env)
      standAt p2
      holding [v, ov, iv] (setItem ov iv v)
      release [v, ov, iv] []) := by intro _; rfl) :
    JS c ts (.Assign [.Subscript (.Name n p1) b p2] e pos :: rest) (m.bind fun y => (mi y).bind fun j => (setAt xs j (val y)).bind (k y)) post := by
  have hix : PE c.X b (fun σ H Q => ∃ y, tJ c (t1 y) (mi y) (Vl c) σ H Q) := ⟨fun pins s σ H Q I ⟨y, q⟩ => (hi y).run pins s σ H Q I q⟩
  refine PSs.imp (pss_cons (ps_asg he (pg_sub hn hix set_list ha) hs hw h1) (PSs.ex fun y => PSs.ex fun xs' => hk y xs')) fun D σ H ⟨us, vs, E, q⟩ => tM_S E (Out.wp_mono (Out.wp_bind q) (fun y _ q v H1 E1 => ?_) fun _ _ z => z)
  obtain ⟨v0, P0, F0, F01, e0, _, _, q0⟩ := E1.slot (h y)
  obtain ⟨l0, zs0, el, _, hH0, _⟩ := q0
  subst el
  refine ⟨_, e0, y, _, _, E1, Out.wp_mono (Out.wp_bind q) (fun j _ q => ?_) fun e _ z d H' e1 E3 => z σ d H' e1 (EnvX.pop (es := [_]) (ws := [_]) E3 rfl)⟩
  intro w H2 E2
  have ew : w = .int j := E2.rd1 rdV
  subst ew
  obtain ⟨l, zs, P, F1, FB, e1, hH, r, _, _, sk, put⟩ := Env.mut (es := [_, _]) (ws := [_, _]) (ues := us.map .as) E2 rfl (h y)
  rw [e0] at e1
  cases e1
  unfold setAt at q
  cases hx : ixN xs.length j with
  | none =>
    rw [hx] at q
    exact q.elim
  | some n =>
    rw [hx] at q
    obtain ⟨G1, G2, eG, k1, k2⟩ := StkL.two sk
    refine ⟨l0, zs, j, n, rfl, rfl, hH, by rw [Pd.len r]; exact hx, y, _, us, vs, put _ _ fun P' s' f => Pd.set (fz y k2 s' fun a ha => f a (by rw [eG]; exact List.mem_append_right _ ha)) _ (r.mono s'), q⟩
/-- x += e, ints -/
theorem js_aug {op : Operator} {g : Int → Int → Int} {x : Int} {md : Md} {n : Str} {p1 : Pos} {m : Out Int} {k : Int → Out ω} (i : Nat) (ho : PIp c.X op (ipI g)) (h : ts[i]? = some (some (asn c.X.K c.G md x))) (hN : c.X.N.Nodup) (hi : c.X.N[i]? = some n) (he : JE c ts e m (Vl c))
    (hk : ∀ y, JS c (ts.set i (some (asn c.X.K c.G .val y))) rest (k y) post) (hl : i < ts.length := by exact Nat.lt_of_succ_le (Nat.le_of_ble_eq_true rfl)) (hx : Loc c.X.env.scope n := by first | exact Or.inl rfl | exact Or.inr rfl)
    (hf : c.X.fn n = true ∨ c.X.env.scope.names.lookup n = some .local := by first | exact .inl rfl | exact .inr rfl | assumption) : JS c ts (.AugAssign (.Name n p1) op e pos :: rest) (m.bind fun y => k (g x y)) post :=
  PSs.imp (pss_cons (ps_aug hN hi hx he ho hf) (PSs.ex hk)) fun D σ H ⟨us, vs, E, q⟩ => by
    obtain ⟨v0, P0, F0, F01, e0, p0, _, q0⟩ := E.slot h
    have ev : v0 = .int x := asn_rep p0.le E.ground q0
    subst ev
    refine ⟨_, e0, tJ_S (A := fun y => asn c.X.K c.G .val y) E (Out.wp_mono (Out.wp_bind q) (fun y _ q v H1 E1 => ?_) fun _ _ z => z)⟩
    have ew : v = .int y := E1.rd1 rdV
    subst ew
    refine ⟨x, y, rfl, rfl, g x y, us, vs, ?_, q⟩
    have E2 : Env c ts ((asn c.X.K c.G .val (g x y) :: us).map .as) σ (.int (g x y) :: vs) H1 := Env.pushS (es := [_]) (ws := [_]) (K := c.X.K) (H0 := H1) E1 rfl rfl
    exact E2.store hl
end
end Mw
set_option maxRecDepth 100000
set_option maxHeartbeats 4000000
namespace Mw
open PySem PySem.Spec PyProof.Rows L2

/-! ### list comprehensions -/
def lcL {α β : Type} (t : α → Out Bool) (f : α → Out β) : List α → List β → Out (List β)
  | [], acc => .ok acc
  | x :: xs, acc => match t x with
    | .ok true => (match f x with
      | .ok y => if acc.length < 16777216 then lcL t f xs (acc ++ [y]) else .bad
      | _ => .bad)
    | .ok false => lcL t f xs acc
    | _ => .bad
/-- an entry told of the slots σ, whatever the slots are -/
def unal (σ : Sl) : Ent → Ent
  | .as A => .as A
  | .al i => .as ⟨fun _ _ F v => F = [] ∧ σ[i]? = some (some v), fun _ _ h => h⟩
  | .p2 i => .as ⟨fun P _ F v => F = [] ∧ ∃ (a : Addr) (u : V), σ[i]? = some (some (.ref a)) ∧ P a = some (.tup [u, v]), fun s _ ⟨h1, a, u, h2, h3⟩ => ⟨h1, a, u, h2, s _ _ h3⟩⟩
theorem StkOk.un {P H : Hp} {σ σ' : Sl} {e : Ent} {v : V} {F : List Addr} : StkOk P H σ e v F ↔ StkOk P H σ' (unal σ e) v F := by
  cases e <;> exact Iff.rfl
theorem StkL.un {P H : Hp} {σ σ' : Sl} : ∀ {us : List Ent} {vs : List V} {F : List Addr}, StkL P H σ us vs F → StkL P H σ' (us.map (unal σ)) vs F
  | [], [], _, h => h
  | [], _ :: _, _, h => h.elim
  | _ :: _, [], _, h => h.elim
  | e :: us, v :: vs, _, ⟨F1, F2, eF, h1, h2⟩ => ⟨F1, F2, eF, StkOk.un.mp h1, StkL.un h2⟩
theorem StkL.re {P H : Hp} {σ σ' : Sl} : ∀ {us : List Ent} {vs : List V} {F : List Addr}, StkL P H σ' (us.map (unal σ)) vs F → StkL P H σ us vs F
  | [], [], _, h => h
  | [], _ :: _, _, h => h.elim
  | _ :: _, [], _, h => h.elim
  | e :: us, v :: vs, _, ⟨F1, F2, eF, h1, h2⟩ => ⟨F1, F2, eF, StkOk.un.mpr h1, StkL.re h2⟩
theorem EnvL.putN {P H : Hp} {i : Nat} {w : Option V} : ∀ {ts : List (Option Asn)} {σ : Sl} {F : List Addr} {i : Nat}, ts[i]? = some none → EnvL P H ts σ F → EnvL P H ts (σ.set i w) F
  | [], _, _, _, e, _ => by simp at e
  | _ :: _, [], _, _, _, h => h.elim
  | t :: ts, v :: σ, F, 0, e, ⟨F1, F2, eF, h1, h2⟩ => by
    have et : t = none := by simpa using e
    subst et
    exact ⟨F1, F2, eF, h1, h2⟩
  | t :: ts, v :: σ, F, i + 1, e, ⟨F1, F2, eF, h1, h2⟩ => ⟨F1, F2, eF, h1, EnvL.putN (i := i) (by simpa using e) h2⟩
theorem EnvL.getN {P H : Hp} {w : Option V} : ∀ {ts : List (Option Asn)} {σ : Sl} {F : List Addr} {i : Nat}, ts[i]? = some none → EnvL P H ts (σ.set i w) F → EnvL P H ts σ F
  | [], _, _, _, e, _ => by simp at e
  | _ :: _, [], _, _, _, h => h.elim
  | t :: ts, v :: σ, F, 0, e, ⟨F1, F2, eF, h1, h2⟩ => by
    have et : t = none := by simpa using e
    subst et
    exact ⟨F1, F2, eF, h1, h2⟩
  | t :: ts, v :: σ, F, i + 1, e, ⟨F1, F2, eF, h1, h2⟩ => ⟨F1, F2, eF, h1, EnvL.getN (i := i) (by simpa using e) h2⟩
theorem EnvL.wipeI {P H : Hp} {ts : List (Option Asn)} {σ : Sl} {F : List Addr} : ∀ {vs : List Nat}, (∀ i ∈ vs, ts[i]? = some none) → EnvL P H ts σ F → EnvL P H ts (wipe σ vs) F
  | [], _, h => h
  | v :: vs, k, h => EnvL.putN (i := v) (k v (by simp)) (EnvL.wipeI (fun i hi => k i (by simp [hi])) h)
theorem EnvL.wipeO {P H : Hp} {ts : List (Option Asn)} {σ : Sl} {F : List Addr} : ∀ {vs : List Nat}, (∀ i ∈ vs, ts[i]? = some none) → EnvL P H ts (wipe σ vs) F → EnvL P H ts σ F
  | [], _, h => h
  | v :: vs, k, h => EnvL.wipeO (fun i hi => k i (by simp [hi])) (EnvL.getN (i := v) (k v (by simp)) h)

/-- where the items of a comprehension go: only to its own slots -/
def TgtW (c : Cw) (n : Nat) {α : Type} (g : TG) (El : α → Asn) (up : α → List (Option Asn) → List (Option Asn)) (own : List Nat) : Prop := ∀ {x : α} {ts : List (Option Asn)} {us : List Asn} {σ : Sl} {y : V} {vs : List V} {H : Hp} {Q : L2.St → Hp → Prop},
  n ≤ ts.length → Env c ts ((El x :: us).map .as) σ (y :: vs) H → (∀ σ' H', wipe σ' own = wipe σ own → Env c (up x ts) (us.map .as) σ' vs H' → Q σ' H') → g y σ H Q
section
variable {c : Cw} {ts tt : List (Option Asn)} {us : List Asn} {es ues : List Ent} {σ : Sl} {vs ws : List V} {H H' : Hp} {α β γ ω S ρ : Type} [Py α] [Py β] [Py γ] {a b e tg iter elt : Expr} {st rest A B body : List Stmt} {pos : Pos} {post : ω → Exit}
theorem tgw_name {El : α → Asn} (i : Nat) : TgtW c (i + 1) (gName i) El (fun x ts => ts.set i (some (El x))) [i] := fun {x ts us σ y vs H Q} hl E q => q _ _ (by
  show (σ.set i _).set i none = σ.set i none
  rw [List.set_set]) (E.store hl)
theorem tgw_pair (i j : Nat) (hij : i ≠ j) : TgtW c (max i j + 1) (gTup c.X.K 2 (gCons (gName i) (gCons (gName j) gNil))) (fun x : α × β => asn c.X.K c.G .val x) (fun x ts => (ts.set i (some (asn c.X.K c.G .val x.1))).set j (some (asn c.X.K c.G .val x.2))) [i, j] := fun {x ts us σ y vs H Q} hl E q => by
  obtain ⟨F1, F2, E0⟩ := E
  obtain ⟨G1, G2, eG, k, _⟩ := E0.sk
  obtain ⟨p, v1, v2, ey, hp, r1, r2⟩ := k.2
  subst ey
  refine ⟨p, _, rfl, Same.seqT hide_le hp, rfl, v1, _, rfl, v2, _, rfl, rfl, q _ _ ?_ ?_⟩
  · show ((((σ.set i (some v1)).set j (some v2)).set j none).set i none) = (σ.set j none).set i none
    rw [List.set_set, List.set_comm _ _ hij, List.set_set]
  · have s2 : Env c ts ((asn c.X.K c.G .val x.1 :: asn c.X.K c.G .val x.2 :: asn c.X.K c.G .val x :: us).map .as) σ (v1 :: v2 :: .ref p :: vs) H := ⟨F1, F2, (E0.addVF r2).addVF r1⟩
    have s4 := s2.store (i := i) (by have := Nat.le_max_left i j; omega)
    have s5 := s4.store (i := j) (by rw [List.length_set]; have := Nat.le_max_right i j; omega)
    exact Env.pop (es := [_]) (ws := [_]) s5 rfl

/-- the context of a comprehension's block: no error leaves it -/
abbrev Cw.blk (c : Cw) (s : Shared) (H : Hp) (scope : Scope) (C : Addr) (cl : List (Str × Addr)) (fp : List Addr) : Cw := { c with X := c.X.blk s H scope (compEnvC scope cl C c.X.env) fp, W := fun _ _ _ _ => False, tx := none }
abbrev Cw.no (c : Cw) : Cw := { c with W := fun _ _ _ _ => False, tx := none }
def JTs (c : Cw) (ts : List (Option Asn)) (ifs : List Expr) (m : Out Bool) : Prop := PTs c.X ifs (tT c ts m)
theorem Env.no {us : List Ent} (E : Env c ts us σ vs H) : Env c.no ts us σ vs H := by
  obtain ⟨F1, F2, E⟩ := E
  exact ⟨F1, F2, E.sl, E.sk, E.nd, E.fr, E.g, E.og⟩
theorem Env.yes {us : List Ent} (E : Env c.no ts us σ vs H) : Env c ts us σ vs H := by
  obtain ⟨F1, F2, E⟩ := E
  exact ⟨F1, F2, E.sl, E.sk, E.nd, E.fr, E.g, E.og⟩
theorem jts_nil : JTs c ts [] (.ok true) := ⟨fun pins s σ H Q I ⟨us, vs, E, q⟩ => pts_nil.run pins s σ H Q I (q H E)⟩
theorem jts_one {m : Out Bool} (h : JT c ts a m) : JTs c ts [a] m := pts_one h

theorem unal_map {σ : Sl} {us : List Ent} : ∃ as : List Asn, us.map (unal σ) = as.map .as := by
  induction us with
  | nil => exact ⟨[], rfl⟩
  | cons e us ih =>
    obtain ⟨as, h⟩ := ih
    cases e with
    | as A => exact ⟨A :: as, by rw [List.map_cons, h]; rfl⟩
    | al i => exact ⟨⟨fun _ _ F v => F = [] ∧ σ[i]? = some (some v), fun _ _ h => h⟩ :: as, by rw [List.map_cons, h]; rfl⟩
    | p2 i => exact ⟨⟨fun P _ F v => F = [] ∧ ∃ (a : Addr) (u : V), σ[i]? = some (some (.ref a)) ∧ P a = some (.tup [u, v]), fun s _ ⟨h1, a, u, h2, h3⟩ => ⟨h1, a, u, h2, s _ _ h3⟩⟩ :: as, by rw [List.map_cons, h]; rfl⟩
theorem Env.wipeI {own : List Nat} {us : List Ent} (hts : ∀ i ∈ own, ts[i]? = some none) (E : Env c ts us σ vs H) : Env c ts (us.map (unal σ)) (wipe σ own) vs H := by
  obtain ⟨F1, F2, E⟩ := E
  exact ⟨F1, F2, E.sl.wipeI hts, StkL.un E.sk, E.nd, E.fr, E.g, E.og⟩
theorem Env.wipeO {own : List Nat} {us : List Ent} (hts : ∀ i ∈ own, ts[i]? = some none) (E : Env c ts (us.map (unal σ)) (wipe σ own) vs H) : Env c ts us σ vs H := by
  obtain ⟨F1, F2, E⟩ := E
  exact ⟨F1, F2, E.sl.wipeO hts, E.sk.re, E.nd, E.fr, E.g, E.og⟩

/-- an owned list on top grows -/
theorem Env.grow {acc : List β} {D : Addr} {zs : List V} {y : V} {eB : Ent} {z : β} (E : Env c ts (eB :: Ow c acc :: ues) σ (y :: .ref D :: vs) H) (hD : H D = some (.lst zs)) (fz : Fz c eB z) : Env c ts (Ow c (acc ++ [z]) :: ues) σ (.ref D :: vs) (upd H D (.lst (zs ++ [y]))) := by
  obtain ⟨F1, F0, E⟩ := E
  obtain ⟨FB, G0, eF, k1, G1, F2, eG, k2, h2⟩ := E.sk
  subst eF eG
  obtain ⟨l, zs', el, eG1, hH, r⟩ := k2
  cases el
  subst eG1
  have ez := lst_inj hD hH
  subst ez
  have nd := E.nd
  have noOf : ∀ a, a ∈ F1 ++ (FB ++ ([D] ++ F2)) → a ∉ c.Of := fun a h q => by
    have := (E.fr a h).1
    obtain ⟨o, e, _⟩ := E.og a q
    rw [this] at e
    cases e
  obtain ⟨n1, n2, n3⟩ := List.nodup_append.mp nd
  obtain ⟨m1, m2, m3⟩ := List.nodup_append.mp n2
  obtain ⟨p1, p2, p3⟩ := List.nodup_append.mp m2
  have sub : ∀ a, a ∈ F1 ++ ([D] ++ F2) → a ∈ F1 ++ (FB ++ ([D] ++ F2)) := fun a h => by
    rcases List.mem_append.mp h with h | h
    · exact List.mem_append_left _ h
    · exact List.mem_append_right _ (List.mem_append_right _ h)
  have din : D ∈ F1 ++ (FB ++ ([D] ++ F2)) := by simp
  have sP : Same (hide (c.Of ++ (F1 ++ (FB ++ ([D] ++ F2)))) H) (hide (c.Of ++ (F1 ++ ([D] ++ F2))) (upd H D (.lst (zs ++ [y])))) := fun a o q => by
    obtain ⟨n, q⟩ := hide_some q
    have al : a ≠ D := fun z => n (by rw [z]; exact List.mem_append_right _ din)
    rw [hide_of fun z => n ?_, upd_ne al]
    · exact q
    · rcases List.mem_append.mp z with z | z
      · exact List.mem_append_left _ z
      · exact List.mem_append_right _ (sub a z)
  have dF1 : ∀ a ∈ F1, a ≠ D := fun a ha z => n3 a ha D (by simp) z
  have dF2 : ∀ a ∈ F2, a ≠ D := fun a ha z => p3 D (by simp) a ha z.symm
  have kB : ∀ a ∈ FB, ∀ o, H a = some o → hide (c.Of ++ (F1 ++ ([D] ++ F2))) (upd H D (.lst (zs ++ [y]))) a = some o := fun a ha o q => by
    have al : a ≠ D := fun z => m3 a ha D (by simp) z
    rw [hide_of fun z => ?_, upd_ne al]
    · exact q
    · rcases List.mem_append.mp z with z | z
      · exact noOf a (List.mem_append_right _ (List.mem_append_left _ ha)) z
      · rcases List.mem_append.mp z with z | z
        · exact n3 a z a (List.mem_append_left _ ha) rfl
        · exact m3 a ha a z rfl
  refine ⟨F1, [D] ++ F2, E.sl.st sP fun a ha o q => by rw [upd_ne (dF1 a ha)]; exact q, ⟨[D], F2, rfl, ⟨D, _, rfl, rfl, upd_same, Pd.append (r.mono sP) (.cons (fz k1 sP kB) .nil)⟩, h2.st sP fun a ha o q => by rw [upd_ne (dF2 a ha)]; exact q⟩, ?_, fun a ha => ?_, fun a o q => ?_, E.og⟩
  · exact List.nodup_append.mpr ⟨n1, m2, fun a ha b hb => n3 a ha b (List.mem_append_right _ hb)⟩
  · obtain ⟨g1, o, g2, g3⟩ := E.fr a (sub a ha)
    refine ⟨g1, ?_⟩
    by_cases al : a = D
    · subst al
      exact ⟨_, upd_same, rfl⟩
    · exact ⟨o, by rw [upd_ne al]; exact g2, g3⟩
  · have al : a ≠ D := fun z => by
      have := (E.fr D din).1
      rw [z, this] at q
      cases q
    rw [upd_ne al]
    exact E.g _ _ q

theorem wipe1 {i : Nat} (σ : Sl) : wipe (wipe σ [i]) [i] = wipe σ [i] := by
  show (σ.set i none).set i none = σ.set i none
  rw [List.set_set]
theorem wipe2 {i j : Nat} (h : i ≠ j) (σ : Sl) : wipe (wipe σ [i, j]) [i, j] = wipe σ [i, j] := by
  show ((((σ.set j none).set i none).set j none).set i none) = (σ.set j none).set i none
  rw [List.set_comm (i := i) (j := j) _ _ h, List.set_set, List.set_set]
theorem map_unal {σ : Sl} {ps : List Asn} : (ps.map Ent.as).map (unal σ) = ps.map .as := by
  rw [List.map_map]
  rfl
theorem lc_imp {n : Nat} {mi : Out (List α)} {El : α → Asn} {g : TG} {up : α → List (Option Asn) → List (Option Asn)} {own : List Nat} {t : α → Out Bool} {f : α → Out β} {Bn : α → β → Asn} (ht : TgtW c n g El up own) (hts : ∀ i ∈ own, ts[i]? = some none) (hn : n ≤ ts.length) (fz : ∀ x y, Fz c (.as (Bn x y)) y)
    (hww : ∀ σ, wipe (wipe σ own) own = wipe σ own) (hwk : ∀ x, WkL (up x ts) ts)
    (σ : Sl) (H : Hp) (Q : VK) : tJ c ts (mi.bind fun xs => lcL t f xs []) (Ow c) σ H Q → tLc (tI c ts mi El) g (fun σ H Q => ∃ x, tT c.no (up x ts) (t x) σ H Q) (fun σ H Q => ∃ x, tJ c.no (up x ts) (f x) (fun y => .as (Bn x y)) σ H Q) own σ H Q := fun ⟨us, vs, E, q⟩ => by
  refine ⟨us, vs, E, Out.wp_mono (Out.wp_bind q) (fun xs _ q => ?_) fun _ _ z => z⟩
  intro J H1 ps pv hpl sr E1 D hD
  have hpl' : (ps.map Ent.as).length = pv.length := by rw [List.length_map]; exact hpl
  have E2 : Env c ts (Ow c ([] : List β) :: (ps.map .as ++ us)) σ (.ref D :: (pv ++ vs)) (upd H1 D (.lst [])) := Env.pushN (es := []) (ws := []) E1 rfl hD fun _ _ _ _ _ _ _ => .nil
  have E3 := Env.wipeI hts E2
  obtain ⟨as, has⟩ := unal_map (σ := σ) (us := us)
  have E4 : Env c ts (Ow c ([] : List β) :: ((ps ++ as).map .as)) (wipe σ own) (.ref D :: (pv ++ vs)) (upd H1 D (.lst [])) := by
    have e : List.map (unal σ) (Ow c ([] : List β) :: (ps.map .as ++ us)) = Ow c ([] : List β) :: ((ps ++ as).map .as) := by
      rw [List.map_cons, List.map_append, map_unal, has, List.map_append]
      rfl
    rw [← e]
    exact E3
  let fin : List β → Prop := fun r => ∀ v H', Env c ts (Ow c r :: us) σ (v :: vs) H' → Q v H'
  refine ⟨fun i mm H => mm = xs.length - i ∧ i ≤ xs.length ∧ ∃ acc : List β, Env c ts (Ow c acc :: ((ps ++ as).map .as)) (wipe σ own) (.ref D :: (pv ++ vs)) H ∧ (lcL t f (xs.drop i) acc).wp fin (Ex c us σ vs), ⟨_, rfl, Nat.zero_le _, [], E4, q⟩, ?_⟩
  rintro i mm H ⟨rfl, hi', acc, E5, q2⟩
  have E6 : Env c ts (ps.map .as ++ Ow c acc :: as.map .as) (wipe σ own) (pv ++ .ref D :: vs) H := by
    refine Env.unrot ?_ hpl'
    rw [← List.map_append]
    exact E5
  by_cases hlt : i < xs.length
  · have hx : xs[i]? = some xs[i] := List.getElem?_eq_getElem hlt
    rw [List.drop_eq_getElem_cons hlt] at q2
    obtain ⟨g1, g2⟩ := sr.go E6 hx
    let Nx : Hp → Prop := fun H' => ∃ acc : List β, Env c ts (Ow c acc :: ((ps ++ as).map .as)) (wipe σ own) (.ref D :: (pv ++ vs)) H' ∧ (lcL t f (xs.drop (i + 1)) acc).wp fin (Ex c us σ vs)
    refine .inr ⟨g1, Nx, fun H' h => ⟨_, by omega, rfl, hlt, h⟩, fun y H' hy => ?_⟩
    have E7 := g2 y H' hy
    have E8 : Env c ts ((El xs[i] :: (ps ++ asn c.X.K c.G .own acc :: as)).map .as) (wipe σ own) (y :: (pv ++ .ref D :: vs)) H' := by
      rw [List.map_cons, List.map_append]
      exact E7
    refine ht hn E8 fun σ2 H2 hw E9 => ⟨hw.trans (hww σ), xs[i], _, _, E9.no, ?_⟩
    have back : ∀ {acc' : List β} {H3 : Hp}, Env c (up xs[i] ts) (Ow c acc' :: ((ps ++ as).map .as)) σ2 (.ref D :: (pv ++ vs)) H3 → Env c ts (Ow c acc' :: ((ps ++ as).map .as)) (wipe σ own) (.ref D :: (pv ++ vs)) H3 := fun {acc' H3} E => by
      have Ea : Env c ts (Ow c acc' :: ((ps ++ as).map .as)) σ2 (.ref D :: (pv ++ vs)) H3 := Env.wk (us := asn c.X.K c.G .own acc' :: (ps ++ as)) (hwk xs[i]) E
      have Eb := Env.wipeI hts Ea
      have e : List.map (unal σ2) (Ow c acc' :: ((ps ++ as).map .as)) = Ow c acc' :: ((ps ++ as).map .as) := by
        rw [List.map_cons, map_unal]
        rfl
      rw [e, hw, hww] at Eb
      exact Eb
    unfold lcL at q2
    cases htx : t xs[i] with
    | err _ =>
      rw [htx] at q2
      exact q2.elim
    | bad =>
      rw [htx] at q2
      exact q2.elim
    | ok bb =>
      rw [htx] at q2
      intro H3 E10n
      have E10 := E10n.yes
      cases bb with
      | false =>
        rw [if_neg Bool.false_ne_true]
        refine ⟨acc, back ?_, q2⟩
        have z : Env c (up xs[i] ts) (ps.map .as ++ Ow c acc :: as.map .as) σ2 (pv ++ .ref D :: vs) H3 := by
          have E10' := E10
          rw [List.map_append] at E10'
          exact E10'
        have z2 := Env.rot z hpl'
        rw [← List.map_append] at z2
        exact z2
      | true =>
        rw [if_pos rfl]
        cases hfx : f xs[i] with
        | err _ =>
          rw [hfx] at q2
          exact q2.elim
        | bad =>
          rw [hfx] at q2
          exact q2.elim
        | ok z =>
          rw [hfx] at q2
          refine ⟨xs[i], _, _, E10.no, ?_⟩
          rw [hfx]
          intro v H4 E11n
          have E11 := E11n.yes
          by_cases hlen : acc.length < 16777216
          · have q3 : (lcL t f (xs.drop (i + 1)) (acc ++ [z])).wp fin (Ex c us σ vs) := by
              have q2' : (if acc.length < 16777216 then lcL t f (xs.drop (i + 1)) (acc ++ [z]) else .bad).wp fin (Ex c us σ vs) := q2
              rw [if_pos hlen] at q2'
              exact q2'
            have z1 : Env c (up xs[i] ts) ((.as (Bn xs[i] z) :: ps.map .as) ++ Ow c acc :: as.map .as) σ2 ((v :: pv) ++ .ref D :: vs) H4 := by
              have E11' : Env c (up xs[i] ts) (.as (Bn xs[i] z) :: (ps ++ asn c.X.K c.G .own acc :: as).map .as) σ2 (v :: (pv ++ .ref D :: vs)) H4 := E11
              rw [List.map_append] at E11'
              exact E11'
            have z2 := Env.rot z1 (by rw [List.length_cons, List.length_cons, hpl'])
            have z3 : Env c (up xs[i] ts) (.as (Bn xs[i] z) :: Ow c acc :: ((ps ++ as).map .as)) σ2 (v :: .ref D :: (pv ++ vs)) H4 := by
              have z4 := Env.rot (es := [Ow c acc]) (ws := [.ref D]) (us := ps.map .as ++ as.map .as) z2 rfl
              rw [List.map_append]
              exact z4
            have hH : ∃ zs, H4 D = some (.lst zs) ∧ zs.length = acc.length := by
              obtain ⟨F1, F2, Ez⟩ := id z3
              obtain ⟨G1, G2, _, _, G3, G4, _, k2, _⟩ := Ez.sk
              obtain ⟨l, zs, el, _, hH, r⟩ := k2
              cases el
              exact ⟨zs, hH, Pd.len r⟩
            obtain ⟨zs, hz, hzl⟩ := hH
            exact ⟨zs, hz, by rw [hzl, sizeLine_eq]; exact hlen, acc ++ [z], back (Env.grow z3 hz (fz xs[i] z)), q3⟩
          · have q2' : (if acc.length < 16777216 then lcL t f (xs.drop (i + 1)) (acc ++ [z]) else .bad).wp fin (Ex c us σ vs) := q2
            rw [if_neg hlen] at q2'
            exact q2'.elim
  · have e : i = xs.length := by omega
    subst e
    rw [List.drop_eq_nil_of_le (Nat.le_refl _)] at q2
    have z := Env.pop E6 hpl'
    have z2 : Env c ts ((Ow c acc :: us).map (unal σ)) (wipe σ own) (.ref D :: vs) H := by
      have e : List.map (unal σ) (Ow c acc :: us) = Ow c acc :: as.map .as := by
        rw [List.map_cons, has]
        rfl
      rw [e]
      exact z
    exact .inl ⟨sr.stop E6, q2 _ H (Env.wipeO hts z2)⟩
theorem PE.ex {X : Cx} {e : Expr} {ι : Type} {t : ι → TE} (h : ∀ i, PE X e (t i)) : PE X e (fun σ H Q => ∃ i, t i σ H Q) := ⟨fun pins s σ H Q I ⟨i, q⟩ => (h i).run pins s σ H Q I q⟩
theorem PTs.ex {X : Cx} {ifs : List Expr} {ι : Type} {t : ι → TT} (h : ∀ i, PTs X ifs (t i)) : PTs X ifs (fun σ H Q => ∃ i, t i σ H Q) := ⟨fun pins s σ H Q I ⟨i, q⟩ => (h i).run pins s σ H Q I q⟩
theorem Env.toB {us : List Ent} {s : Shared} {H0 : Hp} {scope : Scope} {C : Addr} {cl : List (Str × Addr)} {fp : List Addr} (E : Env c.no ts us σ vs H) : Env (c.blk s H0 scope C cl fp) ts us σ vs H := by
  obtain ⟨F1, F2, E⟩ := E
  exact ⟨F1, F2, E.sl, E.sk, E.nd, E.fr, E.g, E.og⟩
theorem Env.ofB {us : List Ent} {s : Shared} {H0 : Hp} {scope : Scope} {C : Addr} {cl : List (Str × Addr)} {fp : List Addr} (E : Env (c.blk s H0 scope C cl fp) ts us σ vs H) : Env c.no ts us σ vs H := by
  obtain ⟨F1, F2, E⟩ := E
  exact ⟨F1, F2, E.sl, E.sk, E.nd, E.fr, E.g, E.og⟩
theorem je_blk {s : Shared} {H0 : Hp} {scope : Scope} {C : Addr} {cl : List (Str × Addr)} {fp : List Addr} {m : Out α} {A : α → Ent} (h : JE (c.blk s H0 scope C cl fp) ts e m A) : PE (c.X.blk s H0 scope (compEnvC scope cl C c.X.env) fp) e (tJ c.no ts m A) :=
  PE.imp (X := (c.blk s H0 scope C cl fp).X) h fun σ H Q ⟨us, vs, E, q⟩ => ⟨us, vs, E.toB, Out.wp_mono q (fun a _ k v H' E' => k v H' E'.ofB) fun e _ k => k⟩
theorem jts_blk {s : Shared} {H0 : Hp} {scope : Scope} {C : Addr} {cl : List (Str × Addr)} {fp : List Addr} {m : Out Bool} {ifs : List Expr} (h : JTs (c.blk s H0 scope C cl fp) ts ifs m) : PTs (c.X.blk s H0 scope (compEnvC scope cl C c.X.env) fp) ifs (tT c.no ts m) :=
  ⟨fun pins s' σ H Q I ⟨us, vs, E, q⟩ => PTs.run (X := (c.blk s H0 scope C cl fp).X) h pins s' σ H Q I ⟨us, vs, E.toB, Out.wp_mono q (fun a _ k H' E' => k H' E'.ofB) fun e _ k => k⟩⟩
/-- [elt for target in iter if ..] -/
theorem je_lc {n : Nat} {mi : Out (List α)} {El : α → Asn} {g : TG} {up : α → List (Option Asn) → List (Option Asn)} {own : List (Str × Nat)} {ifs : List Expr} {scope : Scope} {t : α → Out Bool} {f : α → Out β} {Bn : α → β → Asn} (hc : c.X.calm = true) (hN : c.X.N.Nodup)
    (hi : JI c ts tg iter mi El) (ok : blkC c.X.N c.X.env.scope scope own = true) (ht : TgtW c n g El up (own.map (·.2))) (hts : ∀ i ∈ own.map (·.2), ts[i]? = some none) (hn : n ≤ ts.length) (fz : ∀ x y, Fz c (.as (Bn x y)) y)
    (hww : ∀ σ, wipe (wipe σ (own.map (·.2))) (own.map (·.2)) = wipe σ (own.map (·.2))) (hwk : ∀ x, WkL (up x ts) ts)
    (hg : ∀ (s : Shared) (H : Hp) (C : Addr) (cl : List (Str × Addr)) (fp : List Addr), PG (c.blk s H scope C cl fp).X tg g)
    (hif : ∀ x (s : Shared) (H : Hp) (C : Addr) (cl : List (Str × Addr)) (fp : List Addr), JTs (c.blk s H scope C cl fp) (up x ts) ifs (t x))
    (he : ∀ x (s : Shared) (H : Hp) (C : Addr) (cl : List (Str × Addr)) (fp : List Addr), JE (c.blk s H scope C cl fp) (up x ts) elt (f x) (fun y => .as (Bn x y)))
    (hs : ∀ x, foldedSetIterable iter c.X.env x = pure x := by intro _; rfl) :
    JE c ts (.ListComp elt [⟨tg, iter, ifs, 0⟩] scope pos) (mi.bind fun xs => lcL t f xs []) (Ow c) :=
  PE.imp (pe_lc hc hN hi (blkOk_by ok) hg (fun s H C cl fp => PTs.ex (t := fun x => tT c.no (up x ts) (t x)) fun x => jts_blk (hif x s H C cl fp)) (fun s H C cl fp => PE.ex (t := fun x => tJ c.no (up x ts) (f x) (fun y => .as (Bn x y))) fun x => je_blk (he x s H C cl fp)) hs) (lc_imp ht hts hn fz hww hwk)
/-- name = [elt for target in iter if ..] on one line -/
theorem js_setLc {n i : Nat} {y : Str} {py spos : Pos} {mi : Out (List α)} {El : α → Asn} {g : TG} {up : α → List (Option Asn) → List (Option Asn)} {own : List (Str × Nat)} {ifs : List Expr} {scope : Scope} {t : α → Out Bool} {f : α → Out β} {Bn : α → β → Asn} {k : List β → Out ω} (hc : c.X.calm = true) (hN : c.X.N.Nodup)
    (hy : c.X.N[i]? = some y) (hyl : c.X.env.scope.names.lookup y = some .local) (hsw : swapsWith (.ListComp elt [⟨tg, iter, ifs, 0⟩] scope pos) (some (.Name y py)) spos.line c.X.env = pure true)
    (hi : JI c ts tg iter mi El) (ok : blkC c.X.N c.X.env.scope scope own = true) (ht : TgtW c n g El up (own.map (·.2))) (hts : ∀ i ∈ own.map (·.2), ts[i]? = some none) (hn : n ≤ ts.length) (fz : ∀ x y, Fz c (.as (Bn x y)) y)
    (hww : ∀ σ, wipe (wipe σ (own.map (·.2))) (own.map (·.2)) = wipe σ (own.map (·.2))) (hwk : ∀ x, WkL (up x ts) ts)
    (hg : ∀ (s : Shared) (H : Hp) (C : Addr) (cl : List (Str × Addr)) (fp : List Addr), PG (c.blk s H scope C cl fp).X tg g)
    (hif : ∀ x (s : Shared) (H : Hp) (C : Addr) (cl : List (Str × Addr)) (fp : List Addr), JTs (c.blk s H scope C cl fp) (up x ts) ifs (t x))
    (he : ∀ x (s : Shared) (H : Hp) (C : Addr) (cl : List (Str × Addr)) (fp : List Addr), JE (c.blk s H scope C cl fp) (up x ts) elt (f x) (fun y => .as (Bn x y)))
    (hk : ∀ a, JS c (ts.set i (some (asn c.X.K c.G .own a))) rest (k a) post) (hil : i < ts.length) (hs : ∀ x, foldedSetIterable iter c.X.env x = pure x := by intro _; rfl) :
    JS c ts (.Assign [.Name y py] (.ListComp elt [⟨tg, iter, ifs, 0⟩] scope pos) spos :: rest) ((mi.bind fun xs => lcL t f xs []).bind k) post :=
  PSs.imp (pss_cons (ps_setLc hc hN hy hyl hsw hi (blkOk_by ok) hg (fun s H C cl fp => PTs.ex (t := fun x => tT c.no (up x ts) (t x)) fun x => jts_blk (hif x s H C cl fp)) (fun s H C cl fp => PE.ex (t := fun x => tJ c.no (up x ts) (f x) (fun y => .as (Bn x y))) fun x => je_blk (he x s H C cl fp)) hs) (PSs.ex hk)) fun D σ H ⟨us, vs, E, q⟩ => by
    refine lc_imp (c := c) (Bn := Bn) ht hts hn fz hww hwk σ H (fun v H' => ∃ a, tS c (ts.set i (some (asn c.X.K c.G .own a))) (k a) post D (σ.set i (some v)) H') (tJ_S E (A := fun a => asn c.X.K c.G .own a) (Out.wp_mono (Out.wp_bind q) (fun a _ q v H' E' => ?_) fun _ _ z => z))
    exact ⟨a, us, vs, E'.store hil, q⟩
end
end Mw
set_option maxRecDepth 100000
set_option maxHeartbeats 4000000
namespace Mw
open PySem PySem.Spec PyProof.Rows L2

theorem Out.bind_assoc {α β γ : Type} (m : Out α) (f : α → Out β) (g : β → Out γ) : (m.bind f).bind g = m.bind fun x => (f x).bind g := by
  cases m <;> rfl
theorem Out.bind_id {α : Type} (m : Out α) : (m.bind fun x => .ok x) = m := by
  cases m <;> rfl

/-! ### in, count -/
class PyQ (α : Type) [Py α] [DecidableEq α] [PyE α] : Prop where
  flat : ∀ x : α, flatV (PyE.val x) = true
  eqv : ∀ x y : α, eqV (PyE.val x) (PyE.val y) = decide (x = y)
instance : PyQ Int := ⟨fun _ => rfl, fun x y => by
  show (x == y) = decide (x = y)
  exact Bool.beq_eq_decide_eq x y⟩
instance : PyQ Bool := ⟨fun _ => rfl, fun x y => by
  cases x <;> cases y <;> rfl⟩
instance : PyQ Str := ⟨fun _ => rfl, fun x y => by
  show (x == y) = decide (x = y)
  exact Bool.beq_eq_decide_eq x y⟩
section
variable {c : Cw} {ts : List (Option Asn)} {us es ues : List Ent} {σ : Sl} {vs ws : List V} {H H' : Hp} {α β γ ω S ρ : Type} [Py α] [Py β] [Py γ] {a b e tg iter elt : Expr} {st rest A B body : List Stmt} {pos : Pos} {post : ω → Exit}
theorem reps_val [DecidableEq α] [PyE α] {K : PySem.W.Frag} : ∀ {vs : List V} {xs : List α}, Reps K H vs xs → vs = xs.map PyE.val
  | _, _, .nil => rfl
  | _, _, .cons r t => by rw [List.map_cons, PyE.rep r, reps_val t]
theorem all_flat [DecidableEq α] [PyE α] [PyQ α] : ∀ xs : List α, (xs.map PyE.val).all flatV = true
  | [] => rfl
  | x :: xs => by
    rw [List.map_cons, List.all_cons, PyQ.flat, all_flat xs]
    rfl
theorem inV_eq [DecidableEq α] [PyE α] [PyQ α] {x : α} : ∀ xs : List α, inV (PyE.val x) (xs.map PyE.val) = decide (x ∈ xs)
  | [] => by simp [inV]
  | y :: xs => by
    have h := inV_eq (x := x) xs
    unfold inV at h ⊢
    rw [List.map_cons, List.any_cons, h, PyQ.eqv]
    by_cases hxy : y = x
    · subst hxy
      simp
    · have : x ≠ y := fun z => hxy z.symm
      simp [hxy, this]
theorem Env.rq2 {i : α} {j : β} {x y : V} {eA eB : Ent} (rA : Rd c ts eA i) (rB : Rd c ts eB j) (E : Env c ts (eB :: eA :: us) σ (y :: x :: vs) H) : Py.rep c.X.K H x i ∧ Py.rep c.X.K H y j := by
  obtain ⟨F1, F2, E⟩ := E
  obtain ⟨G1, G2, e, h1, G3, G4, e', h2, _⟩ := E.sk
  exact ⟨rA E.part E.g E.sl h2, rB E.part E.g E.sl h1⟩
theorem hr_in [DecidableEq α] [PyE α] [PyQ α] {neg : Bool} {A : α → Ent} {B : List α → Ent} (rA : ∀ x, Rd c ts (A x) x) (rB : ∀ xs, Rd c ts (B xs) xs) : ∀ {us σ vs H2} {i : α} {j : List α} {x y : V} {Q : VK}, Env c ts (B j :: A i :: us) σ (y :: x :: vs) H2 → (Out.ok (if neg then !decide (i ∈ j) else decide (i ∈ j))).wp (fun z => ∀ v H', Env c ts (Vl c z :: us) σ (v :: vs) H' → Q v H') (Ex c us σ vs) →
    rIn c.X.K neg x y H2 Q := fun {us σ vs H2 i j x y Q} E q => by
  obtain ⟨r1, r2⟩ := E.rq2 (rA i) (rB j)
  obtain ⟨l, zs, ey, hl, rz⟩ := r2
  have ex := PyE.rep r1
  have ez := reps_val rz
  subst ey
  subst ez
  refine ⟨l, _, rfl, .inl (SqL.of hl), by rw [ex]; exact PyQ.flat i, all_flat j, ?_⟩
  rw [ex, inV_eq]
  exact q _ H2 (Env.pushS (es := [_, _]) (ws := [_, _]) (K := c.X.K) (H0 := H2) E rfl rfl)
theorem je_in [DecidableEq α] [PyE α] [PyQ α] {mx : Out α} {ml : Out (List α)} {A : α → Ent} {B : List α → Ent} (ha : JE c ts a mx A) (hb : JE c ts b ml B) (rA : ∀ x, Rd c ts (A x) x) (rB : ∀ xs, Rd c ts (B xs) xs) (hm : behindInMarks .In b = false := by rfl) :
    JE c ts (.Compare a [.In] [b] pos) (mx.bind fun x => ml.bind fun xs => .ok (decide (x ∈ xs))) (Vl c) := je_cmp op_in_seq (hr_in (neg := false) rA rB) hm ha hb
theorem je_nin [DecidableEq α] [PyE α] [PyQ α] {mx : Out α} {ml : Out (List α)} {A : α → Ent} {B : List α → Ent} (ha : JE c ts a mx A) (hb : JE c ts b ml B) (rA : ∀ x, Rd c ts (A x) x) (rB : ∀ xs, Rd c ts (B xs) xs) (hm : behindInMarks .NotIn b = false := by rfl) :
    JE c ts (.Compare a [.NotIn] [b] pos) (mx.bind fun x => ml.bind fun xs => .ok (!decide (x ∈ xs))) (Vl c) := je_cmp op_notIn_seq (hr_in (neg := true) rA rB) hm ha hb
theorem jt_in [DecidableEq α] [PyE α] [PyQ α] {mx : Out α} {ml : Out (List α)} {A : α → Ent} {B : List α → Ent} (ha : JE c ts a mx A) (hb : JE c ts b ml B) (rA : ∀ x, Rd c ts (A x) x) (rB : ∀ xs, Rd c ts (B xs) xs) (hm : behindInMarks .In b = false := by rfl) :
    JT c ts (.Compare a [.In] [b] pos) (mx.bind fun x => ml.bind fun xs => .ok (decide (x ∈ xs))) := jt_cmp op_in_seq (hr_in (neg := false) rA rB) hm ha hb
theorem jt_nin [DecidableEq α] [PyE α] [PyQ α] {mx : Out α} {ml : Out (List α)} {A : α → Ent} {B : List α → Ent} (ha : JE c ts a mx A) (hb : JE c ts b ml B) (rA : ∀ x, Rd c ts (A x) x) (rB : ∀ xs, Rd c ts (B xs) xs) (hm : behindInMarks .NotIn b = false := by rfl) :
    JT c ts (.Compare a [.NotIn] [b] pos) (mx.bind fun x => ml.bind fun xs => .ok (!decide (x ∈ xs))) := jt_cmp op_notIn_seq (hr_in (neg := true) rA rB) hm ha hb

def rCntV (K : PySem.W.Frag) : V → List V → Hp → VK → Prop := fun x xs H Q => ∃ (p : Addr) (zs : List V) (y : V), x = .ref p ∧ xs = [y] ∧ SqL K H p zs ∧ flatV y = true ∧ zs.all flatV = true ∧ Q (.int ((zs.countP fun z => eqV z y : Nat) : Int)) H
theorem count_eqU {x : V} : ∀ {xs : List V} {us : List Value}, Vals xs us → xs.all flatV = true → us.countP (eqU x) = xs.countP fun y => eqV y x
  | _, _, .nil, _ => rfl
  | y :: xs, u :: us, .cons r t, f => by
    rw [List.all_cons, Bool.and_eq_true] at f
    rw [List.countP_cons, List.countP_cons, eqU_of r f.1, count_eqU t f.2]
theorem mt_lcountV {X : Cx} : MtR X "list.count" (rCntV X.K) := by
  intro pins s σ H x xs v us Q I rx rxs h
  obtain ⟨p, zs, y, rfl, rfl, hs, fy, fz, q⟩ := h
  cases rx
  obtain ⟨u, rfl, ru⟩ := rxs.one
  obtain ⟨its, rv, ⟨⟨cls, dd, data, sl⟩, n, ho, hc, hdn, hd⟩, hlen⟩ := I.list hs
  simp only at hc hd
  subst hc hd
  refine call_meets PySem.F.slot_list_count ⟨_, ho, rfl⟩ PySem.F.entry_list_count (PySem.F.args_list_count_2 _ _)
    (SeqAt.list_countAt p its.toArray n dd sl u (eqU y)) ⟨ho, fun w hw => mem_eqAt ru fy rv fz w (by simpa using hw), ?_⟩
  have ec : its.toArray.toList.countP (eqU y) = zs.countP fun z => eqV z y := count_eqU rv fz
  refine ⟨.int ((zs.countP fun z => eqV z y : Nat) : Int), H, I.tok _, ⟨s.toks, ?_⟩, q⟩
  show Value.int ((its.toArray.toList.countP (eqU y) : Nat) : Int) s.toks = Value.int ((zs.countP fun z => eqV z y : Nat) : Int) s.toks
  rw [ec]
theorem count_val [DecidableEq α] [PyE α] [PyQ α] {x : α} : ∀ xs : List α, ((xs.map PyE.val).countP fun z => eqV z (PyE.val x)) = xs.countP fun z => decide (z = x)
  | [] => rfl
  | y :: xs => by rw [List.map_cons, List.countP_cons, List.countP_cons, PyQ.eqv, count_val xs]
/-- xs.count(y) -/
theorem je_count [DecidableEq α] [PyE α] [PyQ α] {xs : List α} {md : Md} {n : Str} {p1 p2 : Pos} {m : Out α} {A : α → Ent} (i : Nat) (h : ts[i]? = some (some (asn c.X.K c.G md xs))) (rA : ∀ x, Rd c ts (A x) x) (he : JE c ts e m A)
    (hp : ∀ {t : TA}, PA c.X [e] t → PE c.X (.Call (.Attribute (.Name n p1) "count" p2) [e] [] pos) (tBM c.X.K "list" (rCntV c.X.K) (tVar i) t)) (hst : starEach [e] c.X.env = (false, eval e c.X.env) :: starEach [] c.X.env := by rfl) :
    JE c ts (.Call (.Attribute (.Name n p1) "count" p2) [e] [] pos) (m.bind fun x => .ok ((xs.countP fun z => decide (z = x) : Nat) : Int)) (Vl c) :=
  PE.imp (hp (pa_cons he pa_nil hst)) fun σ H Q ⟨us, vs, E, q⟩ => by
    obtain ⟨v0, P0, F0, F01, e0, pp, el0, q0⟩ := E.slot h
    have r0 := asn_rep pp.le (E.ground) q0
    obtain ⟨l0, zs0, el, hH0, rz⟩ := r0
    subst el
    refine ⟨_, e0, .inl ⟨rfl, _, SqL.of hH0⟩, us, vs, E, Out.wp_mono (Out.wp_bind q) (fun x _ q v H1 E1 => ?_) fun _ _ z => z⟩
    have ex := PyE.rep (E1.rd1 (rA x))
    obtain ⟨v1, P1, F1, F11, e1, pp1, el1, q1⟩ := E1.slot h
    rw [e0] at e1
    cases e1
    obtain ⟨l1, zs1, el', hH1, rz1⟩ := asn_rep pp1.le (E1.ground) q1
    cases el'
    have ez := reps_val rz1
    subst ex
    subst ez
    refine ⟨_, _, _, rfl, rfl, SqL.of hH1, PyQ.flat x, all_flat xs, q _ H1 ?_⟩
    rw [count_val]
    exact Env.pushS (es := [_]) (ws := [_]) (K := c.X.K) (H0 := H1) E1 rfl rfl
end
end Mw
set_option maxRecDepth 100000
set_option maxHeartbeats 4000000
namespace Mw
open PySem PySem.Spec PyProof.Rows L2

/-! ### a def keeps the promise of its mirror -/
/-- an argument: how it is handed, how it stands in its slot -/
structure ArgS (K : PySem.W.Frag) where
  p : ArgP
  t : Hp → Asn
  h : ∀ {O : List Addr} {H : Hp} {v : V}, p (hide O H) H v → (t H).p (hide O H) H [] v
def sV (K : PySem.W.Frag) {α : Type} [Py α] (x : α) : ArgS K := ⟨aV K x, fun G => asn K G .val x, fun h => ⟨rfl, h⟩⟩
def sB (K : PySem.W.Frag) {α : Type} [Py α] (x : α) : ArgS K := ⟨aB K x, fun G => asn K G .bor x, fun h => ⟨rfl, h⟩⟩
theorem start_env {P H : Hp} {K : PySem.W.Frag} {O : List Addr} : ∀ {ss : List (ArgS K)} {vs : List V} {n : Nat}, ArgL (ss.map (·.p)) (hide O H) H vs → EnvL (hide O H) H ((ss.map fun s => some (s.t H)) ++ List.replicate n none) (vs.map some ++ List.replicate n none) []
  | [], [], n, _ => by
    show EnvL (hide O H) H (List.replicate n none) (List.replicate n none) []
    induction n with
    | zero => exact rfl
    | succ n ih => exact ⟨[], [], rfl, rfl, ih⟩
  | [], _ :: _, _, h => nomatch h
  | _ :: _, [], _, h => nomatch h
  | s :: ss, v :: vs, n, h => by
    cases h with
    | cons h1 h2 => exact ⟨[], [], rfl, ⟨v, rfl, s.h h1⟩, start_env (P := P) h2⟩
section
variable {P : Program} {w : World} {K : PySem.W.Frag} {mg : Str → Option Value} {base : Heap}
/-- where a def's body stands -/
abbrev cOf (P : Program) (w : World) (K : PySem.W.Frag) (mg : Str → Option Value) (base : Heap) (eg : EK → Addr) (N : List Str) (qual : Str) (st : Stmt) (f : Addr) (cdv : Value) (A : Around) (outer : List PySem.Env) (s : Shared) (H : Hp) (E : XK) (O : List Addr) : Cw :=
  { X := cxOf (L2N.CX P w) P w K mg base N qual (defScope st) f cdv A outer s H E, G := H, Of := O, W := fun cls d _ H => E cls d H, tx := none, eg := eg }
theorem fn_mir {γ ρ : Type} [Py ρ] {x qual : Str} {st : Stmt} {f : Addr} {fd : FuncData} {N ps : List Str} {k : Nat} {eg : EK → Addr} {md : Md} {mf : γ → Out ρ} {As : γ → List ArgP} (F : Fun K x qual st f fd) (S : FnScope N ps (defScope st)) (Ss : γ → List (ArgS K)) (hAs : ∀ y, As y = (Ss y).map (·.p)) (hl : ∀ y, (Ss y).length = ps.length)
    (body : ∀ (cdv : Value) (A : Around) (outer : List PySem.Env) (s : Shared) (H : Hp) (E : XK) (O : List Addr) (y : γ), Room k (A.deeper (envOfC qual (defScope st) s.heap.objs.size f cdv)) →
      JS (cOf P w K mg base eg N qual st f cdv A outer s H E O) (((Ss y).map fun s => some (s.t H)) ++ List.replicate (N.length - ps.length) none) (defBody st) (mf y) (fun r => .ret (asn K H md r))) :
    FnOk P w K mg base (L2N.CX P w) (k + 1) f fd ps (spM K eg md mf As) := by
  have len : ∀ vs H (Q : VK) (E : XK), spM K eg md mf As vs H Q E → vs.length = ps.length := fun vs H Q E h => by
    obtain ⟨y, O, _, hp, _⟩ := h
    rw [Pd.len hp, hAs, List.length_map, hl]
  refine okXN F S len fun cdv A outer s H vs Q E hr h => ?_
  obtain ⟨y, O, hO, hp, q⟩ := id h
  refine ⟨_, body cdv A outer s H E O y hr, [], [], ?_, ?_⟩
  · rw [hAs] at hp
    refine ⟨[], [], ?_, rfl, List.nodup_nil, fun a ha => (nomatch ha), Same.refl _, hO⟩
    have hvl := len vs H Q E h
    unfold L2.start
    rw [hvl, show ([] : List Addr) ++ [] = [] from rfl, List.append_nil]
    exact start_env (P := H) hp
  · refine Out.wp_mono q (fun r _ k => ?_) fun e _ k => ?_
    · intro v H' E'
      obtain ⟨F1, F2, E'⟩ := E'
      obtain ⟨G1, G2, eG, k1, k2⟩ := E'.sk
      have eF1 : F1 = [] := E'.sl
      have eG2 : G2 = [] := k2
      subst eF1 eG2 eG
      refine k v H' E'.g ⟨G1, fun a ha => (E'.fr a (by simpa using ha)).1, by have := E'.nd; simpa using this, fun a ha => (E'.fr a (by simpa using ha)).2, ?_⟩
      have k1' : (asn K H md r).p (hide (O ++ ([] ++ (G1 ++ []))) H') H' G1 v := k1
      simpa using k1'
    · intro σ d H' h1 h2
      exact k d H' h1 h2
end

theorem wkx_refl {c : Cw} {ts : List (Option Asn)} (h : c.tx = some ts) : WkX c ts := by
  unfold WkX
  rw [h]
  exact fun z => z
theorem hpo_of {P : Program} {w : World} {K : PySem.W.Frag} {mg : Str → Option Value} {base : Heap} {eg : EK → Addr} {N : List Str} {qual : Str} {st : Stmt} {f : Addr} {cdv : Value} {A : Around} {outer : List PySem.Env} {s : Shared} {H : Hp} {E : XK} {O : List Addr} :
    PassesOwn (model P w) (cOf P w K mg base eg N qual st f cdv A outer s H E O).X.A (cOf P w K mg base eg N qual st f cdv A outer s H E O).X.env (cOf P w K mg base eg N qual st f cdv A outer s H E O).X.xe :=
  passes_of (X := (cOf P w K mg base eg N qual st f cdv A outer s H E O).X) rfl
theorem tk_of {P : Program} {w : World} {K : PySem.W.Frag} {mg : Str → Option Value} {base : Heap} {eg : EK → Addr} {N : List Str} {qual : Str} {st : Stmt} {f : Addr} {cdv : Value} {A : Around} {outer : List PySem.Env} {s : Shared} {H : Hp} {E : XK} {O : List Addr} :
    L2N.Takes (cOf P w K mg base eg N qual st f cdv A outer s H E O).X (cOf P w K mg base eg N qual st f cdv A outer s H E O).W := L2N.takes_of rfl rfl rfl rfl
section
variable {c : Cw} {ts : List (Option Asn)} {ω α : Type} [Py α] {rest : List Stmt} {pos : Pos} {post : ω → Exit}
/-- return xs, xs what slot i owns -/
theorem js_retO {x : α} {inj : α → ω} {n : Str} {p1 : Pos} (i : Nat) (h : ts[i]? = some (some (asn c.X.K c.G .own x))) (hn : PE c.X (.Name n p1) (tVar i)) (hp : ∀ a, post (inj a) = .ret (asn c.X.K c.G .own a)) : JS c ts (.Return (some (.Name n p1)) pos :: rest) ((Out.ok x).bind fun a => .ok (inj a)) post :=
  PSs.imp (pss_cons (u := tNever) (ps_ret hn) pss_never) fun D σ H ⟨us, vs, E, q⟩ => by
    obtain ⟨F1, F2, E⟩ := E
    obtain ⟨v, G1, Gi, G2, e1, e2, qA, hlt, put⟩ := E.sl.at i h
    obtain ⟨u, eu, qA⟩ := qA
    subst eu e2
    have q' : ExitOk c us vs D (post (inj x)) := q
    rw [hp] at q'
    refine ⟨u, e1, q' u H ⟨[], Gi ++ F2, rfl, ⟨Gi, F2, rfl, ?_, ?_⟩, ?_, fun a ha => E.fr a ?_, E.g, E.og⟩⟩
    · refine (asn c.X.K c.G .own x).st (fun a o z => ?_) (fun _ _ _ z => z) qA
      obtain ⟨n', z⟩ := hide_some z
      rw [hide_of fun y => n' ?_]
      · exact z
      · rcases List.mem_append.mp y with y | y
        · exact List.mem_append_left _ y
        · refine List.mem_append_right _ ?_
          rcases List.mem_append.mp y with y | y
          · cases y
          · rcases List.mem_append.mp y with y | y
            · exact List.mem_append_left _ (List.mem_append_right _ (List.mem_append_left _ y))
            · exact List.mem_append_right _ y
    · refine (stk_map (F := F2) E.sk).st (fun a o z => ?_) fun _ _ _ z => z
      obtain ⟨n', z⟩ := hide_some z
      rw [hide_of fun y => n' ?_]
      · exact z
      · rcases List.mem_append.mp y with y | y
        · exact List.mem_append_left _ y
        · refine List.mem_append_right _ ?_
          rcases List.mem_append.mp y with y | y
          · cases y
          · rcases List.mem_append.mp y with y | y
            · exact List.mem_append_left _ (List.mem_append_right _ (List.mem_append_left _ y))
            · exact List.mem_append_right _ y
    · obtain ⟨n1, n2, n3⟩ := List.nodup_append.mp E.nd
      obtain ⟨m1, m2, m3⟩ := List.nodup_append.mp n1
      obtain ⟨p1, p2, p3⟩ := List.nodup_append.mp m2
      show (Gi ++ F2).Nodup
      exact List.nodup_append.mpr ⟨p1, n2, fun a ha b hb => n3 a (List.mem_append_right _ (List.mem_append_left _ ha)) b hb⟩
    · rcases List.mem_append.mp ha with y | y
      · cases y
      · rcases List.mem_append.mp y with y | y
        · exact List.mem_append_left _ (List.mem_append_right _ (List.mem_append_left _ y))
        · exact List.mem_append_right _ y
end

/-! ### own errors: raise C(e) -/
/-- self.f = e, of a fresh exception -/
def spIn (K : PySem.W.Frag) (f : Str) : Sp := fun vs H Q _ => ∃ (a C : Addr) (y : V), vs = [.ref a, y] ∧ OexC K C ∧ PySem.W.findIn K (.ref C) f = some none ∧ H a = some (exo a C none) ∧
  ∀ dx, H dx = none → dx ≠ a → Q .non (upd (upd H dx (exd dx [(f, y)])) a (exo a C (some dx)))
section
variable {P : Program} {w : World} {K : PySem.W.Frag} {mg : Str → Option Value} {base : Heap}
theorem ok_in {qual : Str} {st : Stmt} {f : Addr} {fd : FuncData} {fld : Str} {p1 p2 p3 p4 : Pos} (F : Fun K "__init__" qual st f fd) (S : FnScope ["self", fld] ["self", fld] (defScope st)) (hb : defBody st = [.Assign [.Attribute (.Name "self" p1) fld p2] (.Name fld p3) p4])
    (v0 : Vis (defScope st) "self") (v1 : Vis (defScope st) fld) (hd : (fld == ("__debug__" : Str)) = false) (hcd : (fld == ("__classdict__" : Str)) = false)
    (hs : ∀ (L f : Addr) (cdv : Value), swapsWith (.Name fld p3) (some (.Attribute (.Name "self" p1) fld p2)) p4.line (envOfC qual (defScope st) L f cdv) = pure false) : FnOk P w K mg base (L2N.CX P w) 1 f fd ["self", fld] (spIn K fld) := by
  refine okXN F S (fun vs H Q E h => ?_) fun cdv A outer s H vs Q E hr h => ?_
  · obtain ⟨a, C, y, rfl, _⟩ := h
    rfl
  · obtain ⟨a, C, y, rfl, T, no, ha, k⟩ := h
    rw [hb]
    refine ⟨_, pss_one (ps_ost (pe_var (i := 0) rfl v0) (pe_var (i := 1) rfl v1 hd hcd) (hs _ _ _)), ?_⟩
    exact ⟨y, rfl, _, rfl, a, C, rfl, T, no, .inl ⟨ha, fun dx h1 h2 => k dx h1 h2⟩⟩
end
section
variable {c : Cw} {ts tt : List (Option Asn)} {us es ues : List Ent} {σ : Sl} {vs ws : List V} {H H' : Hp} {α β γ ω S ρ : Type} [Py α] [Py β] [Py γ] {a b e tg iter elt : Expr} {st rest A B body : List Stmt} {pos : Pos} {post : ω → Exit}
theorem js_raise1 [DecidableEq α] [PyE α] {kd : EK} {f x : Str} {fI : Addr} {fd : FuncData} {ps : List Str} {n : Nat} {m : Out α} {A : α → Ent} {p pos2 : Pos} (hcalm : c.X.calm = true) (tk : L2N.Takes c.X c.W) (T : OexC c.X.K (c.eg kd)) (iC : PySem.W.findIn c.X.K (.ref (c.eg kd)) "__init__" = some (some (.ref fI)))
    (tI : PySem.W.typeIn c.X.K (.ref fI) = some (.type "function")) (F1 : FnOk c.X.prog c.X.w c.X.K c.X.mg c.X.base (L2N.CX c.X.prog c.X.w) n fI fd ps (spIn c.X.K f)) (hr : Room (n + 1) c.X.A) (hb : Binds c.X.K fd ps []) (no : PySem.W.findIn c.X.K (.ref (c.eg kd)) f = some none)
    (hm : c.X.mg x = some (.ref (c.eg kd))) (rA : ∀ x, Rd c ts (A x) x) (he : JE c ts e m A) (hw : WkX c ts) (hg : Gl c.X x := by rfl) (hdb : (x == ("__debug__" : Str)) = false := by decide)
    (hst : starEach [e] c.X.env = (false, eval e c.X.env) :: starEach [] c.X.env := by rfl) (hpl : (backTo pos (starEach [] c.X.env)).any (·.1) = false := by rfl) :
    JS c ts (.Raise (some (.Call (.Name x p) [e] [] pos)) none pos2 :: rest) (m.bind fun y => .err ⟨kd, some [(f, PyE.val y)]⟩) post :=
  PSs.imp (pss_cons (u := tNever) (L2N.ps_raise hcalm tk (pmk_oexN (ds := []) (dvs := []) T iC tI F1 hr hb .nil passLN hg hm (pa_cons he pa_nil hst) hdb hst hpl)) pss_never) fun D σ H ⟨us, vs, E, q⟩ => by
    refine ⟨us.map .as, vs, E, Out.wp_mono (Out.wp_bind q) (fun y _ q v H1 E1 => ?_) fun e _ z => z σ⟩
    have ev : v = PyE.val y := PyE.rep (E1.rd1 (rA y))
    refine ⟨by show 1 ≤ 1000; decide, fun a ha => ?_⟩
    refine ⟨a, c.eg kd, v, rfl, T, no, upd_same, fun dx hdx hne => ⟨rfl, dx, [(f, v)], upd_same, ?_, ?_, ?_⟩⟩
    · rw [upd_ne hne, upd_same]
    · rw [upd_ne hne] at hdx
      exact hdx
    · rw [upd_ne hne] at hdx
      have eH : upd (del (upd (upd (upd H1 a (exo a (c.eg kd) none)) dx (exd dx [(f, v)])) a (exo a (c.eg kd) (some dx))) a) dx (.xd [(f, v)]) = upd H1 dx (.xd [(f, v)]) := by
        funext b
        by_cases h1 : b = dx
        · subst h1
          rw [upd_same, upd_same]
        · rw [upd_ne h1, upd_ne h1]
          by_cases h2 : b = a
          · subst h2
            rw [del_same, ha]
          · rw [del_ne h2, upd_ne h2, upd_ne h1, upd_ne h2]
      rw [eH, ev]
      have q' : ExS c us vs ⟨kd, some [(f, PyE.val y)]⟩ := q
      exact q' σ (some dx) _ ⟨dx, rfl, upd_same⟩ (hw.go (Env.same (Env.pop (es := [_]) (ws := [_]) E1 rfl) (same_new hdx)))
end

/-! ### try -/
def tryE {α : Type} (p : Err → Option Bool) (m : Out α) (h : Err → Out α) : Out α := match m with
  | .ok a => .ok a
  | .err e => (match p e with
    | some true => (match h e with
      | .ok a => .ok a
      | _ => .bad)
    | some false => .err e
    | none => .bad)
  | .bad => .bad
theorem tryE_ok {α : Type} {p : Err → Option Bool} {a : α} {h : Err → Out α} : tryE p (.ok a) h = .ok a := rfl
/-- the context of a try's body -/
abbrev Cw.tr (c : Cw) (pn : List (Addr × Obj)) (xe : Value → Shared → Prop) (W : WX) (tx : List (Option Asn)) : Cw := { c with X := c.X.tr pn xe, W := W, tx := some tx }
/-- the context of an except clause -/
abbrev Cw.su (c : Cw) (a : Addr) (pn : List (Addr × Obj)) : Cw := { c with X := c.X.suite a pn, W := fun _ _ _ _ => False, tx := none }
/-- the error that is held: it lies at a, its fields at d -/
def exA (a : Addr) (d : Option Addr) (e : Err) : Asn := ⟨fun P _ F v => F = [] ∧ v = .ref a ∧ ErrAt e d P, fun {P P' H H' F v} s _ h => ⟨h.1, h.2.1, by
  obtain ⟨_, _, h⟩ := h
  unfold ErrAt at h ⊢
  split at h
  · exact h
  · obtain ⟨b, e1, e2⟩ := h
    exact ⟨b, e1, s _ _ e2⟩⟩⟩
theorem Env.cv {c c' : Cw} {ts : List (Option Asn)} {us : List Ent} {σ : Sl} {vs : List V} {H : Hp} (hG : c'.G = c.G) (hO : c'.Of = c.Of) (E : Env c ts us σ vs H) : Env c' ts us σ vs H := by
  obtain ⟨F1, F2, E⟩ := E
  exact ⟨F1, F2, by rw [hO]; exact E.sl, by rw [hO]; exact E.sk, E.nd, fun a ha => by rw [hG]; exact E.fr a ha, by rw [hG]; exact E.g, fun a ha => by rw [hG]; exact E.og a (by rw [← hO]; exact ha)⟩
theorem ErrAt.part {P P' H : Hp} {e : Err} {d : Option Addr} (pp : Part P H) (s : Same P P') (h : ErrAt e d H) : ErrAt e d P' := by
  unfold ErrAt at h ⊢
  split at h
  · exact h
  · obtain ⟨b, e1, e2⟩ := h
    obtain ⟨O, eO, mO⟩ := pp.ex
    subst eO
    refine ⟨b, e1, s _ _ ?_⟩
    rw [hide_of fun z => ?_]
    · exact e2
    · have := mO b z _ e2
      cases this
def ExI (i : Nat) : Exit → Prop
  | .next ts => ts[i]? = some none
  | .again ts => ts[i]? = some none
  | .cnt ts => ts[i]? = some none
  | .brk ts => ts[i]? = some none
  | .ret _ => True
  | .never => True
theorem Env.clr {c : Cw} {ts : List (Option Asn)} {us : List Asn} {σ : Sl} {vs : List V} {H : Hp} {i : Nat} (h : ts[i]? = some none) (E : Env c ts (us.map .as) σ vs H) : Env c ts (us.map .as) (σ.set i none) vs H := by
  obtain ⟨F1, F2, E⟩ := E
  exact ⟨F1, F2, EnvL.putN (i := i) h E.sl, stk_map (F := F2) E.sk, E.nd, E.fr, E.g, E.og⟩
section
variable {c : Cw} {ts tt tx : List (Option Asn)} {us es ues : List Ent} {σ : Sl} {vs ws : List V} {H H' : Hp} {α β γ ω S ρ : Type} [Py α] [Py β] [Py γ] {a b e tg iter elt : Expr} {st rest A B body : List Stmt} {pos : Pos} {post : ω → Exit}
theorem exitOk_cv {c c' : Cw} {us : List Asn} {D : Ends} (hG : c'.G = c.G) (hO : c'.Of = c.Of) {x : Exit} (h : ExitOk c us vs D x) : ExitOk c' us vs D x := by
  cases x with
  | next ts => exact fun σ H E => h σ H (E.cv hG.symm hO.symm)
  | again ts => exact ⟨fun σ H E => h.1 σ H (E.cv hG.symm hO.symm), fun σ H E => h.2 σ H (E.cv hG.symm hO.symm)⟩
  | cnt ts => exact fun σ H E => h σ H (E.cv hG.symm hO.symm)
  | brk ts => exact fun σ H E => h σ H (E.cv hG.symm hO.symm)
  | ret A => exact fun v H E => h v H (E.cv hG.symm hO.symm)
  | never => trivial
theorem exitOk_clr {us : List Asn} {D : Ends} {i : Nat} {x : Exit} (hx : ExI i x) (h : ExitOk c us vs D x) : ExitOk c us vs { nx := fun σ' H' => D.nx (σ'.set i none) H', rt := D.rt, bk := fun σ' H' => D.bk (σ'.set i none) H', ct := fun σ' H' => D.ct (σ'.set i none) H' } x := by
  cases x with
  | next ts => exact fun σ H E => h _ H (E.clr hx)
  | again ts => exact ⟨fun σ H E => h.1 _ H (E.clr hx), fun σ H E => h.2 _ H (E.clr hx)⟩
  | cnt ts => exact fun σ H E => h _ H (E.clr hx)
  | brk ts => exact fun σ H E => h _ H (E.clr hx)
  | ret A => exact h
  | never => trivial
/-- try: .. except C as n: .. -/
theorem js_tryAs {tj : S → List (Option Asn)} {i : Nat} {n x : Str} {b₀ : Stmt} {suite : List Stmt} {np pos' : Pos} {cv : Value} {p : Err → Option Bool} {mb : Out (S ⊕ ω)} {mh : Err → Out (S ⊕ ω)} {k : S → Out ω}
    (hs : c.X.stack = c.X.env :: c.X.outer) (hf : c.X.env.frame = some c.X.env.locals) (hN : c.X.N.Nodup) (hi : c.X.N[i]? = some n) (hln : c.X.env.kindOf n = some .local) (hc : Names c.X x cv) (tk : L2N.Takes c.X c.W)
    (hp : ∀ e b, p e = some b → PySem.W.exmOne c.X.K (.ref (c.eg e.k)) cv = some b) (hil : i < tx.length) (htj : ∀ s, (tj s)[i]? = some none) (hpi : ∀ w, ExI i (post w).noF) (hw : WkX c tx)
    (hb : ∀ (W : WX) (pn : List (Addr × Obj)) (xe : Value → Shared → Prop), L2N.Takes (c.X.tr pn xe) W → PassesOwn (model c.X.prog c.X.w) c.X.A c.X.env xe → JS (c.tr pn xe W tx) ts body mb (Sum.elim (fun s => .next (tj s)) fun w => (post w).noF))
    (hh : ∀ (e : Err) (a : Addr) (oe : Obj) (d : Option Addr) (pn : List (Addr × Obj)), p e = some true → L2N.Zn (.ref (c.eg e.k)) d oe → (∃ vs, oe.data = .fields vs) → JS (c.su a ((a, oe) :: pn)) (tx.set i (some (exA a d e))) (b₀ :: suite) (mh e) (Sum.elim (fun s => .next (tj s)) fun w => (post w).noF))
    (hk : ∀ s, JS c (tj s) rest (k s) post) :
    JS c ts (.Try body [.ExceptHandler (some (.Name x np)) (some n) (b₀ :: suite) pos'] [] [] pos :: rest) ((tryE p mb mh).bind (Sum.elim k .ok)) post := by
  let tsu : Addr → Value → Option Addr → TS := fun a cls d D σ H => ∃ e : Err, p e = some true ∧ cls = .ref (c.eg e.k) ∧ ∃ (us : List Asn) (vs : List V), Env c (tx.set i (some (exA a d e))) (us.map .as) σ vs H ∧ (mh e).wp (fun w => ExitOk c us vs D (Sum.elim (fun s => .next (tj s)) (fun w => (post w).noF) w)) fun _ => False
  refine PSs.imp (pss_cons (L2N.ps_try_as (tb := fun W D σ H => ∃ (us : List Asn) (vs : List V), Env c ts (us.map .as) σ vs H ∧ mb.wp (fun w => ExitOk c us vs D (Sum.elim (fun s => .next (tj s)) (fun w => (post w).noF) w)) fun e => ∀ σ' d H', ErrAt e d H' → Env c tx (us.map .as) σ' vs H' → W (.ref (c.eg e.k)) d σ' H') (ts := tsu) hs hf hN hi hln hc tk (fun W pn xe tk' ho => ?_) fun a oe cls d pn hz hd => ?_) (PSs.ex hk)) fun D σ H ⟨us, vs, E, q⟩ => ?_
  · exact PSs.imp (X := (c.tr pn xe W tx).X) (hb W pn xe tk' ho) fun D σ H ⟨us, vs, E, q⟩ => ⟨us, vs, Env.cv (c := c) rfl rfl E, Out.wp_mono q (fun w _ z => exitOk_cv (c := c) (c' := c.tr pn xe W tx) rfl rfl z) fun e _ z σ' d H' h1 h2 => z σ' d H' h1 (Env.cv (c := c.tr pn xe W tx) rfl rfl h2)⟩
  · refine ⟨fun pins s σ H D I ⟨e, hpe, ec, us, vs, E, q⟩ => ?_⟩
    subst ec
    exact PSs.run (X := (c.su a ((a, oe) :: pn)).X) (hh e a oe d pn hpe hz hd) pins s σ H D I ⟨us, vs, Env.cv (c := c) rfl rfl E, Out.wp_mono q (fun w _ z => exitOk_cv (c := c) (c' := c.su a ((a, oe) :: pn)) rfl rfl z) fun e _ z => z.elim⟩
  · have go : ∀ r : S ⊕ ω, (Sum.elim k .ok r).wp (fun w => ExitOk c us vs D (post w)) (ExS c us vs) → ExitOk c us vs { D with nx := fun σ H => ∃ s, tS c (tj s) (k s) post D σ H } (Sum.elim (fun s => .next (tj s)) (fun w => (post w).noF) r) := fun r q => by
      cases r with
      | inl s => exact fun σ' H' E' => ⟨s, us, vs, E', q⟩
      | inr w =>
        have q' : ExitOk c us vs D (post w) := q
        exact noF_ok q'
    refine ⟨us, vs, E, ?_⟩
    cases hm : mb with
    | ok r =>
      rw [hm] at q
      exact go r q
    | bad =>
      rw [hm] at q
      exact q.elim
    | err e =>
      rw [hm] at q
      intro σ' d H' h1 h2
      unfold tryE at q
      cases hpe : p e with
      | none =>
        simp only [hpe] at q
        exact q.elim
      | some bb =>
        simp only [hpe] at q
        refine ⟨bb, hp _ _ hpe, fun hb1 a ha => ?_, fun hb0 => ?_⟩
        · subst hb1
          refine ⟨e, hpe, rfl, us, vs, ?_, ?_⟩
          · have E2 : Env c tx ((exA a d e :: us).map .as) σ' (.ref a :: vs) H' := Env.top (es := []) (ws := []) h2 rfl (Same.refl _) fun P F1 FB pp _ _ _ => ⟨[], fun _ h => (nomatch h), List.nodup_nil, fun _ h => (nomatch h), fun P' s' _ _ => ⟨rfl, rfl, ErrAt.part pp s' h1⟩⟩
            exact E2.store hil
          · cases hmh : mh e with
            | ok r =>
              simp only [hmh] at q
              refine exitOk_clr ?_ (go r q)
              cases r with
              | inl s => exact htj s
              | inr w => exact hpi w
            | bad =>
              simp only [hmh] at q
              exact q.elim
            | err e2 =>
              simp only [hmh] at q
              exact q.elim
        · subst hb0
          exact q σ' d H' h1 (hw.go h2)
end
end Mw
set_option maxRecDepth 100000
set_option maxHeartbeats 4000000
namespace Mw
open PySem PySem.Spec PyProof.Rows L2

/-! ### values of several types -/
inductive Un where
  | i (x : Int)
  | b (x : Bool)
  | s (x : Str)
  | l (xs : List Int)
  | non
def Un.toI : Un → Out Int
  | .i x => .ok x
  | _ => .bad
def Un.toB : Un → Out Bool
  | .b x => .ok x
  | _ => .bad
def Un.toL : Un → Out (List Int)
  | .l x => .ok x
  | _ => .bad
def Un.isI : Un → Bool
  | .i _ => true
  | .b _ => true
  | _ => false
def Un.isB : Un → Bool
  | .b _ => true
  | _ => false
def Un.isL : Un → Bool
  | .l _ => true
  | _ => false
def Un.isS : Un → Bool
  | .s _ => true
  | _ => false
instance : Py Un where
  rep := fun K H v x => match x with
    | .i x => v = .int x
    | .b x => v = .bl x
    | .s x => v = .str x
    | .l xs => Py.rep K H v xs
    | .non => v = .non
  mono := fun {K H H' v x} s h => by
    cases x with
    | l xs => exact Py.mono s h
    | i x => exact h
    | b x => exact h
    | s x => exact h
    | non => exact h
  own := fun K P H F v x => match x with
    | .i x => F = [] ∧ v = .int x
    | .b x => F = [] ∧ v = .bl x
    | .s x => F = [] ∧ v = .str x
    | .l xs => Py.own K P H F v xs
    | .non => F = [] ∧ v = .non
  own_st := fun {K P P' H H' F v x} s k h => by
    cases x with
    | l xs => exact Py.own_st s k h
    | i x => exact h
    | b x => exact h
    | s x => exact h
    | non => exact h
  own_rep := fun {K P P' H F v x} s k h => by
    cases x with
    | l xs => exact Py.own_rep s k h
    | i x => exact h.2
    | b x => exact h.2
    | s x => exact h.2
    | non => exact h.2
/-- a pair whose second part may be owned -/
structure Pr (α β : Type) where
  a : α
  b : β
instance {α β : Type} [Py α] [Py β] : Py (Pr α β) where
  rep := fun K H v x => ∃ a v1 v2, v = .ref a ∧ H a = some (.tup [v1, v2]) ∧ Py.rep K H v1 x.a ∧ Py.rep K H v2 x.b
  mono := fun s ⟨a, v1, v2, e, h, r1, r2⟩ => ⟨a, v1, v2, e, s _ _ h, Py.mono s r1, Py.mono s r2⟩
  own := fun K P H F v x => ∃ a v1 v2, v = .ref a ∧ P a = some (.tup [v1, v2]) ∧ Py.rep K P v1 x.a ∧ Py.own K P H F v2 x.b
  own_st := fun s k ⟨a, v1, v2, e, h, r1, r2⟩ => ⟨a, v1, v2, e, s _ _ h, Py.mono s r1, Py.own_st s k r2⟩
  own_rep := fun s k ⟨a, v1, v2, e, h, r1, r2⟩ => ⟨a, v1, v2, e, s _ _ h, Py.mono s r1, Py.own_rep s k r2⟩

section
variable {c : Cw} {ts : List (Option Asn)} {us es ues : List Ent} {σ : Sl} {vs ws : List V} {H H' : Hp} {α β γ ω S ρ : Type} [Py α] [Py β] [Py γ] {a b e tg iter elt : Expr} {st rest body : List Stmt} {pos : Pos} {post : ω → Exit}
/-! ### the same value, another type -/
theorem Env.mapT {A B : Asn} {v : V} (h : ∀ {P H F}, A.p P H F v → B.p P H F v) (E : Env c ts (.as A :: us) σ (v :: vs) H) : Env c ts (.as B :: us) σ (v :: vs) H := by
  obtain ⟨F1, F2, E⟩ := E
  obtain ⟨G1, G2, e, h1, h2⟩ := E.sk
  exact ⟨F1, F2, E.sl, ⟨G1, G2, e, h h1, h2⟩, E.nd, E.fr, E.g, E.og⟩
theorem je_mp {A : α → Asn} {B : β → Asn} {f : α → Out β} {m : Out α} (hf : ∀ x y, f x = .ok y → ∀ {P H F v}, (A x).p P H F v → (B y).p P H F v) (he : ∀ x, f x = .bad ∨ ∃ y, f x = .ok y) (h : JE c ts e m (fun x => .as (A x))) : JE c ts e (m.bind f) (fun y => .as (B y)) :=
  PE.imp h fun σ H Q ⟨us, vs, E, q⟩ => ⟨us, vs, E, Out.wp_mono (Out.wp_bind q) (fun x _ q v H' E' => by
    rcases he x with hx | ⟨y, hx⟩
    · rw [hx] at q
      exact q.elim
    · rw [hx] at q
      exact q v H' (Env.mapT (hf x y hx) E')) fun _ _ z => z⟩
theorem je_upI {m : Out Int} (h : JE c ts e m (Vl c)) : JE c ts e (m.bind fun x => .ok (Un.i x)) (Vl c) := je_mp (fun x y e => by cases e; exact fun h => h) (fun x => .inr ⟨_, rfl⟩) h
theorem je_upB {m : Out Bool} (h : JE c ts e m (Vl c)) : JE c ts e (m.bind fun x => .ok (Un.b x)) (Vl c) := je_mp (fun x y e => by cases e; exact fun h => h) (fun x => .inr ⟨_, rfl⟩) h
theorem je_upL {m : Out (List Int)} (h : JE c ts e m (Vl c)) : JE c ts e (m.bind fun x => .ok (Un.l x)) (Vl c) := je_mp (fun x y e => by cases e; exact fun h => h) (fun x => .inr ⟨_, rfl⟩) h
theorem je_upIO {m : Out Int} (h : JE c ts e m (Vl c)) : JE c ts e (m.bind fun x => .ok (Un.i x)) (Ow c) := je_mp (fun x y e => by cases e; exact fun h => h) (fun x => .inr ⟨_, rfl⟩) h
theorem je_upBO {m : Out Bool} (h : JE c ts e m (Vl c)) : JE c ts e (m.bind fun x => .ok (Un.b x)) (Ow c) := je_mp (fun x y e => by cases e; exact fun h => h) (fun x => .inr ⟨_, rfl⟩) h
theorem je_upLO {m : Out (List Int)} (h : JE c ts e m (Ow c)) : JE c ts e (m.bind fun x => .ok (Un.l x)) (Ow c) := je_mp (fun x y e => by cases e; exact fun h => h) (fun x => .inr ⟨_, rfl⟩) h
theorem je_dnI {m : Out Un} (h : JE c ts e m (Vl c)) : JE c ts e (m.bind Un.toI) (Vl c) := je_mp (fun x y e => by cases x <;> cases e; exact fun h => h) (fun x => by cases x <;> first | exact .inl rfl | exact .inr ⟨_, rfl⟩) h
theorem je_dnB {m : Out Un} (h : JE c ts e m (Vl c)) : JE c ts e (m.bind Un.toB) (Vl c) := je_mp (fun x y e => by cases x <;> cases e; exact fun h => h) (fun x => by cases x <;> first | exact .inl rfl | exact .inr ⟨_, rfl⟩) h
theorem je_dnL {m : Out Un} (h : JE c ts e m (Vl c)) : JE c ts e (m.bind Un.toL) (Vl c) := je_mp (fun x y e => by cases x <;> cases e; exact fun h => h) (fun x => by cases x <;> first | exact .inl rfl | exact .inr ⟨_, rfl⟩) h

/-! ### isinstance -/
theorem pe_bty {X : Cx} {x : Str} {T : String} {pos : Pos} (hg : Gl X x) (hm : X.mg x = none) (hv : bootBuiltins x = some (.type T)) (hn : x ≠ "__name__" := by decide) (hdb : (x == ("__debug__" : Str)) = false := by decide) : PE X (.Name x pos) (tC (.ty T)) :=
  pe_bltn hg hm hv rfl hn hdb
/-- what isinstance asks of a type: t x is the class of x -/
class PyT (α : Type) [Py α] where
  ty : α → String
  is : ∀ {K : PySem.W.Frag} {H : Hp} {v : V} {x : α}, Py.rep K H v x → TyX K H v (.type (ty x))
instance : PyT Int := ⟨fun _ => "int", fun {K H v x} h => by rw [show v = .int x from h]; exact .base (.int _)⟩
instance : PyT Bool := ⟨fun _ => "bool", fun {K H v x} h => by rw [show v = .bl x from h]; exact .base (.bl _)⟩
instance : PyT Str := ⟨fun _ => "str", fun {K H v x} h => by rw [show v = .str x from h]; exact .base (.str _)⟩
instance : PyT Unit := ⟨fun _ => "NoneType", fun {K H v x} h => by rw [show v = .non from h]; exact .base .non⟩
instance {α : Type} [Py α] : PyT (List α) := ⟨fun _ => "list", fun h => by
  obtain ⟨a, vs, e, h, _⟩ := h
  subst e
  exact .base (.lst h)⟩
instance : PyT Un := ⟨fun x => match x with
  | .i _ => "int"
  | .b _ => "bool"
  | .s _ => "str"
  | .l _ => "list"
  | .non => "NoneType", fun {K H v x} h => by
    cases x with
    | i x => exact PyT.is (α := Int) h
    | b x => exact PyT.is (α := Bool) h
    | s x => exact PyT.is (α := Str) h
    | l x => exact PyT.is (α := List Int) h
    | non => exact PyT.is (α := Unit) (x := ()) h⟩
theorem un_isI (x : Un) : kitB (PyT.ty x) "int" = some x.isI := match x with
  | .i _ => (by decide +kernel : kitB "int" "int" = some true)
  | .b _ => (by decide +kernel : kitB "bool" "int" = some true)
  | .s _ => (by decide +kernel : kitB "str" "int" = some false)
  | .l _ => (by decide +kernel : kitB "list" "int" = some false)
  | .non => (by decide +kernel : kitB "NoneType" "int" = some false)
theorem un_isB (x : Un) : kitB (PyT.ty x) "bool" = some x.isB := match x with
  | .i _ => (by decide +kernel : kitB "int" "bool" = some false)
  | .b _ => (by decide +kernel : kitB "bool" "bool" = some true)
  | .s _ => (by decide +kernel : kitB "str" "bool" = some false)
  | .l _ => (by decide +kernel : kitB "list" "bool" = some false)
  | .non => (by decide +kernel : kitB "NoneType" "bool" = some false)
theorem un_isL (x : Un) : kitB (PyT.ty x) "list" = some x.isL := match x with
  | .i _ => (by decide +kernel : kitB "int" "list" = some false)
  | .b _ => (by decide +kernel : kitB "bool" "list" = some false)
  | .s _ => (by decide +kernel : kitB "str" "list" = some false)
  | .l _ => (by decide +kernel : kitB "list" "list" = some true)
  | .non => (by decide +kernel : kitB "NoneType" "list" = some false)
theorem un_isS (x : Un) : kitB (PyT.ty x) "str" = some x.isS := match x with
  | .i _ => (by decide +kernel : kitB "int" "str" = some false)
  | .b _ => (by decide +kernel : kitB "bool" "str" = some false)
  | .s _ => (by decide +kernel : kitB "str" "str" = some true)
  | .l _ => (by decide +kernel : kitB "list" "str" = some false)
  | .non => (by decide +kernel : kitB "NoneType" "str" = some false)
theorem je_isi [PyT α] {T : String} {x : Str} {p p2 : Pos} {m : Out α} {A : α → Ent} {r : α → Bool} (hm : c.X.mg "isinstance" = none) (hx : c.X.mg x = none) (hv : bootBuiltins x = some (.type T)) (hr : ∀ x : α, kitB (PyT.ty x) T = some (r x)) (rA : ∀ x, Rd c ts (A x) x) (he : JE c ts a m A)
    (hg : Gl c.X "isinstance" := by rfl) (hgx : Gl c.X x := by rfl) (hn : x ≠ "__name__" := by decide) (hdb : (x == ("__debug__" : Str)) = false := by decide)
    (h1 : starEach [a, .Name x p2] c.X.env = (false, eval a c.X.env) :: starEach [.Name x p2] c.X.env := by rfl) (h2 : starEach [.Name x p2] c.X.env = (false, eval (.Name x p2) c.X.env) :: starEach [] c.X.env := by rfl) (hpl : (backTo pos (starEach [.Name x p2] c.X.env)).any (·.1) = false := by rfl) :
    JE c ts (.Call (.Name "isinstance" p) [a, .Name x p2] [] pos) (m.bind fun x => .ok (r x)) (Vl c) :=
  PE.imp (pe_callB call_isi hg hm (by decide +kernel) (pa_cons he (pa_cons (pe_bty hgx hx hv hn hdb) pa_nil h2) h1) (by decide) (by decide) h1 hpl) fun σ H Q ⟨us, vs, E, q⟩ => by
    refine ⟨us, vs, E, Out.wp_mono (Out.wp_bind q) (fun y _ q v H1 E1 => ?_) fun _ _ z => z⟩
    refine ⟨v, .ty T, .type (PyT.ty y), .type T, r y, rfl, .ty T, PyT.is (E1.rd1 (rA y)), kit_ty (hr y), q _ H1 ?_⟩
    exact Env.pushS (es := [_]) (ws := [_]) (K := c.X.K) (H0 := H1) E1 rfl rfl
end
/-! ### the error that an except clause holds -/
end Mw
namespace Mw.Ki
open PySem PySem.Spec PySem.Calls PySem.W PyProof.Rows
section
variable {prog : Program} {w : World} {A : Around} {E : Value → Shared → Prop} {s : Shared} {K : Frag} {x D : Addr} {ox : Obj} {od : Option Obj}
/-- x.__class__, x an error of an own class, with or without fields: as PySem.W.kin_classE, for any dict -/
theorem cls_any {Q : Option Value → Shared → Prop} (C : L2.ExcC K D) (hf : findObj K D od "__class__" = some (.bind (.builtin "getset_descriptor.__get__") (.builtin "object.__class__"))) (X : K.In s.heap) (I : InstAt s.heap x ox D od) (h : Q (some (.ref D)) { s with toks := s.toks + 1 }) : wpAny (model prog w) A (getAttr? (.ref x) "__class__") Q E s := by
  obtain ⟨hp, g, d, t, os⟩ := s
  have k0 := I.type (M := model prog w)
  have k1 := looks_findIn (M := model prog w) X C.hg
  have k2 := looks_findIn (M := model prog w) X C.hk
  have k3 := looks_find (M := model prog w) X I hf
  have nb : (Value.builtin "BaseException.__getattribute__" == Value.builtin "object.__getattribute__") = false := by decide +kernel
  unfold getAttr? getAttrBy? getAttrBy
  refine wpAny_bind (wpAny_mkText (wpAny_bind (wpAny_attempt (wpAny_holding (wpAny_bind (k0.at (wpAny_bind (k1.at ?_))))))))
  show wpAny _ _ (if (onTheHeap (Value.ref D) && Value.builtin "BaseException.__getattribute__" == Value.builtin "object.__getattribute__") = true then _ else _) _ _ _
  rw [if_neg (by rw [nb, Bool.and_false]; exact Bool.false_ne_true)]
  unfold getAttrByItsOwn hookBefore
  refine wpAny_bind ?_
  rw [if_pos (show onTheHeap (Value.ref D) = true from rfl)]
  refine k2.at (wpAny_bind (wpAny_attempt (wpAny_holding ?_)))
  unfold callGetattribute
  rw [if_neg (show ¬ (false && onTheHeap (Value.builtin "BaseException.__getattribute__")) = true from Bool.false_ne_true)]
  unfold boundAndCalled
  rw [PySem.F.excAttr_ValueError.ga.bind (.ref x)]
  refine wpAny_bind (wpAny_pure ?_)
  show wpAny _ _ (call (.builtin "BaseException.__getattribute__") [.ref x, .str "__class__" t]) _ _ _
  refine wpAny_call (codeAny_call_builtin PySem.F.excAttr_ValueError.ga.plain PySem.F.entry_bexc_ga ?_)
  refine @check_slot (model prog w) _ _ ⟨hp, g, d, t + 1, os⟩ "BaseException.__getattribute__" "BaseException" "__getattribute__" (.ref x) [.str "__class__" t] [] _ (by decide +kernel) (by decide +kernel) (k0.andThen (looks_subIn X C.hs)) (PySem.F.args_bexc_ga (.ref x) (.str "__class__" t)) ?_
  unfold Builtin.«object.__getattribute__»
  refine wpAny_bind (wpAny_of_eq (a := ((Value.ref x : Value), [Value.str "__class__" t])) (by first | rfl | (simp only [slotArgs]; rfl)) ?_)
  refine wpAny_bind (wpAny_pure (wpAny_bind (k0.at (wpAny_bind (k3.at ?_)))))
  show wpAny _ _ (holding [Value.builtin "object.__class__"] (call (.builtin "getset_descriptor.__get__") [.builtin "object.__class__", .ref x, .ref D]) >>= ret) _ _ _
  refine wpAny_bind (wpAny_holding (wpAny_call (class_get (s := ⟨hp, g, d, t + 1, os⟩) (ox := ox) (od := od) X I C.hm (wpAny_pure ?_))))
  show wpAny _ _ (handedOut (.ref D)) _ _ _
  rw [handedOut_of (v := .ref D) rfl]
  first
    | exact wpAny_pure (wpAny_pure h)
    | exact wpAny_pure h
    | exact wpAny_pure (wpAny_bind (wpAny_pure (wpAny_pure h)))
theorem kit_any (C : L2.ExcC K D) (hf : findObj K D od "__class__" = some (.bind (.builtin "getset_descriptor.__get__") (.builtin "object.__class__"))) : KitX K (.ref x) (.ref D) (fun h => InstAt h x ox D od) where
  ty := fun _ _ _ I => I.type
  it := fun M h X _ => by
    obtain ⟨cdD, hcD, _⟩ := any_some C.hd
    unfold clsIn at hcD
    split at hcD
    · rename_i c' d' cd' sl' ho
      intro A' Q' E' s' k q
      unfold isType loadHead
      exact wpAny_bind (wpAny_loadPart (k _ _ (X _ _ ho)) (wpAny_pure q))
    · cases hcD
  ne := (handS_kitx_exc (x := x) (ox := ox) C.hg C.hk C.hs C.hd C.ha C.hn C.ht C.hm).ne
  ca := fun X I k => cls_any C hf X I k
end
end Mw.Ki
namespace Mw
open PySem PySem.Spec PyProof.Rows L2
theorem call_isF {X : Cx} {a D dd : Addr} {oe : Obj} {pn : List (Addr × Obj)} (C : ExcC X.K D) (hz : Zc (.ref D) (some dd) oe) (hf : ∃ vs, oe.data = .fields vs) : CallR (X.suite a ((a, oe) :: pn)) (.builtin "isinstance")
    (fun xs H Q => ∃ (c : V) (cv : Value) (b : Bool) (fs : List (Str × V)), xs = [.ref a, c] ∧ H dd = some (.xd fs) ∧ (∀ u, RelV c u → u = cv) ∧ PySem.W.kitOne X.K (.ref D) cv = some b ∧ Q (.bl b) H) := by
  intro pins s σ H xs us Q I r h
  obtain ⟨c, cv, b, fs, rfl, ea, hcv, e, q⟩ := h
  cases r with
  | cons rx rr =>
    cases rr with
    | cons rt rr =>
      cases rr
      cases rx
      have ec := hcv _ rt
      subst ec
      obtain ⟨hget, _⟩ := I.pin (a, oe) (List.mem_append.mpr (.inl List.mem_cons_self))
      obtain ⟨vs, hv⟩ := hf
      have hx : ObjOk X.prog X.w H s.heap dd (.xd fs) := I.hok dd _ ea
      obtain ⟨mA, hns, hr⟩ := hx
      obtain ⟨od, ho, hl⟩ := lookIn_ns hns
      have J : PySem.W.InstAt s.heap a oe D (some od) := ⟨hget, hz.1, by unfold PySem.W.notCls; rw [hv] <;> rfl, by rw [hz.2]; exact ho⟩
      exact PySem.W.kia_one (Ki.kit_any C (PySem.W.findObj_data (by obtain ⟨cd, hc, _⟩ := PySem.W.any_some C.hd; rw [hc]; rfl) C.ha C.hn C.ht)) I.kIn J e (fun z => nomatch z) fun tk => ⟨.bl b, H, I.kept (t' := tk) fun _ _ z => z, rfl, q⟩
/-- is an error of the class a one of the class b -/
def isaE (a b : EK) : Bool := decide (a = b) || decide (b = .PackError)
/-- the fields of an error -/
def Err.fI (e : Err) (f : Str) : Out Int := match e.fs with
  | some fs => (match fs.lookup f with
    | some (.int i) => .ok i
    | _ => .bad)
  | none => .bad
section
variable {c : Cw} {ts : List (Option Asn)} {us es ues : List Ent} {σ : Sl} {vs ws : List V} {H H' : Hp} {er : Err} {at1 : Addr} {d : Option Addr} {oe : Obj} {pn : List (Addr × Obj)} {pos : Pos}
theorem je_isE {n x : Str} {p p1 p2 : Pos} {cv : Value} {cw : V} {b : Bool} (i : Nat) (h : ts[i]? = some (some (exA at1 d er))) (T : ExcC c.X.K (c.eg er.k)) (hz : Zc (.ref (c.eg er.k)) d oe) (hf : ∃ vs, oe.data = .fields vs)
    (hn : PE (c.su at1 ((at1, oe) :: pn)).X (.Name n p1) (tVar i)) (hx : PE (c.su at1 ((at1, oe) :: pn)).X (.Name x p2) (tC cw)) (hcv : ∀ u, RelV cw u → u = cv) (hk : PySem.W.kitOne c.X.K (.ref (c.eg er.k)) cv = some b)
    (hm : c.X.mg "isinstance" = none) (hg : Gl c.X "isinstance" := by rfl)
    (h1 : starEach [.Name n p1, .Name x p2] c.X.env = (false, eval (.Name n p1) c.X.env) :: starEach [.Name x p2] c.X.env := by rfl) (h2 : starEach [.Name x p2] c.X.env = (false, eval (.Name x p2) c.X.env) :: starEach [] c.X.env := by rfl) (hpl : (backTo pos (starEach [.Name x p2] c.X.env)).any (·.1) = false := by rfl) :
    JE (c.su at1 ((at1, oe) :: pn)) ts (.Call (.Name "isinstance" p) [.Name n p1, .Name x p2] [] pos) (.ok b) (Vl (c.su at1 ((at1, oe) :: pn))) := by
  cases d with
  | none =>
    refine PE.imp (pe_callB (X := (c.su at1 ((at1, oe) :: pn)).X) (call_isE T hz hf) hg hm (by decide +kernel) (pa_cons hn (pa_cons hx pa_nil h2) h1) (by decide) (by decide) h1 hpl) fun σ H Q ⟨us, vs, E, q⟩ => ?_
    obtain ⟨v0, P0, F0, F01, e0, pp, el0, q0⟩ := E.slot h
    obtain ⟨_, ev, _⟩ := q0
    subst ev
    exact ⟨_, e0, cw, cv, b, rfl, hcv, hk, q _ H (Env.pushS (es := []) (ws := []) (K := c.X.K) (H0 := H) E rfl rfl)⟩
  | some dd =>
    refine PE.imp (pe_callB (X := (c.su at1 ((at1, oe) :: pn)).X) (call_isF T hz hf) hg hm (by decide +kernel) (pa_cons hn (pa_cons hx pa_nil h2) h1) (by decide) (by decide) h1 hpl) fun σ H Q ⟨us, vs, E, q⟩ => ?_
    obtain ⟨v0, P0, F0, F01, e0, pp, el0, q0⟩ := E.slot h
    obtain ⟨_, ev, h3⟩ := q0
    unfold ErrAt at h3
    cases hfs : er.fs with
    | none =>
      simp only [hfs] at h3
      cases h3
    | some fs =>
      simp only [hfs] at h3
      obtain ⟨a2, z, ha2⟩ := h3
      cases z
      subst ev
      exact ⟨_, e0, cw, cv, b, fs, rfl, pp.le _ _ ha2, hcv, hk, q _ H (Env.pushS (es := []) (ws := []) (K := c.X.K) (H0 := H) E rfl rfl)⟩
/-- e.f, an int -/
theorem je_ef {n f : Str} {p1 : Pos} (i : Nat) (h : ts[i]? = some (some (exA at1 d er))) (T : XfC c.X.K (c.eg er.k)) (hno : PySem.W.findIn c.X.K (.ref (c.eg er.k)) f = some none) (hz : Zc (.ref (c.eg er.k)) d oe) (hf : ∃ vs, oe.data = .fields vs)
    (hn : PE (c.su at1 ((at1, oe) :: pn)).X (.Name n p1) (tVar i)) (hb : attributeBase (.Name n p1) f c.X.env (eval (.Name n p1) c.X.env) = eval (.Name n p1) c.X.env := by rfl) :
    JE (c.su at1 ((at1, oe) :: pn)) ts (.Attribute (.Name n p1) f pos) (er.fI f) (Vl (c.su at1 ((at1, oe) :: pn))) := by
  refine PE.imp (pe_xf (X := c.X) T hno hz hf hn hb) fun σ H Q ⟨us, vs, E, q⟩ => ?_
  obtain ⟨v0, P0, F0, F01, e0, pp, el0, q0⟩ := E.slot h
  obtain ⟨_, ev, h3⟩ := q0
  subst ev
  unfold ErrAt at h3
  unfold Err.fI at q
  cases hfs : er.fs with
  | none =>
    simp only [hfs] at q
    exact q.elim
  | some fs =>
    simp only [hfs] at q h3
    obtain ⟨a2, z, ha2⟩ := h3
    subst z
    cases hl : fs.lookup f with
    | none =>
      simp only [hl] at q
      exact q.elim
    | some w =>
      simp only [hl] at q
      cases w with
      | int k => exact ⟨_, e0, rfl, rfl, a2, fs, .int k, rfl, pp.le _ _ ha2, hl, q _ H (Env.pushS (es := []) (ws := []) (K := c.X.K) (H0 := H) E rfl rfl)⟩
      | _ => exact q.elim
end
end Mw
set_option maxRecDepth 100000
set_option maxHeartbeats 4000000
namespace Mw
open PySem PySem.Spec PyProof.Rows L2

section
variable {c : Cw} {ts : List (Option Asn)} {us es ues : List Ent} {σ : Sl} {vs ws : List V} {H H' : Hp} {α β γ ω S ρ : Type} [Py α] [Py β] [Py γ] {a b e tg iter elt : Expr} {st rest body : List Stmt} {pos : Pos} {post : ω → Exit}
/-- an object l that slot i owns is written -/
theorem Env.mutG {i : Nat} {A : Asn} (E : Env c ts (es ++ ues) σ (ws ++ vs) H) (hl : es.length = ws.length) (h : ts[i]? = some (some A)) (hA : ∀ {P H : Hp} {F : List Addr} {v : V}, A.p P H F v → ∃ l, F = [l]) :
    ∃ u l P F1 FB, σ[i]? = some (some u) ∧ A.p P H [l] u ∧ Part P H ∧ EnvL P H ts σ F1 ∧ StkL P H σ es ws FB ∧ ∀ (o' : HO) (A' : Asn), mutO o' = true → (∀ P', Same P P' → (∀ a ∈ FB, ∀ o, H a = some o → P' a = some o) → A'.p P' (upd H l o') [l] u) →
      Env c (ts.set i (some A')) ues σ vs (upd H l o') := by
  obtain ⟨F1, FB, F2, E, k, h2⟩ := Env.open E hl
  obtain ⟨v, G1, Gi, G2, e1, e2, q, hlt, put⟩ := E.sl.at i h
  subst e2
  obtain ⟨u, eu, qA⟩ := q
  subst eu
  obtain ⟨l, eF⟩ := hA qA
  subst eF
  refine ⟨u, l, _, _, FB, e1, qA, E.part, E.sl, k, fun o' A' hmu hr => ?_⟩
  have nd := E.nd
  have lin : l ∈ G1 ++ ([l] ++ G2) := by simp
  have sub : ∀ a, a ∈ c.Of ++ (G1 ++ ([l] ++ G2) ++ F2) → a ∈ c.Of ++ (G1 ++ ([l] ++ G2) ++ (FB ++ F2)) := fun a h => by
    rcases List.mem_append.mp h with h | h
    · exact List.mem_append_left _ h
    · rcases List.mem_append.mp h with h | h
      · exact List.mem_append_right _ (List.mem_append_left _ h)
      · exact List.mem_append_right _ (List.mem_append_right _ (List.mem_append_right _ h))
  obtain ⟨n1, n2, n3⟩ := List.nodup_append.mp nd
  obtain ⟨m1, m2, m3⟩ := List.nodup_append.mp n2
  have noOf : ∀ a, a ∈ G1 ++ ([l] ++ G2) ++ (FB ++ F2) → a ∉ c.Of := fun a h q => by
    have := (E.fr a h).1
    obtain ⟨o, e, _⟩ := E.og a q
    rw [this] at e
    cases e
  have sP : Same (hide (c.Of ++ (G1 ++ ([l] ++ G2) ++ (FB ++ F2))) H) (hide (c.Of ++ (G1 ++ ([l] ++ G2) ++ F2)) (upd H l o')) := fun a o q => by
    obtain ⟨n, q⟩ := hide_some q
    have al : a ≠ l := fun z => n (by rw [z]; exact List.mem_append_right _ (List.mem_append_left _ lin))
    rw [hide_of fun z => n (sub a z), upd_ne al]
    exact q
  have kB : ∀ a ∈ FB, ∀ o, H a = some o → hide (c.Of ++ (G1 ++ ([l] ++ G2) ++ F2)) (upd H l o') a = some o := fun a ha o q => by
    have al : a ≠ l := fun z => n3 l lin a (List.mem_append_left _ ha) z.symm
    rw [hide_of fun z => ?_, upd_ne al]
    · exact q
    · rcases List.mem_append.mp z with z | z
      · exact noOf a (List.mem_append_right _ (List.mem_append_left _ ha)) z
      · rcases List.mem_append.mp z with z | z
        · exact n3 a z a (List.mem_append_left _ ha) rfl
        · exact m3 a ha a z rfl
  obtain ⟨p1, p2, p3⟩ := List.nodup_append.mp n1
  obtain ⟨r1, r2, r3⟩ := List.nodup_append.mp p2
  have ln : ∀ a, a ∈ G1 ++ G2 → a ≠ l := fun a ha z => by
    subst z
    rcases List.mem_append.mp ha with ha | ha
    · exact p3 a ha a (by simp) rfl
    · exact r3 a (by simp) a ha rfl
  have put' := put _ (upd H l o') (some A') (some u) [l] sP (fun a ha o q => by rw [upd_ne (ln a ha)]; exact q) ⟨_, rfl, hr _ sP kB⟩
  have es : σ.set i (some u) = σ := by
    obtain ⟨hi, e⟩ := List.getElem?_eq_some_iff.mp e1
    rw [← e]
    exact List.set_getElem_self hi
  rw [es] at put'
  refine ⟨G1 ++ ([l] ++ G2), F2, put', h2.st sP fun a ha o q => ?_, List.nodup_append.mpr ⟨n1, m2, fun a ha b hb => n3 a ha b (List.mem_append_right _ hb)⟩, fun a ha => ?_, fun a o q => ?_, E.og⟩
  · have al : a ≠ l := fun z => n3 l lin a (List.mem_append_right _ ha) z.symm
    rw [upd_ne al]
    exact q
  · have ha' : a ∈ G1 ++ ([l] ++ G2) ++ (FB ++ F2) := by
      rcases List.mem_append.mp ha with h | h
      · exact List.mem_append_left _ h
      · exact List.mem_append_right _ (List.mem_append_right _ h)
    obtain ⟨g1, o, g2, g3⟩ := E.fr a ha'
    refine ⟨g1, ?_⟩
    by_cases al : a = l
    · subst al
      exact ⟨_, upd_same, hmu⟩
    · exact ⟨o, by rw [upd_ne al]; exact g2, g3⟩
  · have al : a ≠ l := fun z => by
      have := (E.fr l (List.mem_append_left _ lin)).1
      rw [z, this] at q
      cases q
    rw [upd_ne al]
    exact E.g _ _ q


/-! ### pairs whose second part may be owned -/
theorem je_pr {es : List Expr} {m : Out (α × β × Unit)} {A : α → Ent} {k : Nat} (fA : ∀ x, Fz c (A x) x) (ha : JA c ts es m (fun p => [A p.1, Ow c p.2.1])) : JE c ts (.Tuple es k pos) (m.bind fun x => .ok (Pr.mk x.1 x.2.1)) (Ow c) :=
  PE.imp (pe_tup ha) fun σ H Q ⟨us, vs, E, q⟩ => ⟨us, vs, E, Out.wp_mono (Out.wp_bind q) (fun x _ q => by
    intro ws H1 hl E1
    refine ⟨by rw [← hl, sizeLine_eq]; exact Nat.le_of_ble_eq_true rfl, fun p hp => ?_⟩
    obtain ⟨F1, FB, F2, E1, k, h2⟩ := Env.open E1 hl
    obtain ⟨v1, v2, G1, G2, e, eF, k1, k2⟩ := stk2 k
    subst e eF
    have nd := E1.nd
    obtain ⟨n1, n2, n3⟩ := List.nodup_append.mp nd
    obtain ⟨m1, m2, m3⟩ := List.nodup_append.mp n2
    obtain ⟨p1, p2, p3⟩ := List.nodup_append.mp m1
    have sH : Same H1 (upd H1 p (.tup [v1, v2])) := same_new hp
    refine q _ _ ⟨F1, G2 ++ F2, E1.top h2 sH (fun a ha => .inl (List.mem_append_right _ ha)) p2 (fun a ha => ?_) fun P' s' n _ => ?_⟩
    · obtain ⟨o, h1, h2⟩ := (E1.fr a (List.mem_append_right _ (List.mem_append_left _ (List.mem_append_right _ ha)))).2
      exact ⟨o, sH _ _ h1, h2⟩
    · have np : p ∉ G2 := fun z => by
        obtain ⟨o, h1, _⟩ := (E1.fr p (List.mem_append_right _ (List.mem_append_left _ (List.mem_append_right _ z)))).2
        rw [hp] at h1
        cases h1
      refine ⟨p, v1, v2, rfl, n p _ (.inl hp) np upd_same, fA _ k1 s' (fun a ha o e => n a o (.inr (List.mem_append_left _ ha)) (fun z => p3 a ha a z rfl) (sH _ _ e)), Py.own_st s' (fun a ha o e => sH _ _ e) k2⟩) fun _ _ z => z⟩
theorem p2_of {m : Md} {x : Pr α β} {P H : Hp} {F : List Addr} {u v : V} {p : Addr} (pp : Part P H) (g : Same c.G H) (q : (asn c.X.K c.G m x).p P H F (.ref p)) (hp : P p = some (.tup [u, v])) : Py.rep c.X.K H v x.b := by
  obtain ⟨a, v1, v2, e, h, r1, r2⟩ := asn_rep pp.le g q
  cases e
  rw [pp.le _ _ hp] at h
  cases h
  exact r2
theorem rdP {m : Md} {x : Pr α β} (i : Nat) (h : ts[i]? = some (some (asn c.X.K c.G m x))) : Rd c ts (.p2 i) x.b := fun pp g E h' => by
  obtain ⟨v, Fi, e, q⟩ := E.get h
  obtain ⟨_, a, u, e', hp⟩ := h'
  rw [e] at e'
  cases e'
  exact p2_of pp g q hp
/-- the pair's second part -/
theorem je_p2 {m : Md} {x : Pr α β} {n : Str} {p1 pos' : Pos} {k : Nat} (i : Nat) (hm : m = .val ∨ m = .own) (h : ts[i]? = some (some (asn c.X.K c.G m x))) (hp : PE c.X (.Name n p1) (tVar i)) (hs : PlainIx (.Constant (.int 1) k pos') := by intro _ _; rfl) :
    JE c ts (.Subscript (.Name n p1) (.Constant (.int 1) k pos') pos) (.ok ()) (fun _ : Unit => .p2 i) :=
  PE.imp (pe_ix ix_tup hp pe_int hs) fun σ H Q ⟨us, vs, E, q⟩ => by
    obtain ⟨F1, F2, E0⟩ := id E
    obtain ⟨w, Fi, e, qA⟩ := E0.sl.get h
    have key : ∃ a v1 v2, w = .ref a ∧ hide (c.Of ++ (F1 ++ F2)) H a = some (.tup [v1, v2]) := by
      rcases hm with z | z
      · subst z
        obtain ⟨_, a, v1, v2, e, h, _⟩ := qA
        exact ⟨a, v1, v2, e, h⟩
      · subst z
        obtain ⟨a, v1, v2, e, h, _⟩ := qA
        exact ⟨a, v1, v2, e, h⟩
    obtain ⟨p, v1, v2, ew, hp⟩ := key
    subst ew
    refine ⟨_, e, p, _, 1, v2, rfl, rfl, SqT.of (hide_le _ _ hp), rfl, q v2 H ?_⟩
    exact ⟨F1, [] ++ F2, E0.top (es := []) (ws := []) (FB := []) E0.sk (Same.refl _) (fun _ z => (nomatch z)) List.nodup_nil (fun _ z => (nomatch z)) fun P' s' _ _ => ⟨rfl, p, v1, e, s' _ _ hp⟩⟩
theorem p2_step {x : β} {i : Nat} {v : V} {f : α → Out β} {y : α} (hx : f y = .ok x) (E : Env c ts (.p2 i :: us) σ (v :: vs) H) : Env c ts (cndE (f y = .ok x) (.p2 i) :: us) σ (v :: vs) H := by
  rw [cndE_pos hx]
  exact E
theorem wp_ok {m : Out α} {Q : α → Prop} {E : Err → Prop} (h : m.wp Q E) (hb : m = .bad ∨ ∃ y, m = .ok y) : ∃ y, m = .ok y ∧ Q y := by
  rcases hb with e | ⟨y, e⟩
  · rw [e] at h
    exact h.elim
  · rw [e] at h
    exact ⟨y, e, h⟩
/-- the second part, as a value of another type: an entry that is read -/
theorem je_p2A {m : Md} {x : Pr α β} {f : β → Out γ} {n : Str} {p1 pos' : Pos} {k : Nat} (i : Nat) (hm : m = .val ∨ m = .own) (h : ts[i]? = some (some (asn c.X.K c.G m x))) (hb : f x.b = .bad ∨ ∃ y, f x.b = .ok y) (hp : PE c.X (.Name n p1) (tVar i)) (hs : PlainIx (.Constant (.int 1) k pos') := by intro _ _; rfl) :
    JE c ts (.Subscript (.Name n p1) (.Constant (.int 1) k pos') pos) (f x.b) (fun y => cndE (f x.b = .ok y) (.p2 i)) :=
  PE.imp (je_p2 i hm h hp hs) fun σ H Q ⟨us, vs, E, q⟩ => by
    obtain ⟨y, e, q⟩ := wp_ok q hb
    exact ⟨us, vs, E, fun v H' E' => q v H' (p2_step e E')⟩
theorem rdPA {m : Md} {x : Pr α β} {f : β → Out γ} (i : Nat) (h : ts[i]? = some (some (asn c.X.K c.G m x))) (hf : ∀ y, f x.b = .ok y → ∀ {K : PySem.W.Frag} {H : Hp} {v : V}, Py.rep K H v x.b → Py.rep K H v y) : ∀ y, Rd c ts (cndE (f x.b = .ok y) (.p2 i)) y := fun y => rdCnd fun e {P H σ F F1 v} pp g E k => hf y e (rdP i h pp g E k)
/-- .. a value without heap -/
theorem je_p2S [PyS γ] {m : Md} {x : Pr α β} {f : β → Out γ} {n : Str} {p1 pos' : Pos} {k : Nat} (i : Nat) (hm : m = .val ∨ m = .own) (h : ts[i]? = some (some (asn c.X.K c.G m x))) (hb : f x.b = .bad ∨ ∃ y, f x.b = .ok y) (hf : ∀ y, f x.b = .ok y → ∀ {K : PySem.W.Frag} {H : Hp} {v : V}, Py.rep K H v x.b → Py.rep K H v y)
    (hp : PE c.X (.Name n p1) (tVar i)) (hs : PlainIx (.Constant (.int 1) k pos') := by intro _ _; rfl) : JE c ts (.Subscript (.Name n p1) (.Constant (.int 1) k pos') pos) (f x.b) (Vl c) :=
  PE.imp (je_p2 i hm h hp hs) fun σ H Q ⟨us, vs, E, q⟩ => by
    obtain ⟨y, e, q⟩ := wp_ok q hb
    refine ⟨us, vs, E, fun v H' E' => q v H' ?_⟩
    have r : Py.rep c.X.K H' v x.b := by
      obtain ⟨F1, F2, E0⟩ := E'
      obtain ⟨G1, G2, e, h1, _⟩ := E0.sk
      exact rdP i h E0.part E0.g E0.sl h1
    exact Env.pushS (es := [_]) (ws := [_]) (K := c.X.K) (H0 := H') E' rfl (hf y e r)
theorem toI_b (x : Un) : x.toI = .bad ∨ ∃ y, x.toI = .ok y := by cases x <;> first | exact .inl rfl | exact .inr ⟨_, rfl⟩
theorem toB_b (x : Un) : x.toB = .bad ∨ ∃ y, x.toB = .ok y := by cases x <;> first | exact .inl rfl | exact .inr ⟨_, rfl⟩
theorem toL_b (x : Un) : x.toL = .bad ∨ ∃ y, x.toL = .ok y := by cases x <;> first | exact .inl rfl | exact .inr ⟨_, rfl⟩
theorem toI_r {x : Un} (y : Int) (h : x.toI = .ok y) {K : PySem.W.Frag} {H : Hp} {v : V} (r : Py.rep K H v x) : Py.rep K H v y := by cases x <;> cases h; exact r
theorem toB_r {x : Un} (y : Bool) (h : x.toB = .ok y) {K : PySem.W.Frag} {H : Hp} {v : V} (r : Py.rep K H v x) : Py.rep K H v y := by cases x <;> cases h; exact r
theorem toL_r {x : Un} (y : List Int) (h : x.toL = .ok y) {K : PySem.W.Frag} {H : Hp} {v : V} (r : Py.rep K H v x) : Py.rep K H v y := by cases x <;> cases h; exact r
/-- the pair's first part -/
theorem je_p1 [PyS α] {m : Md} {x : Pr α β} {n : Str} {p1 pos' : Pos} {k : Nat} (i : Nat) (h : ts[i]? = some (some (asn c.X.K c.G m x))) (hp : PE c.X (.Name n p1) (tVar i)) (hs : PlainIx (.Constant (.int 0) k pos') := by intro _ _; rfl) :
    JE c ts (.Subscript (.Name n p1) (.Constant (.int 0) k pos') pos) (.ok x.a) (Vl c) :=
  PE.imp (pe_ix ix_tup hp pe_int hs) fun σ H Q ⟨us, vs, E, q⟩ => by
    obtain ⟨w, P, F, F1, e, pp, el, qA⟩ := E.slot h
    obtain ⟨a, v1, v2, ew, hp, r1, r2⟩ := asn_rep pp.le E.ground qA
    subst ew
    exact ⟨_, e, a, _, 0, v1, rfl, rfl, SqT.of hp, rfl, q v1 H (Env.pushS (es := []) (ws := []) (K := c.X.K) (H0 := H) E rfl r1)⟩
/-- x[1].append(e), the pair's second part an owned list -/
theorem js_appP {x : Pr α Un} {n : Str} {p1 p2 p3 p4 pos' : Pos} {kk : Nat} {m : Out Int} {k : Pr α Un → Out ω} (i : Nat) (h : ts[i]? = some (some (asn c.X.K c.G .own x))) (hn : PE c.X (.Name n p1) (tVar i)) (he : JE c ts e m (Vl c))
    (hp : ∀ {to : TE} {t : TA}, PE c.X (.Subscript (.Name n p1) (.Constant (.int 1) kk p3) p4) to → PA c.X [e] t → PE c.X (.Call (.Attribute (.Subscript (.Name n p1) (.Constant (.int 1) kk p3) p4) "append" p2) [e] [] pos') (tBM c.X.K "list" rAppend to t)) (hk : ∀ x', JS c (ts.set i (some (asn c.X.K c.G .own x'))) rest (k x') post)
    (hs : swapsWith (.Call (.Attribute (.Subscript (.Name n p1) (.Constant (.int 1) kk p3) p4) "append" p2) [e] [] pos') none pos.line c.X.env = pure false := by rfl) (hst : starEach [e] c.X.env = (false, eval e c.X.env) :: starEach [] c.X.env := by rfl) (hs2 : PlainIx (.Constant (.int 1) kk p3) := by intro _ _; rfl) :
    JS c ts (.Expr (.Call (.Attribute (.Subscript (.Name n p1) (.Constant (.int 1) kk p3) p4) "append" p2) [e] [] pos') pos :: rest) (x.b.toL.bind fun xs => m.bind fun y => (appL xs y).bind fun xs' => k ⟨x.a, .l xs'⟩) post :=
  PSs.imp (pss_cons (ps_expr (hp (je_p2 i (.inr rfl) h hn hs2) (pa_cons he pa_nil hst)) hs) (PSs.ex hk)) fun D σ H ⟨us, vs, E, q⟩ => by
    obtain ⟨x1, x2⟩ := x
    obtain ⟨xs, e1, q⟩ := wp_ok (Out.wp_bind q) (toL_b x2)
    cases x2 with
    | l xs2 =>
      cases e1
      refine ⟨us.map .as, vs, E, fun v H1 E1 => ⟨?_, ?_⟩⟩
      · obtain ⟨F1, F2, E0⟩ := id E1
        obtain ⟨G1, G2, e, h1, _⟩ := E0.sk
        obtain ⟨l, zs, ev, hl, _⟩ := rdP i h E0.part E0.g E0.sl h1
        subst ev
        exact .inl ⟨rfl, _, SqL.of hl⟩
      · refine ⟨_, _, E1, Out.wp_mono (Out.wp_bind q) (fun y _ q w H2 E2 => ?_) fun _ _ z d H' h1 h2 => z σ d H' h1 (EnvX.pop (es := [.p2 i]) (ws := [v]) h2 rfl)⟩
        obtain ⟨hlen, q⟩ := wp_chk (Out.wp_bind (m := appL xs y) q)
        obtain ⟨u, l, P, F1, FB, e0, qA, pp, sl, sk, put⟩ := Env.mutG (es := [Vl c y, .p2 i]) (ws := [w, v]) (ues := us.map .as) E2 rfl h fun {P H F v} q => by
          obtain ⟨_, _, _, _, _, _, l, _, _, eF, _⟩ := q
          exact ⟨l, eF⟩
        obtain ⟨a, v1, v2, eu, hP, r1, l', zs, ev2, eF, hH, rz⟩ := qA
        cases eF
        obtain ⟨G1, G2, eG, k1, k2⟩ := StkL.two sk
        obtain ⟨_, a', u', e1', hP'⟩ := k2
        rw [e0, eu] at e1'
        cases e1'
        rw [hP] at hP'
        cases hP'
        subst ev2
        have ew : w = .int y := k1.2
        subst ew
        refine ⟨l, zs, .int y, rfl, rfl, hH, by rw [Pd.len rz, sizeLine_eq]; exact hlen, _, us, vs, put _ (asn c.X.K c.G .own (Pr.mk x1 (Un.l (xs ++ [y])))) rfl fun P' s' f => ?_, q⟩
        exact ⟨a, v1, .ref l, eu, s' _ _ hP, Py.mono s' r1, l, zs ++ [.int y], rfl, rfl, upd_same, Pd.append (Reps.mono s' rz) (.cons rfl .nil)⟩
    | i _ => cases e1
    | b _ => cases e1
    | s _ => cases e1
    | non => cases e1
/-- max(a, b), min(a, b) -/
theorem je_max2 {m1 m2 : Out Int} {p : Pos} (hc : c.X.calm = true) (hm : c.X.mg "max" = none) (ha : JE c ts a m1 (Vl c)) (hb : JE c ts b m2 (Vl c)) (hg : Gl c.X "max" := by rfl) (h1 : starEach [a, b] c.X.env = (false, eval a c.X.env) :: starEach [b] c.X.env := by rfl) (h2 : starEach [b] c.X.env = (false, eval b c.X.env) :: starEach [] c.X.env := by rfl)
    (hpl : (backTo pos (starEach [b] c.X.env)).any (·.1) = false := by rfl) : JE c ts (.Call (.Name "max" p) [a, b] [] pos) (m1.bind fun i => m2.bind fun j => .ok (if j > i then j else i)) (Vl c) :=
  je_two (t := fun ta tb => fun σ H Q => ta σ H fun x H1 => tb σ H1 fun y H2 => ∃ i j, [x, y] = [.int i, .int j] ∧ Q (.int (if j > i then j else i)) H2) (r := fun x y H Q => ∃ i j, [x, y] = [.int i, .int j] ∧ Q (.int (if j > i then j else i)) H)
    (fun k1 k2 => pe_callB (call_max2 hc) hg hm (by decide +kernel) (pa_cons k1 (pa_cons k2 pa_nil h2) h1) (by decide) (by decide) h1 hpl) ha hb (fun h => h) fun {us σ vs H2 i j x y Q} E q => by
    obtain ⟨e1, e2⟩ := E.ints
    subst e1 e2
    exact ⟨i, j, rfl, q _ H2 (Env.pushS (es := [_, _]) (ws := [_, _]) (K := c.X.K) (H0 := H2) E rfl rfl)⟩
theorem je_min2 {m1 m2 : Out Int} {p : Pos} (hc : c.X.calm = true) (hm : c.X.mg "min" = none) (ha : JE c ts a m1 (Vl c)) (hb : JE c ts b m2 (Vl c)) (hg : Gl c.X "min" := by rfl) (h1 : starEach [a, b] c.X.env = (false, eval a c.X.env) :: starEach [b] c.X.env := by rfl) (h2 : starEach [b] c.X.env = (false, eval b c.X.env) :: starEach [] c.X.env := by rfl)
    (hpl : (backTo pos (starEach [b] c.X.env)).any (·.1) = false := by rfl) : JE c ts (.Call (.Name "min" p) [a, b] [] pos) (m1.bind fun i => m2.bind fun j => .ok (if j < i then j else i)) (Vl c) :=
  je_two (t := fun ta tb => fun σ H Q => ta σ H fun x H1 => tb σ H1 fun y H2 => ∃ i j, [x, y] = [.int i, .int j] ∧ Q (.int (if j < i then j else i)) H2) (r := fun x y H Q => ∃ i j, [x, y] = [.int i, .int j] ∧ Q (.int (if j < i then j else i)) H)
    (fun k1 k2 => pe_callB (call_min2 hc) hg hm (by decide +kernel) (pa_cons k1 (pa_cons k2 pa_nil h2) h1) (by decide) (by decide) h1 hpl) ha hb (fun h => h) fun {us σ vs H2 i j x y Q} E q => by
    obtain ⟨e1, e2⟩ := E.ints
    subst e1 e2
    exact ⟨i, j, rfl, q _ H2 (Env.pushS (es := [_, _]) (ws := [_, _]) (K := c.X.K) (H0 := H2) E rfl rfl)⟩
end
end Mw
set_option maxRecDepth 100000
set_option maxHeartbeats 4000000
namespace Mw
open PySem PySem.Spec PyProof.Rows L2
section
variable {c : Cw} {ts : List (Option Asn)} {us es ues : List Ent} {σ : Sl} {vs ws : List V} {H H' : Hp} {α β γ ω S ρ : Type} [Py α] [Py β] [Py γ] {a b e tg iter elt : Expr} {st rest body : List Stmt} {pos : Pos} {post : ω → Exit}
/-- sum(xs), ints -/
theorem je_sum {mx : Out (List Int)} {A : List Int → Ent} {p : Pos} (hc : c.X.calm = true) (hm : c.X.mg "sum" = none) (rx : ∀ xs, Rd c ts (A xs) xs) (ha : JE c ts a mx A) (hg : Gl c.X "sum" := by rfl) (he : starEach [a] c.X.env = (false, eval a c.X.env) :: starEach [] c.X.env := by rfl) (hpl : (backTo pos (starEach [] c.X.env)).any (·.1) = false := by rfl) :
    JE c ts (.Call (.Name "sum" p) [a] [] pos) (mx.bind fun xs => .ok xs.sum) (Vl c) :=
  je_one1 (t := fun ta => fun σ H Q => ta σ H fun y H1 => rSum c.X.K [y] H1 Q) (r := fun y H1 Q => rSum c.X.K [y] H1 Q)
    (fun h => call1 (cr_sum hc) hg hm (by decide +kernel) (by decide) (by decide) he hpl h) ha (fun h => h) fun {us σ vs H2 xs x Q} E q => by
    obtain ⟨p, zs, ex, hp, rp⟩ := E.rd1 (rx xs)
    subst ex
    have ez := Pd.map_ints rp
    subst ez
    exact ⟨p, xs, rfl, SqL.of hp, q _ H2 (Env.pushS (es := [_]) (ws := [_]) (K := c.X.K) (H0 := H2) E rfl rfl)⟩
/-- a pair that stays -/
theorem je_prV {es : List Expr} {m : Out (α × β × Unit)} {As : α × β × Unit → List Ent} {A : α → Ent} {B : β → Ent} {k : Nat} (ha : JA c ts es m As) (hAs : ∀ p, As p = [A p.1, B p.2.1]) (fA : ∀ x, Fz c (A x) x) (fB : ∀ x, Fz c (B x) x) :
    JE c ts (.Tuple es k pos) (m.bind fun x => .ok (Pr.mk x.1 x.2.1)) (Vl c) :=
  je_tup ha (fun x => Pr.mk x.1 x.2.1) (fun x {P P' H σ F ws p} h s f hp => by
    rw [hAs] at h
    obtain ⟨v1, v2, F1, F2, e, eF, h1, h2⟩ := stk2 h
    subst e eF
    exact ⟨p, v1, v2, rfl, hp, fA _ h1 s fun a ha => f a (List.mem_append_left _ ha), fB _ h2 s fun a ha => f a (List.mem_append_right _ ha)⟩) fun x => by
    rw [hAs]
    exact Nat.le_of_ble_eq_true rfl
/-- an int or None -/
theorem je_some {m : Out Int} (h : JE c ts e m (Vl c)) : JE c ts e (m.bind fun x => .ok (some x)) (Vl c) := je_mp (fun x y e => by
  cases e
  intro P H F v h
  refine ⟨h.1, h.2, ?_⟩
  rw [show v = .int x from h.2]
  exact fun z => by cases z) (fun x => .inr ⟨_, rfl⟩) h
def Un.ofO : Option Int → Un
  | none => .non
  | some x => .i x
theorem je_upN {m : Out (Option Int)} (h : JE c ts e m (Vl c)) : JE c ts e (m.bind fun x => .ok (Un.ofO x)) (Vl c) := je_mp (fun x y e => by
  cases e
  intro P H F v h
  refine ⟨h.1, ?_⟩
  cases x with
  | none => exact h.2
  | some x => exact h.2.1) (fun x => .inr ⟨_, rfl⟩) h
theorem je_upNO {m : Out (Option Int)} (h : JE c ts e m (Vl c)) : JE c ts e (m.bind fun x => .ok (Un.ofO x)) (Ow c) := je_mp (fun x y e => by
  cases e
  intro P H F v h
  cases x with
  | none => exact ⟨h.1, h.2⟩
  | some x => exact ⟨h.1, h.2.1⟩) (fun x => .inr ⟨_, rfl⟩) h
/-- xs[::-1] -/
theorem je_rev {mx : Out (List α)} {A : List α → Ent} {k : Nat} {p1 p2 p3 : Pos} (rA : ∀ xs, RdE c ts (A xs) xs) (ha : JE c ts a mx A) : JE c ts (.Subscript a (.Slice none none (some (.UnaryOp .USub (.Constant (.int 1) k p1) p2)) p3) pos) (mx.bind fun xs => .ok xs.reverse) (Ow c) :=
  je_one1 (t := tRevL c.X.K) (r := fun x H1 Q => ∃ a xs, x = .ref a ∧ SqL c.X.K H1 a xs ∧ ∀ p, H1 p = none → Q (.ref p) (upd H1 p (.lst xs.reverse))) (fun h => pe_revL h) ha (fun h => h) fun {us σ vs H2 xs x Q} E q => by
    obtain ⟨F1, FB, F2, E, k, h2⟩ := Env.open (es := [_]) (ws := [_]) E rfl
    obtain ⟨p, zs, ex, hp, rp⟩ := rA xs E.part E.g E.sl (StkL.one k)
    exact ⟨p, zs, ex, SqL.of hp, fun n hn => q _ _ (E.pushN h2 hn fun P' s' _ => Pd.reverse (rp.mono s'))⟩
end
end Mw
set_option maxRecDepth 100000
set_option maxHeartbeats 4000000
namespace Mw
open PySem PySem.Spec PyProof.Rows L2
/-- C(), C an own error class without an __init__ of its own -/
theorem pmk_own0 {X : Cx} {C : Addr} {bmB : List Value} {B newId initId : String} {x : Str} {p pos : Pos} (F : ExcBaseFacts B newId initId bmB) (q : PySem.W.excIn X.K C bmB newId = true) (gC : X.mg x = some (.ref C)) (kC : PySem.W.keepIn X.K (.ref C) = true) (r : Raises X (.ref C)) (hg : Gl X x) (hdb : (x == ("__debug__" : Str)) = false := by decide) :
    L2N.PMk X (.Call (.Name x p) [] [] pos) (fun _ H Q => Q (.ref C) none H) := by
  intro pins s σ H Q I h
  refine wpAny_Call_Name_kw (ld_glob I hg gC ?_ hdb)
  refine PySem.W.callWith_K0 I.kIn kC ?_
  show wpAny _ _ (call (.ref C) []) _ _ _
  obtain ⟨bm, N, nm, qn, bs, hdct, sn, sub, ab, col, dd, k0, k1, k2, k3, k5, mN, hC, hN, hni, T⟩ := exc_obj I.kIn q
  refine wpAny_call_exc_subT F T hC hN hni (fun h' e hm => ?_) (Nat.zero_le _)
  exact L2N.mk_of I hm r h (I.hok.gone hm.new)
section
variable {c : Cw} {ts : List (Option Asn)} {α β γ ω S ρ : Type} [Py α] [Py β] [Py γ] {a b e tg iter elt : Expr} {st rest body : List Stmt} {pos : Pos} {post : ω → Exit}
/-- raise C(), C without fields -/
theorem js_raise0 {kd : EK} {x : Str} {bmB : List Value} {B newId initId : String} {p pos2 : Pos} (hcalm : c.X.calm = true) (tk : L2N.Takes c.X c.W) (F : ExcBaseFacts B newId initId bmB) (q : PySem.W.excIn c.X.K (c.eg kd) bmB newId = true) (kC : PySem.W.keepIn c.X.K (.ref (c.eg kd)) = true) (r : Raises c.X (.ref (c.eg kd)))
    (hm : c.X.mg x = some (.ref (c.eg kd))) (hw : WkX c ts) (hg : Gl c.X x := by rfl) (hdb : (x == ("__debug__" : Str)) = false := by decide) : JS c ts (.Raise (some (.Call (.Name x p) [] [] pos)) none pos2 :: rest) (.err ⟨kd, none⟩ : Out ω) post :=
  PSs.imp (pss_cons (u := tNever) (L2N.ps_raise hcalm tk (pmk_own0 F q hm kC r hg hdb)) pss_never) fun D σ H ⟨us, vs, E, q⟩ => by
    have q' : ExS c us vs ⟨kd, none⟩ := q
    exact q' σ none H rfl (hw.go E)
/-- a name of the module, an int -/
theorem je_gint {n : Str} {i : Int} (h : ∃ t, c.X.mg n = some (.int i t)) (hg : Gl c.X n := by rfl) (hdb : (n == ("__debug__" : Str)) = false := by decide) : JE c ts (.Name n pos) (.ok i) (Vl c) := by
  obtain ⟨t, h⟩ := h
  exact je_k (v := .int i) (pe_glob hg h ⟨t, rfl⟩ hdb) fun _ _ => rfl
end
end Mw
set_option maxRecDepth 100000
set_option maxHeartbeats 4000000
namespace Mw
open PySem PySem.Spec PyProof.Rows L2
theorem TyX.tupT {K : PySem.W.Frag} {H : Hp} {a : Addr} {vs : List V} (h : SqT K H a vs) : TyX K H (.ref a) (.type "tuple") := by
  rcases h with (h | ⟨o, h⟩) | ⟨o, its, n, h1, h2, _⟩
  · exact .base (.tup h)
  · exact .fTuple h
  · exact .kTuple h1 h2
instance {α β : Type} [Py α] [Py β] : PyT (α × β) := ⟨fun _ => "tuple", fun ⟨a, v1, v2, e, h, _⟩ => by
  subst e
  exact TyX.tupT h⟩
instance {α β γ : Type} [Py α] [Py β] [Py γ] : PyT (T3 α β γ) := ⟨fun _ => "tuple", fun ⟨a, v1, v2, v3, e, h, _⟩ => by
  subst e
  exact TyX.tupT h⟩
instance {α : Type} [Py α] : PyT (Tup α) := ⟨fun _ => "tuple", fun ⟨a, vs, e, h, _⟩ => by
  subst e
  exact TyX.tupT h⟩
section
variable {c : Cw} {ts : List (Option Asn)} {us : List Asn} {σ : Sl} {vs : List V} {H : Hp} {α β γ ω S ρ : Type} [Py α] [Py β] [Py γ] {a b e tg iter elt : Expr} {st rest body : List Stmt} {pos : Pos} {post : ω → Exit}
/-- three members into three names -/
theorem tgt_3 (i j k : Nat) : Tgt c (max i (max j k) + 1) (gTup c.X.K 3 (gCons (gName i) (gCons (gName j) (gCons (gName k) gNil)))) (fun x : T3 α β γ => asn c.X.K c.G .val x)
    (fun x ts => ((ts.set i (some (asn c.X.K c.G .val x.a))).set j (some (asn c.X.K c.G .val x.b))).set k (some (asn c.X.K c.G .val x.c))) := fun {x ts us σ y vs H Q} hl E q => by
  obtain ⟨F1, F2, E0⟩ := E
  obtain ⟨G1, G2, eG, kk, _⟩ := E0.sk
  obtain ⟨p, v1, v2, v3, ey, hp, r1, r2, r3⟩ := kk.2
  subst ey
  refine ⟨p, _, rfl, Same.seqT hide_le hp, rfl, v1, _, rfl, v2, _, rfl, v3, _, rfl, rfl, q _ _ ?_⟩
  have s3 : Env c ts ((asn c.X.K c.G .val x.a :: asn c.X.K c.G .val x.b :: asn c.X.K c.G .val x.c :: asn c.X.K c.G .val x :: us).map .as) σ (v1 :: v2 :: v3 :: .ref p :: vs) H := ⟨F1, F2, ((E0.addVF r3).addVF r2).addVF r1⟩
  have s4 := s3.store (i := i) (by have := Nat.le_max_left i (max j k); omega)
  have s5 := s4.store (i := j) (by rw [List.length_set]; have := Nat.le_max_right i (max j k); have := Nat.le_max_left j k; omega)
  have s6 := s5.store (i := k) (by rw [List.length_set, List.length_set]; have := Nat.le_max_right i (max j k); have := Nat.le_max_right j k; omega)
  exact Env.pop (es := [_]) (ws := [_]) s6 rfl
/-- the slots, told -/
theorem js_at {ts : List (Option Asn)} {st : List Stmt} {m : Out ω} (h : JS c ts st m post) : JS c ts st m post := h
theorem tgt_map {n : Nat} {g : TG} {El : α → Asn} {up : α → List (Option Asn) → List (Option Asn)} (f : β → α) (h : Tgt c n g El up) : Tgt c n g (fun r => El (f r)) (fun r => up (f r)) := fun {x ts us σ y vs H Q} hl E q => h (x := f x) hl E q
theorem tgt_pairP {δ : Type} (i j : Nat) : Tgt c (max i j + 1) (gTup c.X.K 2 (gCons (gName i) (gCons (gName j) gNil))) (fun r : (α × β) × δ => asn c.X.K c.G .val r.1) (fun r ts => (ts.set i (some (asn c.X.K c.G .val r.1.1))).set j (some (asn c.X.K c.G .val r.1.2))) :=
  @fun x ts us σ y vs H Q hl E q => @tgt_pair _ _ _ _ _ i j x.1 ts us σ y vs H Q hl E q
def T3.tup (x : T3 α α α) : Tup α := ⟨[x.a, x.b, x.c]⟩
theorem je_t3tup {m : Out (T3 α α α)} (h : JE c ts e m (Vl c)) : JE c ts e (m.bind fun x => .ok x.tup) (Vl c) := je_mp (fun x y e => by
  cases e
  intro P H F v ⟨h1, a, v1, v2, v3, ev, hs, r1, r2, r3⟩
  exact ⟨h1, a, [v1, v2, v3], ev, hs, .cons r1 (.cons r2 (.cons r3 .nil))⟩) (fun x => .inr ⟨_, rfl⟩) h
/-- a tuple's member at a written place, where it is known -/
theorem je_itemP {τ : Type} [Py τ] {mx : Out τ} {i : Int} {n : Nat} {pos' : Pos} {f : τ → Out α} (hf : ∀ (x : τ) (y : α), f x = .ok y → ∀ {K : PySem.W.Frag} {H : Hp} {v : V}, Py.rep K H v x → ∃ a vs v1, v = .ref a ∧ SqT K H a vs ∧ atI vs i = some v1 ∧ Py.rep K H v1 y) (hb : ∀ x, f x = .bad ∨ ∃ y, f x = .ok y)
    (ha : JE c ts a mx (Vl c)) (hs : PlainIx (.Constant (.int i) n pos') := by intro _ _; rfl) : JE c ts (.Subscript a (.Constant (.int i) n pos') pos) (mx.bind fun x => (Out.ok i).bind fun _ => f x) (Vl c) :=
  PE.imp (pe_ix ix_tup ha je_int hs) (two_imp (B := fun _ => Vl c i) fun {us σ vs H2 xs j x y Q} E q => by
    obtain ⟨z, hz, q⟩ := wp_ok q (hb xs)
    obtain ⟨F1, FB, F2, E, k, h2⟩ := Env.open (es := [_, _]) (ws := [_, _]) E rfl
    obtain ⟨_, _, _, k1, k2⟩ := StkL.two k
    obtain ⟨p, zs, v1, ex, hp, hx, rv⟩ := hf xs z hz k2.2
    exact ⟨p, zs, i, v1, ex, k1.2, Same.seqT hide_le hp, hx, q v1 H2 (E.pushV h2 (Same.refl _) fun P' s' _ _ => Py.mono s' rv)⟩)
end
/-! ### what a law's own try tells: a word, and perhaps an int, a list of ints, or a list of triples -/
inductive Vv where
  | i (x : Int)
  | l (xs : List Int)
  | t (xs : List (T3 Int Int Int))
  | p (xs : List (Int × Int))
instance : Py Vv := Py.flat (fun K H v x => match x with
  | .i x => Py.rep K H v x
  | .l x => Py.rep K H v x
  | .t x => Py.rep K H v x
  | .p x => Py.rep K H v x) (fun {K H H' v x} s h => by
    cases x with
    | i x => exact h
    | l x => exact Py.mono (α := List Int) s h
    | t x => exact Py.mono (α := List (T3 Int Int Int)) s h
    | p x => exact Py.mono (α := List (Int × Int)) s h)
structure Vt where
  s : Str
  v : Option Vv
instance : Py Vt := Py.flat (fun K H v x => ∃ a v1, v = .ref a ∧ Py.rep K H v1 x.s ∧ match x.v with
  | none => SqT K H a [v1]
  | some w => ∃ v2, SqT K H a [v1, v2] ∧ Py.rep K H v2 w) (fun {K H H' v x} s h => by
    obtain ⟨a, v1, e, r, h⟩ := h
    refine ⟨a, v1, e, r, ?_⟩
    cases hx : x.v with
    | none =>
      simp only [hx] at h ⊢
      exact Same.seqT s h
    | some w =>
      simp only [hx] at h ⊢
      obtain ⟨v2, h, r2⟩ := h
      exact ⟨v2, Same.seqT s h, Py.mono s r2⟩)
theorem k_vt {K : PySem.W.Frag} {H : Hp} {v : V} {x : Vt} (h : Py.rep K H v x) : ∃ a vs v1, v = .ref a ∧ SqT K H a vs ∧ atI vs 0 = some v1 ∧ Py.rep K H v1 x.s := by
  obtain ⟨a, v1, e, r, h⟩ := h
  cases hx : x.v with
  | none =>
    simp only [hx] at h
    exact ⟨a, _, v1, e, h, rfl, r⟩
  | some w =>
    simp only [hx] at h
    obtain ⟨v2, h, r2⟩ := h
    exact ⟨a, _, v1, e, h, rfl, r⟩
def Vt.toI (x : Vt) : Out Int := match x.v with
  | some (.i y) => .ok y
  | _ => .bad
def Vt.toL (x : Vt) : Out (List Int) := match x.v with
  | some (.l y) => .ok y
  | _ => .bad
def Vt.toT (x : Vt) : Out (List (T3 Int Int Int)) := match x.v with
  | some (.t y) => .ok y
  | _ => .bad
def Vt.toP (x : Vt) : Out (List (Int × Int)) := match x.v with
  | some (.p y) => .ok y
  | _ => .bad
theorem vt_P (x : Vt) (y : List (Int × Int)) (e : x.toP = .ok y) {K : PySem.W.Frag} {H : Hp} {v : V} (h : Py.rep K H v x) : ∃ a vs v1, v = .ref a ∧ SqT K H a vs ∧ atI vs 1 = some v1 ∧ Py.rep K H v1 y := by
  obtain ⟨a, v1, ev, r, h⟩ := h
  obtain ⟨s, w⟩ := x
  cases w with
  | none => cases e
  | some w =>
    cases w <;> cases e
    obtain ⟨v2, h, r2⟩ := h
    exact ⟨a, _, v2, ev, h, rfl, r2⟩
theorem vt_bP (x : Vt) : x.toP = .bad ∨ ∃ y, x.toP = .ok y := by
  obtain ⟨s, w⟩ := x
  rcases w with _ | (_ | _ | _ | _) <;> first | exact .inl rfl | exact .inr ⟨_, rfl⟩
theorem vt_I (x : Vt) (y : Int) (e : x.toI = .ok y) {K : PySem.W.Frag} {H : Hp} {v : V} (h : Py.rep K H v x) : ∃ a vs v1, v = .ref a ∧ SqT K H a vs ∧ atI vs 1 = some v1 ∧ Py.rep K H v1 y := by
  obtain ⟨a, v1, ev, r, h⟩ := h
  obtain ⟨s, w⟩ := x
  cases w with
  | none => cases e
  | some w =>
    cases w <;> cases e
    obtain ⟨v2, h, r2⟩ := h
    exact ⟨a, _, v2, ev, h, rfl, r2⟩
theorem vt_L (x : Vt) (y : List Int) (e : x.toL = .ok y) {K : PySem.W.Frag} {H : Hp} {v : V} (h : Py.rep K H v x) : ∃ a vs v1, v = .ref a ∧ SqT K H a vs ∧ atI vs 1 = some v1 ∧ Py.rep K H v1 y := by
  obtain ⟨a, v1, ev, r, h⟩ := h
  obtain ⟨s, w⟩ := x
  cases w with
  | none => cases e
  | some w =>
    cases w <;> cases e
    obtain ⟨v2, h, r2⟩ := h
    exact ⟨a, _, v2, ev, h, rfl, r2⟩
theorem vt_T (x : Vt) (y : List (T3 Int Int Int)) (e : x.toT = .ok y) {K : PySem.W.Frag} {H : Hp} {v : V} (h : Py.rep K H v x) : ∃ a vs v1, v = .ref a ∧ SqT K H a vs ∧ atI vs 1 = some v1 ∧ Py.rep K H v1 y := by
  obtain ⟨a, v1, ev, r, h⟩ := h
  obtain ⟨s, w⟩ := x
  cases w with
  | none => cases e
  | some w =>
    cases w <;> cases e
    obtain ⟨v2, h, r2⟩ := h
    exact ⟨a, _, v2, ev, h, rfl, r2⟩
theorem vt_bI (x : Vt) : x.toI = .bad ∨ ∃ y, x.toI = .ok y := by
  obtain ⟨s, w⟩ := x
  rcases w with _ | (_ | _ | _ | _) <;> first | exact .inl rfl | exact .inr ⟨_, rfl⟩
theorem vt_bL (x : Vt) : x.toL = .bad ∨ ∃ y, x.toL = .ok y := by
  obtain ⟨s, w⟩ := x
  rcases w with _ | (_ | _ | _ | _) <;> first | exact .inl rfl | exact .inr ⟨_, rfl⟩
theorem vt_bT (x : Vt) : x.toT = .bad ∨ ∃ y, x.toT = .ok y := by
  obtain ⟨s, w⟩ := x
  rcases w with _ | (_ | _ | _ | _) <;> first | exact .inl rfl | exact .inr ⟨_, rfl⟩
section
variable {c : Cw} {ts : List (Option Asn)} {α β γ : Type} [Py α] [Py β] [Py γ] {a b e : Expr} {pos : Pos}
/-- (word,) -/
theorem je_vt1 {es : List Expr} {m : Out (Str × Unit)} {As : Str × Unit → List Ent} {k : Nat} (ha : JA c ts es m As) (hAs : ∀ p, As p = [Vl c p.1]) : JE c ts (.Tuple es k pos) (m.bind fun x => .ok (Vt.mk x.1 none)) (Vl c) :=
  je_tup ha (fun x => Vt.mk x.1 none) (fun x {P P' H σ F ws p} h s f hp => by
    rw [hAs] at h
    obtain ⟨v1, e, h1⟩ := stk1 h
    subst e
    exact ⟨p, v1, rfl, fzV h1 s f, SqT.of hp⟩) fun x => by
    rw [hAs]
    exact Nat.le_of_ble_eq_true rfl
/-- (word, value) -/
theorem je_vt2 {es : List Expr} {m : Out (Str × β × Unit)} {As : Str × β × Unit → List Ent} {B : β → Ent} {k : Nat} (g : β → Vv) (hg : ∀ (x : β) {K : PySem.W.Frag} {H : Hp} {v : V}, Py.rep K H v x → Py.rep K H v (g x)) (ha : JA c ts es m As) (hAs : ∀ p, As p = [Vl c p.1, B p.2.1]) (fB : ∀ x, Fz c (B x) x) :
    JE c ts (.Tuple es k pos) (m.bind fun x => .ok (Vt.mk x.1 (some (g x.2.1)))) (Vl c) :=
  je_tup ha (fun x => Vt.mk x.1 (some (g x.2.1))) (fun x {P P' H σ F ws p} h s f hp => by
    rw [hAs] at h
    obtain ⟨v1, v2, F1, F2, e, eF, h1, h2⟩ := stk2 h
    subst e eF
    exact ⟨p, v1, rfl, fzV h1 s fun a ha => f a (List.mem_append_left _ ha), v2, SqT.of hp, hg _ (fB _ h2 s fun a ha => f a (List.mem_append_right _ ha))⟩) fun x => by
    rw [hAs]
    exact Nat.le_of_ble_eq_true rfl
def Vt.tail (x : Vt) (lo hi : Option Int) : Out (Tup Int) := if lo = some 1 ∧ hi = none then (match x.v with
  | none => .ok ⟨[]⟩
  | some (.i y) => .ok ⟨[y]⟩
  | _ => .bad) else .bad
/-- t[1:] -/
theorem je_vtTail {lo hi : Option Expr} {p2 : Pos} {mx : Out Vt} {ml mh : Out (Option Int)} (ha : JE c ts a mx (Vl c)) (hl : JO c ts lo ml) (hh : JO c ts hi mh) : JE c ts (.Subscript a (.Slice lo hi none p2) pos) (mx.bind fun xs => ml.bind fun l => mh.bind fun h => xs.tail l h) (Vl c) :=
  je_sliceG (f := fun xs l h => Vt.tail xs l h) sl_tup ha hl hh fun {us σ vs H2 xs x l h Q} E q => by
    unfold Vt.tail at q
    split at q
    · rename_i hc
      obtain ⟨h1, h2⟩ := hc
      subst h1 h2
      obtain ⟨F1, FB, F2, E, k, h3⟩ := Env.open (es := [_]) (ws := [_]) E rfl
      obtain ⟨_, p, v1, ev, r1, hx⟩ := StkL.one k
      obtain ⟨s, w⟩ := xs
      rcases w with _ | (y | _ | _ | _)
      · refine ⟨p, [v1], ev, Same.seqT hide_le hx, (fun z => absurd z.1 (show ¬ HT.sIx 1 0 (some 1) = 0 by decide)), fun n hn => q _ _ (E.pushV h3 (same_new hn) fun P' s' nn _ => ⟨n, [], rfl, SqT.of (nn n _ (.inl hn) upd_same), .nil⟩)⟩
      · obtain ⟨v2, hx, r2⟩ := hx
        refine ⟨p, [v1, v2], ev, Same.seqT hide_le hx, (fun z => absurd z.1 (show ¬ HT.sIx 2 0 (some 1) = 0 by decide)), fun n hn => q _ _ (E.pushV h3 (same_new hn) fun P' s' nn _ => ⟨n, [v2], rfl, SqT.of (nn n _ (.inl hn) upd_same), .cons (show v2 = V.int y from r2) .nil⟩)⟩
      · exact q.elim
      · exact q.elim
      · exact q.elim
    · exact q.elim
/-- len(t) -/
def Vt.len (x : Vt) : Int := match x.v with
  | none => 1
  | some _ => 2
theorem je_lenVt {mx : Out Vt} {p : Pos} (hm : c.X.mg "len" = none) (ha : JE c ts a mx (Vl c)) (hg : Gl c.X "len" := by rfl) (he : starEach [a] c.X.env = (false, eval a c.X.env) :: starEach [] c.X.env := by rfl) (hpl : (backTo pos (starEach [] c.X.env)).any (·.1) = false := by rfl) :
    JE c ts (.Call (.Name "len" p) [a] [] pos) (mx.bind fun xs => .ok xs.len) (Vl c) :=
  je_one1 (t := fun ta => fun σ H Q => ta σ H fun y H1 => (fun xs H Q => ∃ p ys, xs = [V.ref p] ∧ (SqL c.X.K H p ys ∨ SqT c.X.K H p ys) ∧ Q (.int ys.length) H) [y] H1 Q) (r := fun y H1 Q => ∃ p ys, [y] = [V.ref p] ∧ (SqL c.X.K H1 p ys ∨ SqT c.X.K H1 p ys) ∧ Q (.int ys.length) H1)
    (fun h => call1 call_len_seq hg hm PySem.boot_len (by decide) (by decide) he hpl h) ha (fun h => h) fun {us σ vs H2 xs x Q} E q => by
    obtain ⟨p, v1, ev, r1, hx⟩ := E.rd1 rdV
    subst ev
    obtain ⟨s, w⟩ := xs
    cases w with
    | none => exact ⟨p, [v1], rfl, .inr hx, q _ H2 (Env.pushS (es := [_]) (ws := [_]) (K := c.X.K) (H0 := H2) E rfl rfl)⟩
    | some w =>
      obtain ⟨v2, hx, r2⟩ := hx
      exact ⟨p, [v1, v2], rfl, .inr hx, q _ H2 (Env.pushS (es := [_]) (ws := [_]) (K := c.X.K) (H0 := H2) E rfl rfl)⟩
/-- slot i as a value of another type -/
theorem je_slP {m : Md} {x : α} {f : α → Out β} {n : Str} (i : Nat) (h : ts[i]? = some (some (asn c.X.K c.G m x))) (hb : f x = .bad ∨ ∃ y, f x = .ok y) (hp : PE c.X (.Name n pos) (tVar i)) : JE c ts (.Name n pos) (f x) (fun y => cndE (f x = .ok y) (.al i)) :=
  PE.imp (je_al i h hp) fun σ H Q ⟨us, vs, E, q⟩ => by
    obtain ⟨y, e, q⟩ := wp_ok q hb
    refine ⟨us, vs, E, fun v H' E' => q v H' ?_⟩
    show Env c ts (cndE (f x = .ok y) (.al i) :: us) σ (v :: vs) H'
    rw [cndE_pos e]
    exact E'
theorem rdSP {m : Md} {x : α} {f : α → Out β} (i : Nat) (h : ts[i]? = some (some (asn c.X.K c.G m x))) (hf : ∀ y, f x = .ok y → ∀ {K : PySem.W.Frag} {H : Hp} {v : V}, Py.rep K H v x → Py.rep K H v y) : ∀ y, Rd c ts (cndE (f x = .ok y) (.al i)) y := fun y => rdCnd fun e {P H σ F F1 v} pp g E k => hf y e (rdL i h pp g E k)
end
/-- a list of ints, or of triples -/
inductive Hd where
  | l (xs : List Int)
  | t (xs : List (T3 Int Int Int))
  | p (xs : List (Int × Int))
instance : Py Hd := Py.flat (fun K H v x => match x with
  | .l x => Py.rep K H v x
  | .t x => Py.rep K H v x
  | .p x => Py.rep K H v x) (fun {K H H' v x} s h => by
    cases x with
    | l x => exact Py.mono (α := List Int) s h
    | t x => exact Py.mono (α := List (T3 Int Int Int)) s h
    | p x => exact Py.mono (α := List (Int × Int)) s h)
def Hd.toL : Hd → Out (List Int)
  | .l x => .ok x
  | _ => .bad
def Hd.toT : Hd → Out (List (T3 Int Int Int))
  | .t x => .ok x
  | _ => .bad
theorem hd_bL (x : Hd) : x.toL = .bad ∨ ∃ y, x.toL = .ok y := by cases x <;> first | exact .inl rfl | exact .inr ⟨_, rfl⟩
theorem hd_bT (x : Hd) : x.toT = .bad ∨ ∃ y, x.toT = .ok y := by cases x <;> first | exact .inl rfl | exact .inr ⟨_, rfl⟩
theorem hd_rL {x : Hd} (y : List Int) (h : x.toL = .ok y) {K : PySem.W.Frag} {H : Hp} {v : V} (r : Py.rep K H v x) : Py.rep K H v y := by cases x <;> cases h; exact r
theorem hd_rT {x : Hd} (y : List (T3 Int Int Int)) (h : x.toT = .ok y) {K : PySem.W.Frag} {H : Hp} {v : V} (r : Py.rep K H v x) : Py.rep K H v y := by cases x <;> cases h; exact r
end Mw
set_option maxRecDepth 100000
set_option maxHeartbeats 4000000
namespace Mw
open PySem PySem.Spec PyProof.Rows L2

/-! ### instances that stay as they were made -/
/-- a row of fields -/
class PyF (τ : Type) where
  as : PySem.W.Frag → Hp → τ → List Asn
  rep : PySem.W.Frag → Hp → List V → τ → Prop
  mono : ∀ {K : PySem.W.Frag} {H H' : Hp} {vs : List V} {x : τ}, Same H H' → rep K H vs x → rep K H' vs x
  of : ∀ {K : PySem.W.Frag} {G P H : Hp} {vs : List V} {x : τ}, Paired (fun v (A : Asn) => A.p P H [] v) vs (as K G x) → rep K P vs x
class PyFI (τ : Type) [PyF τ] : Prop where
  imm : ∀ {K : PySem.W.Frag} {H : Hp} {O : List Addr} {vs : List V} {x : τ}, (∀ a ∈ O, ∀ o, H a = some o → mutO o = true) → PyF.rep K H vs x → PyF.rep K (hide O H) vs x
instance : PyF Unit := ⟨fun _ _ _ => [], fun _ _ vs _ => vs = [], fun _ h => h, fun h => by cases h; rfl⟩
instance : PyFI Unit := ⟨fun _ h => h⟩
instance {α τ : Type} [Py α] [PyF τ] : PyF (α × τ) := ⟨fun K G x => asn K G .val x.1 :: PyF.as K G x.2, fun K H vs x => ∃ v vs', vs = v :: vs' ∧ Py.rep K H v x.1 ∧ PyF.rep K H vs' x.2, fun s ⟨v, vs', e, h1, h2⟩ => ⟨v, vs', e, Py.mono s h1, PyF.mono s h2⟩, fun h => by
  cases h with
  | cons h1 h2 => exact ⟨_, _, rfl, h1.2, PyF.of h2⟩⟩
instance {α τ : Type} [Py α] [PyI α] [PyF τ] [PyFI τ] : PyFI (α × τ) := ⟨fun n ⟨v, vs', e, h1, h2⟩ => ⟨v, vs', e, PyI.imm n h1, PyFI.imm n h2⟩⟩
/-- the class that the module's name nm holds -/
def ClsAt (K : PySem.W.Frag) (nm : Str) (C : Addr) : Prop := PySem.W.nsIn K mainGlobals nm = some (some (.ref C))
theorem ClsAt.eq {K : PySem.W.Frag} {nm : Str} {C C' : Addr} (h : ClsAt K nm C) (h' : ClsAt K nm C') : C = C' := by
  unfold ClsAt at h h'
  rw [h] at h'
  cases h'
  rfl
/-- an instance of the class nm with the fields fs -/
structure Ins (nm : Str) (fs : List Str) (τ : Type) where
  v : τ
  deriving DecidableEq
instance {nm : Str} {fs : List Str} {τ : Type} [PyF τ] : Py (Ins nm fs τ) := Py.flat (fun K H v x => ∃ a C dx vs, v = .ref a ∧ ClsAt K nm C ∧ H a = some (.ins C dx (fs.zip vs)) ∧ fs.length = vs.length ∧ PyF.rep K H vs x.v)
  (fun s ⟨a, C, dx, vs, e, hC, h, l, r⟩ => ⟨a, C, dx, vs, e, hC, s _ _ h, l, PyF.mono s r⟩)
theorem map_zip {fs : List Str} : ∀ {vs : List V}, fs.length = vs.length → (fs.zip vs).map (·.1) = fs := by
  induction fs with
  | nil => intro vs _; rfl
  | cons f fs ih =>
    intro vs h
    cases vs with
    | nil => cases h
    | cons v vs =>
      show f :: (fs.zip vs).map (·.1) = _
      rw [ih (by simpa using h)]
/-- fields of instances that stay -/
class Imm (fs : List Str) : Prop where
  h : immNames.contains fs = true
instance {nm : Str} {fs : List Str} {τ : Type} [PyF τ] [PyFI τ] [i : Imm fs] : PyI (Ins nm fs τ) := ⟨fun {K H O v x} n ⟨a, C, dx, vs, e, hC, h, l, r⟩ => ⟨a, C, dx, vs, e, hC, by
  rw [hide_of fun q => ?_]
  · exact h
  · have z := n a q _ h
    have z' : (!immNames.contains ((fs.zip vs).map (·.1))) = true := z
    rw [map_zip l, i.h] at z'
    exact absurd z' (by decide), l, PyFI.imm n r⟩⟩

section
variable {c : Cw} {ts : List (Option Asn)} {us es ues : List Ent} {σ : Sl} {vs ws : List V} {H H' : Hp} {α β γ ω S ρ : Type} [Py α] [Py β] [Py ρ] {a b e o : Expr} {st rest : List Stmt} {pos : Pos} {post : ω → Exit} {nm : Str} {fs : List Str} {τ : Type} [PyF τ]
/-- e.f -/
theorem je_fld {m : Out (Ins nm fs τ)} {f : Str} {C : Addr} (get : τ → α) (hC : ClsAt c.X.K nm C) (hc : Cls c.X.K C) (na : NoAttr c.X.K C f) (hg : ∀ {K : PySem.W.Frag} {H : Hp} {vs : List V} {x : τ}, PyF.rep K H vs x → ∃ v, (fs.zip vs).lookup f = some v ∧ Py.rep K H v (get x))
    (ha : JE c ts e m (Vl c)) (hb : attributeBase e f c.X.env (eval e c.X.env) = eval e c.X.env := by rfl) : JE c ts (.Attribute e f pos) (m.bind fun x => .ok (get x.v)) (Vl c) :=
  je_one1 (t := fun ta => tFld c.X.K ta f) (r := fun x H1 Q => ∃ a C dx fs v, x = .ref a ∧ H1 a = some (.ins C dx fs) ∧ Cls c.X.K C ∧ NoAttr c.X.K C f ∧ fs.lookup f = some v ∧ Q v H1) (fun h => pe_fld h hb) ha (fun h => h) fun {us σ vs H2 xs x Q} E q => by
    obtain ⟨F1, FB, F2, E, k, h2⟩ := Env.open (es := [_]) (ws := [_]) E rfl
    obtain ⟨_, a, C', dx, vs', ex, hC', h, l, r⟩ := StkL.one k
    have eC := hC.eq hC'
    subst eC
    obtain ⟨v, hl, rv⟩ := hg r
    exact ⟨a, C, dx, _, v, ex, hide_le _ _ h, hc, na, hl, q v H2 (E.pushV h2 (Same.refl _) fun P' s' _ _ => Py.mono s' rv)⟩

/-! calls, told of any expression -/
/-- the callee's promise from what waits -/
theorem Env.call {m : γ → Out ρ} {md : Md} (hmd : md = .val ∨ md = .own) {As : List ArgP} {mf : Out ρ} {K : PySem.W.Frag} {Q : VK} (hK : K = c.X.K) (E1 : Env c ts (es ++ us) σ (ws ++ vs) H) (hl : es.length = ws.length) (hp : PsL c ts es As) (hw : WkX c ts)
    (q : mf.wp (fun r => ∀ v H', Env c ts (.as (asn c.X.K c.G md r) :: us) σ (v :: vs) H' → Q v H') (Ex c us σ vs)) :
    ∃ O : List Addr, (∀ a ∈ O, MutA H a) ∧ ArgL As (hide O H) H ws ∧ mf.wp (fun r => ∀ v H', Same H H' → ResOk c.X.K md O H H' r v → Q v H') (fun e => ∀ d H', ErrAt e d H' → Same H H' → c.W (.ref (c.eg e.k)) d σ H') := by
  obtain ⟨F1, FB, F2, E1, k, h2⟩ := Env.open E1 hl
  have nd := E1.nd
  have nB : ∀ a ∈ FB, a ∉ c.Of ++ (F1 ++ F2) := fun a h z => by
    obtain ⟨n1, n2, n3⟩ := List.nodup_append.mp nd
    obtain ⟨m1, m2, m3⟩ := List.nodup_append.mp n2
    rcases List.mem_append.mp z with z | z
    · have q1 := (E1.fr a (List.mem_append_right _ (List.mem_append_left _ h))).1
      obtain ⟨o, e, _⟩ := E1.og a z
      rw [q1] at e
      cases e
    · rcases List.mem_append.mp z with z | z
      · exact n3 a z a (List.mem_append_left _ h) rfl
      · exact m3 a h a z rfl
  have sub : ∀ a, a ∈ c.Of ++ (F1 ++ F2) → a ∈ c.Of ++ (F1 ++ (FB ++ F2)) := fun a h => by
    rcases List.mem_append.mp h with h | h
    · exact List.mem_append_left _ h
    · rcases List.mem_append.mp h with h | h
      · exact List.mem_append_right _ (List.mem_append_left _ h)
      · exact List.mem_append_right _ (List.mem_append_right _ (List.mem_append_right _ h))
  have sO : Same (hide (c.Of ++ (F1 ++ (FB ++ F2))) H) (hide (c.Of ++ (F1 ++ F2)) H) := fun a o z => by
    obtain ⟨n, z⟩ := hide_some z
    rw [hide_of fun y => n (sub a y)]
    exact z
  refine ⟨c.Of ++ (F1 ++ F2), fun a ha => ?_, hp E1.part E1.g E1.sl k sO (fun a ha o e => by rw [hide_of (nB a ha)]; exact e), Out.wp_mono q (fun r _ q v H2 s r' => ?_) fun er _ q d H2 h1 s => ?_⟩
  · rcases List.mem_append.mp ha with h | h
    · obtain ⟨o, e, mo⟩ := E1.og a h
      exact ⟨o, E1.g _ _ e, mo⟩
    · exact (E1.fr a (by
        rcases List.mem_append.mp h with h | h
        · exact List.mem_append_left _ h
        · exact List.mem_append_right _ (List.mem_append_right _ h))).2
  · obtain ⟨F, g1, g2, g3, g4⟩ := r'
    refine q v H2 ⟨F1, F ++ F2, E1.top h2 s (fun a h => .inr (g1 a h)) g2 g3 fun P' s' n l => ?_⟩
    have hs : Same (hide (c.Of ++ (F1 ++ F2) ++ F) H2) P' := fun a o z => by
      obtain ⟨n', z⟩ := hide_some z
      have nF : a ∉ F := fun y => n' (List.mem_append_right _ y)
      have nO : a ∉ c.Of ++ (F1 ++ F2) := fun y => n' (List.mem_append_left _ y)
      by_cases hB : a ∈ FB
      · exact n a o (.inr hB) nF z
      · cases e : H a with
        | none => exact n a o (.inl e) nF z
        | some u =>
          have z' := s _ _ e
          rw [z] at z'
          cases z'
          refine s' a o ?_
          rw [hide_of fun y => ?_]
          · exact e
          · rcases List.mem_append.mp y with y | y
            · exact nO (List.mem_append_left _ y)
            · rcases List.mem_append.mp y with y | y
              · exact nO (List.mem_append_right _ (List.mem_append_left _ y))
              · rcases List.mem_append.mp y with y | y
                · exact hB y
                · exact nO (List.mem_append_right _ (List.mem_append_right _ y))
    have e : asn c.X.K H md r = asn c.X.K c.G md r := by rcases hmd with e | e <;> subst e <;> rfl
    rw [e] at g4
    exact (asn c.X.K c.G md r).st hs (fun _ _ _ z => z) g4
  · exact q d H2 h1 (hw.go (Env.pop (Env.same ⟨F1, FB ++ F2, E1⟩ s) hl))

/-! o.m(..) -/
theorem lookup_none {f : Str} : ∀ {fs : List Str} (vs : List V), fs.contains f = false → (fs.zip vs).lookup f = none
  | [], _, _ => rfl
  | _ :: _, [], _ => rfl
  | g :: fs, v :: vs, h => by
    rw [List.contains_cons, Bool.or_eq_false_iff] at h
    show List.lookup f ((g, v) :: fs.zip vs) = none
    rw [List.lookup_cons, h.1]
    exact lookup_none vs h.2
def tMethE (C : Addr) (m : Str) (sp : Sp) (E : L2.St → XK) (ta : TE) (t : TA) : TE := fun σ H Q => ta σ H fun x H1 => ∃ a dx fs, x = .ref a ∧ H1 a = some (.ins C dx fs) ∧ fs.lookup m = none ∧ t σ H1 fun vs H2 => sp (x :: vs) H2 Q (E σ)
section
variable {X : Cx} {CX : CXT} {k : Nat} {f C : Addr} {fd : FuncData} {ps : List Str} {sp : Sp} {E : L2.St → XK} {x m : Str} {p pos apos : Pos} {e o : Expr} {es : List Expr} {ta : TE} {t : TA}
theorem pe_methE {pl : Sem Bool} (he : PE X o ta) (c : Cls X.K C) (hm : Meth X.K C m f) (F : FnOk X.prog X.w X.K X.mg X.base CX k f fd ps sp) (hr : Room k X.A) (hb : Binds X.K fd ps []) (hx : ∀ σ, PassesAt CX X σ (E σ)) (ha : PA X (e :: es) t)
    (hst : starEach (e :: es) X.env = (false, eval e X.env) :: starEach es X.env := by rfl) (hpl : (backTo pos (starEach es X.env)).any (·.1) = false := by rfl)
    (ht : eval (.Call (.Attribute o m apos) (e :: es) [] pos) X.env = (do
      let ov ← eval o X.env
      standAt apos.atName
      let (f, first) ← holding [ov] (getMethod ov m pl)
      callWith pos f first (backTo pos (starEach (e :: es) X.env)) (backToKw pos (keywordEach [] X.env))) := by rfl) :
    PE X (.Call (.Attribute o m apos) (e :: es) [] pos) (tMethE C m sp E ta t) := by
  refine ⟨fun pins s σ H Q I h => ?_⟩
  refine PySem.W.methodCall_KW (pl := pl) (thn (he.run pins s σ H _ I h) fun u s1 ⟨x, H1, I1, rx, a, dx, fs, ex, ea, l, q⟩ => ?_) ht
  subst ex
  obtain rfl : u = Value.ref a := rx
  refine getmeth_ok I1 ea c hm l ?_
  refine PySem.W.callWith_K (first := [.ref a]) (h₀ := X.base) I.ok.mod.kin hm.kp (thn (ha.run pos pins s1 σ H1 _ I1 q) fun us s2 ⟨vs, H2, I2, r, q2⟩ => ⟨I2.kIn, ?_⟩) hst hpl
  exact run_fnS (us := .ref a :: us) (vs := .ref a :: vs) F hr hb (hx σ) I2 (.cons rfl r) q2
theorem pe_methE0 {pl : Sem Bool} (he : PE X o ta) (c : Cls X.K C) (hm : Meth X.K C m f) (F : FnOk X.prog X.w X.K X.mg X.base CX k f fd ps sp) (hr : Room k X.A) (hb : Binds X.K fd ps []) (hx : ∀ σ, PassesAt CX X σ (E σ))
    (ht : eval (.Call (.Attribute o m apos) [] [] pos) X.env = (do
      let ov ← eval o X.env
      standAt apos.atName
      let (f, first) ← holding [ov] (getMethod ov m pl)
      callWith pos f first (backTo pos (starEach [] X.env)) (backToKw pos (keywordEach [] X.env))) := by rfl) :
    PE X (.Call (.Attribute o m apos) [] [] pos) (tMethE C m sp E ta tNil) := by
  refine ⟨fun pins s σ H Q I h => ?_⟩
  refine PySem.W.methodCall_KW (pl := pl) (thn (he.run pins s σ H _ I h) fun u s1 ⟨x, H1, I1, rx, a, dx, fs, ex, ea, l, q⟩ => ?_) ht
  subst ex
  obtain rfl : u = Value.ref a := rx
  refine getmeth_ok I1 ea c hm l ?_
  exact PySem.W.callWith_K0 (first := [.ref a]) I1.kIn hm.kp (run_fnS (us := [.ref a]) (vs := [.ref a]) F hr hb (hx σ) I1 (.cons rfl .nil) q)
/-- C(..) -/
def tMakeE (C : Addr) (sp : Sp) (E : L2.St → XK) (t : TA) : TE := fun σ H Q => t σ H fun vs H1 => ∀ x dx, H1 x = none → H1 dx = none → dx ≠ x →
  sp (.ref x :: vs) (upd (upd H1 dx (.own x)) x (.ins C dx [])) (fun v H2 => v = .non ∧ Q (.ref x) H2) (E σ)
theorem run_makeE {pins : List (Addr × Obj)} {σ : L2.St} {H : Hp} {s : Shared} {Q : VK} {us : List Value} {vs : List V} (M : Mk X.K C f) (F : FnOk X.prog X.w X.K X.mg X.base CX k f fd ps sp) (hr : Room (k + 1) X.A) (hb : Binds X.K fd ps [])
    (hx : ∀ σ, PassesAt CX X σ (E σ)) (I : Inv X pins σ H s) (r : Vals vs us)
    (h : ∀ x dx, H x = none → H dx = none → dx ≠ x → sp (.ref x :: vs) (upd (upd H dx (.own x)) x (.ins C dx [])) (fun v H2 => v = .non ∧ Q (.ref x) H2) (E σ)) :
    wpAny (model X.prog X.w) X.A (call (.ref C) us) (EP X pins σ Q) X.xe s := by
  have hq := h (s.heap.objs.size + 1) s.heap.objs.size (I.hok.fresh (Nat.le_succ _)) (I.hok.fresh (Nat.le_refl _)) (Nat.ne_of_lt (Nat.lt_succ_self _))
  have I2 := Inv.made (C := C) I
  have r2 : Vals (V.ref (s.heap.objs.size + 1) :: vs) (Value.ref (s.heap.objs.size + 1) :: us) := .cons rfl r
  have hl : (Value.ref (s.heap.objs.size + 1) :: us).length = ps.length := by
    have e := r2.length
    rw [F.len _ _ _ _ hq] at e
    exact e.symm
  have b := hb _ (Value.ref (s.heap.objs.size + 1) :: us) I2.kIn (by rw [List.append_nil]; exact hl)
  rw [List.append_nil] at b
  refine wpAny_call (make_map (f := f) I.kIn M.makes M.init (beq_iff_eq.mp M.fn) (codeAny_mono (F.run _ X.stack _ _ ⟨Value.ref (s.heap.objs.size + 1) :: us, []⟩ (Value.ref (s.heap.objs.size + 1) :: us) _ _ (E σ) (hr.make C us [])
    (I2.env0.make C us []) b r2 hq) fun r s' hq' => ?_))
  cases r with
  | error e => exact hx σ pins _ _ e s' I2 hq'
  | ok fl =>
    cases fl with
    | ret u =>
      obtain ⟨v, H', I3, rv, ev, q3⟩ := I2.after hq'
      subst ev
      exact ⟨rv, ⟨V.ref (s.heap.objs.size + 1), H', I3, rfl, q3⟩⟩
    | next => exact False.elim hq'
    | brk => exact False.elim hq'
    | cont => exact False.elim hq'
theorem pe_makeE (M : Mk X.K C f) (F : FnOk X.prog X.w X.K X.mg X.base CX k f fd ps sp) (hr : Room (k + 1) X.A) (hg : Gl X x) (hm : X.mg x = some (.ref C)) (hb : Binds X.K fd ps []) (hx : ∀ σ, PassesAt CX X σ (E σ))
    (ha : PA X (e :: es) t) (hdb : (x == ("__debug__" : Str)) = false := by decide) (he : starEach (e :: es) X.env = (false, eval e X.env) :: starEach es X.env := by rfl) (hpl : (backTo pos (starEach es X.env)).any (·.1) = false := by rfl) :
    PE X (.Call (.Name x p) (e :: es) [] pos) (tMakeE C sp E t) := by
  refine ⟨fun pins s σ H Q I h => ?_⟩
  refine wpAny_Call_Name_kw (ld_glob I hg hm ?_ hdb)
  refine PySem.W.callWith_K (h₀ := X.base) I.ok.mod.kin M.kp (thn (ha.run pos pins s σ H _ I h) fun us s1 ⟨vs, H1, I1, r, q⟩ => ⟨I1.kIn, ?_⟩) he hpl
  exact run_makeE M F hr hb hx I1 r q
end
/-- an operator of an own class: both are instances of the class at C -/
def tAddE (C : Addr) (sp : Sp) (E : L2.St → XK) (ta tb : TE) : TE := fun σ H Q => ta σ H fun x H1 => tb σ H1 fun y H2 => (∃ a dx fs b dy gs, x = .ref a ∧ y = .ref b ∧ H2 a = some (.ins C dx fs) ∧ H2 b = some (.ins C dy gs)) ∧ sp [x, y] H2 (fun v H' => (∃ z, v = .ref z) ∧ Q v H') (E σ)
end
end Mw
set_option maxRecDepth 100000
set_option maxHeartbeats 4000000
namespace Mw
open PySem PySem.Spec PyProof.Rows L2

/-- errors are not known -/
def nox {α : Type} : Out α → Out α
  | .err _ => .bad
  | m => m
@[simp] theorem nox_ok {α : Type} (a : α) : nox (.ok a) = .ok a := rfl
theorem wp_nox {α : Type} {m : Out α} {Q : α → Prop} {E E' : Err → Prop} (h : (nox m).wp Q E) : m.wp Q E' := by
  cases m with
  | ok a => exact h
  | err e => exact h.elim
  | bad => exact h.elim
/-- what the text says of a class -/
structure ClsI (K : PySem.W.Frag) (nm : Str) (C : Addr) : Prop where
  at_ : ClsAt K nm C
  cls : Cls K C
  ca : PySem.W.findIn K (.ref C) "__class__" = some (some (.builtin "object.__class__"))
  cn : PySem.W.specialIn K (.builtin "object.__class__") "__get__" = some (some (.builtin "getset_descriptor.__get__"))
  ct : PySem.W.takesIn K (.builtin "object.__class__") = some true
  cm : PySem.W.mroIn K C (.type "object") = some true
/-- .. with operators of its own -/
structure ClsB (K : PySem.W.Frag) (C : Addr) (nm : Str) (f : Addr) : Prop where
  at_ : PySem.W.findIn K (.ref C) nm = some (some (.ref f))
  fn : PySem.W.isFn K (.ref f) = true

section
variable {X : Cx} {CX : CXT} {k : Nat} {f C : Addr} {fd : FuncData} {ps : List Str} {sp : Sp} {E : L2.St → XK} {pos : Pos} {a b : Expr} {ta tb : TE}
theorem run2 {pins : List (Addr × Obj)} {σ : L2.St} {H : Hp} {s : Shared} {Q : VK} {x y : V} {u v : Value} (F : FnOk X.prog X.w X.K X.mg X.base CX k f fd ps sp) (hr : Room k X.A) (hb : Binds X.K fd ps []) (hx : PassesAt CX X σ (E σ)) (I : Inv X pins σ H s)
    (rx : RelV x u) (ry : RelV y v) (h : sp [x, y] H Q (E σ)) : wpAny (model X.prog X.w) X.A (call (.ref f) [u, v]) (PySem.W.CmpBack (EP X pins σ Q)) X.xe s :=
  wpAny_mono (run_fnS F hr hb hx I (.cons rx (.cons ry .nil)) h) (fun w s' z => by
    obtain ⟨z', H', I', rz, qz⟩ := z
    exact SlX.cmpback rz ⟨z', H', I', rz, qz⟩) fun _ _ x => x
def tBinE (C : Addr) (sp : Sp) (E : L2.St → XK) (ta tb : TE) : TE := fun σ H Q => ta σ H fun x H1 => tb σ H1 fun y H2 => (∃ a dx fs b dy gs, x = .ref a ∧ y = .ref b ∧ H2 a = some (.ins C dx fs) ∧ H2 b = some (.ins C dy gs)) ∧ sp [x, y] H2 Q (E σ)
theorem pe_binE {op : Operator} (hc : PySem.W.selfFirst X.K C = true) (B : ClsB X.K C (PySem.dunder op.info.2) f) (F : FnOk X.prog X.w X.K X.mg X.base CX k f fd ps sp) (hr : Room k X.A) (hb : Binds X.K fd ps []) (hx : ∀ σ, PassesAt CX X σ (E σ))
    (ha : PE X a ta) (hbb : PE X b tb) : PE X (.BinOp a op b pos) (tBinE C sp E ta tb) := by
  refine ⟨fun pins s σ H Q I h => ?_⟩
  refine wpAny_BinOp (binT ha hbb I h fun v u s2 x y H2 I2 rx ry q => ?_)
  obtain ⟨⟨a, dx, fs, b, dy, gs, ex, ey, h1, h2⟩, q⟩ := q
  subst ex ey
  obtain rfl : v = Value.ref a := rx
  obtain rfl : u = Value.ref b := ry
  obtain ⟨mA, O, _, _, _, _⟩ := ins_get I2.hok h1
  obtain ⟨od, J, _⟩ := O.look
  obtain ⟨mB, O', _, _, _, _⟩ := ins_get I2.hok h2
  obtain ⟨od', J', _⟩ := O'.look
  obtain ⟨m, hF⟩ := I2.fr
  exact PySem.W.binop_K hF I2.ok.mod.kin J J'.type hc B.at_ B.fn (run2 (x := .ref a) (y := .ref b) F hr hb (hx σ) I2 rfl rfl q)
def rEqE (C : Addr) (sp : Sp) : R2 := fun x y H Q => (∃ a dx fs b dy gs, x = .ref a ∧ y = .ref b ∧ H a = some (.ins C dx fs) ∧ H b = some (.ins C dy gs)) ∧ sp [x, y] H Q (fun _ _ _ => False)
theorem op_eqE {P : Program} {w : World} (hP : X.prog = P) (hw : X.w = w) (B : ClsB X.K C "__eq__" f) (F : FnOk X.prog X.w X.K X.mg X.base (L2N.CX P w) k f fd ps sp) (hr : Room k X.A) (hb : Binds X.K fd ps []) : OpR X (compareOp .Eq) (rEqE C sp) := by
  intro pins s σ H x y v u Q I rx ry h
  obtain ⟨⟨a, dx, fs, b, dy, gs, ex, ey, h1, h2⟩, q⟩ := h
  subst ex ey
  obtain rfl : v = Value.ref a := rx
  obtain rfl : u = Value.ref b := ry
  obtain ⟨mA, O, _, _, _, _⟩ := ins_get I.hok h1
  obtain ⟨od, J, _⟩ := O.look
  obtain ⟨mB, O', _, _, _, _⟩ := ins_get I.hok h2
  obtain ⟨od', J', _⟩ := O'.look
  obtain ⟨m, hF⟩ := I.fr
  show wpAny (model X.prog X.w) X.A (richCompare .Eq (.ref a) (.ref b)) (EP X pins σ Q) X.xe s
  refine PySem.W.cmp_K (op := .Eq) (tb := .ref C) hr.units0 hF I.ok.mod.kin J J'.type (by simp [PySem.W.notFirst]) B.at_ B.fn ?_
  exact run2 (E := fun _ _ _ _ => False) (x := .ref a) (y := .ref b) F hr hb (fun _ _ _ _ _ _ z => (noCXo z).elim) I rfl rfl q
end

section
variable {c : Cw} {ts : List (Option Asn)} {us es ues : List Ent} {σ : Sl} {vs ws : List V} {H H' : Hp} {α β γ ω S ρ : Type} [Py α] [Py β] [Py ρ] {a b e o : Expr} {st rest : List Stmt} {pos apos : Pos} {post : ω → Exit} {nm mn : Str} {fs : List Str} {τ : Type} [PyF τ] {C f : Addr} {fd : FuncData} {ps : List Str} {k : Nat} {md : Md}
theorem ins_at {P H : Hp} {v : V} {x : Ins nm fs τ} {K : PySem.W.Frag} (hC : ClsAt K nm C) (h : Py.rep K H v x) : ∃ a dx vs, v = .ref a ∧ H a = some (.ins C dx (fs.zip vs)) := by
  obtain ⟨a, C', dx, vs, e, hC', h, _, _⟩ := h
  have eC := hC.eq hC'
  subst eC
  exact ⟨a, dx, vs, e, h⟩
/-- o.m(e, ..) -/
theorem je_meth {mo : Out (Ins nm fs τ)} {m : Out γ} {Es : γ → List Ent} {As : γ → List ArgP} {AsF : Ins nm fs τ × γ → List ArgP} {mf : Ins nm fs τ × γ → Out ρ} {es : List Expr} {pl : Sem Bool}
    (hC : ClsAt c.X.K nm C) (hc : Cls c.X.K C) (hm : Meth c.X.K C mn f) (F : FnOk c.X.prog c.X.w c.X.K c.X.mg c.X.base (L2N.CX c.X.prog c.X.w) k f fd ps (spM c.X.K c.eg md mf AsF)) (hr : Room k c.X.A) (hb : Binds c.X.K fd ps []) (tk : L2N.Takes c.X c.W)
    (ho : JE c ts o mo (Vl c)) (ha : JA c ts (e :: es) m Es) (hp : ∀ x, PsL c ts (Es x) (As x)) (hA : ∀ x y, AsF (x, y) = aV c.X.K x :: As y) (hw : WkX c ts) (hmd : md = .val ∨ md = .own := by first | exact .inl rfl | exact .inr rfl) (hl : fs.contains mn = false := by decide)
    (hst : starEach (e :: es) c.X.env = (false, eval e c.X.env) :: starEach es c.X.env := by rfl) (hpl : (backTo pos (starEach es c.X.env)).any (·.1) = false := by rfl)
    (ht : eval (.Call (.Attribute o mn apos) (e :: es) [] pos) c.X.env = (do
      let ov ← eval o c.X.env
      standAt apos.atName
      let (f, first) ← holding [ov] (getMethod ov mn pl)
      callWith pos f first (backTo pos (starEach (e :: es) c.X.env)) (backToKw pos (keywordEach [] c.X.env))) := by rfl) :
    JE c ts (.Call (.Attribute o mn apos) (e :: es) [] pos) (mo.bind fun x => m.bind fun y => mf (x, y)) (fun r => .as (asn c.X.K c.G md r)) :=
  PE.imp (pe_methE (E := WE c.W) ho hc hm F hr hb (fun σ => L2N.passAt tk σ) ha hst hpl ht) fun σ H Q ⟨us, vs, E, q⟩ => by
    refine ⟨us, vs, E, Out.wp_mono (Out.wp_bind q) (fun x _ q v H1 E1 => ?_) fun _ _ z => z⟩
    obtain ⟨a, dx, vs', ev, hH⟩ := ins_at (P := H1) hC (E1.rd1 rdV)
    refine ⟨a, dx, _, ev, hH, lookup_none vs' hl, _, _, E1, Out.wp_mono (Out.wp_bind q) (fun y _ q ws H2 hlw E2 => ?_) fun er _ z d H' e1 E3 => z d H' e1 (EnvX.pop (es := [_]) (ws := [_]) E3 rfl)⟩
    have E3 : Env c ts ((Vl c x :: Es y) ++ us) σ ((v :: ws) ++ vs) H2 := Env.rot E2 hlw
    obtain ⟨O, hO, hAr, hq⟩ := Env.call (md := md) (m := fun _ : Unit => mf (x, y)) hmd rfl E3 (by simp [hlw]) (psl_cons (psV fzV) (hp y)) hw q
    exact ⟨(x, y), O, hO, by rw [hA]; exact hAr, hq⟩
theorem je_meth0 {mo : Out (Ins nm fs τ)} {AsF : Ins nm fs τ × Unit → List ArgP} {mf : Ins nm fs τ × Unit → Out ρ} {pl : Sem Bool}
    (hC : ClsAt c.X.K nm C) (hc : Cls c.X.K C) (hm : Meth c.X.K C mn f) (F : FnOk c.X.prog c.X.w c.X.K c.X.mg c.X.base (L2N.CX c.X.prog c.X.w) k f fd ps (spM c.X.K c.eg md mf AsF)) (hr : Room k c.X.A) (hb : Binds c.X.K fd ps []) (tk : L2N.Takes c.X c.W)
    (ho : JE c ts o mo (Vl c)) (hA : ∀ x y, AsF (x, y) = [aV c.X.K x]) (hw : WkX c ts) (hmd : md = .val ∨ md = .own := by first | exact .inl rfl | exact .inr rfl) (hl : fs.contains mn = false := by decide)
    (ht : eval (.Call (.Attribute o mn apos) [] [] pos) c.X.env = (do
      let ov ← eval o c.X.env
      standAt apos.atName
      let (f, first) ← holding [ov] (getMethod ov mn pl)
      callWith pos f first (backTo pos (starEach [] c.X.env)) (backToKw pos (keywordEach [] c.X.env))) := by rfl) :
    JE c ts (.Call (.Attribute o mn apos) [] [] pos) (mo.bind fun x => mf (x, ())) (fun r => .as (asn c.X.K c.G md r)) :=
  PE.imp (pe_methE0 (E := WE c.W) ho hc hm F hr hb (fun σ => L2N.passAt tk σ) ht) fun σ H Q ⟨us, vs, E, q⟩ => by
    refine ⟨us, vs, E, Out.wp_mono (Out.wp_bind q) (fun x _ q v H1 E1 => ?_) fun _ _ z => z⟩
    obtain ⟨a, dx, vs', ev, hH⟩ := ins_at (P := H1) hC (E1.rd1 rdV)
    obtain ⟨O, hO, hAr, hq⟩ := Env.call (md := md) (m := fun _ : Unit => mf (x, ())) (es := [Vl c x]) (ws := [v]) hmd rfl E1 rfl (psl_cons (psV fzV) psl_nil) hw q
    exact ⟨a, dx, _, ev, hH, lookup_none vs' hl, (x, ()), O, hO, by rw [hA]; exact hAr, hq⟩
/-- e.f, a property -/
theorem je_prop {m : Out (Ins nm fs τ)} {p : Addr} {AsF : Ins nm fs τ × Unit → List ArgP} {mf : Ins nm fs τ × Unit → Out ρ} (hC : ClsAt c.X.K nm C) (hc : Cls c.X.K C) (hp : PropOf c.X.K C mn p f) (F : FnOk c.X.prog c.X.w c.X.K c.X.mg c.X.base (L2N.CX c.X.prog c.X.w) k f fd ps (spM c.X.K c.eg md mf AsF)) (hr : Room (k + 1) c.X.A) (hb : Binds c.X.K fd ps [])
    (he : JE c ts e m (Vl c)) (hA : ∀ x y, AsF (x, y) = [aV c.X.K x]) (hmd : md = .val ∨ md = .own := by first | exact .inl rfl | exact .inr rfl) (hab : attributeBase e mn c.X.env (eval e c.X.env) = eval e c.X.env := by rfl) :
    JE c ts (.Attribute e mn pos) (m.bind fun x => nox (mf (x, ()))) (fun r => .as (asn c.X.K c.G md r)) :=
  PE.imp (pe_prop (E := fun _ _ _ => False) he hc hp F hr hb .nil (fun _ _ _ _ _ _ _ z => (noCXo z).elim) hab) fun σ H Q ⟨us, vs, E, q⟩ => by
    refine ⟨us, vs, E, Out.wp_mono (Out.wp_bind q) (fun x _ q v H1 E1 => ?_) fun _ _ z => z⟩
    obtain ⟨a, dx, vs', ev, hH⟩ := ins_at (P := H1) hC (E1.rd1 rdV)
    have q' : (mf (x, ())).wp (fun r => ∀ v H', Env (Cw.no c) ts (.as (asn c.X.K c.G md r) :: us) σ (v :: vs) H' → Q v H') (Ex (Cw.no c) us σ vs) := Out.wp_mono (wp_nox (E' := fun _ => False) q) (fun r _ q v H' E' => q v H' (Env.yes E')) fun _ _ z => z.elim
    obtain ⟨O, hO, hAr, hq⟩ := Env.call (c := Cw.no c) (md := md) (m := fun _ : Unit => mf (x, ())) (es := [Vl c x]) (ws := [v]) hmd rfl (Env.no E1) rfl (psl_cons (psV fzV) psl_nil) trivial q'
    subst ev
    exact ⟨a, dx, _, rfl, hH, (x, ()), O, hO, by rw [hA]; exact hAr, hq⟩
theorem Env.stk2 {i : α} {j : β} {x y : V} (E : Env c ts (Vl c j :: Vl c i :: us) σ (y :: x :: vs) H) : Py.rep c.X.K H x i ∧ Py.rep c.X.K H y j := by
  obtain ⟨F1, F2, E⟩ := E
  obtain ⟨G1, G2, e, h1, G3, G4, e', h2, _⟩ := E.sk
  exact ⟨Py.mono hide_le h2.2, Py.mono hide_le h1.2⟩
theorem Env.swap2 {A B : Ent} {x y : V} (E : Env c ts (B :: A :: us) σ (y :: x :: vs) H) : Env c ts (A :: B :: us) σ (x :: y :: vs) H := Env.rot (es := [B]) (ws := [y]) E rfl
/-- a + b of an own class -/
theorem je_binO {op : Operator} {ma mb : Out (Ins nm fs τ)} {AsF : Ins nm fs τ × Ins nm fs τ × Unit → List ArgP} {mf : Ins nm fs τ × Ins nm fs τ × Unit → Out ρ} (hC : ClsAt c.X.K nm C) (hc : PySem.W.selfFirst c.X.K C = true) (B : ClsB c.X.K C (PySem.dunder op.info.2) f)
    (F : FnOk c.X.prog c.X.w c.X.K c.X.mg c.X.base (L2N.CX c.X.prog c.X.w) k f fd ps (spM c.X.K c.eg md mf AsF)) (hr : Room k c.X.A) (hb : Binds c.X.K fd ps []) (tk : L2N.Takes c.X c.W) (ha : JE c ts a ma (Vl c)) (hbb : JE c ts b mb (Vl c)) (hA : ∀ x y, AsF (x, y, ()) = [aV c.X.K x, aV c.X.K y]) (hw : WkX c ts)
    (hmd : md = .val ∨ md = .own := by first | exact .inl rfl | exact .inr rfl) : JE c ts (.BinOp a op b pos) (ma.bind fun x => mb.bind fun y => mf (x, y, ())) (fun r => .as (asn c.X.K c.G md r)) :=
  PE.imp (pe_binE (E := WE c.W) hc B F hr hb (fun σ => L2N.passAt tk σ) ha hbb) fun σ H Q ⟨us, vs, E, q⟩ => by
    refine ⟨us, vs, E, Out.wp_mono (Out.wp_bind q) (fun i _ q x H1 E1 => ?_) fun _ _ z => z⟩
    refine ⟨_, _, E1, Out.wp_mono (Out.wp_bind q) (fun j _ q y H2 E2 => ?_) fun er _ z d H' e1 E3 => z d H' e1 (EnvX.pop (es := [_]) (ws := [_]) E3 rfl)⟩
    obtain ⟨r1, r2⟩ := E2.stk2
    obtain ⟨a1, d1, v1, e1, h1⟩ := ins_at (P := H2) hC r1
    obtain ⟨a2, d2, v2, e2, h2⟩ := ins_at (P := H2) hC r2
    obtain ⟨O, hO, hAr, hq⟩ := Env.call (md := md) (m := fun _ : Unit => mf (i, j, ())) (es := [Vl c i, Vl c j]) (ws := [x, y]) hmd rfl E2.swap2 rfl (psl_cons (psV fzV) (psl_cons (psV fzV) psl_nil)) hw q
    exact ⟨⟨a1, d1, _, a2, d2, _, e1, e2, h1, h2⟩, (i, j, ()), O, hO, by rw [hA]; exact hAr, hq⟩
theorem eqO_imp {ma mb : Out (Ins nm fs τ)} {AsF : Ins nm fs τ × Ins nm fs τ × Unit → List ArgP} {mf : Ins nm fs τ × Ins nm fs τ × Unit → Out Bool} (hC : ClsAt c.X.K nm C) (hA : ∀ x y, AsF (x, y, ()) = [aV c.X.K x, aV c.X.K y]) :
    ∀ {us σ vs H2} {i j : Ins nm fs τ} {x y : V} {Q : VK}, Env c ts (Vl c j :: Vl c i :: us) σ (y :: x :: vs) H2 → (nox (mf (i, j, ()))).wp (fun z => ∀ v H', Env c ts (Vl c z :: us) σ (v :: vs) H' → Q v H') (Ex c us σ vs) → rEqE C (spM c.X.K c.eg .val mf AsF) x y H2 Q := fun {us σ vs H2 i j x y Q} E2 q => by
  obtain ⟨r1, r2⟩ := E2.stk2
  obtain ⟨a1, d1, v1, e1, h1⟩ := ins_at (P := H2) hC r1
  obtain ⟨a2, d2, v2, e2, h2⟩ := ins_at (P := H2) hC r2
  have q' : (mf (i, j, ())).wp (fun r => ∀ v H', Env (Cw.no c) ts (.as (asn c.X.K c.G .val r) :: us) σ (v :: vs) H' → Q v H') (Ex (Cw.no c) us σ vs) := Out.wp_mono (wp_nox (E' := fun _ => False) q) (fun r _ q v H' E' => q v H' (Env.yes E')) fun _ _ z => z.elim
  obtain ⟨O, hO, hAr, hq⟩ := Env.call (c := Cw.no c) (md := .val) (m := fun _ : Unit => mf (i, j, ())) (es := [Vl c i, Vl c j]) (ws := [x, y]) (.inl rfl) rfl (Env.no E2.swap2) rfl (psl_cons (psV fzV) (psl_cons (psV fzV) psl_nil)) trivial q'
  exact ⟨⟨a1, d1, _, a2, d2, _, e1, e2, h1, h2⟩, (i, j, ()), O, hO, by rw [hA]; exact hAr, hq⟩
/-- a == b of an own class -/
theorem je_eqO {ma mb : Out (Ins nm fs τ)} {AsF : Ins nm fs τ × Ins nm fs τ × Unit → List ArgP} {mf : Ins nm fs τ × Ins nm fs τ × Unit → Out Bool} (hC : ClsAt c.X.K nm C) (B : ClsB c.X.K C "__eq__" f)
    (F : FnOk c.X.prog c.X.w c.X.K c.X.mg c.X.base (L2N.CX c.X.prog c.X.w) k f fd ps (spM c.X.K c.eg .val mf AsF)) (hr : Room k c.X.A) (hb : Binds c.X.K fd ps []) (ha : JE c ts a ma (Vl c)) (hbb : JE c ts b mb (Vl c)) (hA : ∀ x y, AsF (x, y, ()) = [aV c.X.K x, aV c.X.K y]) :
    JE c ts (.Compare a [.Eq] [b] pos) (ma.bind fun x => mb.bind fun y => nox (mf (x, y, ()))) (Vl c) := je_cmp (op_eqE rfl rfl B F hr hb) (eqO_imp (ma := ma) (mb := mb) hC hA) (nomark _) ha hbb
theorem jt_eqO {ma mb : Out (Ins nm fs τ)} {AsF : Ins nm fs τ × Ins nm fs τ × Unit → List ArgP} {mf : Ins nm fs τ × Ins nm fs τ × Unit → Out Bool} (hC : ClsAt c.X.K nm C) (B : ClsB c.X.K C "__eq__" f)
    (F : FnOk c.X.prog c.X.w c.X.K c.X.mg c.X.base (L2N.CX c.X.prog c.X.w) k f fd ps (spM c.X.K c.eg .val mf AsF)) (hr : Room k c.X.A) (hb : Binds c.X.K fd ps []) (ha : JE c ts a ma (Vl c)) (hbb : JE c ts b mb (Vl c)) (hA : ∀ x y, AsF (x, y, ()) = [aV c.X.K x, aV c.X.K y]) :
    JT c ts (.Compare a [.Eq] [b] pos) (ma.bind fun x => mb.bind fun y => nox (mf (x, y, ()))) := jt_cmp (op_eqE rfl rfl B F hr hb) (eqO_imp (ma := ma) (mb := mb) hC hA) (nomark _) ha hbb
/-- isinstance(x, C) -/
theorem je_isX {x : Str} {p p2 : Pos} {m : Out α} {A : α → Ent} {r : α → Bool} {cv : V} {cu : Value} (hm : c.X.mg "isinstance" = none) (hk : ClsV cv cu) (hr : ∀ {H : Hp} {v : V} {x : α}, Py.rep c.X.K H v x → ∃ t, TyX c.X.K H v t ∧ PySem.W.kitOne c.X.K t cu = some (r x)) (rA : ∀ x, Rd c ts (A x) x) (he : JE c ts a m A) (hcl : PE c.X (.Name x p2) (tC cv))
    (hg : Gl c.X "isinstance" := by rfl)
    (h1 : starEach [a, .Name x p2] c.X.env = (false, eval a c.X.env) :: starEach [.Name x p2] c.X.env := by rfl) (h2 : starEach [.Name x p2] c.X.env = (false, eval (.Name x p2) c.X.env) :: starEach [] c.X.env := by rfl) (hpl : (backTo pos (starEach [.Name x p2] c.X.env)).any (·.1) = false := by rfl) :
    JE c ts (.Call (.Name "isinstance" p) [a, .Name x p2] [] pos) (m.bind fun x => .ok (r x)) (Vl c) :=
  PE.imp (pe_callB call_isi hg hm (by decide +kernel) (pa_cons he (pa_cons hcl pa_nil h2) h1) (by decide) (by decide) h1 hpl) fun σ H Q ⟨us, vs, E, q⟩ => by
    refine ⟨us, vs, E, Out.wp_mono (Out.wp_bind q) (fun y _ q v H1 E1 => ?_) fun _ _ z => z⟩
    obtain ⟨t, ht, hki⟩ := hr (E1.rd1 (rA y))
    exact ⟨v, cv, t, cu, r y, rfl, hk, ht, hki, q _ H1 (Env.pushS (es := [_]) (ws := [_]) (K := c.X.K) (H0 := H1) E1 rfl rfl)⟩
theorem ins_ty {K : PySem.W.Frag} {v : V} {x : Ins nm fs τ} (h : ClsI K nm C) (r : Py.rep K H v x) : TyX K H v (.ref C) := by
  obtain ⟨a, dx, vs, e, hH⟩ := ins_at (P := H) h.at_ r
  subst e
  exact .base (.ins hH h.cls h.ca h.cn h.ct h.cm)
theorem ins_is {K : PySem.W.Frag} {v : V} {x : Ins nm fs τ} (h : ClsI K nm C) (r : Py.rep K H v x) : ∃ t, TyX K H v t ∧ PySem.W.kitOne K t (.ref C) = some true :=
  ⟨_, ins_ty h r, by unfold PySem.W.kitOne; rw [if_pos (by simp)]⟩
end
end Mw
set_option maxRecDepth 100000
set_option maxHeartbeats 4000000
namespace Mw
open PySem PySem.Spec PyProof.Rows L2

/-! ### an instance that is being made -/
def asnOb (a C : Addr) (names : List Str) (As : List Asn) : Asn where
  p := fun P H F v => ∃ dx ws, v = .ref a ∧ F = [a] ∧ H a = some (.ins C dx (names.zip ws)) ∧ names.length = ws.length ∧ Paired (fun v (A : Asn) => A.p P H [] v) ws As
  st := fun s k ⟨dx, ws, e, eF, h, l, r⟩ => ⟨dx, ws, e, eF, k a (by rw [eF]; exact List.mem_cons_self) _ h, l, Paired.mapP r fun _ A q => A.st s (fun _ z => nomatch z) q⟩
/-- .. that is made -/
def asnFin (K : PySem.W.Frag) {α : Type} [Py α] (a : Addr) (x : α) : Asn where
  p := fun P _ F v => v = .ref a ∧ F = [] ∧ Py.rep K P v x
  st := fun s _ h => ⟨h.1, h.2.1, Py.mono s h.2.2⟩
theorem putF_new {f : Str} {v : V} : ∀ {names : List Str} {ws : List V}, names.contains f = false → names.length = ws.length → putF f v (names.zip ws) = (names ++ [f]).zip (ws ++ [v])
  | [], [], _, _ => rfl
  | [], _ :: _, _, h => by cases h
  | _ :: _, [], _, h => by cases h
  | g :: names, w :: ws, h, hl => by
    rw [List.contains_cons, Bool.or_eq_false_iff] at h
    have ne : ¬ g = f := fun z => by
      rw [z] at h
      have := h.1
      simp at this
    show (if g = f then _ else (g, w) :: putF f v (names.zip ws)) = _
    rw [if_neg ne, putF_new h.2 (by simpa using hl)]
    rfl
theorem Pd.snoc {α β : Type} {R : α → β → Prop} {v : α} {x : β} : ∀ {vs : List α} {xs : List β}, Paired R vs xs → R v x → Paired R (vs ++ [v]) (xs ++ [x])
  | _, _, .nil, q => .cons q .nil
  | _, _, .cons r t, q => .cons r (Pd.snoc t q)

section
variable {c : Cw} {ts : List (Option Asn)} {es ues : List Ent} {us : List Asn} {σ : Sl} {vs ws : List V} {H H' : Hp} {α β γ ω S ρ : Type} [Py α] [Py β] [Py ρ] {a b e o : Expr} {st rest : List Stmt} {pos apos : Pos} {post : ω → Exit} {nm mn : Str} {fs : List Str} {τ : Type} [PyF τ] {C f : Addr} {fd : FuncData} {ps : List Str} {k : Nat} {md : Md}
/-- what slot i owns changes -/
theorem Env.mutY {i : Nat} {A : Asn} (E : Env c ts (es ++ ues) σ (ws ++ vs) H) (hl : es.length = ws.length) (h : ts[i]? = some (some A)) (hA : ∀ {P H : Hp} {F : List Addr} {v : V}, A.p P H F v → ∃ l, v = .ref l ∧ F = [l]) :
    ∃ l P F1 FB, σ[i]? = some (some (.ref l)) ∧ A.p P H [l] (.ref l) ∧ Part P H ∧ EnvL P H ts σ F1 ∧ StkL P H σ es ws FB ∧ ∀ (o' : HO) (A' : Asn) (F' : List Addr), (F' = [l] ∧ mutO o' = true ∨ F' = []) → (∀ P', Same P P' → (∀ a ∈ FB, ∀ o, H a = some o → P' a = some o) → (F' = [] → P' l = some o') → A'.p P' (upd H l o') F' (.ref l)) →
      Env c (ts.set i (some A')) ues σ vs (upd H l o') := by
  obtain ⟨F1, FB, F2, E, k, h2⟩ := Env.open E hl
  obtain ⟨v, G1, Gi, G2, e1, e2, q, hlt, put⟩ := E.sl.at i h
  subst e2
  obtain ⟨u, eu, q⟩ := q
  obtain ⟨l, ev, eF⟩ := hA q
  subst eu ev eF
  refine ⟨l, _, _, FB, e1, q, E.part, E.sl, k, fun o' A' F' hF hr => ?_⟩
  have nd := E.nd
  have lin : l ∈ G1 ++ ([l] ++ G2) := by simp
  have subF : ∀ a, a ∈ F' → a = l := fun a ha => by
    rcases hF with ⟨e, _⟩ | e
    · rw [e] at ha
      exact List.mem_singleton.mp ha
    · rw [e] at ha
      cases ha
  have sub : ∀ a, a ∈ c.Of ++ (G1 ++ (F' ++ G2) ++ F2) → a ∈ c.Of ++ (G1 ++ ([l] ++ G2) ++ (FB ++ F2)) := fun a h => by
    rcases List.mem_append.mp h with h | h
    · exact List.mem_append_left _ h
    · refine List.mem_append_right _ ?_
      rcases List.mem_append.mp h with h | h
      · refine List.mem_append_left _ ?_
        rcases List.mem_append.mp h with h | h
        · exact List.mem_append_left _ h
        · refine List.mem_append_right _ ?_
          rcases List.mem_append.mp h with h | h
          · rw [subF a h]
            exact List.mem_append_left _ List.mem_cons_self
          · exact List.mem_append_right _ h
      · exact List.mem_append_right _ (List.mem_append_right _ h)
  obtain ⟨n1, n2, n3⟩ := List.nodup_append.mp nd
  obtain ⟨m1, m2, m3⟩ := List.nodup_append.mp n2
  have noOf : ∀ a, a ∈ G1 ++ ([l] ++ G2) ++ (FB ++ F2) → a ∉ c.Of := fun a h q => by
    have := (E.fr a h).1
    obtain ⟨o, e, _⟩ := E.og a q
    rw [this] at e
    cases e
  have sP : Same (hide (c.Of ++ (G1 ++ ([l] ++ G2) ++ (FB ++ F2))) H) (hide (c.Of ++ (G1 ++ (F' ++ G2) ++ F2)) (upd H l o')) := fun a o q => by
    obtain ⟨n, q⟩ := hide_some q
    have al : a ≠ l := fun z => n (by rw [z]; exact List.mem_append_right _ (List.mem_append_left _ lin))
    rw [hide_of fun z => n (sub a z), upd_ne al]
    exact q
  have inF : ∀ a, a ∈ G1 ++ (F' ++ G2) → a ∈ G1 ++ ([l] ++ G2) := fun a h => by
    rcases List.mem_append.mp h with h | h
    · exact List.mem_append_left _ h
    · refine List.mem_append_right _ ?_
      rcases List.mem_append.mp h with h | h
      · rw [subF a h]
        exact List.mem_append_left _ List.mem_cons_self
      · exact List.mem_append_right _ h
  have kB : ∀ a ∈ FB, ∀ o, H a = some o → hide (c.Of ++ (G1 ++ (F' ++ G2) ++ F2)) (upd H l o') a = some o := fun a ha o q => by
    have al : a ≠ l := fun z => n3 l lin a (List.mem_append_left _ ha) z.symm
    rw [hide_of fun z => ?_, upd_ne al]
    · exact q
    · rcases List.mem_append.mp z with z | z
      · exact noOf a (List.mem_append_right _ (List.mem_append_left _ ha)) z
      · rcases List.mem_append.mp z with z | z
        · exact n3 a (inF a z) a (List.mem_append_left _ ha) rfl
        · exact m3 a ha a z rfl
  obtain ⟨p1, p2, p3⟩ := List.nodup_append.mp n1
  obtain ⟨r1, r2, r3⟩ := List.nodup_append.mp p2
  have ln : ∀ a, a ∈ G1 ++ G2 → a ≠ l := fun a ha z => by
    subst z
    rcases List.mem_append.mp ha with ha | ha
    · exact p3 a ha a (by simp) rfl
    · exact r3 a (by simp) a ha rfl
  have lP : F' = [] → hide (c.Of ++ (G1 ++ (F' ++ G2) ++ F2)) (upd H l o') l = some o' := fun e => by
    rw [hide_of fun z => ?_]
    · exact upd_same
    · rw [e] at z
      rcases List.mem_append.mp z with z | z
      · exact noOf l (List.mem_append_left _ lin) z
      · rcases List.mem_append.mp z with z | z
        · exact ln l (by simpa using z) rfl
        · exact n3 l lin l (List.mem_append_right _ z) rfl
  have put' := put _ (upd H l o') (some A') (some (.ref l)) F' sP (fun a ha o q => by rw [upd_ne (ln a ha)]; exact q) ⟨_, rfl, hr _ sP kB lP⟩
  have es : σ.set i (some (.ref l)) = σ := by
    obtain ⟨hi, e⟩ := List.getElem?_eq_some_iff.mp e1
    rw [← e]
    exact List.set_getElem_self hi
  rw [es] at put'
  refine ⟨G1 ++ (F' ++ G2), F2, put', h2.st sP fun a ha o q => ?_, ?_, fun a ha => ?_, fun a o q => ?_, E.og⟩
  · have al : a ≠ l := fun z => n3 l lin a (List.mem_append_right _ ha) z.symm
    rw [upd_ne al]
    exact q
  · refine List.nodup_append.mpr ⟨List.nodup_append.mpr ⟨p1, List.nodup_append.mpr ⟨?_, r2, fun a ha b hb => by rw [subF a ha]; exact fun z => ln b (List.mem_append_right _ hb) z.symm⟩, fun a ha b hb => p3 a ha b ?_⟩, m2, fun a ha b hb => n3 a (inF a ha) b (List.mem_append_right _ hb)⟩
    · rcases hF with ⟨e, _⟩ | e <;> rw [e] <;> simp
    · rcases List.mem_append.mp hb with hb | hb
      · rw [subF b hb]
        exact List.mem_append_left _ List.mem_cons_self
      · exact List.mem_append_right _ hb
  · have ha' : a ∈ G1 ++ ([l] ++ G2) ++ (FB ++ F2) := by
      rcases List.mem_append.mp ha with h | h
      · exact List.mem_append_left _ (inF a h)
      · exact List.mem_append_right _ (List.mem_append_right _ h)
    obtain ⟨g1, o, g2, g3⟩ := E.fr a ha'
    refine ⟨g1, ?_⟩
    by_cases al : a = l
    · subst al
      rcases hF with ⟨_, hm⟩ | e
      · exact ⟨_, upd_same, hm⟩
      · exfalso
        rw [e] at ha
        rcases List.mem_append.mp ha with z | z
        · exact ln a (by simpa using z) rfl
        · exact n3 a lin a (List.mem_append_right _ z) rfl
    · exact ⟨o, by rw [upd_ne al]; exact g2, g3⟩
  · have al : a ≠ l := fun z => by
      have := (E.fr l (List.mem_append_left _ lin)).1
      rw [z, this] at q
      cases q
    rw [upd_ne al]
    exact E.g _ _ q
theorem asnOb_ref {a C : Addr} {names : List Str} {As : List Asn} {P H : Hp} {F : List Addr} {v : V} (h : (asnOb a C names As).p P H F v) : ∃ l, v = .ref l ∧ F = [l] := by
  obtain ⟨_, _, e, eF, _⟩ := h
  exact ⟨a, e, eF⟩
theorem imm_len {n : Nat} (h : n ≤ 12) : n < 1000 := by omega
/-- self.f = e, not the last field -/
theorem js_fldN {aa : Addr} {names : List Str} {As : List Asn} {n fl : Str} {p1 p2 : Pos} {m : Out α} {k : α → Out ω} (i : Nat) (h : ts[i]? = some (some (asnOb aa C names As))) (hc : Cls c.X.K C) (na : NoAttr c.X.K C fl) (he : JE c ts e m (Vl c)) (hn : PE c.X (.Name n p1) (tVar i))
    (hk : ∀ x, JS c (ts.set i (some (asnOb aa C (names ++ [fl]) (As ++ [asn c.X.K c.G .val x])))) rest (k x) post) (hnew : names.contains fl = false := by decide) (him : immNames.contains (names ++ [fl]) = false := by decide) (hlen : names.length ≤ 12 := by decide)
    (hs : swapsWith e (some (.Attribute (.Name n p1) fl p2)) pos.line c.X.env = pure false := by rfl) : JS c ts (.Assign [.Attribute (.Name n p1) fl p2] e pos :: rest) (m.bind k) post :=
  PSs.imp (pss_cons (ps_fld hn he hs) (PSs.ex hk)) fun D σ H ⟨us, vs, E, q⟩ => tJ_S E (Out.wp_mono (Out.wp_bind q) (fun x _ q v H1 E1 => by
    obtain ⟨l, P, F1, FB, e1, qA, _, _, sk, put⟩ := Env.mutY (es := [_]) (ws := [_]) E1 rfl h asnOb_ref
    obtain ⟨dx, ws, ea, _, hH, hlw, r⟩ := qA
    cases ea
    refine ⟨_, e1, aa, C, dx, _, rfl, hH, hc, na, ?_, x, us, vs, ?_, q⟩
    · rw [List.length_zip, ← hlw, Nat.min_self]
      exact imm_len hlen
    · rw [putF_new hnew hlw]
      refine put _ (asnOb aa C (names ++ [fl]) (As ++ [asn c.X.K c.G .val x])) [aa] (.inl ⟨rfl, ?_⟩) fun P' s' fB _ => ⟨dx, _, rfl, rfl, upd_same, by simp [hlw], Pd.snoc (Paired.mapP r fun _ A q => A.st s' (fun _ z => nomatch z) q) ?_⟩
      · show (!immNames.contains (((names ++ [fl]).zip (ws ++ [v])).map (·.1))) = true
        rw [map_zip (by simp [hlw]), him]
        rfl
      · exact ⟨rfl, Py.mono s' (StkL.one sk).2⟩) fun _ _ z => z)
/-- self.f = e, the last field -/
theorem js_fldL {aa : Addr} {names fs : List Str} {As : List Asn} {n fl : Str} {p1 p2 : Pos} {m : Out α} {k : α → Out ω} {r : α → τ} (i : Nat) (h : ts[i]? = some (some (asnOb aa C names As))) (hC : ClsAt c.X.K nm C) (hc : Cls c.X.K C) (na : NoAttr c.X.K C fl) (hfs : fs = names ++ [fl]) (hr : ∀ x, PyF.as c.X.K c.G (r x) = As ++ [asn c.X.K c.G .val x]) (he : JE c ts e m (Vl c)) (hn : PE c.X (.Name n p1) (tVar i))
    (hk : ∀ x, JS c (ts.set i (some (asnFin c.X.K aa (Ins.mk (nm := nm) (fs := fs) (r x))))) rest (k x) post) (hnew : names.contains fl = false := by decide) (hlen : names.length ≤ 12 := by decide)
    (hs : swapsWith e (some (.Attribute (.Name n p1) fl p2)) pos.line c.X.env = pure false := by rfl) : JS c ts (.Assign [.Attribute (.Name n p1) fl p2] e pos :: rest) (m.bind k) post :=
  PSs.imp (pss_cons (ps_fld hn he hs) (PSs.ex hk)) fun D σ H ⟨us, vs, E, q⟩ => tJ_S E (Out.wp_mono (Out.wp_bind q) (fun x _ q v H1 E1 => by
    obtain ⟨l, P, F1, FB, e1, qA, _, _, sk, put⟩ := Env.mutY (es := [_]) (ws := [_]) E1 rfl h asnOb_ref
    obtain ⟨dx, ws, ea, _, hH, hlw, rr⟩ := qA
    cases ea
    refine ⟨_, e1, aa, C, dx, _, rfl, hH, hc, na, ?_, x, us, vs, ?_, q⟩
    · rw [List.length_zip, ← hlw, Nat.min_self]
      exact imm_len hlen
    · rw [putF_new hnew hlw]
      subst hfs
      refine put _ _ [] (.inr rfl) fun P' s' fB hP => ⟨rfl, rfl, aa, C, dx, ws ++ [v], rfl, hC, hP rfl, by simp [hlw], ?_⟩
      refine PyF.of (G := c.G) (H := H1) ?_
      rw [hr x]
      exact Pd.snoc (Paired.mapP rr fun _ A q => A.st s' (fun _ z => nomatch z) q) ⟨rfl, Py.mono s' (StkL.one sk).2⟩) fun _ _ z => z)
end
/-- the promise of an __init__ -/
def spI (K : PySem.W.Frag) (eg : EK → Addr) (nm : Str) (fs : List Str) {γ τ : Type} [PyF τ] (mf : γ → Out τ) (As : γ → List ArgP) : Sp := fun vs H Q E =>
  ∃ (y : γ) (a C dx : Addr) (vs' : List V) (O : List Addr), vs = .ref a :: vs' ∧ ClsAt K nm C ∧ H a = some (.ins C dx []) ∧ a ∉ O ∧ (∀ b ∈ O, MutA H b) ∧ ArgL (As y) (hide O (hide [a] H)) (hide [a] H) vs' ∧
    (mf y).wp (fun r => ∀ H', Same (hide [a] H) H' → Py.rep K (hide O H') (.ref a) (Ins.mk (nm := nm) (fs := fs) r) → Q .non H') (fun e => ∀ d H', ErrAt e d H' → Same (hide [a] H) H' → E (.ref (eg e.k)) d H')
section
variable {P : Program} {w : World} {K : PySem.W.Frag} {mg : Str → Option Value} {base : Heap}
abbrev cOfI (P : Program) (w : World) (K : PySem.W.Frag) (mg : Str → Option Value) (base : Heap) (eg : EK → Addr) (N : List Str) (qual : Str) (st : Stmt) (f : Addr) (cdv : Value) (A : Around) (outer : List PySem.Env) (s : Shared) (H G : Hp) (E : XK) (O : List Addr) : Cw :=
  { X := cxOf (L2N.CX P w) P w K mg base N qual (defScope st) f cdv A outer s H E, G := G, Of := O, W := fun cls d _ H => E cls d H, tx := none, eg := eg }
theorem fn_init {γ τ : Type} [PyF τ] {nm qual : Str} {fs : List Str} {st : Stmt} {f C : Addr} {fd : FuncData} {N ps : List Str} {k : Nat} {eg : EK → Addr} {mf : γ → Out τ} {As : γ → List ArgP} (hC : ClsAt K nm C) (F : Fun K "__init__" qual st f fd) (S : FnScope N (("self" : Str) :: ps) (defScope st)) (Ss : γ → List (ArgS K)) (hAs : ∀ y, As y = (Ss y).map (·.p)) (hl : ∀ y, (Ss y).length = ps.length)
    (body : ∀ (cdv : Value) (A : Around) (outer : List PySem.Env) (s : Shared) (H G : Hp) (E : XK) (O : List Addr) (y : γ) (a : Addr), Room k (A.deeper (envOfC qual (defScope st) s.heap.objs.size f cdv)) →
      JS (cOfI P w K mg base eg N qual st f cdv A outer s H G E O) (some (asnOb a C [] []) :: (((Ss y).map fun s => some (s.t G)) ++ List.replicate (N.length - (("self" : Str) :: ps).length) none)) (defBody st) (mf y) (fun r => .next (some (asnFin K a (Ins.mk (nm := nm) (fs := fs) r)) :: List.replicate (N.length - 1) none))) :
    FnOk P w K mg base (L2N.CX P w) (k + 1) f fd (("self" : Str) :: ps) (spI K eg nm fs mf As) := by
  have len : ∀ vs H (Q : VK) (E : XK), spI K eg nm fs mf As vs H Q E → vs.length = (("self" : Str) :: ps).length := fun vs H Q E h => by
    obtain ⟨y, a, C', dx, vs', O, ev, _, _, _, _, hp, _⟩ := h
    rw [ev, List.length_cons, List.length_cons, Pd.len hp, hAs, List.length_map, hl]
  refine okXN F S len fun cdv A outer s H vs Q E hr h => ?_
  obtain ⟨y, a, C', dx, vs', O, ev, hC', ha, haO, hO, hp, q⟩ := id h
  have eC := hC.eq hC'
  subst eC ev
  have ha0 : hide [a] H a = none := hide_in (by simp)
  have hid : hide (O ++ ([a] ++ [])) H = hide O (hide [a] H) := by
    funext b
    by_cases h1 : b = a
    · subst h1
      rw [hide_in (by simp), hide_of haO, ha0]
    · by_cases h2 : b ∈ O
      · rw [hide_in (by simp [h2]), hide_in h2]
      · rw [hide_of (by simp [h1, h2]), hide_of h2, hide_of (by simp [h1])]
  refine ⟨_, body cdv A outer s H (hide [a] H) E O y a hr, [], [], ?_, ?_⟩
  · rw [hAs] at hp
    refine ⟨[a], [], ?_, rfl, by simp, fun b hb => ?_, hide_le, fun b hb => ?_⟩
    · show EnvL (hide (O ++ ([a] ++ [])) H) H _ _ _
      rw [hid]
      have hvl := len _ H Q E h
      have z := start_env (P := H) (n := N.length - (("self" : Str) :: ps).length) hp
      unfold L2.start
      rw [hvl]
      exact ⟨[a], [], rfl, ⟨_, rfl, dx, [], rfl, rfl, ha, rfl, .nil⟩, z.st (Same.refl _) fun _ z => nomatch z⟩
    · have hb' : b = a := by simpa using hb
      subst hb'
      exact ⟨ha0, _, ha, rfl⟩
    · obtain ⟨o, ho, m⟩ := hO b hb
      exact ⟨o, by
        show hide [a] H b = some o
        rw [hide_of (fun z => haO (by rw [← List.mem_singleton.mp z]; exact hb))]
        exact ho, m⟩
  · refine Out.wp_mono q (fun r _ k => ?_) fun e _ k => ?_
    · intro σ H' E'
      obtain ⟨F1, F2, E'⟩ := E'
      obtain ⟨v, F, e1, q1⟩ := E'.slot (i := 0) rfl
      refine k H' E'.g ?_
      have hsl : ∀ {n : Nat} {P H : Hp} {σ : Sl} {F : List Addr}, EnvL P H (List.replicate n none) σ F → F = [] := by
        intro n
        induction n with
        | zero =>
          intro P H σ F h
          cases σ with
          | nil => exact h
          | cons _ _ => exact h.elim
        | succ n ih =>
          intro P H σ F h
          cases σ with
          | nil => exact h.elim
          | cons _ _ =>
            obtain ⟨G1, G2, e, h1, h2⟩ := h
            rw [e, show G1 = [] from h1, ih h2]
            rfl
      have hF2 : F2 = [] := E'.sk
      have e0 : F1 = [] := by
        have z := E'.sl
        cases σ with
        | nil => exact z.elim
        | cons s0 σ =>
          obtain ⟨G1, G2, e, ⟨_, _, h1⟩, h2⟩ := z
          rw [e, h1.2.1, hsl h2]
          rfl
      subst e0 hF2
      obtain ⟨ev, _, r'⟩ := q1
      subst ev
      simpa using r'
    · intro σ d H' h1 h2
      exact k d H' h1 h2
end
section
variable {c : Cw} {ts : List (Option Asn)} {us ues : List Ent} {σ : Sl} {vs ws : List V} {H H' : Hp} {α β γ ω S ρ : Type} [Py α] [Py β] [Py ρ] {a b e o : Expr} {es : List Expr} {pos p : Pos} {nm x : Str} {fs : List Str} {τ : Type} [PyF τ] {C f : Addr} {fd : FuncData} {ps : List Str} {k : Nat}
/-- C(e, ..) -/
theorem je_make {m : Out γ} {Es : γ → List Ent} {As : γ → List ArgP} {mf : γ → Out τ} (hC : ClsAt c.X.K nm C) (M : Mk c.X.K C f) (F : FnOk c.X.prog c.X.w c.X.K c.X.mg c.X.base (L2N.CX c.X.prog c.X.w) k f fd ps (spI c.X.K c.eg nm fs mf As)) (hr : Room (k + 1) c.X.A) (hm : c.X.mg x = some (.ref C)) (hb : Binds c.X.K fd ps []) (tk : L2N.Takes c.X c.W)
    (ha : JA c ts (e :: es) m Es) (hp : ∀ x, PsL c ts (Es x) (As x)) (hw : WkX c ts) (hg : Gl c.X x := by rfl) (hdb : (x == ("__debug__" : Str)) = false := by decide)
    (he : starEach (e :: es) c.X.env = (false, eval e c.X.env) :: starEach es c.X.env := by rfl) (hpl : (backTo pos (starEach es c.X.env)).any (·.1) = false := by rfl) :
    JE c ts (.Call (.Name x p) (e :: es) [] pos) (m.bind fun y => (mf y).bind fun r => .ok (Ins.mk (nm := nm) (fs := fs) r)) (Vl c) :=
  PE.imp (pe_makeE (E := WE c.W) M F hr hg hm hb (fun σ => L2N.passAt tk σ) ha hdb he hpl) fun σ H Q ⟨us, vs, E, q⟩ => by
    refine ⟨us, vs, E, Out.wp_mono (Out.wp_bind q) (fun y _ q ws H1 hl E1 => ?_) fun _ _ z => z⟩
    intro l dx h1 h2 ne
    have sU : Same H1 (hide [l] (upd (upd H1 dx (.own l)) l (.ins C dx []))) := fun b o z => by
      have nl : b ≠ l := fun w => by rw [w, h1] at z; cases z
      have nd : b ≠ dx := fun w => by rw [w, h2] at z; cases z
      rw [hide_of (by simpa using nl), upd_ne nl, upd_ne nd]
      exact z
    have E3 := E1.same sU
    obtain ⟨O, hO, hA, hq⟩ := Env.call (md := .val) (m := fun _ : Unit => (mf y).bind fun r => Out.ok (Ins.mk (nm := nm) (fs := fs) r)) (mf := (mf y).bind fun r => Out.ok (Ins.mk (nm := nm) (fs := fs) r)) (.inl rfl) (rfl : c.X.K = c.X.K) E3 hl (hp y) hw q
    have hlO : l ∉ O := fun z => by
      obtain ⟨o, ho, _⟩ := hO l z
      rw [hide_in (by simp)] at ho
      cases ho
    refine ⟨y, l, C, dx, ws, O, rfl, hC, upd_same, hlO, fun b hb => ?_, hA, Out.wp_mono (Out.wp_bind hq) (fun r _ q H' s r' => ⟨rfl, ?_⟩) fun er _ z => z⟩
    · obtain ⟨o, ho, m⟩ := hO b hb
      exact ⟨o, hide_le _ _ ho, m⟩
    · have q' : ∀ v H', Same _ H' → ResOk c.X.K .val O _ H' (Ins.mk (nm := nm) (fs := fs) r) v → Q v H' := q
      exact q' (.ref l) H' s ⟨[], fun _ z => (nomatch z), List.nodup_nil, fun _ z => (nomatch z), rfl, by rw [List.append_nil]; exact r'⟩
/-- tuple(xs) -/
theorem je_tupleL {mx : Out (List α)} {A : List α → Ent} (hm : c.X.mg "tuple" = none) (rx : ∀ xs, RdE c ts (A xs) xs) (ha : JE c ts a mx A) (hg : Gl c.X "tuple" := by rfl) (he : starEach [a] c.X.env = (false, eval a c.X.env) :: starEach [] c.X.env := by rfl) (hpl : (backTo pos (starEach [] c.X.env)).any (·.1) = false := by rfl) :
    JE c ts (.Call (.Name "tuple" p) [a] [] pos) (mx.bind fun xs => .ok (Tup.mk xs)) (Vl c) :=
  je_one1 (t := fun ta => fun σ H Q => ta σ H fun y H1 => (fun xs H Q => ∃ p ys, xs = [.ref p] ∧ ((SqL c.X.K H p ys ∧ ∀ l, H l = none → Q (.ref l) (upd H l (.tup ys))) ∨ (SqT c.X.K H p ys ∧ Q (.ref p) H))) [y] H1 Q) (r := fun y H1 Q => (fun xs H Q => ∃ p ys, xs = [V.ref p] ∧ ((SqL c.X.K H p ys ∧ ∀ l, H l = none → Q (.ref l) (upd H l (.tup ys))) ∨ (SqT c.X.K H p ys ∧ Q (.ref p) H))) [y] H1 Q)
    (fun h => callT1 call_tuple_of hg hm (by decide +kernel) (by decide) (by decide) he hpl h) ha (fun h => h) fun {us σ vs H2 xs x Q} E q => by
    obtain ⟨F1, FB, F2, E, k, h2⟩ := Env.open (es := [_]) (ws := [_]) E rfl
    obtain ⟨p, zs, ex, hp, rp⟩ := rx xs E.part E.g E.sl (StkL.one k)
    refine ⟨p, zs, by rw [ex], .inl ⟨SqL.of hp, fun l hl => q _ _ (E.pushV h2 (same_new hl) fun P' s' n le => ⟨l, zs, rfl, .inl (.inl (n l _ (.inl hl) upd_same)), rp.mono s'⟩)⟩⟩
/-- tuple(t) -/
theorem je_tupleT {mx : Out (Tup α)} (hm : c.X.mg "tuple" = none) (ha : JE c ts a mx (Vl c)) (hg : Gl c.X "tuple" := by rfl) (he : starEach [a] c.X.env = (false, eval a c.X.env) :: starEach [] c.X.env := by rfl) (hpl : (backTo pos (starEach [] c.X.env)).any (·.1) = false := by rfl) :
    JE c ts (.Call (.Name "tuple" p) [a] [] pos) mx (Vl c) := by
  have e : mx = mx.bind fun xs => .ok xs := by cases mx <;> rfl
  rw [e]
  exact je_one1 (t := fun ta => fun σ H Q => ta σ H fun y H1 => (fun xs H Q => ∃ p ys, xs = [.ref p] ∧ ((SqL c.X.K H p ys ∧ ∀ l, H l = none → Q (.ref l) (upd H l (.tup ys))) ∨ (SqT c.X.K H p ys ∧ Q (.ref p) H))) [y] H1 Q) (r := fun y H1 Q => (fun xs H Q => ∃ p ys, xs = [V.ref p] ∧ ((SqL c.X.K H p ys ∧ ∀ l, H l = none → Q (.ref l) (upd H l (.tup ys))) ∨ (SqT c.X.K H p ys ∧ Q (.ref p) H))) [y] H1 Q)
    (fun h => callT1 call_tuple_of hg hm (by decide +kernel) (by decide) (by decide) he hpl h) ha (fun h => h) fun {us σ vs H2 xs x Q} E q => by
    obtain ⟨p, zs, ex, hp, rp⟩ := E.rd1 rdV
    exact ⟨p, zs, by rw [ex], .inr ⟨hp, by subst ex; exact q _ _ E⟩⟩
/-- t + u -/
theorem je_catT {m1 m2 : Out (Tup α)} (ha : JE c ts a m1 (Vl c)) (hb : JE c ts b m2 (Vl c)) : JE c ts (.BinOp a .Add b pos) (m1.bind fun x => m2.bind fun y => chk (lenOk (x.l.length + y.l.length)) (Tup.mk (x.l ++ y.l))) (Vl c) :=
  je_bin op_catA ha hb fun {us σ vs H2 i j x y Q} E q => by
    obtain ⟨hlen, q⟩ := wp_chk q
    obtain ⟨F1, FB, F2, E, k, h2⟩ := Env.open (es := [_, _]) (ws := [_, _]) E rfl
    obtain ⟨_, _, _, k1, k2⟩ := StkL.two k
    obtain ⟨p1, z1, e1, t1, r1⟩ := k2.2
    obtain ⟨p2, z2, e2, t2, r2⟩ := k1.2
    subst e1 e2
    have hc1 : ∀ {P P' : Hp}, Same P P' → P = P → True := fun _ _ => trivial
    refine ⟨p1, p2, z1, z2, rfl, rfl, Same.seqT hide_le t1, Same.seqT hide_le t2, by rw [Pd.len r1, Pd.len r2, sizeLine_eq]; exact hlen, fun e => ?_, fun n e => ?_, fun n1 n2 l hl => ?_⟩
    · have ei : i.l = [] := List.eq_nil_of_length_eq_zero (by rw [← Pd.len r1, e]; rfl)
      refine q _ _ (E.pushV h2 (Same.refl _) fun P' s' _ _ => ⟨p2, z2, rfl, Same.seqT s' t2, ?_⟩)
      show Reps c.X.K P' z2 (i.l ++ j.l)
      rw [ei]
      exact r2.mono s'
    · have ej : j.l = [] := List.eq_nil_of_length_eq_zero (by rw [← Pd.len r2, e]; rfl)
      refine q _ _ (E.pushV h2 (Same.refl _) fun P' s' _ _ => ⟨p1, z1, rfl, Same.seqT s' t1, ?_⟩)
      show Reps c.X.K P' z1 (i.l ++ j.l)
      rw [ej, List.append_nil]
      exact r1.mono s'
    · exact q _ _ (E.pushV h2 (same_new hl) fun P' s' n le => ⟨l, _, rfl, .inl (.inl (n l _ (.inl hl) upd_same)), Pd.append (r1.mono s') (r2.mono s')⟩)
end
end Mw
set_option maxRecDepth 100000
set_option maxHeartbeats 4000000
namespace Mw
open PySem PySem.Spec PyProof.Rows L2
section
variable {X : Cx}
/-! sum, max, min of a tuple of ints -/
theorem iter_intTup {prog : Program} {w : World} {A : Around} {E : Value → Shared → Prop} {s : Shared} {l : Addr} {xs : Array (Int × Tok)} {Q : Value → Shared → Prop} (hl : s.heap.IsTuple l (intItems xs))
    (h : ∀ s₂ : Shared, s₂ = { s with heap := s.heap.push { cls := .type "tuple_iterator", data := .fields #[.ref l, .int 0 0] } } →
      (s₂.heap.IsTupleIter s.heap.objs.size l 0 ∧ s₂.heap.IsTuple l (intItems xs)) → (∀ b ∈ [s.heap.objs.size, l], b < s₂.heap.objs.size) → l ≠ s.heap.objs.size → Q (.ref s.heap.objs.size) s₂) :
    wpAny (model prog w) A (pyIter (.ref l)) Q E s := by
  have hlt : l < s.heap.objs.size := by obtain ⟨_, e, _⟩ := hl; exact Heap.lt_size e
  refine wpAny_pyIter_tuple hl (h _ rfl ⟨⟨_, Heap.get?_push_size _ rfl, rfl, rfl⟩, hl.at fun o e => Heap.get?_push_of_some _ e⟩ (fun b hb => ?_) (Nat.ne_of_lt hlt))
  show b < (s.heap.push _).objs.size
  rw [Heap.size_push]
  rcases List.mem_cons.mp hb with rfl | hb
  · exact Nat.lt_succ_self _
  · rcases List.mem_cons.mp hb with rfl | hb
    · exact Nat.lt_succ_of_lt hlt
    · cases hb
theorem tup_kept {s : Shared} {l : Addr} {h' : Heap} (hk : ∀ b o, b ∉ [s.heap.objs.size] → (s.heap.push { cls := .type "tuple_iterator", data := .fields #[.ref l, .int 0 0] }).get? b = some o → h'.get? b = some o) :
    ∀ b o, s.heap.get? b = some o → h'.get? b = some o := fun b o e => by
  refine hk b o (fun hm => ?_) (Heap.get?_push_of_some _ e)
  rcases List.mem_cons.mp hm with e1 | hm
  · exact absurd (e1 ▸ Heap.lt_size e) (Nat.lt_irrefl _)
  · cases hm
section
variable {prog : Program} {w : World} {A : Around} {E : Value → Shared → Prop} {s : Shared} {l : Addr} {its : List Value} {ns : List Int} {Q : Value → Shared → Prop}
theorem sum_rawT (hh : A.handled = none) (hl : s.heap.IsTuple l its.toArray) (hi : IntsAre its ns)
    (h : ∀ h' tk t', (∀ b o, s.heap.get? b = some o → h'.get? b = some o) → Q (.int ns.sum t') { s with heap := h', toks := tk }) : wpAny (model prog w) A (call (.builtin "sum") [.ref l]) Q E s := by
  obtain ⟨xs, e⟩ := hi.allInts.items
  have hn : numsOf (intItems xs).toList = ns := by rw [← e]; exact hi.numsOf
  rw [nums_intItems] at hn
  rw [e] at hl
  refine call_sum_walkG (iter_intTup hl fun s₂ e st hfp hne => ?_)
  subst e
  refine ⟨_, _, _, _, _, _, numAt xs, rfl, Walks.tuple (A := A.in1) hh _ l hne (intItems xs), st, hfp, (fun _ _ => intItems_at), fun h' tk t' hk => ?_⟩
  have := h h' tk t' (tup_kept hk)
  rw [← hn] at this
  have e2 : preSum (numAt xs) (intItems xs).size = (xs.toList.map (·.1)).sum := by
    rw [preSum_eq, List.take_of_length_le (by simp [intItems])]
  rw [e2]
  exact this
theorem max_rawT (hh : A.handled = none) (hl : s.heap.IsTuple l its.toArray) (hi : IntsAre its ns) (hne : 0 < ns.length)
    (h : ∀ h' tk M t', (∀ b o, s.heap.get? b = some o → h'.get? b = some o) → M ∈ ns → (∀ a, a ∈ ns → a ≤ M) → Q (.int M t') { s with heap := h', toks := tk }) : wpAny (model prog w) A (call (.builtin "max") [.ref l]) Q E s := by
  obtain ⟨xs, e⟩ := hi.allInts.items
  have hn : numsOf (intItems xs).toList = ns := by rw [← e]; exact hi.numsOf
  rw [nums_intItems] at hn
  subst hn
  rw [e] at hl
  have hsz : 0 < xs.size := by simpa using hne
  refine call_max_walk (iter_intTup hl fun s₂ e st hfp hlI => ?_)
  subst e
  refine ⟨_, _, _, _, _, _, _, rfl, Walks.tuple (A := A.in1) hh _ l hlI (intItems xs), st, hfp, by simpa [intItems] using hsz, CmpOf.ints_gt (numAt xs) (fun _ _ => intItems_at), fun v h' tk hP hk => ?_⟩
  obtain ⟨t, rfl⟩ := intItems_at hP
  have es : (intItems xs).size = xs.size := by simp [intItems]
  rw [es]
  obtain ⟨h1, h2⟩ := argBest_gt (numAt xs) (xs.size - 1)
  refine h h' tk _ t (tup_kept hk) ?_ fun a ha => ?_
  · rw [numAt_eq]; exact PySem.getD_mem (by rw [List.length_map, Array.length_toList]; omega)
  · obtain ⟨j, hj, rfl⟩ := mem_getD ha
    rw [List.length_map, Array.length_toList] at hj
    rw [← numAt_eq]; exact h2 j (by omega)
theorem min_rawT (hh : A.handled = none) (hl : s.heap.IsTuple l its.toArray) (hi : IntsAre its ns) (hne : 0 < ns.length)
    (h : ∀ h' tk M t', (∀ b o, s.heap.get? b = some o → h'.get? b = some o) → M ∈ ns → (∀ a, a ∈ ns → M ≤ a) → Q (.int M t') { s with heap := h', toks := tk }) : wpAny (model prog w) A (call (.builtin "min") [.ref l]) Q E s := by
  obtain ⟨xs, e⟩ := hi.allInts.items
  have hn : numsOf (intItems xs).toList = ns := by rw [← e]; exact hi.numsOf
  rw [nums_intItems] at hn
  subst hn
  rw [e] at hl
  have hsz : 0 < xs.size := by simpa using hne
  refine call_min_walk (iter_intTup hl fun s₂ e st hfp hlI => ?_)
  subst e
  refine ⟨_, _, _, _, _, _, _, rfl, Walks.tuple (A := A.in1) hh _ l hlI (intItems xs), st, hfp, by simpa [intItems] using hsz, CmpOf.ints_lt (numAt xs) (fun _ _ => intItems_at), fun v h' tk hP hk => ?_⟩
  obtain ⟨t, rfl⟩ := intItems_at hP
  have es : (intItems xs).size = xs.size := by simp [intItems]
  rw [es]
  obtain ⟨h1, h2⟩ := argBest_lt (numAt xs) (xs.size - 1)
  refine h h' tk _ t (tup_kept hk) ?_ fun a ha => ?_
  · rw [numAt_eq]; exact PySem.getD_mem (by rw [List.length_map, Array.length_toList]; omega)
  · obtain ⟨j, hj, rfl⟩ := mem_getD ha
    rw [List.length_map, Array.length_toList] at hj
    rw [← numAt_eq]; exact h2 j (by omega)
end
/-- of a list or a tuple of ints -/
def SqA (K : PySem.W.Frag) (H : Hp) (a : Addr) (xs : List V) : Prop := SqL K H a xs ∨ SqT K H a xs
def rSumA (K : PySem.W.Frag) : List V → Hp → VK → Prop := fun vs H Q => ∃ (a : Addr) (ns : List Int), vs = [V.ref a] ∧ SqA K H a (ns.map V.int) ∧ Q (.int ns.sum) H
def rMaxA (K : PySem.W.Frag) : List V → Hp → VK → Prop := fun vs H Q => ∃ (a : Addr) (ns : List Int), vs = [V.ref a] ∧ SqA K H a (ns.map V.int) ∧ 0 < ns.length ∧ ∀ m, m ∈ ns → (∀ y, y ∈ ns → y ≤ m) → Q (.int m) H
def rMinA (K : PySem.W.Frag) : List V → Hp → VK → Prop := fun vs H Q => ∃ (a : Addr) (ns : List Int), vs = [V.ref a] ∧ SqA K H a (ns.map V.int) ∧ 0 < ns.length ∧ ∀ m, m ∈ ns → (∀ y, y ∈ ns → m ≤ y) → Q (.int m) H
theorem cr_sumA (hc : X.calm = true) : CallR X (.builtin "sum") (rSumA X.K) := by
  intro pins s σ H vs us Q I r h
  obtain ⟨a, ns, rfl, hs, q⟩ := h
  rcases hs with hs | hs
  · exact cr_sum hc pins s σ H _ us Q I r ⟨a, ns, rfl, hs, q⟩
  · obtain ⟨its, rv, hl, _⟩ := I.tuple hs
    rw [Vals.ref1 r]
    exact sum_rawT (I.ok.hd hc) hl rv.ints fun h' tk t' hk => ⟨.int _, H, I.kept hk, ⟨_, rfl⟩, q⟩
theorem cr_maxA (hc : X.calm = true) : CallR X (.builtin "max") (rMaxA X.K) := by
  intro pins s σ H vs us Q I r h
  obtain ⟨a, ns, rfl, hs, hne, q⟩ := h
  rcases hs with hs | hs
  · exact cr_max hc pins s σ H _ us Q I r ⟨a, ns, rfl, hs, hne, q⟩
  · obtain ⟨its, rv, hl, _⟩ := I.tuple hs
    rw [Vals.ref1 r]
    exact max_rawT (I.ok.hd hc) hl rv.ints hne fun h' tk m t' hk h1 h2 => ⟨.int _, H, I.kept hk, ⟨_, rfl⟩, q m h1 h2⟩
theorem cr_minA (hc : X.calm = true) : CallR X (.builtin "min") (rMinA X.K) := by
  intro pins s σ H vs us Q I r h
  obtain ⟨a, ns, rfl, hs, hne, q⟩ := h
  rcases hs with hs | hs
  · exact cr_min hc pins s σ H _ us Q I r ⟨a, ns, rfl, hs, hne, q⟩
  · obtain ⟨its, rv, hl, _⟩ := I.tuple hs
    rw [Vals.ref1 r]
    exact min_rawT (I.ok.hd hc) hl rv.ints hne fun h' tk m t' hk h1 h2 => ⟨.int _, H, I.kept hk, ⟨_, rfl⟩, q m h1 h2⟩
theorem get_list : PGet X (rIxL X.K) := by
  intro pins s σ H x y v u Q I rx ry h
  obtain ⟨p, xs, i, z, rfl, rfl, hq, he, q⟩ := h
  cases rx
  obtain ⟨t, rfl⟩ := ry
  obtain ⟨its, r, pl, hz⟩ := I.list hq
  obtain ⟨j, h1, h2, h3, h4, h5⟩ := atI_get he
  obtain ⟨w, ew, rw'⟩ := r.get h2
  have hl := r.length
  have hn := line63
  have fin : EP X pins σ Q w s := ⟨z, H, I, rw', q⟩
  by_cases h0 : 0 ≤ i
  · have hj : i.toNat = j := by
      rw [seqIndex_of h0 h5] at h1
      exact Option.some.inj h1
    exact wpAny_getItem_list (x := w) pl.isList h0 (by omega) (by rw [hj]; simpa using ew) fin
  · have hj : (i + (its.toArray.size : Int)).toNat = j := by
      rw [seqIndex_neg (by omega) h4] at h1
      rw [List.size_toArray, ← hl]
      exact Option.some.inj h1
    exact wpAny_getItem_list_neg (x := w) pl.isList (by omega) (by rw [List.size_toArray] <;> omega) (by omega) (by rw [hj]; simpa using ew) fin
end
def maxL : List Int → Out Int
  | [] => .bad
  | x :: xs => .ok (xs.foldl (fun m y => if m < y then y else m) x)
def minL : List Int → Out Int
  | [] => .bad
  | x :: xs => .ok (xs.foldl (fun m y => if y < m then y else m) x)
theorem maxL_is : ∀ (xs : List Int) (x M : Int), M ∈ x :: xs → (∀ y ∈ x :: xs, y ≤ M) → xs.foldl (fun m y => if m < y then y else m) x = M
  | [], x, M, h1, h2 => (List.mem_singleton.mp h1).symm
  | y :: ys, x, M, h1, h2 => by
    show ys.foldl _ (if x < y then y else x) = M
    refine maxL_is ys _ M ?_ fun z hz => ?_
    · rcases List.mem_cons.mp h1 with e | h1
      · have := h2 y (by simp)
        by_cases hxy : x < y
        · omega
        · rw [if_neg hxy, e]
          exact List.mem_cons_self
      · rcases List.mem_cons.mp h1 with e | h1
        · have := h2 x (by simp)
          by_cases hxy : x < y
          · rw [if_pos hxy, e]
            exact List.mem_cons_self
          · have : x = M := by omega
            rw [if_neg hxy, this]
            exact List.mem_cons_self
        · exact List.mem_cons_of_mem _ h1
    · rcases List.mem_cons.mp hz with e | hz
      · have a1 := h2 x (by simp)
        have a2 := h2 y (by simp)
        rw [e]
        split <;> omega
      · exact h2 z (by simp [hz])
theorem minL_is : ∀ (xs : List Int) (x M : Int), M ∈ x :: xs → (∀ y ∈ x :: xs, M ≤ y) → xs.foldl (fun m y => if y < m then y else m) x = M
  | [], x, M, h1, h2 => (List.mem_singleton.mp h1).symm
  | y :: ys, x, M, h1, h2 => by
    show ys.foldl _ (if y < x then y else x) = M
    refine minL_is ys _ M ?_ fun z hz => ?_
    · rcases List.mem_cons.mp h1 with e | h1
      · have := h2 y (by simp)
        by_cases hxy : y < x
        · omega
        · rw [if_neg hxy, e]
          exact List.mem_cons_self
      · rcases List.mem_cons.mp h1 with e | h1
        · have := h2 x (by simp)
          by_cases hxy : y < x
          · rw [if_pos hxy, e]
            exact List.mem_cons_self
          · have : x = M := by omega
            rw [if_neg hxy, this]
            exact List.mem_cons_self
        · exact List.mem_cons_of_mem _ h1
    · rcases List.mem_cons.mp hz with e | hz
      · have a1 := h2 x (by simp)
        have a2 := h2 y (by simp)
        rw [e]
        split <;> omega
      · exact h2 z (by simp [hz])
section
variable {c : Cw} {ts tt : List (Option Asn)} {us : List Asn} {es ues : List Ent} {σ : Sl} {vs ws : List V} {H H' : Hp} {α β γ ω S ρ : Type} [Py α] [Py β] [Py γ] {a b e tg iter elt : Expr} {st rest body : List Stmt} {pos : Pos} {post : ω → Exit}
/-- what is a list or a tuple of ints -/
class PyL (τ : Type) [Py τ] where
  l : τ → List Int
  is : ∀ {K : PySem.W.Frag} {H : Hp} {v : V} {x : τ}, Py.rep K H v x → ∃ p, v = .ref p ∧ SqA K H p ((l x).map V.int)
instance : PyL (List Int) := ⟨id, fun ⟨p, zs, e, h, r⟩ => ⟨p, e, .inl (by have := Pd.map_ints r; subst this; exact SqL.of h)⟩⟩
instance : PyL (Tup Int) := ⟨Tup.l, fun ⟨p, zs, e, h, r⟩ => ⟨p, e, .inr (by have := Pd.map_ints r; subst this; exact h)⟩⟩
variable {τ : Type} [Py τ] [PyL τ] {mx : Out τ} {A : τ → Ent} {p : Pos}
theorem je_sumA (hc : c.X.calm = true) (hm : c.X.mg "sum" = none) (rx : ∀ xs, Rd c ts (A xs) xs) (ha : JE c ts a mx A) (hg : Gl c.X "sum" := by rfl) (he : starEach [a] c.X.env = (false, eval a c.X.env) :: starEach [] c.X.env := by rfl) (hpl : (backTo pos (starEach [] c.X.env)).any (·.1) = false := by rfl) :
    JE c ts (.Call (.Name "sum" p) [a] [] pos) (mx.bind fun xs => .ok (PyL.l xs).sum) (Vl c) :=
  je_one1 (t := fun ta => fun σ H Q => ta σ H fun y H1 => rSumA c.X.K [y] H1 Q) (r := fun y H1 Q => rSumA c.X.K [y] H1 Q)
    (fun h => call1 (cr_sumA hc) hg hm (by decide +kernel) (by decide) (by decide) he hpl h) ha (fun h => h) fun {us σ vs H2 xs x Q} E q => by
    obtain ⟨p, ex, hp⟩ := PyL.is (E.rd1 (rx xs))
    subst ex
    exact ⟨p, _, rfl, hp, q _ H2 (Env.pushS (es := [_]) (ws := [_]) (K := c.X.K) (H0 := H2) E rfl rfl)⟩
theorem je_maxA (hc : c.X.calm = true) (hm : c.X.mg "max" = none) (rx : ∀ xs, Rd c ts (A xs) xs) (ha : JE c ts a mx A) (hg : Gl c.X "max" := by rfl) (he : starEach [a] c.X.env = (false, eval a c.X.env) :: starEach [] c.X.env := by rfl) (hpl : (backTo pos (starEach [] c.X.env)).any (·.1) = false := by rfl) :
    JE c ts (.Call (.Name "max" p) [a] [] pos) (mx.bind fun xs => maxL (PyL.l xs)) (Vl c) :=
  je_one1 (t := fun ta => fun σ H Q => ta σ H fun y H1 => rMaxA c.X.K [y] H1 Q) (r := fun y H1 Q => rMaxA c.X.K [y] H1 Q)
    (fun h => call1 (cr_maxA hc) hg hm (by decide +kernel) (by decide) (by decide) he hpl h) ha (fun h => h) fun {us σ vs H2 xs x Q} E q => by
    obtain ⟨p, ex, hp⟩ := PyL.is (E.rd1 (rx xs))
    subst ex
    cases hz : PyL.l xs with
    | nil =>
      rw [hz] at q
      exact q.elim
    | cons z zs =>
      rw [hz] at q hp
      refine ⟨p, _, rfl, hp, Nat.zero_lt_succ _, fun m h1 h2 => ?_⟩
      have e := maxL_is zs z m h1 h2
      have q' : ∀ v H', Env c ts (Vl c (zs.foldl (fun m y => if m < y then y else m) z) :: us) σ (v :: vs) H' → Q v H' := q
      rw [e] at q'
      exact q' _ H2 (Env.pushS (es := [_]) (ws := [_]) (K := c.X.K) (H0 := H2) E rfl rfl)
theorem je_minA (hc : c.X.calm = true) (hm : c.X.mg "min" = none) (rx : ∀ xs, Rd c ts (A xs) xs) (ha : JE c ts a mx A) (hg : Gl c.X "min" := by rfl) (he : starEach [a] c.X.env = (false, eval a c.X.env) :: starEach [] c.X.env := by rfl) (hpl : (backTo pos (starEach [] c.X.env)).any (·.1) = false := by rfl) :
    JE c ts (.Call (.Name "min" p) [a] [] pos) (mx.bind fun xs => minL (PyL.l xs)) (Vl c) :=
  je_one1 (t := fun ta => fun σ H Q => ta σ H fun y H1 => rMinA c.X.K [y] H1 Q) (r := fun y H1 Q => rMinA c.X.K [y] H1 Q)
    (fun h => call1 (cr_minA hc) hg hm (by decide +kernel) (by decide) (by decide) he hpl h) ha (fun h => h) fun {us σ vs H2 xs x Q} E q => by
    obtain ⟨p, ex, hp⟩ := PyL.is (E.rd1 (rx xs))
    subst ex
    cases hz : PyL.l xs with
    | nil =>
      rw [hz] at q
      exact q.elim
    | cons z zs =>
      rw [hz] at q hp
      refine ⟨p, _, rfl, hp, Nat.zero_lt_succ _, fun m h1 h2 => ?_⟩
      have e := minL_is zs z m h1 h2
      have q' : ∀ v H', Env c ts (Vl c (zs.foldl (fun m y => if y < m then y else m) z) :: us) σ (v :: vs) H' → Q v H' := q
      rw [e] at q'
      exact q' _ H2 (Env.pushS (es := [_]) (ws := [_]) (K := c.X.K) (H0 := H2) E rfl rfl)
end
end Mw
set_option maxRecDepth 100000
set_option maxHeartbeats 4000000
namespace Mw
open PySem PySem.Spec PyProof.Rows L2
theorem hpo_ofI {P : Program} {w : World} {K : PySem.W.Frag} {mg : Str → Option Value} {base : Heap} {eg : EK → Addr} {N : List Str} {qual : Str} {st : Stmt} {f : Addr} {cdv : Value} {A : Around} {outer : List PySem.Env} {s : Shared} {H G : Hp} {E : XK} {O : List Addr} :
    PassesOwn (model P w) (cOfI P w K mg base eg N qual st f cdv A outer s H G E O).X.A (cOfI P w K mg base eg N qual st f cdv A outer s H G E O).X.env (cOfI P w K mg base eg N qual st f cdv A outer s H G E O).X.xe :=
  passes_of (X := (cOfI P w K mg base eg N qual st f cdv A outer s H G E O).X) rfl
theorem tk_ofI {P : Program} {w : World} {K : PySem.W.Frag} {mg : Str → Option Value} {base : Heap} {eg : EK → Addr} {N : List Str} {qual : Str} {st : Stmt} {f : Addr} {cdv : Value} {A : Around} {outer : List PySem.Env} {s : Shared} {H G : Hp} {E : XK} {O : List Addr} :
    L2N.Takes (cOfI P w K mg base eg N qual st f cdv A outer s H G E O).X (cOfI P w K mg base eg N qual st f cdv A outer s H G E O).W := L2N.takes_of rfl rfl rfl rfl
theorem zip_get {α β : Type} : ∀ {xs : List α} {ys : List β} {i : Nat} {z : α × β}, (xs.zip ys)[i]? = some z → xs[i]? = some z.1 ∧ ys[i]? = some z.2 := fun {xs ys i z} h => by
  rw [List.getElem?_zip_eq_some] at h
  exact h
section
variable {c : Cw} {ts tt : List (Option Asn)} {us : List Asn} {es ues : List Ent} {σ : Sl} {vs ws : List V} {H H' : Hp} {α β γ ω S ρ : Type} [Py α] [Py β] [Py γ] {a b e tg iter elt : Expr} {st rest body : List Stmt} {pos : Pos} {post : ω → Exit}
/-- zip of two tuples that stay -/
theorem ji_zipT {m1 : Out (Tup α)} {m2 : Out (Tup β)} {p tpos : Pos} {elts : List Expr} {kk : Nat} (hm : c.X.mg "zip" = none) (ha : JE c ts a m1 (Vl c)) (hb : JE c ts b m2 (Vl c)) (hg : Gl c.X "zip" := by rfl)
    (hs : starEach [a, b] c.X.env = (false, eval a c.X.env) :: starEach [b] c.X.env := by rfl) (hs2 : starEach [b] c.X.env = (false, eval b c.X.env) :: starEach [] c.X.env := by rfl) (hpl : (backTo pos (starEach [b] c.X.env)).any (·.1) = false := by rfl) :
    JI c ts (.Tuple elts kk tpos) (.Call (.Name "zip" p) [a, b] [] pos) (m1.bind fun x => m2.bind fun y => .ok (x.l.zip y.l)) (fun x => asn c.X.K c.G .val x) :=
  PI.imp (RZ.pi_zipA hg hm (pa_cons ha (pa_cons hb pa_nil hs2) hs) hs hpl) fun σ H R ⟨us, vs, E, q⟩ => ⟨us, vs, E, Out.wp_mono (Out.wp_bind q) (fun xs _ q => by
    intro v H1 E1
    refine ⟨_, _, E1, Out.wp_mono (Out.wp_bind q) (fun ys _ q => ?_) fun er _ z d H' e1 E3 => z d H' e1 (EnvX.pop (es := [_]) (ws := [_]) E3 rfl)⟩
    intro w H2 E2
    obtain ⟨F1, F2, E0⟩ := id E2
    obtain ⟨G1, G2, eG, k1, G3, G4, eG', k2, _⟩ := E0.sk
    obtain ⟨p1, z1, e1, t1, r1⟩ := k2.2
    obtain ⟨p2, z2, e2, t2, r2⟩ := k1.2
    subst e1 e2
    have q' : ∀ J H' ps pv, ps.length = pv.length → Src c J ps pv (xs.l.zip ys.l) (fun x => asn c.X.K c.G .val x) → Env c ts (ps.map .as ++ us) σ (pv ++ vs) H' → R J H' := q
    refine ⟨p1, p2, z1, z2, rfl, .inr ⟨Same.seqT hide_le t1, Same.seqT hide_le t2, q' (RZ.ItzT c.X.K p1 p2) H2 [asn c.X.K c.G .val ys, asn c.X.K c.G .val xs] [.ref p2, .ref p1] rfl ⟨fun {ts us σ vs H i x} E hx => ?_, fun {ts us σ vs H} E => ?_⟩ E2⟩⟩
    · obtain ⟨F1, F2, E2⟩ := id E
      obtain ⟨G1, G2, eG, k1, G3, G4, eG', k2, _⟩ := E2.sk
      obtain ⟨p1', z1', e1, t1, r1⟩ := k2.2
      obtain ⟨p2', z2', e2, t2, r2⟩ := k1.2
      cases e1
      cases e2
      obtain ⟨hx1, hx2⟩ := zip_get hx
      obtain ⟨v1, hv1, rv1⟩ := Pd.get r1 hx1
      obtain ⟨v2, hv2, rv2⟩ := Pd.get r2 hx2
      have t1' := Same.seqT (K := c.X.K) hide_le t1
      have t2' := Same.seqT (K := c.X.K) hide_le t2
      refine ⟨⟨z1', z2', v1, v2, t1', t2', hv1, hv2⟩, fun y H' ⟨T, w1, w2, ey, hT, eH, hy1, hy2⟩ => ?_⟩
      subst ey eH
      have ew1 := hy1 z1' t1'
      rw [hv1] at ew1
      cases ew1
      have ew2 := hy2 z2' t2'
      rw [hv2] at ew2
      cases ew2
      exact ⟨F1, F2, EnvF.top (es := []) (ws := []) (FB := []) (F := []) E2 E2.sk (same_new hT) (fun _ h => (nomatch h)) List.nodup_nil (fun _ h => (nomatch h)) fun P' s' n _ => ⟨rfl, T, _, _, rfl, SqT.of (n T _ (.inl hT) (by simp) upd_same), Py.mono s' rv1, Py.mono s' rv2⟩⟩
    · obtain ⟨F1, F2, E2⟩ := id E
      obtain ⟨G1, G2, eG, k1, G3, G4, eG', k2, _⟩ := E2.sk
      obtain ⟨p1', z1', e1, t1, r1⟩ := k2.2
      obtain ⟨p2', z2', e2, t2, r2⟩ := k1.2
      cases e1
      cases e2
      refine ⟨z1', z2', Same.seqT (K := c.X.K) hide_le t1, Same.seqT (K := c.X.K) hide_le t2, ?_⟩
      rw [List.length_zip, Pd.len r1, Pd.len r2]
      rcases Nat.le_total xs.l.length ys.l.length with h | h
      · left; rw [Nat.min_eq_left h]; exact Nat.le_refl _
      · right; rw [Nat.min_eq_right h]; exact Nat.le_refl _) fun _ _ z => z⟩
/-- zip of two lists -/
theorem ji_zipL {m1 : Out (List α)} {m2 : Out (List β)} {A : List α → Asn} {B : List β → Asn} {p tpos : Pos} {elts : List Expr} {kk : Nat} (hm : c.X.mg "zip" = none) (rx : ∀ {ts : List (Option Asn)} xs, RdE c ts (.as (A xs)) xs) (ry : ∀ {ts : List (Option Asn)} xs, RdE c ts (.as (B xs)) xs) (ha : JE c ts a m1 (fun x => .as (A x))) (hb : JE c ts b m2 (fun x => .as (B x))) (hg : Gl c.X "zip" := by rfl)
    (hs : starEach [a, b] c.X.env = (false, eval a c.X.env) :: starEach [b] c.X.env := by rfl) (hs2 : starEach [b] c.X.env = (false, eval b c.X.env) :: starEach [] c.X.env := by rfl) (hpl : (backTo pos (starEach [b] c.X.env)).any (·.1) = false := by rfl) :
    JI c ts (.Tuple elts kk tpos) (.Call (.Name "zip" p) [a, b] [] pos) (m1.bind fun x => m2.bind fun y => .ok (x.zip y)) (fun x => asn c.X.K c.G .val x) :=
  PI.imp (RZ.pi_zipA hg hm (pa_cons ha (pa_cons hb pa_nil hs2) hs) hs hpl) fun σ H R ⟨us, vs, E, q⟩ => ⟨us, vs, E, Out.wp_mono (Out.wp_bind q) (fun xs _ q => by
    intro v H1 E1
    refine ⟨_, _, E1, Out.wp_mono (Out.wp_bind q) (fun ys _ q => ?_) fun er _ z d H' e1 E3 => z d H' e1 (EnvX.pop (es := [_]) (ws := [_]) E3 rfl)⟩
    intro w H2 E2
    obtain ⟨F1, F2, E0⟩ := id E2
    obtain ⟨G1, G2, eG, k1, G3, G4, eG', k2, _⟩ := E0.sk
    obtain ⟨p1, z1, e1, t1, r1⟩ := rx xs E0.part E0.g E0.sl k2
    obtain ⟨p2, z2, e2, t2, r2⟩ := ry ys E0.part E0.g E0.sl k1
    subst e1 e2
    have q' : ∀ J H' ps pv, ps.length = pv.length → Src c J ps pv (xs.zip ys) (fun x => asn c.X.K c.G .val x) → Env c ts (ps.map .as ++ us) σ (pv ++ vs) H' → R J H' := q
    refine ⟨p1, p2, z1, z2, rfl, .inl ⟨SqL.of t1, SqL.of t2, q' (Itz c.X.K p1 p2) H2 [B ys, A xs] [.ref p2, .ref p1] rfl ⟨fun {ts us σ vs H i x} E hx => ?_, fun {ts us σ vs H} E => ?_⟩ E2⟩⟩
    · obtain ⟨F1, F2, E2⟩ := id E
      obtain ⟨G1, G2, eG, k1, G3, G4, eG', k2, _⟩ := E2.sk
      obtain ⟨p1', z1', e1, t1, r1⟩ := rx xs E2.part E2.g E2.sl k2
      obtain ⟨p2', z2', e2, t2, r2⟩ := ry ys E2.part E2.g E2.sl k1
      cases e1
      cases e2
      obtain ⟨hx1, hx2⟩ := zip_get hx
      obtain ⟨v1, hv1, rv1⟩ := Pd.get r1 hx1
      obtain ⟨v2, hv2, rv2⟩ := Pd.get r2 hx2
      refine ⟨⟨z1', z2', v1, v2, SqL.of t1, SqL.of t2, hv1, hv2⟩, fun y H' ⟨T, w1, w2, ey, hT, eH, hy1, hy2⟩ => ?_⟩
      subst ey eH
      have ew1 := hy1 z1' (SqL.of t1)
      rw [hv1] at ew1
      cases ew1
      have ew2 := hy2 z2' (SqL.of t2)
      rw [hv2] at ew2
      cases ew2
      exact ⟨F1, F2, EnvF.top (es := []) (ws := []) (FB := []) (F := []) E2 E2.sk (same_new hT) (fun _ h => (nomatch h)) List.nodup_nil (fun _ h => (nomatch h)) fun P' s' n _ => ⟨rfl, T, _, _, rfl, SqT.of (n T _ (.inl hT) (by simp) upd_same), Py.mono s' rv1, Py.mono s' rv2⟩⟩
    · obtain ⟨F1, F2, E2⟩ := id E
      obtain ⟨G1, G2, eG, k1, G3, G4, eG', k2, _⟩ := E2.sk
      obtain ⟨p1', z1', e1, t1, r1⟩ := rx xs E2.part E2.g E2.sl k2
      obtain ⟨p2', z2', e2, t2, r2⟩ := ry ys E2.part E2.g E2.sl k1
      cases e1
      cases e2
      refine ⟨z1', z2', SqL.of t1, SqL.of t2, ?_⟩
      rw [List.length_zip, Pd.len r1, Pd.len r2]
      rcases Nat.le_total xs.length ys.length with h | h
      · left; rw [Nat.min_eq_left h]; exact Nat.le_refl _
      · right; rw [Nat.min_eq_right h]; exact Nat.le_refl _) fun _ _ z => z⟩
/-- t[lo:hi] -/
theorem je_sliceT {lo hi : Option Expr} {p2 : Pos} {mx : Out (Tup α)} {ml mh : Out (Option Int)} (ha : JE c ts a mx (Vl c)) (hl : JO c ts lo ml) (hh : JO c ts hi mh) : JE c ts (.Subscript a (.Slice lo hi none p2) pos) (mx.bind fun xs => ml.bind fun l => mh.bind fun h => .ok (Tup.mk (cut xs.l l h))) (Vl c) :=
  je_sliceG sl_tupA ha hl hh fun {us σ vs H2 xs x l h Q} E q => by
    obtain ⟨F1, FB, F2, E, k, h2⟩ := Env.open (es := [_]) (ws := [_]) E rfl
    obtain ⟨_, p, zs, ex, t, r⟩ := StkL.one k
    subst ex
    have q' : ∀ v H', Env c _ (Vl c (Tup.mk (cut xs.l l h)) :: us) σ (v :: vs) H' → Q v H' := q
    refine ⟨p, zs, rfl, Same.seqT hide_le t, fun ⟨e1, e2⟩ => ?_, fun _ n hn => ?_⟩
    · refine q' _ _ (E.pushV h2 (Same.refl _) fun P' s' _ _ => ⟨p, zs, rfl, Same.seqT s' t, ?_⟩)
      have e : cut xs.l l h = xs.l := by
        have el := Pd.len r
        unfold cut
        rw [← el, e1, e2, List.drop_zero, Nat.sub_zero, el, List.take_length]
      show Reps c.X.K P' zs (cut xs.l l h)
      rw [e]
      exact r.mono s'
    · exact q' _ _ (E.pushV h2 (same_new hn) fun P' s' m _ => ⟨n, _, rfl, .inl (.inl (m n _ (.inl hn) upd_same)), Pd.cut (r.mono s')⟩)
/-- xs[i] op= e, ints -/
theorem js_augI {op : Operator} {g : Int → Int → Int} {xs : List Int} {n : Str} {p1 p2 : Pos} {mi me : Out Int} {k : List Int → Out ω} (i : Nat) (ho : PIp c.X op (ipI g)) (h : ts[i]? = some (some (asn c.X.K c.G .own xs))) (hn : PE c.X (.Name n p1) (tVar i)) (hi : JE c ts b mi (Vl c)) (he : JE c ts e me (Vl c))
    (hk : ∀ xs', JS c (ts.set i (some (asn c.X.K c.G .own xs'))) rest (k xs') post)
    (ha : ∀ ov iv new, augStore b ov iv new = (do holding [new, ov, iv] (setItem ov iv new); release [new, ov, iv] []; pure .next) := by intros; rfl) :
    JS c ts (.AugAssign (.Subscript (.Name n p1) b p2) op e pos :: rest) (mi.bind fun j => (item xs j).bind fun x => me.bind fun y => (setAt xs j (g x y)).bind k) post :=
  PSs.imp (pss_cons (ps_augS hn hi get_list he ho set_list ha) (PSs.ex hk)) fun D σ H ⟨us, vs, E, q⟩ => by
    obtain ⟨v0, P0, F0, F01, e0, _, _, q0⟩ := E.slot h
    obtain ⟨l0, zs0, el, _, hH0, rr⟩ := q0
    subst el
    refine ⟨_, e0, tJ_S (A := fun y => asn c.X.K c.G .val y) E (Out.wp_mono (Out.wp_bind q) (fun j _ q v H1 E1 => ?_) fun _ _ z => z)⟩
    have ev : v = .int j := E1.rd1 rdV
    subst ev
    obtain ⟨l1, zs1, P1, F1, FB, e1, hH1, r1, _, _, sk, _⟩ := Env.mut (es := [_]) (ws := [_]) (ues := us.map .as) E1 rfl h
    rw [e0] at e1
    cases e1
    have q1 := Out.wp_bind q
    unfold item at q1
    cases hx : atI xs j with
    | none =>
      rw [hx] at q1
      exact q1.elim
    | some x =>
      rw [hx] at q1
      obtain ⟨v2, hv2, rv2⟩ := Pd.at r1 hx
      have ev2 : v2 = .int x := rv2
      subst ev2
      refine ⟨l0, zs1, j, _, rfl, rfl, SqL.of hH1, hv2, ?_⟩
      have q2 : (me.bind fun y => (setAt xs j (g x y)).bind k).wp (fun w => ExitOk c us vs D (post w)) (ExS c us vs) := q1
      refine ⟨_, _, E1, Out.wp_mono (Out.wp_bind q2) (fun y _ q w H2 E2 => ?_) fun e _ z d H' e1 E3 => z σ d H' e1 (EnvX.pop (es := [_]) (ws := [_]) E3 rfl)⟩
      have ew : w = .int y := E2.rd1 rdV
      subst ew
      refine ⟨x, y, rfl, rfl, ?_⟩
      obtain ⟨l2, zs2, P2, F12, FB2, e12, hH2, r2, _, _, sk2, put⟩ := Env.mut (es := [_, _]) (ws := [_, _]) (ues := us.map .as) E2 rfl h
      rw [e0] at e12
      cases e12
      unfold setAt at q
      cases hx2 : ixN xs.length j with
      | none =>
        rw [hx2] at q
        exact q.elim
      | some n =>
        rw [hx2] at q
        exact ⟨l0, zs2, j, n, rfl, rfl, hH2, by rw [Pd.len r2]; exact hx2, _, us, vs, put _ _ fun P' s' f => Pd.set (R := fun v x => Py.rep c.X.K P' v x) (show Py.rep c.X.K P' (.int (g x y)) (g x y) from rfl) n (r2.mono s'), q⟩
/-- a list of ints into names -/
def gsN : List Nat → TGs
  | [] => gNil
  | i :: r => gCons (gName i) (gsN r)
def upN (c : Cw) (x : List Int) : Nat → List Nat → List (Option Asn) → List (Option Asn)
  | _, [], ts => ts
  | k, i :: r, ts => upN c x (k + 1) r (ts.set i (some (asn c.X.K c.G .val (x.getD k 0))))
def asnN (c : Cw) (n : Nat) (x : List Int) : Asn := ⟨fun P H F v => x.length = n ∧ (asn c.X.K c.G .own x).p P H F v, fun s k h => ⟨h.1, (asn c.X.K c.G .own x).st s k h.2⟩⟩
def unpI (n : Nat) (xs : List Int) : Out (List Int) := if xs.length = n then .ok xs else .bad
theorem je_unp {m : Out (List Int)} (n : Nat) (h : JE c ts e m (Ow c)) : JE c ts e (m.bind (unpI n)) (fun x => .as (asnN c n x)) := je_mp (fun x y e => by
  unfold unpI at e
  split at e
  · cases e
    exact fun h => ⟨by assumption, h⟩
  · cases e) (fun x => by
  unfold unpI
  split
  · exact .inr ⟨_, rfl⟩
  · exact .inl rfl) h
theorem upN_go {x : List Int} {Q : L2.St → Hp → Prop} : ∀ (is : List Nat) (k : Nat) (ts : List (Option Asn)) (σ : Sl) (H : Hp), (∀ i ∈ is, i < ts.length) → k + is.length = x.length → Env c ts (us.map .as) σ vs H → (∀ σ' H', Env c (upN c x k is ts) (us.map .as) σ' vs H' → Q σ' H') → gsN is ((x.drop k).map V.int) σ H Q
  | [], k, ts, σ, H, _, hk, E, q => ⟨by rw [List.drop_of_length_le (by simp at hk; omega)]; rfl, q σ H E⟩
  | i :: is, k, ts, σ, H, hi, hk, E, q => by
    have hlt : k < x.length := by simp at hk; omega
    have e1 : x.getD k 0 = x[k] := by rw [List.getD_eq_getElem?_getD, List.getElem?_eq_getElem hlt]; rfl
    refine ⟨.int (x.getD k 0), (x.drop (k + 1)).map V.int, by rw [List.drop_eq_getElem_cons hlt, e1]; rfl, ?_⟩
    have E2 : Env c ts ((asn c.X.K c.G .val (x.getD k 0) :: us).map .as) σ (.int (x.getD k 0) :: vs) H := Env.pushS (es := []) (ws := []) (K := c.X.K) (H0 := H) E rfl rfl
    exact upN_go is (k + 1) _ _ H (fun j hj => by rw [List.length_set]; exact hi j (by simp [hj])) (by simp at hk; omega) (E2.store (hi i (by simp))) q
theorem tgt_unl (n : Nat) (is : List Nat) (m : Nat) (hm : ∀ i ∈ is, i < m) (hn : is.length = n) : Tgt c m (gUnl c.X.K n (gsN is)) (asnN c n) (fun x ts => upN c x 0 is ts) := @fun x ts us σ y vs H Q hl E q => by
  obtain ⟨F1, F2, E0⟩ := id E
  obtain ⟨G1, G2, eG, kk, _⟩ := E0.sk
  obtain ⟨hlen, p, zs, ey, _, hp, r⟩ := kk
  have ez := Pd.map_ints r
  subst ez ey
  refine ⟨p, _, rfl, SqL.of hp, by rw [List.length_map]; exact hlen, ?_⟩
  have := upN_go (x := x) (Q := Q) is 0 ts σ H (fun i hi => Nat.lt_of_lt_of_le (hm i hi) hl) (by omega) (Env.pop (es := [_]) (ws := [_]) E rfl) q
  simpa using this
end
section
variable {c : Cw} {ts tt : List (Option Asn)} {α β γ ω S ρ : Type} {a b e tg iter elt : Expr} {st rest body : List Stmt} {pos : Pos} {post : ω → Exit}
/-- x += e, ints -/
theorem js_augB {op : Operator} {g : Int → Int → Int} {x : Int} {md : Md} {n : Str} {p1 : Pos} {m : Out Int} {k : Int → Out ω} (i : Nat) (ho : PIp c.X op (ipI g)) (h : ts[i]? = some (some (asn c.X.K c.G md x))) (hN : c.X.N.Nodup) (hi : c.X.N[i]? = some n) (he : JE c ts e m (Vl c))
    (hk : ∀ y, JS c (ts.set i (some (asn c.X.K c.G .val y))) rest (k y) post) (hl : i < ts.length := by exact Nat.lt_of_succ_le (Nat.le_of_ble_eq_true rfl)) (hx : Loc c.X.env.scope n := by first | exact Or.inl rfl | exact Or.inr rfl)
    (hf : c.X.fn n = true ∨ c.X.env.scope.names.lookup n = some .local := by first | exact .inl rfl | exact .inr rfl | assumption) : JS c ts (.AugAssign (.Name n p1) op e pos :: rest) ((m.bind fun y => .ok (g x y)).bind k) post := by
  have e1 : ((m.bind fun y => Out.ok (g x y)).bind k) = m.bind fun y => k (g x y) := by cases m <;> rfl
  rw [e1]
  exact js_aug i ho h hN hi he hk hl hx hf
end
/-! code that is not reached -/
theorem js_any {c : Cw} {ts : List (Option Asn)} {ω : Type} {st : List Stmt} {post : ω → Exit} : JS c ts st (.bad : Out ω) post := ⟨fun _ _ _ _ _ _ ⟨_, _, _, q⟩ => q.elim⟩
theorem je_any {c : Cw} {ts : List (Option Asn)} {α : Type} {e : Expr} {A : α → Ent} : JE c ts e (.bad : Out α) A := ⟨fun _ _ _ _ _ _ ⟨_, _, _, q⟩ => q.elim⟩
theorem jt_any {c : Cw} {ts : List (Option Asn)} {e : Expr} : JT c ts e .bad := ⟨fun _ _ _ _ _ _ ⟨_, _, _, q⟩ => q.elim⟩
/-! isinstance(e, (A, B, ..)) of a caught error -/
theorem kitAny_of {K : PySem.W.Frag} {t : Value} : ∀ {us : List Value} {bs : List Bool}, Paired (fun u b => PySem.W.kitOne K t u = some b) us bs → PySem.W.kitAny K t us = some (bs.any id)
  | _, _, .nil => rfl
  | _, b :: bs, .cons h r => kitAny_cons h (fun e => by rw [kitAny_of r, e]; rfl) (fun e => by rw [e]; rfl)
theorem call_isET {X : Cx} {a D : Addr} {d : Option Addr} {oe : Obj} {pn : List (Addr × Obj)} (C : ExcC X.K D) (hz : Zc (.ref D) d oe) (hf : ∃ vs, oe.data = .fields vs) : CallR (X.suite a ((a, oe) :: pn)) (.builtin "isinstance")
    (fun xs H Q => ∃ (tp : Addr) (cs : List V) (us : List Value) (b : Bool), xs = [.ref a, .ref tp] ∧ H tp = some (.tup cs) ∧ Paired ClsV cs us ∧ (∀ dd, d = some dd → ∃ fs, H dd = some (.xd fs)) ∧ PySem.W.kitAny X.K (.ref D) us = some b ∧ Q (.bl b) H) := by
  intro pins s σ H xs us Q I r h
  obtain ⟨tp, cs, ws, b, rfl, hT, k, hd, e, q⟩ := h
  obtain ⟨u1, u2, rfl, r1, r2⟩ := vals2 r
  cases (show u1 = Value.ref a from r1)
  cases (show u2 = Value.ref tp from r2)
  obtain ⟨_, its, rv, o, h1, h2, n, h3⟩ := (show ObjOk X.prog X.w H s.heap tp (.tup cs) from I.hok tp _ hT)
  have e3 := ClsV.all k rv
  subst e3
  obtain ⟨oc, od, dt, sl⟩ := o
  simp only at h2 h3
  subst h2 h3
  obtain ⟨hget, _⟩ := I.pin (a, oe) (List.mem_append.mpr (.inl List.mem_cons_self))
  obtain ⟨vs, hv⟩ := hf
  cases d with
  | none =>
    have J : PySem.W.InstAt s.heap a oe D none := by
      obtain ⟨oc, od, oda, osl⟩ := oe
      obtain ⟨h1, h2⟩ := hz
      dsimp only at h1 h2 hv
      subst h1 h2 hv
      exact ⟨hget, rfl, rfl, trivial⟩
    exact PySem.W.kia_tup (PySem.W.handS_kitx_exc C.hg C.hk C.hs C.hd C.ha C.hn C.ht C.hm) I.kIn J h1 e (fun z => nomatch z) fun tk => ⟨.bl b, H, I.kept (t' := tk) fun _ _ z => z, rfl, q⟩
  | some dd =>
    obtain ⟨fs, ea⟩ := hd dd rfl
    have hx : ObjOk X.prog X.w H s.heap dd (.xd fs) := I.hok dd _ ea
    obtain ⟨mA, hns, hr⟩ := hx
    obtain ⟨od, ho, hl⟩ := lookIn_ns hns
    have J : PySem.W.InstAt s.heap a oe D (some od) := ⟨hget, hz.1, by unfold PySem.W.notCls; rw [hv] <;> rfl, by rw [hz.2]; exact ho⟩
    exact PySem.W.kia_tup (Ki.kit_any C (PySem.W.findObj_data (by obtain ⟨cd, hc, _⟩ := PySem.W.any_some C.hd; rw [hc]; rfl) C.ha C.hn C.ht)) I.kIn J h1 e (fun z => nomatch z) fun tk => ⟨.bl b, H, I.kept (t' := tk) fun _ _ z => z, rfl, q⟩
def tCs (vs : List V) : TA := fun _ H Q => Q vs H
theorem pcs_nil {X : Cx} : PA X [] (tCs []) := pa_nil
theorem pcs_cons {X : Cx} {e : Expr} {es : List Expr} {v : V} {vs : List V} (h : PE X e (tC v)) (t : PA X es (tCs vs)) (hs : starEach (e :: es) X.env = (false, eval e X.env) :: starEach es X.env := by rfl) : PA X (e :: es) (tCs (v :: vs)) := pa_cons h t hs
section
variable {c : Cw} {ts : List (Option Asn)} {us es ues : List Ent} {σ : Sl} {vs ws : List V} {H H' : Hp} {er : Err} {at1 : Addr} {d : Option Addr} {oe : Obj} {pn : List (Addr × Obj)} {pos : Pos}
theorem je_isET {n : Str} {p p1 p2 : Pos} {xs : List Expr} {kk : Nat} {cws : List V} {cvs : List Value} {bs : List Bool} (i : Nat) (h : ts[i]? = some (some (exA at1 d er))) (T : ExcC c.X.K (c.eg er.k)) (hz : Zc (.ref (c.eg er.k)) d oe) (hf : ∃ vs, oe.data = .fields vs)
    (hn : PE (c.su at1 ((at1, oe) :: pn)).X (.Name n p1) (tVar i)) (hx : PA (c.su at1 ((at1, oe) :: pn)).X xs (tCs cws)) (hcv : Paired ClsV cws cvs) (hk : Paired (fun u b => PySem.W.kitOne c.X.K (.ref (c.eg er.k)) u = some b) cvs bs)
    (hm : c.X.mg "isinstance" = none) (hlen : cws.length ≤ 100 := by exact Nat.le_of_ble_eq_true rfl) (hg : Gl c.X "isinstance" := by rfl)
    (h1 : starEach [.Name n p1, .Tuple xs kk p2] c.X.env = (false, eval (.Name n p1) c.X.env) :: starEach [.Tuple xs kk p2] c.X.env := by rfl) (h2 : starEach [.Tuple xs kk p2] c.X.env = (false, eval (.Tuple xs kk p2) c.X.env) :: starEach [] c.X.env := by rfl) (hpl : (backTo pos (starEach [.Tuple xs kk p2] c.X.env)).any (·.1) = false := by rfl) :
    JE (c.su at1 ((at1, oe) :: pn)) ts (.Call (.Name "isinstance" p) [.Name n p1, .Tuple xs kk p2] [] pos) (.ok (bs.any id)) (Vl (c.su at1 ((at1, oe) :: pn))) := by
  refine PE.imp (pe_callB (X := (c.su at1 ((at1, oe) :: pn)).X) (call_isET T hz hf) hg hm (by decide +kernel) (pa_cons hn (pa_cons (pe_tup hx) pa_nil h2) h1) (by decide) (by decide) h1 hpl) fun σ H Q ⟨us, vs, E, q⟩ => ?_
  obtain ⟨v0, P0, F0, F01, e0, pp, el0, q0⟩ := E.slot h
  obtain ⟨_, ev, h3⟩ := q0
  subst ev
  refine ⟨_, e0, Nat.le_trans hlen (by rw [sizeLine_eq]; omega), fun p hp => ?_⟩
  have E2 : Env (c.su at1 ((at1, oe) :: pn)) ts us σ vs (upd H p (.tup cws)) := E.same (same_new hp)
  refine ⟨p, cws, cvs, _, rfl, upd_same, hcv, fun dd e => ?_, kitAny_of hk, q _ _ (Env.pushS (es := []) (ws := []) (K := c.X.K) (H0 := H) E2 rfl rfl)⟩
  subst e
  unfold ErrAt at h3
  cases hfs : er.fs with
  | none =>
    simp only [hfs] at h3
    cases h3
  | some fs =>
    simp only [hfs] at h3
    obtain ⟨a2, z, ha2⟩ := h3
    cases z
    exact ⟨fs, same_new hp _ _ (pp.le _ _ ha2)⟩
end
/-! ### defs called in an except clause -/
section
variable {c : Cw} {ts tt : List (Option Asn)} {us : List Asn} {es ues : List Ent} {σ : Sl} {vs ws : List V} {H H' : Hp} {α β γ ω S ρ : Type} [Py α] [Py β] [Py ρ] {a b e tg iter elt : Expr} {st rest body : List Stmt} {pos : Pos} {post : ω → Exit}
theorem takes0N {X : Cx} : L2N.Takes X (fun _ _ _ _ => False) := fun u s' ⟨_, _, _, _, _, _, _, _, _, _, _, _, _, _, _, _, z⟩ => z.elim
theorem ji_range1H {m : Out Int} {p : Pos} (hm : c.X.mg "range" = none) (ha : JE c ts a m (Vl c)) (hg : Gl c.X "range" := by rfl) (hs : starEach [a] c.X.env = [(false, eval a c.X.env)] := by rfl) :
    JIH c ts tg (.Call (.Name "range" p) [a] [] pos) (m.bind fun n => chk (rngOk n) (rangeI 0 n.toNat)) (fun x => asn c.X.K c.G .val x) := by
  have h := L2H.pi_range1H (tg := tg) hg hm (pa_cons ha pa_nil hs) hs (p := p) (pos := pos)
  refine ⟨fun pins s σ H R I ⟨us, vs, E, q⟩ => h.run pins s σ H R I ⟨us, vs, E, Out.wp_mono (Out.wp_bind q) (fun n _ q => ?_) fun _ _ z => z⟩⟩
  intro v H1 E1
  have ev : v = .int n := E1.rd1 rdV
  subst ev
  obtain ⟨hn, q⟩ := wp_chk q
  exact ⟨n, rfl, hn.1, hn.2, q _ H1 [] [] rfl src_range (Env.pop (es := [_]) (ws := [_]) E1 rfl)⟩
theorem je_fnH {x : Str} {p : Pos} {e : Expr} {es : List Expr} {m : Out γ} {Es : γ → List Ent} {As : γ → List ArgP} {mf : γ → Out ρ} {md : Md} {k : Nat} {f : Addr} {fd : FuncData} {ps : List Str}
    (F : L2H.FnH c.X.prog c.X.w c.X.K c.X.mg c.X.base (L2N.CX c.X.prog c.X.w) k f fd ps (spM c.X.K c.eg md mf As)) (hr : L2H.RoomH k c.X.A) (hc : L2H.HotC c.X) (hm : c.X.mg x = some (.ref f)) (hk : PySem.W.keepIn c.X.K (.ref f) = true) (hb : Binds c.X.K fd ps []) (tk : L2N.Takes c.X c.W)
    (ha : JA c ts (e :: es) m Es) (hp : ∀ x, PsL c ts (Es x) (As x)) (hw : WkX c ts) (hmd : md = .val ∨ md = .own := by first | exact .inl rfl | exact .inr rfl) (hg : Gl c.X x := by rfl) (hdb : (x == ("__debug__" : Str)) = false := by decide)
    (he : starEach (e :: es) c.X.env = (false, eval e c.X.env) :: starEach es c.X.env := by rfl) (hpl : (backTo pos (starEach es c.X.env)).any (·.1) = false := by rfl) :
    JE c ts (.Call (.Name x p) (e :: es) [] pos) (m.bind fun x => mf x) (fun r => .as (asn c.X.K c.G md r)) :=
  je_call (CX := L2N.CX c.X.prog c.X.w) (k := k) (f := f) (fd := fd) (ps := ps) hmd (fun h => L2H.pe_callH F hr hc hg hm hk hb (fun σ => L2N.passAt tk σ) h hdb he hpl) ha hp hw
theorem hotC_su {at1 : Addr} {oe : Obj} {cls : Value} {d : Option Addr} {pn : List (Addr × Obj)} (hz : L2N.Zn cls d oe) (hf : ∃ vs, oe.data = .fields vs) : L2H.HotC (c.su at1 ((at1, oe) :: pn)).X := by
  obtain ⟨vs, e⟩ := hf
  exact ⟨(at1, oe), ⟨rfl, vs, e, hz.2.2 vs e⟩, List.mem_cons_self⟩
theorem roomH_su {at1 : Addr} {pn : List (Addr × Obj)} {k j : Nat} (hr : Room k c.X.A) (h : j ≤ k) : L2H.RoomH j (c.su at1 pn).X.A := L2H.RoomH.mono ⟨hr.dp, hr.un⟩ h
end
section
variable {P : Program} {w : World} {K : PySem.W.Frag} {mg : Str → Option Value} {base : Heap}
abbrev cOfH (P : Program) (w : World) (K : PySem.W.Frag) (mg : Str → Option Value) (base : Heap) (eg : EK → Addr) (N : List Str) (qual : Str) (st : Stmt) (f : Addr) (cdv : Value) (A : Around) (outer : List PySem.Env) (s : Shared) (H : Hp) (E : XK) (O : List Addr) (p : Addr × Obj) : Cw :=
  { X := L2H.cxH (L2N.CX P w) P w K mg base N qual (defScope st) f cdv A outer s H E p, G := H, Of := O, W := fun cls d _ H => E cls d H, tx := none, eg := eg }
theorem hpo_ofH {eg : EK → Addr} {N : List Str} {qual : Str} {st : Stmt} {f : Addr} {cdv : Value} {A : Around} {outer : List PySem.Env} {s : Shared} {H : Hp} {E : XK} {O : List Addr} {p : Addr × Obj} :
    PassesOwn (model P w) (cOfH P w K mg base eg N qual st f cdv A outer s H E O p).X.A (cOfH P w K mg base eg N qual st f cdv A outer s H E O p).X.env (cOfH P w K mg base eg N qual st f cdv A outer s H E O p).X.xe :=
  passes_of (X := (cOfH P w K mg base eg N qual st f cdv A outer s H E O p).X) rfl
theorem tk_ofH {eg : EK → Addr} {N : List Str} {qual : Str} {st : Stmt} {f : Addr} {cdv : Value} {A : Around} {outer : List PySem.Env} {s : Shared} {H : Hp} {E : XK} {O : List Addr} {p : Addr × Obj} :
    L2N.Takes (cOfH P w K mg base eg N qual st f cdv A outer s H E O p).X (cOfH P w K mg base eg N qual st f cdv A outer s H E O p).W := L2N.takes_of rfl rfl rfl rfl
theorem fn_mirH {γ ρ : Type} [Py ρ] {x qual : Str} {st : Stmt} {f : Addr} {fd : FuncData} {N ps : List Str} {k : Nat} {eg : EK → Addr} {md : Md} {mf : γ → Out ρ} {As : γ → List ArgP} (F : Fun K x qual st f fd) (S : FnScope N ps (defScope st)) (Ss : γ → List (ArgS K)) (hAs : ∀ y, As y = (Ss y).map (·.p)) (hl : ∀ y, (Ss y).length = ps.length)
    (body : ∀ (cdv : Value) (A : Around) (outer : List PySem.Env) (s : Shared) (H : Hp) (E : XK) (O : List Addr) (y : γ) (p : Addr × Obj), L2H.HotC (cOfH P w K mg base eg N qual st f cdv A outer s H E O p).X → L2H.RoomH k (A.deeper (envOfC qual (defScope st) s.heap.objs.size f cdv)) →
      JS (cOfH P w K mg base eg N qual st f cdv A outer s H E O p) (((Ss y).map fun s => some (s.t H)) ++ List.replicate (N.length - ps.length) none) (defBody st) (mf y) (fun r => .ret (asn K H md r))) :
    L2H.FnH P w K mg base (L2N.CX P w) (k + 1) f fd ps (spM K eg md mf As) := by
  have len : ∀ vs H (Q : VK) (E : XK), spM K eg md mf As vs H Q E → vs.length = ps.length := fun vs H Q E h => by
    obtain ⟨y, O, _, hp, _⟩ := h
    rw [Pd.len hp, hAs, List.length_map, hl]
  obtain ⟨oc, od, kV, doc, pm, an, cdv, ct, osl, rfl, lk, hcd⟩ := F.ex
  refine L2H.fn_ofH lk hcd S len fun A outer s H vs Q E p hot hr h => ?_
  obtain ⟨y, O, hO, hp, q⟩ := id h
  refine ⟨_, body cdv A outer s H E O y p ⟨p, hot, List.mem_cons_self⟩ hr, [], [], ?_, ?_⟩
  · rw [hAs] at hp
    refine ⟨[], [], ?_, rfl, List.nodup_nil, fun a ha => (nomatch ha), Same.refl _, hO⟩
    have hvl := len vs H Q E h
    unfold L2.start
    rw [hvl, show ([] : List Addr) ++ [] = [] from rfl, List.append_nil]
    exact start_env (P := H) hp
  · refine Out.wp_mono q (fun r _ k => ?_) fun e _ k => ?_
    · intro v H' E'
      obtain ⟨F1, F2, E'⟩ := E'
      obtain ⟨G1, G2, eG, k1, k2⟩ := E'.sk
      have eF1 : F1 = [] := E'.sl
      have eG2 : G2 = [] := k2
      subst eF1 eG2 eG
      refine k v H' E'.g ⟨G1, fun a ha => (E'.fr a (by simpa using ha)).1, by have := E'.nd; simpa using this, fun a ha => (E'.fr a (by simpa using ha)).2, ?_⟩
      have k1' : (asn K H md r).p (hide (O ++ ([] ++ (G1 ++ []))) H') H' G1 v := k1
      simpa using k1'
    · intro σ d H' h1 h2
      exact k d H' h1 h2
end
end Mw
set_option maxRecDepth 100000
set_option maxHeartbeats 4000000
namespace Mw
open PySem PySem.Spec PyProof.Rows L2
/-- C.m is a staticmethod: its record, its def at g -/
structure SMet (K : PySem.W.Frag) (C : Addr) (m : Str) (p g : Addr) (rest : List Value) : Prop where
  rd : PySem.W.readsIn K C (.type "type") = true
  ga : PySem.W.specialIn K (.ref C) "__getattribute__" = some (some (.builtin "type.__getattribute__"))
  at_ : PySem.W.findCls K (.ref C) (.type "type") m = some (.get (.builtin "staticmethod.__get__") (.ref p) .none (.ref C))
  rc : PySem.W.recIn K p "staticmethod" = some (.ref g :: rest)
  kp : PySem.W.keepIn K (.ref g) = true
def tSM (sp : Sp) (E : L2.St → XK) : TE := fun σ H Q => sp [] H Q (E σ)
theorem pe_smeth0 {X : Cx} {CX : CXT} {k : Nat} {C p g : Addr} {rest : List Value} {fd : FuncData} {ps : List Str} {sp : Sp} {E : L2.St → XK} {x m : Str} {p2 pos apos : Pos} {pl : Sem Bool} (S : SMet X.K C m p g rest) (F : FnOk X.prog X.w X.K X.mg X.base CX k g fd ps sp) (hr : Room k X.A) (hb : Binds X.K fd ps []) (hx : ∀ σ, PassesAt CX X σ (E σ))
    (hm : X.mg x = some (.ref C)) (hg : Gl X x) (hdb : (x == ("__debug__" : Str)) = false)
    (ht : eval (.Call (.Attribute (.Name x p2) m apos) [] [] pos) X.env = (do
      let ov ← eval (.Name x p2) X.env
      standAt apos.atName
      let (f, first) ← holding [ov] (getMethod ov m pl)
      callWith pos f first (backTo pos (starEach [] X.env)) (backToKw pos (keywordEach [] X.env)))) :
    PE X (.Call (.Attribute (.Name x p2) m apos) [] [] pos) (tSM sp E) := by
  refine ⟨fun pins s σ H Q I h => ?_⟩
  refine PySem.W.methodCall_KW (pl := pl) (ld_glob I hg hm ?_ hdb) ht
  refine PySem.W.method_cls I.kIn S.ga (PySem.W.cls_bind I.kIn S.rd S.at_ ?_)
  refine wpAny_call (PySem.W.sm_get (s := { s with toks := s.toks + 1 }) I.kIn S.rc (PySem.W.handed_on rfl ?_))
  exact PySem.W.callWith_K0 (first := []) I.kIn S.kp (run_fnS (us := []) (vs := []) F hr hb (hx σ) (I.tok _) .nil h)
section
variable {c : Cw} {ts : List (Option Asn)} {ρ : Type} [Py ρ] {pos apos p2 : Pos} {x mn : Str} {C f p : Addr} {rest : List Value} {fd : FuncData} {ps : List Str} {k : Nat} {md : Md}
/-- C.m(), m a staticmethod -/
theorem je_smeth0 {mf : Unit → Out ρ} {As : Unit → List ArgP} {pl : Sem Bool} (S : SMet c.X.K C mn p f rest) (F : FnOk c.X.prog c.X.w c.X.K c.X.mg c.X.base (L2N.CX c.X.prog c.X.w) k f fd ps (spM c.X.K c.eg md mf As)) (hr : Room k c.X.A) (hm : c.X.mg x = some (.ref C)) (hb : Binds c.X.K fd ps []) (tk : L2N.Takes c.X c.W)
    (hA : As () = []) (hw : WkX c ts) (hmd : md = .val ∨ md = .own := by first | exact .inl rfl | exact .inr rfl) (hg : Gl c.X x := by rfl) (hdb : (x == ("__debug__" : Str)) = false := by decide)
    (ht : eval (.Call (.Attribute (.Name x p2) mn apos) [] [] pos) c.X.env = (do
      let ov ← eval (.Name x p2) c.X.env
      standAt apos.atName
      let (f, first) ← holding [ov] (getMethod ov mn pl)
      callWith pos f first (backTo pos (starEach [] c.X.env)) (backToKw pos (keywordEach [] c.X.env))) := by rfl) :
    JE c ts (.Call (.Attribute (.Name x p2) mn apos) [] [] pos) (mf ()) (fun r => .as (asn c.X.K c.G md r)) :=
  PE.imp (pe_smeth0 (E := WE c.W) S F hr hb (fun σ => L2N.passAt tk σ) hm hg hdb ht) fun σ H Q ⟨us, vs, E, q⟩ => by
    obtain ⟨O, hO, hAr, hq⟩ := Env.call (md := md) (m := mf) (es := []) (ws := []) hmd rfl E rfl psl_nil hw q
    exact ⟨(), O, hO, by rw [hA]; exact hAr, hq⟩
end
section
variable {c : Cw} {ts : List (Option Asn)} {ω : Type} {e tg : Expr} {rest : List Stmt} {pos : Pos} {post : ω → Exit}
/-- a, b, .. = xs, ints -/
theorem js_unpB {m : Out (List Int)} {A : List Int → Ent} {k : List Int → Out ω} (n : Nat) (is : List Nat) (b : Nat) (rA : ∀ xs, RdE c ts (A xs) xs) (he : JE c ts e m A) (hg : PG c.X tg (gUnl c.X.K n (gsN is))) (hm : ∀ i ∈ is, i < b) (hl : b ≤ ts.length) (hn : is.length = n) (hk : ∀ x, JS c (upN c x 0 is ts) rest (k x) post)
    (hs : swapsWithSole [tg] e pos.line c.X.env = pure false := by rfl) (hw : swappedStores [tg] e c.X.env = pure none := by rfl)
    (h1 : (assignEach [tg] c.X.env).map (·.2) = [assign tg c.X.env] := by rfl) : JS c ts (.Assign [tg] e pos :: rest) ((m.bind (unpI n)).bind k) post :=
  PSs.imp (pss_cons (ps_asg he hg hs hw h1) (PSs.ex hk)) fun D σ H ⟨us, vs, E, q⟩ => by
    rw [Out.bind_assoc] at q
    refine ⟨us.map .as, vs, E, Out.wp_mono (Out.wp_bind q) (fun x _ q v H' E' => ?_) fun _ _ z => z σ⟩
    unfold unpI at q
    split at q
    · obtain ⟨F1, FB, F2, E0, kk, _⟩ := Env.open (es := [_]) (ws := [_]) E' rfl
      obtain ⟨p, zs, ev, hp, r⟩ := rA x E0.part E0.g E0.sl (StkL.one kk)
      have ez := Pd.map_ints r
      subst ez ev
      refine ⟨p, _, rfl, SqL.of hp, by rw [List.length_map]; assumption, ?_⟩
      show gsN is ((x.drop 0).map V.int) σ H' _
      exact upN_go (x := x) is 0 ts σ H' (fun i hi => Nat.lt_of_lt_of_le (hm i hi) hl) (by omega) (Env.pop (es := [_]) (ws := [_]) E' rfl) fun σ' H2 E2 => ⟨x, us, vs, E2, q⟩
    · exact q.elim
end
section
variable {c : Cw} {ts tt : List (Option Asn)} {us : List Ent} {σ : Sl} {vs : List V} {H : Hp}
theorem Env.slotsG (E : Env c ts us σ vs H) (h : ∀ {P F}, F.Nodup → EnvL P H ts σ F → ∃ F', (∀ a ∈ F', a ∈ F) ∧ F'.Nodup ∧ ∀ P', Same P P' → (∀ a ∈ F, a ∉ F' → ∀ o, H a = some o → P' a = some o) → EnvL P' H tt σ F') : Env c tt us σ vs H := by
  obtain ⟨F1, F2, E⟩ := E
  obtain ⟨n1, n2, n3⟩ := List.nodup_append.mp E.nd
  obtain ⟨F', f1, f2, f3⟩ := h n1 E.sl
  have noOf : ∀ a ∈ F1, a ∉ c.Of := fun a h q => by
    have := (E.fr a (List.mem_append_left _ h)).1
    obtain ⟨o, e, _⟩ := E.og a q
    rw [this] at e
    cases e
  have sP : Same (hide (c.Of ++ (F1 ++ F2)) H) (hide (c.Of ++ (F' ++ F2)) H) := fun a o q => by
    obtain ⟨n, q⟩ := hide_some q
    rw [hide_of (fun z => n ?_)]
    · exact q
    · rcases List.mem_append.mp z with z | z
      · exact List.mem_append_left _ z
      · rcases List.mem_append.mp z with z | z
        · exact List.mem_append_right _ (List.mem_append_left _ (f1 a z))
        · exact List.mem_append_right _ (List.mem_append_right _ z)
  refine ⟨F', F2, f3 _ sP fun a ha nF o q => ?_, E.sk.st sP fun a _ o q => q, ?_, fun a ha => E.fr a ?_, E.g, E.og⟩
  · rw [hide_of (fun z => ?_)]
    · exact q
    · rcases List.mem_append.mp z with z | z
      · exact noOf a ha z
      · rcases List.mem_append.mp z with z | z
        · exact nF z
        · exact n3 a ha a z rfl
  · exact List.nodup_append.mpr ⟨f2, n2, fun a ha b hb => n3 a (f1 a ha) b hb⟩
  · rcases List.mem_append.mp ha with h | h
    · exact List.mem_append_left _ (f1 a h)
    · exact List.mem_append_right _ h
theorem wkx_of (h : c.tx = some tt) (w : WkL ts tt) : WkX c ts := by
  unfold WkX
  rw [h]
  exact fun E => Env.slotsG E fun nd h => w.go nd h
end
end Mw
set_option maxRecDepth 100000
set_option maxHeartbeats 4000000
namespace Mw
open PySem PySem.Spec PyProof.Rows L2
/-! == of an own class and something else -/
def rEqX (K : PySem.W.Frag) (C : Addr) (t : Value) (sp : Sp) : R2 := fun x y H Q => (∃ a dx fs, x = .ref a ∧ H a = some (.ins C dx fs)) ∧ TyX K H y t ∧ sp [x, y] H Q (fun _ _ _ => False)
theorem op_eqX {X : Cx} {k : Nat} {f C : Addr} {t : Value} {fd : FuncData} {ps : List Str} {sp : Sp} {P : Program} {w : World} (hP : X.prog = P) (hw : X.w = w) (B : ClsB X.K C "__eq__" f) (hn : PySem.W.notFirst X.K C t = true) (F : FnOk X.prog X.w X.K X.mg X.base (L2N.CX P w) k f fd ps sp) (hr : Room k X.A) (hb : Binds X.K fd ps []) : OpR X (compareOp .Eq) (rEqX X.K C t sp) := by
  intro pins s σ H x y v u Q I rx ry h
  obtain ⟨⟨a, dx, fs, ex, h1⟩, ty, q⟩ := h
  subst ex
  obtain rfl : v = Value.ref a := rx
  obtain ⟨mA, O, _, _, _, _⟩ := ins_get I.hok h1
  obtain ⟨od, J, _⟩ := O.look
  obtain ⟨R, kx, hR, _⟩ := kit_of I ry ty
  obtain ⟨m, hF⟩ := I.fr
  show wpAny (model X.prog X.w) X.A (richCompare .Eq (.ref a) u) (EP X pins σ Q) X.xe s
  refine PySem.W.cmp_K (op := .Eq) (tb := t) hr.units0 hF I.ok.mod.kin J (kx.ty _ _ I.kIn hR) hn B.at_ B.fn ?_
  exact run2 (E := fun _ _ _ _ => False) (x := .ref a) (y := y) F hr hb (fun _ _ _ _ _ _ z => (noCXo z).elim) I rfl ry q
section
variable {c : Cw} {ts : List (Option Asn)} {β : Type} [Py β] [PyT β] {a b : Expr} {pos : Pos} {nm : Str} {fs : List Str} {τ : Type} [PyF τ] {C f : Addr} {fd : FuncData} {ps : List Str} {k : Nat}
theorem eqX_imp {ma : Out (Ins nm fs τ)} {mb : Out β} {tn : String} (ht : ∀ y : β, PyT.ty y = tn) {AsF : Ins nm fs τ × β × Unit → List ArgP} {mf : Ins nm fs τ × β × Unit → Out Bool} (hC : ClsAt c.X.K nm C) (hA : ∀ x y, AsF (x, y, ()) = [aV c.X.K x, aV c.X.K y]) :
    ∀ {us σ vs H2} {i : Ins nm fs τ} {j : β} {x y : V} {Q : VK}, Env c ts (Vl c j :: Vl c i :: us) σ (y :: x :: vs) H2 → (nox (mf (i, j, ()))).wp (fun z => ∀ v H', Env c ts (Vl c z :: us) σ (v :: vs) H' → Q v H') (Ex c us σ vs) → rEqX c.X.K C (.type tn) (spM c.X.K c.eg .val mf AsF) x y H2 Q := fun {us σ vs H2 i j x y Q} E2 q => by
  obtain ⟨r1, r2⟩ := E2.stk2
  obtain ⟨a1, d1, v1, e1, h1⟩ := ins_at (P := H2) hC r1
  have q' : (mf (i, j, ())).wp (fun r => ∀ v H', Env (Cw.no c) ts (.as (asn c.X.K c.G .val r) :: us) σ (v :: vs) H' → Q v H') (Ex (Cw.no c) us σ vs) := Out.wp_mono (wp_nox (E' := fun _ => False) q) (fun r _ q v H' E' => q v H' (Env.yes E')) fun _ _ z => z.elim
  obtain ⟨O, hO, hAr, hq⟩ := Env.call (c := Cw.no c) (md := .val) (m := fun _ : Unit => mf (i, j, ())) (es := [Vl c i, Vl c j]) (ws := [x, y]) (.inl rfl) rfl (Env.no E2.swap2) rfl (psl_cons (psV fzV) (psl_cons (psV fzV) psl_nil)) trivial q'
  have e := ht j
  exact ⟨⟨a1, d1, _, e1, h1⟩, e ▸ PyT.is r2, (i, j, ()), O, hO, by rw [hA]; exact hAr, hq⟩
/-- a == b, b not of an own class -/
theorem je_eqX {ma : Out (Ins nm fs τ)} {mb : Out β} {tn : String} {AsF : Ins nm fs τ × β × Unit → List ArgP} {mf : Ins nm fs τ × β × Unit → Out Bool} (ht : ∀ y : β, PyT.ty y = tn) (hC : ClsAt c.X.K nm C) (B : ClsB c.X.K C "__eq__" f) (hn : PySem.W.notFirst c.X.K C (.type tn) = true)
    (F : FnOk c.X.prog c.X.w c.X.K c.X.mg c.X.base (L2N.CX c.X.prog c.X.w) k f fd ps (spM c.X.K c.eg .val mf AsF)) (hr : Room k c.X.A) (hb : Binds c.X.K fd ps []) (ha : JE c ts a ma (Vl c)) (hbb : JE c ts b mb (Vl c)) (hA : ∀ x y, AsF (x, y, ()) = [aV c.X.K x, aV c.X.K y]) :
    JE c ts (.Compare a [.Eq] [b] pos) (ma.bind fun x => mb.bind fun y => nox (mf (x, y, ()))) (Vl c) := je_cmp (op_eqX rfl rfl B hn F hr hb) (eqX_imp (ma := ma) (mb := mb) ht hC hA) (nomark _) ha hbb
theorem jt_eqX {ma : Out (Ins nm fs τ)} {mb : Out β} {tn : String} {AsF : Ins nm fs τ × β × Unit → List ArgP} {mf : Ins nm fs τ × β × Unit → Out Bool} (ht : ∀ y : β, PyT.ty y = tn) (hC : ClsAt c.X.K nm C) (B : ClsB c.X.K C "__eq__" f) (hn : PySem.W.notFirst c.X.K C (.type tn) = true)
    (F : FnOk c.X.prog c.X.w c.X.K c.X.mg c.X.base (L2N.CX c.X.prog c.X.w) k f fd ps (spM c.X.K c.eg .val mf AsF)) (hr : Room k c.X.A) (hb : Binds c.X.K fd ps []) (ha : JE c ts a ma (Vl c)) (hbb : JE c ts b mb (Vl c)) (hA : ∀ x y, AsF (x, y, ()) = [aV c.X.K x, aV c.X.K y]) :
    JT c ts (.Compare a [.Eq] [b] pos) (ma.bind fun x => mb.bind fun y => nox (mf (x, y, ()))) := jt_cmp (op_eqX rfl rfl B hn F hr hb) (eqX_imp (ma := ma) (mb := mb) ht hC hA) (nomark _) ha hbb
end
theorem kit_bt {K : PySem.W.Frag} {C : Addr} {b : Bool} {T : String} (h1 : PySem.W.hasDictIn K C = true) (h2 : PySem.W.typeIn K (.ref C) = some (.type "type")) (h4 : PySem.W.subIn K (.type T) (.ref C) = some b) : PySem.W.kitOne K (.type T) (.ref C) = some b := by
  unfold PySem.W.kitOne
  rw [if_neg (by simp)]
  obtain ⟨cd, hc, _⟩ := PySem.W.any_some h1
  have e2 : ((PySem.W.clsIn K C).isSome && PySem.W.typeIn K (.ref C) == some (.type "type")) = true := by rw [hc, h2] <;> rfl
  show (if ((PySem.W.clsIn K C).isSome && PySem.W.typeIn K (.ref C) == some (.type "type")) = true then PySem.W.subIn K (.type T) (.ref C) else none) = some b
  rw [if_pos e2]
  exact h4
end Mw
set_option maxRecDepth 100000
set_option maxHeartbeats 4000000
namespace Mw
open PySem PySem.Spec PyProof.Rows L2
instance (i j : Int) : Decidable (CDivW i j) := by unfold CDivW; infer_instance
/-! an int or an instance -/
section
variable {nm : Str} {fs : List Str} {τ : Type} [PyF τ]
instance : Py (Int ⊕ Ins nm fs τ) := Py.flat (fun K H v x => match x with | .inl i => Py.rep K H v i | .inr h => Py.rep K H v h) (fun {K H H' v x} s h => by
  cases x with
  | inl i => exact Py.mono s h
  | inr y => exact Py.mono (x := y) s h)
instance [PyFI τ] [Imm fs] : PyI (Int ⊕ Ins nm fs τ) := ⟨fun {K H O v x} n h => by
  cases x with
  | inl i => exact PyI.imm (α := Int) (K := K) n h
  | inr y => exact PyI.imm (α := Ins nm fs τ) (K := K) (x := y) n h⟩
def toI1 : Int ⊕ Ins nm fs τ → Out Int
  | .inl i => .ok i
  | .inr _ => .bad
def toX1 : Int ⊕ Ins nm fs τ → Out (Ins nm fs τ)
  | .inl _ => .bad
  | .inr x => .ok x
variable {c : Cw} {ts : List (Option Asn)} {e a b : Expr} {pos : Pos}
theorem je_divW {ma mb : Out Int} (ha : JE c ts a ma (Vl c)) (hb : JE c ts b mb (Vl c)) : JE c ts (.BinOp a .FloorDiv b pos) (ma.bind fun i => mb.bind fun j => chk (CDivW i j) (i / j)) (Vl c) := je_iC op_fdivW ha hb
theorem je_inI {m : Out Int} (h : JE c ts e m (Vl c)) : JE c ts e (m.bind fun x => .ok (Sum.inl x : Int ⊕ Ins nm fs τ)) (Vl c) := je_mp (fun x y e => by cases e; exact fun h => h) (fun x => .inr ⟨_, rfl⟩) h
theorem je_inX {m : Out (Ins nm fs τ)} (h : JE c ts e m (Vl c)) : JE c ts e (m.bind fun x => .ok (Sum.inr x : Int ⊕ Ins nm fs τ)) (Vl c) := je_mp (fun x y e => by cases e; exact fun h => h) (fun x => .inr ⟨_, rfl⟩) h
theorem je_outI {m : Out (Int ⊕ Ins nm fs τ)} (h : JE c ts e m (Vl c)) : JE c ts e (m.bind toI1) (Vl c) := je_mp (fun x y e => by cases x <;> cases e; exact fun h => h) (fun x => by cases x <;> first | exact .inl rfl | exact .inr ⟨_, rfl⟩) h
theorem je_outX {m : Out (Int ⊕ Ins nm fs τ)} (h : JE c ts e m (Vl c)) : JE c ts e (m.bind toX1) (Vl c) := je_mp (fun x y e => by cases x <;> cases e; exact fun h => h) (fun x => by cases x <;> first | exact .inl rfl | exact .inr ⟨_, rfl⟩) h
end
end Mw
set_option maxRecDepth 100000
set_option maxHeartbeats 4000000
namespace Mw
open PySem PySem.Spec PyProof.Rows L2
/-! ### a list of lists that may be changed -/
structure Ls where
  l : List (List Int)
def InsL (K : PySem.W.Frag) (P H : Hp) : List Addr → List (List Int) → Prop := Paired fun b xs => ∃ vs, H b = some (.lst vs) ∧ Reps K P vs xs
theorem InsL.st {K : PySem.W.Frag} {P P' H H' : Hp} {bs : List Addr} {xs : List (List Int)} (s : Same P P') (h : InsL K P H bs xs) (k : ∀ b ∈ bs, ∀ o, H b = some o → H' b = some o) : InsL K P' H' bs xs := by
  induction h with
  | nil => exact .nil
  | cons q r ih =>
    obtain ⟨vs, e, rr⟩ := q
    exact .cons ⟨vs, k _ List.mem_cons_self _ e, rr.mono s⟩ (ih fun b hb => k b (List.mem_cons_of_mem _ hb))
theorem InsL.rep {K : PySem.W.Frag} {P H P' : Hp} {bs : List Addr} {xs : List (List Int)} (s : Same P P') (h : InsL K P H bs xs) (k : ∀ b ∈ bs, ∀ o, H b = some o → P' b = some o) : Reps K P' (bs.map V.ref) xs := by
  induction h with
  | nil => exact .nil
  | cons q r ih =>
    obtain ⟨vs, e, rr⟩ := q
    exact .cons ⟨_, vs, rfl, k _ List.mem_cons_self _ e, rr.mono s⟩ (ih fun b hb => k b (List.mem_cons_of_mem _ hb))
instance : Py Ls where
  rep := fun K H v x => Py.rep K H v x.l
  mono := fun {K H H' v x} s h => Py.mono (x := x.l) s h
  own := fun K P H F v x => ∃ a bs, v = .ref a ∧ F = a :: bs ∧ H a = some (.lst (bs.map V.ref)) ∧ InsL K P H bs x.l
  own_st := fun s k ⟨a, bs, e, hF, h, r⟩ => ⟨a, bs, e, hF, k a (by rw [hF]; exact List.mem_cons_self) _ h, r.st s fun b hb => k b (by rw [hF]; exact List.mem_cons_of_mem _ hb)⟩
  own_rep := fun s k ⟨a, bs, e, hF, h, r⟩ => ⟨a, _, e, k a (by rw [hF]; exact List.mem_cons_self) _ h, r.rep s fun b hb => k b (by rw [hF]; exact List.mem_cons_of_mem _ hb)⟩
section
variable {c : Cw} {ts : List (Option Asn)} {es ues : List Ent} {us : List Asn} {σ : Sl} {vs ws : List V} {H H' : Hp}
/-- something that slot i owns changes; what waited may come to it -/
theorem Env.mutW {i : Nat} {A : Asn} (E : Env c ts (es ++ ues) σ (ws ++ vs) H) (hl : es.length = ws.length) (h : ts[i]? = some (some A)) :
    ∃ u P Gi F1 FB, σ[i]? = some (some u) ∧ A.p P H Gi u ∧ Part P H ∧ EnvL P H ts σ F1 ∧ StkL P H σ es ws FB ∧ (Gi ++ FB).Nodup ∧ ∀ (l : Addr) (o' : HO) (A' : Asn) (F' : List Addr), l ∈ Gi → mutO o' = true → (∀ a ∈ F', a ∈ Gi ∨ a ∈ FB) → F'.Nodup → (∀ P', Same P P' → (∀ a ∈ FB, a ∉ F' → ∀ o, H a = some o → P' a = some o) → A'.p P' (upd H l o') F' u) →
      Env c (ts.set i (some A')) ues σ vs (upd H l o') := by
  obtain ⟨F1, FB, F2, E, k, h2⟩ := Env.open E hl
  obtain ⟨v, G1, Gi, G2, e1, e2, q, hlt, put⟩ := E.sl.at i h
  subst e2
  obtain ⟨u, eu, q⟩ := q
  subst eu
  have nd := E.nd
  obtain ⟨n1, n2, n3⟩ := List.nodup_append.mp nd
  obtain ⟨m1, m2, m3⟩ := List.nodup_append.mp n2
  obtain ⟨p1, p2, p3⟩ := List.nodup_append.mp n1
  obtain ⟨r1, r2, r3⟩ := List.nodup_append.mp p2
  have inGi : ∀ a, a ∈ Gi → a ∈ G1 ++ (Gi ++ G2) := fun a h => List.mem_append_right _ (List.mem_append_left _ h)
  refine ⟨u, _, Gi, _, FB, e1, q, E.part, E.sl, k, List.nodup_append.mpr ⟨r1, m1, fun a ha b hb => n3 a (inGi a ha) b (List.mem_append_left _ hb)⟩, fun l o' A' F' lG hmu subF nF hr => ?_⟩
  have lin : l ∈ G1 ++ (Gi ++ G2) := inGi l lG
  have sub : ∀ a, a ∈ c.Of ++ (G1 ++ (F' ++ G2) ++ F2) → a ∈ c.Of ++ (G1 ++ (Gi ++ G2) ++ (FB ++ F2)) := fun a h => by
    rcases List.mem_append.mp h with h | h
    · exact List.mem_append_left _ h
    · refine List.mem_append_right _ ?_
      rcases List.mem_append.mp h with h | h
      · rcases List.mem_append.mp h with h | h
        · exact List.mem_append_left _ (List.mem_append_left _ h)
        · rcases List.mem_append.mp h with h | h
          · rcases subF a h with h | h
            · exact List.mem_append_left _ (inGi a h)
            · exact List.mem_append_right _ (List.mem_append_left _ h)
          · exact List.mem_append_left _ (List.mem_append_right _ (List.mem_append_right _ h))
      · exact List.mem_append_right _ (List.mem_append_right _ h)
  have noOf : ∀ a, a ∈ G1 ++ (Gi ++ G2) ++ (FB ++ F2) → a ∉ c.Of := fun a h q => by
    have := (E.fr a h).1
    obtain ⟨o, e, _⟩ := E.og a q
    rw [this] at e
    cases e
  have sP : Same (hide (c.Of ++ (G1 ++ (Gi ++ G2) ++ (FB ++ F2))) H) (hide (c.Of ++ (G1 ++ (F' ++ G2) ++ F2)) (upd H l o')) := fun a o q => by
    obtain ⟨n, q⟩ := hide_some q
    have al : a ≠ l := fun z => n (by rw [z]; exact List.mem_append_right _ (List.mem_append_left _ lin))
    rw [hide_of fun z => n (sub a z), upd_ne al]
    exact q
  have kB : ∀ a ∈ FB, a ∉ F' → ∀ o, H a = some o → hide (c.Of ++ (G1 ++ (F' ++ G2) ++ F2)) (upd H l o') a = some o := fun a ha nF' o q => by
    have al : a ≠ l := fun z => n3 l lin a (List.mem_append_left _ ha) z.symm
    rw [hide_of fun z => ?_, upd_ne al]
    · exact q
    · rcases List.mem_append.mp z with z | z
      · exact noOf a (List.mem_append_right _ (List.mem_append_left _ ha)) z
      · rcases List.mem_append.mp z with z | z
        · rcases List.mem_append.mp z with z | z
          · exact n3 a (List.mem_append_left _ z) a (List.mem_append_left _ ha) rfl
          · rcases List.mem_append.mp z with z | z
            · exact nF' z
            · exact n3 a (List.mem_append_right _ (List.mem_append_right _ z)) a (List.mem_append_left _ ha) rfl
        · exact m3 a ha a z rfl
  have ln : ∀ a, a ∈ G1 ++ G2 → a ≠ l := fun a ha z => by
    subst z
    rcases List.mem_append.mp ha with ha | ha
    · exact p3 a ha a (List.mem_append_left _ lG) rfl
    · exact r3 a lG a ha rfl
  have put' := put _ (upd H l o') (some A') (some u) F' sP (fun a ha o q => by rw [upd_ne (ln a ha)]; exact q) ⟨_, rfl, hr _ sP kB⟩
  have es : σ.set i (some u) = σ := by
    obtain ⟨hi, e⟩ := List.getElem?_eq_some_iff.mp e1
    rw [← e]
    exact List.set_getElem_self hi
  rw [es] at put'
  have dF1 : ∀ a ∈ G1, ∀ b ∈ F', a ≠ b := fun a ha b hb z => by
    subst z
    rcases subF a hb with h | h
    · exact p3 a ha a (List.mem_append_left _ h) rfl
    · exact n3 a (List.mem_append_left _ ha) a (List.mem_append_left _ h) rfl
  have dF2 : ∀ a ∈ F', ∀ b ∈ G2, a ≠ b := fun a ha b hb z => by
    subst z
    rcases subF a ha with h | h
    · exact r3 a h a hb rfl
    · exact n3 a (List.mem_append_right _ (List.mem_append_right _ hb)) a (List.mem_append_left _ h) rfl
  have dF3 : ∀ a ∈ F', ∀ b ∈ F2, a ≠ b := fun a ha b hb z => by
    subst z
    rcases subF a ha with h | h
    · exact n3 a (inGi a h) a (List.mem_append_right _ hb) rfl
    · exact m3 a h a hb rfl
  refine ⟨G1 ++ (F' ++ G2), F2, put', h2.st sP fun a ha o q => ?_, ?_, fun a ha => ?_, fun a o q => ?_, E.og⟩
  · have al : a ≠ l := fun z => n3 l lin a (List.mem_append_right _ ha) z.symm
    rw [upd_ne al]
    exact q
  · refine List.nodup_append.mpr ⟨List.nodup_append.mpr ⟨p1, List.nodup_append.mpr ⟨nF, r2, dF2⟩, fun a ha b hb => ?_⟩, m2, fun a ha b hb => ?_⟩
    · rcases List.mem_append.mp hb with hb | hb
      · exact dF1 a ha b hb
      · exact p3 a ha b (List.mem_append_right _ hb)
    · rcases List.mem_append.mp ha with ha | ha
      · exact n3 a (List.mem_append_left _ ha) b (List.mem_append_right _ hb)
      · rcases List.mem_append.mp ha with ha | ha
        · exact dF3 a ha b hb
        · exact n3 a (List.mem_append_right _ (List.mem_append_right _ ha)) b (List.mem_append_right _ hb)
  · have ha' : a ∈ G1 ++ (Gi ++ G2) ++ (FB ++ F2) := by
      have := sub a (List.mem_append_right _ ha)
      rcases List.mem_append.mp this with z | z
      · exfalso
        rcases List.mem_append.mp ha with ha | ha
        · rcases List.mem_append.mp ha with ha | ha
          · exact noOf a (List.mem_append_left _ (List.mem_append_left _ ha)) z
          · rcases List.mem_append.mp ha with ha | ha
            · rcases subF a ha with h | h
              · exact noOf a (List.mem_append_left _ (inGi a h)) z
              · exact noOf a (List.mem_append_right _ (List.mem_append_left _ h)) z
            · exact noOf a (List.mem_append_left _ (List.mem_append_right _ (List.mem_append_right _ ha))) z
        · exact noOf a (List.mem_append_right _ (List.mem_append_right _ ha)) z
      · exact z
    refine ⟨(E.fr a ha').1, ?_⟩
    by_cases al : a = l
    · rw [al]
      exact ⟨o', upd_same, hmu⟩
    · obtain ⟨o, e, mo⟩ := (E.fr a ha').2
      exact ⟨o, by rw [upd_ne al]; exact e, mo⟩
  · have al : a ≠ l := fun z => by
      have := (E.fr l (List.mem_append_left _ lin)).1
      rw [z, this] at q
      cases q
    rw [upd_ne al]
    exact E.g _ _ q
end
theorem InsL.set {K : PySem.W.Frag} {P P' H : Hp} {zs : List V} {row : List Int} (s : Same P P') (rz : Reps K P' zs row) : ∀ {bs : List Addr} {xs : List (List Int)} {n : Nat} {b : Addr}, InsL K P H bs xs → bs[n]? = some b → bs.Nodup → InsL K P' (upd H b (.lst zs)) bs (xs.set n row)
  | _, _, 0, b, .cons (a := b0) q r, e, nd => by
    cases e
    obtain ⟨n1, n2⟩ := List.nodup_cons.mp nd
    exact .cons ⟨zs, upd_same, rz⟩ (InsL.st s r fun c hc o h => by rw [upd_ne (fun z => n1 (by rw [← z]; exact hc))]; exact h)
  | _, _, n + 1, b, .cons (a := b0) q r, e, nd => by
    obtain ⟨n1, n2⟩ := List.nodup_cons.mp nd
    have e' : _ = some b := e
    obtain ⟨vs, h, rr⟩ := q
    have hb : b0 ≠ b := fun z => n1 (by rw [z]; exact List.mem_of_getElem? e')
    exact .cons ⟨vs, by rw [upd_ne hb]; exact h, rr.mono s⟩ (InsL.set s rz r e' n2)
section
variable {c : Cw} {ts : List (Option Asn)} {ω : Type} {b e : Expr} {rest : List Stmt} {pos : Pos} {post : ω → Exit}
theorem je_nilS : JE c ts (.List [] pos) (.ok (⟨[]⟩ : Ls)) (Ow c) :=
  PE.imp (pe_lst pa_nil) fun σ H Q ⟨us, vs, E, q⟩ => ⟨Nat.zero_le _, fun p hp => q _ _ (by
    have E1 : Env c ts (Ow c ([] : List (List Int)) :: us) σ (.ref p :: vs) (upd H p (.lst [])) := Env.pushN (es := []) (ws := []) E rfl hp fun _ _ _ _ _ _ _ => .nil
    obtain ⟨F1, F2, E0⟩ := E1
    refine ⟨F1, F2, ⟨E0.sl, ?_, E0.nd, E0.fr, E0.g, E0.og⟩⟩
    obtain ⟨G1, G2, eG, ⟨a, zs, ev, eF, hH, r⟩, k2⟩ := E0.sk
    cases r
    exact ⟨G1, G2, eG, ⟨a, [], ev, eF, hH, .nil⟩, k2⟩)⟩
/-- xs.append(a new list) -/
theorem js_appS {xs : Ls} {n : Str} {p1 p2 pos' : Pos} {m : Out (List Int)} {k : Ls → Out ω} (i : Nat) (h : ts[i]? = some (some (asn c.X.K c.G .own xs))) (he : JE c ts e m (Ow c))
    (hp : ∀ {t : TA}, PA c.X [e] t → PE c.X (.Call (.Attribute (.Name n p1) "append" p2) [e] [] pos') (tBM c.X.K "list" rAppend (tVar i) t)) (hk : ∀ xs', JS c (ts.set i (some (asn c.X.K c.G .own xs'))) rest (k xs') post)
    (hs : swapsWith (.Call (.Attribute (.Name n p1) "append" p2) [e] [] pos') none pos.line c.X.env = pure false := by rfl) (hst : starEach [e] c.X.env = (false, eval e c.X.env) :: starEach [] c.X.env := by rfl) :
    JS c ts (.Expr (.Call (.Attribute (.Name n p1) "append" p2) [e] [] pos') pos :: rest) (m.bind fun x => (appL xs.l x).bind fun l => k ⟨l⟩) post :=
  PSs.imp (pss_cons (ps_expr (hp (pa_cons he pa_nil hst)) hs) (PSs.ex hk)) fun D σ H ⟨us, vs, E, q⟩ => by
    obtain ⟨v0, P0, F0, F01, e0, _, _, q0⟩ := E.slot h
    obtain ⟨l0, bs0, el, _, hH0, _⟩ := q0
    subst el
    refine ⟨_, e0, .inl ⟨rfl, _, SqL.of hH0⟩, tJ_S E (Out.wp_mono (Out.wp_bind q) (fun x _ q v H1 E1 => ?_) fun _ _ z => z)⟩
    obtain ⟨u, P, Gi, F1, FB, e1, qa, pp, _, sk, nd, put⟩ := Env.mutW (es := [_]) (ws := [_]) E1 rfl h
    rw [e0] at e1
    cases e1
    obtain ⟨a, bs, ev, eF, hH, r⟩ := qa
    cases ev
    subst eF
    obtain ⟨hlen, q⟩ := wp_chk (Out.wp_bind (m := appL xs.l x) q)
    obtain ⟨b0, ws, ev, eB, hb, rb⟩ := StkL.one sk
    subst ev eB
    obtain ⟨n1, n2, n3⟩ := List.nodup_append.mp nd
    have hb0 : b0 ≠ l0 := fun z => n3 l0 List.mem_cons_self b0 List.mem_cons_self z.symm
    have hbs : ∀ b ∈ bs, b ≠ l0 := fun b hb z => (List.nodup_cons.mp n1).1 (by rw [← z]; exact hb)
    refine ⟨l0, bs.map V.ref, .ref b0, rfl, rfl, hH, by rw [List.length_map, Pd.len r, sizeLine_eq]; exact hlen, _, us, vs, put l0 (.lst (bs.map V.ref ++ [.ref b0])) (asn c.X.K c.G .own (⟨xs.l ++ [x]⟩ : Ls)) (l0 :: (bs ++ [b0])) List.mem_cons_self rfl (fun a ha => ?_) ?_ fun P' s' f => ?_, q⟩
    · rcases List.mem_cons.mp ha with z | z
      · exact .inl (by rw [z]; exact List.mem_cons_self)
      · rcases List.mem_append.mp z with z | z
        · exact .inl (List.mem_cons_of_mem _ z)
        · exact .inr z
    · exact nd
    · refine ⟨l0, bs ++ [b0], rfl, rfl, by rw [List.map_append]; exact upd_same, Pd.append ?_ (.cons ⟨ws, by rw [upd_ne hb0]; exact hb, rb.mono s'⟩ .nil)⟩
      exact InsL.st s' r fun b hb o h => by rw [upd_ne (hbs b hb)]; exact h
/-- xs[i].append(a name that holds an int) -/
theorem js_appI {xs : Ls} {z : Int} {md : Md} {n y : Str} {p1 p2 p4 py pos' : Pos} {mi : Out Int} {k : Ls → Out ω} (i j : Nat) (h : ts[i]? = some (some (asn c.X.K c.G .own xs))) (hz : ts[j]? = some (some (asn c.X.K c.G md z))) (hn : PE c.X (.Name n p1) (tVar i)) (hy : PE c.X (.Name y py) (tVar j)) (hi : JE c ts b mi (Vl c))
    (hp : ∀ {to : TE} {t : TA}, PE c.X (.Subscript (.Name n p1) b p4) to → PA c.X [.Name y py] t → PE c.X (.Call (.Attribute (.Subscript (.Name n p1) b p4) "append" p2) [.Name y py] [] pos') (tBM c.X.K "list" rAppend to t)) (hk : ∀ xs', JS c (ts.set i (some (asn c.X.K c.G .own xs'))) rest (k xs') post)
    (hs : swapsWith (.Call (.Attribute (.Subscript (.Name n p1) b p4) "append" p2) [.Name y py] [] pos') none pos.line c.X.env = pure false := by rfl) (hst : starEach [.Name y py] c.X.env = (false, eval (.Name y py) c.X.env) :: starEach [] c.X.env := by rfl) (hs2 : PlainIx b := by intro _ _; rfl) :
    JS c ts (.Expr (.Call (.Attribute (.Subscript (.Name n p1) b p4) "append" p2) [.Name y py] [] pos') pos :: rest) (mi.bind fun q => (item xs.l q).bind fun row => (appL row z).bind fun row' => (setAt xs.l q row').bind fun l => k ⟨l⟩) post :=
  PSs.imp (pss_cons (ps_expr (hp (pe_ix ix_list hn hi hs2) (pa_cons hy pa_nil hst)) hs) (PSs.ex hk)) fun D σ H ⟨us, vs, E, q⟩ => by
    obtain ⟨v0, P0, F0, F01, e0, _, _, q0⟩ := E.slot h
    obtain ⟨l0, bs0, el, _, hH0, _⟩ := q0
    subst el
    refine ⟨_, e0, tJ_S E (Out.wp_mono (Out.wp_bind q) (fun ix _ q v H1 E1 => ?_) fun _ _ z => z)⟩
    have ev : v = .int ix := E1.rd1 rdV
    subst ev
    obtain ⟨vz, Pz, Fz', Fz1, ez, pz, slz, qz⟩ := E1.slot hz
    have rz := asn_rep pz.le (E1.ground) qz
    have evz : vz = .int z := rz
    subst evz
    obtain ⟨u, P, Gi, F1, FB, e1, qa, pp, _, sk, nd, put⟩ := Env.mutW (es := [_]) (ws := [_]) E1 rfl h
    rw [e0] at e1
    cases e1
    obtain ⟨a, bs, ev, eF, hH, r⟩ := qa
    cases ev
    subst eF
    have lenB := Pd.len r
    obtain ⟨row, hrow, q⟩ : ∃ row, atI xs.l ix = some row ∧ _ := by
      unfold item at q
      cases hx : atI xs.l ix with
      | none =>
        rw [hx] at q
        exact q.elim
      | some row =>
        rw [hx] at q
        exact ⟨row, rfl, q⟩
    obtain ⟨b0, hb0, w, hw, rw0⟩ := Pd.at r hrow
    obtain ⟨hlen, q⟩ := wp_chk (Out.wp_bind (m := appL row z) q)
    obtain ⟨nn, hnn, hbn⟩ : ∃ nn, ixN xs.l.length ix = some nn ∧ bs[nn]? = some b0 := by
      unfold atI at hb0
      rw [lenB] at hb0
      cases hx : ixN xs.l.length ix with
      | none =>
        rw [hx] at hb0
        cases hb0
      | some nn =>
        rw [hx] at hb0
        exact ⟨nn, rfl, hb0⟩
    have q := Out.wp_bind q
    unfold setAt at q
    rw [hnn] at q
    have hmem : b0 ∈ bs := List.mem_of_getElem? hbn
    obtain ⟨n1, n2, n3⟩ := List.nodup_append.mp nd
    obtain ⟨n4, n5⟩ := List.nodup_cons.mp n1
    have hb0l : b0 ≠ l0 := fun z => n4 (by rw [← z]; exact hmem)
    refine ⟨l0, bs.map V.ref, ix, .ref b0, rfl, rfl, SqL.of hH, ?_, .inl ⟨rfl, _, SqL.of hw⟩, ?_⟩
    · unfold atI
      rw [List.length_map, lenB, hnn]
      show (bs.map V.ref)[nn]? = _
      rw [List.getElem?_map, hbn]
      rfl
    · refine ⟨.int z, ez, b0, w, .int z, rfl, rfl, hw, by rw [Pd.len rw0, sizeLine_eq]; exact hlen, _, us, vs, put b0 (.lst (w ++ [.int z])) (asn c.X.K c.G .own (⟨xs.l.set nn (row ++ [z])⟩ : Ls)) (l0 :: bs) (List.mem_cons_of_mem _ hmem) rfl (fun a ha => .inl ha) n1 fun P' s' f => ?_, q⟩
      exact ⟨l0, bs, rfl, rfl, by rw [upd_ne (fun z => hb0l z.symm)]; exact hH, InsL.set s' (Pd.append (Reps.mono s' rw0) (.cons rfl .nil)) r hbn n5⟩
end
end Mw
set_option maxRecDepth 100000
set_option maxHeartbeats 4000000
namespace Mw
open PySem PySem.Spec PyProof.Rows L2
/-- the place of the first one -/
def idxL {α : Type} [DecidableEq α] (xs : List α) (x : α) : Out Int := if x ∈ xs then .ok ((xs.findIdx fun z => decide (z = x) : Nat) : Int) else .bad
section
variable {c : Cw} {ts : List (Option Asn)} {α β γ ω S ρ : Type} [Py α] [Py β] [Py γ] {a b e tg iter elt : Expr} {st rest body : List Stmt} {pos : Pos} {post : ω → Exit}
theorem je_index [DecidableEq α] [PyE α] [PyQ α] {xs : List α} {md : Md} {n : Str} {p1 p2 : Pos} {m : Out α} {A : α → Ent} (i : Nat) (h : ts[i]? = some (some (asn c.X.K c.G md xs))) (rA : ∀ x, Rd c ts (A x) x) (he : JE c ts e m A)
    (hp : ∀ {t : TA}, PA c.X [e] t → PE c.X (.Call (.Attribute (.Name n p1) "index" p2) [e] [] pos) (tBM c.X.K "list" (rIndex c.X.K) (tVar i) t)) (hst : starEach [e] c.X.env = (false, eval e c.X.env) :: starEach [] c.X.env := by rfl) :
    JE c ts (.Call (.Attribute (.Name n p1) "index" p2) [e] [] pos) (m.bind fun x => idxL xs x) (Vl c) :=
  PE.imp (hp (pa_cons he pa_nil hst)) fun σ H Q ⟨us, vs, E, q⟩ => by
    obtain ⟨v0, P0, F0, F01, e0, pp, el0, q0⟩ := E.slot h
    have r0 := asn_rep pp.le (E.ground) q0
    obtain ⟨l0, zs0, el, hH0, rz⟩ := r0
    subst el
    refine ⟨_, e0, .inl ⟨rfl, _, SqL.of hH0⟩, us, vs, E, Out.wp_mono (Out.wp_bind q) (fun x _ q v H1 E1 => ?_) fun _ _ z => z⟩
    have ex := PyE.rep (E1.rd1 (rA x))
    obtain ⟨v1, P1, F1, F11, e1, pp1, el1, q1⟩ := E1.slot h
    rw [e0] at e1
    cases e1
    obtain ⟨l1, zs1, el', hH1, rz1⟩ := asn_rep pp1.le (E1.ground) q1
    cases el'
    have ez := reps_val rz1
    subst ex
    subst ez
    unfold idxL at q
    split at q
    · rename_i hx
      have hlt : (xs.findIdx fun z => decide (z = x)) < xs.length := List.findIdx_lt_length_of_exists ⟨x, hx, by simp⟩
      have hp := List.findIdx_getElem (w := hlt)
      have hv : (xs.map PyE.val)[xs.findIdx fun z => decide (z = x)]? = some (PyE.val (xs[xs.findIdx fun z => decide (z = x)])) := by
        rw [List.getElem?_map, List.getElem?_eq_getElem hlt]
        rfl
      refine ⟨_, _, _, _, _, rfl, rfl, SqL.of hH1, PyQ.flat x, all_flat xs, hv, ?_, fun m z' hm hz' => ?_, q _ H1 (Env.pushS (es := [_]) (ws := [_]) (K := c.X.K) (H0 := H1) E1 rfl rfl)⟩
      · rw [PyQ.eqv]
        exact hp
      · rw [List.getElem?_map, List.getElem?_eq_getElem (by omega)] at hz'
        cases hz'
        rw [PyQ.eqv]
        have := List.not_of_lt_findIdx hm
        simpa using this
    · exact q.elim
/-- a pair whose second part is a pair, into three names -/
theorem tgt_nest (i j k : Nat) : Tgt c (max i (max j k) + 1) (gTup c.X.K 2 (gCons (gName i) (gCons (gTup c.X.K 2 (gCons (gName j) (gCons (gName k) gNil))) gNil))) (fun x : α × β × γ => asn c.X.K c.G .val x) (fun x ts => ((ts.set i (some (asn c.X.K c.G .val x.1))).set j (some (asn c.X.K c.G .val x.2.1))).set k (some (asn c.X.K c.G .val x.2.2))) := fun {x ts us σ y vs H Q} hl E q => by
  obtain ⟨F1, F2, E0⟩ := E
  obtain ⟨G1, G2, eG, kk, _⟩ := E0.sk
  obtain ⟨p, v1, v2, ey, hp, r1, p', v3, v4, ey2, hp', r3, r4⟩ := kk.2
  subst ey ey2
  refine ⟨p, _, rfl, Same.seqT hide_le hp, rfl, v1, _, rfl, .ref p', _, rfl, ⟨p', _, rfl, Same.seqT hide_le hp', rfl, v3, _, rfl, v4, _, rfl, rfl, rfl, q _ _ ?_⟩⟩
  have s2 : Env c ts ((asn c.X.K c.G .val x.1 :: asn c.X.K c.G .val x.2.1 :: asn c.X.K c.G .val x.2.2 :: asn c.X.K c.G .val x :: us).map .as) σ (v1 :: v3 :: v4 :: .ref p :: vs) H := ⟨F1, F2, ((E0.addVF r4).addVF r3).addVF r1⟩
  have m1 := Nat.le_max_left i (max j k)
  have m2 := Nat.le_max_right i (max j k)
  have m3 := Nat.le_max_left j k
  have m4 := Nat.le_max_right j k
  have s4 := s2.store (i := i) (by omega)
  have s5 := s4.store (i := j) (by rw [List.length_set]; omega)
  have s6 := s5.store (i := k) (by rw [List.length_set, List.length_set]; omega)
  exact Env.pop (es := [_]) (ws := [_]) s6 rfl
/-- xs[ys.pop()] = e -/
theorem js_setQ {xs : List α} {ys : List Int} {n n2 : Str} {p1 p2 p3 p4 p5 : Pos} {m : Out α} {k : (Int × List Int) → List α → Out ω} (i j : Nat) (he : JE c ts e m (Vl c)) (h : ts[i]? = some (some (asn c.X.K c.G .own xs))) (hj : ts[j]? = some (some (asn c.X.K c.G .own ys))) (hij : j ≠ i)
    (hp : PE c.X (.Call (.Attribute (.Name n2 p3) "pop" p4) [] [] p5) (tBM0 c.X.K "list" rPop (tVar j))) (hn : PE c.X (.Name n p1) (tVar i)) (hk : ∀ r xs', JS c ((ts.set j (some (asn c.X.K c.G .own r.2))).set i (some (asn c.X.K c.G .own xs'))) rest (k r xs') post)
    (hs : swapsWithSole [.Subscript (.Name n p1) (.Call (.Attribute (.Name n2 p3) "pop" p4) [] [] p5) p2] e pos.line c.X.env = pure false := by rfl) (hw : swappedStores [.Subscript (.Name n p1) (.Call (.Attribute (.Name n2 p3) "pop" p4) [] [] p5) p2] e c.X.env = pure none := by rfl)
    (h1 : (assignEach [.Subscript (.Name n p1) (.Call (.Attribute (.Name n2 p3) "pop" p4) [] [] p5) p2] c.X.env).map (·.2) = [assign (.Subscript (.Name n p1) (.Call (.Attribute (.Name n2 p3) "pop" p4) [] [] p5) p2) c.X.env] := by rfl)
    (ha : ∀ v, assign (.Subscript (.Name n p1) (.Call (.Attribute (.Name n2 p3) "pop" p4) [] [] p5) p2) c.X.env v = (do
      let ov ← holding [v] (eval (.Name n p1) c.X.env)
      let iv ← holding [v, ov] (eval (.Call (.Attribute (.Name n2 p3) "pop" p4) [] [] p5) c.X.env)
      standAt p2
      holding [v, ov, iv] (setItem ov iv v)
      release [v, ov, iv] []) := by intro _; rfl) :
    JS c ts (.Assign [.Subscript (.Name n p1) (.Call (.Attribute (.Name n2 p3) "pop" p4) [] [] p5) p2] e pos :: rest) (m.bind fun y => (popL ys).bind fun r => (setAt xs r.1 y).bind (k r)) post := by
  refine PSs.imp (pss_cons (ps_asg he (pg_sub hn (jm_pop j hj hp) set_list ha) hs hw h1) (PSs.ex fun r => PSs.ex fun xs' => hk r xs')) fun D σ H ⟨us, vs, E, q⟩ => tJ_S E (Out.wp_mono (Out.wp_bind q) (fun y _ q v H1 E1 => ?_) fun _ _ z => z)
  obtain ⟨v0, P0, F0, F01, e0, _, _, q0⟩ := E1.slot h
  obtain ⟨l0, zs0, el, _, hH0, _⟩ := q0
  subst el
  refine ⟨_, e0, _, _, E1, Out.wp_mono (Out.wp_bind q) (fun r _ q => ?_) fun e _ z d H' e1 E3 => z σ d H' e1 (EnvX.pop (es := [_]) (ws := [_]) E3 rfl)⟩
  intro w H2 E2
  have ew : w = .int r.1 := E2.rd1 rdV
  subst ew
  have h' : (ts.set j (some (asn c.X.K c.G .own r.2)))[i]? = some (some (asn c.X.K c.G .own xs)) := by rw [List.getElem?_set_ne hij]; exact h
  obtain ⟨l, zs, P, F1, FB, e1, hH, r', _, _, sk, put⟩ := Env.mut (es := [_, _]) (ws := [_, _]) (ues := us.map .as) E2 rfl h'
  rw [e0] at e1
  cases e1
  unfold setAt at q
  cases hx : ixN xs.length r.1 with
  | none =>
    rw [hx] at q
    exact q.elim
  | some n =>
    rw [hx] at q
    obtain ⟨G1, G2, eG, k1, k2⟩ := StkL.two sk
    refine ⟨l0, zs, r.1, n, rfl, rfl, hH, by rw [Pd.len r']; exact hx, r, _, us, vs, put _ _ fun P' s' f => Pd.set (fzV k2 s' fun a ha => f a (by rw [eG]; exact List.mem_append_right _ ha)) _ (r'.mono s'), q⟩
def pairT (x : α × α) : Tup α := ⟨[x.1, x.2]⟩
theorem je_ptup {m : Out (α × α)} (h : JE c ts e m (Vl c)) : JE c ts e (m.bind fun x => .ok (pairT x)) (Vl c) := je_mp (fun x y e => by
  cases e
  intro P H F v ⟨h1, a, v1, v2, ev, hs, r1, r2⟩
  exact ⟨h1, a, [v1, v2], ev, hs, .cons r1 (.cons r2 .nil)⟩) (fun x => .inr ⟨_, rfl⟩) h
def getO : Option α → Out α
  | none => .bad
  | some x => .ok x
theorem je_some1 {m : Out (Option α)} (h : JE c ts e m (Vl c)) : JE c ts e (m.bind getO) (Vl c) := je_mp (fun x y e => by
  cases x <;> cases e
  intro P H F v ⟨h1, h2⟩
  exact ⟨h1, h2.1⟩) (fun x => by cases x <;> first | exact .inl rfl | exact .inr ⟨_, rfl⟩) h
end
end Mw
set_option maxRecDepth 100000
set_option maxHeartbeats 4000000
namespace Mw
open PySem PySem.Spec PyProof.Rows L2

/-! ### the end -/
theorem kit_ref {K : PySem.W.Frag} {D C : Addr} {b : Bool} (h0 : PySem.W.subIn K (.ref D) (.ref D) = some true) (h1 : PySem.W.hasDictIn K C = true) (h2 : PySem.W.typeIn K (.ref C) = some (.type "type")) (h4 : PySem.W.subIn K (.ref D) (.ref C) = some b) : PySem.W.kitOne K (.ref D) (.ref C) = some b := by
  unfold PySem.W.kitOne
  by_cases e : D = C
  · subst e
    rw [h0] at h4
    rw [if_pos (by simp)]
    exact h4
  · rw [if_neg (by simpa using e)]
    obtain ⟨cd, hc, _⟩ := PySem.W.any_some h1
    have e2 : ((PySem.W.clsIn K C).isSome && PySem.W.typeIn K (.ref C) == some (.type "type")) = true := by rw [hc, h2] <;> rfl
    show (if ((PySem.W.clsIn K C).isSome && PySem.W.typeIn K (.ref C) == some (.type "type")) = true then PySem.W.subIn K (.ref D) (.ref C) else none) = some b
    rw [if_pos e2]
    exact h4
theorem kit_ve {K : PySem.W.Frag} {D : Addr} {b : Bool} {T : String} (hT : PySem.W.kitMeta T = true) (h4 : PySem.W.subIn K (.ref D) (.type T) = some b) : PySem.W.kitOne K (.ref D) (.type T) = some b := by
  unfold PySem.W.kitOne
  rw [if_neg (fun z => by cases beq_iff_eq.mp z)]
  show (if PySem.W.kitMeta T = true then PySem.W.subIn K (.ref D) (.type T) else none) = some b
  rw [if_pos hT]
  exact h4
/-- what the text says of an own error class with one field -/
structure ErrTxt (K : PySem.W.Frag) (C CP fI : Addr) (f : Str) : Prop where
  cls : ∃ nm q N bs sn sub ab col dd k0 k1 k2 k3 k5, K.lookup C = some (excClassObj nm q C N bs [.ref CP, .type "ValueError", .type "Exception", .type "BaseException", .type "object"] true sn sub ab col dd k0 k1 k2 k3 k5 "ValueError.__new__")
  sa : PySem.W.findIn K (.ref C) "__setattr__" = some (some (.builtin "object.__setattr__"))
  ga : PySem.W.findIn K (.ref C) "__getattribute__" = some (some (.builtin "BaseException.__getattribute__"))
  gg : PySem.W.findIn K (.ref C) "__getattr__" = some none
  hc : PySem.W.findIn K (.ref C) "__class__" = some (some (.builtin "object.__class__"))
  no : PySem.W.findIn K (.ref C) f = some none
  iC : PySem.W.findIn K (.ref C) "__init__" = some (some (.ref fI))
  tI : PySem.W.typeIn K (.ref fI) = some (.type "function")
  kC : PySem.W.keepIn K (.ref C) = true
  exC : PySem.W.subIn K (.ref C) (.type "BaseException") = some true
  veC : PySem.W.subIn K (.ref C) (.type "ValueError") = some true
  tyC : PySem.W.typeIn K (.ref C) = some (.type "type")
  hdC : PySem.W.hasDictIn K C = true
  mro : PySem.W.mroIn K C (.type "object") = some true
  sub : PySem.W.subIn K (.ref C) (.ref C) = some true
  par : PySem.W.subIn K (.ref C) (.ref CP) = some true
section
variable {K : PySem.W.Frag} {C CP fI : Addr} {f : Str}
theorem ErrTxt.oex (T : ErrTxt K C CP fI f) : OexC K C := by
  obtain ⟨nm, q, N, bs, sn, sub, ab, col, dd, k0, k1, k2, k3, k5, h⟩ := T.cls
  exact ⟨⟨nm, q, N, bs, _, sn, sub, ab, col, dd, k0, k1, k2, k3, k5, h, rfl⟩, T.sa, T.exC, T.tyC, T.kC⟩
theorem ErrTxt.xc (T : ErrTxt K C CP fI f) (hn : PySem.W.specialIn K (.builtin "object.__class__") "__get__" = some (some (.builtin "getset_descriptor.__get__"))) (ht : PySem.W.takesIn K (.builtin "object.__class__") = some true) : ExcC K C := ⟨T.ga, T.gg, T.exC, T.hdC, T.hc, hn, ht, T.mro⟩
theorem ErrTxt.xf (T : ErrTxt K C CP fI f) : XfC K C := ⟨T.ga, T.gg, T.exC, T.hdC⟩
end
/-- the promise of a law -/
abbrev spL (K : PySem.W.Frag) (eg : EK → Addr) (m : Scr → Out Bool) : Sp := spM K eg .val (fun y : Scr × Unit => m y.1) (fun y => [aV K y.1])
/-- .. told without the errors -/
def spT (K : PySem.W.Frag) : Sp := fun vs H Q _ => ∃ (a : Addr) (ns : List Int), vs = [.ref a] ∧ ns.length ≤ 63 ∧ SqL K H a (ns.map V.int) ∧ ∀ H', Q (.bl true) H'
theorem spL_of {K : PySem.W.Frag} {eg : EK → Addr} {m : Scr → Out Bool} (hm : ∀ ns : List Int, ns.length ≤ 63 → m ⟨ns⟩ = .ok true) (vs : List V) (H : Hp) (Q : VK) (E : XK) (h : spT K vs H Q E) : spL K eg m vs H Q E := by
  obtain ⟨a, ns, rfl, hl, hS, q⟩ := h
  refine ⟨(⟨ns⟩, ()), [], fun _ h => (nomatch h), .cons ?_ .nil, ?_⟩
  · rw [hide_nil]
    exact ⟨a, rfl, hS⟩
  · show (m ⟨ns⟩).wp _ _
    rw [hm ns hl]
    intro v H' _ r
    obtain ⟨F, _, _, _, _, h⟩ := r
    rw [show v = .bl true from h]
    exact q H'
theorem noCX {P : Program} {w : World} {H : Hp} {s : Shared} {e : Value} {s' : Shared} (h : L2N.CX P w [] H s (fun _ _ _ => False) e s') : False := by
  obtain ⟨_, _, _, _, _, _, _, _, _, _, _, _, z⟩ := h
  exact z.elim
/-- as L2.walk_of, the errors' addresses told by the text -/
theorem walk_ex {l : PySem.W.OpenLaw} {k : Nat} {q : Program} {loose : List Str} {XP : (Str → Option Value) → Heap → Prop} {YP : World → Heap → Prop} {d : DefRec} {K : Params → PySem.W.Frag} {m : Scr → Out Bool} (hn : l.most = some 63) (hdf : d.params.defaults = []) (hr : Room k callerA)
    (hY : ∀ (w : World) (h : Heap), YP w h → (K w.params).In h)
    (F : ∀ (w : World) (mg : Str → Option Value) (fa : Addr) (h : Heap), (K w.params).In h → h.Ns mainGlobals mg → mg d.name = some (.ref fa) →
      ∃ eg : EK → Addr, ∃ fd : FuncData, (∀ (s : Shared) (u : Value), BindsTo s fd ⟨[u], []⟩ [("script", u)]) ∧
        ∀ base : Heap, (K w.params).In base → base.Ns mainGlobals mg → FnOk l.prog w (K w.params) mg base (L2N.CX l.prog w) k fa fd ["script"] (spL (K w.params) eg m))
    (hm : ∀ ns : List Int, ns.length ≤ 63 → m ⟨ns⟩ = .ok true) : PySem.W.WalkO q loose XP YP l.row.toRowW d [] (fun f vs => PySem.call f vs) :=
  L2.walk_of (n := 63) (k := k) (x := "script") (CX := fun w => L2N.CX l.prog w) (sp := fun w => spT (K w.params)) hn (by decide) hdf hr hY (fun w mg fa h h1 h2 h3 => by
    obtain ⟨eg, fd, hb, hf⟩ := F w mg fa h h1 h2 h3
    exact ⟨fd, hb, fun base b1 b2 => (hf base b1 b2).imp (spL_of hm)⟩)
    (fun w H a ns hl _ hS => ⟨a, ns, rfl, hl, hS, fun _ => rfl⟩) fun w H s e s' z => noCX z
end Mw
set_option maxRecDepth 100000
set_option maxHeartbeats 4000000
namespace Mw
open PySem PySem.Spec PyProof.Rows L2

/-! ### plain laws of the mirrors' words -/
section
variable {α β γ S ω : Type}
/-! not by rfl: the kernel is not to compute -/
theorem bnd_ok (a : α) (f : α → Out β) : (Out.ok a).bind f = f a := by
  have h : ∀ m : Out α, m = .ok a → m.bind f = f a := by
    intro m e
    subst e
    rfl
  exact h _ rfl
theorem bnd_err (e : Err) (f : α → Out β) : (Out.err e : Out α).bind f = .err e := by
  have h : ∀ m : Out α, m = .err e → m.bind f = .err e := by
    intro m e'
    subst e'
    rfl
  exact h _ rfl
theorem go_fin {k : S → Out ω} (s : S) : Aft.go k (.fin s) = k s := by
  have h : ∀ m : Aft S ω, m = .fin s → Aft.go k m = k s := by
    intro m e
    subst e
    rfl
  exact h _ rfl
theorem go_out {k : S → Out ω} (w : ω) : Aft.go k (.out w : Aft S ω) = .ok w := by
  have h : ∀ m : Aft S ω, m = .out w → Aft.go k m = .ok w := by
    intro m e
    subst e
    rfl
  exact h _ rfl
theorem len1 {x : α} : [x].length = 1 := by
  have h : ∀ l : List α, l = [x] → l.length = 1 := by
    intro l e
    subst e
    rfl
  exact h _ rfl
theorem forL_nil {f : α → S → Out (Ctl S ω)} {s : S} : forL f [] s = .ok (.fin s) := rfl
theorem forL_cons {f : α → S → Out (Ctl S ω)} {x : α} {xs : List α} {s : S} : forL f (x :: xs) s = (f x s).bind fun z => match z with
    | .nxt s' => forL f xs s'
    | .brk s' => .ok (.fin s')
    | .out w => .ok (.out w) := rfl
theorem forL_nxt {f : α → S → Out (Ctl S ω)} {x : α} {xs : List α} {s s' : S} (h : f x s = .ok (.nxt s')) : forL f (x :: xs) s = forL f xs s' := by
  rw [forL_cons, h]
  rfl
theorem forL_out {f : α → S → Out (Ctl S ω)} {x : α} {xs : List α} {s : S} {w : ω} (h : f x s = .ok (.out w)) : forL f (x :: xs) s = .ok (.out w) := by
  rw [forL_cons, h]
  rfl
theorem forL_brk {f : α → S → Out (Ctl S ω)} {x : α} {xs : List α} {s s' : S} (h : f x s = .ok (.brk s')) : forL f (x :: xs) s = .ok (.fin s') := by
  rw [forL_cons, h]
  rfl
theorem forL_err {f : α → S → Out (Ctl S ω)} {x : α} {xs : List α} {s : S} {e : Err} (h : f x s = .err e) : forL f (x :: xs) s = .err e := by
  rw [forL_cons, h]
  rfl
/-- every turn goes on: the state is st -/
theorem forL_run {f : α → S → Out (Ctl S ω)} : ∀ {xs : List α} (st : Nat → S), (∀ i x, xs[i]? = some x → f x (st i) = .ok (.nxt (st (i + 1)))) → forL f xs (st 0) = .ok (.fin (st xs.length))
  | [], _, _ => rfl
  | x :: xs, st, h => by
    rw [forL_nxt (h 0 x rfl)]
    exact forL_run (fun i => st (i + 1)) fun i y hy => h (i + 1) y (by simpa using hy)
/-- turn n leaves -/
theorem forL_stop {f : α → S → Out (Ctl S ω)} {w : ω} : ∀ {xs : List α} (st : Nat → S) {n : Nat} {x : α}, xs[n]? = some x → (∀ i y, i < n → xs[i]? = some y → f y (st i) = .ok (.nxt (st (i + 1)))) → f x (st n) = .ok (.out w) → forL f xs (st 0) = .ok (.out w)
  | [], _, _, _, e, _, _ => by simp at e
  | x :: xs, st, 0, y, e, _, r => by
    have e' : x = y := by simpa using e
    subst e'
    exact forL_out r
  | x :: xs, st, n + 1, y, e, h, r => by
    rw [forL_nxt (h 0 x (Nat.succ_pos _) rfl)]
    exact forL_stop (fun i => st (i + 1)) (by simpa using e) (fun i z hi hz => h (i + 1) z (Nat.succ_lt_succ hi) (by simpa using hz)) r
theorem forL_stopE {f : α → S → Out (Ctl S ω)} {w : Err} : ∀ {xs : List α} (st : Nat → S) {n : Nat} {x : α}, xs[n]? = some x → (∀ i y, i < n → xs[i]? = some y → f y (st i) = .ok (.nxt (st (i + 1)))) → f x (st n) = .err w → forL f xs (st 0) = .err w
  | [], _, _, _, e, _, _ => by simp at e
  | x :: xs, st, 0, y, e, _, r => by
    have e' : x = y := by simpa using e
    subst e'
    exact forL_err r
  | x :: xs, st, n + 1, y, e, h, r => by
    rw [forL_nxt (h 0 x (Nat.succ_pos _) rfl)]
    exact forL_stopE (fun i => st (i + 1)) (by simpa using e) (fun i z hi hz => h (i + 1) z (Nat.succ_lt_succ hi) (by simpa using hz)) r
/-- every turn keeps I -/
theorem forL_inv {f : α → S → Out (Ctl S ω)} : ∀ {xs : List α} (I : Nat → S → Prop) {s : S}, I 0 s → (∀ i x s, xs[i]? = some x → I i s → ∃ s', f x s = .ok (.nxt s') ∧ I (i + 1) s') → ∃ s', forL f xs s = .ok (.fin s') ∧ I xs.length s'
  | [], I, s, h0, _ => ⟨s, rfl, h0⟩
  | x :: xs, I, s, h0, h => by
    obtain ⟨s1, e1, h1⟩ := h 0 x s rfl h0
    obtain ⟨s2, e2, h2⟩ := forL_inv (fun i => I (i + 1)) h1 fun i y s hy hi => h (i + 1) y s (by simpa using hy) hi
    exact ⟨s2, by rw [forL_nxt e1]; exact e2, h2⟩
theorem rangeI_len' {lo : Int} {n : Nat} : (rangeI lo n).length = n := rangeI_len
theorem rangeI_at {lo : Int} {n i : Nat} (h : i < n) : (rangeI lo n)[i]? = some (lo + i) := by
  unfold rangeI
  simp [h]
theorem rangeI_succ {lo : Int} {n : Nat} : rangeI lo (n + 1) = lo :: rangeI (lo + 1) n := by
  unfold rangeI
  rw [List.range_succ_eq_map, List.map_cons, List.map_map]
  congr 1
  · simp
  · apply List.map_congr_left
    intro i _
    simp only [Function.comp]
    omega
theorem rangeI_zero {lo : Int} : rangeI lo 0 = [] := rfl
theorem enumI_at {xs : List α} {k i : Nat} {x : α} (h : xs[i]? = some x) : (enumI k xs)[i]? = some (((k + i : Nat) : Int), x) := by
  induction xs generalizing k i with
  | nil => simp at h
  | cons y ys ih =>
    cases i with
    | zero =>
      simp at h
      subst h
      simp [enumI]
    | succ i =>
      simp [enumI]
      rw [ih (k := k + 1) (by simpa using h)]
      congr 2
      omega
theorem rngOk_of {n : Int} (h1 : 0 ≤ n) (h2 : n < 4611686018427387904) : rngOk n := by
  unfold rngOk
  omega
theorem item_at {xs : List α} {i : Nat} {x : α} (h : xs[i]? = some x) : item xs (i : Int) = .ok x := by
  have hi : i < xs.length := by
    obtain ⟨h1, _⟩ := List.getElem?_eq_some_iff.mp h
    exact h1
  have e : atI xs (i : Int) = some x := by
    unfold atI ixN
    rw [if_pos (by omega), if_pos (by omega)]
    simpa using h
  unfold item
  rw [e]
theorem item_get {xs : List α} {i : Int} (h0 : 0 ≤ i) (h1 : i < xs.length) : ∃ x, item xs i = .ok x ∧ x ∈ xs ∧ xs[i.toNat]? = some x := by
  have hi : i.toNat < xs.length := by omega
  refine ⟨xs[i.toNat], ?_, List.getElem_mem hi, List.getElem?_eq_getElem hi⟩
  have e := item_at (xs := xs) (List.getElem?_eq_getElem hi)
  rw [Int.toNat_of_nonneg h0] at e
  exact e
theorem item_last {xs : List α} (h : xs ≠ []) : ∃ x, item xs (-1) = .ok x ∧ x ∈ xs ∧ xs.getLast? = some x := by
  have hl : 0 < xs.length := List.length_pos_iff.mpr h
  have hi : xs.length - 1 < xs.length := by omega
  refine ⟨xs[xs.length - 1], ?_, List.getElem_mem hi, ?_⟩
  · have e : atI xs (-1) = some xs[xs.length - 1] := by
      unfold atI ixN
      rw [if_neg (by omega), if_pos (by omega)]
      have e2 : (-1 + (xs.length : Int)).toNat = xs.length - 1 := by omega
      simp [e2, hi]
    unfold item
    rw [e]
  · rw [List.getLast?_eq_getElem?]
    exact List.getElem?_eq_getElem hi
theorem appL_ok {xs : List α} {x : α} (h : xs.length < 16777216) : appL xs x = .ok (xs ++ [x]) := by
  unfold appL
  exact chk_pos h
theorem popL_ok {xs : List α} {x : α} : popL (xs ++ [x]) = .ok (x, xs) := by
  unfold popL
  simp
theorem setAt_ok {xs : List α} {i : Nat} {x : α} (h : i < xs.length) : setAt xs (i : Int) x = .ok (xs.set i x) := by
  have e : ixN xs.length (i : Int) = some i := by
    unfold ixN
    rw [if_pos (by omega), if_pos (by omega), Int.toNat_natCast]
  unfold setAt
  rw [e]
theorem cut_len {xs : List α} {lo hi : Option Int} : (cut xs lo hi).length ≤ xs.length := by
  unfold cut
  rw [List.length_take, List.length_drop]
  omega
theorem cut_mem {xs : List α} {lo hi : Option Int} {x : α} (h : x ∈ cut xs lo hi) : x ∈ xs := by
  unfold cut at h
  exact List.mem_of_mem_drop (List.mem_of_mem_take h)
theorem sIx_pos {n d : Nat} {v : Int} (h : 0 ≤ v) : HT.sIx n d (some v) = min v.toNat n := by
  show (if v < 0 then (v + (n : Int)).toNat else min v.toNat n) = min v.toNat n
  rw [if_neg (by omega)]
theorem cut_to {xs : List α} {n : Int} (h : 0 ≤ n) : cut xs none (some n) = xs.take n.toNat := by
  unfold cut
  rw [HT.sIx_none, sIx_pos h, List.drop_zero, Nat.sub_zero]
  by_cases hl : n.toNat ≤ xs.length
  · rw [Nat.min_eq_left hl]
  · rw [Nat.min_eq_right (by omega), List.take_of_length_le (Nat.le_refl _), List.take_of_length_le (by omega)]
theorem cut_from {xs : List α} {n : Int} (h : 0 ≤ n) : cut xs (some n) none = xs.drop n.toNat := by
  unfold cut
  rw [HT.sIx_none, sIx_pos h]
  by_cases hl : n.toNat ≤ xs.length
  · rw [Nat.min_eq_left hl, List.take_of_length_le (by rw [List.length_drop]; omega)]
  · rw [Nat.min_eq_right (by omega), List.drop_eq_nil_of_le (Nat.le_refl _), List.drop_eq_nil_of_le (by omega), List.take_nil]
theorem cut_two {xs : List α} {a b : Int} (h : 0 ≤ a) (h2 : 0 ≤ b) : cut xs (some a) (some b) = (xs.drop a.toNat).take (b.toNat - a.toNat) := by
  unfold cut
  rw [sIx_pos h, sIx_pos h2]
  by_cases hl : a.toNat ≤ xs.length
  · rw [Nat.min_eq_left hl]
    apply List.ext_getElem?
    intro i
    rw [List.getElem?_take, List.getElem?_take, List.getElem?_drop]
    by_cases h3 : i < b.toNat - a.toNat
    · rw [if_pos h3]
      by_cases h4 : i < min b.toNat xs.length - a.toNat
      · rw [if_pos h4]
      · rw [if_neg h4]
        symm
        apply List.getElem?_eq_none
        omega
    · rw [if_neg h3, if_neg (by omega)]
  · rw [List.drop_eq_nil_of_le (by omega), List.drop_eq_nil_of_le (by omega), List.take_nil, List.take_nil]
theorem rep_ok {n : Nat} {k : Int} (h1 : -9000000000 ≤ k) (h2 : k ≤ 16777216) (hn : n = 1) : repOk n k := by
  unfold repOk
  subst hn
  refine ⟨by omega, by omega, by omega⟩
theorem flat_one {n : Nat} {x : α} : (List.replicate n [x]).flatten = List.replicate n x := by
  induction n with
  | zero => rfl
  | succ n ih => rw [List.replicate_succ, List.flatten_cons, ih, List.replicate_succ]; rfl
theorem chk_if {α : Type} {p : Prop} [Decidable p] {x : α} : chk p x = if p then .ok x else .bad := rfl
theorem ite_b {α : Type} {p : Prop} [Decidable p] {a b : α} : (if decide p = true then a else b) = if p then a else b := by
  by_cases h : p <;> simp [h]
theorem lcL_map {g : α → β} : ∀ (xs : List α) (acc : List β), acc.length + xs.length ≤ 16777216 → lcL (fun _ => Out.ok true) (fun x => Out.ok (g x)) xs acc = .ok (acc ++ xs.map g)
  | [], acc, _ => by
    show Out.ok acc = _
    rw [List.map_nil, List.append_nil]
  | x :: xs, acc, h => by
    have hl : acc.length < 16777216 := by rw [List.length_cons] at h; omega
    show (if acc.length < 16777216 then lcL (fun _ => Out.ok true) (fun x => Out.ok (g x)) xs (acc ++ [g x]) else .bad) = _
    rw [if_pos hl, lcL_map xs (acc ++ [g x]) (by rw [List.length_append, List.length_cons, List.length_nil]; rw [List.length_cons] at h; omega), List.map_cons, List.append_assoc]
    rfl
theorem tryE_okE {p : Err → Option Bool} {h : Err → Out α} (a : α) : tryE p (.ok a) h = .ok a := by
  have k : ∀ m : Out α, m = .ok a → tryE p m h = .ok a := by
    intro m e
    subst e
    rfl
  exact k _ rfl
theorem tryE_errE {p : Err → Option Bool} {h : Err → Out α} {e : Err} {a : α} (hp : p e = some true) (hh : h e = .ok a) : tryE p (.err e) h = .ok a := by
  show (match p e with
    | some true => (match h e with
      | .ok a => Out.ok a
      | _ => .bad)
    | some false => .err e
    | none => .bad) = _
  rw [hp, hh]
theorem rng0 {n : Nat} (h : n < 4611686018427387904) : chk (rngOk (n : Int)) (rangeI 0 (n : Int).toNat) = .ok (rangeI 0 n) := by
  rw [chk_pos (rngOk_of (by omega) (by omega)), Int.toNat_natCast]
/-! ### it is known, and Q holds -/
def Is (m : Out α) (Q : α → Prop) : Prop := ∃ a, m = .ok a ∧ Q a
theorem Is.ok {a : α} {Q : α → Prop} (h : Q a) : Is (.ok a) Q := ⟨a, rfl, h⟩
theorem Is.bind {m : Out α} {f : α → Out β} {Q : α → Prop} {R : β → Prop} (h : Is m Q) (k : ∀ a, Q a → Is (f a) R) : Is (m.bind f) R := by
  obtain ⟨a, e, q⟩ := h
  rw [e, bnd_ok]
  exact k a q
theorem Is.mono {m : Out α} {Q R : α → Prop} (h : Is m Q) (k : ∀ a, Q a → R a) : Is m R := by
  obtain ⟨a, e, q⟩ := h
  exact ⟨a, e, k a q⟩
theorem Is.chk {p : Prop} [Decidable p] {x : α} {Q : α → Prop} (h : p) (q : Q x) : Is (chk p x) Q := ⟨x, chk_pos h, q⟩
theorem Is.item {xs : List α} {i : Int} {Q : α → Prop} (h0 : 0 ≤ i) (h1 : i < xs.length) (q : ∀ x ∈ xs, xs[i.toNat]? = some x → Q x) : Is (item xs i) Q := by
  obtain ⟨x, e, hx, hg⟩ := item_get h0 h1
  exact ⟨x, e, q x hx hg⟩
theorem Is.last {xs : List α} {Q : α → Prop} (h : xs ≠ []) (q : ∀ x ∈ xs, Q x) : Is (Mw.item xs (-1)) Q := by
  obtain ⟨x, e, hx, _⟩ := item_last h
  exact ⟨x, e, q x hx⟩
theorem Is.app {xs : List α} {x : α} {Q : List α → Prop} (h : xs.length < 16777216) (q : Q (xs ++ [x])) : Is (appL xs x) Q := ⟨_, appL_ok h, q⟩
theorem Is.ite {p : Prop} [Decidable p] {a b : Out α} {Q : α → Prop} (h1 : p → Is a Q) (h2 : ¬ p → Is b Q) : Is (if p then a else b) Q := by
  by_cases h : p
  · rw [if_pos h]; exact h1 h
  · rw [if_neg h]; exact h2 h
/-- a loop that always goes on -/
theorem Is.for {f : α → S → Out (Ctl S ω)} {xs : List α} {s : S} {k : S → Out ω} {R : ω → Prop} (I : Nat → S → Prop) (h0 : I 0 s) (h : ∀ i x s, xs[i]? = some x → I i s → Is (f x s) fun c => ∃ s', c = .nxt s' ∧ I (i + 1) s') (hk : ∀ s, I xs.length s → Is (k s) R) : Is ((forL f xs s).bind (Aft.go k)) R := by
  obtain ⟨s', e, hs⟩ := forL_inv (f := f) I h0 fun i x s hx hi => by
    obtain ⟨c, e, s', e2, h2⟩ := h i x s hx hi
    subst e2
    exact ⟨s', e, h2⟩
  rw [e, bnd_ok, go_fin]
  exact hk s' hs
theorem rng_ok {n : Int} (h0 : 0 ≤ n) (h : n < 4611686018427387904) : chk (rngOk n) (rangeI 0 n.toNat) = .ok (rangeI 0 n.toNat) := chk_pos (rngOk_of h0 h)
theorem lcL_filter {p : α → Bool} : ∀ (xs : List α) (acc : List α), acc.length + xs.length ≤ 16777216 → lcL (fun x => Out.ok (p x)) (fun x => Out.ok x) xs acc = .ok (acc ++ xs.filter p)
  | [], acc, _ => by
    show Out.ok acc = _
    rw [List.filter_nil, List.append_nil]
  | x :: xs, acc, h => by
    have hl : acc.length < 16777216 := by rw [List.length_cons] at h; omega
    have e : ∀ b, p x = b → lcL (fun x => Out.ok (p x)) (fun x => Out.ok x) (x :: xs) acc = match b with
      | true => if acc.length < 16777216 then lcL (fun x => Out.ok (p x)) (fun x => Out.ok x) xs (acc ++ [x]) else .bad
      | false => lcL (fun x => Out.ok (p x)) (fun x => Out.ok x) xs acc := by
      intro b hb
      rw [lcL.eq_2, hb]
      cases b <;> rfl
    rw [e (p x) rfl]
    cases hp : p x with
    | true =>
      show (if acc.length < 16777216 then lcL (fun x => Out.ok (p x)) (fun x => Out.ok x) xs (acc ++ [x]) else .bad) = _
      rw [if_pos hl, lcL_filter xs (acc ++ [x]) (by rw [List.length_append, List.length_cons, List.length_nil]; rw [List.length_cons] at h; omega), List.filter_cons, if_pos hp, List.append_assoc]
      rfl
    | false =>
      show lcL (fun x => Out.ok (p x)) (fun x => Out.ok x) xs acc = _
      rw [lcL_filter xs acc (by rw [List.length_cons] at h; omega), List.filter_cons, if_neg (by rw [hp]; exact Bool.false_ne_true)]
end
end Mw
set_option maxRecDepth 100000
set_option maxHeartbeats 4000000
namespace K03
open PySem PySem.Spec PyProof.Rows L2 Mw

/-- the errors that are caught as PackError -/
def pk_PackError (e : Err) : Option Bool := match e.k, e.fs with
  | .BadBinary, none => some true
  | .BadRow, some _ => some true
  | .BadSign, some _ => some true
  | _, _ => none

def m_checked_row (v_row : (List Int)) : Out (List Int) :=
  (((Out.ok v_row).bind fun x_1 => Out.ok (enumI 0 x_1)).bind fun xs => (forL (fun (x_3 : (Int × Int)) (s_2 : Unit) => ((((Out.ok x_3.2).bind fun i_4 => (Out.ok (0 : Int)).bind fun j_5 => Out.ok (decide (i_4 < j_5))).bind fun x_8 => if x_8 = true then Out.ok true else ((Out.ok x_3.2).bind fun i_6 => (Out.ok (9 : Int)).bind fun j_7 => Out.ok (decide (j_7 < i_6)))).bind fun b_9 => if b_9 = true then ((Out.ok x_3.1).bind fun y_10 => Out.err ⟨.BadSign, some [("place", PyE.val y_10)]⟩) else (Out.ok (Ctl.nxt ())))) xs ()).bind (Aft.go fun s_2 : Unit => (((Out.ok v_row).bind fun x_11 => Out.ok x_11).bind fun r_12 => Out.ok r_12)))

def m_matched (v_row : (List Int)) : Out (List Int) :=
  ((((Out.ok v_row).bind fun a_1 => (Out.ok ()).bind fun b_2 => Out.ok (a_1, b_2)).bind fun x_3 => m_checked_row x_3.1).bind fun signs_4 => ((((((Out.ok (1 : Int)).bind fun x_5 => Out.ok (-x_5)).bind fun a_6 => (Out.ok ()).bind fun b_7 => Out.ok (a_6, b_7)).bind fun x_8 => Out.ok ([x_8.1])).bind fun i_10 => ((Out.ok signs_4).bind fun x_9 => Out.ok (x_9.length : Int)).bind fun j_11 => chk (repOk i_10.length j_11) (List.replicate j_11.toNat i_10).flatten).bind fun partners_12 => ((Out.ok ([] : (List Int))).bind fun waiting_13 => (((Out.ok signs_4).bind fun x_14 => Out.ok (enumI 0 x_14)).bind fun xs => (forL (fun (x_16 : (Int × Int)) (s_15 : (List Int) × (List Int)) => (((Out.ok x_16.2).bind fun i_17 => (Out.ok (0 : Int)).bind fun j_18 => Out.ok (decide (j_18 < i_17))).bind fun b_19 => if b_19 = true then ((Out.ok x_16.1).bind fun y_20 => (appL s_15.2 y_20).bind fun waiting_21 => (Out.ok (Ctl.nxt (s_15.1, waiting_21)))) else ((((Out.ok s_15.2).bind fun x_22 => Out.ok (x_22.length : Int)).bind fun i_23 => (Out.ok (0 : Int)).bind fun j_24 => Out.ok (decide (j_24 < i_23))).bind fun b_25 => if b_25 = true then ((popL s_15.2).bind fun r_26 => ((Out.ok x_16.1).bind fun y_27 => (Out.ok r_26.1).bind fun j_28 => (setAt s_15.1 j_28 y_27).bind fun partners_29 => ((Out.ok r_26.1).bind fun y_30 => (Out.ok x_16.1).bind fun j_31 => (setAt partners_29 j_31 y_30).bind fun partners_32 => (Out.ok (Ctl.nxt (partners_32, r_26.2)))))) else (Out.ok (Ctl.nxt (s_15.1, s_15.2)))))) xs (partners_12, waiting_13)).bind (Aft.go fun s_15 : (List Int) × (List Int) => ((Out.ok s_15.1).bind fun r_33 => Out.ok r_33))))))

def m_checked_balanced (v_row : (List Int)) : Out (List Int) :=
  ((((Out.ok v_row).bind fun a_1 => (Out.ok ()).bind fun b_2 => Out.ok (a_1, b_2)).bind fun x_3 => m_matched x_3.1).bind fun partners_4 => (((Out.ok v_row).bind fun x_5 => Out.ok (enumI 0 x_5)).bind fun xs => (forL (fun (x_7 : (Int × Int)) (s_6 : Unit) => ((((Out.ok x_7.2).bind fun i_8 => (Out.ok (0 : Int)).bind fun j_9 => Out.ok (decide (i_8 = j_9))).bind fun x_15 => if x_15 = true then (((Out.ok partners_4).bind fun i_10 => (Out.ok x_7.1).bind fun j_11 => item i_10 j_11).bind fun i_13 => ((Out.ok (1 : Int)).bind fun x_12 => Out.ok (-x_12)).bind fun j_14 => Out.ok (decide (i_13 = j_14))) else Out.ok false).bind fun b_16 => if b_16 = true then ((Out.ok x_7.1).bind fun y_17 => Out.err ⟨.BadRow, some [("place", PyE.val y_17)]⟩) else (Out.ok (Ctl.nxt ())))) xs ()).bind (Aft.go fun s_6 : Unit => ((((Out.ok (1 : Int)).bind fun x_18 => Out.ok (-x_18)).bind fun i_19 => (Out.ok partners_4).bind fun j_20 => Out.ok (decide (i_19 ∈ j_20))).bind fun b_21 => if b_21 = true then (((Out.ok v_row).bind fun x_22 => Out.ok (x_22.length : Int)).bind fun y_23 => Out.err ⟨.BadRow, some [("place", PyE.val y_23)]⟩) else (((Out.ok v_row).bind fun x_24 => Out.ok x_24).bind fun r_25 => Out.ok r_25)))))

def m_opening_number (v_signs : (List Int)) (v_numbers : (List Int)) (v_place : Int) : Out Int :=
  ((((Out.ok v_place).bind fun i_2 => ((Out.ok v_signs).bind fun x_1 => Out.ok (x_1.length : Int)).bind fun j_3 => Out.ok (decide (i_2 < j_3))).bind fun x_8 => if x_8 = true then (((Out.ok v_signs).bind fun i_4 => (Out.ok v_place).bind fun j_5 => item i_4 j_5).bind fun i_6 => (Out.ok (0 : Int)).bind fun j_7 => Out.ok (decide (j_7 < i_6))) else Out.ok false).bind fun b_9 => if b_9 = true then (((Out.ok v_numbers).bind fun i_10 => (Out.ok v_place).bind fun j_11 => item i_10 j_11).bind fun r_12 => Out.ok r_12) else (((Out.ok (1 : Int)).bind fun x_13 => Out.ok (-x_13)).bind fun r_14 => Out.ok r_14))

def m_binary_of_row (v_row : (List Int)) : Out (List (T3 Int Int Int)) :=
  ((((Out.ok v_row).bind fun a_1 => (Out.ok ()).bind fun b_2 => Out.ok (a_1, b_2)).bind fun x_3 => m_checked_balanced x_3.1).bind fun signs_4 => ((((Out.ok signs_4).bind fun a_5 => (Out.ok ()).bind fun b_6 => Out.ok (a_5, b_6)).bind fun x_7 => m_matched x_7.1).bind fun partners_8 => ((Out.ok ([] : (List Int))).bind fun numbers_9 => ((Out.ok (0 : Int)).bind fun opened_10 => ((Out.ok signs_4).bind fun xs => (forL (fun (x_12 : Int) (s_11 : (List Int) × Int) => ((Out.ok s_11.2).bind fun y_13 => (appL s_11.1 y_13).bind fun numbers_14 => (((Out.ok x_12).bind fun i_15 => (Out.ok (0 : Int)).bind fun j_16 => Out.ok (decide (j_16 < i_15))).bind fun b_17 => if b_17 = true then (((Out.ok (1 : Int)).bind fun y_18 => Out.ok (s_11.2 + y_18)).bind fun opened_19 => (Out.ok (Ctl.nxt (numbers_14, opened_19)))) else (Out.ok (Ctl.nxt (numbers_14, s_11.2)))))) xs (numbers_9, opened_10)).bind (Aft.go fun s_11 : (List Int) × Int => ((Out.ok ([] : (List (T3 Int Int Int)))).bind fun triples_20 => (((Out.ok signs_4).bind fun x_21 => Out.ok (enumI 0 x_21)).bind fun xs => (forL (fun (x_23 : (Int × Int)) (s_22 : (List (T3 Int Int Int))) => (((Out.ok x_23.2).bind fun i_24 => (Out.ok (0 : Int)).bind fun j_25 => Out.ok (decide (j_25 < i_24))).bind fun b_26 => if b_26 = true then ((((Out.ok signs_4).bind fun a_34 => ((Out.ok s_11.1).bind fun a_32 => (((Out.ok x_23.1).bind fun i_28 => (Out.ok (1 : Int)).bind fun j_29 => Out.ok (i_28 + j_29)).bind fun a_30 => (Out.ok ()).bind fun b_31 => Out.ok (a_30, b_31)).bind fun b_33 => Out.ok (a_32, b_33)).bind fun b_35 => Out.ok (a_34, b_35)).bind fun x_36 => m_opening_number x_36.1 x_36.2.1 x_36.2.2.1).bind fun left_37 => ((((Out.ok signs_4).bind fun a_47 => ((Out.ok s_11.1).bind fun a_45 => ((((Out.ok partners_8).bind fun i_38 => (Out.ok x_23.1).bind fun j_39 => item i_38 j_39).bind fun i_41 => (Out.ok (1 : Int)).bind fun j_42 => Out.ok (i_41 + j_42)).bind fun a_43 => (Out.ok ()).bind fun b_44 => Out.ok (a_43, b_44)).bind fun b_46 => Out.ok (a_45, b_46)).bind fun b_48 => Out.ok (a_47, b_48)).bind fun x_49 => m_opening_number x_49.1 x_49.2.1 x_49.2.2.1).bind fun right_50 => ((((Out.ok x_23.2).bind fun a_55 => ((Out.ok left_37).bind fun a_53 => ((Out.ok right_50).bind fun a_51 => (Out.ok ()).bind fun b_52 => Out.ok (a_51, b_52)).bind fun b_54 => Out.ok (a_53, b_54)).bind fun b_56 => Out.ok (a_55, b_56)).bind fun x_57 => Out.ok (T3.mk x_57.1 x_57.2.1 x_57.2.2.1)).bind fun y_58 => (appL s_22 y_58).bind fun triples_59 => (Out.ok (Ctl.nxt triples_59))))) else (Out.ok (Ctl.nxt s_22)))) xs triples_20).bind (Aft.go fun s_22 : (List (T3 Int Int Int)) => ((Out.ok s_22).bind fun r_60 => Out.ok r_60))))))))))

def m_row_of_binary (v_triples : (List (T3 Int Int Int))) : Out (List Int) :=
  ((Out.ok ([] : (List Int))).bind fun row_1 => ((Out.ok (0 : Int)).bind fun seen_2 => (((((Out.ok v_triples).bind fun x_3 => Out.ok (x_3.length : Int)).bind fun i_4 => (Out.ok (0 : Int)).bind fun j_5 => Out.ok (decide (j_5 < i_4))).bind fun x_9 => if x_9 = true then (((Out.ok (0 : Int)).bind fun a_6 => (Out.ok ()).bind fun b_7 => Out.ok (a_6, b_7)).bind fun x_8 => Out.ok ([x_8.1])) else (Out.ok ([] : (List Int)))).bind fun waiting_10 => ((whileF (fun s_11 : (List Int) × Int × (List Int) => (((Out.ok s_11.2.2).bind fun x_12 => Out.ok (x_12.length : Int)).bind fun i_13 => (Out.ok (0 : Int)).bind fun j_14 => Out.ok (decide (j_14 < i_13)))) (fun s_11 : (List Int) × Int × (List Int) => ((popL s_11.2.2).bind fun r_15 => (((Out.ok r_15.1).bind fun i_16 => (Out.ok (-1 : Int)).bind fun j_17 => Out.ok (decide (i_16 = j_17))).bind fun b_18 => if b_18 = true then ((Out.ok (0 : Int)).bind fun y_19 => (appL s_11.1 y_19).bind fun row_20 => (Out.ok (Ctl.nxt (row_20, s_11.2.1, r_15.2)))) else ((((Out.ok r_15.1).bind fun i_21 => (Out.ok s_11.2.1).bind fun j_22 => Out.ok (!decide (i_21 = j_22))).bind fun x_26 => if x_26 = true then Out.ok true else ((Out.ok s_11.2.1).bind fun i_24 => ((Out.ok v_triples).bind fun x_23 => Out.ok (x_23.length : Int)).bind fun j_25 => Out.ok (decide (i_24 = j_25)))).bind fun b_27 => if b_27 = true then (Out.err ⟨.BadBinary, none⟩) else (((Out.ok v_triples).bind fun i_29 => (Out.ok r_15.1).bind fun j_30 => item i_29 j_30).bind fun t_28 => ((((Out.ok t_28.a).bind fun i_31 => (Out.ok (1 : Int)).bind fun j_32 => Out.ok (decide (i_31 < j_32))).bind fun x_35 => if x_35 = true then Out.ok true else ((Out.ok t_28.a).bind fun i_33 => (Out.ok (9 : Int)).bind fun j_34 => Out.ok (decide (j_34 < i_33)))).bind fun b_36 => if b_36 = true then (Out.err ⟨.BadBinary, none⟩) else (((Out.ok (1 : Int)).bind fun y_37 => Out.ok (s_11.2.1 + y_37)).bind fun seen_38 => ((Out.ok t_28.a).bind fun y_39 => (appL s_11.1 y_39).bind fun row_40 => (((Out.ok t_28.c).bind fun i_42 => ((Out.ok (1 : Int)).bind fun x_41 => Out.ok (-x_41)).bind fun j_43 => Out.ok (!decide (i_42 = j_43))).bind fun b_44 => Out.bind (if b_44 = true then ((Out.ok t_28.c).bind fun y_46 => (appL r_15.2 y_46).bind fun waiting_47 => (Out.ok waiting_47)) else (Out.ok r_15.2)) (fun s_45 : (List Int) => ((Out.ok (-1 : Int)).bind fun y_48 => (appL s_45 y_48).bind fun waiting_49 => (((Out.ok t_28.b).bind fun i_51 => ((Out.ok (1 : Int)).bind fun x_50 => Out.ok (-x_50)).bind fun j_52 => Out.ok (!decide (i_51 = j_52))).bind fun b_53 => if b_53 = true then ((Out.ok t_28.b).bind fun y_54 => (appL waiting_49 y_54).bind fun waiting_55 => (Out.ok (Ctl.nxt (row_40, seen_38, waiting_55)))) else (Out.ok (Ctl.nxt (row_40, seen_38, waiting_49))))))))))))))) 16777216 (row_1, seen_2, waiting_10)).bind (Aft.go fun s_11 : (List Int) × Int × (List Int) => (((Out.ok s_11.2.1).bind fun i_57 => ((Out.ok v_triples).bind fun x_56 => Out.ok (x_56.length : Int)).bind fun j_58 => Out.ok (decide (i_57 < j_58))).bind fun b_59 => if b_59 = true then (Out.err ⟨.BadBinary, none⟩) else ((Out.ok s_11.1).bind fun r_60 => Out.ok r_60)))))))

def m__law_digits (v_script : Scr) (v_many : Int) : Out (List Int) :=
  ((Out.ok ([] : (List Int))).bind fun pool_1 => (((Out.ok v_script).bind fun x_7 => (Out.ok none).bind fun l_8 => ((Out.ok (63 : Int)).bind fun i_6 => Out.ok (some i_6)).bind fun h_9 => Out.ok (cut x_7.l l_8 h_9)).bind fun xs => (forL (fun (x_11 : Int) (s_10 : (List Int)) => (((((Out.ok x_11).bind fun x_12 => Out.ok x_12).bind fun x_13 => Out.ok (if x_13 < 0 then -x_13 else x_13)).bind fun i_15 => (Out.ok ((63 : Int) ^ (60 : Int).toNat)).bind fun j_16 => chk (0 < j_16) (i_15 % j_16)).bind fun left_17 => (((Out.ok left_17).bind fun i_18 => Out.ok (i_18 % (63 : Int))).bind fun y_19 => (appL s_10 y_19).bind fun pool_20 => (((Out.ok (59 : Int)).bind fun n_21 => chk (rngOk n_21) (rangeI 0 n_21.toNat)).bind fun xs => (forL (fun (x_23 : Int) (s_22 : (List Int) × Int) => (((Out.ok s_22.2).bind fun i_24 => Out.ok (i_24 / (63 : Int))).bind fun left_25 => ((((Out.ok left_25).bind fun i_26 => (Out.ok (0 : Int)).bind fun j_27 => Out.ok (decide (j_27 < i_26))).bind fun x_31 => if x_31 = true then (((Out.ok s_22.1).bind fun x_28 => Out.ok (x_28.length : Int)).bind fun i_29 => (Out.ok v_many).bind fun j_30 => Out.ok (decide (i_29 < j_30))) else Out.ok false).bind fun b_32 => if b_32 = true then (((Out.ok left_25).bind fun i_33 => Out.ok (i_33 % (63 : Int))).bind fun y_34 => (appL s_22.1 y_34).bind fun pool_35 => (Out.ok (Ctl.nxt (pool_35, left_25)))) else (Out.ok (Ctl.nxt (s_22.1, left_25)))))) xs (pool_20, left_17)).bind (Aft.go fun s_22 : (List Int) × Int => (Out.ok (Ctl.nxt s_22.1))))))) xs pool_1).bind (Aft.go fun s_10 : (List Int) => (((Out.ok s_10).bind fun i_36 => (Out.ok ([] : (List Int))).bind fun j_37 => Out.ok (decide (i_36 = j_37))).bind fun b_38 => Out.bind (if b_38 = true then ((Out.ok (0 : Int)).bind fun y_40 => (appL s_10 y_40).bind fun pool_41 => (Out.ok pool_41)) else (Out.ok s_10)) (fun s_39 : (List Int) => (((Out.ok s_39).bind fun x_42 => Out.ok (x_42.length : Int)).bind fun size_43 => ((Out.ok ([] : (List Int))).bind fun digits_44 => (((Out.ok v_many).bind fun n_45 => chk (rngOk n_45) (rangeI 0 n_45.toNat)).bind fun xs => (forL (fun (x_47 : Int) (s_46 : (List Int)) => (((((Out.ok s_39).bind fun i_51 => ((Out.ok x_47).bind fun i_49 => (Out.ok size_43).bind fun j_50 => chk (0 < j_50) (i_49 % j_50)).bind fun j_52 => item i_51 j_52).bind fun i_60 => ((Out.ok x_47).bind fun i_57 => (((Out.ok x_47).bind fun i_53 => (Out.ok size_43).bind fun j_54 => Out.ok (decide (j_54 ≤ i_53))).bind fun x_55 => Out.ok (if x_55 = true then (1 : Int) else 0)).bind fun j_58 => chk (CMul i_57 j_58) (i_57 * j_58)).bind fun j_61 => Out.ok (i_60 + j_61)).bind fun i_62 => Out.ok (i_62 % (63 : Int))).bind fun y_63 => (appL s_46 y_63).bind fun digits_64 => (Out.ok (Ctl.nxt digits_64)))) xs digits_44).bind (Aft.go fun s_46 : (List Int) => ((Out.ok s_46).bind fun r_65 => Out.ok r_65))))))))))

def m__law_whole (v_told : Int) : Out Bool :=
  ((((Out.ok v_told).bind fun x_1 => Out.ok ((fun _ => true) x_1)).bind fun x_5 => if x_5 = true then (((Out.ok v_told).bind fun x_3 => Out.ok ((fun _ => false) x_3)).bind fun x_4 => Out.ok (!x_4)) else Out.ok false).bind fun r_6 => Out.ok r_6)

def m__law_row (v_told : (List Int)) (v_due : (List Int)) : Out Bool :=
  (((((Out.ok v_told).bind fun x_1 => Out.ok ((fun _ => true) x_1)).bind fun x_2 => Out.ok (!x_2)).bind fun x_7 => if x_7 = true then Out.ok true else (((Out.ok v_told).bind fun x_3 => Out.ok (x_3.length : Int)).bind fun i_5 => ((Out.ok v_due).bind fun x_4 => Out.ok (x_4.length : Int)).bind fun j_6 => Out.ok (!decide (i_5 = j_6)))).bind fun b_8 => if b_8 = true then ((Out.ok false).bind fun r_9 => Out.ok r_9) else ((((Out.ok v_due).bind fun x_10 => Out.ok (x_10.length : Int)).bind fun n_11 => chk (rngOk n_11) (rangeI 0 n_11.toNat)).bind fun xs => (forL (fun (x_13 : Int) (s_12 : Unit) => (((((((Out.ok v_told).bind fun i_14 => (Out.ok x_13).bind fun j_15 => item i_14 j_15).bind fun a_16 => (Out.ok ()).bind fun b_17 => Out.ok (a_16, b_17)).bind fun x_18 => m__law_whole x_18.1).bind fun x_19 => Out.ok (!x_19)).bind fun x_26 => if x_26 = true then Out.ok true else (((Out.ok v_told).bind fun i_20 => (Out.ok x_13).bind fun j_21 => item i_20 j_21).bind fun i_24 => ((Out.ok v_due).bind fun i_22 => (Out.ok x_13).bind fun j_23 => item i_22 j_23).bind fun j_25 => Out.ok (!decide (i_24 = j_25)))).bind fun b_27 => if b_27 = true then ((Out.ok false).bind fun r_28 => Out.ok (Ctl.out r_28)) else (Out.ok (Ctl.nxt ())))) xs ()).bind (Aft.go fun s_12 : Unit => ((Out.ok true).bind fun r_29 => Out.ok r_29))))

def m__law_table (v_told : (List (T3 Int Int Int))) (v_due : (List (T3 Int Int Int))) : Out Bool :=
  (((((Out.ok v_told).bind fun x_1 => Out.ok ((fun _ => true) x_1)).bind fun x_2 => Out.ok (!x_2)).bind fun x_7 => if x_7 = true then Out.ok true else (((Out.ok v_told).bind fun x_3 => Out.ok (x_3.length : Int)).bind fun i_5 => ((Out.ok v_due).bind fun x_4 => Out.ok (x_4.length : Int)).bind fun j_6 => Out.ok (!decide (i_5 = j_6)))).bind fun b_8 => if b_8 = true then ((Out.ok false).bind fun r_9 => Out.ok r_9) else ((((Out.ok v_due).bind fun x_10 => Out.ok (x_10.length : Int)).bind fun n_11 => chk (rngOk n_11) (rangeI 0 n_11.toNat)).bind fun xs => (forL (fun (x_13 : Int) (s_12 : Unit) => (((((Out.ok v_told).bind fun i_14 => (Out.ok x_13).bind fun j_15 => item i_14 j_15).bind fun x_16 => Out.ok ((fun _ => true) x_16)).bind fun x_17 => Out.ok (!x_17)).bind fun b_18 => if b_18 = true then ((Out.ok false).bind fun r_19 => Out.ok (Ctl.out r_19)) else ((((((((Out.ok v_told).bind fun i_20 => (Out.ok x_13).bind fun j_21 => item i_20 j_21).bind fun x_23 => Out.ok (T3.tup x_23)).bind fun x_22 => Out.ok x_22.l).bind fun a_30 => (((((Out.ok v_due).bind fun i_24 => (Out.ok x_13).bind fun j_25 => item i_24 j_25).bind fun x_27 => Out.ok (T3.tup x_27)).bind fun x_26 => Out.ok x_26.l).bind fun a_28 => (Out.ok ()).bind fun b_29 => Out.ok (a_28, b_29)).bind fun b_31 => Out.ok (a_30, b_31)).bind fun x_32 => m__law_row x_32.1 x_32.2.1).bind fun x_33 => Out.ok (!x_33)).bind fun b_34 => if b_34 = true then ((Out.ok false).bind fun r_35 => Out.ok (Ctl.out r_35)) else (Out.ok (Ctl.nxt ()))))) xs ()).bind (Aft.go fun s_12 : Unit => ((Out.ok true).bind fun r_36 => Out.ok r_36))))

def m__law_forest (v_digits : (List Int)) (v_size : Int) : Out (List (Int × Int)) :=
  ((Out.ok (9 : Int)).bind fun few_1 => (((((Out.ok v_digits).bind fun i_2 => (Out.ok (3 : Int)).bind fun j_3 => item i_2 j_3).bind fun i_4 => Out.ok (i_4 % (2 : Int))).bind fun i_5 => (Out.ok (1 : Int)).bind fun j_6 => Out.ok (decide (i_5 = j_6))).bind fun b_7 => Out.bind (if b_7 = true then (((Out.ok (1 : Int)).bind fun i_13 => (((Out.ok v_digits).bind fun i_9 => (Out.ok (4 : Int)).bind fun j_10 => item i_9 j_10).bind fun i_11 => Out.ok (i_11 % (3 : Int))).bind fun j_14 => Out.ok (i_13 + j_14)).bind fun few_15 => (Out.ok few_15)) else (Out.ok few_1)) (fun s_8 : Int => ((Out.ok ([] : (List (Int × Int)))).bind fun pairs_16 => ((Out.ok ([] : (List Int))).bind fun path_17 => (((Out.ok v_size).bind fun n_18 => chk (rngOk n_18) (rangeI 0 n_18.toNat)).bind fun xs => (forL (fun (x_20 : Int) (s_19 : (List (Int × Int)) × (List Int)) => (((Out.ok v_digits).bind fun i_24 => ((Out.ok (20 : Int)).bind fun i_22 => (Out.ok x_20).bind fun j_23 => Out.ok (i_22 + j_23)).bind fun j_25 => item i_24 j_25).bind fun mark_26 => ((((Out.ok s_19.2).bind fun x_27 => Out.ok (x_27.length : Int)).bind fun i_33 => ((((Out.ok mark_26).bind fun i_28 => Out.ok (i_28 % (7 : Int))).bind fun i_29 => (Out.ok (2 : Int)).bind fun j_30 => Out.ok (decide (j_30 < i_29))).bind fun x_31 => Out.ok (if x_31 = true then (1 : Int) else 0)).bind fun j_34 => Out.ok (i_33 - j_34)).bind fun keep_35 => ((((Out.ok mark_26).bind fun i_36 => Out.ok (i_36 % (7 : Int))).bind fun i_37 => (Out.ok (6 : Int)).bind fun j_38 => Out.ok (decide (i_37 = j_38))).bind fun b_39 => Out.bind (if b_39 = true then ((((Out.ok v_digits).bind fun i_44 => ((Out.ok (140 : Int)).bind fun i_42 => (Out.ok x_20).bind fun j_43 => Out.ok (i_42 + j_43)).bind fun j_45 => item i_44 j_45).bind fun i_51 => (((Out.ok s_19.2).bind fun x_46 => Out.ok (x_46.length : Int)).bind fun i_48 => (Out.ok (1 : Int)).bind fun j_49 => Out.ok (i_48 + j_49)).bind fun j_52 => chk (0 < j_52) (i_51 % j_52)).bind fun keep_53 => (Out.ok keep_53)) else (Out.ok keep_35)) (fun s_40 : Int => (((Out.ok s_19.2).bind fun x_57 => (Out.ok none).bind fun l_58 => (((Out.ok (0 : Int)).bind fun i_54 => (Out.ok s_40).bind fun j_55 => Out.ok (if j_55 > i_54 then j_55 else i_54)).bind fun i_56 => Out.ok (some i_56)).bind fun h_59 => Out.ok (cut x_57 l_58 h_59)).bind fun path_60 => ((((Out.ok path_60).bind fun i_61 => (Out.ok ([] : (List Int))).bind fun j_62 => Out.ok (!decide (i_61 = j_62))).bind fun x_67 => if x_67 = true then ((Out.ok path_60).bind fun i_64 => ((Out.ok (1 : Int)).bind fun x_63 => Out.ok (-x_63)).bind fun j_65 => item i_64 j_65) else ((Out.ok (1 : Int)).bind fun x_66 => Out.ok (-x_66))).bind fun up_68 => ((((Out.ok up_68).bind fun a_84 => (((Out.ok (1 : Int)).bind fun i_80 => (((((Out.ok mark_26).bind fun i_69 => Out.ok (i_69 / (7 : Int))).bind fun i_71 => (Out.ok s_8).bind fun j_72 => chk (0 < j_72) (i_71 % j_72)).bind fun i_76 => ((Out.ok v_digits).bind fun i_73 => (Out.ok (5 : Int)).bind fun j_74 => item i_73 j_74).bind fun j_77 => Out.ok (i_76 + j_77)).bind fun i_78 => Out.ok (i_78 % (9 : Int))).bind fun j_81 => Out.ok (i_80 + j_81)).bind fun a_82 => (Out.ok ()).bind fun b_83 => Out.ok (a_82, b_83)).bind fun b_85 => Out.ok (a_84, b_85)).bind fun x_86 => Out.ok (x_86.1, x_86.2.1)).bind fun y_87 => (appL s_19.1 y_87).bind fun pairs_88 => ((Out.ok x_20).bind fun y_89 => (appL path_60 y_89).bind fun path_90 => (Out.ok (Ctl.nxt (pairs_88, path_90)))))))))))) xs (pairs_16, path_17)).bind (Aft.go fun s_19 : (List (Int × Int)) × (List Int) => ((Out.ok s_19.1).bind fun r_91 => Out.ok r_91))))))))

def m__law_depths (v_pairs : (List (Int × Int))) : Out (List Int) :=
  ((Out.ok ([] : (List Int))).bind fun depths_1 => ((Out.ok v_pairs).bind fun xs => (forL (fun (x_3 : (Int × Int)) (s_2 : (List Int)) => ((((Out.ok x_3.1).bind fun i_4 => (Out.ok (0 : Int)).bind fun j_5 => Out.ok (decide (j_5 ≤ i_4))).bind fun x_11 => if x_11 = true then (((Out.ok s_2).bind fun i_6 => (Out.ok x_3.1).bind fun j_7 => item i_6 j_7).bind fun i_9 => (Out.ok (1 : Int)).bind fun j_10 => Out.ok (i_9 + j_10)) else (Out.ok (0 : Int))).bind fun y_12 => (appL s_2 y_12).bind fun depths_13 => (Out.ok (Ctl.nxt depths_13)))) xs depths_1).bind (Aft.go fun s_2 : (List Int) => ((Out.ok s_2).bind fun r_14 => Out.ok r_14))))

def m__law_signs (v_pairs : (List (Int × Int))) : Out (List Int) :=
  ((((Out.ok v_pairs).bind fun a_1 => (Out.ok ()).bind fun b_2 => Out.ok (a_1, b_2)).bind fun x_3 => m__law_depths x_3.1).bind fun depths_4 => ((Out.ok ([] : (List Int))).bind fun row_5 => (((Out.ok (1 : Int)).bind fun x_6 => Out.ok (-x_6)).bind fun last_7 => ((((Out.ok v_pairs).bind fun x_8 => Out.ok (x_8.length : Int)).bind fun n_9 => chk (rngOk n_9) (rangeI 0 n_9.toNat)).bind fun xs => (forL (fun (x_11 : Int) (s_10 : (List Int) × Int) => ((((Out.ok s_10.1).bind fun i_25 => ((((Out.ok (0 : Int)).bind fun a_12 => (Out.ok ()).bind fun b_13 => Out.ok (a_12, b_13)).bind fun x_14 => Out.ok ([x_14.1])).bind fun i_23 => (((Out.ok s_10.2).bind fun i_16 => (Out.ok (1 : Int)).bind fun j_17 => Out.ok (i_16 + j_17)).bind fun i_21 => ((Out.ok depths_4).bind fun i_18 => (Out.ok x_11).bind fun j_19 => item i_18 j_19).bind fun j_22 => Out.ok (i_21 - j_22)).bind fun j_24 => chk (repOk i_23.length j_24) (List.replicate j_24.toNat i_23).flatten).bind fun j_26 => chk (lenOk (i_25.length + j_26.length)) (i_25 ++ j_26)).bind fun i_34 => (((((Out.ok v_pairs).bind fun i_27 => (Out.ok x_11).bind fun j_28 => item i_27 j_28).bind fun x_29 => (Out.ok (1 : Int)).bind fun u_30 => Out.ok (x_29.2)).bind fun a_31 => (Out.ok ()).bind fun b_32 => Out.ok (a_31, b_32)).bind fun x_33 => Out.ok ([x_33.1])).bind fun j_35 => chk (lenOk (i_34.length + j_35.length)) (i_34 ++ j_35)).bind fun row_36 => (((Out.ok depths_4).bind fun i_37 => (Out.ok x_11).bind fun j_38 => item i_37 j_38).bind fun last_39 => (Out.ok (Ctl.nxt (row_36, last_39)))))) xs (row_5, last_7)).bind (Aft.go fun s_10 : (List Int) × Int => (((Out.ok s_10.1).bind fun i_48 => ((((Out.ok (0 : Int)).bind fun a_40 => (Out.ok ()).bind fun b_41 => Out.ok (a_40, b_41)).bind fun x_42 => Out.ok ([x_42.1])).bind fun i_46 => ((Out.ok s_10.2).bind fun i_44 => (Out.ok (1 : Int)).bind fun j_45 => Out.ok (i_44 + j_45)).bind fun j_47 => chk (repOk i_46.length j_47) (List.replicate j_47.toNat i_46).flatten).bind fun j_49 => chk (lenOk (i_48.length + j_49.length)) (i_48 ++ j_49)).bind fun r_50 => Out.ok r_50))))))

def m__law_pairs_of (v_row : (List Int)) : Out (List (Int × Int)) :=
  ((Out.ok ([] : (List (Int × Int)))).bind fun pairs_1 => (((((Out.ok (1 : Int)).bind fun x_2 => Out.ok (-x_2)).bind fun a_3 => (Out.ok ()).bind fun b_4 => Out.ok (a_3, b_4)).bind fun x_5 => Out.ok ([x_5.1])).bind fun path_6 => ((Out.ok v_row).bind fun xs => (forL (fun (x_8 : Int) (s_7 : (List (Int × Int)) × (List Int)) => (((Out.ok x_8).bind fun i_9 => (Out.ok (0 : Int)).bind fun j_10 => Out.ok (decide (j_10 < i_9))).bind fun b_11 => if b_11 = true then (((((Out.ok s_7.2).bind fun i_13 => ((Out.ok (1 : Int)).bind fun x_12 => Out.ok (-x_12)).bind fun j_14 => item i_13 j_14).bind fun a_17 => ((Out.ok x_8).bind fun a_15 => (Out.ok ()).bind fun b_16 => Out.ok (a_15, b_16)).bind fun b_18 => Out.ok (a_17, b_18)).bind fun x_19 => Out.ok (x_19.1, x_19.2.1)).bind fun y_20 => (appL s_7.1 y_20).bind fun pairs_21 => ((((Out.ok pairs_21).bind fun x_22 => Out.ok (x_22.length : Int)).bind fun i_24 => (Out.ok (1 : Int)).bind fun j_25 => Out.ok (i_24 - j_25)).bind fun y_26 => (appL s_7.2 y_26).bind fun path_27 => (Out.ok (Ctl.nxt (pairs_21, path_27))))) else ((popL s_7.2).bind fun r_28 => (Out.ok (Ctl.nxt (s_7.1, r_28.2)))))) xs (pairs_1, path_6)).bind (Aft.go fun s_7 : (List (Int × Int)) × (List Int) => ((Out.ok s_7.1).bind fun r_29 => Out.ok r_29)))))

def m__law_bad_sign (v_row : (List Int)) : Out Int :=
  ((((Out.ok v_row).bind fun x_1 => Out.ok (x_1.length : Int)).bind fun n_2 => chk (rngOk n_2) (rangeI 0 n_2.toNat)).bind fun xs => (forL (fun (x_4 : Int) (s_3 : Unit) => ((((Out.ok (0 : Int)).bind fun i_7 => ((Out.ok v_row).bind fun i_5 => (Out.ok x_4).bind fun j_6 => item i_5 j_6).bind fun j_8 => Out.ok (decide (i_7 ≤ j_8) && decide (j_8 ≤ (9 : Int)))).bind fun x_10 => Out.ok (!x_10)).bind fun b_11 => if b_11 = true then ((Out.ok x_4).bind fun r_12 => Out.ok (Ctl.out r_12)) else (Out.ok (Ctl.nxt ())))) xs ()).bind (Aft.go fun s_3 : Unit => (((Out.ok (1 : Int)).bind fun x_13 => Out.ok (-x_13)).bind fun r_14 => Out.ok r_14)))

def m__law_bent_row (v_row : (List Int)) (v_five : (List Int)) : Out (List Int) :=
  (((((Out.ok v_five).bind fun i_1 => (Out.ok (0 : Int)).bind fun j_2 => item i_1 j_2).bind fun i_7 => (((Out.ok v_five).bind fun i_3 => (Out.ok (1 : Int)).bind fun j_4 => item i_3 j_4).bind fun i_5 => Out.ok ((63 : Int) * i_5)).bind fun j_8 => Out.ok (i_7 + j_8)).bind fun i_14 => (((Out.ok v_row).bind fun x_9 => Out.ok (x_9.length : Int)).bind fun i_11 => (Out.ok (1 : Int)).bind fun j_12 => Out.ok (i_11 + j_12)).bind fun j_15 => chk (0 < j_15) (i_14 % j_15)).bind fun place_16 => (((((Out.ok v_five).bind fun i_17 => (Out.ok (2 : Int)).bind fun j_18 => item i_17 j_18).bind fun i_19 => Out.ok (i_19 / (2 : Int))).bind fun i_20 => Out.ok (i_20 % (10 : Int))).bind fun sign_21 => (((((Out.ok v_five).bind fun i_22 => (Out.ok (2 : Int)).bind fun j_23 => item i_22 j_23).bind fun i_24 => Out.ok (i_24 % (8 : Int))).bind fun i_25 => (Out.ok (7 : Int)).bind fun j_26 => Out.ok (decide (i_25 = j_26))).bind fun b_27 => Out.bind (if b_27 = true then ((((((Out.ok (1 : Int)).bind fun x_29 => Out.ok (-x_29)).bind fun a_39 => ((Out.ok (10 : Int)).bind fun a_37 => (((Out.ok ((2 : Int) ^ (64 : Int).toNat)).bind fun i_30 => Out.ok (i_30 * (31 : Int))).bind fun a_35 => ((((Out.ok ((2 : Int) ^ (64 : Int).toNat)).bind fun i_31 => Out.ok (i_31 * (31 : Int))).bind fun x_32 => Out.ok (-x_32)).bind fun a_33 => (Out.ok ()).bind fun b_34 => Out.ok (a_33, b_34)).bind fun b_36 => Out.ok (a_35, b_36)).bind fun b_38 => Out.ok (a_37, b_38)).bind fun b_40 => Out.ok (a_39, b_40)).bind fun x_41 => Out.ok ([x_41.1, x_41.2.1, x_41.2.2.1, x_41.2.2.2.1])).bind fun i_45 => (((Out.ok v_five).bind fun i_42 => (Out.ok (3 : Int)).bind fun j_43 => item i_42 j_43).bind fun i_44 => Out.ok (i_44 % (4 : Int))).bind fun j_46 => item i_45 j_46).bind fun sign_47 => (Out.ok sign_47)) else (Out.ok sign_21)) (fun s_28 : Int => (((((Out.ok v_five).bind fun i_48 => (Out.ok (2 : Int)).bind fun j_49 => item i_48 j_49).bind fun i_50 => Out.ok (i_50 % (8 : Int))).bind fun i_51 => (Out.ok (5 : Int)).bind fun j_52 => Out.ok (decide (i_51 = j_52))).bind fun b_53 => Out.bind (if b_53 = true then ((Out.ok (0 : Int)).bind fun sign_55 => (Out.ok sign_55)) else (Out.ok s_28)) (fun s_54 : Int => (((((Out.ok v_five).bind fun i_56 => (Out.ok (4 : Int)).bind fun j_57 => item i_56 j_57).bind fun i_58 => Out.ok (i_58 % (3 : Int))).bind fun i_59 => (Out.ok (0 : Int)).bind fun j_60 => Out.ok (decide (i_59 = j_60))).bind fun b_61 => if b_61 = true then (((((Out.ok v_row).bind fun x_63 => (Out.ok none).bind fun l_64 => ((Out.ok place_16).bind fun i_62 => Out.ok (some i_62)).bind fun h_65 => Out.ok (cut x_63 l_64 h_65)).bind fun i_69 => (((Out.ok s_54).bind fun a_66 => (Out.ok ()).bind fun b_67 => Out.ok (a_66, b_67)).bind fun x_68 => Out.ok ([x_68.1])).bind fun j_70 => chk (lenOk (i_69.length + j_70.length)) (i_69 ++ j_70)).bind fun i_78 => ((Out.ok v_row).bind fun x_75 => (((Out.ok place_16).bind fun i_72 => (Out.ok (1 : Int)).bind fun j_73 => Out.ok (i_72 + j_73)).bind fun i_74 => Out.ok (some i_74)).bind fun l_76 => (Out.ok none).bind fun h_77 => Out.ok (cut x_75 l_76 h_77)).bind fun j_79 => chk (lenOk (i_78.length + j_79.length)) (i_78 ++ j_79)).bind fun r_80 => Out.ok r_80) else (((((Out.ok v_five).bind fun i_81 => (Out.ok (4 : Int)).bind fun j_82 => item i_81 j_82).bind fun i_83 => Out.ok (i_83 % (3 : Int))).bind fun i_84 => (Out.ok (1 : Int)).bind fun j_85 => Out.ok (decide (i_84 = j_85))).bind fun b_86 => if b_86 = true then (((((Out.ok v_row).bind fun x_88 => (Out.ok none).bind fun l_89 => ((Out.ok place_16).bind fun i_87 => Out.ok (some i_87)).bind fun h_90 => Out.ok (cut x_88 l_89 h_90)).bind fun i_94 => (((Out.ok s_54).bind fun a_91 => (Out.ok ()).bind fun b_92 => Out.ok (a_91, b_92)).bind fun x_93 => Out.ok ([x_93.1])).bind fun j_95 => chk (lenOk (i_94.length + j_95.length)) (i_94 ++ j_95)).bind fun i_100 => ((Out.ok v_row).bind fun x_97 => ((Out.ok place_16).bind fun i_96 => Out.ok (some i_96)).bind fun l_98 => (Out.ok none).bind fun h_99 => Out.ok (cut x_97 l_98 h_99)).bind fun j_101 => chk (lenOk (i_100.length + j_101.length)) (i_100 ++ j_101)).bind fun r_102 => Out.ok r_102) else ((((Out.ok v_row).bind fun x_104 => (Out.ok none).bind fun l_105 => ((Out.ok place_16).bind fun i_103 => Out.ok (some i_103)).bind fun h_106 => Out.ok (cut x_104 l_105 h_106)).bind fun i_114 => ((Out.ok v_row).bind fun x_111 => (((Out.ok place_16).bind fun i_108 => (Out.ok (1 : Int)).bind fun j_109 => Out.ok (i_108 + j_109)).bind fun i_110 => Out.ok (some i_110)).bind fun l_112 => (Out.ok none).bind fun h_113 => Out.ok (cut x_111 l_112 h_113)).bind fun j_115 => chk (lenOk (i_114.length + j_115.length)) (i_114 ++ j_115)).bind fun r_116 => Out.ok r_116)))))))))

def m__law_triples (v_pairs : (List (Int × Int))) : Out (List (T3 Int Int Int)) :=
  (((Out.ok v_pairs).bind fun x_1 => Out.ok (x_1.length : Int)).bind fun size_2 => ((Out.ok ([] : (List (T3 Int Int Int)))).bind fun triples_3 => (((Out.ok size_2).bind fun n_4 => chk (rngOk n_4) (rangeI 0 n_4.toNat)).bind fun xs => (forL (fun (x_6 : Int) (s_5 : (List (T3 Int Int Int))) => (((Out.ok (1 : Int)).bind fun x_7 => Out.ok (-x_7)).bind fun left_8 => (((((Out.ok x_6).bind fun i_10 => (Out.ok (1 : Int)).bind fun j_11 => Out.ok (i_10 + j_11)).bind fun i_12 => (Out.ok size_2).bind fun j_13 => Out.ok (decide (i_12 < j_13))).bind fun x_23 => if x_23 = true then ((((Out.ok v_pairs).bind fun i_17 => ((Out.ok x_6).bind fun i_15 => (Out.ok (1 : Int)).bind fun j_16 => Out.ok (i_15 + j_16)).bind fun j_18 => item i_17 j_18).bind fun x_19 => (Out.ok (0 : Int)).bind fun u_20 => Out.ok (x_19.1)).bind fun i_21 => (Out.ok x_6).bind fun j_22 => Out.ok (decide (i_21 = j_22))) else Out.ok false).bind fun b_24 => Out.bind (if b_24 = true then (((Out.ok x_6).bind fun i_27 => (Out.ok (1 : Int)).bind fun j_28 => Out.ok (i_27 + j_28)).bind fun left_29 => (Out.ok left_29)) else (Out.ok left_8)) (fun s_25 : Int => ((((Out.ok v_pairs).bind fun i_30 => (Out.ok x_6).bind fun j_31 => item i_30 j_31).bind fun x_32 => (Out.ok (0 : Int)).bind fun u_33 => Out.ok (x_32.1)).bind fun up_34 => (((((Out.ok x_6).bind fun i_36 => (Out.ok (1 : Int)).bind fun j_37 => Out.ok (i_36 + j_37)).bind fun i_38 => (Out.ok size_2).bind fun j_39 => chk (rngOk i_38 ∧ rngOk j_39) (rangeI i_38 (j_39 - i_38).toNat)).bind fun xs => lcL (fun x_40 => ((((Out.ok v_pairs).bind fun i_41 => (Out.ok x_40).bind fun j_42 => item i_41 j_42).bind fun x_43 => (Out.ok (0 : Int)).bind fun u_44 => Out.ok (x_43.1)).bind fun i_45 => (Out.ok up_34).bind fun j_46 => Out.ok (decide (i_45 = j_46)))) (fun x_40 => (Out.ok x_40)) xs []).bind fun later_47 => ((((Out.ok later_47).bind fun i_48 => (Out.ok ([] : (List Int))).bind fun j_49 => Out.ok (!decide (i_48 = j_49))).bind fun x_53 => if x_53 = true then ((Out.ok later_47).bind fun i_50 => (Out.ok (0 : Int)).bind fun j_51 => item i_50 j_51) else ((Out.ok (1 : Int)).bind fun x_52 => Out.ok (-x_52))).bind fun right_54 => ((((((Out.ok v_pairs).bind fun i_55 => (Out.ok x_6).bind fun j_56 => item i_55 j_56).bind fun x_57 => (Out.ok (1 : Int)).bind fun u_58 => Out.ok (x_57.2)).bind fun a_63 => ((Out.ok s_25).bind fun a_61 => ((Out.ok right_54).bind fun a_59 => (Out.ok ()).bind fun b_60 => Out.ok (a_59, b_60)).bind fun b_62 => Out.ok (a_61, b_62)).bind fun b_64 => Out.ok (a_63, b_64)).bind fun x_65 => Out.ok (T3.mk x_65.1 x_65.2.1 x_65.2.2.1)).bind fun y_66 => (appL s_5 y_66).bind fun triples_67 => (Out.ok (Ctl.nxt triples_67)))))))))) xs triples_3).bind (Aft.go fun s_5 : (List (T3 Int Int Int)) => ((Out.ok s_5).bind fun r_68 => Out.ok r_68)))))

def m__law_row_due (v_row : (List Int)) : Out Vt :=
  (((((Out.ok v_row).bind fun a_1 => (Out.ok ()).bind fun b_2 => Out.ok (a_1, b_2)).bind fun x_3 => m__law_bad_sign x_3.1).bind fun i_4 => (Out.ok (0 : Int)).bind fun j_5 => Out.ok (decide (j_5 ≤ i_4))).bind fun b_6 => if b_6 = true then ((((Out.ok ("BadSign" : Str)).bind fun a_12 => ((((Out.ok v_row).bind fun a_7 => (Out.ok ()).bind fun b_8 => Out.ok (a_7, b_8)).bind fun x_9 => m__law_bad_sign x_9.1).bind fun a_10 => (Out.ok ()).bind fun b_11 => Out.ok (a_10, b_11)).bind fun b_13 => Out.ok (a_12, b_13)).bind fun x_14 => Out.ok (Vt.mk x_14.1 (some (Vv.i x_14.2.1)))).bind fun r_15 => Out.ok r_15) else ((Out.ok (0 : Int)).bind fun excess_16 => ((((Out.ok v_row).bind fun x_17 => Out.ok (x_17.length : Int)).bind fun n_18 => chk (rngOk n_18) (rangeI 0 n_18.toNat)).bind fun xs => (forL (fun (x_20 : Int) (s_19 : Int) => (((Out.ok s_19).bind fun i_28 => ((((Out.ok v_row).bind fun i_21 => (Out.ok x_20).bind fun j_22 => item i_21 j_22).bind fun i_23 => (Out.ok (0 : Int)).bind fun j_24 => Out.ok (decide (j_24 < i_23))).bind fun x_26 => if x_26 = true then (Out.ok (1 : Int)) else ((Out.ok (1 : Int)).bind fun x_25 => Out.ok (-x_25))).bind fun j_29 => Out.ok (i_28 + j_29)).bind fun excess_30 => (((Out.ok excess_30).bind fun i_31 => (Out.ok (0 : Int)).bind fun j_32 => Out.ok (decide (i_31 < j_32))).bind fun b_33 => if b_33 = true then ((((Out.ok ("BadRow" : Str)).bind fun a_36 => ((Out.ok x_20).bind fun a_34 => (Out.ok ()).bind fun b_35 => Out.ok (a_34, b_35)).bind fun b_37 => Out.ok (a_36, b_37)).bind fun x_38 => Out.ok (Vt.mk x_38.1 (some (Vv.i x_38.2.1)))).bind fun r_39 => Out.ok (Ctl.out r_39)) else (Out.ok (Ctl.nxt excess_30))))) xs excess_16).bind (Aft.go fun s_19 : Int => (((Out.ok s_19).bind fun i_40 => (Out.ok (0 : Int)).bind fun j_41 => Out.ok (decide (j_41 < i_40))).bind fun b_42 => if b_42 = true then ((((Out.ok ("BadRow" : Str)).bind fun a_46 => (((Out.ok v_row).bind fun x_43 => Out.ok (x_43.length : Int)).bind fun a_44 => (Out.ok ()).bind fun b_45 => Out.ok (a_44, b_45)).bind fun b_47 => Out.ok (a_46, b_47)).bind fun x_48 => Out.ok (Vt.mk x_48.1 (some (Vv.i x_48.2.1)))).bind fun r_49 => Out.ok r_49) else ((((Out.ok ("told" : Str)).bind fun a_58 => ((((((Out.ok v_row).bind fun a_50 => (Out.ok ()).bind fun b_51 => Out.ok (a_50, b_51)).bind fun x_52 => m__law_pairs_of x_52.1).bind fun a_53 => (Out.ok ()).bind fun b_54 => Out.ok (a_53, b_54)).bind fun x_55 => m__law_triples x_55.1).bind fun a_56 => (Out.ok ()).bind fun b_57 => Out.ok (a_56, b_57)).bind fun b_59 => Out.ok (a_58, b_59)).bind fun x_60 => Out.ok (Vt.mk x_60.1 (some (Vv.t x_60.2.1)))).bind fun r_61 => Out.ok r_61))))))

def m__law_cuts (v_triples : (List (T3 Int Int Int))) : Out (List Int) :=
  (((Out.ok v_triples).bind fun x_1 => Out.ok (x_1.length : Int)).bind fun size_2 => (((Out.ok v_triples).bind fun xs => lcL (fun x_3 => (Out.ok true)) (fun x_3 => (Out.ok (0 : Int))) xs []).bind fun cuts_4 => ((((((Out.ok (0 : Int)).bind fun a_7 => ((Out.ok size_2).bind fun a_5 => (Out.ok ()).bind fun b_6 => Out.ok (a_5, b_6)).bind fun b_8 => Out.ok (a_7, b_8)).bind fun x_9 => Out.ok (x_9.1, x_9.2.1)).bind fun a_10 => (Out.ok ()).bind fun b_11 => Out.ok (a_10, b_11)).bind fun x_12 => Out.ok ([x_12.1])).bind fun pile_13 => (((Out.ok size_2).bind fun n_14 => chk (rngOk n_14) (rangeI 0 n_14.toNat)).bind fun xs => (forL (fun (x_16 : Int) (s_15 : (List Int) × (List (Int × Int))) => ((popL s_15.2).bind fun t_17 => (((Out.ok v_triples).bind fun i_19 => (Out.ok t_17.1.1).bind fun j_20 => item i_19 j_20).bind fun t_18 => ((((Out.ok t_18.c).bind fun i_22 => ((Out.ok (1 : Int)).bind fun x_21 => Out.ok (-x_21)).bind fun j_23 => Out.ok (!decide (i_22 = j_23))).bind fun x_24 => if x_24 = true then (Out.ok t_18.c) else (Out.ok t_17.1.2)).bind fun cut_25 => (((((Out.ok (1 : Int)).bind fun i_26 => (Out.ok t_18.a).bind fun j_27 => Out.ok (decide (i_26 ≤ j_27) && decide (j_27 ≤ (9 : Int)))).bind fun x_29 => Out.ok (!x_29)).bind fun x_34 => if x_34 = true then Out.ok true else (((Out.ok t_17.1.1).bind fun i_30 => (Out.ok cut_25).bind fun j_31 => Out.ok (decide (i_30 < j_31) && decide (j_31 ≤ t_17.1.2))).bind fun x_33 => Out.ok (!x_33))).bind fun b_35 => if b_35 = true then ((Out.ok ([] : (List Int))).bind fun r_36 => Out.ok (Ctl.out r_36)) else (((((Out.ok t_18.c).bind fun i_38 => ((Out.ok (1 : Int)).bind fun x_37 => Out.ok (-x_37)).bind fun j_39 => Out.ok (!decide (i_38 = j_39))).bind fun x_42 => if x_42 = true then ((Out.ok cut_25).bind fun i_40 => (Out.ok t_17.1.2).bind fun j_41 => Out.ok (decide (i_40 = j_41))) else Out.ok false).bind fun x_52 => if x_52 = true then Out.ok true else (((Out.ok t_18.b).bind fun i_44 => ((Out.ok (1 : Int)).bind fun x_43 => Out.ok (-x_43)).bind fun j_45 => Out.ok (decide (i_44 = j_45))).bind fun x_51 => if x_51 = true then ((Out.ok cut_25).bind fun i_49 => ((Out.ok t_17.1.1).bind fun i_47 => (Out.ok (1 : Int)).bind fun j_48 => Out.ok (i_47 + j_48)).bind fun j_50 => Out.ok (!decide (i_49 = j_50))) else Out.ok false)).bind fun b_53 => if b_53 = true then ((Out.ok ([] : (List Int))).bind fun r_54 => Out.ok (Ctl.out r_54)) else ((((Out.ok t_18.b).bind fun i_56 => ((Out.ok (1 : Int)).bind fun x_55 => Out.ok (-x_55)).bind fun j_57 => Out.ok (!decide (i_56 = j_57))).bind fun x_66 => if x_66 = true then (((Out.ok t_18.b).bind fun i_61 => ((Out.ok t_17.1.1).bind fun i_59 => (Out.ok (1 : Int)).bind fun j_60 => Out.ok (i_59 + j_60)).bind fun j_62 => Out.ok (!decide (i_61 = j_62))).bind fun x_65 => if x_65 = true then Out.ok true else ((Out.ok cut_25).bind fun i_63 => (Out.ok t_18.b).bind fun j_64 => Out.ok (decide (i_63 = j_64)))) else Out.ok false).bind fun b_67 => if b_67 = true then ((Out.ok ([] : (List Int))).bind fun r_68 => Out.ok (Ctl.out r_68)) else ((Out.ok cut_25).bind fun y_69 => (Out.ok t_17.1.1).bind fun j_70 => (setAt s_15.1 j_70 y_69).bind fun cuts_71 => (((Out.ok t_18.c).bind fun i_73 => ((Out.ok (1 : Int)).bind fun x_72 => Out.ok (-x_72)).bind fun j_74 => Out.ok (!decide (i_73 = j_74))).bind fun b_75 => Out.bind (if b_75 = true then ((((Out.ok t_18.c).bind fun a_79 => ((Out.ok t_17.1.2).bind fun a_77 => (Out.ok ()).bind fun b_78 => Out.ok (a_77, b_78)).bind fun b_80 => Out.ok (a_79, b_80)).bind fun x_81 => Out.ok (x_81.1, x_81.2.1)).bind fun y_82 => (appL t_17.2 y_82).bind fun pile_83 => (Out.ok pile_83)) else (Out.ok t_17.2)) (fun s_76 : (List (Int × Int)) => (((Out.ok t_18.b).bind fun i_85 => ((Out.ok (1 : Int)).bind fun x_84 => Out.ok (-x_84)).bind fun j_86 => Out.ok (!decide (i_85 = j_86))).bind fun b_87 => if b_87 = true then ((((Out.ok t_18.b).bind fun a_90 => ((Out.ok cut_25).bind fun a_88 => (Out.ok ()).bind fun b_89 => Out.ok (a_88, b_89)).bind fun b_91 => Out.ok (a_90, b_91)).bind fun x_92 => Out.ok (x_92.1, x_92.2.1)).bind fun y_93 => (appL s_76 y_93).bind fun pile_94 => (Out.ok (Ctl.nxt (cuts_71, pile_94)))) else (Out.ok (Ctl.nxt (cuts_71, s_76)))))))))))))) xs (cuts_4, pile_13)).bind (Aft.go fun s_15 : (List Int) × (List (Int × Int)) => ((Out.ok s_15.1).bind fun r_95 => Out.ok r_95))))))

def m__law_binary_due (v_triples : (List (T3 Int Int Int))) : Out Vt :=
  ((((Out.ok v_triples).bind fun a_1 => (Out.ok ()).bind fun b_2 => Out.ok (a_1, b_2)).bind fun x_3 => m__law_cuts x_3.1).bind fun cuts_4 => ((((Out.ok cuts_4).bind fun x_5 => Out.ok (x_5.length : Int)).bind fun i_7 => ((Out.ok v_triples).bind fun x_6 => Out.ok (x_6.length : Int)).bind fun j_8 => Out.ok (!decide (i_7 = j_8))).bind fun b_9 => if b_9 = true then ((((Out.ok ("BadBinary" : Str)).bind fun a_10 => (Out.ok ()).bind fun b_11 => Out.ok (a_10, b_11)).bind fun x_12 => Out.ok (Vt.mk x_12.1 none)).bind fun r_13 => Out.ok r_13) else ((Out.ok ([] : (List Int))).bind fun row_14 => ((((Out.ok v_triples).bind fun x_15 => Out.ok (x_15.length : Int)).bind fun n_16 => chk (rngOk n_16) (rangeI 0 n_16.toNat)).bind fun xs => (forL (fun (x_18 : Int) (s_17 : (List Int)) => ((((Out.ok s_17).bind fun i_25 => ((((Out.ok (0 : Int)).bind fun a_19 => (Out.ok ()).bind fun b_20 => Out.ok (a_19, b_20)).bind fun x_21 => Out.ok ([x_21.1])).bind fun i_23 => ((Out.ok x_18).bind fun x_22 => Out.ok ((cuts_4.countP fun z => decide (z = x_22) : Nat) : Int)).bind fun j_24 => chk (repOk i_23.length j_24) (List.replicate j_24.toNat i_23).flatten).bind fun j_26 => chk (lenOk (i_25.length + j_26.length)) (i_25 ++ j_26)).bind fun i_34 => (((((Out.ok v_triples).bind fun i_27 => (Out.ok x_18).bind fun j_28 => item i_27 j_28).bind fun x_29 => (Out.ok (0 : Int)).bind fun u_30 => Out.ok x_29.a).bind fun a_31 => (Out.ok ()).bind fun b_32 => Out.ok (a_31, b_32)).bind fun x_33 => Out.ok ([x_33.1])).bind fun j_35 => chk (lenOk (i_34.length + j_35.length)) (i_34 ++ j_35)).bind fun row_36 => (Out.ok (Ctl.nxt row_36)))) xs row_14).bind (Aft.go fun s_17 : (List Int) => ((((Out.ok ("told" : Str)).bind fun a_48 => (((Out.ok s_17).bind fun i_44 => ((((Out.ok (0 : Int)).bind fun a_37 => (Out.ok ()).bind fun b_38 => Out.ok (a_37, b_38)).bind fun x_39 => Out.ok ([x_39.1])).bind fun i_42 => (((Out.ok v_triples).bind fun x_40 => Out.ok (x_40.length : Int)).bind fun x_41 => Out.ok ((cuts_4.countP fun z => decide (z = x_41) : Nat) : Int)).bind fun j_43 => chk (repOk i_42.length j_43) (List.replicate j_43.toNat i_42).flatten).bind fun j_45 => chk (lenOk (i_44.length + j_45.length)) (i_44 ++ j_45)).bind fun a_46 => (Out.ok ()).bind fun b_47 => Out.ok (a_46, b_47)).bind fun b_49 => Out.ok (a_48, b_49)).bind fun x_50 => Out.ok (Vt.mk x_50.1 (some (Vv.l x_50.2.1)))).bind fun r_51 => Out.ok r_51))))))

def m__law_told (v_way : Int) (v_handed : Hd) : Out Vt :=
  ((((Out.ok ("wrong" : Str)).bind fun a_1 => (Out.ok ()).bind fun b_2 => Out.ok (a_1, b_2)).bind fun x_3 => Out.ok (Vt.mk x_3.1 none)).bind fun told_4 => ((tryE pk_PackError (((Out.ok v_way).bind fun i_7 => (Out.ok (0 : Int)).bind fun j_8 => Out.ok (decide (i_7 = j_8))).bind fun b_9 => if b_9 = true then ((((Out.ok ("told" : Str)).bind fun a_15 => ((((Hd.toL v_handed).bind fun a_10 => (Out.ok ()).bind fun b_11 => Out.ok (a_10, b_11)).bind fun x_12 => m_binary_of_row x_12.1).bind fun a_13 => (Out.ok ()).bind fun b_14 => Out.ok (a_13, b_14)).bind fun b_16 => Out.ok (a_15, b_16)).bind fun x_17 => Out.ok (Vt.mk x_17.1 (some (Vv.t x_17.2.1)))).bind fun told_18 => (Out.ok (Sum.inl told_18))) else ((((Out.ok ("told" : Str)).bind fun a_24 => ((((Hd.toT v_handed).bind fun a_19 => (Out.ok ()).bind fun b_20 => Out.ok (a_19, b_20)).bind fun x_21 => m_row_of_binary x_21.1).bind fun a_22 => (Out.ok ()).bind fun b_23 => Out.ok (a_22, b_23)).bind fun b_25 => Out.ok (a_24, b_25)).bind fun x_26 => Out.ok (Vt.mk x_26.1 (some (Vv.l x_26.2.1)))).bind fun told_27 => (Out.ok (Sum.inl told_27)))) (fun e_5 => ((((Out.ok (isaE (e_5).k .BadSign)).bind fun a_32 => ((Out.ok (isaE (e_5).k .BadRow)).bind fun a_30 => ((Out.ok (isaE (e_5).k .BadBinary)).bind fun a_28 => (Out.ok ()).bind fun b_29 => Out.ok (a_28, b_29)).bind fun b_31 => Out.ok (a_30, b_31)).bind fun b_33 => Out.ok (a_32, b_33)).bind fun x_34 => Out.ok ([x_34.1, x_34.2.1, x_34.2.2.1])).bind fun kinds_35 => (((Out.ok kinds_35).bind fun i_41 => (((Out.ok (isaE (e_5).k .BadNumber)).bind fun a_38 => ((Out.ok (isaE (e_5).k .BadTree)).bind fun a_36 => (Out.ok ()).bind fun b_37 => Out.ok (a_36, b_37)).bind fun b_39 => Out.ok (a_38, b_39)).bind fun x_40 => Out.ok ([x_40.1, x_40.2.1])).bind fun j_42 => chk (lenOk (i_41.length + j_42.length)) (i_41 ++ j_42)).bind fun kinds_43 => (((((Out.ok true).bind fun x_44 => Out.ok ((kinds_43.countP fun z => decide (z = x_44) : Nat) : Int)).bind fun i_45 => (Out.ok (1 : Int)).bind fun j_46 => Out.ok (!decide (i_45 = j_46))).bind fun x_48 => if x_48 = true then Out.ok true else ((Out.ok true).bind fun x_47 => Out.ok (!x_47))).bind fun b_49 => if b_49 = true then ((((Out.ok ("wrong" : Str)).bind fun a_50 => (Out.ok ()).bind fun b_51 => Out.ok (a_50, b_51)).bind fun x_52 => Out.ok (Vt.mk x_52.1 none)).bind fun r_53 => Out.ok (Sum.inr r_53)) else (((Out.ok kinds_43).bind fun i_54 => (Out.ok (0 : Int)).bind fun j_55 => item i_54 j_55).bind fun b_56 => if b_56 = true then ((((Out.ok ("BadSign" : Str)).bind fun a_59 => ((Err.fI e_5 "place").bind fun a_57 => (Out.ok ()).bind fun b_58 => Out.ok (a_57, b_58)).bind fun b_60 => Out.ok (a_59, b_60)).bind fun x_61 => Out.ok (Vt.mk x_61.1 (some (Vv.i x_61.2.1)))).bind fun r_62 => Out.ok (Sum.inr r_62)) else (((Out.ok kinds_43).bind fun i_63 => (Out.ok (1 : Int)).bind fun j_64 => item i_63 j_64).bind fun b_65 => if b_65 = true then ((((Out.ok ("BadRow" : Str)).bind fun a_68 => ((Err.fI e_5 "place").bind fun a_66 => (Out.ok ()).bind fun b_67 => Out.ok (a_66, b_67)).bind fun b_69 => Out.ok (a_68, b_69)).bind fun x_70 => Out.ok (Vt.mk x_70.1 (some (Vv.i x_70.2.1)))).bind fun r_71 => Out.ok (Sum.inr r_71)) else (((Out.ok kinds_43).bind fun i_72 => (Out.ok (2 : Int)).bind fun j_73 => item i_72 j_73).bind fun b_74 => if b_74 = true then ((((Out.ok ("BadBinary" : Str)).bind fun a_75 => (Out.ok ()).bind fun b_76 => Out.ok (a_75, b_76)).bind fun x_77 => Out.ok (Vt.mk x_77.1 none)).bind fun r_78 => Out.ok (Sum.inr r_78)) else ((((Out.ok ("wrong" : Str)).bind fun a_79 => (Out.ok ()).bind fun b_80 => Out.ok (a_79, b_80)).bind fun x_81 => Out.ok (Vt.mk x_81.1 none)).bind fun r_82 => Out.ok (Sum.inr r_82)))))))))).bind (Sum.elim (fun s_6 : Vt => ((Out.ok s_6).bind fun r_83 => Out.ok r_83)) Out.ok)))

def m__law_row_right (v_row : (List Int)) : Out Bool :=
  ((((Out.ok v_row).bind fun a_1 => (Out.ok ()).bind fun b_2 => Out.ok (a_1, b_2)).bind fun x_3 => m__law_row_due x_3.1).bind fun due_4 => (((Out.ok v_row).bind fun x_5 => Out.ok x_5).bind fun handed_6 => ((((Out.ok (0 : Int)).bind fun a_10 => (((Out.ok handed_6).bind fun x_7 => Out.ok (Hd.l x_7)).bind fun a_8 => (Out.ok ()).bind fun b_9 => Out.ok (a_8, b_9)).bind fun b_11 => Out.ok (a_10, b_11)).bind fun x_12 => m__law_told x_12.1 x_12.2.1).bind fun told_13 => (((((Out.ok told_13).bind fun x_14 => (Out.ok (0 : Int)).bind fun u_15 => Out.ok x_14.s).bind fun i_18 => ((Out.ok due_4).bind fun x_16 => (Out.ok (0 : Int)).bind fun u_17 => Out.ok x_16.s).bind fun j_19 => Out.ok (!decide (i_18 = j_19))).bind fun x_26 => if x_26 = true then Out.ok true else ((((Out.ok handed_6).bind fun a_22 => ((Out.ok v_row).bind fun a_20 => (Out.ok ()).bind fun b_21 => Out.ok (a_20, b_21)).bind fun b_23 => Out.ok (a_22, b_23)).bind fun x_24 => m__law_row x_24.1 x_24.2.1).bind fun x_25 => Out.ok (!x_25))).bind fun b_27 => if b_27 = true then ((Out.ok false).bind fun r_28 => Out.ok r_28) else ((((Out.ok due_4).bind fun x_29 => (Out.ok (0 : Int)).bind fun u_30 => Out.ok x_29.s).bind fun i_31 => (Out.ok ("told" : Str)).bind fun j_32 => Out.ok (decide (i_31 = j_32))).bind fun b_33 => if b_33 = true then (((((Out.ok told_13).bind fun x_34 => (Out.ok (1 : Int)).bind fun u_35 => Vt.toT x_34).bind fun a_40 => (((Out.ok due_4).bind fun x_36 => (Out.ok (1 : Int)).bind fun u_37 => Vt.toT x_36).bind fun a_38 => (Out.ok ()).bind fun b_39 => Out.ok (a_38, b_39)).bind fun b_41 => Out.ok (a_40, b_41)).bind fun x_42 => m__law_table x_42.1 x_42.2.1).bind fun r_43 => Out.ok r_43) else ((((((Out.ok told_13).bind fun x_45 => ((Out.ok (1 : Int)).bind fun i_44 => Out.ok (some i_44)).bind fun l_46 => (Out.ok none).bind fun h_47 => Vt.tail x_45 l_46 h_47).bind fun x_48 => Out.ok x_48.l).bind fun a_56 => ((((Out.ok due_4).bind fun x_50 => ((Out.ok (1 : Int)).bind fun i_49 => Out.ok (some i_49)).bind fun l_51 => (Out.ok none).bind fun h_52 => Vt.tail x_50 l_51 h_52).bind fun x_53 => Out.ok x_53.l).bind fun a_54 => (Out.ok ()).bind fun b_55 => Out.ok (a_54, b_55)).bind fun b_57 => Out.ok (a_56, b_57)).bind fun x_58 => m__law_row x_58.1 x_58.2.1).bind fun r_59 => Out.ok r_59))))))

def m__law_binary_right (v_triples : (List (T3 Int Int Int))) : Out Bool :=
  ((((Out.ok v_triples).bind fun a_1 => (Out.ok ()).bind fun b_2 => Out.ok (a_1, b_2)).bind fun x_3 => m__law_binary_due x_3.1).bind fun due_4 => (((Out.ok v_triples).bind fun x_5 => Out.ok x_5).bind fun handed_6 => ((((Out.ok (1 : Int)).bind fun a_10 => (((Out.ok handed_6).bind fun x_7 => Out.ok (Hd.t x_7)).bind fun a_8 => (Out.ok ()).bind fun b_9 => Out.ok (a_8, b_9)).bind fun b_11 => Out.ok (a_10, b_11)).bind fun x_12 => m__law_told x_12.1 x_12.2.1).bind fun told_13 => (((((Out.ok told_13).bind fun x_14 => (Out.ok (0 : Int)).bind fun u_15 => Out.ok x_14.s).bind fun i_18 => ((Out.ok due_4).bind fun x_16 => (Out.ok (0 : Int)).bind fun u_17 => Out.ok x_16.s).bind fun j_19 => Out.ok (!decide (i_18 = j_19))).bind fun x_26 => if x_26 = true then Out.ok true else ((((Out.ok handed_6).bind fun a_22 => ((Out.ok v_triples).bind fun a_20 => (Out.ok ()).bind fun b_21 => Out.ok (a_20, b_21)).bind fun b_23 => Out.ok (a_22, b_23)).bind fun x_24 => m__law_table x_24.1 x_24.2.1).bind fun x_25 => Out.ok (!x_25))).bind fun b_27 => if b_27 = true then ((Out.ok false).bind fun r_28 => Out.ok r_28) else ((((Out.ok due_4).bind fun x_29 => (Out.ok (0 : Int)).bind fun u_30 => Out.ok x_29.s).bind fun i_31 => (Out.ok ("told" : Str)).bind fun j_32 => Out.ok (decide (i_31 = j_32))).bind fun b_33 => if b_33 = true then ((((((Out.ok told_13).bind fun x_34 => (Out.ok (1 : Int)).bind fun u_35 => Vt.toL x_34).bind fun a_40 => (((Out.ok due_4).bind fun x_36 => (Out.ok (1 : Int)).bind fun u_37 => Vt.toL x_36).bind fun a_38 => (Out.ok ()).bind fun b_39 => Out.ok (a_38, b_39)).bind fun b_41 => Out.ok (a_40, b_41)).bind fun x_42 => m__law_row x_42.1 x_42.2.1).bind fun x_48 => if x_48 = true then ((((Out.ok due_4).bind fun x_43 => (Out.ok (1 : Int)).bind fun u_44 => Vt.toL x_43).bind fun a_45 => (Out.ok ()).bind fun b_46 => Out.ok (a_45, b_46)).bind fun x_47 => m__law_row_right x_47.1) else Out.ok false).bind fun r_49 => Out.ok r_49) else ((((Out.ok told_13).bind fun x_50 => Out.ok (Vt.len x_50)).bind fun i_51 => (Out.ok (1 : Int)).bind fun j_52 => Out.ok (decide (i_51 = j_52))).bind fun r_53 => Out.ok r_53))))))

def m__law_bent (v_triples : (List (T3 Int Int Int))) (v_five : (List Int)) : Out (List (T3 Int Int Int)) :=
  (((Out.ok v_triples).bind fun x_1 => Out.ok (x_1.length : Int)).bind fun size_2 => (((Out.ok size_2).bind fun i_3 => (Out.ok (0 : Int)).bind fun j_4 => Out.ok (decide (i_3 = j_4))).bind fun b_5 => if b_5 = true then ((((((((Out.ok v_five).bind fun i_6 => (Out.ok (0 : Int)).bind fun j_7 => item i_6 j_7).bind fun i_8 => Out.ok (i_8 % (12 : Int))).bind fun a_25 => (((((Out.ok v_five).bind fun i_9 => (Out.ok (1 : Int)).bind fun j_10 => item i_9 j_10).bind fun i_11 => Out.ok (i_11 % (3 : Int))).bind fun i_13 => (Out.ok (1 : Int)).bind fun j_14 => Out.ok (i_13 - j_14)).bind fun a_23 => (((((Out.ok v_five).bind fun i_15 => (Out.ok (2 : Int)).bind fun j_16 => item i_15 j_16).bind fun i_17 => Out.ok (i_17 % (3 : Int))).bind fun i_19 => (Out.ok (1 : Int)).bind fun j_20 => Out.ok (i_19 - j_20)).bind fun a_21 => (Out.ok ()).bind fun b_22 => Out.ok (a_21, b_22)).bind fun b_24 => Out.ok (a_23, b_24)).bind fun b_26 => Out.ok (a_25, b_26)).bind fun x_27 => Out.ok (T3.mk x_27.1 x_27.2.1 x_27.2.2.1)).bind fun a_28 => (Out.ok ()).bind fun b_29 => Out.ok (a_28, b_29)).bind fun x_30 => Out.ok ([x_30.1])).bind fun r_31 => Out.ok r_31) else (((((Out.ok v_five).bind fun i_32 => (Out.ok (0 : Int)).bind fun j_33 => item i_32 j_33).bind fun i_38 => (((Out.ok v_five).bind fun i_34 => (Out.ok (1 : Int)).bind fun j_35 => item i_34 j_35).bind fun i_36 => Out.ok ((63 : Int) * i_36)).bind fun j_39 => Out.ok (i_38 + j_39)).bind fun i_41 => (Out.ok size_2).bind fun j_42 => chk (0 < j_42) (i_41 % j_42)).bind fun place_43 => (((Out.ok v_triples).bind fun i_45 => (Out.ok place_43).bind fun j_46 => item i_45 j_46).bind fun t_44 => ((((((Out.ok v_five).bind fun i_47 => (Out.ok (2 : Int)).bind fun j_48 => item i_47 j_48).bind fun i_53 => (((Out.ok v_five).bind fun i_49 => (Out.ok (3 : Int)).bind fun j_50 => item i_49 j_50).bind fun i_51 => Out.ok ((63 : Int) * i_51)).bind fun j_54 => Out.ok (i_53 + j_54)).bind fun i_59 => ((Out.ok size_2).bind fun i_56 => (Out.ok (4 : Int)).bind fun j_57 => Out.ok (i_56 + j_57)).bind fun j_60 => chk (0 < j_60) (i_59 % j_60)).bind fun i_62 => (Out.ok (2 : Int)).bind fun j_63 => Out.ok (i_62 - j_63)).bind fun part_64 => (((((Out.ok v_five).bind fun i_65 => (Out.ok (2 : Int)).bind fun j_66 => item i_65 j_66).bind fun i_67 => Out.ok (i_67 % (13 : Int))).bind fun i_69 => (Out.ok (1 : Int)).bind fun j_70 => Out.ok (i_69 - j_70)).bind fun sign_71 => ((((((Out.ok v_five).bind fun i_72 => (Out.ok (4 : Int)).bind fun j_73 => item i_72 j_73).bind fun i_74 => Out.ok (i_74 / (4 : Int))).bind fun i_75 => Out.ok (i_75 % (8 : Int))).bind fun i_76 => (Out.ok (7 : Int)).bind fun j_77 => Out.ok (decide (i_76 = j_77))).bind fun b_78 => Out.bind (if b_78 = true then (((Out.ok ((2 : Int) ^ (64 : Int).toNat)).bind fun i_88 => ((Out.ok (31 : Int)).bind fun i_85 => ((((Out.ok v_five).bind fun i_80 => (Out.ok (2 : Int)).bind fun j_81 => item i_80 j_81).bind fun i_82 => Out.ok (i_82 % (2 : Int))).bind fun i_83 => Out.ok ((62 : Int) * i_83)).bind fun j_86 => Out.ok (i_85 - j_86)).bind fun j_89 => chk (CMul i_88 j_89) (i_88 * j_89)).bind fun part_90 => ((Out.ok part_90).bind fun sign_91 => (Out.ok (part_90, sign_91)))) else (Out.ok (part_64, sign_71))) (fun s_79 : Int × Int => ((((((Out.ok s_79.2).bind fun a_96 => ((Out.ok t_44.b).bind fun a_94 => ((Out.ok t_44.c).bind fun a_92 => (Out.ok ()).bind fun b_93 => Out.ok (a_92, b_93)).bind fun b_95 => Out.ok (a_94, b_95)).bind fun b_97 => Out.ok (a_96, b_97)).bind fun x_98 => Out.ok (T3.mk x_98.1 x_98.2.1 x_98.2.2.1)).bind fun a_108 => ((((Out.ok t_44.a).bind fun a_103 => ((Out.ok s_79.1).bind fun a_101 => ((Out.ok t_44.c).bind fun a_99 => (Out.ok ()).bind fun b_100 => Out.ok (a_99, b_100)).bind fun b_102 => Out.ok (a_101, b_102)).bind fun b_104 => Out.ok (a_103, b_104)).bind fun x_105 => Out.ok (T3.mk x_105.1 x_105.2.1 x_105.2.2.1)).bind fun a_106 => (Out.ok ()).bind fun b_107 => Out.ok (a_106, b_107)).bind fun b_109 => Out.ok (a_108, b_109)).bind fun x_110 => Out.ok ([x_110.1, x_110.2.1])).bind fun bent_111 => (((Out.ok bent_111).bind fun i_131 => (((((Out.ok t_44.a).bind fun a_116 => ((Out.ok t_44.b).bind fun a_114 => ((Out.ok s_79.1).bind fun a_112 => (Out.ok ()).bind fun b_113 => Out.ok (a_112, b_113)).bind fun b_115 => Out.ok (a_114, b_115)).bind fun b_117 => Out.ok (a_116, b_117)).bind fun x_118 => Out.ok (T3.mk x_118.1 x_118.2.1 x_118.2.2.1)).bind fun a_128 => ((((Out.ok t_44.a).bind fun a_123 => ((Out.ok t_44.c).bind fun a_121 => ((Out.ok t_44.b).bind fun a_119 => (Out.ok ()).bind fun b_120 => Out.ok (a_119, b_120)).bind fun b_122 => Out.ok (a_121, b_122)).bind fun b_124 => Out.ok (a_123, b_124)).bind fun x_125 => Out.ok (T3.mk x_125.1 x_125.2.1 x_125.2.2.1)).bind fun a_126 => (Out.ok ()).bind fun b_127 => Out.ok (a_126, b_127)).bind fun b_129 => Out.ok (a_128, b_129)).bind fun x_130 => Out.ok ([x_130.1, x_130.2.1])).bind fun j_132 => chk (lenOk (i_131.length + j_132.length)) (i_131 ++ j_132)).bind fun bent_133 => (((((Out.ok v_triples).bind fun x_135 => (Out.ok none).bind fun l_136 => ((Out.ok place_43).bind fun i_134 => Out.ok (some i_134)).bind fun h_137 => Out.ok (cut x_135 l_136 h_137)).bind fun i_146 => ((((Out.ok bent_133).bind fun i_141 => (((Out.ok v_five).bind fun i_138 => (Out.ok (4 : Int)).bind fun j_139 => item i_138 j_139).bind fun i_140 => Out.ok (i_140 % (4 : Int))).bind fun j_142 => item i_141 j_142).bind fun a_143 => (Out.ok ()).bind fun b_144 => Out.ok (a_143, b_144)).bind fun x_145 => Out.ok ([x_145.1])).bind fun j_147 => chk (lenOk (i_146.length + j_147.length)) (i_146 ++ j_147)).bind fun i_155 => ((Out.ok v_triples).bind fun x_152 => (((Out.ok place_43).bind fun i_149 => (Out.ok (1 : Int)).bind fun j_150 => Out.ok (i_149 + j_150)).bind fun i_151 => Out.ok (some i_151)).bind fun l_153 => (Out.ok none).bind fun h_154 => Out.ok (cut x_152 l_153 h_154)).bind fun j_156 => chk (lenOk (i_155.length + j_156.length)) (i_155 ++ j_156)).bind fun r_157 => Out.ok r_157)))))))))))

def m_law (v_script : Scr) : Out Bool :=
  ((((Out.ok v_script).bind fun a_3 => ((Out.ok (340 : Int)).bind fun a_1 => (Out.ok ()).bind fun b_2 => Out.ok (a_1, b_2)).bind fun b_4 => Out.ok (a_3, b_4)).bind fun x_5 => m__law_digits x_5.1 x_5.2.1).bind fun digits_6 => (((((Out.ok digits_6).bind fun i_7 => (Out.ok (0 : Int)).bind fun j_8 => item i_7 j_8).bind fun i_10 => (Out.ok (7 : Int)).bind fun j_11 => Out.ok (i_10 + j_11)).bind fun i_12 => Out.ok (i_12 % (31 : Int))).bind fun size_13 => (((((Out.ok digits_6).bind fun i_14 => (Out.ok (1 : Int)).bind fun j_15 => item i_14 j_15).bind fun i_16 => Out.ok (i_16 % (8 : Int))).bind fun i_17 => (Out.ok (7 : Int)).bind fun j_18 => Out.ok (decide (i_17 = j_18))).bind fun b_19 => Out.bind (if b_19 = true then (((((Out.ok digits_6).bind fun i_21 => (Out.ok (0 : Int)).bind fun j_22 => item i_21 j_22).bind fun i_27 => (((Out.ok digits_6).bind fun i_23 => (Out.ok (2 : Int)).bind fun j_24 => item i_23 j_24).bind fun i_25 => Out.ok ((63 : Int) * i_25)).bind fun j_28 => Out.ok (i_27 + j_28)).bind fun i_29 => Out.ok (i_29 % (121 : Int))).bind fun size_30 => (Out.ok size_30)) else (Out.ok size_13)) (fun s_20 : Int => ((((Out.ok digits_6).bind fun a_33 => ((Out.ok s_20).bind fun a_31 => (Out.ok ()).bind fun b_32 => Out.ok (a_31, b_32)).bind fun b_34 => Out.ok (a_33, b_34)).bind fun x_35 => m__law_forest x_35.1 x_35.2.1).bind fun pairs_36 => ((((Out.ok pairs_36).bind fun a_37 => (Out.ok ()).bind fun b_38 => Out.ok (a_37, b_38)).bind fun x_39 => m__law_triples x_39.1).bind fun triples_40 => ((((Out.ok pairs_36).bind fun a_41 => (Out.ok ()).bind fun b_42 => Out.ok (a_41, b_42)).bind fun x_43 => m__law_signs x_43.1).bind fun row_44 => (((Out.ok triples_40).bind fun x_45 => Out.ok x_45).bind fun handed_46 => ((((Out.ok handed_46).bind fun a_47 => (Out.ok ()).bind fun b_48 => Out.ok (a_47, b_48)).bind fun x_49 => m_row_of_binary x_49.1).bind fun told_50 => ((((((Out.ok told_50).bind fun a_53 => ((Out.ok row_44).bind fun a_51 => (Out.ok ()).bind fun b_52 => Out.ok (a_51, b_52)).bind fun b_54 => Out.ok (a_53, b_54)).bind fun x_55 => m__law_row x_55.1 x_55.2.1).bind fun x_56 => Out.ok (!x_56)).bind fun x_63 => if x_63 = true then Out.ok true else ((((Out.ok handed_46).bind fun a_59 => ((Out.ok triples_40).bind fun a_57 => (Out.ok ()).bind fun b_58 => Out.ok (a_57, b_58)).bind fun b_60 => Out.ok (a_59, b_60)).bind fun x_61 => m__law_table x_61.1 x_61.2.1).bind fun x_62 => Out.ok (!x_62))).bind fun b_64 => if b_64 = true then ((Out.ok false).bind fun r_65 => Out.ok r_65) else ((Out.ok (0 : Int)).bind fun y_66 => (appL told_50 y_66).bind fun told_67 => ((((Out.ok (1 : Int)).bind fun a_74 => (((Out.ok (1 : Int)).bind fun x_68 => Out.ok (-x_68)).bind fun a_72 => (((Out.ok (1 : Int)).bind fun x_69 => Out.ok (-x_69)).bind fun a_70 => (Out.ok ()).bind fun b_71 => Out.ok (a_70, b_71)).bind fun b_73 => Out.ok (a_72, b_73)).bind fun b_75 => Out.ok (a_74, b_75)).bind fun x_76 => Out.ok (T3.mk x_76.1 x_76.2.1 x_76.2.2.1)).bind fun y_77 => (appL handed_46 y_77).bind fun handed_78 => (((((Out.ok row_44).bind fun x_79 => Out.ok x_79).bind fun a_80 => (Out.ok ()).bind fun b_81 => Out.ok (a_80, b_81)).bind fun x_82 => m_binary_of_row x_82.1).bind fun told_83 => (((((Out.ok told_83).bind fun a_86 => ((Out.ok triples_40).bind fun a_84 => (Out.ok ()).bind fun b_85 => Out.ok (a_84, b_85)).bind fun b_87 => Out.ok (a_86, b_87)).bind fun x_88 => m__law_table x_88.1 x_88.2.1).bind fun x_89 => Out.ok (!x_89)).bind fun b_90 => if b_90 = true then ((Out.ok false).bind fun r_91 => Out.ok r_91) else ((((Out.ok (1 : Int)).bind fun a_98 => (((Out.ok (1 : Int)).bind fun x_92 => Out.ok (-x_92)).bind fun a_96 => (((Out.ok (1 : Int)).bind fun x_93 => Out.ok (-x_93)).bind fun a_94 => (Out.ok ()).bind fun b_95 => Out.ok (a_94, b_95)).bind fun b_97 => Out.ok (a_96, b_97)).bind fun b_99 => Out.ok (a_98, b_99)).bind fun x_100 => Out.ok (T3.mk x_100.1 x_100.2.1 x_100.2.2.1)).bind fun y_101 => (appL told_83 y_101).bind fun told_102 => ((((Out.ok ([] : (List (T3 Int Int Int)))).bind fun a_128 => ((Out.ok triples_40).bind fun a_126 => (((Out.ok triples_40).bind fun x_105 => (Out.ok none).bind fun l_106 => (((Out.ok (1 : Int)).bind fun x_103 => Out.ok (-x_103)).bind fun i_104 => Out.ok (some i_104)).bind fun h_107 => Out.ok (cut x_105 l_106 h_107)).bind fun a_124 => (((Out.ok triples_40).bind fun i_120 => (((((Out.ok (1 : Int)).bind fun a_114 => (((Out.ok (1 : Int)).bind fun x_108 => Out.ok (-x_108)).bind fun a_112 => (((Out.ok (1 : Int)).bind fun x_109 => Out.ok (-x_109)).bind fun a_110 => (Out.ok ()).bind fun b_111 => Out.ok (a_110, b_111)).bind fun b_113 => Out.ok (a_112, b_113)).bind fun b_115 => Out.ok (a_114, b_115)).bind fun x_116 => Out.ok (T3.mk x_116.1 x_116.2.1 x_116.2.2.1)).bind fun a_117 => (Out.ok ()).bind fun b_118 => Out.ok (a_117, b_118)).bind fun x_119 => Out.ok ([x_119.1])).bind fun j_121 => chk (lenOk (i_120.length + j_121.length)) (i_120 ++ j_121)).bind fun a_122 => (Out.ok ()).bind fun b_123 => Out.ok (a_122, b_123)).bind fun b_125 => Out.ok (a_124, b_125)).bind fun b_127 => Out.ok (a_126, b_127)).bind fun b_129 => Out.ok (a_128, b_129)).bind fun x_130 => Out.ok ([x_130.1, x_130.2.1, x_130.2.2.1, x_130.2.2.2.1])).bind fun lists_131 => ((((Out.ok ([] : (List Int))).bind fun a_154 => ((Out.ok row_44).bind fun a_152 => (((Out.ok row_44).bind fun i_135 => (((Out.ok (0 : Int)).bind fun a_132 => (Out.ok ()).bind fun b_133 => Out.ok (a_132, b_133)).bind fun x_134 => Out.ok ([x_134.1])).bind fun j_136 => chk (lenOk (i_135.length + j_136.length)) (i_135 ++ j_136)).bind fun a_150 => (((Out.ok row_44).bind fun i_140 => (((Out.ok (5 : Int)).bind fun a_137 => (Out.ok ()).bind fun b_138 => Out.ok (a_137, b_138)).bind fun x_139 => Out.ok ([x_139.1])).bind fun j_141 => chk (lenOk (i_140.length + j_141.length)) (i_140 ++ j_141)).bind fun a_148 => (((Out.ok row_44).bind fun x_143 => ((Out.ok (1 : Int)).bind fun i_142 => Out.ok (some i_142)).bind fun l_144 => (Out.ok none).bind fun h_145 => Out.ok (cut x_143 l_144 h_145)).bind fun a_146 => (Out.ok ()).bind fun b_147 => Out.ok (a_146, b_147)).bind fun b_149 => Out.ok (a_148, b_149)).bind fun b_151 => Out.ok (a_150, b_151)).bind fun b_153 => Out.ok (a_152, b_153)).bind fun b_155 => Out.ok (a_154, b_155)).bind fun x_156 => Out.ok ([x_156.1, x_156.2.1, x_156.2.2.1, x_156.2.2.2.1, x_156.2.2.2.2.1])).bind fun rows_157 => (((Out.ok (6 : Int)).bind fun n_158 => chk (rngOk n_158) (rangeI 0 n_158.toNat)).bind fun xs => (forL (fun (x_160 : Int) (s_159 : (List (List (T3 Int Int Int)))) => ((((Out.ok triples_40).bind fun a_176 => (((Out.ok digits_6).bind fun x_171 => (((Out.ok (260 : Int)).bind fun i_163 => ((Out.ok x_160).bind fun i_161 => Out.ok ((5 : Int) * i_161)).bind fun j_164 => Out.ok (i_163 + j_164)).bind fun i_169 => Out.ok (some i_169)).bind fun l_172 => (((Out.ok (265 : Int)).bind fun i_167 => ((Out.ok x_160).bind fun i_165 => Out.ok ((5 : Int) * i_165)).bind fun j_168 => Out.ok (i_167 + j_168)).bind fun i_170 => Out.ok (some i_170)).bind fun h_173 => Out.ok (cut x_171 l_172 h_173)).bind fun a_174 => (Out.ok ()).bind fun b_175 => Out.ok (a_174, b_175)).bind fun b_177 => Out.ok (a_176, b_177)).bind fun x_178 => m__law_bent x_178.1 x_178.2.1).bind fun y_179 => (appL s_159 y_179).bind fun lists_180 => (Out.ok (Ctl.nxt lists_180)))) xs lists_131).bind (Aft.go fun s_159 : (List (List (T3 Int Int Int))) => (((Out.ok (8 : Int)).bind fun n_181 => chk (rngOk n_181) (rangeI 0 n_181.toNat)).bind fun xs => (forL (fun (x_183 : Int) (s_182 : (List (List Int))) => ((((Out.ok row_44).bind fun a_199 => (((Out.ok digits_6).bind fun x_194 => (((Out.ok (290 : Int)).bind fun i_186 => ((Out.ok x_183).bind fun i_184 => Out.ok ((5 : Int) * i_184)).bind fun j_187 => Out.ok (i_186 + j_187)).bind fun i_192 => Out.ok (some i_192)).bind fun l_195 => (((Out.ok (295 : Int)).bind fun i_190 => ((Out.ok x_183).bind fun i_188 => Out.ok ((5 : Int) * i_188)).bind fun j_191 => Out.ok (i_190 + j_191)).bind fun i_193 => Out.ok (some i_193)).bind fun h_196 => Out.ok (cut x_194 l_195 h_196)).bind fun a_197 => (Out.ok ()).bind fun b_198 => Out.ok (a_197, b_198)).bind fun b_200 => Out.ok (a_199, b_200)).bind fun x_201 => m__law_bent_row x_201.1 x_201.2.1).bind fun y_202 => (appL s_182 y_202).bind fun rows_203 => (Out.ok (Ctl.nxt rows_203)))) xs rows_157).bind (Aft.go fun s_182 : (List (List Int)) => ((Out.ok s_159).bind fun xs => (forL (fun (x_205 : (List (T3 Int Int Int))) (s_204 : Unit) => (((((Out.ok x_205).bind fun a_206 => (Out.ok ()).bind fun b_207 => Out.ok (a_206, b_207)).bind fun x_208 => m__law_binary_right x_208.1).bind fun x_209 => Out.ok (!x_209)).bind fun b_210 => if b_210 = true then ((Out.ok false).bind fun r_211 => Out.ok (Ctl.out r_211)) else (Out.ok (Ctl.nxt ())))) xs ()).bind (Aft.go fun s_204 : Unit => ((Out.ok s_182).bind fun xs => (forL (fun (x_213 : (List Int)) (s_212 : Unit) => (((((Out.ok x_213).bind fun a_214 => (Out.ok ()).bind fun b_215 => Out.ok (a_214, b_215)).bind fun x_216 => m__law_row_right x_216.1).bind fun x_217 => Out.ok (!x_217)).bind fun b_218 => if b_218 = true then ((Out.ok false).bind fun r_219 => Out.ok (Ctl.out r_219)) else (Out.ok (Ctl.nxt ())))) xs ()).bind (Aft.go fun s_212 : Unit => (((((Out.ok row_44).bind fun a_220 => (Out.ok ()).bind fun b_221 => Out.ok (a_220, b_221)).bind fun x_222 => m__law_row_right x_222.1).bind fun x_226 => if x_226 = true then (((Out.ok triples_40).bind fun a_223 => (Out.ok ()).bind fun b_224 => Out.ok (a_223, b_224)).bind fun x_225 => m__law_binary_right x_225.1) else Out.ok false).bind fun r_227 => Out.ok r_227))))))))))))))))))))))))))

end K03
set_option maxRecDepth 100000
set_option maxHeartbeats 4000000
namespace K03
open PySem PySem.Spec PyProof.Rows L2 Mw

def Good (x : Int) : Prop := 0 ≤ x ∧ x ≤ 9
instance (x : Int) : Decidable (Good x) := by unfold Good; infer_instance
theorem good_or : ∀ row : List Int, (∀ x ∈ row, Good x) ∨ ∃ (n : Nat) (x : Int), row[n]? = some x ∧ ¬ Good x ∧ ∀ (i : Nat) (y : Int), i < n → row[i]? = some y → Good y
  | [] => .inl fun _ h => nomatch h
  | x :: xs => by
    by_cases h : Good x
    · rcases good_or xs with g | ⟨n, y, h1, h2, h3⟩
      · refine .inl fun z hz => ?_
        rcases List.mem_cons.mp hz with e | e
        · rw [e]; exact h
        · exact g z e
      · refine .inr ⟨n + 1, y, by simpa using h1, h2, fun i z hi hz => ?_⟩
        cases i with
        | zero =>
          have e : x = z := by simpa using hz
          rw [← e]
          exact h
        | succ i => exact h3 i z (by omega) (by simpa using hz)
    · exact .inr ⟨0, x, rfl, h, fun i y hi => absurd hi (Nat.not_lt_zero _)⟩
theorem good_at {row : List Int} (h : ∀ x ∈ row, Good x) {i : Nat} {y : Int} (e : row[i]? = some y) : Good y := h y (List.mem_of_getElem? e)
theorem enum_at {row : List Int} {i : Nat} {y : Int × Int} (h : (enumI 0 row)[i]? = some y) : row[i]? = some y.2 ∧ y = ((i : Int), y.2) := by
  obtain ⟨x, hx, e⟩ := enumI_get h
  subst e
  refine ⟨hx, ?_⟩
  simp
theorem range_at {lo : Int} {n i : Nat} {x : Int} (h : (rangeI lo n)[i]? = some x) : i < n ∧ x = lo + i := rangeI_get h
def ferr (n : Nat) : Err := ⟨.BadSign, some [("place", PyE.val (n : Int))]⟩
theorem checked_good {row : List Int} (h : ∀ x ∈ row, Good x) : m_checked_row row = .ok row := by
  unfold m_checked_row
  simp only [Out.bind_assoc, bnd_ok]
  rw [forL_run (fun _ => ())]
  · rfl
  · intro i y hy
    obtain ⟨h1, _⟩ := enum_at hy
    obtain ⟨g1, g2⟩ := good_at h h1
    have c1 : decide (y.2 < 0) = false := decide_eq_false (by omega)
    have c2 : decide (9 < y.2) = false := decide_eq_false (by omega)
    simp only [c1, c2, bnd_ok, Bool.false_eq_true, if_false]
theorem checked_bad {row : List Int} {n : Nat} {x : Int} (h1 : row[n]? = some x) (h2 : ¬ Good x) (h3 : ∀ (i : Nat) (y : Int), i < n → row[i]? = some y → Good y) : m_checked_row row = .err (ferr n) := by
  unfold m_checked_row
  simp only [Out.bind_assoc, bnd_ok]
  have e0 : (enumI 0 row)[n]? = some ((n : Int), x) := by
    have := enumI_at (k := 0) h1
    rw [this, Nat.zero_add]
  rw [forL_stopE (w := ferr n) (fun _ => ()) e0]
  · rfl
  · intro i y hi hy
    obtain ⟨e1, _⟩ := enum_at hy
    obtain ⟨g1, g2⟩ := h3 i _ hi e1
    have c1 : decide (y.2 < 0) = false := decide_eq_false (by omega)
    have c2 : decide (9 < y.2) = false := decide_eq_false (by omega)
    simp only [c1, c2, bnd_ok, Bool.false_eq_true, if_false]
  · unfold Good at h2
    by_cases hx : x < 0
    · have c1 : decide (x < 0) = true := decide_eq_true hx
      simp only [c1, bnd_ok, if_true]
      rfl
    · have c1 : decide (x < 0) = false := decide_eq_false hx
      have c2 : decide (9 < x) = true := decide_eq_true (by omega)
      simp only [c1, c2, bnd_ok, Bool.false_eq_true, if_false, if_true]
      rfl
theorem row_self {a : List Int} (hl : a.length < 16777216) : m__law_row a a = .ok true := by
  have e : m__law_row a a = (chk (rngOk (a.length : Int)) (rangeI 0 (a.length : Int).toNat)).bind fun xs => (forL (fun (x : Int) (_ : Unit) => (item a x).bind fun _ => (item a x).bind fun y => (item a x).bind fun z => if (!decide (y = z)) = true then Out.ok (Ctl.out false) else Out.ok (Ctl.nxt ())) xs ()).bind (Aft.go fun _ => Out.ok true) := by
    unfold m__law_row m__law_whole
    simp only [Out.bind_assoc, bnd_ok, Bool.not_true, Bool.not_false, if_true, if_false, Bool.false_eq_true, decide_true]
  rw [e, rng0 (by omega), bnd_ok, forL_run (fun _ => ()), bnd_ok, go_fin]
  intro i x hx
  obtain ⟨h1, h2⟩ := range_at hx
  have e1 := item_at (xs := a) (List.getElem?_eq_getElem h1)
  rw [h2, Int.zero_add, e1, bnd_ok, bnd_ok, bnd_ok]
  rw [if_neg (by simp)]
theorem bad_good {row : List Int} (hl : row.length < 16777216) (h : ∀ x ∈ row, Good x) : m__law_bad_sign row = .ok (-1) := by
  unfold m__law_bad_sign
  simp only [Out.bind_assoc, bnd_ok]
  rw [rng0 (by omega), bnd_ok, forL_run (fun _ => ()), bnd_ok, go_fin]
  intro i x hx
  obtain ⟨h1, h2⟩ := range_at hx
  have e0 := List.getElem?_eq_getElem h1
  have e1 := item_at (xs := row) e0
  obtain ⟨g1, g2⟩ := good_at h e0
  rw [h2, Int.zero_add, e1, bnd_ok, if_neg (by simp; omega)]
theorem bad_bad {row : List Int} {n : Nat} {x : Int} (hl : row.length < 16777216) (h1 : row[n]? = some x) (h2 : ¬ Good x) (h3 : ∀ (i : Nat) (y : Int), i < n → row[i]? = some y → Good y) : m__law_bad_sign row = .ok (n : Int) := by
  unfold m__law_bad_sign
  simp only [Out.bind_assoc, bnd_ok]
  obtain ⟨hn, _⟩ := List.getElem?_eq_some_iff.mp h1
  rw [rng0 (by omega), bnd_ok, forL_stop (w := (n : Int)) (fun _ => ()) (n := n) (x := (0 : Int) + n) (rangeI_at hn), bnd_ok, go_out]
  · intro i y hi hy
    obtain ⟨k1, k2⟩ := range_at hy
    have e0 := List.getElem?_eq_getElem k1
    obtain ⟨g1, g2⟩ := h3 i _ hi e0
    rw [k2, Int.zero_add, item_at e0, bnd_ok, if_neg (by simp; omega)]
  · unfold Good at h2
    rw [Int.zero_add, item_at h1, bnd_ok, if_pos (by simp; omega)]
theorem digits_is (sc : Scr) (h : sc.l.length ≤ 63) : Is (m__law_digits sc 340) fun d => d.length = 340 ∧ ∀ x ∈ d, 0 ≤ x ∧ x < 63 := by
  unfold m__law_digits
  simp only [Out.bind_assoc, bnd_ok]
  refine Is.for (fun i (s : List Int) => s.length ≤ 700 + i) (by simp) (fun i x s hx hs => ?_) (fun s hs => ?_)
  · have hi : i < 63 := by
      obtain ⟨h1, _⟩ := List.getElem?_eq_some_iff.mp hx
      have := cut_len (xs := sc.l) (lo := none) (hi := some 63)
      omega
    refine Is.bind (Q := fun _ => True) (Is.chk (by decide) trivial) fun l _ => ?_
    refine Is.bind (Q := fun p : List Int => p.length ≤ 700 + (i + 1)) (Is.app (by omega) (by simp; omega)) fun p hp => ?_
    rw [rng_ok (by decide) (by decide), bnd_ok]
    refine Is.for (fun _ (s : List Int × Int) => s.1.length ≤ 700 + (i + 1)) hp (fun j y t hy ht => ?_) (fun t ht => Is.ok ⟨_, rfl, ht⟩)
    refine Is.bind (Q := fun b => b = true → t.1.length < 340) (Is.ite (fun _ => Is.ok fun hb => by have hb' : (t.1.length : Int) < 340 := of_decide_eq_true hb; omega) fun _ => Is.ok fun hb => by cases hb) fun b hb => ?_
    refine Is.ite (fun hb' => ?_) fun _ => Is.ok ⟨_, rfl, ht⟩
    have := hb hb'
    exact Is.bind (Q := fun p : List Int => p.length ≤ 700 + (i + 1)) (Is.app (by omega) (by simp; omega)) fun p hp => Is.ok ⟨_, rfl, hp⟩
  · have hl : (cut sc.l none (some 63)).length ≤ 63 := Nat.le_trans cut_len h
    refine Is.bind (Q := fun p : List Int => 0 < p.length ∧ p.length ≤ 800) ?_ fun p hp => ?_
    · by_cases he : s = []
      · subst he
        simp only [decide_true, if_true]
        rw [appL_ok (by decide), bnd_ok]
        exact Is.ok ⟨by decide, by decide⟩
      · rw [decide_eq_false he]
        simp only [Bool.false_eq_true, if_false]
        exact Is.ok ⟨List.length_pos_iff.mpr he, by omega⟩
    · rw [rng_ok (by decide) (by decide), bnd_ok]
      refine Is.for (fun i (s : List Int) => s.length = i ∧ ∀ x ∈ s, 0 ≤ x ∧ x < 63) ⟨rfl, fun _ h => nomatch h⟩ (fun i x s hx hs => ?_) (fun s hs => Is.ok ⟨by rw [hs.1, rangeI_len]; rfl, hs.2⟩)
      obtain ⟨h1, h2⟩ := range_at hx
      have hi : i < 340 := h1
      have hx2 : x = (i : Int) := by omega
      have hm : 0 ≤ x % (p.length : Int) ∧ x % (p.length : Int) < p.length := ⟨Int.emod_nonneg _ (by omega), Int.emod_lt_of_pos _ (by omega)⟩
      refine Is.bind (Q := fun y => y = x % (p.length : Int)) (Is.chk (by omega) rfl) fun y hy => ?_
      subst hy
      refine Is.bind (Q := fun _ => True) (Is.item hm.1 hm.2 fun _ _ _ => trivial) fun y _ => ?_
      refine Is.bind (Q := fun _ => True) (Is.chk (by unfold CMul; left; omega) trivial) fun z _ => ?_
      exact Is.bind (Q := fun q : List Int => q.length = i + 1 ∧ ∀ x ∈ q, 0 ≤ x ∧ x < 63) (Is.app (by omega) ⟨by simp [hs.1], fun y hy => by
        rcases List.mem_append.mp hy with h | h
        · exact hs.2 y h
        · cases List.mem_singleton.mp h
          omega⟩) fun q hq => Is.ok ⟨_, rfl, hq⟩
theorem bent_is {r d : List Int} (hr : r.length ≤ 2000) (hd : d.length = 5) : Is (m__law_bent_row r d) fun q => q.length ≤ 4001 := by
  unfold m__law_bent_row
  simp only [Out.bind_assoc, bnd_ok]
  have it : ∀ k : Int, 0 ≤ k → k < 5 → Is (item d k) fun _ => True := fun k h0 h1 => Is.item h0 (by omega) fun _ _ _ => trivial
  refine Is.bind (it _ (by decide) (by decide)) fun x0 _ => Is.bind (it _ (by decide) (by decide)) fun x1 _ => ?_
  refine Is.bind (Q := fun _ => True) (Is.chk (by omega) trivial) fun p _ => ?_
  refine Is.bind (it _ (by decide) (by decide)) fun x2 _ => Is.bind (it _ (by decide) (by decide)) fun x3 _ => ?_
  refine Is.bind (Q := fun _ => True) (Is.ite (fun _ => ?_) fun _ => Is.ok trivial) fun s _ => ?_
  · refine Is.bind (it _ (by decide) (by decide)) fun x _ => ?_
    refine Is.bind (Q := fun _ => True) (Is.item (by omega) (by show x % 4 < 4; omega) fun _ _ _ => trivial) fun _ _ => Is.ok trivial
  refine Is.bind (it _ (by decide) (by decide)) fun x5 _ => ?_
  refine Is.bind (Q := fun _ => True) (Is.ite (fun _ => Is.ok trivial) fun _ => Is.ok trivial) fun s2 _ => ?_
  have c1 : ∀ lo hi : Option Int, (cut r lo hi).length ≤ 2000 := fun lo hi => Nat.le_trans cut_len hr
  have a1 := c1 none (some p)
  have a2 := c1 (some (p + 1)) none
  have a3 := c1 (some p) none
  refine Is.bind (it _ (by decide) (by decide)) fun x6 _ => Is.ite (fun _ => ?_) fun _ => ?_
  · refine Is.bind (Q := fun q : List Int => q.length ≤ 2001) (Is.chk (by unfold lenOk; rw [len1]; omega) (by rw [List.length_append, len1]; omega)) fun q hq => ?_
    exact Is.bind (Q := fun q : List Int => q.length ≤ 4001) (Is.chk (by unfold lenOk; omega) (by rw [List.length_append]; omega)) fun q2 hq2 => Is.ok hq2
  · refine Is.bind (it _ (by decide) (by decide)) fun x7 _ => Is.ite (fun _ => ?_) fun _ => ?_
    · refine Is.bind (Q := fun q : List Int => q.length ≤ 2001) (Is.chk (by unfold lenOk; rw [len1]; omega) (by rw [List.length_append, len1]; omega)) fun q hq => ?_
      exact Is.bind (Q := fun q : List Int => q.length ≤ 4001) (Is.chk (by unfold lenOk; omega) (by rw [List.length_append]; omega)) fun q2 hq2 => Is.ok hq2
    · exact Is.bind (Q := fun q : List Int => q.length ≤ 4001) (Is.chk (by unfold lenOk; omega) (by rw [List.length_append]; omega)) fun q2 hq2 => Is.ok hq2
def stk (row : List Int) : Nat → List Nat
  | 0 => []
  | n + 1 => if 0 < row.getD n 0 then n :: stk row n else (stk row n).tail
def pt (row : List Int) : Nat → List Int
  | 0 => List.replicate row.length (-1)
  | n + 1 => if 0 < row.getD n 0 then pt row n else match stk row n with
    | [] => pt row n
    | o :: _ => ((pt row n).set o (n : Int)).set n (o : Int)
theorem pt_len {row : List Int} : ∀ n, (pt row n).length = row.length
  | 0 => by simp [pt]
  | n + 1 => by
    unfold pt
    split
    · exact pt_len n
    · split
      · exact pt_len n
      · rw [List.length_set, List.length_set]
        exact pt_len n
theorem stk_lt {row : List Int} : ∀ n, ∀ o ∈ stk row n, o < n
  | 0, o, h => nomatch h
  | n + 1, o, h => by
    unfold stk at h
    split at h
    · rcases List.mem_cons.mp h with e | e
      · omega
      · have := stk_lt n o e
        omega
    · have := stk_lt n o (List.mem_of_mem_tail h)
      omega
theorem stk_len {row : List Int} : ∀ n, (stk row n).length ≤ n
  | 0 => Nat.le_refl _
  | n + 1 => by
    have := stk_len (row := row) n
    unfold stk
    split
    · simp only [List.length_cons]; omega
    · rw [List.length_tail]; omega
theorem pt_tail {row : List Int} : ∀ n i, n ≤ i → i < row.length → (pt row n)[i]? = some (-1)
  | 0, i, _, h => by simp [pt, h]
  | n + 1, i, h, hl => by
    unfold pt
    split
    · exact pt_tail n i (by omega) hl
    · split
      · exact pt_tail n i (by omega) hl
      · rename_i o os e
        have := stk_lt n o (by rw [e]; exact List.mem_cons_self)
        rw [List.getElem?_set_ne (by omega), List.getElem?_set_ne (by omega)]
        exact pt_tail n i (by omega) hl
def nts (l : List Nat) : List Int := l.map fun (i : Nat) => (i : Int)
def mtF (x : Int × Int) (s : List Int × List Int) : Out (Ctl (List Int × List Int) (List Int)) :=
  if decide (0 < x.2) = true then (appL s.2 x.1).bind fun a => Out.ok (Ctl.nxt (s.1, a))
  else if decide ((0 : Int) < (s.2.length : Int)) = true then (popL s.2).bind fun r => (setAt s.1 r.1 x.1).bind fun p => (setAt p x.1 r.1).bind fun p2 => Out.ok (Ctl.nxt (p2, r.2))
  else Out.ok (Ctl.nxt (s.1, s.2))
def mtS (row : List Int) (n : Nat) : List Int × List Int := (pt row n, nts (stk row n).reverse)
theorem mt_step {row : List Int} (hl : row.length < 16777216) {i : Nat} {y : Int × Int} (hy : (enumI 0 row)[i]? = some y) : mtF y (mtS row i) = .ok (.nxt (mtS row (i + 1))) := by
  obtain ⟨h1, h2⟩ := enum_at hy
  obtain ⟨hi, _⟩ := List.getElem?_eq_some_iff.mp h1
  have hg : row.getD i 0 = y.2 := by rw [List.getD_eq_getElem?_getD, h1]; rfl
  have hy1 : y.1 = (i : Int) := by rw [h2]
  have hsl := stk_len (row := row) i
  unfold mtF mtS
  rw [ite_b]
  by_cases hp : 0 < y.2
  · have hp' : 0 < row.getD i 0 := by rw [hg]; exact hp
    have e1 : pt row (i + 1) = pt row i := by
      show (if 0 < row.getD i 0 then _ else _) = _
      rw [if_pos hp']
    have e2 : stk row (i + 1) = i :: stk row i := by
      show (if 0 < row.getD i 0 then _ else _) = _
      rw [if_pos hp']
    have e3 : nts (i :: stk row i).reverse = nts (stk row i).reverse ++ [(i : Int)] := by
      unfold nts
      rw [List.reverse_cons, List.map_append]
      rfl
    have hlen : (nts (stk row i).reverse).length < 16777216 := by
      unfold nts
      rw [List.length_map, List.length_reverse]
      omega
    rw [if_pos hp]
    show (appL (nts (stk row i).reverse) y.1).bind _ = _
    rw [appL_ok hlen, e1, e2, e3, hy1]
    rfl
  · have hp' : ¬ 0 < row.getD i 0 := by rw [hg]; exact hp
    rw [if_neg hp, ite_b]
    cases hs : stk row i with
    | nil =>
      have e1 : pt row (i + 1) = pt row i := by
        show (if 0 < row.getD i 0 then _ else _) = _
        rw [if_neg hp', hs]
      have e2 : stk row (i + 1) = [] := by
        show (if 0 < row.getD i 0 then _ else _) = _
        rw [if_neg hp', hs]
        rfl
      rw [if_neg (by show ¬ (0 : Int) < ((0 : Nat) : Int); omega), e1, e2]
    | cons o os =>
      have ho := stk_lt (row := row) i o (by rw [hs]; exact List.mem_cons_self)
      have e1 : nts (o :: os).reverse = nts os.reverse ++ [(o : Int)] := by
        unfold nts
        rw [List.reverse_cons, List.map_append]
        rfl
      have e2 : stk row (i + 1) = os := by
        show (if 0 < row.getD i 0 then _ else _) = _
        rw [if_neg hp', hs]
        rfl
      have e3 : pt row (i + 1) = ((pt row i).set o (i : Int)).set i (o : Int) := by
        show (if 0 < row.getD i 0 then _ else _) = _
        rw [if_neg hp', hs]
      have hpos : (0 : Int) < ((nts os.reverse ++ [(o : Int)]).length : Int) := by
        rw [List.length_append]
        show (0 : Int) < (((nts os.reverse).length + 1 : Nat) : Int)
        omega
      rw [e1]
      rw [if_pos hpos]
      show (popL (nts os.reverse ++ [(o : Int)])).bind _ = _
      rw [popL_ok]
      show (setAt (pt row i) (o : Int) y.1).bind _ = _
      rw [hy1, setAt_ok (by rw [pt_len]; omega)]
      show (setAt _ (i : Int) (o : Int)).bind _ = _
      rw [setAt_ok (by rw [List.length_set, pt_len]; omega), e2, e3]
      rfl
theorem matched_run {row : List Int} (hl : row.length < 16777216) (h : ∀ x ∈ row, Good x) : m_matched row = .ok (pt row row.length) := by
  have e : m_matched row = (chk (repOk 1 (row.length : Int)) (List.replicate (row.length : Int).toNat (-1))).bind fun p => (forL mtF (enumI 0 row) (p, [])).bind (Aft.go fun s => Out.ok s.1) := by
    unfold m_matched mtF
    simp only [Out.bind_assoc, bnd_ok, checked_good h, flat_one, len1]
  have key := forL_run (f := mtF) (mtS row) (xs := enumI 0 row) fun i y hy => mt_step hl hy
  have e0 : mtS row 0 = (List.replicate (row.length : Int).toNat (-1), []) := by
    unfold mtS pt stk nts
    rw [Int.toNat_natCast, List.reverse_nil, List.map_nil]
  rw [e0, enumI_len] at key
  rw [e, chk_pos (rep_ok (by omega) (by omega) rfl), bnd_ok, key, bnd_ok, go_fin]
  rfl
theorem matched_bad {row : List Int} {n : Nat} {x : Int} (h1 : row[n]? = some x) (h2 : ¬ Good x) (h3 : ∀ (i : Nat) (y : Int), i < n → row[i]? = some y → Good y) : m_matched row = .err (ferr n) := by
  unfold m_matched
  simp only [Out.bind_assoc, bnd_ok, checked_bad h1 h2 h3, bnd_err]
theorem lcL_filterM {α β : Type} {t : α → Out Bool} {f : α → Out β} {p : α → Bool} {g : α → β} : ∀ (xs : List α) (acc : List β), (∀ x ∈ xs, t x = .ok (p x)) → (∀ x ∈ xs, f x = .ok (g x)) → acc.length + xs.length ≤ 16777216 → lcL t f xs acc = .ok (acc ++ (xs.filter p).map g)
  | [], acc, _, _, _ => by simp [lcL]
  | x :: xs, acc, ht, hf, hl => by
    have h1 := ht x (by simp)
    have h2 := hf x (by simp)
    rw [List.length_cons] at hl
    unfold lcL
    rw [h1]
    cases hp : p x with
    | true =>
      simp only [h2]
      rw [if_pos (by omega), lcL_filterM xs _ (fun y hy => ht y (by simp [hy])) (fun y hy => hf y (by simp [hy])) (by rw [List.length_append, List.length_singleton]; omega), List.filter_cons, hp, if_pos rfl, List.map_cons, List.append_assoc]
      rfl
    | false =>
      simp only
      rw [lcL_filterM xs _ (fun y hy => ht y (by simp [hy])) (fun y hy => hf y (by simp [hy])) (by omega), List.filter_cons, hp, if_neg Bool.false_ne_true]
/-! ### balanced rows as binary trees -/
inductive BT where
  | nil
  | node (x : Int) (l r : BT)
def BT.size : BT → Nat
  | .nil => 0
  | .node _ l r => l.size + r.size + 1
def BT.row : BT → List Int
  | .nil => []
  | .node x l r => x :: (l.row ++ 0 :: r.row)
def BT.Ok : BT → Prop
  | .nil => True
  | .node x l r => (1 ≤ x ∧ x ≤ 9) ∧ l.Ok ∧ r.Ok
theorem BT.row_len : ∀ t : BT, t.row.length = 2 * t.size
  | .nil => rfl
  | .node x l r => by
    show (x :: (l.row ++ 0 :: r.row)).length = 2 * (l.size + r.size + 1)
    rw [List.length_cons, List.length_append, List.length_cons, BT.row_len l, BT.row_len r]
    omega
theorem BT.row_good : ∀ {t : BT}, t.Ok → ∀ x ∈ t.row, Good x
  | .nil, _, _, h => nomatch h
  | .node x l r, h, y, hy => by
    obtain ⟨h1, h2, h3⟩ := h
    rcases List.mem_cons.mp hy with e | e
    · subst e; exact ⟨by omega, h1.2⟩
    · rcases List.mem_append.mp e with e | e
      · exact BT.row_good h2 y e
      · rcases List.mem_cons.mp e with e | e
        · subst e; exact ⟨by decide, by decide⟩
        · exact BT.row_good h3 y e
def Seg (row : List Int) (p : Nat) (s : List Int) : Prop := ∃ b, row.drop p = s ++ b
theorem Seg.cons {row : List Int} {p : Nat} {x : Int} {s : List Int} (h : Seg row p (x :: s)) : row[p]? = some x ∧ row.getD p 0 = x ∧ p < row.length ∧ Seg row (p + 1) s := by
  obtain ⟨b, e⟩ := h
  have h1 : row[p]? = some x := by
    have := congrArg (fun l => l[0]?) e
    simpa using this
  refine ⟨h1, by rw [List.getD_eq_getElem?_getD, h1]; rfl, (List.getElem?_eq_some_iff.mp h1).1, b, ?_⟩
  have := congrArg List.tail e
  rw [List.tail_drop] at this
  exact this
theorem Seg.app {row : List Int} {p : Nat} {s s2 : List Int} (h : Seg row p (s ++ s2)) : Seg row p s ∧ Seg row (p + s.length) s2 := by
  obtain ⟨b, e⟩ := h
  refine ⟨⟨s2 ++ b, by rw [e, List.append_assoc]⟩, b, ?_⟩
  have := congrArg (List.drop s.length) e
  rw [List.drop_drop, List.append_assoc, List.drop_left] at this
  exact this
theorem Seg.all {s : List Int} : Seg s 0 s := ⟨[], by simp⟩
theorem Seg.node {row : List Int} {p : Nat} {x : Int} {l r : BT} (h : Seg row p (BT.node x l r).row) : (row[p]? = some x ∧ row.getD p 0 = x ∧ p < row.length) ∧ Seg row (p + 1) l.row ∧ (row[p + 1 + 2 * l.size]? = some 0 ∧ row.getD (p + 1 + 2 * l.size) 0 = 0 ∧ p + 1 + 2 * l.size < row.length) ∧ Seg row (p + 1 + 2 * l.size + 1) r.row := by
  obtain ⟨a1, a2, a3, a4⟩ := Seg.cons h
  obtain ⟨b1, b2⟩ := Seg.app a4
  rw [BT.row_len] at b2
  obtain ⟨c1, c2, c3, c4⟩ := Seg.cons b2
  exact ⟨⟨a1, a2, a3⟩, b1, ⟨c1, c2, c3⟩, c4⟩
section
variable {row : List Int} {n : Nat}
theorem stk_open (h : 0 < row.getD n 0) : stk row (n + 1) = n :: stk row n := by rw [stk, if_pos h]
theorem stk_close (h : ¬ 0 < row.getD n 0) : stk row (n + 1) = (stk row n).tail := by rw [stk, if_neg h]
theorem pt_open (h : 0 < row.getD n 0) : pt row (n + 1) = pt row n := by rw [pt, if_pos h]
theorem pt_nil (h : ¬ 0 < row.getD n 0) (hs : stk row n = []) : pt row (n + 1) = pt row n := by rw [pt, if_neg h, hs]
theorem pt_cons {o : Nat} {os : List Nat} (h : ¬ 0 < row.getD n 0) (hs : stk row n = o :: os) : pt row (n + 1) = ((pt row n).set o (n : Int)).set n (o : Int) := by rw [pt, if_neg h, hs]
end
theorem stk_pw {row : List Int} : ∀ n, (stk row n).Pairwise (· > ·)
  | 0 => List.Pairwise.nil
  | n + 1 => by
    by_cases h : 0 < row.getD n 0
    · rw [stk_open h]
      exact List.pairwise_cons.mpr ⟨fun x hx => stk_lt n x hx, stk_pw n⟩
    · rw [stk_close h]
      exact (stk_pw n).sublist (List.tail_sublist _)
theorem stk_seg {row : List Int} : ∀ (t : BT) (p : Nat), t.Ok → Seg row p t.row → stk row (p + 2 * t.size) = stk row p
  | .nil, p, _, _ => rfl
  | .node x l r, p, h, hs => by
    obtain ⟨h1, h2, h3⟩ := h
    obtain ⟨⟨a1, a2, a3⟩, b, ⟨c1, c2, c3⟩, d⟩ := Seg.node hs
    have e1 := stk_open (row := row) (n := p) (by rw [a2]; omega)
    have e2 := stk_seg l (p + 1) h2 b
    have e3 := stk_close (row := row) (n := p + 1 + 2 * l.size) (by rw [c2]; decide)
    have e4 := stk_seg r (p + 1 + 2 * l.size + 1) h3 d
    rw [e3, e2, e1, List.tail_cons] at e4
    rw [← e4]
    congr 1
    show p + 2 * (l.size + r.size + 1) = _
    omega
theorem pt_keep {row : List Int} {n i : Nat} (hi : i < n) (hs : i ∉ stk row n) : ∀ k, (pt row (n + k))[i]? = (pt row n)[i]? ∧ i ∉ stk row (n + k)
  | 0 => ⟨rfl, hs⟩
  | k + 1 => by
    obtain ⟨a, b⟩ := pt_keep hi hs k
    show (pt row (n + k + 1))[i]? = _ ∧ i ∉ stk row (n + k + 1)
    by_cases h : 0 < row.getD (n + k) 0
    · rw [pt_open h, stk_open h]
      refine ⟨a, fun m => ?_⟩
      rcases List.mem_cons.mp m with e | e
      · omega
      · exact b e
    · rw [stk_close h]
      refine ⟨?_, fun m => b (List.mem_of_mem_tail m)⟩
      cases e : stk row (n + k) with
      | nil => rw [pt_nil h e]; exact a
      | cons o os =>
        have : i ≠ o := fun z => b (by rw [e, z]; exact List.mem_cons_self)
        rw [pt_cons h e, List.getElem?_set_ne (by omega), List.getElem?_set_ne (fun z => this z.symm)]
        exact a
theorem pt_keep' {row : List Int} {n m i : Nat} (hi : i < n) (hs : i ∉ stk row n) (hm : n ≤ m) : (pt row m)[i]? = (pt row n)[i]? := by
  have := (pt_keep hi hs (m - n)).1
  rw [show n + (m - n) = m by omega] at this
  exact this
def AllP (L : List Int) : Nat → BT → Prop
  | _, .nil => True
  | p, .node _ l r => L[p]? = some ((p + 1 + 2 * l.size : Nat) : Int) ∧ L[p + 1 + 2 * l.size]? = some (p : Int) ∧ AllP L (p + 1) l ∧ AllP L (p + 1 + 2 * l.size + 1) r
theorem part_seg {row : List Int} {m : Nat} : ∀ (t : BT) (p : Nat), t.Ok → Seg row p t.row → p + 2 * t.size ≤ m → AllP (pt row m) p t
  | .nil, p, _, _, _ => trivial
  | .node x l r, p, h, hs, hm => by
    obtain ⟨h1, h2, h3⟩ := h
    obtain ⟨⟨a1, a2, a3⟩, b, ⟨c1, c2, c3⟩, d⟩ := Seg.node hs
    have hm' : p + 2 * (l.size + r.size + 1) ≤ m := hm
    have e1 := stk_open (row := row) (n := p) (by rw [a2]; omega)
    have e2 := (stk_seg l (p + 1) h2 b).trans e1
    have hcl : ¬ 0 < row.getD (p + 1 + 2 * l.size) 0 := by rw [c2]; decide
    have e3 := stk_close (row := row) (n := p + 1 + 2 * l.size) hcl
    rw [e2, List.tail_cons] at e3
    have ep := pt_cons hcl e2
    have hl := pt_len (row := row) (p + 1 + 2 * l.size)
    have n1 : p ∉ stk row (p + 1 + 2 * l.size + 1) := fun z => by rw [e3] at z; have := stk_lt p p z; omega
    have n2 : p + 1 + 2 * l.size ∉ stk row (p + 1 + 2 * l.size + 1) := fun z => by rw [e3] at z; have := stk_lt p _ z; omega
    refine ⟨?_, ?_, part_seg l (p + 1) h2 b (by omega), part_seg r _ h3 d (by omega)⟩
    · rw [pt_keep' (n := p + 1 + 2 * l.size + 1) (by omega) n1 (by omega), ep, List.getElem?_set_ne (by omega), List.getElem?_set_self (by omega)]
    · rw [pt_keep' (n := p + 1 + 2 * l.size + 1) (by omega) n2 (by omega), ep, List.getElem?_set_self (by rw [List.length_set]; omega)]
theorem AllP.nn {L : List Int} : ∀ (t : BT) (p : Nat), AllP L p t → ∀ i, i < 2 * t.size → ∃ q : Nat, L[p + i]? = some (q : Int)
  | .nil, p, _, i, hi => absurd hi (Nat.not_lt_zero i)
  | .node x l r, p, h, i, hi => by
    obtain ⟨h1, h2, h3, h4⟩ := h
    have hi' : i < 2 * (l.size + r.size + 1) := hi
    by_cases i0 : i = 0
    · subst i0; exact ⟨_, h1⟩
    by_cases i1 : i < 1 + 2 * l.size
    · obtain ⟨q, e⟩ := AllP.nn l (p + 1) h3 (i - 1) (by omega)
      exact ⟨q, by rw [← e]; congr 1; omega⟩
    by_cases i2 : i = 1 + 2 * l.size
    · subst i2; exact ⟨_, by rw [← h2]; congr 1; omega⟩
    · obtain ⟨q, e⟩ := AllP.nn r _ h4 (i - (1 + 2 * l.size + 1)) (by omega)
      exact ⟨q, by rw [← e]; congr 1; omega⟩
theorem pt_unm {row : List Int} {i : Nat} (hi : i < row.length) (hc : ¬ 0 < row.getD i 0) (hs : stk row i = []) : (pt row row.length)[i]? = some (-1) := by
  have e : stk row (i + 1) = [] := by rw [stk_close hc, hs]; rfl
  rw [pt_keep' (n := i + 1) (by omega) (by rw [e]; exact fun z => nomatch z) (by omega), pt_nil hc hs]
  exact pt_tail i i (Nat.le_refl _) hi
theorem pt_mat {row : List Int} {i o : Nat} {os : List Nat} (hi : i < row.length) (hc : ¬ 0 < row.getD i 0) (hs : stk row i = o :: os) : (pt row row.length)[i]? = some (o : Int) := by
  have e : stk row (i + 1) = os := by rw [stk_close hc, hs]; rfl
  rw [pt_keep' (n := i + 1) (by omega) (by rw [e]; exact fun z => by have := stk_lt i i (by rw [hs]; exact List.mem_cons_of_mem _ z); omega) (by omega), pt_cons hc hs, List.getElem?_set_self (by rw [List.length_set, pt_len]; exact hi)]
theorem pt_wait {row : List Int} : ∀ n, n ≤ row.length → ∀ o ∈ stk row n, (pt row n)[o]? = some (-1)
  | 0, _, _, h => nomatch h
  | n + 1, hn, o, h => by
    by_cases hp : 0 < row.getD n 0
    · rw [stk_open hp] at h
      rw [pt_open hp]
      rcases List.mem_cons.mp h with e | e
      · subst e; exact pt_tail o o (Nat.le_refl _) (by omega)
      · exact pt_wait n (by omega) o e
    · rw [stk_close hp] at h
      cases e : stk row n with
      | nil => rw [e] at h; nomatch h
      | cons u us =>
        rw [e, List.tail_cons] at h
        have hw := stk_pw (row := row) n
        rw [e] at hw
        have h1 := (List.pairwise_cons.mp hw).1 o h
        have h2 := stk_lt n o (by rw [e]; exact List.mem_cons_of_mem _ h)
        rw [pt_cons hp e, List.getElem?_set_ne (by omega), List.getElem?_set_ne (by omega)]
        exact pt_wait n (by omega) o (by rw [e]; exact List.mem_cons_of_mem _ h)
/-- rows with openings that are not matched -/
inductive OpenT : List Int → Prop where
  | one (t : BT) (x : Int) (t2 : BT) : t.Ok → 0 < x → t2.Ok → OpenT (t.row ++ x :: t2.row)
  | more (t : BT) (x : Int) (s : List Int) : t.Ok → 0 < x → OpenT s → OpenT (t.row ++ x :: s)
theorem dec : ∀ (n : Nat) (row : List Int), row.length ≤ n → (∀ x ∈ row, Good x) → (∃ t : BT, t.Ok ∧ row = t.row) ∨ (∃ (t : BT) (rest : List Int), t.Ok ∧ row = t.row ++ 0 :: rest) ∨ OpenT row
  | _, [], _, _ => .inl ⟨.nil, trivial, rfl⟩
  | 0, _ :: _, h, _ => absurd h (by simp)
  | n + 1, x :: rest, h, hg => by
    have hx := hg x List.mem_cons_self
    rw [List.length_cons] at h
    have hgr : ∀ y ∈ rest, Good y := fun y hy => hg y (List.mem_cons_of_mem _ hy)
    by_cases hp : 0 < x
    · rcases dec n rest (by omega) hgr with ⟨t, ht, e⟩ | ⟨t, r2, ht, e⟩ | ho
      · subst e
        exact .inr (.inr (.one .nil x t trivial hp ht))
      · subst e
        rw [List.length_append, List.length_cons] at h
        have hg2 : ∀ y ∈ r2, Good y := fun y hy => hgr y (List.mem_append_right _ (List.mem_cons_of_mem _ hy))
        have key : ∀ (t2 : BT) (s : List Int), x :: (t.row ++ 0 :: (t2.row ++ s)) = (BT.node x t t2).row ++ s := fun t2 s => by
          show _ = x :: (t.row ++ 0 :: t2.row) ++ s
          simp
        have hok : ∀ t2 : BT, t2.Ok → (BT.node x t t2).Ok := fun t2 h2 => ⟨⟨by omega, hx.2⟩, ht, h2⟩
        rcases dec n r2 (by omega) hg2 with ⟨t2, ht2, e⟩ | ⟨t2, r3, ht2, e⟩ | ho
        · subst e
          exact .inl ⟨.node x t t2, hok t2 ht2, rfl⟩
        · subst e
          exact .inr (.inl ⟨.node x t t2, r3, hok t2 ht2, key t2 _⟩)
        · refine .inr (.inr ?_)
          cases ho with
          | one t2 y t3 a1 a2 a3 => rw [key]; exact .one _ y t3 (hok t2 a1) a2 a3
          | more t2 y s a1 a2 a3 => rw [key]; exact .more _ y s (hok t2 a1) a2 a3
      · exact .inr (.inr (.more .nil x rest trivial hp ho))
    · have : x = 0 := by have := hx.1; omega
      subst this
      exact .inr (.inl ⟨.nil, rest, trivial, rfl⟩)
theorem open_stk {row : List Int} : ∀ {s : List Int}, OpenT s → ∀ p, Seg row p s → stk row (p + s.length) ≠ [] := fun {s} h => by
  induction h with
  | one t x t2 ht hx ht2 =>
    intro p hs
    obtain ⟨a, b⟩ := Seg.app hs
    obtain ⟨_, c2, _, c4⟩ := Seg.cons b
    rw [List.length_append, List.length_cons, t.row_len, t2.row_len]
    rw [t.row_len] at c2 c4
    have e1 := stk_open (row := row) (n := p + 2 * t.size) (by rw [c2]; exact hx)
    have e2 := stk_seg t2 _ ht2 c4
    rw [e1] at e2
    rw [show p + (2 * t.size + (2 * t2.size + 1)) = p + 2 * t.size + 1 + 2 * t2.size by omega, e2]
    exact fun z => nomatch z
  | more t x s ht hx ho ih =>
    intro p hs
    obtain ⟨a, b⟩ := Seg.app hs
    obtain ⟨_, c2, _, c4⟩ := Seg.cons b
    rw [List.length_append, List.length_cons, t.row_len]
    rw [t.row_len] at c4
    have := ih _ c4
    rw [show p + (2 * t.size + (s.length + 1)) = p + 2 * t.size + 1 + s.length by omega]
    exact this
theorem bal_tree {row : List Int} (hg : ∀ x ∈ row, Good x) (hc : ∀ i, i < row.length → ¬ 0 < row.getD i 0 → stk row i ≠ []) (he : stk row row.length = []) : ∃ t : BT, t.Ok ∧ row = t.row := by
  rcases dec row.length row (Nat.le_refl _) hg with h | ⟨t, rest, ht, e⟩ | h
  · exact h
  · exfalso
    have hs : Seg row 0 (t.row ++ 0 :: rest) := by rw [← e]; exact Seg.all
    obtain ⟨a, b⟩ := Seg.app hs
    obtain ⟨_, c2, c3, _⟩ := Seg.cons b
    have := stk_seg t 0 ht a
    rw [t.row_len] at c2 c3
    exact hc _ c3 (by rw [c2]; decide) this
  · exact absurd he (by have := open_stk h 0 Seg.all; rw [Nat.zero_add] at this; exact this)

/-! ### triples and pairs of a binary tree -/
def BT.prs : Int → Nat → BT → List (Int × Int)
  | _, _, .nil => []
  | u, b, .node x l r => (u, x) :: (l.prs (b : Int) (b + 1) ++ r.prs u (b + 1 + l.size))
def BT.ptr (k : Nat) : BT → Int
  | .nil => -1
  | .node _ _ _ => (k : Int)
def BT.tri : Nat → BT → List (T3 Int Int Int)
  | _, .nil => []
  | b, .node x l r => ⟨x, l.ptr (b + 1), r.ptr (b + 1 + l.size)⟩ :: (l.tri (b + 1) ++ r.tri (b + 1 + l.size))
theorem BT.prs_len : ∀ (t : BT) (u : Int) (b : Nat), (t.prs u b).length = t.size
  | .nil, _, _ => rfl
  | .node x l r, u, b => by
    show ((u, x) :: (l.prs (b : Int) (b + 1) ++ r.prs u (b + 1 + l.size))).length = l.size + r.size + 1
    rw [List.length_cons, List.length_append, BT.prs_len l, BT.prs_len r]
theorem BT.tri_len : ∀ (t : BT) (b : Nat), (t.tri b).length = t.size
  | .nil, _ => rfl
  | .node x l r, b => by
    show (_ :: (l.tri (b + 1) ++ r.tri (b + 1 + l.size))).length = l.size + r.size + 1
    rw [List.length_cons, List.length_append, BT.tri_len l, BT.tri_len r]
/-! ### balanced or not -/
theorem bal_cl {row : List Int} {t : BT} (ht : t.Ok) (e : row = t.row) : ∀ i, i < row.length → ∃ q : Nat, (pt row row.length)[i]? = some (q : Int) := fun i hi => by
  have hs : Seg row 0 t.row := by rw [← e]; exact Seg.all
  have hl : row.length = 2 * t.size := by rw [e, t.row_len]
  obtain ⟨q, h⟩ := AllP.nn t 0 (part_seg (m := row.length) t 0 ht hs (by omega)) i (by omega)
  rw [Nat.zero_add] at h
  exact ⟨q, h⟩
theorem bal_hc {row : List Int} {t : BT} (ht : t.Ok) (e : row = t.row) : ∀ i, i < row.length → ¬ 0 < row.getD i 0 → stk row i ≠ [] := fun i hi hc hs => by
  obtain ⟨q, h⟩ := bal_cl ht e i hi
  rw [pt_unm hi hc hs] at h
  injection h with h
  omega
theorem bal_end {row : List Int} {t : BT} (ht : t.Ok) (e : row = t.row) : stk row row.length = [] := by
  have hs : Seg row 0 t.row := by rw [← e]; exact Seg.all
  have h := stk_seg t 0 ht hs
  have hl : row.length = 2 * t.size := by rw [e, t.row_len]
  rw [Nat.zero_add, ← hl] at h
  exact h
def Fst (row : List Int) (i : Nat) : Prop := i < row.length ∧ ¬ 0 < row.getD i 0 ∧ stk row i = [] ∧ ∀ j, j < i → ¬ 0 < row.getD j 0 → stk row j ≠ []
theorem fst_or {row : List Int} : ∀ n, n ≤ row.length → (∀ i, i < n → ¬ 0 < row.getD i 0 → stk row i ≠ []) ∨ ∃ i, Fst row i
  | 0, _ => .inl fun i h => absurd h (Nat.not_lt_zero i)
  | n + 1, h => by
    rcases fst_or (row := row) n (by omega) with a | a
    · by_cases c : ¬ 0 < row.getD n 0 ∧ stk row n = []
      · exact .inr ⟨n, by omega, c.1, c.2, a⟩
      · refine .inl fun i hi hc hs => ?_
        by_cases e : i = n
        · subst e; exact c ⟨hc, hs⟩
        · exact a i (by omega) hc hs
    · exact .inr a
theorem row_cases {row : List Int} (hg : ∀ x ∈ row, Good x) : (∃ t : BT, t.Ok ∧ row = t.row) ∨ (∃ i, Fst row i) ∨ ((∀ i, i < row.length → ¬ 0 < row.getD i 0 → stk row i ≠ []) ∧ stk row row.length ≠ []) := by
  rcases fst_or row.length (Nat.le_refl _) with a | a
  · by_cases he : stk row row.length = []
    · exact .inl (bal_tree hg a he)
    · exact .inr (.inr ⟨a, he⟩)
  · exact .inr (.inl a)
def rerr (i : Nat) : Err := ⟨.BadRow, some [("place", PyE.val (i : Int))]⟩
theorem getD_of {row : List Int} {i : Nat} {x : Int} (h : row[i]? = some x) : row.getD i 0 = x := by
  rw [List.getD_eq_getElem?_getD, h]; rfl
theorem cb_step {row : List Int} (hg : ∀ x ∈ row, Good x) {i : Nat} {y : Int × Int} (hy : (enumI 0 row)[i]? = some y) : i < row.length ∧ y.1 = (i : Int) ∧ row.getD i 0 = y.2 ∧ (y.2 = 0 ↔ ¬ 0 < row.getD i 0) := by
  obtain ⟨h1, h2⟩ := enum_at hy
  obtain ⟨hi, _⟩ := List.getElem?_eq_some_iff.mp h1
  have g := getD_of h1
  have := good_at hg h1
  exact ⟨hi, by rw [h2], g, by rw [g]; have := this.1; omega⟩
theorem cb_ok {row : List Int} {t : BT} (hl : row.length < 16777216) (ht : t.Ok) (e : row = t.row) : m_checked_balanced row = .ok row := by
  have hg : ∀ x ∈ row, Good x := by rw [e]; exact BT.row_good ht
  unfold m_checked_balanced
  simp only [Out.bind_assoc, bnd_ok]
  rw [matched_run hl hg, bnd_ok, forL_run (fun _ => ()) (fun i x hx => ?_), bnd_ok, go_fin, ite_b, if_neg]
  · intro hm
    obtain ⟨i, hi⟩ := List.getElem?_of_mem hm
    have hlen : i < row.length := by have := (List.getElem?_eq_some_iff.mp hi).1; rw [pt_len] at this; exact this
    obtain ⟨q, h⟩ := bal_cl ht e i hlen
    rw [hi] at h
    injection h with h
    omega
  · obtain ⟨hi, h1, h2, h3⟩ := cb_step hg hx
    obtain ⟨q, h⟩ := bal_cl ht e i hi
    rw [h1, item_at h, bnd_ok, decide_eq_false (show ¬ ((q : Int) = -1) by omega)]
    by_cases z : x.2 = 0
    · rw [decide_eq_true z]; rfl
    · rw [decide_eq_false z]; rfl
theorem cb_close {row : List Int} (hl : row.length < 16777216) (hg : ∀ x ∈ row, Good x) {n : Nat} (h : Fst row n) : m_checked_balanced row = .err (rerr n) := by
  obtain ⟨hn, hc, hs, hb⟩ := h
  unfold m_checked_balanced
  simp only [Out.bind_assoc, bnd_ok]
  rw [matched_run hl hg, bnd_ok, forL_stopE (fun _ => ()) (n := n) (x := ((n : Int), row.getD n 0)) (w := rerr n), bnd_err]
  · have : row[n]? = some (row.getD n 0) := by rw [List.getD_eq_getElem?_getD, List.getElem?_eq_getElem hn]; rfl
    have := enumI_at (k := 0) this
    rw [Nat.zero_add] at this
    exact this
  · intro i x hi hx
    obtain ⟨hi2, h1, h2, h3⟩ := cb_step hg hx
    by_cases z : x.2 = 0
    · have hcl := h3.mp z
      cases e : stk row i with
      | nil => exact absurd e (hb i hi hcl)
      | cons o os =>
        rw [h1, item_at (pt_mat hi2 hcl e), bnd_ok, decide_eq_false (show ¬ ((o : Int) = -1) by omega), decide_eq_true z]
        rfl
    · rw [decide_eq_false z]; rfl
  · have z : row.getD n 0 = 0 := by
      have : row[n]? = some (row.getD n 0) := by rw [List.getD_eq_getElem?_getD, List.getElem?_eq_getElem hn]; rfl
      have := good_at hg this
      have := this.1
      omega
    dsimp only
    rw [item_at (pt_unm hn hc hs), bnd_ok, z]
    rfl
theorem cb_open {row : List Int} (hl : row.length < 16777216) (hg : ∀ x ∈ row, Good x) (hb : ∀ i, i < row.length → ¬ 0 < row.getD i 0 → stk row i ≠ []) (he : stk row row.length ≠ []) : m_checked_balanced row = .err (rerr row.length) := by
  unfold m_checked_balanced
  simp only [Out.bind_assoc, bnd_ok]
  rw [matched_run hl hg, bnd_ok, forL_run (fun _ => ()) (fun i x hx => ?_), bnd_ok, go_fin, ite_b, if_pos]
  · rfl
  · cases e : stk row row.length with
    | nil => exact absurd e he
    | cons o os => exact List.mem_of_getElem? (pt_wait row.length (Nat.le_refl _) o (by rw [e]; exact List.mem_cons_self))
  · obtain ⟨hi2, h1, h2, h3⟩ := cb_step hg hx
    by_cases z : x.2 = 0
    · have hcl := h3.mp z
      cases e : stk row i with
      | nil => exact absurd e (hb i hi2 hcl)
      | cons o os =>
        rw [h1, item_at (pt_mat hi2 hcl e), bnd_ok, decide_eq_false (show ¬ ((o : Int) = -1) by omega), decide_eq_true z]
        rfl
    · rw [decide_eq_false z]; rfl
/-! ### numbers -/
def cn (row : List Int) : Nat → Nat
  | 0 => 0
  | n + 1 => if 0 < row.getD n 0 then cn row n + 1 else cn row n
theorem cn_le {row : List Int} : ∀ n, cn row n ≤ n
  | 0 => Nat.le_refl _
  | n + 1 => by have := cn_le (row := row) n; unfold cn; split <;> omega
theorem cn_seg {row : List Int} : ∀ (t : BT) (p : Nat), t.Ok → Seg row p t.row → cn row (p + 2 * t.size) = cn row p + t.size
  | .nil, p, _, _ => rfl
  | .node x l r, p, h, hs => by
    obtain ⟨h1, h2, h3⟩ := h
    obtain ⟨⟨a1, a2, a3⟩, b, ⟨c1, c2, c3⟩, d⟩ := Seg.node hs
    have e1 : cn row (p + 1) = cn row p + 1 := by rw [cn, if_pos (by rw [a2]; omega)]
    have e2 := cn_seg l (p + 1) h2 b
    have e3 : cn row (p + 1 + 2 * l.size + 1) = cn row (p + 1 + 2 * l.size) := by rw [cn, if_neg (by rw [c2]; decide)]
    have e4 := cn_seg r (p + 1 + 2 * l.size + 1) h3 d
    show cn row (p + 2 * (l.size + r.size + 1)) = cn row p + (l.size + r.size + 1)
    rw [show p + 2 * (l.size + r.size + 1) = p + 1 + 2 * l.size + 1 + 2 * r.size by omega, e4, e3, e2, e1]
    omega
def NotO (row : List Int) (p : Nat) : Prop := ¬ (p < row.length ∧ 0 < row.getD p 0)
theorem NotO.cl {row : List Int} {p : Nat} (h : row.getD p 0 = 0) : NotO row p := fun z => by rw [h] at z; exact absurd z.2 (by decide)
theorem opn_seg {row nums : List Int} (hn : nums = (List.range row.length).map fun i => (cn row i : Int)) {t : BT} {p : Nat} (ht : t.Ok) (hs : Seg row p t.row) (hno : NotO row (p + 2 * t.size)) : m_opening_number row nums (p : Int) = .ok (t.ptr (cn row p)) := by
  unfold m_opening_number
  simp only [Out.bind_assoc, bnd_ok]
  cases t with
  | nil =>
    rw [ite_b]
    by_cases h : p < row.length
    · have hr : row[p]? = some (row.getD p 0) := by rw [List.getD_eq_getElem?_getD, List.getElem?_eq_getElem h]; rfl
      have : ¬ 0 < row.getD p 0 := fun z => hno ⟨h, z⟩
      rw [if_pos (by omega), item_at hr, bnd_ok, bnd_ok, decide_eq_false this, if_neg Bool.false_ne_true]
      rfl
    · rw [if_neg (by omega), bnd_ok, if_neg Bool.false_ne_true]
      rfl
  | node x l r =>
    obtain ⟨⟨a1, a2, a3⟩, _⟩ := Seg.node hs
    have hx : 0 < x := by have := ht.1; omega
    have hg : nums[p]? = some (cn row p : Int) := by rw [hn, List.getElem?_map, List.getElem?_range a3]; rfl
    rw [ite_b, if_pos (by omega), item_at a1, bnd_ok, bnd_ok, decide_eq_true hx, if_pos rfl, item_at hg, bnd_ok]
    rfl
theorem enumI_cons {α : Type} {x : α} {xs : List α} {k : Nat} : enumI k (x :: xs) = ((k : Int), x) :: enumI (k + 1) xs := rfl
theorem tri_run {ω : Type} {row pts nums : List Int} (hn : nums = (List.range row.length).map fun i => (cn row i : Int)) (f : Int × Int → List (T3 Int Int Int) → Out (Ctl (List (T3 Int Int Int)) ω))
    (f1 : ∀ p x acc, 0 < x → f (p, x) acc = (m_opening_number row nums (p + 1)).bind fun lf => (item pts p).bind fun q => (m_opening_number row nums (q + 1)).bind fun rg => (appL acc ⟨x, lf, rg⟩).bind fun w => Out.ok (Ctl.nxt w))
    (f2 : ∀ p x acc, ¬ 0 < x → f (p, x) acc = Out.ok (Ctl.nxt acc)) : ∀ (t : BT) (p : Nat) (acc : List (T3 Int Int Int)) (rest : List Int), t.Ok → Seg row p t.row → NotO row (p + 2 * t.size) → AllP pts p t → acc.length + t.size < 16777216 →
      forL f (enumI p (t.row ++ rest)) acc = forL f (enumI (p + 2 * t.size) rest) (acc ++ t.tri (cn row p))
  | .nil, p, acc, rest, _, _, _, _, _ => by
    show forL f (enumI p rest) acc = forL f (enumI p rest) (acc ++ [])
    rw [List.append_nil]
  | .node x l r, p, acc, rest, h, hs, hno, hp, hlen => by
    obtain ⟨h1, h2, h3⟩ := h
    obtain ⟨⟨a1, a2, a3⟩, b, ⟨c1, c2, c3⟩, d⟩ := Seg.node hs
    obtain ⟨p1, p2, p3, p4⟩ := hp
    have hlen' : acc.length + (l.size + r.size + 1) < 16777216 := hlen
    have hno' : NotO row (p + 1 + 2 * l.size + 1 + 2 * r.size) := by
      have : p + 2 * (BT.node x l r).size = p + 1 + 2 * l.size + 1 + 2 * r.size := by show p + 2 * (l.size + r.size + 1) = _; omega
      rw [← this]; exact hno
    have e1 : cn row (p + 1) = cn row p + 1 := by rw [cn, if_pos (by rw [a2]; omega)]
    have e2 := cn_seg l (p + 1) h2 b
    have e3 : cn row (p + 1 + 2 * l.size + 1) = cn row p + 1 + l.size := by rw [cn, if_neg (by rw [c2]; decide), e2, e1]
    have el : (BT.node x l r).row ++ rest = x :: (l.row ++ (0 :: (r.row ++ rest))) := by
      show x :: (l.row ++ 0 :: r.row) ++ rest = _
      simp
    have ol := opn_seg hn h2 b (NotO.cl c2)
    have or' := opn_seg hn h3 d hno'
    rw [e1] at ol
    rw [e3] at or'
    have ol' : m_opening_number row nums ((p : Int) + 1) = .ok (l.ptr (cn row p + 1)) := ol
    have or2 : m_opening_number row nums (((p + 1 + 2 * l.size : Nat) : Int) + 1) = .ok (r.ptr (cn row p + 1 + l.size)) := or'
    rw [el, enumI_cons, forL_nxt (s' := acc ++ [⟨x, l.ptr (cn row p + 1), r.ptr (cn row p + 1 + l.size)⟩]) (by
      rw [f1 _ _ _ (by omega), ol', bnd_ok, item_at p1, bnd_ok, or2, bnd_ok, appL_ok (by omega), bnd_ok])]
    rw [tri_run hn f f1 f2 l (p + 1) _ _ h2 b (NotO.cl c2) p3 (by rw [List.length_append, List.length_singleton]; omega), enumI_cons, forL_nxt (f2 _ _ _ (by decide)), tri_run hn f f1 f2 r _ _ _ h3 d hno' p4 (by rw [List.length_append, List.length_append, List.length_singleton, BT.tri_len]; omega), e1, e3]
    congr 1
    · congr 1
      show _ = p + 2 * (l.size + r.size + 1)
      omega
    · show _ = acc ++ (_ :: (l.tri (cn row p + 1) ++ r.tri (cn row p + 1 + l.size)))
      simp
theorem binary_good {row : List Int} {t : BT} (hl : row.length < 16777216) (ht : t.Ok) (e : row = t.row) : m_binary_of_row row = .ok (t.tri 0) := by
  have hg : ∀ x ∈ row, Good x := by rw [e]; exact BT.row_good ht
  have hlen : row.length = 2 * t.size := by rw [e, t.row_len]
  have hs : Seg row 0 t.row := by rw [← e]; exact Seg.all
  unfold m_binary_of_row
  simp only [Out.bind_assoc, bnd_ok]
  rw [cb_ok hl ht e, bnd_ok, matched_run hl hg, bnd_ok]
  have hnum : ∀ {ω : Type} (f : Int → List Int × Int → Out (Ctl (List Int × Int) ω)), (∀ x a c, f x (a, c) = (appL a c).bind fun n => if decide (0 < x) = true then Out.ok (Ctl.nxt (n, c + 1)) else Out.ok (Ctl.nxt (n, c))) → forL f row ([], 0) = .ok (.fin ((List.range row.length).map fun i => (cn row i : Int), (cn row row.length : Int))) := fun {ω} f hf => by
    have := forL_run (f := f) (fun n => ((List.range n).map fun i => (cn row i : Int), (cn row n : Int))) (xs := row) (fun i x hx => by
      obtain ⟨hi, _⟩ := List.getElem?_eq_some_iff.mp hx
      have hv := getD_of hx
      rw [hf, appL_ok (by rw [List.length_map, List.length_range]; omega), bnd_ok, ite_b, List.range_succ, List.map_append]
      by_cases hp : 0 < x
      · rw [if_pos hp, cn, if_pos (by rw [hv]; exact hp)]
        rfl
      · rw [if_neg hp, cn, if_neg (by rw [hv]; exact hp)]
        rfl)
    exact this
  rw [hnum _ (fun _ _ _ => rfl), bnd_ok, go_fin]
  have := fun {ω : Type} f f1 f2 => tri_run (ω := ω) (row := row) (pts := pt row row.length) rfl f f1 f2 t 0 [] [] ht hs (fun z => by omega) (part_seg t 0 ht hs (by omega)) (by simp; omega)
  rw [List.append_nil, ← e] at this
  dsimp only
  rw [this _ (fun p x acc hx => by
    dsimp only
    rw [ite_b, if_pos hx]) (fun p x acc hx => by
    dsimp only
    rw [ite_b, if_neg hx])]
  show (Out.ok (Aft.fin ([] ++ t.tri 0))).bind _ = _
  rw [bnd_ok, go_fin, List.nil_append]

/-! ### the law's pairs and triples -/
theorem item_snoc {α : Type} (l : List α) (x : α) : item (l ++ [x]) (-1) = .ok x := by
  obtain ⟨y, e, _, hy⟩ := item_last (xs := l ++ [x]) (by simp)
  rw [List.getLast?_concat] at hy
  cases hy
  exact e
theorem prs_run {ω : Type} (f : Int → List (Int × Int) × List Int → Out (Ctl (List (Int × Int) × List Int) ω))
    (f1 : ∀ x ps path, 0 < x → f x (ps, path) = (item path (-1)).bind fun u => (appL ps (u, x)).bind fun q => (appL path ((q.length : Int) - 1)).bind fun w => Out.ok (Ctl.nxt (q, w)))
    (f2 : ∀ x ps path, ¬ 0 < x → f x (ps, path) = (popL path).bind fun r => Out.ok (Ctl.nxt (ps, r.2))) : ∀ (t : BT) (ps : List (Int × Int)) (A : List Int) (u : Int) (rest : List Int), t.Ok → ps.length + t.size < 8000000 → A.length + t.size < 8000000 →
    forL f (t.row ++ rest) (ps, A ++ [u]) = forL f rest (ps ++ t.prs u ps.length, A ++ [u])
  | .nil, ps, A, u, rest, _, _, _ => by
    show forL f rest _ = forL f rest (ps ++ [], A ++ [u])
    rw [List.append_nil]
  | .node x l r, ps, A, u, rest, h, hl, hA => by
    obtain ⟨h1, h2, h3⟩ := h
    have hl' : ps.length + (l.size + r.size + 1) < 8000000 := hl
    have hA' : A.length + (l.size + r.size + 1) < 8000000 := hA
    have el : (BT.node x l r).row ++ rest = x :: (l.row ++ (0 :: (r.row ++ rest))) := by
      show x :: (l.row ++ 0 :: r.row) ++ rest = _
      simp
    rw [el, forL_nxt (s' := (ps ++ [(u, x)], A ++ [u] ++ [(ps.length : Int)])) (by
      rw [f1 _ _ _ (by omega), item_snoc, bnd_ok, appL_ok (by omega), bnd_ok, appL_ok (by rw [List.length_append, List.length_singleton]; omega), bnd_ok]
      congr 4
      rw [List.length_append, List.length_singleton]
      simp)]
    rw [prs_run f f1 f2 l _ (A ++ [u]) _ _ h2 (by rw [List.length_append, List.length_singleton]; omega) (by rw [List.length_append, List.length_singleton]; omega), forL_nxt (by rw [f2 _ _ _ (by decide), popL_ok, bnd_ok]), prs_run f f1 f2 r _ A u rest h3 (by rw [List.length_append, List.length_append, List.length_singleton, BT.prs_len]; omega) (by omega)]
    congr 2
    show _ = ps ++ ((u, x) :: (l.prs (ps.length : Int) (ps.length + 1) ++ r.prs u (ps.length + 1 + l.size)))
    rw [List.length_append, List.length_append, List.length_singleton, BT.prs_len]
    simp
theorem pairs_of_is {t : BT} (ht : t.Ok) (hl : t.size < 4000000) : m__law_pairs_of t.row = .ok (t.prs (-1) 0) := by
  unfold m__law_pairs_of
  simp only [Out.bind_assoc, bnd_ok]
  have := fun {ω : Type} f f1 f2 => prs_run (ω := ω) f f1 f2 t [] [] (-1) [] ht (by simp; omega) (by simp; omega)
  rw [List.append_nil, List.nil_append] at this
  rw [this _ (fun x ps path hx => by
    simp only
    rw [ite_b, if_pos hx]) (fun x ps path hx => by
    simp only
    rw [ite_b, if_neg hx])]
  show (Out.ok (Aft.fin ([] ++ t.prs (-1) 0, [-1]))).bind _ = _
  rw [bnd_ok, go_fin, List.nil_append]
/-- all that comes later belongs to nodes above, or to later nodes -/
def Aft1 (post : List (Int × Int)) (u : Int) (e : Nat) : Prop := ∀ p ∈ post, p.1 < u ∨ (e : Int) ≤ p.1
theorem prs_up : ∀ (t : BT) (u : Int) (b : Nat), ∀ p ∈ t.prs u b, p.1 = u ∨ (b : Int) ≤ p.1
  | .nil, _, _, _, h => nomatch h
  | .node x l r, u, b, p, h => by
    rcases List.mem_cons.mp (show p ∈ (u, x) :: (l.prs (b : Int) (b + 1) ++ r.prs u (b + 1 + l.size)) from h) with e | e
    · exact .inl (by rw [e])
    · rcases List.mem_append.mp e with e | e
      · rcases prs_up l b (b + 1) p e with a | a
        · exact .inr (by omega)
        · exact .inr (by omega)
      · rcases prs_up r u (b + 1 + l.size) p e with a | a
        · exact .inl a
        · exact .inr (by omega)
theorem range_app {lo : Int} : ∀ {n m : Nat}, rangeI lo (n + m) = rangeI lo n ++ rangeI (lo + n) m
  | 0, m => by rw [Nat.zero_add]; simp [rangeI_zero]
  | n + 1, m => by
    rw [show n + 1 + m = (n + m) + 1 by omega, rangeI_succ, range_app (n := n), rangeI_succ, List.cons_append]
    congr 3
    omega
/-- the first later node with the same parent -/
theorem later_is {ps : List (Int × Int)} {pre post : List (Int × Int)} {l r : BT} {u x : Int} {b : Nat} (e : ps = pre ++ (u, x) :: (l.prs (b : Int) (b + 1) ++ r.prs u (b + 1 + l.size)) ++ post) (hb : pre.length = b) (hu : u < b) (ha : Aft1 post u (b + 1 + l.size + r.size)) (hl : ps.length < 8000000) :
    ∃ w : List Int, lcL (fun j => (item ps j).bind fun p => Out.ok (decide (p.1 = u))) (fun j => Out.ok j) (rangeI ((b : Int) + 1) (ps.length - (b + 1))) [] = .ok w ∧ ((r = .nil ∧ w = []) ∨ (∃ y l2 r2, r = .node y l2 r2) ∧ ∃ w2, w = ((b + 1 + l.size : Nat) : Int) :: w2) := by
  have hat : ∀ j : Nat, j < ps.length → ∃ p, ps[j]? = some p := fun j hj => ⟨_, List.getElem?_eq_getElem hj⟩
  have hlen : ps.length = b + 1 + l.size + r.size + post.length := by
    rw [e]
    simp only [List.length_append, List.length_cons, BT.prs_len]
    omega
  refine ⟨_, lcL_filterM (p := fun j => decide ((ps.getD j.toNat (0, 0)).1 = u)) (g := fun j => j) _ [] (fun j hj => ?_) (fun _ _ => rfl) (by rw [rangeI_len]; simp; omega), ?_⟩
  · obtain ⟨i, hi⟩ := List.getElem?_of_mem hj
    obtain ⟨k1, k2⟩ := range_at hi
    obtain ⟨p, hp⟩ := hat (b + 1 + i) (by omega)
    have : j = ((b + 1 + i : Nat) : Int) := by omega
    rw [this, item_at hp, bnd_ok, Int.toNat_natCast, List.getD_eq_getElem?_getD, hp]
    rfl
  · rw [List.nil_append, List.map_id', show ps.length - (b + 1) = l.size + (r.size + post.length) by omega, range_app, List.filter_append]
    have a1 : (rangeI ((b : Int) + 1) l.size).filter (fun j => decide ((ps.getD j.toNat (0, 0)).1 = u)) = [] := by
      refine List.filter_eq_nil_iff.mpr fun j hj => ?_
      obtain ⟨i, hi⟩ := List.getElem?_of_mem hj
      obtain ⟨k1, k2⟩ := range_at hi
      have hj' : j.toNat = b + 1 + i := by omega
      have : ps[b + 1 + i]? = (l.prs (b : Int) (b + 1))[i]? := by
        rw [e, List.append_assoc, List.getElem?_append_right (by omega), hb, show b + 1 + i - b = i + 1 by omega, List.cons_append, List.getElem?_cons_succ, List.append_assoc, List.getElem?_append_left (by rw [BT.prs_len]; exact k1)]
      have hil : i < (l.prs (b : Int) (b + 1)).length := by rw [BT.prs_len]; exact k1
      rw [hj', List.getD_eq_getElem?_getD, this, List.getElem?_eq_getElem hil]
      have := prs_up l b (b + 1) _ (List.getElem_mem hil)
      rw [decide_eq_true_iff]
      show ¬ ((l.prs (b : Int) (b + 1))[i]).1 = u
      omega
    rw [a1, List.nil_append]
    have hps2 : ∀ i, ps[b + 1 + l.size + i]? = (r.prs u (b + 1 + l.size) ++ post)[i]? := fun i => by
      rw [e, List.append_assoc, List.getElem?_append_right (by omega), hb, show b + 1 + l.size + i - b = (l.size + i) + 1 by omega, List.cons_append, List.getElem?_cons_succ, List.append_assoc, List.getElem?_append_right (by rw [BT.prs_len]; omega), BT.prs_len, Nat.add_sub_cancel_left]
    cases r with
    | nil =>
      refine .inl ⟨rfl, List.filter_eq_nil_iff.mpr fun j hj => ?_⟩
      obtain ⟨i, hi⟩ := List.getElem?_of_mem hj
      obtain ⟨k1, k2⟩ := range_at hi
      have hj' : j.toNat = b + 1 + l.size + i := by omega
      have k3 : i < post.length := by
        have : (BT.nil).size = 0 := rfl
        omega
      rw [hj', List.getD_eq_getElem?_getD, hps2]
      show ¬ decide (((([] : List (Int × Int)) ++ post)[i]?.getD (0, 0)).1 = u) = true
      rw [List.nil_append, List.getElem?_eq_getElem k3, decide_eq_true_iff]
      have := ha _ (List.getElem_mem k3)
      show ¬ (post[i]).1 = u
      rcases this with h | h
      · omega
      · have : (BT.nil).size = 0 := rfl
        omega
    | node y l2 r2 =>
      refine .inr ⟨⟨y, l2, r2, rfl⟩, ?_⟩
      have es : (BT.node y l2 r2).size + post.length = (l2.size + r2.size + post.length) + 1 := by
        show l2.size + r2.size + 1 + post.length = _
        omega
      have e0 : (ps.getD ((b : Int) + 1 + (l.size : Int)).toNat (0, 0)).1 = u := by
        have h0 := hps2 0
        rw [show ((b : Int) + 1 + (l.size : Int)).toNat = b + 1 + l.size + 0 by omega, List.getD_eq_getElem?_getD, h0]
        rfl
      rw [es, rangeI_succ, List.filter_cons, decide_eq_true e0, if_pos rfl]
      have eh : (b : Int) + 1 + (l.size : Int) = ((b + 1 + l.size : Nat) : Int) := by omega
      rw [eh]
      exact ⟨_, rfl⟩
theorem ltri_run {ω : Type} {ps : List (Int × Int)} (hl : ps.length < 8000000) (f : Int → List (T3 Int Int Int) → Out (Ctl (List (T3 Int Int Int)) ω))
    (hf : ∀ (b : Nat) acc, f (b : Int) acc = (if decide ((b : Int) + 1 < (ps.length : Int)) = true then (item ps ((b : Int) + 1)).bind fun x => Out.ok (decide (x.1 = (b : Int))) else Out.ok false).bind fun c => (if c = true then Out.ok ((b : Int) + 1) else Out.ok (-1)).bind fun lf => (item ps (b : Int)).bind fun x => (chk (rngOk ((b : Int) + 1) ∧ rngOk (ps.length : Int)) (rangeI ((b : Int) + 1) ((ps.length : Int) - ((b : Int) + 1)).toNat)).bind fun rg => (lcL (fun j => (item ps j).bind fun p => Out.ok (decide (p.1 = x.1))) (fun j => Out.ok j) rg []).bind fun w => (if (!decide (w = [])) = true then item w 0 else Out.ok (-1)).bind fun rt => (item ps (b : Int)).bind fun x => (appL acc ⟨x.2, lf, rt⟩).bind fun q => Out.ok (Ctl.nxt q)) :
    ∀ (t : BT) (u : Int) (b : Nat) (pre post : List (Int × Int)) (acc : List (T3 Int Int Int)) (m : Nat), ps = pre ++ t.prs u b ++ post → pre.length = b → u < b → Aft1 post u (b + t.size) → acc.length = b →
      forL f (rangeI b (t.size + m)) acc = forL f (rangeI ((b + t.size : Nat) : Int) m) (acc ++ t.tri b)
  | .nil, u, b, pre, post, acc, m, _, _, _, _, _ => by
    show forL f (rangeI b (0 + m)) acc = forL f (rangeI ((b + 0 : Nat) : Int) m) (acc ++ [])
    rw [List.append_nil, Nat.zero_add, Nat.add_zero]
  | .node x l r, u, b, pre, post, acc, m, e, hb, hu, ha, hacc => by
    have e' : ps = pre ++ (u, x) :: (l.prs (b : Int) (b + 1) ++ r.prs u (b + 1 + l.size)) ++ post := e
    have hlen : ps.length = b + 1 + l.size + r.size + post.length := by
      rw [e']
      simp only [List.length_append, List.length_cons, BT.prs_len]
      omega
    have ha' : Aft1 post u (b + 1 + l.size + r.size) := fun p hp => by
      rcases ha p hp with h | h
      · exact .inl h
      · have : (BT.node x l r).size = l.size + r.size + 1 := rfl
        exact .inr (by omega)
    have h0 : ps[b]? = some (u, x) := by
      rw [e', List.append_assoc, List.getElem?_append_right (by omega), hb, Nat.sub_self]
      rfl
    obtain ⟨w, hw, hw2⟩ := later_is e' hb hu ha' hl
    have pn : decide (BT.nil.ptr (b + 1) = (b : Int) + 1) = false := decide_eq_false (show ¬ (-1 : Int) = (b : Int) + 1 by omega)
    have pc : ∀ y l2 r2, decide ((BT.node y l2 r2).ptr (b + 1) = (b : Int) + 1) = true := fun _ _ _ => decide_eq_true (show ((b + 1 : Nat) : Int) = (b : Int) + 1 by omega)
    have hleft : (if decide ((b : Int) + 1 < (ps.length : Int)) = true then (item ps ((b : Int) + 1)).bind fun x => Out.ok (decide (x.1 = (b : Int))) else Out.ok false) = Out.ok (decide (l.ptr (b + 1) = (b : Int) + 1)) := by
      have h1 : ps[b + 1]? = (l.prs (b : Int) (b + 1) ++ (r.prs u (b + 1 + l.size) ++ post))[0]? := by
        rw [e', List.append_assoc, List.getElem?_append_right (by omega), hb, show b + 1 - b = 0 + 1 by omega, List.cons_append, List.getElem?_cons_succ, List.append_assoc]
      rw [ite_b]
      by_cases hlt : b + 1 < ps.length
      · rw [if_pos (by omega)]
        have hg : ps[b + 1]? = some (ps[b + 1]) := List.getElem?_eq_getElem hlt
        have hi : item ps ((b : Int) + 1) = .ok ps[b + 1] := item_at hg
        rw [hi, bnd_ok]
        cases l with
        | node y l2 r2 =>
          have : ps[b + 1] = ((b : Int), y) := by
            rw [hg] at h1
            injection h1
          rw [this, pc, decide_eq_true rfl]
        | nil =>
          have hm : ps[b + 1] ∈ r.prs u (b + 1) ++ post := by
            have : (r.prs u (b + 1) ++ post)[0]? = some ps[b + 1] := by rw [← hg, h1]; rfl
            exact List.mem_of_getElem? this
          have : ¬ (ps[b + 1]).1 = (b : Int) := by
            rcases List.mem_append.mp hm with z | z
            · rcases prs_up r u (b + 1) _ z with a | a <;> omega
            · rcases ha' _ z with a | a <;> omega
          rw [decide_eq_false this, pn]
      · rw [if_neg (by omega)]
        cases l with
        | node y l2 r2 =>
          exfalso
          have : (BT.node y l2 r2).size = l2.size + r2.size + 1 := rfl
          omega
        | nil => rw [pn]
    have hl2 : (if decide (l.ptr (b + 1) = (b : Int) + 1) = true then Out.ok ((b : Int) + 1) else Out.ok (-1)) = Out.ok (l.ptr (b + 1)) := by
      cases l with
      | nil => rw [pn, if_neg Bool.false_ne_true]; rfl
      | node y l2 r2 => rw [pc, if_pos rfl]; rfl
    have hr2 : (if (!decide (w = [])) = true then item w 0 else Out.ok (-1)) = Out.ok (r.ptr (b + 1 + l.size)) := by
      rcases hw2 with ⟨z1, z2⟩ | ⟨⟨y, l2, r2, z1⟩, w2, z2⟩
      · subst z1 z2; rfl
      · subst z1 z2
        rw [decide_eq_false (List.cons_ne_nil _ _), Bool.not_false, if_pos rfl]
        exact item_at (i := 0) rfl
    have hstep : f (b : Int) acc = .ok (.nxt (acc ++ [⟨x, l.ptr (b + 1), r.ptr (b + 1 + l.size)⟩])) := by
      rw [hf, hleft, bnd_ok, hl2, bnd_ok, item_at h0, bnd_ok, chk_pos ⟨rngOk_of (by omega) (by omega), rngOk_of (by omega) (by omega)⟩, bnd_ok, show ((ps.length : Int) - ((b : Int) + 1)).toNat = ps.length - (b + 1) by omega, hw, bnd_ok, hr2, bnd_ok, bnd_ok, appL_ok (by omega), bnd_ok]
    have es : (BT.node x l r).size + m = (l.size + (r.size + m)) + 1 := by show l.size + r.size + 1 + m = _; omega
    rw [es, rangeI_succ, forL_nxt hstep, show (b : Int) + 1 = ((b + 1 : Nat) : Int) from rfl]
    rw [ltri_run hl f hf l (b : Int) (b + 1) (pre ++ [(u, x)]) (r.prs u (b + 1 + l.size) ++ post) _ _ (by rw [e']; simp) (by simp [hb]) (by omega) (fun p hp => by
      rcases List.mem_append.mp hp with z | z
      · rcases prs_up r u _ _ z with a | a
        · exact .inl (by omega)
        · exact .inr (by omega)
      · rcases ha' _ z with a | a
        · exact .inl (by omega)
        · exact .inr (by omega)) (by simp [hacc])]
    rw [ltri_run hl f hf r u (b + 1 + l.size) (pre ++ (u, x) :: l.prs (b : Int) (b + 1)) post _ _ (by rw [e']; simp) (by simp [hb, BT.prs_len]; omega) (by omega) ha' (by simp [hacc, BT.tri_len]; omega)]
    congr 1
    · congr 1
      show ((b + 1 + l.size + r.size : Nat) : Int) = ((b + (l.size + r.size + 1) : Nat) : Int)
      omega
    · show _ = acc ++ (_ :: (l.tri (b + 1) ++ r.tri (b + 1 + l.size)))
      simp
theorem triples_is {t : BT} (hl : t.size < 4000000) : m__law_triples (t.prs (-1) 0) = .ok (t.tri 0) := by
  unfold m__law_triples
  simp only [Out.bind_assoc, bnd_ok]
  rw [rng0 (by rw [BT.prs_len]; omega), bnd_ok]
  have := fun {ω : Type} f hf => ltri_run (ω := ω) (ps := t.prs (-1) 0) (by rw [BT.prs_len]; omega) f hf t (-1) 0 [] [] [] 0 (by simp) rfl (by decide) (fun p hp => nomatch hp) rfl
  rw [Nat.add_zero] at this
  rw [BT.prs_len] at this ⊢
  have h2 := fun {ω : Type} f hf => this (ω := ω) f hf
  rw [show ((0 : Nat) : Int) = 0 from rfl] at h2
  rw [h2 _ (fun _ _ => rfl)]
  show (Out.ok (Aft.fin ([] ++ t.tri 0))).bind _ = _
  rw [bnd_ok, go_fin, List.nil_append]

/-! ### the law on one row -/
theorem e0t {α : Type} (a b : α) : (if (!true) = true then a else b) = b := rfl
theorem due_step {row : List Int} (hg : ∀ x ∈ row, Good x) {i : Nat} (hi : i < row.length) (h : ¬ 0 < row.getD i 0 → stk row i ≠ []) : ∃ x : Int, row[i]? = some x ∧ (if decide (0 < x) = true then Out.ok (1 : Int) else Out.ok (-1)) = Out.ok (((stk row (i + 1)).length : Int) - ((stk row i).length : Int)) := by
  refine ⟨row.getD i 0, by rw [List.getD_eq_getElem?_getD, List.getElem?_eq_getElem hi]; rfl, ?_⟩
  rw [ite_b]
  by_cases hp : 0 < row.getD i 0
  · rw [if_pos hp, stk_open hp, List.length_cons]
    congr 1
    omega
  · rw [if_neg hp, stk_close hp, List.length_tail]
    have := List.length_pos_iff.mpr (h hp)
    congr 1
    omega
theorem due_run {ω : Type} {row : List Int} (hg : ∀ x ∈ row, Good x) (w : ω) {i : Nat} (hi : i < row.length) (h : ¬ 0 < row.getD i 0 → stk row i ≠ []) : ((item row (i : Int)).bind fun x => (if decide (0 < x) = true then Out.ok (1 : Int) else Out.ok (-1)).bind fun x => if decide (((stk row i).length : Int) + x < 0) = true then Out.ok (Ctl.out w) else Out.ok (Ctl.nxt (((stk row i).length : Int) + x))) = .ok (.nxt ((stk row (i + 1)).length : Int)) := by
  obtain ⟨y, hy, e2⟩ := due_step hg hi h
  rw [item_at hy, bnd_ok, e2, bnd_ok, ite_b, if_neg (by omega)]
  congr 2
  omega
theorem due_tree {row : List Int} {t : BT} (hl : row.length < 4000000) (ht : t.Ok) (e : row = t.row) : m__law_row_due row = .ok ⟨"told", some (.t (t.tri 0))⟩ := by
  have hg : ∀ x ∈ row, Good x := by rw [e]; exact BT.row_good ht
  have hlen : row.length = 2 * t.size := by rw [e, t.row_len]
  unfold m__law_row_due
  simp only [Out.bind_assoc, bnd_ok]
  rw [bad_good (by omega) hg, bnd_ok, ite_b, if_neg (by decide), rng0 (by omega), bnd_ok]
  have key := fun f => forL_run (ω := Vt) (f := f) (xs := rangeI 0 row.length) (fun n => ((stk row n).length : Int))
  rw [show ((stk row 0).length : Int) = 0 from rfl] at key
  rw [key _ ?h1]
  case h1 =>
    intro i x hx
    obtain ⟨k1, k2⟩ := range_at hx
    have hx0 : x = (i : Int) := by omega
    subst hx0
    exact due_run hg _ k1 (fun hp => bal_hc ht e i k1 hp)
  rw [bnd_ok, go_fin, rangeI_len, bal_end ht e, e, pairs_of_is ht (by omega), ite_b, if_neg (by show ¬ (0 : Int) < ((0 : Nat) : Int); omega), bnd_ok, triples_is (by omega), bnd_ok]
theorem due_close {row : List Int} (hl : row.length < 4000000) (hg : ∀ x ∈ row, Good x) {n : Nat} (h : Fst row n) : m__law_row_due row = .ok ⟨"BadRow", some (.i (n : Int))⟩ := by
  obtain ⟨hn, hc, hs, hb⟩ := h
  unfold m__law_row_due
  simp only [Out.bind_assoc, bnd_ok]
  rw [bad_good (by omega) hg, bnd_ok, ite_b, if_neg (by decide), rng0 (by omega), bnd_ok]
  have key := fun f => forL_stop (f := f) (ω := Vt) (w := ⟨"BadRow", some (.i (n : Int))⟩) (xs := rangeI 0 row.length) (fun n => ((stk row n).length : Int)) (n := n) (x := (n : Int)) (by rw [rangeI_at hn, Int.zero_add])
  rw [show ((stk row 0).length : Int) = 0 from rfl] at key
  rw [key _ ?h1 ?h2]
  case h1 =>
    intro i x hi hx
    obtain ⟨k1, k2⟩ := range_at hx
    have hx0 : x = (i : Int) := by omega
    subst hx0
    exact due_run hg _ k1 (fun hp => hb i hi hp)
  case h2 =>
    have : row[n]? = some (row.getD n 0) := by rw [List.getD_eq_getElem?_getD, List.getElem?_eq_getElem hn]; rfl
    rw [item_at this, bnd_ok, ite_b, if_neg hc, bnd_ok, hs, ite_b, if_pos (by decide)]
  rw [bnd_ok, go_out]
theorem due_open {row : List Int} (hl : row.length < 4000000) (hg : ∀ x ∈ row, Good x) (hb : ∀ i, i < row.length → ¬ 0 < row.getD i 0 → stk row i ≠ []) (he : stk row row.length ≠ []) : m__law_row_due row = .ok ⟨"BadRow", some (.i (row.length : Int))⟩ := by
  unfold m__law_row_due
  simp only [Out.bind_assoc, bnd_ok]
  rw [bad_good (by omega) hg, bnd_ok, ite_b, if_neg (by decide), rng0 (by omega), bnd_ok]
  have key := fun f => forL_run (ω := Vt) (f := f) (xs := rangeI 0 row.length) (fun n => ((stk row n).length : Int))
  rw [show ((stk row 0).length : Int) = 0 from rfl] at key
  have := List.length_pos_iff.mpr he
  rw [key _ ?h1]
  case h1 =>
    intro i x hx
    obtain ⟨k1, k2⟩ := range_at hx
    have hx0 : x = (i : Int) := by omega
    subst hx0
    exact due_run hg _ k1 (fun hp => hb i k1 hp)
  rw [bnd_ok, go_fin, rangeI_len, ite_b, if_pos (by omega)]
theorem due_sign {row : List Int} (hl : row.length < 4000000) {n : Nat} {x : Int} (h1 : row[n]? = some x) (h2 : ¬ Good x) (h3 : ∀ (i : Nat) (y : Int), i < n → row[i]? = some y → Good y) : m__law_row_due row = .ok ⟨"BadSign", some (.i (n : Int))⟩ := by
  unfold m__law_row_due
  simp only [Out.bind_assoc, bnd_ok]
  rw [bad_bad (by omega) h1 h2 h3, bnd_ok, ite_b, if_pos (by omega), bnd_ok]
theorem told_ok {row : List Int} {ts : List (T3 Int Int Int)} (h : m_binary_of_row row = .ok ts) : m__law_told 0 (.l row) = .ok ⟨"told", some (.t ts)⟩ := by
  unfold m__law_told
  simp only [Out.bind_assoc, bnd_ok]
  have : (Hd.l row).toL = .ok row := rfl
  rw [if_pos (by rfl), this, bnd_ok, h, bnd_ok, tryE_okE, bnd_ok]
  rfl
theorem told_row {row : List Int} {i : Nat} (h : m_binary_of_row row = .err (rerr i)) : m__law_told 0 (.l row) = .ok ⟨"BadRow", some (.i (i : Int))⟩ := by
  unfold m__law_told
  simp only [Out.bind_assoc, bnd_ok]
  have : (Hd.l row).toL = .ok row := rfl
  rw [if_pos (by rfl), this, bnd_ok, h, bnd_err, tryE_errE (e := rerr i) (a := (Sum.inr (Vt.mk "BadRow" (some (.i (i : Int)))) : Vt ⊕ Vt)) rfl rfl, bnd_ok]
  rfl
theorem told_sign {row : List Int} {i : Nat} (h : m_binary_of_row row = .err (ferr i)) : m__law_told 0 (.l row) = .ok ⟨"BadSign", some (.i (i : Int))⟩ := by
  unfold m__law_told
  simp only [Out.bind_assoc, bnd_ok]
  have : (Hd.l row).toL = .ok row := rfl
  rw [if_pos (by rfl), this, bnd_ok, h, bnd_err, tryE_errE (e := ferr i) (a := (Sum.inr (Vt.mk "BadSign" (some (.i (i : Int)))) : Vt ⊕ Vt)) rfl rfl, bnd_ok]
  rfl
theorem table_self {ts : List (T3 Int Int Int)} (hl : ts.length < 4000000) : m__law_table ts ts = .ok true := by
  suffices hh : Is (m__law_table ts ts) fun b => b = true by
    obtain ⟨r, e, q⟩ := hh
    rw [e, q]
  unfold m__law_table
  simp only [Out.bind_assoc, bnd_ok]
  have ed : (!decide True) = false := rfl
  rw [e0t, ed, bnd_ok, if_neg Bool.false_ne_true, rng0 (by omega), bnd_ok]
  refine Is.for (fun _ _ => True) trivial (fun i x s hx _ => ?_) fun _ _ => Is.ok rfl
  obtain ⟨k1, k2⟩ := range_at hx
  have hx0 : x = (i : Int) := by omega
  subst hx0
  rw [item_at (List.getElem?_eq_getElem k1), bnd_ok, e0t, bnd_ok, bnd_ok, row_self (a := (T3.tup ts[i]).l) (by show (3 : Nat) < 16777216; decide), bnd_ok, e0t]
  exact Is.ok ⟨(), rfl, trivial⟩
theorem rr_err {row : List Int} {nm : Str} {i : Int} (hl : row.length < 16777216) (hn : decide (nm = "told") = false) (hd : m__law_row_due row = .ok ⟨nm, some (.i i)⟩) (ht : m__law_told 0 (.l row) = .ok ⟨nm, some (.i i)⟩) : m__law_row_right row = .ok true := by
  unfold m__law_row_right
  simp only [Out.bind_assoc, bnd_ok]
  rw [hd, bnd_ok, ht, bnd_ok]
  dsimp only
  rw [decide_eq_true rfl, e0t, row_self hl, bnd_ok, Bool.not_true, bnd_ok, if_neg Bool.false_ne_true, hn, if_neg Bool.false_ne_true]
  have e1 : Vt.tail ⟨nm, some (.i i)⟩ (some 1) none = .ok ⟨[i]⟩ := rfl
  rw [e1, bnd_ok, bnd_ok]
  rw [row_self (a := [i]) (by show (1 : Nat) < 16777216; decide), bnd_ok]
theorem binary_err {row : List Int} {e : Err} (h : m_checked_balanced row = .err e) : m_binary_of_row row = .err e := by
  unfold m_binary_of_row
  simp only [Out.bind_assoc, bnd_ok]
  rw [h, bnd_err]
theorem row_right {row : List Int} (hl : row.length < 4000000) : m__law_row_right row = .ok true := by
  rcases good_or row with h | ⟨n, x, h1, h2, h3⟩
  · rcases row_cases h with ⟨t, ht, e⟩ | ⟨i, hi⟩ | ⟨hb, he⟩
    · have hlen : row.length = 2 * t.size := by rw [e, t.row_len]
      have hd := due_tree hl ht e
      have htd := told_ok (binary_good (by omega) ht e)
      unfold m__law_row_right
      simp only [Out.bind_assoc, bnd_ok]
      rw [hd, bnd_ok, htd, bnd_ok]
      dsimp only
      rw [decide_eq_true rfl, e0t, row_self (by omega), bnd_ok, Bool.not_true, bnd_ok, if_neg Bool.false_ne_true, if_pos rfl]
      have e1 : Vt.toT ⟨"told", some (.t (t.tri 0))⟩ = .ok (t.tri 0) := rfl
      rw [e1, bnd_ok, bnd_ok, table_self (by rw [BT.tri_len]; omega), bnd_ok]
    · exact rr_err (by omega) (by decide) (due_close hl h hi) (told_row (binary_err (cb_close (by omega) h hi)))
    · exact rr_err (by omega) (by decide) (due_open hl h hb he) (told_row (binary_err (cb_open (by omega) h hb he)))
  · refine rr_err (by omega) (by decide) (due_sign hl h1 h2 h3) (told_sign (binary_err ?_))
    unfold m_checked_balanced
    simp only [Out.bind_assoc, bnd_ok]
    rw [matched_bad h1 h2 h3, bnd_err]

/-! ### lists of triples that are binary trees -/
def Tri (ts : List (T3 Int Int Int)) : Nat → BT → Prop
  | _, .nil => True
  | b, .node x l r => ts[b]? = some ⟨x, l.ptr (b + 1), r.ptr (b + 1 + l.size)⟩ ∧ Tri ts (b + 1) l ∧ Tri ts (b + 1 + l.size) r
theorem Tri.le {ts : List (T3 Int Int Int)} : ∀ (t : BT) (b : Nat), b ≤ ts.length → Tri ts b t → b + t.size ≤ ts.length
  | .nil, b, h, _ => h
  | .node x l r, b, _, h => by
    obtain ⟨h1, h2, h3⟩ := h
    have a := (List.getElem?_eq_some_iff.mp h1).1
    have b1 := Tri.le l (b + 1) (by omega) h2
    have b2 := Tri.le r (b + 1 + l.size) b1 h3
    show b + (l.size + r.size + 1) ≤ _
    omega
def BT.isNil : BT → Bool
  | .nil => true
  | .node _ _ _ => false
theorem BT.ptr_nil {t : BT} {k : Nat} : t.ptr k = -1 ↔ t.isNil = true := by
  cases t with
  | nil => exact ⟨fun _ => rfl, fun _ => rfl⟩
  | node x l r => exact ⟨fun h => absurd h (show ¬ (k : Int) = -1 by omega), fun h => nomatch h⟩
theorem BT.ptr_node {t : BT} {k : Nat} (h : t.isNil = false) : t.ptr k = (k : Int) := by
  cases t with
  | nil => nomatch h
  | node x l r => rfl
theorem BT.size_pos {t : BT} (h : t.isNil = false) : 0 < t.size := by
  cases t with
  | nil => nomatch h
  | node x l r => exact Nat.succ_pos _
theorem BT.nil_of {t : BT} (h : t.isNil = true) : t = .nil := by
  cases t with
  | nil => rfl
  | node x l r => nomatch h
theorem Tri.uniq {ts : List (T3 Int Int Int)} : ∀ (t t' : BT) (b : Nat), t.isNil = t'.isNil → Tri ts b t → Tri ts b t' → t = t'
  | .nil, .nil, _, _, _, _ => rfl
  | .nil, .node _ _ _, _, h, _, _ => nomatch h
  | .node _ _ _, .nil, _, h, _, _ => nomatch h
  | .node x l r, .node x' l' r', b, _, h, h' => by
    obtain ⟨h1, h2, h3⟩ := h
    obtain ⟨h1', h2', h3'⟩ := h'
    rw [h1] at h1'
    injection h1' with e
    injection e with e1 e2 e3
    have nl : l.isNil = l'.isNil := by
      have a := BT.ptr_nil (t := l) (k := b + 1)
      have a' := BT.ptr_nil (t := l') (k := b + 1)
      rw [e2] at a
      cases h : l.isNil <;> cases h' : l'.isNil
      · rfl
      · rw [h] at a; exact absurd (a.mp (a'.mpr h')) (by decide)
      · rw [h'] at a'; exact absurd (a'.mp (a.mpr h)) (by decide)
      · rfl
    have el := Tri.uniq l l' (b + 1) nl h2 h2'
    subst el
    have nr : r.isNil = r'.isNil := by
      have a := BT.ptr_nil (t := r) (k := b + 1 + l.size)
      have a' := BT.ptr_nil (t := r') (k := b + 1 + l.size)
      rw [e3] at a
      cases h : r.isNil <;> cases h' : r'.isNil
      · rfl
      · rw [h] at a; exact absurd (a.mp (a'.mpr h')) (by decide)
      · rw [h'] at a'; exact absurd (a'.mp (a.mpr h)) (by decide)
      · rfl
    have er := Tri.uniq r r' _ nr h3 h3'
    subst er e1
    rfl
theorem Tri.self : ∀ (t : BT) (b : Nat) (pre post : List (T3 Int Int Int)), pre.length = b → Tri (pre ++ t.tri b ++ post) b t
  | .nil, _, _, _, _ => trivial
  | .node x l r, b, pre, post, h => by
    have e : pre ++ (BT.node x l r).tri b ++ post = pre ++ (⟨x, l.ptr (b + 1), r.ptr (b + 1 + l.size)⟩ :: (l.tri (b + 1) ++ r.tri (b + 1 + l.size))) ++ post := rfl
    refine ⟨?_, ?_, ?_⟩
    · rw [e, List.append_assoc, List.getElem?_append_right (by omega), h, Nat.sub_self]
      rfl
    · have := Tri.self l (b + 1) (pre ++ [⟨x, l.ptr (b + 1), r.ptr (b + 1 + l.size)⟩]) (r.tri (b + 1 + l.size) ++ post) (by simp [h])
      rw [e]
      simpa using this
    · have := Tri.self r (b + 1 + l.size) (pre ++ (⟨x, l.ptr (b + 1), r.ptr (b + 1 + l.size)⟩ :: l.tri (b + 1))) post (by simp [h, BT.tri_len]; omega)
      rw [e]
      simpa using this
def bberr : Err := ⟨.BadBinary, none⟩
/-- one turn of row_of_binary -/
def binB (ts : List (T3 Int Int Int)) (s : List Int × Int × List Int) : Out (Ctl (List Int × Int × List Int) (List Int)) :=
  (popL s.2.2).bind fun r =>
    if decide (r.1 = -1) = true then (appL s.1 0).bind fun row => Out.ok (Ctl.nxt (row, s.2.1, r.2))
    else (if (!decide (r.1 = s.2.1)) = true then Out.ok true else Out.ok (decide (s.2.1 = (ts.length : Int)))).bind fun b =>
      if b = true then Out.err bberr
      else (item ts r.1).bind fun t => (if decide (t.a < 1) = true then Out.ok true else Out.ok (decide (9 < t.a))).bind fun b =>
        if b = true then Out.err bberr
        else (appL s.1 t.a).bind fun row => (if (!decide (t.c = -1)) = true then (appL r.2 t.c).bind fun w => Out.ok w else Out.ok r.2).bind fun w => (appL w (-1)).bind fun w2 =>
          if (!decide (t.b = -1)) = true then (appL w2 t.b).bind fun w3 => Out.ok (Ctl.nxt (row, s.2.1 + 1, w3)) else Out.ok (Ctl.nxt (row, s.2.1 + 1, w2))
def binC (s : List Int × Int × List Int) : Out Bool := Out.ok (decide (0 < (s.2.2.length : Int)))
theorem whileF_stop {S ω : Type} {c : S → Out Bool} {b : S → Out (Ctl S ω)} {n : Nat} {s : S} (hc : c s = .ok false) : whileF c b (n + 1) s = .ok (.fin s) := by
  unfold whileF
  rw [hc, bnd_ok, if_neg Bool.false_ne_true]
theorem whileF_go {S ω : Type} {c : S → Out Bool} {b : S → Out (Ctl S ω)} {n : Nat} {s s' : S} (hc : c s = .ok true) (hb : b s = .ok (.nxt s')) : whileF c b (n + 1) s = whileF c b n s' := by
  rw [whileF, hc, bnd_ok, if_pos rfl, hb, bnd_ok]
theorem whileF_err {S ω : Type} {c : S → Out Bool} {b : S → Out (Ctl S ω)} {n : Nat} {s : S} {e : Err} (hc : c s = .ok true) (hb : b s = .err e) : whileF c b (n + 1) s = .err e := by
  rw [whileF, hc, bnd_ok, if_pos rfl, hb, bnd_err]
theorem binC_snoc {row w : List Int} {q x : Int} : binC (row, q, w ++ [x]) = .ok true := by
  unfold binC
  rw [decide_eq_true (by simp)]
theorem bin_close {ts : List (T3 Int Int Int)} {row w : List Int} {q : Int} {n : Nat} (hr : row.length < 16777216) : whileF binC (binB ts) (n + 1) (row, q, w ++ [-1]) = whileF binC (binB ts) n (row ++ [0], q, w) := by
  refine whileF_go binC_snoc ?_
  unfold binB
  dsimp only
  rw [popL_ok, bnd_ok, if_pos (by rfl), appL_ok hr, bnd_ok]
theorem isE0 {p q : Prop} [Decidable p] [Decidable q] : (if decide p = true then Out.ok true else Out.ok (decide q)) = Out.ok (decide (p ∨ q)) := by
  by_cases h : p
  · simp [h]
  · simp [h]
theorem bin_node {ts : List (T3 Int Int Int)} (hN : ts.length < 4000000) : ∀ (k seen : Nat) (node : Int) (row w : List Int) (n : Nat), ts.length - seen ≤ k → seen ≤ ts.length → node ≠ -1 → row.length ≤ 2 * seen → w.length ≤ 2 * seen → 2 * (ts.length - seen) + 1 ≤ n →
    (whileF binC (binB ts) n (row, (seen : Int), w ++ [node]) = .err bberr ∧ ∀ t : BT, t.isNil = false → t.Ok → node = (seen : Int) → ¬ Tri ts seen t) ∨
    ∃ t : BT, t.isNil = false ∧ t.Ok ∧ node = (seen : Int) ∧ Tri ts seen t ∧ whileF binC (binB ts) n (row, (seen : Int), w ++ [node]) = whileF binC (binB ts) (n - 2 * t.size) (row ++ t.row, ((seen + t.size : Nat) : Int), w)
  | k, seen, node, row, w, n, hk, hs, hnode, hrow, hw, hn => by
    obtain ⟨m, rfl⟩ : ∃ m, n = m + 1 := ⟨n - 1, by omega⟩
    by_cases h1 : node = (seen : Int) ∧ seen < ts.length
    · obtain ⟨h1, h2⟩ := h1
      obtain ⟨k', rfl⟩ : ∃ k', k = k' + 1 := ⟨k - 1, by omega⟩
      have ht : ts[seen]? = some ts[seen] := List.getElem?_eq_getElem h2
      generalize ts[seen] = t at ht
      obtain ⟨x, lf, rg⟩ := t
      have hi : item ts node = .ok ⟨x, lf, rg⟩ := by rw [h1]; exact item_at ht
      have hb0 : binB ts (row, (seen : Int), w ++ [node]) = (if decide (x < 1) = true then Out.ok true else Out.ok (decide (9 < x))).bind fun b =>
        if b = true then Out.err bberr
        else (appL row x).bind fun row => (if (!decide (rg = -1)) = true then (appL w rg).bind fun w => Out.ok w else Out.ok w).bind fun w => (appL w (-1)).bind fun w2 =>
          if (!decide (lf = -1)) = true then (appL w2 lf).bind fun w3 => Out.ok (Ctl.nxt (row, (seen : Int) + 1, w3)) else Out.ok (Ctl.nxt (row, (seen : Int) + 1, w2)) := by
        unfold binB
        dsimp only
        rw [popL_ok, bnd_ok, decide_eq_false hnode, if_neg Bool.false_ne_true, decide_eq_true h1, Bool.not_true, if_neg Bool.false_ne_true, bnd_ok, decide_eq_false (by omega), if_neg Bool.false_ne_true, hi, bnd_ok]
      by_cases hx : 1 ≤ x ∧ x ≤ 9
      · have hb1 : binB ts (row, (seen : Int), w ++ [node]) = (if (!decide (rg = -1)) = true then (appL w rg).bind fun w => Out.ok w else Out.ok w).bind fun w => (appL w (-1)).bind fun w2 =>
          if (!decide (lf = -1)) = true then (appL w2 lf).bind fun w3 => Out.ok (Ctl.nxt (row ++ [x], (seen : Int) + 1, w3)) else Out.ok (Ctl.nxt (row ++ [x], (seen : Int) + 1, w2)) := by
          rw [hb0, isE0, decide_eq_false (by omega), bnd_ok, if_neg Bool.false_ne_true, appL_ok (by omega), bnd_ok]
        have hs1 : (seen : Int) + 1 = ((seen + 1 : Nat) : Int) := rfl
        have hr1 : (row ++ [x]).length = row.length + 1 := by simp
        -- what waits behind the node
        have hwr : ∃ wr : List Int, wr.length ≤ w.length + 1 ∧ (if (!decide (rg = -1)) = true then (appL w rg).bind fun w => Out.ok w else Out.ok w) = Out.ok wr ∧ ((rg = -1 ∧ wr = w) ∨ (rg ≠ -1 ∧ wr = w ++ [rg])) := by
          by_cases hg : rg = -1
          · exact ⟨w, by omega, by rw [decide_eq_true hg, Bool.not_true, if_neg Bool.false_ne_true], .inl ⟨hg, rfl⟩⟩
          · exact ⟨w ++ [rg], by simp, by rw [decide_eq_false hg, Bool.not_false, if_pos rfl, appL_ok (by omega), bnd_ok], .inr ⟨hg, rfl⟩⟩
        obtain ⟨wr, hwl, hwe, hwc⟩ := hwr
        rw [hwe, bnd_ok, appL_ok (by omega), bnd_ok] at hb1
        -- the right part, once the left one is l
        have right : ∀ l : BT, l.Ok → lf = l.ptr (seen + 1) → Tri ts (seen + 1) l → ∀ n', n' = m - 2 * l.size →
            (whileF binC (binB ts) n' (row ++ [x] ++ l.row, ((seen + 1 + l.size : Nat) : Int), wr ++ [-1]) = .err bberr ∧ ∀ t : BT, t.isNil = false → t.Ok → node = (seen : Int) → ¬ Tri ts seen t) ∨
            ∃ t : BT, t.isNil = false ∧ t.Ok ∧ node = (seen : Int) ∧ Tri ts seen t ∧ whileF binC (binB ts) n' (row ++ [x] ++ l.row, ((seen + 1 + l.size : Nat) : Int), wr ++ [-1]) = whileF binC (binB ts) (m + 1 - 2 * t.size) (row ++ t.row, ((seen + t.size : Nat) : Int), w) := fun l hlo hlp hlt n' hn' => by
          have hle := Tri.le l (seen + 1) (by omega) hlt
          obtain ⟨n2, rfl⟩ : ∃ n2, n' = n2 + 1 := ⟨n' - 1, by omega⟩
          have hrl : (row ++ [x] ++ l.row).length = row.length + 1 + 2 * l.size := by rw [List.length_append, hr1, l.row_len]
          rw [bin_close (by omega)]
          rcases hwc with ⟨hg, rfl⟩ | ⟨hg, rfl⟩
          · refine .inr ⟨.node x l .nil, rfl, ⟨hx, hlo, trivial⟩, h1, ⟨by rw [ht, hlp, hg]; rfl, hlt, trivial⟩, ?_⟩
            congr 1
            · show n2 = m + 1 - 2 * (l.size + 0 + 1)
              omega
            · congr 1
              · show row ++ [x] ++ l.row ++ [0] = row ++ (x :: (l.row ++ 0 :: []))
                simp
              · congr 2
                show seen + 1 + l.size = seen + (l.size + 0 + 1)
                omega
          · have hrc : (row ++ [x] ++ l.row ++ [0]).length = row.length + 2 + 2 * l.size := by rw [List.length_append, hrl]; simp; omega
            rcases bin_node hN k' (seen + 1 + l.size) rg (row ++ [x] ++ l.row ++ [0]) w n2 (by omega) hle hg (by omega) (by omega) (by omega) with ⟨e1, e2⟩ | ⟨r, e1, e2, e3, e4, e5⟩
            · refine .inl ⟨e1, fun t q1 q2 q3 q4 => ?_⟩
              cases t with
              | nil => nomatch q1
              | node x' l' r' =>
                obtain ⟨z1, z2, z3⟩ := q4
                rw [ht] at z1
                injection z1 with z1
                injection z1 with y1 y2 y3
                have nl : l.isNil = l'.isNil := by
                  have a := BT.ptr_nil (t := l) (k := seen + 1)
                  have a' := BT.ptr_nil (t := l') (k := seen + 1)
                  rw [← hlp, y2] at a
                  cases h : l.isNil <;> cases h' : l'.isNil
                  · rfl
                  · rw [h] at a; exact absurd (a.mp (a'.mpr h')) (by decide)
                  · rw [h'] at a'; exact absurd (a'.mp (a.mpr h)) (by decide)
                  · rfl
                have el := Tri.uniq l l' (seen + 1) nl hlt z2
                subst el
                have nr : r'.isNil = false := by
                  cases h : r'.isNil
                  · rfl
                  · exact absurd (y3.trans (BT.ptr_nil.mpr h)) hg
                exact e2 r' nr q2.2.2 (by rw [y3, BT.ptr_node nr]) z3
            · refine .inr ⟨.node x l r, rfl, ⟨hx, hlo, e2⟩, h1, ⟨by rw [ht, hlp, BT.ptr_node e1, e3], hlt, e4⟩, ?_⟩
              rw [e5]
              congr 1
              · show n2 - 2 * r.size = m + 1 - 2 * (l.size + r.size + 1)
                omega
              · congr 1
                · show row ++ [x] ++ l.row ++ [0] ++ r.row = row ++ (x :: (l.row ++ 0 :: r.row))
                  simp
                · congr 2
                  show seen + 1 + l.size + r.size = seen + (l.size + r.size + 1)
                  omega
        by_cases hlf : lf = -1
        · rw [decide_eq_true hlf, Bool.not_true, if_neg Bool.false_ne_true] at hb1
          rw [whileF_go binC_snoc hb1]
          have := right .nil trivial hlf trivial m rfl
          rw [show (BT.nil).row = [] from rfl, List.append_nil] at this
          exact this
        · rw [decide_eq_false hlf, Bool.not_false, if_pos rfl, appL_ok (by simp; omega), bnd_ok] at hb1
          rw [whileF_go binC_snoc hb1, hs1]
          rcases bin_node hN k' (seen + 1) lf (row ++ [x]) (wr ++ [-1]) m (by omega) (by omega) hlf (by omega) (by simp; omega) (by omega) with ⟨e1, e2⟩ | ⟨l, e1, e2, e3, e4, e5⟩
          · refine .inl ⟨e1, fun t q1 q2 q3 q4 => ?_⟩
            cases t with
            | nil => nomatch q1
            | node x' l' r' =>
              obtain ⟨z1, z2, z3⟩ := q4
              rw [ht] at z1
              injection z1 with z1
              injection z1 with y1 y2 y3
              have nl : l'.isNil = false := by
                cases h : l'.isNil
                · rfl
                · exact absurd (y2.trans (BT.ptr_nil.mpr h)) hlf
              exact e2 l' nl q2.2.1 (by rw [y2, BT.ptr_node nl]) z2
          · rw [e5]
            exact right l e2 (by rw [e3, BT.ptr_node e1]) e4 _ rfl
      · refine .inl ⟨whileF_err binC_snoc ?_, fun t q1 q2 q3 q4 => ?_⟩
        · rw [hb0, isE0, decide_eq_true (by omega), bnd_ok, if_pos rfl]
        · cases t with
          | nil => nomatch q1
          | node x' l' r' =>
            obtain ⟨z1, z2, z3⟩ := q4
            rw [ht] at z1
            injection z1 with z1
            injection z1 with y1 y2 y3
            exact hx (by rw [y1]; exact q2.1)
    · refine .inl ⟨whileF_err binC_snoc ?_, fun t q1 q2 q3 q4 => ?_⟩
      · unfold binB
        dsimp only
        rw [popL_ok, bnd_ok, decide_eq_false hnode, if_neg Bool.false_ne_true]
        by_cases h2 : node = (seen : Int)
        · rw [decide_eq_true h2, Bool.not_true, if_neg Bool.false_ne_true, bnd_ok, decide_eq_true (by omega), if_pos rfl]
        · rw [decide_eq_false h2, Bool.not_false, if_pos rfl, bnd_ok, if_pos rfl]
      · cases t with
        | nil => nomatch q1
        | node x' l' r' =>
          have := (List.getElem?_eq_some_iff.mp q4.1).1
          exact h1 ⟨q3, this⟩
termination_by k => k
theorem bin_is {ts : List (T3 Int Int Int)} (hN : ts.length < 4000000) : (m_row_of_binary ts = .err bberr ∧ ¬ ∃ t : BT, t.Ok ∧ Tri ts 0 t ∧ t.size = ts.length) ∨ ∃ t : BT, t.Ok ∧ Tri ts 0 t ∧ t.size = ts.length ∧ m_row_of_binary ts = .ok t.row := by
  have e : m_row_of_binary ts = (if decide (0 < (ts.length : Int)) = true then Out.ok [0] else Out.ok []).bind fun w => (whileF binC (binB ts) 16777216 ([], 0, w)).bind (Aft.go fun s => if decide (s.2.1 < (ts.length : Int)) = true then Out.err bberr else Out.ok s.1) := by
    unfold m_row_of_binary binC binB bberr
    simp only [Out.bind_assoc, bnd_ok]
  rw [e, ite_b]
  by_cases h0 : ts.length = 0
  · rw [if_neg (by omega), bnd_ok, whileF_stop (n := 16777215) (by rfl), bnd_ok, go_fin]
    dsimp only
    rw [ite_b, if_neg (by omega)]
    exact .inr ⟨.nil, trivial, trivial, h0.symm, rfl⟩
  · rw [if_pos (by omega), bnd_ok]
    rcases bin_node hN ts.length 0 0 [] [] 16777216 (by omega) (by omega) (by decide) (by simp) (by simp) (by omega) with ⟨e1, e2⟩ | ⟨t, e1, e2, e3, e4, e5⟩
    · rw [List.nil_append] at e1
      have e1' : whileF binC (binB ts) 16777216 ([], 0, [0]) = .err bberr := e1
      rw [e1', bnd_err]
      refine .inl ⟨rfl, fun ⟨t, q1, q2, q3⟩ => ?_⟩
      refine e2 t ?_ q1 rfl q2
      cases t with
      | nil => exact absurd q3.symm h0
      | node _ _ _ => rfl
    · rw [List.nil_append, List.nil_append] at e5
      have e5' : whileF binC (binB ts) 16777216 ([], 0, [0]) = whileF binC (binB ts) (16777216 - 2 * t.size) (t.row, ((0 + t.size : Nat) : Int), []) := e5
      have hle := Tri.le t 0 (by omega) e4
      obtain ⟨m, hm⟩ : ∃ m, 16777216 - 2 * t.size = m + 1 := ⟨16777216 - 2 * t.size - 1, by omega⟩
      rw [e5', hm, whileF_stop (by rfl), bnd_ok, go_fin]
      dsimp only
      rw [ite_b]
      by_cases hlt : t.size = ts.length
      · rw [if_neg (by omega)]
        exact .inr ⟨t, e2, e4, hlt, rfl⟩
      · rw [if_pos (by omega)]
        refine .inl ⟨rfl, fun ⟨t', q1, q2, q3⟩ => hlt ?_⟩
        have : t = t' := Tri.uniq t t' 0 (by
          rw [e1]
          cases t' with
          | nil => exact absurd q3.symm h0
          | node _ _ _ => rfl) e4 q2
        rw [this]; exact q3

/-! ### the law's cuts -/
def BT.cuts : Nat → BT → List Int
  | _, .nil => []
  | b, .node _ l r => ((b + 1 + l.size : Nat) : Int) :: (l.cuts (b + 1) ++ r.cuts (b + 1 + l.size))
theorem BT.cuts_len : ∀ (t : BT) (b : Nat), (t.cuts b).length = t.size
  | .nil, _ => rfl
  | .node x l r, b => by
    show (_ :: (l.cuts (b + 1) ++ r.cuts (b + 1 + l.size))).length = l.size + r.size + 1
    rw [List.length_cons, List.length_append, BT.cuts_len l, BT.cuts_len r]
theorem BT.cuts_mem : ∀ (t : BT) (b : Nat), ∀ c ∈ t.cuts b, (b : Int) < c ∧ c ≤ ((b + t.size : Nat) : Int)
  | .nil, _, _, h => nomatch h
  | .node x l r, b, c, h => by
    show _ ∧ c ≤ ((b + (l.size + r.size + 1) : Nat) : Int)
    rcases List.mem_cons.mp (show c ∈ ((b + 1 + l.size : Nat) : Int) :: (l.cuts (b + 1) ++ r.cuts (b + 1 + l.size)) from h) with e | e
    · subst e; omega
    · rcases List.mem_append.mp e with e | e
      · have := BT.cuts_mem l (b + 1) c e
        omega
      · have := BT.cuts_mem r (b + 1 + l.size) c e
        omega
/-- one turn of _law_cuts -/
def cutF (ts : List (T3 Int Int Int)) (s : List Int × List (Int × Int)) : Out (Ctl (List Int × List (Int × Int)) (List Int)) :=
  (popL s.2).bind fun r => (item ts r.1.1).bind fun t => (if (!decide (t.c = -1)) = true then Out.ok t.c else Out.ok r.1.2).bind fun cut =>
    (if (!(decide (1 ≤ t.a) && decide (t.a ≤ 9))) = true then Out.ok true else Out.ok !(decide (r.1.1 < cut) && decide (cut ≤ r.1.2))).bind fun b =>
      if b = true then Out.ok (Ctl.out [])
      else (if (!decide (t.c = -1)) = true then Out.ok (decide (cut = r.1.2)) else Out.ok false).bind fun x => (if x = true then Out.ok true else if decide (t.b = -1) = true then Out.ok !decide (cut = r.1.1 + 1) else Out.ok false).bind fun b =>
        if b = true then Out.ok (Ctl.out [])
        else (if (!decide (t.b = -1)) = true then if (!decide (t.b = r.1.1 + 1)) = true then Out.ok true else Out.ok (decide (cut = t.b)) else Out.ok false).bind fun b =>
          if b = true then Out.ok (Ctl.out [])
          else (setAt s.1 r.1.1 cut).bind fun cuts => (if (!decide (t.c = -1)) = true then (appL r.2 (t.c, r.1.2)).bind fun p => Out.ok p else Out.ok r.2).bind fun p =>
            if (!decide (t.b = -1)) = true then (appL p (t.b, cut)).bind fun p => Out.ok (Ctl.nxt (cuts, p)) else Out.ok (Ctl.nxt (cuts, p))
theorem set_done {d : List Int} {n : Nat} {x : Int} (h : 0 < n) : (d ++ List.replicate n 0).set d.length x = d ++ [x] ++ List.replicate (n - 1) 0 := by
  obtain ⟨m, rfl⟩ : ∃ m, n = m + 1 := ⟨n - 1, by omega⟩
  rw [List.set_append_right _ _ (Nat.le_refl _), Nat.sub_self, List.replicate_succ, List.set_cons_zero, List.append_assoc]
  rfl
/-- what one turn does: it leaves, or it goes on with the parts -/
theorem cut_turn {ts : List (T3 Int Int Int)} (hN : ts.length < 4000000) {s e : Nat} {d : List Int} {P : List (Int × Int)} {x lf rg : Int} (hse : s < e) (he : e ≤ ts.length) (ht : ts[s]? = some ⟨x, lf, rg⟩) (hd : d.length = s) (hP : P.length ≤ s) :
    (cutF ts (d ++ List.replicate (ts.length - s) 0, P ++ [((s : Int), (e : Int))]) = .ok (.out []) ∧ ∀ l r : BT, l.isNil = (decide (lf = -1)) → r.isNil = decide (rg = -1) → 1 ≤ x ∧ x ≤ 9 → lf = l.ptr (s + 1) → rg = r.ptr (s + 1 + l.size) → ¬ s + 1 + l.size + r.size = e) ∨
    ∃ c : Nat, s < c ∧ c ≤ e ∧ (1 ≤ x ∧ x ≤ 9) ∧ (lf = -1 ∧ c = s + 1 ∨ lf = ((s + 1 : Nat) : Int) ∧ s + 1 < c) ∧ (rg = -1 ∧ c = e ∨ rg = (c : Int) ∧ c < e) ∧
      cutF ts (d ++ List.replicate (ts.length - s) 0, P ++ [((s : Int), (e : Int))]) = .ok (.nxt (d ++ [(c : Int)] ++ List.replicate (ts.length - (s + 1)) 0, (P ++ if rg = -1 then [] else [((c : Int), (e : Int))]) ++ if lf = -1 then [] else [(((s + 1 : Nat) : Int), (c : Int))])) := by
  have h0 : ∀ (F : T3 Int Int Int → Out (Ctl (List Int × List (Int × Int)) (List Int))), (item ts (s : Int)).bind F = F ⟨x, lf, rg⟩ := fun F => by rw [item_at ht, bnd_ok]
  unfold cutF
  dsimp only
  rw [popL_ok, bnd_ok, h0]
  dsimp only
  have hcut : (if (!decide (rg = -1)) = true then Out.ok rg else Out.ok (e : Int)) = Out.ok (if rg = -1 then (e : Int) else rg) := by
    by_cases h : rg = -1 <;> simp [h]
  rw [hcut, bnd_ok]
  generalize hcv : (if rg = -1 then (e : Int) else rg) = cv
  have hcv1 : rg = -1 → cv = e := fun h => by rw [← hcv, if_pos h]
  have hcv2 : rg ≠ -1 → cv = rg := fun h => by rw [← hcv, if_neg h]
  by_cases c1 : (1 ≤ x ∧ x ≤ 9) ∧ (s : Int) < cv ∧ cv ≤ e
  · have t1 : (if (!(decide (1 ≤ x) && decide (x ≤ 9))) = true then Out.ok true else Out.ok !(decide ((s : Int) < cv) && decide (cv ≤ (e : Int)))) = Out.ok false := by
      rw [decide_eq_true c1.1.1, decide_eq_true c1.1.2, decide_eq_true c1.2.1, decide_eq_true c1.2.2]
      rfl
    rw [t1, bnd_ok, if_neg Bool.false_ne_true]
    by_cases c2 : (rg ≠ -1 ∧ cv = e) ∨ (lf = -1 ∧ cv ≠ (s : Int) + 1)
    · have t2 : ((if (!decide (rg = -1)) = true then Out.ok (decide (cv = (e : Int))) else Out.ok false).bind fun x => (if x = true then Out.ok true else if decide (lf = -1) = true then Out.ok !decide (cv = (s : Int) + 1) else Out.ok false)) = Out.ok true := by
        by_cases g1 : rg = -1
        · rcases c2 with c2 | c2
          · exact absurd g1 c2.1
          · rw [decide_eq_true g1, Bool.not_true, if_neg Bool.false_ne_true, bnd_ok, if_neg Bool.false_ne_true, decide_eq_true c2.1, if_pos rfl, decide_eq_false c2.2]
            rfl
        · rw [decide_eq_false g1, Bool.not_false, if_pos rfl, bnd_ok]
          rcases c2 with c2 | c2
          · rw [decide_eq_true c2.2, if_pos rfl]
          · rw [decide_eq_true c2.1, if_pos rfl, decide_eq_false c2.2]
            split <;> rfl
      refine .inl ⟨?_, fun l r q1 q2 q3 q4 q5 q6 => ?_⟩
      · rw [← Out.bind_assoc, t2, bnd_ok, if_pos rfl]
      · rcases c2 with c2 | c2
        · have rn : r.isNil = false := by rw [q2]; exact decide_eq_false c2.1
          have := BT.ptr_node (k := s + 1 + l.size) rn
          have := BT.size_pos rn
          have := hcv2 c2.1
          omega
        · have ln : l.isNil = true := by rw [q1]; exact decide_eq_true c2.1
          have := BT.nil_of ln
          subst this
          have lz : (BT.nil).size = 0 := rfl
          by_cases g1 : rg = -1
          · have rn : r.isNil = true := by rw [q2]; exact decide_eq_true g1
            have := BT.nil_of rn
            subst this
            have := hcv1 g1
            omega
          · have rn : r.isNil = false := by rw [q2]; exact decide_eq_false g1
            have := BT.ptr_node (k := s + 1 + (BT.nil).size) rn
            have := hcv2 g1
            omega
    · have t2 : ((if (!decide (rg = -1)) = true then Out.ok (decide (cv = (e : Int))) else Out.ok false).bind fun x => (if x = true then Out.ok true else if decide (lf = -1) = true then Out.ok !decide (cv = (s : Int) + 1) else Out.ok false)) = Out.ok false := by
        have k1 : (if (!decide (rg = -1)) = true then Out.ok (decide (cv = (e : Int))) else Out.ok false) = Out.ok false := by
          by_cases g1 : rg = -1
          · rw [decide_eq_true g1, Bool.not_true, if_neg Bool.false_ne_true]
          · rw [decide_eq_false g1, Bool.not_false, if_pos rfl, decide_eq_false (fun z => c2 (.inl ⟨g1, z⟩))]
        rw [k1, bnd_ok, if_neg Bool.false_ne_true]
        by_cases g2 : lf = -1
        · rw [decide_eq_true g2, if_pos rfl, decide_eq_true (show cv = (s : Int) + 1 by
            by_cases z : cv = (s : Int) + 1
            · exact z
            · exact absurd (.inr ⟨g2, z⟩) c2)]
          rfl
        · rw [decide_eq_false g2, if_neg Bool.false_ne_true]
      rw [← Out.bind_assoc, t2, bnd_ok, if_neg Bool.false_ne_true]
      by_cases c3 : lf ≠ -1 ∧ (lf ≠ (s : Int) + 1 ∨ cv = lf)
      · have t3 : (if (!decide (lf = -1)) = true then if (!decide (lf = (s : Int) + 1)) = true then Out.ok true else Out.ok (decide (cv = lf)) else Out.ok false) = Out.ok true := by
          rw [decide_eq_false c3.1, Bool.not_false, if_pos rfl]
          by_cases g : lf = (s : Int) + 1
          · rw [decide_eq_true g, Bool.not_true, if_neg Bool.false_ne_true]
            rcases c3.2 with h | h
            · exact absurd g h
            · rw [decide_eq_true h]
          · rw [decide_eq_false g, Bool.not_false, if_pos rfl]
        refine .inl ⟨by rw [t3, bnd_ok, if_pos rfl], fun l r q1 q2 q3 q4 q5 q6 => ?_⟩
        have ln : l.isNil = false := by rw [q1]; exact decide_eq_false c3.1
        have e1 := BT.ptr_node (k := s + 1) ln
        have e2 := BT.size_pos ln
        by_cases g1 : rg = -1
        · have rn : r.isNil = true := by rw [q2]; exact decide_eq_true g1
          have := BT.nil_of rn
          subst this
          have := hcv1 g1
          have rz : (BT.nil).size = 0 := rfl
          omega
        · have rn : r.isNil = false := by rw [q2]; exact decide_eq_false g1
          have := BT.ptr_node (k := s + 1 + l.size) rn
          have := hcv2 g1
          omega
      · have t3 : (if (!decide (lf = -1)) = true then if (!decide (lf = (s : Int) + 1)) = true then Out.ok true else Out.ok (decide (cv = lf)) else Out.ok false) = Out.ok false := by
          by_cases g : lf = -1
          · rw [decide_eq_true g, Bool.not_true, if_neg Bool.false_ne_true]
          · have g2 : lf = (s : Int) + 1 := by
              by_cases z : lf = (s : Int) + 1
              · exact z
              · exact absurd ⟨g, .inl z⟩ c3
            rw [decide_eq_false g, Bool.not_false, if_pos rfl, decide_eq_true g2, Bool.not_true, if_neg Bool.false_ne_true, decide_eq_false (fun z => c3 ⟨g, .inr z⟩)]
        obtain ⟨c, rfl⟩ : ∃ c : Nat, cv = (c : Int) := ⟨cv.toNat, by omega⟩
        have hl0 : lf = -1 ∧ c = s + 1 ∨ lf = ((s + 1 : Nat) : Int) ∧ s + 1 < c := by
          by_cases g : lf = -1
          · refine .inl ⟨g, ?_⟩
            by_cases z : (c : Int) = (s : Int) + 1
            · omega
            · exact absurd (.inr ⟨g, z⟩) c2
          · have g2 : lf = (s : Int) + 1 := by
              by_cases z : lf = (s : Int) + 1
              · exact z
              · exact absurd ⟨g, .inl z⟩ c3
            have g3 : ¬ (c : Int) = lf := fun z => c3 ⟨g, .inr z⟩
            exact .inr ⟨by omega, by omega⟩
        have hr0 : rg = -1 ∧ c = e ∨ rg = (c : Int) ∧ c < e := by
          by_cases g : rg = -1
          · exact .inl ⟨g, by have := hcv1 g; omega⟩
          · have g2 : ¬ (c : Int) = e := fun z => c2 (.inl ⟨g, z⟩)
            exact .inr ⟨(hcv2 g).symm, by omega⟩
        refine .inr ⟨c, by omega, by omega, c1.1, hl0, hr0, ?_⟩
        rw [t3, bnd_ok, if_neg Bool.false_ne_true, setAt_ok (by rw [List.length_append, List.length_replicate]; omega), bnd_ok, ← hd, set_done (by omega), hd, Nat.sub_sub]
        have hp : (if (!decide (rg = -1)) = true then (appL P (rg, (e : Int))).bind fun p => Out.ok p else Out.ok P) = Out.ok (P ++ if rg = -1 then [] else [((c : Int), (e : Int))]) := by
          rcases hr0 with ⟨g, _⟩ | ⟨g, _⟩
          · rw [decide_eq_true g, if_pos g, Bool.not_true, if_neg Bool.false_ne_true, List.append_nil]
          · have g2 : ¬ rg = -1 := by omega
            rw [decide_eq_false g2, if_neg g2, Bool.not_false, if_pos rfl, appL_ok (by omega), bnd_ok, g]
        rw [hp, bnd_ok]
        have hpl : (P ++ if rg = -1 then [] else [((c : Int), (e : Int))]).length ≤ s + 1 := by
          rw [List.length_append]
          split <;> simp <;> omega
        rcases hl0 with ⟨g, _⟩ | ⟨g, _⟩
        · rw [decide_eq_true g, if_pos g, Bool.not_true, if_neg Bool.false_ne_true, List.append_nil]
        · have g2 : ¬ lf = -1 := by omega
          rw [decide_eq_false g2, if_neg g2, Bool.not_false, if_pos rfl, appL_ok (by omega), bnd_ok, g]
  · have t1 : (if (!(decide (1 ≤ x) && decide (x ≤ 9))) = true then Out.ok true else Out.ok !(decide ((s : Int) < cv) && decide (cv ≤ (e : Int)))) = Out.ok true := by
      by_cases g1 : 1 ≤ x ∧ x ≤ 9
      · rw [decide_eq_true g1.1, decide_eq_true g1.2, Bool.and_self, Bool.not_true, if_neg Bool.false_ne_true]
        by_cases g2 : (s : Int) < cv
        · rw [decide_eq_true g2, decide_eq_false (fun z => c1 ⟨g1, g2, z⟩)]; rfl
        · rw [decide_eq_false g2]; rfl
      · have : (decide (1 ≤ x) && decide (x ≤ 9)) = false := by
          rw [← Bool.not_eq_true, Bool.and_eq_true, decide_eq_true_iff, decide_eq_true_iff]
          exact g1
        rw [this]; rfl
    refine .inl ⟨by rw [t1, bnd_ok, if_pos rfl], fun l r q1 q2 q3 q4 q5 q6 => c1 ⟨q3, ?_⟩⟩
    by_cases g1 : rg = -1
    · have := hcv1 g1
      omega
    · have rn : r.isNil = false := by rw [q2]; exact decide_eq_false g1
      have := BT.ptr_node (k := s + 1 + l.size) rn
      have := hcv2 g1
      omega

theorem isNil_of {ts : List (T3 Int Int Int)} {s : Nat} {x lf rg x' : Int} {l r : BT} (ht : ts[s]? = some ⟨x, lf, rg⟩) (h : Tri ts s (.node x' l r)) : x = x' ∧ lf = l.ptr (s + 1) ∧ rg = r.ptr (s + 1 + l.size) ∧ l.isNil = decide (lf = -1) ∧ r.isNil = decide (rg = -1) := by
  obtain ⟨z1, z2, z3⟩ := h
  rw [ht] at z1
  injection z1 with z1
  injection z1 with y1 y2 y3
  refine ⟨y1, y2, y3, ?_, ?_⟩
  · have a := BT.ptr_nil (t := l) (k := s + 1)
    rw [← y2] at a
    cases h : l.isNil
    · rw [h] at a
      exact (decide_eq_false fun z => absurd (a.mp z) (by decide)).symm
    · exact (decide_eq_true (a.mpr h)).symm
  · have a := BT.ptr_nil (t := r) (k := s + 1 + l.size)
    rw [← y3] at a
    cases h : r.isNil
    · rw [h] at a
      exact (decide_eq_false fun z => absurd (a.mp z) (by decide)).symm
    · exact (decide_eq_true (a.mpr h)).symm
theorem cut_run {ts : List (T3 Int Int Int)} (hN : ts.length < 4000000) (f : Int → List Int × List (Int × Int) → Out (Ctl (List Int × List (Int × Int)) (List Int))) (hf : ∀ x s, f x s = cutF ts s) : ∀ (k s e : Nat) (d : List Int) (P : List (Int × Int)) (xs : List Int), e - s ≤ k → s < e → e ≤ ts.length → d.length = s → P.length ≤ s → e - s ≤ xs.length →
    (forL f xs (d ++ List.replicate (ts.length - s) 0, P ++ [((s : Int), (e : Int))]) = .ok (.out []) ∧ ∀ t : BT, t.isNil = false → t.Ok → Tri ts s t → ¬ s + t.size = e) ∨
    ∃ t : BT, t.isNil = false ∧ t.Ok ∧ Tri ts s t ∧ s + t.size = e ∧ forL f xs (d ++ List.replicate (ts.length - s) 0, P ++ [((s : Int), (e : Int))]) = forL f (xs.drop t.size) (d ++ t.cuts s ++ List.replicate (ts.length - e) 0, P)
  | 0, s, e, d, P, xs, hk, hse, _, _, _, _ => absurd hk (by omega)
  | k + 1, s, e, d, P, [], hk, hse, _, _, _, hx => absurd hx (by simp; omega)
  | k + 1, s, e, d, P, y :: xs, hk, hse, he, hd, hP, hx => by
    have ht : ts[s]? = some ts[s] := List.getElem?_eq_getElem (by omega)
    generalize ts[s] = t at ht
    obtain ⟨x, lf, rg⟩ := t
    rw [List.length_cons] at hx
    rcases cut_turn hN hse he ht hd hP with ⟨c1, c2⟩ | ⟨c, c1, c2, c3, c4, c5, c6⟩
    · refine .inl ⟨forL_out (by rw [hf, c1]), fun t q1 q2 q3 q4 => ?_⟩
      cases t with
      | nil => nomatch q1
      | node x' l r =>
        obtain ⟨a1, a2, a3, a4, a5⟩ := isNil_of ht q3
        exact c2 l r a4 a5 (by rw [a1]; exact q2.1) a2 a3 (by rw [← q4]; show _ = s + (l.size + r.size + 1); omega)
    · rw [forL_nxt (by rw [hf, c6])]
      have hd1 : (d ++ [(c : Int)]).length = s + 1 := by simp [hd]
      have hpl : (P ++ if rg = -1 then [] else [((c : Int), (e : Int))]).length ≤ s + 1 := by
        rw [List.length_append]
        split <;> simp <;> omega
      have right : ∀ l : BT, l.Ok → lf = l.ptr (s + 1) → Tri ts (s + 1) l → s + 1 + l.size = c →
          (forL f (xs.drop l.size) (d ++ [(c : Int)] ++ l.cuts (s + 1) ++ List.replicate (ts.length - c) 0, P ++ if rg = -1 then [] else [((c : Int), (e : Int))]) = .ok (.out []) ∧ ∀ t : BT, t.isNil = false → t.Ok → Tri ts s t → ¬ s + t.size = e) ∨
          ∃ t : BT, t.isNil = false ∧ t.Ok ∧ Tri ts s t ∧ s + t.size = e ∧ forL f (xs.drop l.size) (d ++ [(c : Int)] ++ l.cuts (s + 1) ++ List.replicate (ts.length - c) 0, P ++ if rg = -1 then [] else [((c : Int), (e : Int))]) = forL f ((y :: xs).drop t.size) (d ++ t.cuts s ++ List.replicate (ts.length - e) 0, P) := fun l hlo hlp hlt hlc => by
        rcases c5 with ⟨g, g2⟩ | ⟨g, g2⟩
        · subst g2
          rw [if_pos g, List.append_nil]
          refine .inr ⟨.node x l .nil, rfl, ⟨c3, hlo, trivial⟩, ⟨by rw [ht, hlp, g]; rfl, hlt, trivial⟩, by show s + (l.size + 0 + 1) = c; omega, ?_⟩
          have e1 : (BT.node x l .nil).size = l.size + 1 := rfl
          have e2 : (BT.node x l .nil).cuts s = (c : Int) :: l.cuts (s + 1) := by
            show ((s + 1 + l.size : Nat) : Int) :: (l.cuts (s + 1) ++ []) = _
            rw [hlc, List.append_nil]
          rw [e1, e2, List.drop_succ_cons]
          simp
        · have g3 : ¬ rg = -1 := by omega
          rw [if_neg g3]
          have hd2 : (d ++ [(c : Int)] ++ l.cuts (s + 1)).length = c := by rw [List.length_append, hd1, BT.cuts_len]; omega
          rcases cut_run hN f hf k c e (d ++ [(c : Int)] ++ l.cuts (s + 1)) P (xs.drop l.size) (by omega) g2 he hd2 (by omega) (by rw [List.length_drop]; omega) with ⟨e1, e2⟩ | ⟨r, e1, e2, e3, e4, e5⟩
          · refine .inl ⟨e1, fun t q1 q2 q3 q4 => ?_⟩
            cases t with
            | nil => nomatch q1
            | node x' l' r' =>
              obtain ⟨a1, a2, a3, a4, a5⟩ := isNil_of ht q3
              have nr : r'.isNil = false := by rw [a5]; exact decide_eq_false g3
              have nl : l.isNil = l'.isNil := by
                rw [a4]
                have a := BT.ptr_nil (t := l) (k := s + 1)
                rw [← hlp] at a
                cases h : l.isNil
                · rw [h] at a
                  exact (decide_eq_false fun z => absurd (a.mp z) (by decide)).symm
                · exact (decide_eq_true (a.mpr h)).symm
              have el := Tri.uniq l l' (s + 1) nl hlt q3.2.1
              subst el
              have hz : s + 1 + l.size = c := hlc
              have q33 := q3.2.2
              rw [hz] at q33
              refine e2 r' nr q2.2.2 q33 ?_
              rw [← q4]
              show _ = s + (l.size + r'.size + 1)
              omega
          · refine .inr ⟨.node x l r, rfl, ⟨c3, hlo, e2⟩, ⟨by rw [ht, hlp, BT.ptr_node e1, g, hlc], hlt, by rw [hlc]; exact e3⟩, by show s + (l.size + r.size + 1) = e; omega, ?_⟩
            rw [e5, List.drop_drop]
            have z1 : (BT.node x l r).size = (l.size + r.size) + 1 := rfl
            have z2 : (BT.node x l r).cuts s = (c : Int) :: (l.cuts (s + 1) ++ r.cuts c) := by
              show ((s + 1 + l.size : Nat) : Int) :: (l.cuts (s + 1) ++ r.cuts (s + 1 + l.size)) = _
              rw [hlc]
            rw [z1, z2, List.drop_succ_cons]
            simp
      rcases c4 with ⟨g, g2⟩ | ⟨g, g2⟩
      · rw [if_pos g, List.append_nil]
        have := right .nil trivial g trivial (by show s + 1 + 0 = c; omega)
        rw [show (BT.nil).cuts (s + 1) = [] from rfl, List.append_nil, show (BT.nil).size = 0 from rfl, List.drop_zero, g2] at this
        rw [g2]
        exact this
      · have g3 : ¬ lf = -1 := by omega
        rw [if_neg g3]
        rcases cut_run hN f hf k (s + 1) c (d ++ [(c : Int)]) _ xs (by omega) g2 (by omega) hd1 hpl (by omega) with ⟨e1, e2⟩ | ⟨l, e1, e2, e3, e4, e5⟩
        · refine .inl ⟨e1, fun t q1 q2 q3 q4 => ?_⟩
          cases t with
          | nil => nomatch q1
          | node x' l' r' =>
            obtain ⟨a1, a2, a3, a4, a5⟩ := isNil_of ht q3
            have nl : l'.isNil = false := by rw [a4]; exact decide_eq_false g3
            refine e2 l' nl q2.2.1 q3.2.1 ?_
            have q4' : s + (l'.size + r'.size + 1) = e := q4
            rcases c5 with ⟨g4, g5⟩ | ⟨g4, g5⟩
            · have rn : r'.isNil = true := by rw [a5]; exact decide_eq_true g4
              have := BT.nil_of rn
              subst this
              have rz : (BT.nil).size = 0 := rfl
              omega
            · have rn : r'.isNil = false := by rw [a5]; exact decide_eq_false (by omega)
              have := BT.ptr_node (k := s + 1 + l'.size) rn
              omega
        · rw [e5]
          exact right l e2 (by rw [g, BT.ptr_node e1]) e3 e4
theorem cuts_is {ts : List (T3 Int Int Int)} (hN : ts.length < 4000000) : (m__law_cuts ts = .ok [] ∧ 0 < ts.length ∧ ¬ ∃ t : BT, t.Ok ∧ Tri ts 0 t ∧ t.size = ts.length) ∨ ∃ t : BT, t.Ok ∧ Tri ts 0 t ∧ t.size = ts.length ∧ m__law_cuts ts = .ok (t.cuts 0) := by
  have e : m__law_cuts ts = (lcL (fun _ => Out.ok true) (fun _ => Out.ok (0 : Int)) ts []).bind fun c => (chk (rngOk (ts.length : Int)) (rangeI 0 (ts.length : Int).toNat)).bind fun xs => (forL (fun (_ : Int) s => cutF ts s) xs (c, [((0 : Int), (ts.length : Int))])).bind (Aft.go fun s => Out.ok s.1) := by
    unfold m__law_cuts cutF
    simp only [Out.bind_assoc, bnd_ok]
  rw [e, lcL_map ts [] (by simp; omega), bnd_ok, rng0 (by omega), bnd_ok, List.nil_append, List.map_const']
  by_cases h0 : ts.length = 0
  · refine .inr ⟨.nil, trivial, trivial, h0.symm, ?_⟩
    rw [h0]
    rfl
  · have := cut_run hN (fun (_ : Int) s => cutF ts s) (fun _ _ => rfl) ts.length 0 ts.length [] [] (rangeI 0 ts.length) (by omega) (by omega) (Nat.le_refl _) rfl (Nat.le_refl _) (by rw [rangeI_len]; omega)
    rw [List.nil_append, List.nil_append, Nat.sub_zero, show ((0 : Nat) : Int) = 0 from rfl] at this
    rcases this with ⟨e1, e2⟩ | ⟨t, e1, e2, e3, e4, e5⟩
    · rw [e1, bnd_ok, go_out]
      refine .inl ⟨rfl, by omega, fun ⟨t, q1, q2, q3⟩ => e2 t ?_ q1 q2 (by omega)⟩
      cases t with
      | nil => exact absurd q3.symm h0
      | node _ _ _ => rfl
    · rw [e5, List.drop_eq_nil_of_le (by rw [rangeI_len]; omega), forL_nil, bnd_ok, go_fin]
      refine .inr ⟨t, e2, e3, by omega, ?_⟩
      dsimp only
      rw [Nat.sub_self, List.nil_append]
      simp
/-! ### the row from the cuts -/
def cI (cs : List Int) (k : Nat) : Nat := cs.countP fun z => decide (z = (k : Int))
theorem cI_no {cs : List Int} {k : Nat} (h : ∀ c ∈ cs, c ≠ (k : Int)) : cI cs k = 0 := by
  unfold cI
  rw [List.countP_eq_zero]
  intro c hc
  rw [decide_eq_true_iff]
  exact h c hc
theorem cI_node {x : Int} {l r : BT} {s k : Nat} : cI ((BT.node x l r).cuts s) k = (if s + 1 + l.size = k then 1 else 0) + cI (l.cuts (s + 1)) k + cI (r.cuts (s + 1 + l.size)) k := by
  unfold cI
  rw [show (BT.node x l r).cuts s = ((s + 1 + l.size : Nat) : Int) :: (l.cuts (s + 1) ++ r.cuts (s + 1 + l.size)) from rfl, List.countP_cons, List.countP_append]
  have : (decide (((s + 1 + l.size : Nat) : Int) = (k : Int))) = decide (s + 1 + l.size = k) := by
    by_cases h : s + 1 + l.size = k
    · rw [decide_eq_true h, decide_eq_true (by omega)]
    · rw [decide_eq_false h, decide_eq_false (by omega)]
  rw [this]
  by_cases h : s + 1 + l.size = k <;> simp [h] <;> omega
theorem cr_run {ω : Type} {ts : List (T3 Int Int Int)} {g : Nat → Nat} (f : Int → List Int → Out (Ctl (List Int) ω)) (hf : ∀ (k : Nat) (acc : List Int) (t : T3 Int Int Int), ts[k]? = some t → acc.length + g k + 1 < 16000000 → f (k : Int) acc = .ok (.nxt (acc ++ List.replicate (g k) 0 ++ [t.a]))) :
    ∀ (t : BT) (s : Nat) (acc : List Int) (m : Nat), t.isNil = false → Tri ts s t → (∀ k, s < k → k < s + t.size → g k = cI (t.cuts s) k) → acc.length + g s + 2 * t.size < 16000000 →
      ∃ Y : List Int, Y ++ List.replicate (cI (t.cuts s) (s + t.size)) 0 = t.row ∧ forL f (rangeI s (t.size + m)) acc = forL f (rangeI ((s + t.size : Nat) : Int) m) (acc ++ List.replicate (g s) 0 ++ Y)
  | .nil, _, _, _, h, _, _, _ => nomatch h
  | .node x l r, s, acc, m, _, ht, hg, hl => by
    obtain ⟨h1, h2, h3⟩ := ht
    have hl' : acc.length + g s + 2 * (l.size + r.size + 1) < 16000000 := hl
    have hg' : ∀ k, s < k → k < s + 1 + l.size + r.size → g k = (if s + 1 + l.size = k then 1 else 0) + cI (l.cuts (s + 1)) k + cI (r.cuts (s + 1 + l.size)) k := fun k a b => by
      rw [hg k a (by show k < s + (l.size + r.size + 1); omega), cI_node]
    have hlm := BT.cuts_mem l (s + 1)
    have hrm := BT.cuts_mem r (s + 1 + l.size)
    have hE : s + (BT.node x l r).size = s + 1 + l.size + r.size := by show s + (l.size + r.size + 1) = _; omega
    rw [hE]
    have es : (BT.node x l r).size + m = (l.size + (r.size + m)) + 1 := by show l.size + r.size + 1 + m = _; omega
    rw [es, rangeI_succ, forL_nxt (hf s acc _ h1 (by omega)), show (s : Int) + 1 = ((s + 1 : Nat) : Int) from rfl]
    -- the left part
    have left : ∃ Yl : List Int, Yl ++ List.replicate (cI (l.cuts (s + 1)) (s + 1 + l.size)) 0 = l.row ∧ forL f (rangeI ((s + 1 : Nat) : Int) (l.size + (r.size + m))) (acc ++ List.replicate (g s) 0 ++ [x]) = forL f (rangeI ((s + 1 + l.size : Nat) : Int) (r.size + m)) (acc ++ List.replicate (g s) 0 ++ [x] ++ Yl) := by
      cases hn : l.isNil
      · have lp := BT.size_pos hn
        have g1 : g (s + 1) = 0 := by
          rw [hg' (s + 1) (by omega) (by omega), if_neg (by omega), cI_no (fun c hc => by have := hlm c hc; omega), cI_no (fun c hc => by have := hrm c hc; omega)]
        obtain ⟨Y, y1, y2⟩ := cr_run f hf l (s + 1) (acc ++ List.replicate (g s) 0 ++ [x]) (r.size + m) hn h2 (fun k a b => by
          rw [hg' k (by omega) (by omega), if_neg (by omega), cI_no (cs := r.cuts (s + 1 + l.size)) (fun c hc => by have := hrm c hc; omega)]
          omega) (by simp; omega)
        rw [g1, List.replicate_zero, List.append_nil] at y2
        exact ⟨Y, y1, y2⟩
      · have := BT.nil_of hn
        subst this
        refine ⟨[], rfl, ?_⟩
        rw [List.append_nil, show (BT.nil).size = 0 from rfl, Nat.zero_add]
    obtain ⟨Yl, yl1, yl2⟩ := left
    have yll := congrArg List.length yl1
    rw [List.length_append, List.length_replicate, BT.row_len] at yll
    rw [yl2, cI_node]
    cases hn : r.isNil
    · have rp := BT.size_pos hn
      have g1 : g (s + 1 + l.size) = 1 + cI (l.cuts (s + 1)) (s + 1 + l.size) := by
        rw [hg' _ (by omega) (by omega), if_pos rfl, cI_no (cs := r.cuts (s + 1 + l.size)) (fun c hc => by have := hrm c hc; omega)]
        omega
      obtain ⟨Y, y1, y2⟩ := cr_run f hf r (s + 1 + l.size) (acc ++ List.replicate (g s) 0 ++ [x] ++ Yl) m hn h3 (fun k a b => by
        rw [hg' k (by omega) (by omega), if_neg (by omega), cI_no (cs := l.cuts (s + 1)) (fun c hc => by have := hlm c hc; omega)]
        omega) (by rw [g1]; simp; omega)
      refine ⟨x :: Yl ++ List.replicate (g (s + 1 + l.size)) 0 ++ Y, ?_, ?_⟩
      · rw [if_neg (by omega), cI_no (cs := l.cuts (s + 1)) (fun c hc => by have := hlm c hc; omega), Nat.zero_add, List.append_assoc, y1, g1, Nat.add_comm 1, List.replicate_succ', ← List.append_assoc, List.cons_append, yl1]
        show _ = x :: (l.row ++ 0 :: r.row)
        simp
      · rw [y2]
        congr 1
        simp
    · have := BT.nil_of hn
      subst this
      have rz : (BT.nil).size = 0 := rfl
      refine ⟨x :: Yl, ?_, ?_⟩
      · rw [rz]
        simp only [Nat.add_zero]
        rw [if_pos trivial, show (BT.nil).cuts (s + 1 + l.size) = [] from rfl, show cI [] (s + 1 + l.size) = 0 from rfl, Nat.add_zero, Nat.add_comm 1, List.replicate_succ', ← List.append_assoc, List.cons_append, yl1]
        show _ = x :: (l.row ++ 0 :: [])
        simp
      · rw [rz, Nat.zero_add, Nat.add_zero]
        congr 1
        simp

/-! ### the law on one list of triples -/
theorem due_bin {ts : List (T3 Int Int Int)} (hN : ts.length < 4000000) : (m__law_binary_due ts = .ok ⟨"BadBinary", none⟩ ∧ ¬ ∃ t : BT, t.Ok ∧ Tri ts 0 t ∧ t.size = ts.length) ∨ ∃ t : BT, t.Ok ∧ Tri ts 0 t ∧ t.size = ts.length ∧ m__law_binary_due ts = .ok ⟨"told", some (.l t.row)⟩ := by
  unfold m__law_binary_due
  simp only [Out.bind_assoc, bnd_ok]
  rcases cuts_is hN with ⟨e1, e2, e3⟩ | ⟨t, e1, e2, e3, e4⟩
  · rw [e1, bnd_ok, decide_eq_false (by simp; omega), Bool.not_false, if_pos rfl]
    exact .inl ⟨rfl, e3⟩
  · refine .inr ⟨t, e1, e2, e3, ?_⟩
    rw [e4, bnd_ok, decide_eq_true (by rw [BT.cuts_len, e3]), Bool.not_true, if_neg Bool.false_ne_true, rng0 (by omega), bnd_ok]
    have hc : ∀ k : Nat, List.countP (fun z => decide (z = (k : Int))) (t.cuts 0) = cI (t.cuts 0) k := fun _ => rfl
    have hcl : ∀ k : Nat, cI (t.cuts 0) k ≤ ts.length := fun k => by
      have := List.countP_le_length (p := fun z => decide (z = (k : Int))) (l := t.cuts 0)
      rw [BT.cuts_len, e3] at this
      exact this
    have hrep : ∀ k : Nat, chk (repOk [(0 : Int)].length ((cI (t.cuts 0) k : Nat) : Int)) (List.replicate (((cI (t.cuts 0) k : Nat) : Int)).toNat [(0 : Int)]).flatten = .ok (List.replicate (cI (t.cuts 0) k) 0) := fun k => by
      have := hcl k
      rw [Int.toNat_natCast, flat_one, chk_pos (show repOk [(0 : Int)].length _ from ⟨by omega, by omega, by rw [Int.toNat_natCast]; show 1 * _ ≤ 16777216; omega⟩)]
    cases hn : t.isNil
    · have key := fun f hf => cr_run (ω := Vt) (ts := ts) (g := cI (t.cuts 0)) f hf t 0 [] 0 hn e2 (fun k _ _ => rfl) (by have := hcl 0; simp; omega)
      have g0 : cI (t.cuts 0) 0 = 0 := cI_no (fun c hc => by have := BT.cuts_mem t 0 c hc; omega)
      have key2 : ∀ f : Int → List Int → Out (Ctl (List Int) Vt), (∀ (k : Nat) (acc : List Int) (t_1 : T3 Int Int Int), ts[k]? = some t_1 → acc.length + cI (t.cuts 0) k + 1 < 16000000 → f (k : Int) acc = .ok (.nxt (acc ++ List.replicate (cI (t.cuts 0) k) 0 ++ [t_1.a]))) → ∃ Y : List Int, Y ++ List.replicate (cI (t.cuts 0) ts.length) 0 = t.row ∧ forL f (rangeI 0 ts.length) [] = .ok (.fin Y) := fun f hf => by
        obtain ⟨Y, y1, y2⟩ := key f hf
        rw [g0, Nat.add_zero, Nat.zero_add, e3] at y2
        rw [Nat.zero_add, e3] at y1
        exact ⟨Y, y1, y2⟩
      obtain ⟨Y, y1, y2⟩ := key2 (fun x_18 s_17 => (chk (repOk [(0 : Int)].length ↑(List.countP (fun z => decide (z = x_18)) (t.cuts 0))) (List.replicate (↑(List.countP (fun z => decide (z = x_18)) (t.cuts 0)) : Int).toNat [(0 : Int)]).flatten).bind fun x => (chk (lenOk (s_17.length + x.length)) (s_17 ++ x)).bind fun x => (item ts x_18).bind fun x_1 => (chk (lenOk (x.length + [x_1.a].length)) (x ++ [x_1.a])).bind fun row_36 => Out.ok (Ctl.nxt row_36)) (fun k acc t1 h1 h2 => by
        rw [hc, hrep, bnd_ok, chk_pos (show lenOk _ by unfold lenOk; rw [List.length_replicate]; omega), bnd_ok, item_at h1, bnd_ok, chk_pos (show lenOk _ by unfold lenOk; rw [List.length_append, List.length_replicate, len1]; omega), bnd_ok])
      have yl := congrArg List.length y1
      rw [List.length_append, List.length_replicate, BT.row_len] at yl
      rw [y2, bnd_ok, go_fin, hc, hrep, bnd_ok, chk_pos (show lenOk _ by unfold lenOk; rw [List.length_replicate]; omega), bnd_ok, y1]
    · have := BT.nil_of hn
      subst this
      have e3' : ts.length = 0 := e3.symm
      rw [e3']
      rfl
theorem told1_ok {ts : List (T3 Int Int Int)} {r : List Int} (h : m_row_of_binary ts = .ok r) : m__law_told 1 (.t ts) = .ok ⟨"told", some (.l r)⟩ := by
  unfold m__law_told
  simp only [Out.bind_assoc, bnd_ok]
  have : (Hd.t ts).toT = .ok ts := rfl
  rw [decide_eq_false (by decide), if_neg Bool.false_ne_true, this, bnd_ok, h, bnd_ok, tryE_okE, bnd_ok]
  rfl
theorem told1_err {ts : List (T3 Int Int Int)} (h : m_row_of_binary ts = .err bberr) : m__law_told 1 (.t ts) = .ok ⟨"BadBinary", none⟩ := by
  unfold m__law_told
  simp only [Out.bind_assoc, bnd_ok]
  have : (Hd.t ts).toT = .ok ts := rfl
  rw [decide_eq_false (by decide), if_neg Bool.false_ne_true, this, bnd_ok, h, bnd_err, tryE_errE (e := bberr) (a := (Sum.inr (Vt.mk "BadBinary" none) : Vt ⊕ Vt)) rfl rfl, bnd_ok]
  rfl
theorem bin_right {ts : List (T3 Int Int Int)} (hN : ts.length < 1000000) : m__law_binary_right ts = .ok true := by
  unfold m__law_binary_right
  simp only [Out.bind_assoc, bnd_ok]
  rcases due_bin (ts := ts) (by omega) with ⟨d1, d2⟩ | ⟨t, d1, d2, d3, d4⟩
  · rcases bin_is (ts := ts) (by omega) with ⟨b1, b2⟩ | ⟨t', b1, b2, b3, b4⟩
    · rw [d1, bnd_ok, told1_err b1, bnd_ok]
      dsimp only
      rw [decide_eq_true rfl, e0t, table_self (by omega), bnd_ok, Bool.not_true, bnd_ok, if_neg Bool.false_ne_true, decide_eq_false (by decide), if_neg Bool.false_ne_true]
      rfl
    · exact absurd ⟨t', b1, b2, b3⟩ d2
  · rcases bin_is (ts := ts) (by omega) with ⟨b1, b2⟩ | ⟨t', b1, b2, b3, b4⟩
    · exact absurd ⟨t, d1, d2, d3⟩ b2
    · have et : t' = t := Tri.uniq t' t 0 (by
        cases h : t'.isNil <;> cases h' : t.isNil
        · rfl
        · rw [BT.nil_of h'] at d3
          have := BT.size_pos h
          have : (BT.nil).size = 0 := rfl
          omega
        · rw [BT.nil_of h] at b3
          have := BT.size_pos h'
          have : (BT.nil).size = 0 := rfl
          omega
        · rfl) b2 d2
      subst et
      have hrl : t'.row.length = 2 * t'.size := t'.row_len
      rw [d4, bnd_ok, told1_ok b4, bnd_ok]
      dsimp only
      rw [decide_eq_true rfl, e0t, table_self (by omega), bnd_ok, Bool.not_true, bnd_ok, if_neg Bool.false_ne_true, if_pos (by rfl)]
      have e1 : Vt.toL ⟨"told", some (.l t'.row)⟩ = .ok t'.row := rfl
      rw [e1, bnd_ok, bnd_ok, row_self (by omega), bnd_ok, if_pos rfl, bnd_ok, row_right (by omega), bnd_ok]

theorem nts_snoc (x : Nat) (xs : List Nat) : nts (x :: xs).reverse = nts xs.reverse ++ [(x : Int)] := by
  unfold nts
  rw [List.reverse_cons, List.map_append]
  rfl
theorem nts_length {l : List Nat} : (nts l.reverse).length = l.length := by
  unfold nts
  rw [List.length_map, List.length_reverse]
def dw (u : Int) (s : List Nat) : List Nat := s.dropWhile fun x => decide (u < (x : Int))
theorem dw_nil (u : Int) : dw u [] = [] := rfl
theorem dw_gt {u : Int} {x : Nat} {s : List Nat} (h : u < (x : Int)) : dw u (x :: s) = dw u s := by
  unfold dw
  rw [List.dropWhile_cons, decide_eq_true h, if_pos rfl]
theorem dw_le {u : Int} {x : Nat} {s : List Nat} (h : ¬ u < (x : Int)) : dw u (x :: s) = x :: s := by
  unfold dw
  rw [List.dropWhile_cons, decide_eq_false h, if_neg Bool.false_ne_true]
theorem dw_suffix (u : Int) (s : List Nat) : dw u s <:+ s := List.dropWhile_suffix _
theorem dw_head {u : Int} : ∀ {s : List Nat} {x : Nat} {r : List Nat}, dw u s = x :: r → ¬ u < (x : Int)
  | [], _, _, h => nomatch h
  | y :: s, x, r, h => by
    by_cases hy : u < (y : Int)
    · rw [dw_gt hy] at h
      exact dw_head h
    · rw [dw_le hy] at h
      cases h
      exact hy
theorem dw_mem : ∀ {a : List Nat} {x : Nat} {r : List Nat}, (a ++ x :: r).Pairwise (· > ·) → dw (x : Int) (a ++ x :: r) = x :: r
  | [], x, r, _ => dw_le (by omega)
  | y :: a, x, r, h => by
    obtain ⟨h1, h2⟩ := List.pairwise_cons.mp h
    have : y > x := h1 x (by simp)
    show dw (x : Int) (y :: (a ++ x :: r)) = _
    rw [dw_gt (by omega)]
    exact dw_mem h2
def upk (ps : List (Int × Int)) (k : Nat) : Int := (ps.getD k (0, 0)).1
def lbk (ps : List (Int × Int)) (k : Nat) : Int := (ps.getD k (0, 0)).2
def Sk (ps : List (Int × Int)) : Nat → List Nat
  | 0 => []
  | k + 1 => k :: dw (upk ps k) (Sk ps k)
theorem Sk_desc (ps : List (Int × Int)) : ∀ k, (Sk ps k).Pairwise (· > ·) ∧ ∀ x ∈ Sk ps k, x < k
  | 0 => ⟨List.Pairwise.nil, fun _ h => nomatch h⟩
  | k + 1 => by
    obtain ⟨h1, h2⟩ := Sk_desc ps k
    have sf := dw_suffix (upk ps k) (Sk ps k)
    refine ⟨List.pairwise_cons.mpr ⟨fun x hx => h2 x (sf.subset hx), h1.sublist sf.sublist⟩, fun x hx => ?_⟩
    rcases List.mem_cons.mp hx with e | e
    · omega
    · have := h2 x (sf.subset e)
      omega
theorem Sk_len (ps : List (Int × Int)) : ∀ k, (Sk ps k).length ≤ k
  | 0 => Nat.le_refl _
  | k + 1 => by
    have h := (dw_suffix (upk ps k) (Sk ps k)).length_le
    have := Sk_len ps k
    show (dw (upk ps k) (Sk ps k)).length + 1 ≤ k + 1
    omega
theorem pair_at {ps : List (Int × Int)} {k : Nat} (h : k < ps.length) : ps[k]? = some (upk ps k, lbk ps k) := by
  unfold upk lbk
  rw [List.getD_eq_getElem?_getD, List.getElem?_eq_getElem h]
  rfl
def zk (ps : List (Int × Int)) (k : Nat) : Nat := (Sk ps k).length - (dw (upk ps k) (Sk ps k)).length
def Rk (ps : List (Int × Int)) : Nat → List Int
  | 0 => []
  | k + 1 => Rk ps k ++ List.replicate (zk ps k) 0 ++ [lbk ps k]
def Rw (ps : List (Int × Int)) : List Int := Rk ps ps.length ++ List.replicate (Sk ps ps.length).length 0
theorem Rk_len (ps : List (Int × Int)) : ∀ k, (Rk ps k).length + (Sk ps k).length = 2 * k
  | 0 => rfl
  | k + 1 => by
    have ih := Rk_len ps k
    have h := (dw_suffix (upk ps k) (Sk ps k)).length_le
    show (Rk ps k ++ List.replicate (zk ps k) 0 ++ [lbk ps k]).length + (dw (upk ps k) (Sk ps k)).length.succ = _
    rw [List.length_append, List.length_append, List.length_replicate]
    unfold zk
    simp
    omega
def dp (ps : List (Int × Int)) (k : Nat) : Nat := (dw (upk ps k) (Sk ps k)).length
theorem dp_suffix {ps : List (Int × Int)} : ∀ (k : Nat) (x : Nat) (xs : List Nat), (x :: xs) <:+ Sk ps k → dp ps x = xs.length
  | 0, x, xs, h => by
    have := h.length_le
    simp [Sk] at this
  | k + 1, x, xs, h => by
    rcases List.suffix_cons_iff.mp (show (x :: xs) <:+ k :: dw (upk ps k) (Sk ps k) from h) with e | e
    · injection e with e1 e2
      subst e1 e2
      rfl
    · exact dp_suffix k x xs (e.trans (dw_suffix _ _))
def D63 (d : List Int) : Prop := d.length = 340 ∧ ∀ x ∈ d, 0 ≤ x ∧ x < 63
theorem dig {d : List Int} (hd : D63 d) {i : Int} (h0 : 0 ≤ i) (h1 : i < 340) : Is (item d i) fun x => 0 ≤ x ∧ x < 63 := Is.item h0 (by rw [hd.1]; omega) fun x hx _ => hd.2 x hx
theorem upk_app {ps : List (Int × Int)} {p : Int × Int} {k : Nat} (h : k < ps.length) : upk (ps ++ [p]) k = upk ps k ∧ lbk (ps ++ [p]) k = lbk ps k := by
  unfold upk lbk
  rw [List.getD_eq_getElem?_getD, List.getD_eq_getElem?_getD, List.getElem?_append_left h]
  exact ⟨rfl, rfl⟩
theorem Sk_app {ps : List (Int × Int)} {p : Int × Int} : ∀ k, k ≤ ps.length → Sk (ps ++ [p]) k = Sk ps k
  | 0, _ => rfl
  | k + 1, h => by
    show k :: dw (upk (ps ++ [p]) k) (Sk (ps ++ [p]) k) = k :: dw (upk ps k) (Sk ps k)
    rw [(upk_app (by omega)).1, Sk_app k (by omega)]
theorem at_app {ps : List (Int × Int)} {p : Int × Int} : upk (ps ++ [p]) ps.length = p.1 ∧ lbk (ps ++ [p]) ps.length = p.2 := by
  unfold upk lbk
  rw [List.getD_eq_getElem?_getD]
  simp
theorem cut_path {s : List Nat} {m : Nat} (h1 : 1 ≤ m) (h2 : m ≤ s.length) (hs : s.Pairwise (· > ·)) : ∃ u r, (nts s.reverse).take m = nts (u :: r).reverse ∧ dw (u : Int) s = u :: r := by
  have hlen : 0 < (s.drop (s.length - m)).length := by rw [List.length_drop]; omega
  cases hd : s.drop (s.length - m) with
  | nil => rw [hd] at hlen; exact absurd hlen (by decide)
  | cons u r =>
    have e := List.take_append_drop (s.length - m) s
    rw [hd] at e
    refine ⟨u, r, ?_, ?_⟩
    · unfold nts
      rw [← List.map_take, ← hd, List.reverse_drop]
      congr 2
      omega
    · have := dw_mem (a := s.take (s.length - m)) (x := u) (r := r) (by rw [e]; exact hs)
      rw [e] at this
      exact this
def topI (sk : List Nat) : Int := match sk with
  | [] => -1
  | u :: _ => (u : Int)
def stepG (s : List (Int × Int) × List Nat) (x : Int) : List (Int × Int) × List Nat := if 0 < x then (s.1 ++ [(topI s.2, x)], s.1.length :: s.2) else (s.1, s.2.tail)
theorem fold_zeros (ps : List (Int × Int)) : ∀ (n : Nat) (sk : List Nat), (List.replicate n 0).foldl stepG (ps, sk) = (ps, sk.drop n)
  | 0, _ => rfl
  | n + 1, sk => by
    rw [List.replicate_succ, List.foldl_cons]
    show (List.replicate n 0).foldl stepG (ps, sk.tail) = _
    rw [fold_zeros ps n, List.drop_tail]
theorem drop_zk {ps : List (Int × Int)} {k : Nat} : (Sk ps k).drop (zk ps k) = dw (upk ps k) (Sk ps k) := by
  obtain ⟨t, ht⟩ := dw_suffix (upk ps k) (Sk ps k)
  have hl := congrArg List.length ht
  rw [List.length_append] at hl
  have : zk ps k = t.length := by unfold zk; omega
  rw [this]
  conv => lhs; rw [← ht]
  rw [List.drop_left]
theorem Rk_pre {ps : List (Int × Int)} : ∀ m k, k ≤ m → ∃ t, Rk ps m = Rk ps k ++ t
  | 0, k, h => ⟨[], by rw [show k = 0 by omega]; rfl⟩
  | m + 1, k, h => by
    by_cases e : k = m + 1
    · exact ⟨[], by rw [e, List.append_nil]⟩
    · obtain ⟨t, ht⟩ := Rk_pre (ps := ps) m k (by omega)
      exact ⟨t ++ (List.replicate (zk ps m) 0 ++ [lbk ps m]), by
        show Rk ps m ++ List.replicate (zk ps m) 0 ++ [lbk ps m] = _
        rw [ht]
        simp⟩
theorem Rw_at {ps : List (Int × Int)} {k : Nat} (hk : k < ps.length) : (∀ j, j < zk ps k → (Rw ps).getD ((Rk ps k).length + j) 0 = 0) ∧ (Rw ps).getD ((Rk ps k).length + zk ps k) 0 = lbk ps k ∧ (Rk ps (k + 1)).length = (Rk ps k).length + zk ps k + 1 := by
  obtain ⟨t, ht⟩ := Rk_pre (ps := ps) ps.length (k + 1) (by omega)
  have e : Rw ps = Rk ps k ++ (List.replicate (zk ps k) 0 ++ (lbk ps k :: (t ++ List.replicate (Sk ps ps.length).length 0))) := by
    unfold Rw
    rw [ht]
    show Rk ps k ++ List.replicate (zk ps k) 0 ++ [lbk ps k] ++ t ++ _ = _
    simp
  refine ⟨fun j hj => ?_, ?_, ?_⟩
  · rw [e, List.getD_eq_getElem?_getD, List.getElem?_append_right (by omega), List.getElem?_append_left (by rw [List.length_replicate]; omega), List.getElem?_replicate, if_pos (by omega)]
    rfl
  · rw [e, List.getD_eq_getElem?_getD, List.getElem?_append_right (by omega), List.getElem?_append_right (by rw [List.length_replicate]; omega), List.length_replicate, Nat.add_sub_cancel_left, Nat.sub_self]
    rfl
  · show (Rk ps k ++ List.replicate (zk ps k) 0 ++ [lbk ps k]).length = _
    rw [List.length_append, List.length_append, List.length_replicate]
    rfl
theorem Rw_end {ps : List (Int × Int)} : ∀ j, j < (Sk ps ps.length).length → (Rw ps).getD ((Rk ps ps.length).length + j) 0 = 0 := fun j hj => by
  unfold Rw
  rw [List.getD_eq_getElem?_getD, List.getElem?_append_right (by omega), Nat.add_sub_cancel_left, List.getElem?_replicate, if_pos hj]
  rfl
/-! ### what is drawn -/
theorem dw_neg : ∀ {s : List Nat}, dw (-1) s = []
  | [] => rfl
  | x :: s => by rw [dw_gt (by omega), dw_neg]
structure FitF (ps : List (Int × Int)) (k : Nat) : Prop where
  up : upk ps k = -1 ∨ ∃ u r, dw (upk ps k) (Sk ps k) = u :: r ∧ upk ps k = (u : Int)
  lab : 1 ≤ lbk ps k ∧ lbk ps k ≤ 9
def ValF (ps : List (Int × Int)) (n : Nat) : Prop := ∀ k, k < n → FitF ps k
theorem depths_is {ps : List (Int × Int)} (hl : ps.length < 4000000) (hv : ValF ps ps.length) : m__law_depths ps = .ok ((List.range ps.length).map fun k => (dp ps k : Int)) := by
  suffices hh : Is (m__law_depths ps) fun r => r = (List.range ps.length).map fun k => (dp ps k : Int) by
    obtain ⟨r, e, q⟩ := hh
    rw [e, q]
  unfold m__law_depths
  simp only [Out.bind_assoc, bnd_ok]
  refine Is.for (fun i (s : List Int) => s = (List.range i).map fun k => (dp ps k : Int)) rfl (fun i x s hx hs => ?_) (fun s hs => Is.ok hs)
  obtain ⟨k1, _⟩ := List.getElem?_eq_some_iff.mp hx
  have hf := hv i k1
  rw [pair_at k1] at hx
  have ex : x = (upk ps i, lbk ps i) := by injection hx with hx; exact hx.symm
  subst ex hs
  simp only
  have e : (if decide (0 ≤ upk ps i) = true then (item ((List.range i).map fun k => (dp ps k : Int)) (upk ps i)).bind fun j => Out.ok (j + 1) else Out.ok 0) = Out.ok (dp ps i : Int) := by
    rcases hf.up with h0 | ⟨u, r, e1, e2⟩
    · have : dp ps i = 0 := by unfold dp; rw [h0, dw_neg]; rfl
      rw [h0, this]
      rfl
    · have sf := dw_suffix (upk ps i) (Sk ps i)
      rw [e1] at sf
      have hu : u < i := (Sk_desc ps i).2 u (sf.subset List.mem_cons_self)
      have hd := dp_suffix i u r sf
      have hg : ((List.range i).map fun k => (dp ps k : Int))[u]? = some (dp ps u : Int) := by
        rw [List.getElem?_map, List.getElem?_range hu]
        rfl
      have he : dp ps i = r.length + 1 := by unfold dp; rw [e1]; rfl
      rw [e2, ite_b, if_pos (by omega), item_at hg, bnd_ok, hd, he]
      rfl
  rw [e, bnd_ok, appL_ok (by simp; omega), bnd_ok]
  refine Is.ok ⟨_, rfl, ?_⟩
  rw [List.range_succ, List.map_append]
  rfl
theorem signs_is {ps : List (Int × Int)} (hl : ps.length < 4000000) (hv : ValF ps ps.length) : m__law_signs ps = .ok (Rw ps) := by
  suffices hh : Is (m__law_signs ps) fun r => r = Rw ps by
    obtain ⟨r, e, q⟩ := hh
    rw [e, q]
  unfold m__law_signs
  simp only [Out.bind_assoc, bnd_ok]
  rw [depths_is hl hv, bnd_ok, rng0 (by omega), bnd_ok]
  refine Is.for (fun i (s : List Int × Int) => s = (Rk ps i, ((Sk ps i).length : Int) - 1)) rfl (fun i x s hx hs => ?_) (fun s hs => ?_)
  · obtain ⟨k1, k2⟩ := range_at hx
    have hx0 : x = (i : Int) := by omega
    subst hx0 hs
    have hg : ((List.range ps.length).map fun k => (dp ps k : Int))[i]? = some (dp ps i : Int) := by
      rw [List.getElem?_map, List.getElem?_range k1]
      rfl
    have rl := Rk_len ps i
    have dl := (dw_suffix (upk ps i) (Sk ps i)).length_le
    have ez : (((Sk ps i).length : Int) - 1 + 1 - (dp ps i : Int)).toNat = zk ps i := by unfold zk dp; omega
    simp only
    rw [item_at hg, bnd_ok, ez, flat_one, chk_pos (show repOk [(0 : Int)].length _ from ⟨by unfold dp; omega, by unfold dp; omega, by rw [ez]; show 1 * zk ps i ≤ 16777216; unfold zk; omega⟩), bnd_ok, chk_pos (show lenOk _ by unfold lenOk zk; rw [List.length_replicate]; omega), bnd_ok, item_at (pair_at k1), bnd_ok, chk_pos (show lenOk _ by unfold lenOk; rw [List.length_append, List.length_replicate]; unfold zk; show _ + 1 ≤ _; omega), bnd_ok, bnd_ok]
    refine Is.ok ⟨_, rfl, Prod.ext rfl ?_⟩
    show (dp ps i : Int) = ((dw (upk ps i) (Sk ps i)).length.succ : Int) - 1
    unfold dp
    omega
  · rw [rangeI_len] at hs
    subst hs
    have rl := Rk_len ps ps.length
    have ez : (((Sk ps ps.length).length : Int) - 1 + 1).toNat = (Sk ps ps.length).length := by omega
    simp only
    rw [ez, flat_one, chk_pos (show repOk [(0 : Int)].length _ from ⟨by omega, by omega, by rw [ez]; show 1 * _ ≤ 16777216; omega⟩), bnd_ok, chk_pos (show lenOk _ by unfold lenOk; rw [List.length_replicate]; omega), bnd_ok]
    exact Is.ok rfl
theorem FitF_app {ps : List (Int × Int)} {p : Int × Int} {k : Nat} (h : k < ps.length) (hf : FitF ps k) : FitF (ps ++ [p]) k := by
  obtain ⟨b, c⟩ := hf
  obtain ⟨e1, e2⟩ := upk_app (p := p) h
  refine ⟨?_, ?_⟩
  · rw [e1, Sk_app k (by omega)]; exact b
  · rw [e2]; exact c
theorem ValF_app {ps : List (Int × Int)} {p : Int × Int} (hv : ValF ps ps.length) (hf : FitF (ps ++ [p]) ps.length) : ValF (ps ++ [p]) (ps ++ [p]).length := fun k hk => by
  rw [List.length_append, List.length_singleton] at hk
  by_cases h : k = ps.length
  · subst h; exact hf
  · exact FitF_app (by omega) (hv k (by omega))
theorem forest_is {d : List Int} (hd : D63 d) {n : Int} (h0 : 0 ≤ n) (h1 : n ≤ 120) : Is (m__law_forest d n) fun ps => ValF ps ps.length ∧ ps.length = n.toNat := by
  unfold m__law_forest
  simp only [Out.bind_assoc, bnd_ok]
  refine Is.bind (dig hd (by decide) (by decide)) fun x3 _ => ?_
  refine Is.bind (Q := fun few : Int => 0 < few) (Is.ite (fun _ => Is.bind (dig hd (by decide) (by decide)) fun x _ => Is.ok (by omega)) fun _ => Is.ok (by decide)) fun few hf => ?_
  rw [rng_ok (by omega) (by omega), bnd_ok]
  refine Is.for (fun i (s : List (Int × Int) × List Int) => s.1.length = i ∧ ValF s.1 i ∧ s.2 = nts (Sk s.1 i).reverse) ⟨rfl, fun k h => absurd h (Nat.not_lt_zero k), rfl⟩ (fun i x s hx hs => ?_) (fun s hs => Is.ok ?_)
  · obtain ⟨k1, k2⟩ := range_at hx
    have hx0 : x = (i : Int) := by omega
    subst hx0
    have hi : i < 120 := by omega
    obtain ⟨ps, path⟩ := s
    obtain ⟨s1, s2, s3⟩ := hs
    simp only at s1 s2 s3
    subst s3
    subst s1
    simp only
    have sl := Sk_len ps ps.length
    have sd := (Sk_desc ps ps.length).1
    have nl := nts_length (l := Sk ps ps.length)
    refine Is.bind (dig hd (by omega) (by omega)) fun mk hmk => ?_
    refine Is.bind (Q := fun kp : Int => kp ≤ ((Sk ps ps.length).length : Int)) (Is.ite (fun h => ?_) fun _ => Is.ok (by rw [nl]; split <;> omega)) fun kp hkp => ?_
    · refine Is.bind (dig hd (by omega) (by omega)) fun y hy => ?_
      rw [nl]
      refine Is.bind (Q := fun q => q = y % (((Sk ps ps.length).length : Int) + 1)) (Is.chk (by omega) rfl) fun q hq => Is.ok ?_
      have := Int.emod_lt_of_pos y (show (0 : Int) < ((Sk ps ps.length).length : Int) + 1 by omega)
      omega
    have hm : 0 ≤ (if kp > 0 then kp else 0) ∧ ((if kp > 0 then kp else 0) = kp ∨ (if kp > 0 then kp else 0) = 0) := by split <;> omega
    generalize (if kp > 0 then kp else 0) = m at *
    have hc : cut (nts (Sk ps ps.length).reverse) none (some m) = (nts (Sk ps ps.length).reverse).take m.toNat := cut_to (by omega)
    rw [hc]
    have fin : ∀ (up : Int) (r : List Nat), (nts (Sk ps ps.length).reverse).take m.toNat = nts r.reverse → dw up (Sk ps ps.length) = r → (up = -1 ∨ ∃ u r', r = u :: r' ∧ up = (u : Int)) → Is ((chk (0 < few) (mk / 7 % few)).bind fun x => (item d 5).bind fun x_1 => (appL ps (up, 1 + (x + x_1) % 9)).bind fun pairs => (appL ((nts (Sk ps ps.length).reverse).take m.toNat) (ps.length : Int)).bind fun path => Out.ok (Ctl.nxt (pairs, path) : Ctl (List (Int × Int) × List Int) (List (Int × Int)))) fun c => ∃ s', c = .nxt s' ∧ s'.1.length = ps.length + 1 ∧ ValF s'.1 (ps.length + 1) ∧ s'.2 = nts (Sk s'.1 (ps.length + 1)).reverse := fun up r er ed hr1 => by
      refine Is.bind (Q := fun q => 0 ≤ q) (Is.chk hf (Int.emod_nonneg _ (by omega))) fun q hq => ?_
      refine Is.bind (dig hd (by decide) (by decide)) fun y hy => ?_
      have rl : r.length ≤ ps.length := by
        have := (dw_suffix up (Sk ps ps.length)).length_le
        rw [ed] at this
        omega
      rw [appL_ok (by omega), bnd_ok, er, appL_ok (by rw [nts_length]; omega), bnd_ok]
      obtain ⟨a1, a2⟩ := at_app (ps := ps) (p := (up, 1 + (q + y) % 9))
      have hfit : FitF (ps ++ [(up, 1 + (q + y) % 9)]) ps.length := by
        refine ⟨?_, ?_⟩
        · rw [a1, Sk_app _ (Nat.le_refl _), ed]
          exact hr1
        · rw [a2]; simp only; omega
      have hV := ValF_app s2 hfit
      rw [List.length_append, List.length_singleton] at hV
      refine Is.ok ⟨_, rfl, by simp, hV, ?_⟩
      show _ = nts (ps.length :: dw (upk (ps ++ [(up, 1 + (q + y) % 9)]) ps.length) (Sk (ps ++ [(up, 1 + (q + y) % 9)]) ps.length)).reverse
      rw [a1, Sk_app _ (Nat.le_refl _), ed, nts_snoc]
    by_cases hz : m.toNat = 0
    · rw [hz, List.take_zero, decide_eq_true rfl, Bool.not_true, if_neg Bool.false_ne_true, bnd_ok]
      have := fin (-1) [] (by rw [hz]; rfl) dw_neg (.inl rfl)
      rw [hz, List.take_zero] at this
      exact this
    · obtain ⟨u, r, e1, e2⟩ := cut_path (m := m.toNat) (by omega) (by omega) sd
      rw [decide_eq_false (by rw [e1, nts_snoc]; simp), Bool.not_false, if_pos rfl, e1, nts_snoc, item_snoc, bnd_ok, ← nts_snoc, ← e1]
      exact fin u (u :: r) e1 e2 (.inr ⟨u, r, rfl, rfl⟩)
  · obtain ⟨s1, s2, _⟩ := hs
    rw [rangeI_len] at s1 s2
    rw [s1]
    exact ⟨s2, rfl⟩
/-! ### the binary tree of what is drawn -/
theorem RkF_good {ps : List (Int × Int)} : ∀ k, ValF ps k → ∀ x ∈ Rk ps k, Good x
  | 0, _, _, h => nomatch h
  | k + 1, hv, x, hx => by
    rcases List.mem_append.mp hx with h | h
    · rcases List.mem_append.mp h with h | h
      · exact RkF_good k (fun j hj => hv j (by omega)) x h
      · rw [List.eq_of_mem_replicate h]; exact ⟨by decide, by decide⟩
    · rw [List.mem_singleton.mp h]
      have := (hv k (by omega)).lab
      exact ⟨by omega, this.2⟩
theorem RwF_good {ps : List (Int × Int)} (hv : ValF ps ps.length) : ∀ x ∈ Rw ps, Good x := fun x hx => by
  rcases List.mem_append.mp hx with h | h
  · exact RkF_good _ hv x h
  · rw [List.eq_of_mem_replicate h]; exact ⟨by decide, by decide⟩
theorem RkF_fold {ps : List (Int × Int)} : ∀ k, k ≤ ps.length → ValF ps k → (Rk ps k).foldl stepG ([], []) = (ps.take k, Sk ps k)
  | 0, _, _ => rfl
  | k + 1, hk, hv => by
    have hf := hv k (by omega)
    show (Rk ps k ++ List.replicate (zk ps k) 0 ++ [lbk ps k]).foldl stepG ([], []) = _
    rw [List.foldl_append, List.foldl_append, RkF_fold k (by omega) (fun j hj => hv j (by omega)), fold_zeros, drop_zk, List.foldl_cons, List.foldl_nil]
    unfold stepG
    rw [if_pos (by have := hf.lab; omega)]
    have et : ps.take (k + 1) = ps.take k ++ [(upk ps k, lbk ps k)] := by
      rw [List.take_succ, pair_at (by omega)]
      rfl
    have eu : topI (dw (upk ps k) (Sk ps k)) = upk ps k := by
      rcases hf.up with h0 | ⟨u, r, e1, e2⟩
      · rw [h0, dw_neg]
        rfl
      · rw [e1, e2]
        rfl
    rw [et]
    simp only
    rw [eu, List.length_take, Nat.min_eq_left (by omega)]
    rfl
theorem RwF_fold {ps : List (Int × Int)} (hv : ValF ps ps.length) : (Rw ps).foldl stepG ([], []) = (ps, []) := by
  unfold Rw
  rw [List.foldl_append, RkF_fold _ (Nat.le_refl _) hv, fold_zeros, List.take_length, List.drop_length]
theorem BT_fold : ∀ (t : BT) (ps : List (Int × Int)) (sk : List Nat), t.Ok → t.row.foldl stepG (ps, sk) = (ps ++ t.prs (topI sk) ps.length, sk)
  | .nil, ps, sk, _ => by
    show (ps, sk) = (ps ++ [], sk)
    rw [List.append_nil]
  | .node x l r, ps, sk, h => by
    obtain ⟨h1, h2, h3⟩ := h
    have e : (BT.node x l r).row.foldl stepG (ps, sk) = (l.row ++ 0 :: r.row).foldl stepG (stepG (ps, sk) x) := rfl
    have e1 : stepG (ps, sk) x = (ps ++ [(topI sk, x)], ps.length :: sk) := if_pos (by omega)
    rw [e, e1, List.foldl_append, BT_fold l _ _ h2, List.foldl_cons]
    have e2 : stepG (ps ++ [(topI sk, x)] ++ l.prs (topI (ps.length :: sk)) (ps ++ [(topI sk, x)]).length, ps.length :: sk) 0 = (ps ++ [(topI sk, x)] ++ l.prs (topI (ps.length :: sk)) (ps ++ [(topI sk, x)]).length, sk) := rfl
    rw [e2, BT_fold r _ _ h3]
    congr 1
    show _ = ps ++ ((topI sk, x) :: (l.prs (ps.length : Int) (ps.length + 1) ++ r.prs (topI sk) (ps.length + 1 + l.size)))
    rw [List.length_append, List.length_append, List.length_singleton, BT.prs_len]
    simp [topI]
theorem zeros_stk {row : List Int} {n z : Nat} (hz : ∀ j, j < z → row.getD (n + j) 0 = 0) (hl : z ≤ (stk row n).length) : ∀ j, j ≤ z → (stk row (n + j)).length = (stk row n).length - j ∧ ∀ i, n ≤ i → i < n + j → stk row i ≠ []
  | 0, _ => ⟨rfl, fun i a b => absurd b (by omega)⟩
  | j + 1, h => by
    obtain ⟨a, b⟩ := zeros_stk hz hl j (by omega)
    have h0 : ¬ 0 < row.getD (n + j) 0 := by rw [hz j (by omega)]; decide
    refine ⟨?_, fun i c d => ?_⟩
    · show (stk row (n + j + 1)).length = _
      rw [stk_close h0, List.length_tail, a]
      omega
    · by_cases e : i = n + j
      · subst e
        intro z
        rw [z] at a
        have : ([] : List Nat).length = 0 := rfl
        omega
      · exact b i c (by omega)
theorem Rw_stk {ps : List (Int × Int)} (hv : ValF ps ps.length) : ∀ k, k ≤ ps.length → (stk (Rw ps) (Rk ps k).length).length = (Sk ps k).length ∧ ∀ i, i < (Rk ps k).length → ¬ 0 < (Rw ps).getD i 0 → stk (Rw ps) i ≠ []
  | 0, _ => ⟨rfl, fun i h => absurd h (Nat.not_lt_zero i)⟩
  | k + 1, h => by
    obtain ⟨a, b⟩ := Rw_stk hv k (by omega)
    obtain ⟨r1, r2, r3⟩ := Rw_at (ps := ps) (k := k) (by omega)
    have hzk : zk ps k ≤ (Sk ps k).length := by unfold zk; omega
    obtain ⟨z1, z2⟩ := zeros_stk r1 (by omega) (zk ps k) (Nat.le_refl _)
    have hl := (hv k (by omega)).lab
    have hp : 0 < (Rw ps).getD ((Rk ps k).length + zk ps k) 0 := by rw [r2]; omega
    have dl := (dw_suffix (upk ps k) (Sk ps k)).length_le
    rw [r3]
    refine ⟨?_, fun i hi hc => ?_⟩
    · rw [stk_open hp, List.length_cons, z1, a]
      show _ = (k :: dw (upk ps k) (Sk ps k)).length
      rw [List.length_cons]
      unfold zk
      omega
    · by_cases h1 : i < (Rk ps k).length
      · exact b i h1 hc
      · by_cases h2 : i < (Rk ps k).length + zk ps k
        · exact z2 i (by omega) h2
        · have : i = (Rk ps k).length + zk ps k := by omega
          subst this
          exact absurd hp hc
theorem forest_tree {ps : List (Int × Int)} (hv : ValF ps ps.length) : ∃ t : BT, t.Ok ∧ Rw ps = t.row ∧ ps = t.prs (-1) 0 ∧ t.size = ps.length := by
  obtain ⟨a, b⟩ := Rw_stk hv ps.length (Nat.le_refl _)
  obtain ⟨z1, z2⟩ := zeros_stk (Rw_end (ps := ps)) (by omega) (Sk ps ps.length).length (Nat.le_refl _)
  have e : (Rw ps).length = (Rk ps ps.length).length + (Sk ps ps.length).length := by
    unfold Rw
    rw [List.length_append, List.length_replicate]
  obtain ⟨t, ht, et⟩ := bal_tree (RwF_good hv) (fun i hi hc => by
    by_cases h1 : i < (Rk ps ps.length).length
    · exact b i h1 hc
    · exact z2 i (by omega) (by omega)) (by
    rw [← e] at z1
    exact List.length_eq_zero_iff.mp (by omega))
  have f1 := RwF_fold hv
  rw [et, BT_fold t [] [] ht, List.nil_append] at f1
  have f2 : ps = t.prs (-1) 0 := (congrArg Prod.fst f1).symm
  exact ⟨t, ht, et, f2, by rw [f2, BT.prs_len]⟩

/-! ### the law -/
theorem BT.eq_of {ts : List (T3 Int Int Int)} {t t' : BT} (h : Tri ts 0 t) (h' : Tri ts 0 t') (e : t.size = t'.size) : t = t' := by
  refine Tri.uniq t t' 0 ?_ h h'
  cases a : t.isNil <;> cases b : t'.isNil
  · rfl
  · have := BT.size_pos a
    rw [BT.nil_of b] at e
    have : (BT.nil).size = 0 := rfl
    omega
  · have := BT.size_pos b
    rw [BT.nil_of a] at e
    have : (BT.nil).size = 0 := rfl
    omega
  · rfl
theorem bin_good {t : BT} (ht : t.Ok) (hl : t.size < 4000000) : m_row_of_binary (t.tri 0) = .ok t.row := by
  have hs := Tri.self t 0 [] [] rfl
  rw [List.nil_append, List.append_nil] at hs
  rcases bin_is (ts := t.tri 0) (by rw [BT.tri_len]; exact hl) with ⟨_, b2⟩ | ⟨t', b1, b2, b3, b4⟩
  · exact absurd ⟨t, ht, hs, (BT.tri_len t 0).symm⟩ b2
  · rw [BT.tri_len] at b3
    rw [b4, BT.eq_of b2 hs b3]
theorem bentT_is {ts : List (T3 Int Int Int)} {d : List Int} (hr : ts.length ≤ 2000) (hd : d.length = 5) : Is (m__law_bent ts d) fun q => q.length ≤ 4001 := by
  unfold m__law_bent
  simp only [Out.bind_assoc, bnd_ok]
  have it : ∀ k : Int, 0 ≤ k → k < 5 → Is (item d k) fun _ => True := fun k h0 h1 => Is.item h0 (by omega) fun _ _ _ => trivial
  have len1' : ∀ x : T3 Int Int Int, [x].length = 1 := fun _ => rfl
  refine Is.ite (fun _ => ?_) fun h => ?_
  · refine Is.bind (it _ (by decide) (by decide)) fun x0 _ => Is.bind (it _ (by decide) (by decide)) fun x1 _ => Is.bind (it _ (by decide) (by decide)) fun x2 _ => Is.ok ?_
    show (1 : Nat) ≤ 4001
    decide
  · have h0 : ¬ (ts.length : Int) = 0 := fun z => h (decide_eq_true z)
    refine Is.bind (it _ (by decide) (by decide)) fun x0 _ => Is.bind (it _ (by decide) (by decide)) fun x1 _ => ?_
    refine Is.bind (Q := fun p : Int => 0 ≤ p ∧ p < ts.length) (Is.chk (by omega) ⟨Int.emod_nonneg _ h0, Int.emod_lt_of_pos _ (by omega)⟩) fun p hp => ?_
    refine Is.bind (Q := fun _ => True) (Is.item hp.1 hp.2 fun _ _ _ => trivial) fun t _ => ?_
    refine Is.bind (it _ (by decide) (by decide)) fun x2 _ => Is.bind (it _ (by decide) (by decide)) fun x3 _ => ?_
    refine Is.bind (Q := fun _ => True) (Is.chk (by omega) trivial) fun q _ => ?_
    refine Is.bind (it _ (by decide) (by decide)) fun x4 _ => Is.bind (it _ (by decide) (by decide)) fun x5 _ => ?_
    refine Is.bind (Q := fun _ => True) (Is.ite (fun _ => ?_) fun _ => Is.ok trivial) fun s _ => ?_
    · refine Is.bind (it _ (by decide) (by decide)) fun x _ => ?_
      refine Is.bind (Q := fun _ => True) (Is.chk ?_ trivial) fun _ _ => Is.ok trivial
      have h1 := Int.emod_nonneg x (show (2 : Int) ≠ 0 by decide)
      have h2 := Int.emod_lt_of_pos x (show (0 : Int) < 2 by decide)
      rcases (show x % 2 = 0 ∨ x % 2 = 1 by omega) with e | e <;> rw [e] <;> decide
    refine Is.bind (Q := fun q : List (T3 Int Int Int) => q.length = 4) (Is.chk (show (4 : Nat) ≤ 16777216 by decide) rfl) fun bs hbs => ?_
    refine Is.bind (it _ (by decide) (by decide)) fun x6 _ => ?_
    refine Is.bind (Q := fun _ => True) (Is.item (by omega) (by rw [hbs]; omega) fun _ _ _ => trivial) fun y _ => ?_
    have c1 : ∀ lo hi : Option Int, (cut ts lo hi).length ≤ 2000 := fun lo hi => Nat.le_trans cut_len hr
    have a1 := c1 none (some p)
    have a2 := c1 (some (p + 1)) none
    refine Is.bind (Q := fun q : List (T3 Int Int Int) => q.length ≤ 2001) (Is.chk (by unfold lenOk; rw [len1']; omega) (by rw [List.length_append, len1']; omega)) fun q hq => ?_
    exact Is.bind (Q := fun q : List (T3 Int Int Int) => q.length ≤ 4001) (Is.chk (by unfold lenOk; omega) (by rw [List.length_append]; omega)) fun q2 hq2 => Is.ok hq2
theorem law_true (ns : List Int) (hns : ns.length ≤ 63) : m_law ⟨ns⟩ = .ok true := by
  suffices h : Is (m_law ⟨ns⟩) fun b => b = true by
    obtain ⟨b, e, q⟩ := h
    rw [e, q]
  unfold m_law
  simp only [Out.bind_assoc, bnd_ok]
  refine Is.bind (digits_is ⟨ns⟩ hns) fun d hd => ?_
  have hd : D63 d := hd
  refine Is.bind (dig hd (by decide) (by decide)) fun x0 h0 => Is.bind (dig hd (by decide) (by decide)) fun x1 h1 => ?_
  refine Is.bind (Q := fun n : Int => 0 ≤ n ∧ n ≤ 120) (Is.ite (fun _ => Is.bind (dig hd (by decide) (by decide)) fun y hy => Is.bind (dig hd (by decide) (by decide)) fun z hz => Is.ok (by omega)) fun _ => Is.ok (by omega)) fun n hn => ?_
  refine Is.bind (forest_is hd hn.1 hn.2) fun ps hps => ?_
  obtain ⟨hv, hl⟩ := hps
  have hl1 : ps.length ≤ 120 := by omega
  obtain ⟨t, ht, e1, e2, e3⟩ := forest_tree hv
  have htl : (t.tri 0).length = t.size := BT.tri_len t 0
  have hrl : t.row.length = 2 * t.size := t.row_len
  have hrs : m__law_row t.row t.row = .ok true := row_self (by omega)
  have hts : m__law_table (t.tri 0) (t.tri 0) = .ok true := table_self (by omega)
  have lenT : ∀ x : T3 Int Int Int, [x].length = 1 := fun _ => rfl
  rw [signs_is (by omega) hv, e1]
  have e4 : m__law_triples ps = .ok (t.tri 0) := by rw [e2]; exact triples_is (by omega)
  rw [e4, bnd_ok, bnd_ok, bin_good ht (by omega), bnd_ok, hrs, bnd_ok, Bool.not_true, if_neg Bool.false_ne_true, hts, bnd_ok, bnd_ok, Bool.not_true, if_neg Bool.false_ne_true, appL_ok (by omega), bnd_ok, appL_ok (by omega), bnd_ok, binary_good (by omega) ht rfl, bnd_ok, hts, bnd_ok, Bool.not_true, if_neg Bool.false_ne_true, appL_ok (by omega), bnd_ok]
  rw [chk_pos (show lenOk _ by unfold lenOk; rw [lenT]; omega), bnd_ok, chk_pos (show lenOk _ by unfold lenOk; rw [len1]; omega), bnd_ok, chk_pos (show lenOk _ by unfold lenOk; rw [len1]; omega), bnd_ok]
  have hcut : ∀ (a b : Int), 0 ≤ a → b = a + 5 → b ≤ 340 → (cut d (some a) (some b)).length = 5 := fun a b g1 g2 g3 => by
    have := hd.1
    rw [cut_two (by omega) (by omega), List.length_take, List.length_drop]
    omega
  rw [rng_ok (by decide) (by decide), bnd_ok]
  have hc0 : (cut (t.tri 0) none (some (-1))).length ≤ 300 := Nat.le_trans cut_len (by omega)
  refine Is.for (fun i (s : List (List (T3 Int Int Int))) => s.length = 4 + i ∧ ∀ r ∈ s, r.length ≤ 5000) ⟨rfl, fun r hr => ?_⟩ (fun i x s hx hs => ?_) (fun s hs => ?_)
  · simp only [List.mem_cons, List.not_mem_nil, or_false] at hr
    rcases hr with e | e | e | e <;> subst e <;> first | omega | (simp; done) | (simp; omega)
  · obtain ⟨k1, k2⟩ := range_at hx
    have hi : i < 6 := k1
    refine Is.bind (bentT_is (by omega) (hcut _ _ (by omega) (by omega) (by omega))) fun q hq => ?_
    refine Is.bind (Q := fun q : List (List (T3 Int Int Int)) => q.length = 4 + (i + 1) ∧ ∀ r ∈ q, r.length ≤ 5000) (Is.app (by omega) ⟨by simp [hs.1]; omega, fun r hr => ?_⟩) fun q hq => Is.ok ⟨_, rfl, hq⟩
    rcases List.mem_append.mp hr with hr | hr
    · exact hs.2 r hr
    · rw [List.mem_singleton.mp hr]
      omega
  rw [rng_ok (by decide) (by decide), bnd_ok]
  have hc1 : (cut t.row (some 1) none).length ≤ 300 := Nat.le_trans cut_len (by omega)
  refine Is.for (fun i (s : List (List Int)) => s.length = 5 + i ∧ ∀ r ∈ s, r.length ≤ 5000) ⟨rfl, fun r hr => ?_⟩ (fun i x s hx hs => ?_) (fun s2 hs2 => ?_)
  · simp only [List.mem_cons, List.not_mem_nil, or_false] at hr
    rcases hr with e | e | e | e | e <;> subst e <;> first | omega | (simp; done) | (simp; omega)
  · obtain ⟨k1, k2⟩ := range_at hx
    have hi : i < 8 := k1
    refine Is.bind (bent_is (by omega) (hcut _ _ (by omega) (by omega) (by omega))) fun q hq => ?_
    refine Is.bind (Q := fun q : List (List Int) => q.length = 5 + (i + 1) ∧ ∀ r ∈ q, r.length ≤ 5000) (Is.app (by omega) ⟨by simp [hs.1]; omega, fun r hr => ?_⟩) fun q hq => Is.ok ⟨_, rfl, hq⟩
    rcases List.mem_append.mp hr with hr | hr
    · exact hs.2 r hr
    · rw [List.mem_singleton.mp hr]
      omega
  refine Is.for (fun _ _ => True) trivial (fun i x _ hx _ => ?_) (fun _ _ => ?_)
  · have hm := hs.2 x (List.mem_of_getElem? hx)
    rw [bin_right (by omega), bnd_ok, Bool.not_true, if_neg Bool.false_ne_true]
    exact Is.ok ⟨(), rfl, trivial⟩
  refine Is.for (fun _ _ => True) trivial (fun i x _ hx _ => ?_) (fun _ _ => ?_)
  · have hm := hs2.2 x (List.mem_of_getElem? hx)
    rw [row_right (by omega), bnd_ok, Bool.not_true, if_neg Bool.false_ne_true]
    exact Is.ok ⟨(), rfl, trivial⟩
  rw [row_right (by omega), bnd_ok, if_pos rfl, bin_right (by omega), bnd_ok]
  exact Is.ok rfl

end K03
set_option maxRecDepth 100000
set_option maxHeartbeats 4000000
namespace K03
open PySem PySem.Spec PyProof.Rows L2 Mw

def top (i : Nat) : Stmt := PySem.Challenge.pw_packedtrees_k03_binary_there_and_back.main.body.getD i (.Pass ⟨0, 0, 0, 0⟩)
abbrev st_checked_row : Stmt := top 8
abbrev st_matched : Stmt := top 10
abbrev st_checked_balanced : Stmt := top 11
abbrev st_opening_number : Stmt := top 14
abbrev st_binary_of_row : Stmt := top 15
abbrev st_row_of_binary : Stmt := top 16
abbrev st__law_digits : Stmt := top 18
abbrev st__law_whole : Stmt := top 19
abbrev st__law_row : Stmt := top 20
abbrev st__law_table : Stmt := top 21
abbrev st__law_forest : Stmt := top 22
abbrev st__law_depths : Stmt := top 23
abbrev st__law_signs : Stmt := top 24
abbrev st__law_pairs_of : Stmt := top 25
abbrev st__law_bad_sign : Stmt := top 26
abbrev st__law_bent_row : Stmt := top 27
abbrev st__law_triples : Stmt := top 28
abbrev st__law_row_due : Stmt := top 29
abbrev st__law_cuts : Stmt := top 30
abbrev st__law_binary_due : Stmt := top 31
abbrev st__law_told : Stmt := top 32
abbrev st__law_row_right : Stmt := top 33
abbrev st__law_binary_right : Stmt := top 34
abbrev st__law_bent : Stmt := top 35
abbrev st_law : Stmt := top 36
abbrev st_iBadRow : Stmt := inClass (top 4) 0
abbrev st_iBadSign : Stmt := inClass (top 3) 0
theorem sc_checked_row : FnScope ["row", "place", "sign"] ["row"] (defScope st_checked_row) := ⟨rfl, rfl, rfl, by decide +kernel, rfl, by decide +kernel, by decide +kernel⟩
theorem sc_matched : FnScope ["row", "signs", "partners", "waiting", "place", "sign", "opening"] ["row"] (defScope st_matched) := ⟨rfl, rfl, rfl, by decide +kernel, rfl, by decide +kernel, by decide +kernel⟩
theorem sc_checked_balanced : FnScope ["row", "partners", "place", "sign"] ["row"] (defScope st_checked_balanced) := ⟨rfl, rfl, rfl, by decide +kernel, rfl, by decide +kernel, by decide +kernel⟩
theorem sc_opening_number : FnScope ["signs", "numbers", "place"] ["signs", "numbers", "place"] (defScope st_opening_number) := ⟨rfl, rfl, rfl, by decide +kernel, rfl, by decide +kernel, by decide +kernel⟩
theorem sc_binary_of_row : FnScope ["row", "signs", "partners", "numbers", "opened", "sign", "triples", "place", "left", "right"] ["row"] (defScope st_binary_of_row) := ⟨rfl, rfl, rfl, by decide +kernel, rfl, by decide +kernel, by decide +kernel⟩
theorem sc_row_of_binary : FnScope ["triples", "row", "seen", "waiting", "node", "label", "left", "right"] ["triples"] (defScope st_row_of_binary) := ⟨rfl, rfl, rfl, by decide +kernel, rfl, by decide +kernel, by decide +kernel⟩
theorem sc__law_digits : FnScope ["script", "many", "pool", "cell", "left", "k", "size", "digits"] ["script", "many"] (defScope st__law_digits) := ⟨rfl, rfl, rfl, by decide +kernel, rfl, by decide +kernel, by decide +kernel⟩
theorem sc__law_whole : FnScope ["told"] ["told"] (defScope st__law_whole) := ⟨rfl, rfl, rfl, by decide +kernel, rfl, by decide +kernel, by decide +kernel⟩
theorem sc__law_row : FnScope ["told", "due", "k"] ["told", "due"] (defScope st__law_row) := ⟨rfl, rfl, rfl, by decide +kernel, rfl, by decide +kernel, by decide +kernel⟩
theorem sc__law_table : FnScope ["told", "due", "k"] ["told", "due"] (defScope st__law_table) := ⟨rfl, rfl, rfl, by decide +kernel, rfl, by decide +kernel, by decide +kernel⟩
theorem sc__law_forest : FnScope ["digits", "size", "few", "pairs", "path", "k", "mark", "keep", "up"] ["digits", "size"] (defScope st__law_forest) := ⟨rfl, rfl, rfl, by decide +kernel, rfl, by decide +kernel, by decide +kernel⟩
theorem sc__law_depths : FnScope ["pairs", "depths", "up", "label"] ["pairs"] (defScope st__law_depths) := ⟨rfl, rfl, rfl, by decide +kernel, rfl, by decide +kernel, by decide +kernel⟩
theorem sc__law_signs : FnScope ["pairs", "depths", "row", "last", "k"] ["pairs"] (defScope st__law_signs) := ⟨rfl, rfl, rfl, by decide +kernel, rfl, by decide +kernel, by decide +kernel⟩
theorem sc__law_pairs_of : FnScope ["row", "pairs", "path", "sign"] ["row"] (defScope st__law_pairs_of) := ⟨rfl, rfl, rfl, by decide +kernel, rfl, by decide +kernel, by decide +kernel⟩
theorem sc__law_bad_sign : FnScope ["row", "k"] ["row"] (defScope st__law_bad_sign) := ⟨rfl, rfl, rfl, by decide +kernel, rfl, by decide +kernel, by decide +kernel⟩
theorem sc__law_bent_row : FnScope ["row", "five", "place", "sign"] ["row", "five"] (defScope st__law_bent_row) := ⟨rfl, rfl, rfl, by decide +kernel, rfl, by decide +kernel, by decide +kernel⟩
theorem sc__law_triples : FnScope ["pairs", "size", "triples", "k", "left", "up", "later", "j", "right"] ["pairs"] (defScope st__law_triples) := ⟨rfl, rfl, rfl, by decide +kernel, rfl, by decide +kernel, by decide +kernel⟩
theorem sc__law_row_due : FnScope ["row", "excess", "k"] ["row"] (defScope st__law_row_due) := ⟨rfl, rfl, rfl, by decide +kernel, rfl, by decide +kernel, by decide +kernel⟩
theorem sc__law_cuts : FnScope ["triples", "size", "cuts", "triple", "pile", "k", "start", "end", "label", "left", "right", "cut"] ["triples"] (defScope st__law_cuts) := ⟨rfl, rfl, rfl, by decide +kernel, rfl, by decide +kernel, by decide +kernel⟩
theorem sc__law_binary_due : FnScope ["triples", "cuts", "row", "k"] ["triples"] (defScope st__law_binary_due) := ⟨rfl, rfl, rfl, by decide +kernel, rfl, by decide +kernel, by decide +kernel⟩
theorem sc__law_told : FnScope ["way", "handed", "told", "e", "kinds"] ["way", "handed"] (defScope st__law_told) := ⟨rfl, rfl, rfl, by decide +kernel, rfl, by decide +kernel, by decide +kernel⟩
theorem sc__law_row_right : FnScope ["row", "due", "handed", "told"] ["row"] (defScope st__law_row_right) := ⟨rfl, rfl, rfl, by decide +kernel, rfl, by decide +kernel, by decide +kernel⟩
theorem sc__law_binary_right : FnScope ["triples", "due", "handed", "told"] ["triples"] (defScope st__law_binary_right) := ⟨rfl, rfl, rfl, by decide +kernel, rfl, by decide +kernel, by decide +kernel⟩
theorem sc__law_bent : FnScope ["triples", "five", "size", "place", "label", "left", "right", "part", "sign", "bent"] ["triples", "five"] (defScope st__law_bent) := ⟨rfl, rfl, rfl, by decide +kernel, rfl, by decide +kernel, by decide +kernel⟩
theorem sc_law : FnScope ["script", "digits", "size", "pairs", "triples", "row", "handed", "told", "lists", "rows", "k", "bent"] ["script"] (defScope st_law) := ⟨rfl, rfl, rfl, by decide +kernel, rfl, by decide +kernel, by decide +kernel⟩
theorem sc_iBadRow : FnScope ["self", "place"] ["self", "place"] (defScope st_iBadRow) := ⟨rfl, rfl, rfl, by decide +kernel, rfl, by decide +kernel, by decide +kernel⟩
theorem sc_iBadSign : FnScope ["self", "place"] ["self", "place"] (defScope st_iBadSign) := ⟨rfl, rfl, rfl, by decide +kernel, rfl, by decide +kernel, by decide +kernel⟩
structure Tx (K : PySem.W.Frag) (mg : Str → Option Value) (eg : EK → Addr) where
  a_checked_row : Addr
  d_checked_row : FuncData
  u_checked_row : Fun K "checked_row" "checked_row" st_checked_row a_checked_row d_checked_row
  b_checked_row : Binds K d_checked_row ["row"] []
  m_checked_row : mg "checked_row" = some (.ref a_checked_row)
  k_checked_row : PySem.W.keepIn K (.ref a_checked_row) = true
  a_matched : Addr
  d_matched : FuncData
  u_matched : Fun K "matched" "matched" st_matched a_matched d_matched
  b_matched : Binds K d_matched ["row"] []
  m_matched : mg "matched" = some (.ref a_matched)
  k_matched : PySem.W.keepIn K (.ref a_matched) = true
  a_checked_balanced : Addr
  d_checked_balanced : FuncData
  u_checked_balanced : Fun K "checked_balanced" "checked_balanced" st_checked_balanced a_checked_balanced d_checked_balanced
  b_checked_balanced : Binds K d_checked_balanced ["row"] []
  m_checked_balanced : mg "checked_balanced" = some (.ref a_checked_balanced)
  k_checked_balanced : PySem.W.keepIn K (.ref a_checked_balanced) = true
  a_opening_number : Addr
  d_opening_number : FuncData
  u_opening_number : Fun K "opening_number" "opening_number" st_opening_number a_opening_number d_opening_number
  b_opening_number : Binds K d_opening_number ["signs", "numbers", "place"] []
  m_opening_number : mg "opening_number" = some (.ref a_opening_number)
  k_opening_number : PySem.W.keepIn K (.ref a_opening_number) = true
  a_binary_of_row : Addr
  d_binary_of_row : FuncData
  u_binary_of_row : Fun K "binary_of_row" "binary_of_row" st_binary_of_row a_binary_of_row d_binary_of_row
  b_binary_of_row : Binds K d_binary_of_row ["row"] []
  m_binary_of_row : mg "binary_of_row" = some (.ref a_binary_of_row)
  k_binary_of_row : PySem.W.keepIn K (.ref a_binary_of_row) = true
  a_row_of_binary : Addr
  d_row_of_binary : FuncData
  u_row_of_binary : Fun K "row_of_binary" "row_of_binary" st_row_of_binary a_row_of_binary d_row_of_binary
  b_row_of_binary : Binds K d_row_of_binary ["triples"] []
  m_row_of_binary : mg "row_of_binary" = some (.ref a_row_of_binary)
  k_row_of_binary : PySem.W.keepIn K (.ref a_row_of_binary) = true
  a__law_digits : Addr
  d__law_digits : FuncData
  u__law_digits : Fun K "_law_digits" "_law_digits" st__law_digits a__law_digits d__law_digits
  b__law_digits : Binds K d__law_digits ["script", "many"] []
  m__law_digits : mg "_law_digits" = some (.ref a__law_digits)
  k__law_digits : PySem.W.keepIn K (.ref a__law_digits) = true
  a__law_whole : Addr
  d__law_whole : FuncData
  u__law_whole : Fun K "_law_whole" "_law_whole" st__law_whole a__law_whole d__law_whole
  b__law_whole : Binds K d__law_whole ["told"] []
  m__law_whole : mg "_law_whole" = some (.ref a__law_whole)
  k__law_whole : PySem.W.keepIn K (.ref a__law_whole) = true
  a__law_row : Addr
  d__law_row : FuncData
  u__law_row : Fun K "_law_row" "_law_row" st__law_row a__law_row d__law_row
  b__law_row : Binds K d__law_row ["told", "due"] []
  m__law_row : mg "_law_row" = some (.ref a__law_row)
  k__law_row : PySem.W.keepIn K (.ref a__law_row) = true
  a__law_table : Addr
  d__law_table : FuncData
  u__law_table : Fun K "_law_table" "_law_table" st__law_table a__law_table d__law_table
  b__law_table : Binds K d__law_table ["told", "due"] []
  m__law_table : mg "_law_table" = some (.ref a__law_table)
  k__law_table : PySem.W.keepIn K (.ref a__law_table) = true
  a__law_forest : Addr
  d__law_forest : FuncData
  u__law_forest : Fun K "_law_forest" "_law_forest" st__law_forest a__law_forest d__law_forest
  b__law_forest : Binds K d__law_forest ["digits", "size"] []
  m__law_forest : mg "_law_forest" = some (.ref a__law_forest)
  k__law_forest : PySem.W.keepIn K (.ref a__law_forest) = true
  a__law_depths : Addr
  d__law_depths : FuncData
  u__law_depths : Fun K "_law_depths" "_law_depths" st__law_depths a__law_depths d__law_depths
  b__law_depths : Binds K d__law_depths ["pairs"] []
  m__law_depths : mg "_law_depths" = some (.ref a__law_depths)
  k__law_depths : PySem.W.keepIn K (.ref a__law_depths) = true
  a__law_signs : Addr
  d__law_signs : FuncData
  u__law_signs : Fun K "_law_signs" "_law_signs" st__law_signs a__law_signs d__law_signs
  b__law_signs : Binds K d__law_signs ["pairs"] []
  m__law_signs : mg "_law_signs" = some (.ref a__law_signs)
  k__law_signs : PySem.W.keepIn K (.ref a__law_signs) = true
  a__law_pairs_of : Addr
  d__law_pairs_of : FuncData
  u__law_pairs_of : Fun K "_law_pairs_of" "_law_pairs_of" st__law_pairs_of a__law_pairs_of d__law_pairs_of
  b__law_pairs_of : Binds K d__law_pairs_of ["row"] []
  m__law_pairs_of : mg "_law_pairs_of" = some (.ref a__law_pairs_of)
  k__law_pairs_of : PySem.W.keepIn K (.ref a__law_pairs_of) = true
  a__law_bad_sign : Addr
  d__law_bad_sign : FuncData
  u__law_bad_sign : Fun K "_law_bad_sign" "_law_bad_sign" st__law_bad_sign a__law_bad_sign d__law_bad_sign
  b__law_bad_sign : Binds K d__law_bad_sign ["row"] []
  m__law_bad_sign : mg "_law_bad_sign" = some (.ref a__law_bad_sign)
  k__law_bad_sign : PySem.W.keepIn K (.ref a__law_bad_sign) = true
  a__law_bent_row : Addr
  d__law_bent_row : FuncData
  u__law_bent_row : Fun K "_law_bent_row" "_law_bent_row" st__law_bent_row a__law_bent_row d__law_bent_row
  b__law_bent_row : Binds K d__law_bent_row ["row", "five"] []
  m__law_bent_row : mg "_law_bent_row" = some (.ref a__law_bent_row)
  k__law_bent_row : PySem.W.keepIn K (.ref a__law_bent_row) = true
  a__law_triples : Addr
  d__law_triples : FuncData
  u__law_triples : Fun K "_law_triples" "_law_triples" st__law_triples a__law_triples d__law_triples
  b__law_triples : Binds K d__law_triples ["pairs"] []
  m__law_triples : mg "_law_triples" = some (.ref a__law_triples)
  k__law_triples : PySem.W.keepIn K (.ref a__law_triples) = true
  a__law_row_due : Addr
  d__law_row_due : FuncData
  u__law_row_due : Fun K "_law_row_due" "_law_row_due" st__law_row_due a__law_row_due d__law_row_due
  b__law_row_due : Binds K d__law_row_due ["row"] []
  m__law_row_due : mg "_law_row_due" = some (.ref a__law_row_due)
  k__law_row_due : PySem.W.keepIn K (.ref a__law_row_due) = true
  a__law_cuts : Addr
  d__law_cuts : FuncData
  u__law_cuts : Fun K "_law_cuts" "_law_cuts" st__law_cuts a__law_cuts d__law_cuts
  b__law_cuts : Binds K d__law_cuts ["triples"] []
  m__law_cuts : mg "_law_cuts" = some (.ref a__law_cuts)
  k__law_cuts : PySem.W.keepIn K (.ref a__law_cuts) = true
  a__law_binary_due : Addr
  d__law_binary_due : FuncData
  u__law_binary_due : Fun K "_law_binary_due" "_law_binary_due" st__law_binary_due a__law_binary_due d__law_binary_due
  b__law_binary_due : Binds K d__law_binary_due ["triples"] []
  m__law_binary_due : mg "_law_binary_due" = some (.ref a__law_binary_due)
  k__law_binary_due : PySem.W.keepIn K (.ref a__law_binary_due) = true
  a__law_told : Addr
  d__law_told : FuncData
  u__law_told : Fun K "_law_told" "_law_told" st__law_told a__law_told d__law_told
  b__law_told : Binds K d__law_told ["way", "handed"] []
  m__law_told : mg "_law_told" = some (.ref a__law_told)
  k__law_told : PySem.W.keepIn K (.ref a__law_told) = true
  a__law_row_right : Addr
  d__law_row_right : FuncData
  u__law_row_right : Fun K "_law_row_right" "_law_row_right" st__law_row_right a__law_row_right d__law_row_right
  b__law_row_right : Binds K d__law_row_right ["row"] []
  m__law_row_right : mg "_law_row_right" = some (.ref a__law_row_right)
  k__law_row_right : PySem.W.keepIn K (.ref a__law_row_right) = true
  a__law_binary_right : Addr
  d__law_binary_right : FuncData
  u__law_binary_right : Fun K "_law_binary_right" "_law_binary_right" st__law_binary_right a__law_binary_right d__law_binary_right
  b__law_binary_right : Binds K d__law_binary_right ["triples"] []
  m__law_binary_right : mg "_law_binary_right" = some (.ref a__law_binary_right)
  k__law_binary_right : PySem.W.keepIn K (.ref a__law_binary_right) = true
  a__law_bent : Addr
  d__law_bent : FuncData
  u__law_bent : Fun K "_law_bent" "_law_bent" st__law_bent a__law_bent d__law_bent
  b__law_bent : Binds K d__law_bent ["triples", "five"] []
  m__law_bent : mg "_law_bent" = some (.ref a__law_bent)
  k__law_bent : PySem.W.keepIn K (.ref a__law_bent) = true
  a_law : Addr
  d_law : FuncData
  u_law : Fun K "law" "law" st_law a_law d_law
  b_law : Binds K d_law ["script"] []
  m_law : mg "law" = some (.ref a_law)
  k_law : PySem.W.keepIn K (.ref a_law) = true
  xq_BadBinary : PySem.W.excIn K (eg .BadBinary) [.type "ValueError", .type "Exception", .type "BaseException", .type "object"] "ValueError.__new__" = true
  kc_BadBinary : PySem.W.keepIn K (.ref (eg .BadBinary)) = true
  xb_BadBinary : PySem.W.subIn K (.ref (eg .BadBinary)) (.type "BaseException") = some true
  xt_BadBinary : PySem.W.typeIn K (.ref (eg .BadBinary)) = some (.type "type")
  ia_BadRow : Addr
  id_BadRow : FuncData
  iu_BadRow : Fun K "__init__" "BadRow.__init__" st_iBadRow ia_BadRow id_BadRow
  ib_BadRow : Binds K id_BadRow ["self", "place"] []
  in_BadRow : PySem.W.findIn K (.ref (eg .BadRow)) "__init__" = some (some (.ref ia_BadRow))
  it_BadRow : PySem.W.typeIn K (.ref ia_BadRow) = some (.type "function")
  oex_BadRow : OexC K (eg .BadRow)
  ino_BadRow : PySem.W.findIn K (.ref (eg .BadRow)) "place" = some none
  ia_BadSign : Addr
  id_BadSign : FuncData
  iu_BadSign : Fun K "__init__" "BadSign.__init__" st_iBadSign ia_BadSign id_BadSign
  ib_BadSign : Binds K id_BadSign ["self", "place"] []
  in_BadSign : PySem.W.findIn K (.ref (eg .BadSign)) "__init__" = some (some (.ref ia_BadSign))
  it_BadSign : PySem.W.typeIn K (.ref ia_BadSign) = some (.type "function")
  oex_BadSign : OexC K (eg .BadSign)
  ino_BadSign : PySem.W.findIn K (.ref (eg .BadSign)) "place" = some none
  g_BadBinary : mg "BadBinary" = some (.ref (eg .BadBinary))
  g_BadNumber : mg "BadNumber" = some (.ref (eg .BadNumber))
  g_BadRow : mg "BadRow" = some (.ref (eg .BadRow))
  g_BadSign : mg "BadSign" = some (.ref (eg .BadSign))
  g_BadTree : mg "BadTree" = some (.ref (eg .BadTree))
  g_PackError : mg "PackError" = some (.ref (eg .PackError))
  no_BadBinary_place : PySem.W.findIn K (.ref (eg .BadBinary)) "place" = some none
  xc_BadBinary : ExcC K (eg .BadBinary)
  xf_BadBinary : XfC K (eg .BadBinary)
  xm_BadBinary_PackError : PySem.W.exmOne K (.ref (eg .BadBinary)) (.ref (eg .PackError)) = some true
  xk_BadBinary_BadBinary : PySem.W.kitOne K (.ref (eg .BadBinary)) (.ref (eg .BadBinary)) = some (isaE .BadBinary .BadBinary)
  xk_BadBinary_BadNumber : PySem.W.kitOne K (.ref (eg .BadBinary)) (.ref (eg .BadNumber)) = some (isaE .BadBinary .BadNumber)
  xk_BadBinary_BadRow : PySem.W.kitOne K (.ref (eg .BadBinary)) (.ref (eg .BadRow)) = some (isaE .BadBinary .BadRow)
  xk_BadBinary_BadSign : PySem.W.kitOne K (.ref (eg .BadBinary)) (.ref (eg .BadSign)) = some (isaE .BadBinary .BadSign)
  xk_BadBinary_BadTree : PySem.W.kitOne K (.ref (eg .BadBinary)) (.ref (eg .BadTree)) = some (isaE .BadBinary .BadTree)
  xk_BadBinary_ValueError : PySem.W.kitOne K (.ref (eg .BadBinary)) (.type "ValueError") = some true
  no_BadRow_place : PySem.W.findIn K (.ref (eg .BadRow)) "place" = some none
  xc_BadRow : ExcC K (eg .BadRow)
  xf_BadRow : XfC K (eg .BadRow)
  xm_BadRow_PackError : PySem.W.exmOne K (.ref (eg .BadRow)) (.ref (eg .PackError)) = some true
  xk_BadRow_BadBinary : PySem.W.kitOne K (.ref (eg .BadRow)) (.ref (eg .BadBinary)) = some (isaE .BadRow .BadBinary)
  xk_BadRow_BadNumber : PySem.W.kitOne K (.ref (eg .BadRow)) (.ref (eg .BadNumber)) = some (isaE .BadRow .BadNumber)
  xk_BadRow_BadRow : PySem.W.kitOne K (.ref (eg .BadRow)) (.ref (eg .BadRow)) = some (isaE .BadRow .BadRow)
  xk_BadRow_BadSign : PySem.W.kitOne K (.ref (eg .BadRow)) (.ref (eg .BadSign)) = some (isaE .BadRow .BadSign)
  xk_BadRow_BadTree : PySem.W.kitOne K (.ref (eg .BadRow)) (.ref (eg .BadTree)) = some (isaE .BadRow .BadTree)
  xk_BadRow_ValueError : PySem.W.kitOne K (.ref (eg .BadRow)) (.type "ValueError") = some true
  no_BadSign_place : PySem.W.findIn K (.ref (eg .BadSign)) "place" = some none
  xc_BadSign : ExcC K (eg .BadSign)
  xf_BadSign : XfC K (eg .BadSign)
  xm_BadSign_PackError : PySem.W.exmOne K (.ref (eg .BadSign)) (.ref (eg .PackError)) = some true
  xk_BadSign_BadBinary : PySem.W.kitOne K (.ref (eg .BadSign)) (.ref (eg .BadBinary)) = some (isaE .BadSign .BadBinary)
  xk_BadSign_BadNumber : PySem.W.kitOne K (.ref (eg .BadSign)) (.ref (eg .BadNumber)) = some (isaE .BadSign .BadNumber)
  xk_BadSign_BadRow : PySem.W.kitOne K (.ref (eg .BadSign)) (.ref (eg .BadRow)) = some (isaE .BadSign .BadRow)
  xk_BadSign_BadSign : PySem.W.kitOne K (.ref (eg .BadSign)) (.ref (eg .BadSign)) = some (isaE .BadSign .BadSign)
  xk_BadSign_BadTree : PySem.W.kitOne K (.ref (eg .BadSign)) (.ref (eg .BadTree)) = some (isaE .BadSign .BadTree)
  xk_BadSign_ValueError : PySem.W.kitOne K (.ref (eg .BadSign)) (.type "ValueError") = some true
  q_CLOSE : ∃ t, mg "CLOSE" = some (.int (-1) t)
  z_ValueError : mg "ValueError" = none
  z_abs : mg "abs" = none
  z_bool : mg "bool" = none
  z_enumerate : mg "enumerate" = none
  z_int : mg "int" = none
  z_isinstance : mg "isinstance" = none
  z_len : mg "len" = none
  z_list : mg "list" = none
  z_max : mg "max" = none
  z_range : mg "range" = none
  z_tuple : mg "tuple" = none
section
variable {P : Program} {w : World} {K : PySem.W.Frag} {mg : Str → Option Value} {base : Heap} {eg : EK → Addr}
theorem Tx.ex_c_PackError (T : Tx K mg eg) {e : Err} (h : pk_PackError e = some true) : ExcC K (eg e.k) := by
  obtain ⟨k, fs⟩ := e
  cases k <;> cases fs <;> first | exact T.xc_BadBinary | exact T.xc_BadRow | exact T.xc_BadSign | cases h
theorem Tx.ex_f_PackError (T : Tx K mg eg) {e : Err} (h : pk_PackError e = some true) : XfC K (eg e.k) := by
  obtain ⟨k, fs⟩ := e
  cases k <;> cases fs <;> first | exact T.xf_BadBinary | exact T.xf_BadRow | exact T.xf_BadSign | cases h
theorem Tx.nx_PackError_place (T : Tx K mg eg) {e : Err} (h : pk_PackError e = some true) : PySem.W.findIn K (.ref (eg e.k)) "place" = some none := by
  obtain ⟨k, fs⟩ := e
  cases k <;> cases fs <;> first | exact T.no_BadBinary_place | exact T.no_BadRow_place | exact T.no_BadSign_place | cases h
theorem Tx.ex_PackError_BadBinary (T : Tx K mg eg) {e : Err} (h : pk_PackError e = some true) : PySem.W.kitOne K (.ref (eg e.k)) (.ref (eg .BadBinary)) = some (isaE e.k .BadBinary) := by
  obtain ⟨k, fs⟩ := e
  cases k <;> cases fs <;> first | exact T.xk_BadBinary_BadBinary | exact T.xk_BadRow_BadBinary | exact T.xk_BadSign_BadBinary | cases h
theorem Tx.ex_PackError_BadNumber (T : Tx K mg eg) {e : Err} (h : pk_PackError e = some true) : PySem.W.kitOne K (.ref (eg e.k)) (.ref (eg .BadNumber)) = some (isaE e.k .BadNumber) := by
  obtain ⟨k, fs⟩ := e
  cases k <;> cases fs <;> first | exact T.xk_BadBinary_BadNumber | exact T.xk_BadRow_BadNumber | exact T.xk_BadSign_BadNumber | cases h
theorem Tx.ex_PackError_BadRow (T : Tx K mg eg) {e : Err} (h : pk_PackError e = some true) : PySem.W.kitOne K (.ref (eg e.k)) (.ref (eg .BadRow)) = some (isaE e.k .BadRow) := by
  obtain ⟨k, fs⟩ := e
  cases k <;> cases fs <;> first | exact T.xk_BadBinary_BadRow | exact T.xk_BadRow_BadRow | exact T.xk_BadSign_BadRow | cases h
theorem Tx.ex_PackError_BadSign (T : Tx K mg eg) {e : Err} (h : pk_PackError e = some true) : PySem.W.kitOne K (.ref (eg e.k)) (.ref (eg .BadSign)) = some (isaE e.k .BadSign) := by
  obtain ⟨k, fs⟩ := e
  cases k <;> cases fs <;> first | exact T.xk_BadBinary_BadSign | exact T.xk_BadRow_BadSign | exact T.xk_BadSign_BadSign | cases h
theorem Tx.ex_PackError_BadTree (T : Tx K mg eg) {e : Err} (h : pk_PackError e = some true) : PySem.W.kitOne K (.ref (eg e.k)) (.ref (eg .BadTree)) = some (isaE e.k .BadTree) := by
  obtain ⟨k, fs⟩ := e
  cases k <;> cases fs <;> first | exact T.xk_BadBinary_BadTree | exact T.xk_BadRow_BadTree | exact T.xk_BadSign_BadTree | cases h
theorem Tx.ex_PackError_ValueError (T : Tx K mg eg) {e : Err} (h : pk_PackError e = some true) : PySem.W.kitOne K (.ref (eg e.k)) (.type "ValueError") = some true := by
  obtain ⟨k, fs⟩ := e
  cases k <;> cases fs <;> first | exact T.xk_BadBinary_ValueError | exact T.xk_BadRow_ValueError | exact T.xk_BadSign_ValueError | cases h
theorem Tx.ex_m_PackError (T : Tx K mg eg) (e : Err) (b : Bool) (h : pk_PackError e = some b) : PySem.W.exmOne K (.ref (eg e.k)) (.ref (eg .PackError)) = some b := by
  obtain ⟨k, fs⟩ := e
  cases k <;> cases fs <;> first | (cases h; first | exact T.xm_BadBinary_PackError | exact T.xm_BadRow_PackError | exact T.xm_BadSign_PackError) | cases h
theorem ok_iBadRow (T : Tx K mg eg) : FnOk P w K mg base (L2N.CX P w) 1 T.ia_BadRow T.id_BadRow ["self", "place"] (spIn K "place") := ok_in T.iu_BadRow sc_iBadRow rfl (Or.inl rfl) (Or.inl rfl) (by decide) (by decide) (fun _ _ _ => rfl)
theorem ok_iBadSign (T : Tx K mg eg) : FnOk P w K mg base (L2N.CX P w) 1 T.ia_BadSign T.id_BadSign ["self", "place"] (spIn K "place") := ok_in T.iu_BadSign sc_iBadSign rfl (Or.inl rfl) (Or.inl rfl) (by decide) (by decide) (fun _ _ _ => rfl)
theorem ok_checked_row (T : Tx K mg eg) : FnOk P w K mg base (L2N.CX P w) 3 T.a_checked_row T.d_checked_row ["row"] (spM K eg .own (fun y : (List Int) × Unit => m_checked_row y.1) (fun y => [aB K y.1])) := by
  refine fn_mir T.u_checked_row sc_checked_row (fun y => [sB K y.1]) (fun _ => rfl) (fun _ => rfl) fun cdv A outer s H E O y hr => ?_
  obtain ⟨v_row, _⟩ := y
  show JS _ [some (asn K H .bor v_row), none, none] _ (m_checked_row v_row) _
  unfold m_checked_row
  exact (js_for (tl := (fun s_2 : Unit => [some (asn K H .bor v_row), none, none])) (s0 := ()) (ji_enum T.z_enumerate (fun _ => rdeI) (je_nb 0 rfl (pv 0))) (pg_tup rfl (pgs_cons (pg_name (i := 1) sc_checked_row.nd rfl (Or.inl rfl)) (pgs_cons (pg_name (i := 2) sc_checked_row.nd rfl (Or.inl rfl)) pgs_nil))) (tgt_pair 1 2) (.keep (.drop (.drop .nil))) (fun x_3 s_2 => (js_ifL (jt_w (jw_or (jt_lt (je_ni 2 rfl (pv 2)) je_int) (jw_or1 (jt_gt (je_ni 2 rfl (pv 2)) je_int)))) (js_raise1 rfl tk_of T.oex_BadSign T.in_BadSign T.it_BadSign (ok_iBadSign T) (hr.mono (by decide)) T.ib_BadSign T.ino_BadSign T.g_BadSign (fun _ => rdV) (je_ni 1 rfl (pv 1)) trivial) (js_nilA rfl (.keep (.drop (.drop .nil)))))) (fun s_2 => (js_ret (je_listL T.z_list (fun y => Rd.els (rdS 0 rfl y)) (je_sl 0 rfl (pv 0))) (fun _ => rfl))) hpo_of)
theorem ok_matched (T : Tx K mg eg) : FnOk P w K mg base (L2N.CX P w) 4 T.a_matched T.d_matched ["row"] (spM K eg .own (fun y : (List Int) × Unit => m_matched y.1) (fun y => [aB K y.1])) := by
  refine fn_mir T.u_matched sc_matched (fun y => [sB K y.1]) (fun _ => rfl) (fun _ => rfl) fun cdv A outer s H E O y hr => ?_
  obtain ⟨v_row, _⟩ := y
  show JS _ [some (asn K H .bor v_row), none, none, none, none, none, none] _ (m_matched v_row) _
  unfold m_matched
  exact (js_set (i := 1) sc_matched.nd rfl (je_fn (ok_checked_row T) (hr.mono (by decide)) T.m_checked_row T.k_checked_row T.b_checked_row tk_of (ja_cons (je_sl 0 rfl (pv 0)) ja_nil) (fun _ => (psl_cons (psB ((rdS 0 rfl) _)) psl_nil)) trivial) fun signs_4 => (js_wk (.keep (.frz (.drop (.drop (.drop (.drop (.drop .nil))))))) (js_set (i := 2) sc_matched.nd rfl (je_rep (fun _ => rdeO) (je_list (ja_cons (je_neg je_int) ja_nil) (fun x_8 => [x_8.1]) (fun _ => (fzl_cons fzV fzl_nil)) (fun _ => Nat.le_of_ble_eq_true rfl)) (je_len T.z_len (fun _ => rdV) (je_nm 1 rfl (pv 1)))) fun partners_12 => (js_set (i := 3) sc_matched.nd rfl je_nil fun waiting_13 => (js_for (tl := (fun s_15 : (List Int) × (List Int) => [some (asn K H .bor v_row), some (asn K H .val signs_4), some (asn K H .own s_15.1), some (asn K H .own s_15.2), none, none, none])) (s0 := (partners_12, waiting_13)) (ji_enum T.z_enumerate (fun _ => rdeW (.inl rfl)) (je_nm 1 rfl (pv 1))) (pg_tup rfl (pgs_cons (pg_name (i := 4) sc_matched.nd rfl (Or.inl rfl)) (pgs_cons (pg_name (i := 5) sc_matched.nd rfl (Or.inl rfl)) pgs_nil))) (tgt_pair 4 5) (.keep (.keep (.keep (.keep (.drop (.drop (.drop .nil))))))) (fun x_16 s_15 => (js_ifL (jt_gt (je_ni 5 rfl (pv 5)) je_int) (js_app (xs := s_15.2) 3 rfl (fun _ => fzV) (je_ni 4 rfl (pv 4)) (fun h => pe_bm PySem.F.plainAttrs_list PySem.F.slot_list_append PySem.F.type_list_append mt_append (pv 3) h) fun waiting_21 => (js_nilA rfl (.keep (.keep (.keep (.keep (.drop (.drop (.drop .nil))))))))) (js_ifL (jt_gt (je_len T.z_len (rdS 3 rfl) (je_sl 3 rfl (pv 3))) je_int) (js_setM (i := 6) sc_matched.nd rfl (jm_pop 3 rfl (pe_bm0 PySem.F.plainAttrs_list PySem.F.slot_list_pop PySem.F.type_list_pop mt_pop (pv 3))) fun r_26 => (js_setI (xs := s_15.1) (val := fun y => y) 2 (jm_of (je_ni 4 rfl (pv 4))) (fun _ => rfl) (fun _ => fzV) (fun _ => (je_ni 6 rfl (pv 6))) (pv 2) fun y_27 partners_29 => (js_setI (xs := partners_29) (val := fun y => y) 2 (jm_of (je_ni 6 rfl (pv 6))) (fun _ => rfl) (fun _ => fzV) (fun _ => (je_ni 4 rfl (pv 4))) (pv 2) fun y_30 partners_32 => (js_nilA rfl (.keep (.keep (.keep (.keep (.drop (.drop (.drop .nil))))))))))) (js_nilA rfl (.keep (.keep (.keep (.keep (.drop (.drop (.drop .nil))))))))))) (fun s_15 => (js_retO 2 rfl (pv 2) (fun _ => rfl))) hpo_of)))))
theorem ok_checked_balanced (T : Tx K mg eg) : FnOk P w K mg base (L2N.CX P w) 5 T.a_checked_balanced T.d_checked_balanced ["row"] (spM K eg .own (fun y : (List Int) × Unit => m_checked_balanced y.1) (fun y => [aB K y.1])) := by
  refine fn_mir T.u_checked_balanced sc_checked_balanced (fun y => [sB K y.1]) (fun _ => rfl) (fun _ => rfl) fun cdv A outer s H E O y hr => ?_
  obtain ⟨v_row, _⟩ := y
  show JS _ [some (asn K H .bor v_row), none, none, none] _ (m_checked_balanced v_row) _
  unfold m_checked_balanced
  exact (js_set (i := 1) sc_checked_balanced.nd rfl (je_fn (ok_matched T) (hr.mono (by decide)) T.m_matched T.k_matched T.b_matched tk_of (ja_cons (je_sl 0 rfl (pv 0)) ja_nil) (fun _ => (psl_cons (psB ((rdS 0 rfl) _)) psl_nil)) trivial) fun partners_4 => (js_wk (.keep (.frz (.drop (.drop .nil)))) (js_for (tl := (fun s_6 : Unit => [some (asn K H .bor v_row), some (asn K H .val partners_4), none, none])) (s0 := ()) (ji_enum T.z_enumerate (fun _ => rdeI) (je_nb 0 rfl (pv 0))) (pg_tup rfl (pgs_cons (pg_name (i := 2) sc_checked_balanced.nd rfl (Or.inl rfl)) (pgs_cons (pg_name (i := 3) sc_checked_balanced.nd rfl (Or.inl rfl)) pgs_nil))) (tgt_pair 2 3) (.keep (.keep (.drop (.drop .nil)))) (fun x_7 s_6 => (js_ifL (jt_w (jw_and (jt_eq (je_ni 3 rfl (pv 3)) je_int) (jw_and1 (jt_eq (je_item (fun _ => rdeV) (je_nm 1 rfl (pv 1)) (je_ni 2 rfl (pv 2))) (je_neg je_int))))) (js_raise1 rfl tk_of T.oex_BadRow T.in_BadRow T.it_BadRow (ok_iBadRow T) (hr.mono (by decide)) T.ib_BadRow T.ino_BadRow T.g_BadRow (fun _ => rdV) (je_ni 2 rfl (pv 2)) trivial) (js_nilA rfl (.keep (.keep (.drop (.drop .nil))))))) (fun s_6 => (js_ifA (jt_in (je_neg je_int) (je_nm 1 rfl (pv 1)) (fun _ => rdV) (fun _ => rdV)) (js_raise1 rfl tk_of T.oex_BadRow T.in_BadRow T.it_BadRow (ok_iBadRow T) (hr.mono (by decide)) T.ib_BadRow T.ino_BadRow T.g_BadRow (fun _ => rdV) (je_len T.z_len (rdS 0 rfl) (je_sl 0 rfl (pv 0))) trivial) (js_ret (je_listL T.z_list (fun y => Rd.els (rdS 0 rfl y)) (je_sl 0 rfl (pv 0))) (fun _ => rfl)))) hpo_of)))
theorem ok_opening_number (T : Tx K mg eg) : FnOk P w K mg base (L2N.CX P w) 2 T.a_opening_number T.d_opening_number ["signs", "numbers", "place"] (spM K eg .val (fun y : (List Int) × (List Int) × Int × Unit => m_opening_number y.1 y.2.1 y.2.2.1) (fun y => [aB K y.1, aB K y.2.1, aV K y.2.2.1])) := by
  refine fn_mir T.u_opening_number sc_opening_number (fun y => [sB K y.1, sB K y.2.1, sV K y.2.2.1]) (fun _ => rfl) (fun _ => rfl) fun cdv A outer s H E O y hr => ?_
  obtain ⟨v_signs, v_numbers, v_place, _⟩ := y
  show JS _ [some (asn K H .bor v_signs), some (asn K H .bor v_numbers), some (asn K H .val v_place)] _ (m_opening_number v_signs v_numbers v_place) _
  unfold m_opening_number
  exact (js_ifA (jt_w (jw_and (jt_lt (je_ni 2 rfl (pv 2)) (je_len T.z_len (rdS 0 rfl) (je_sl 0 rfl (pv 0)))) (jw_and1 (jt_gt (je_item (fun y => Rd.els (rdS 0 rfl y)) (je_sl 0 rfl (pv 0)) (je_ni 2 rfl (pv 2))) je_int)))) (js_ret (je_item (fun y => Rd.els (rdS 1 rfl y)) (je_sl 1 rfl (pv 1)) (je_ni 2 rfl (pv 2))) (fun _ => rfl)) (js_ret (je_neg je_int) (fun _ => rfl)))
theorem ok_binary_of_row (T : Tx K mg eg) : FnOk P w K mg base (L2N.CX P w) 6 T.a_binary_of_row T.d_binary_of_row ["row"] (spM K eg .own (fun y : (List Int) × Unit => m_binary_of_row y.1) (fun y => [aB K y.1])) := by
  refine fn_mir T.u_binary_of_row sc_binary_of_row (fun y => [sB K y.1]) (fun _ => rfl) (fun _ => rfl) fun cdv A outer s H E O y hr => ?_
  obtain ⟨v_row, _⟩ := y
  show JS _ [some (asn K H .bor v_row), none, none, none, none, none, none, none, none, none] _ (m_binary_of_row v_row) _
  unfold m_binary_of_row
  exact (js_set (i := 1) sc_binary_of_row.nd rfl (je_fn (ok_checked_balanced T) (hr.mono (by decide)) T.m_checked_balanced T.k_checked_balanced T.b_checked_balanced tk_of (ja_cons (je_sl 0 rfl (pv 0)) ja_nil) (fun _ => (psl_cons (psB ((rdS 0 rfl) _)) psl_nil)) trivial) fun signs_4 => (js_wk (.keep (.frz (.drop (.drop (.drop (.drop (.drop (.drop (.drop (.drop .nil)))))))))) (js_set (i := 2) sc_binary_of_row.nd rfl (je_fn (ok_matched T) (hr.mono (by decide)) T.m_matched T.k_matched T.b_matched tk_of (ja_cons (je_nm 1 rfl (pv 1)) ja_nil) (fun _ => (psl_cons (psB ((fun _ => rdV) _)) psl_nil)) trivial) fun partners_8 => (js_wk (.keep (.keep (.frz (.drop (.drop (.drop (.drop (.drop (.drop (.drop .nil)))))))))) (js_set (i := 3) sc_binary_of_row.nd rfl je_nil fun numbers_9 => (js_set (i := 4) sc_binary_of_row.nd rfl je_int fun opened_10 => (js_for (tl := (fun s_11 : (List Int) × Int => [some (asn K H .bor v_row), some (asn K H .val signs_4), some (asn K H .val partners_8), some (asn K H .own s_11.1), some (asn K H .val s_11.2), none, none, none, none, none])) (s0 := (numbers_9, opened_10)) (ji_list (fun _ => rdeW (.inl rfl)) (je_nm 1 rfl (pv 1))) (pg_name (i := 5) sc_binary_of_row.nd rfl (Or.inl rfl)) (tgt_name 5) (.keep (.keep (.keep (.keep (.keep (.drop (.drop (.drop (.drop (.drop .nil)))))))))) (fun x_12 s_11 => (js_app (xs := s_11.1) 3 rfl (fun _ => fzV) (je_ni 4 rfl (pv 4)) (fun h => pe_bm PySem.F.plainAttrs_list PySem.F.slot_list_append PySem.F.type_list_append mt_append (pv 3) h) fun numbers_14 => (js_ifL (jt_gt (je_ni 5 rfl (pv 5)) je_int) (js_augB 4 ip_add rfl sc_binary_of_row.nd rfl je_int (fun opened_19 => (js_nilA rfl (.keep (.keep (.keep (.keep (.keep (.drop (.drop (.drop (.drop (.drop .nil))))))))))))) (js_nilA rfl (.keep (.keep (.keep (.keep (.keep (.drop (.drop (.drop (.drop (.drop .nil)))))))))))))) (fun s_11 => (js_set (i := 6) sc_binary_of_row.nd rfl je_nil fun triples_20 => (js_for (tl := (fun s_22 : (List (T3 Int Int Int)) => [some (asn K H .bor v_row), some (asn K H .val signs_4), some (asn K H .val partners_8), some (asn K H .own s_11.1), some (asn K H .val s_11.2), none, some (asn K H .own s_22), none, none, none])) (s0 := triples_20) (ji_enum T.z_enumerate (fun _ => rdeW (.inl rfl)) (je_nm 1 rfl (pv 1))) (pg_tup rfl (pgs_cons (pg_name (i := 7) sc_binary_of_row.nd rfl (Or.inl rfl)) (pgs_cons (pg_name (i := 5) sc_binary_of_row.nd rfl (Or.inl rfl)) pgs_nil))) (tgt_pair 7 5) (.keep (.keep (.keep (.keep (.keep (.drop (.keep (.drop (.drop (.drop .nil)))))))))) (fun x_23 s_22 => (js_ifL (jt_gt (je_ni 5 rfl (pv 5)) je_int) (js_set (i := 8) sc_binary_of_row.nd rfl (je_fn (ok_opening_number T) (hr.mono (by decide)) T.m_opening_number T.k_opening_number T.b_opening_number tk_of (ja_cons (je_nm 1 rfl (pv 1)) (ja_cons (je_sl 3 rfl (pv 3)) (ja_cons (je_add (je_ni 7 rfl (pv 7)) je_int) ja_nil))) (fun _ => (psl_cons (psB ((fun _ => rdV) _)) (psl_cons (psB ((rdS 3 rfl) _)) (psl_cons (psV fzV) psl_nil)))) trivial) fun left_37 => (js_set (i := 9) sc_binary_of_row.nd rfl (je_fn (ok_opening_number T) (hr.mono (by decide)) T.m_opening_number T.k_opening_number T.b_opening_number tk_of (ja_cons (je_nm 1 rfl (pv 1)) (ja_cons (je_sl 3 rfl (pv 3)) (ja_cons (je_add (je_item (fun _ => rdeV) (je_nm 2 rfl (pv 2)) (je_ni 7 rfl (pv 7))) je_int) ja_nil))) (fun _ => (psl_cons (psB ((fun _ => rdV) _)) (psl_cons (psB ((rdS 3 rfl) _)) (psl_cons (psV fzV) psl_nil)))) trivial) fun right_50 => (js_app (xs := s_22) 6 rfl (fun _ => fzV) (je_tup3 (fun _ => fzV) (fun _ => fzV) (fun _ => fzV) (ja_cons (je_ni 5 rfl (pv 5)) (ja_cons (je_ni 8 rfl (pv 8)) (ja_cons (je_ni 9 rfl (pv 9)) ja_nil)))) (fun h => pe_bm PySem.F.plainAttrs_list PySem.F.slot_list_append PySem.F.type_list_append mt_append (pv 6) h) fun triples_59 => (js_nilA rfl (.keep (.keep (.keep (.keep (.keep (.drop (.keep (.drop (.drop (.drop .nil)))))))))))))) (js_nilA rfl (.keep (.keep (.keep (.keep (.keep (.drop (.keep (.drop (.drop (.drop .nil))))))))))))) (fun s_22 => (js_retO 6 rfl (pv 6) (fun _ => rfl))) hpo_of))) hpo_of)))))))
theorem ok_row_of_binary (T : Tx K mg eg) : FnOk P w K mg base (L2N.CX P w) 3 T.a_row_of_binary T.d_row_of_binary ["triples"] (spM K eg .own (fun y : (List (T3 Int Int Int)) × Unit => m_row_of_binary y.1) (fun y => [aB K y.1])) := by
  refine fn_mir T.u_row_of_binary sc_row_of_binary (fun y => [sB K y.1]) (fun _ => rfl) (fun _ => rfl) fun cdv A outer s H E O y hr => ?_
  obtain ⟨v_triples, _⟩ := y
  show JS _ [some (asn K H .bor v_triples), none, none, none, none, none, none, none] _ (m_row_of_binary v_triples) _
  unfold m_row_of_binary
  exact (js_set (i := 1) sc_row_of_binary.nd rfl je_nil fun row_1 => (js_set (i := 2) sc_row_of_binary.nd rfl je_int fun seen_2 => (js_set (i := 3) sc_row_of_binary.nd rfl (je_if (jt_gt (je_len T.z_len (rdS 0 rfl) (je_sl 0 rfl (pv 0))) je_int) (je_list (ja_cons je_int ja_nil) (fun x_8 => [x_8.1]) (fun _ => (fzl_cons fzV fzl_nil)) (fun _ => Nat.le_of_ble_eq_true rfl)) je_nil) fun waiting_10 => (js_while (tl := (fun s_11 : (List Int) × Int × (List Int) => [some (asn K H .bor v_triples), some (asn K H .own s_11.1), some (asn K H .val s_11.2.1), some (asn K H .own s_11.2.2), none, none, none, none])) (s0 := (row_1, seen_2, waiting_10)) (n := 16777216) (.keep (.keep (.keep (.keep (.drop (.drop (.drop (.drop .nil)))))))) (fun s_11 => (jt_gt (je_len T.z_len (rdS 3 rfl) (je_sl 3 rfl (pv 3))) je_int)) (fun s_11 => (js_setM (i := 4) sc_row_of_binary.nd rfl (jm_pop 3 rfl (pe_bm0 PySem.F.plainAttrs_list PySem.F.slot_list_pop PySem.F.type_list_pop mt_pop (pv 3))) fun r_15 => (js_ifA (jt_eq (je_ni 4 rfl (pv 4)) (je_gint T.q_CLOSE)) (js_app (xs := s_11.1) 1 rfl (fun _ => fzV) je_int (fun h => pe_bm PySem.F.plainAttrs_list PySem.F.slot_list_append PySem.F.type_list_append mt_append (pv 1) h) fun row_20 => (js_cont (by first | exact .inl rfl | exact .inr rfl) (.keep (.keep (.keep (.keep (.drop (.drop (.drop (.drop .nil)))))))))) (js_ifA (jt_w (jw_or (jt_ne (je_ni 4 rfl (pv 4)) (je_ni 2 rfl (pv 2))) (jw_or1 (jt_eq (je_ni 2 rfl (pv 2)) (je_len T.z_len (rdS 0 rfl) (je_sl 0 rfl (pv 0))))))) (js_raise0 rfl tk_of PySem.F.excBase_ValueError T.xq_BadBinary T.kc_BadBinary (raises_own T.xb_BadBinary T.xt_BadBinary) T.g_BadBinary trivial) (js_asg (jm_of (je_item (fun y => Rd.els (rdS 0 rfl y)) (je_sl 0 rfl (pv 0)) (je_ni 4 rfl (pv 4)))) (pg_tup rfl (pgs_cons (pg_name (i := 5) sc_row_of_binary.nd rfl (Or.inl rfl)) (pgs_cons (pg_name (i := 6) sc_row_of_binary.nd rfl (Or.inl rfl)) (pgs_cons (pg_name (i := 7) sc_row_of_binary.nd rfl (Or.inl rfl)) pgs_nil)))) (tgt_3 5 6 7) fun t_28 => (js_at (ts := [some (asn K H .bor v_triples), some (asn K H .own s_11.1), some (asn K H .val s_11.2.1), some (asn K H .own r_15.2), some (asn K H .val r_15.1), some (asn K H .val t_28.a), some (asn K H .val t_28.b), some (asn K H .val t_28.c)]) (js_ifA (jt_w (jw_or (jt_lt (je_ni 5 rfl (pv 5)) je_int) (jw_or1 (jt_gt (je_ni 5 rfl (pv 5)) je_int)))) (js_raise0 rfl tk_of PySem.F.excBase_ValueError T.xq_BadBinary T.kc_BadBinary (raises_own T.xb_BadBinary T.xt_BadBinary) T.g_BadBinary trivial) (js_augB 2 ip_add rfl sc_row_of_binary.nd rfl je_int (fun seen_38 => (js_app (xs := s_11.1) 1 rfl (fun _ => fzV) (je_ni 5 rfl (pv 5)) (fun h => pe_bm PySem.F.plainAttrs_list PySem.F.slot_list_append PySem.F.type_list_append mt_append (pv 1) h) fun row_40 => (js_ifJ (tj := (fun s_45 : (List Int) => [some (asn K H .bor v_triples), some (asn K H .own row_40), some (asn K H .val seen_38), some (asn K H .own s_45), some (asn K H .val r_15.1), some (asn K H .val t_28.a), some (asn K H .val t_28.b), some (asn K H .val t_28.c)])) (jt_ne (je_ni 7 rfl (pv 7)) (je_neg je_int)) (js_app (xs := r_15.2) 3 rfl (fun _ => fzV) (je_ni 7 rfl (pv 7)) (fun h => pe_bm PySem.F.plainAttrs_list PySem.F.slot_list_append PySem.F.type_list_append mt_append (pv 3) h) fun waiting_47 => (js_nil rfl (.keep (.keep (.keep (.keep (.keep (.keep (.keep (.keep (.nil))))))))))) (js_nil rfl (.keep (.keep (.keep (.keep (.keep (.keep (.keep (.keep (.nil)))))))))) fun s_45 => (js_app (xs := s_45) 3 rfl (fun _ => fzV) (je_gint T.q_CLOSE) (fun h => pe_bm PySem.F.plainAttrs_list PySem.F.slot_list_append PySem.F.type_list_append mt_append (pv 3) h) fun waiting_49 => (js_ifL (jt_ne (je_ni 6 rfl (pv 6)) (je_neg je_int)) (js_app (xs := waiting_49) 3 rfl (fun _ => fzV) (je_ni 6 rfl (pv 6)) (fun h => pe_bm PySem.F.plainAttrs_list PySem.F.slot_list_append PySem.F.type_list_append mt_append (pv 3) h) fun waiting_55 => (js_nilA rfl (.keep (.keep (.keep (.keep (.drop (.drop (.drop (.drop .nil)))))))))) (js_nilA rfl (.keep (.keep (.keep (.keep (.drop (.drop (.drop (.drop .nil)))))))))))))))))))))) (fun s_11 => (js_ifA (jt_lt (je_ni 2 rfl (pv 2)) (je_len T.z_len (rdS 0 rfl) (je_sl 0 rfl (pv 0)))) (js_raise0 rfl tk_of PySem.F.excBase_ValueError T.xq_BadBinary T.kc_BadBinary (raises_own T.xb_BadBinary T.xt_BadBinary) T.g_BadBinary trivial) (js_retO 1 rfl (pv 1) (fun _ => rfl)))) hpo_of))))
theorem ok__law_digits (T : Tx K mg eg) : FnOk P w K mg base (L2N.CX P w) 2 T.a__law_digits T.d__law_digits ["script", "many"] (spM K eg .own (fun y : Scr × Int × Unit => m__law_digits y.1 y.2.1) (fun y => [aV K y.1, aV K y.2.1])) := by
  refine fn_mir T.u__law_digits sc__law_digits (fun y => [sV K y.1, sV K y.2.1]) (fun _ => rfl) (fun _ => rfl) fun cdv A outer s H E O y hr => ?_
  obtain ⟨v_script, v_many, _⟩ := y
  show JS _ [some (asn K H .val v_script), some (asn K H .val v_many), none, none, none, none, none, none] _ (m__law_digits v_script v_many) _
  unfold m__law_digits
  exact (js_set (i := 2) sc__law_digits.nd rfl je_nil fun pool_1 => (js_for (tl := (fun s_10 : (List Int) => [some (asn K H .val v_script), some (asn K H .val v_many), some (asn K H .own s_10), none, none, none, none, none])) (s0 := pool_1) (ji_list (fun _ => rdeW (.inr rfl)) (je_sliceS (fun _ => rdV) (je_nm 0 rfl (pv 0)) jo_none (jo_some je_int))) (pg_name (i := 3) sc__law_digits.nd rfl (Or.inl rfl)) (tgt_name 3) (.keep (.keep (.keep (.drop (.drop (.drop (.drop (.drop .nil)))))))) (fun x_11 s_10 => (js_set (i := 4) sc__law_digits.nd rfl (je_mod (je_abs T.z_abs (je_intI T.z_int (je_ni 3 rfl (pv 3)))) je_powK) fun left_17 => (js_app (xs := s_10) 2 rfl (fun _ => fzV) (je_modK (je_ni 4 rfl (pv 4))) (fun h => pe_bm PySem.F.plainAttrs_list PySem.F.slot_list_append PySem.F.type_list_append mt_append (pv 2) h) fun pool_20 => (js_for (tl := (fun s_22 : (List Int) × Int => [some (asn K H .val v_script), some (asn K H .val v_many), some (asn K H .own s_22.1), some (asn K H .val x_11), some (asn K H .val s_22.2), none, none, none])) (s0 := (pool_20, left_17)) (ji_range1 T.z_range je_int) (pg_name (i := 5) sc__law_digits.nd rfl (Or.inl rfl)) (tgt_name 5) (.keep (.keep (.keep (.keep (.keep (.drop (.drop (.drop .nil)))))))) (fun x_23 s_22 => (js_set (i := 4) sc__law_digits.nd rfl (je_divK (je_ni 4 rfl (pv 4))) fun left_25 => (js_ifL (jt_w (jw_and (jt_gt (je_ni 4 rfl (pv 4)) je_int) (jw_and1 (jt_lt (je_len T.z_len (rdS 2 rfl) (je_sl 2 rfl (pv 2))) (je_ni 1 rfl (pv 1)))))) (js_app (xs := s_22.1) 2 rfl (fun _ => fzV) (je_modK (je_ni 4 rfl (pv 4))) (fun h => pe_bm PySem.F.plainAttrs_list PySem.F.slot_list_append PySem.F.type_list_append mt_append (pv 2) h) fun pool_35 => (js_nilA rfl (.keep (.keep (.keep (.keep (.keep (.drop (.drop (.drop .nil)))))))))) (js_nilA rfl (.keep (.keep (.keep (.keep (.keep (.drop (.drop (.drop .nil)))))))))))) (fun s_22 => (js_nilA rfl (.keep (.keep (.keep (.drop (.drop (.drop (.drop (.drop .nil)))))))))) hpo_of)))) (fun s_10 => (js_ifJ (tj := (fun s_39 : (List Int) => [some (asn K H .val v_script), some (asn K H .val v_many), some (asn K H .own s_39), none, none, none, none, none])) (jt_eqD hr (je_sl 2 rfl (pv 2)) je_nil (rdS 2 rfl) (fun _ => rdO)) (js_app (xs := s_10) 2 rfl (fun _ => fzV) je_int (fun h => pe_bm PySem.F.plainAttrs_list PySem.F.slot_list_append PySem.F.type_list_append mt_append (pv 2) h) fun pool_41 => (js_nil rfl (.keep (.keep (.keep (.drop (.drop (.drop (.drop (.drop .nil)))))))))) (js_nil rfl (.keep (.keep (.keep (.drop (.drop (.drop (.drop (.drop .nil))))))))) fun s_39 => (js_set (i := 6) sc__law_digits.nd rfl (je_len T.z_len (rdS 2 rfl) (je_sl 2 rfl (pv 2))) fun size_43 => (js_set (i := 7) sc__law_digits.nd rfl je_nil fun digits_44 => (js_for (tl := (fun s_46 : (List Int) => [some (asn K H .val v_script), some (asn K H .val v_many), some (asn K H .own s_39), none, none, none, some (asn K H .val size_43), some (asn K H .own s_46)])) (s0 := digits_44) (ji_range1 T.z_range (je_ni 1 rfl (pv 1))) (pg_name (i := 5) sc__law_digits.nd rfl (Or.inl rfl)) (tgt_name 5) (.keep (.keep (.keep (.drop (.drop (.drop (.keep (.keep (.nil))))))))) (fun x_47 s_46 => (js_app (xs := s_46) 7 rfl (fun _ => fzV) (je_modK (je_add (je_item (rdeS 2 rfl) (je_sl 2 rfl (pv 2)) (je_mod (je_ni 5 rfl (pv 5)) (je_ni 6 rfl (pv 6)))) (je_mul (je_ni 5 rfl (pv 5)) (je_intB T.z_int (je_ge (je_ni 5 rfl (pv 5)) (je_ni 6 rfl (pv 6))))))) (fun h => pe_bm PySem.F.plainAttrs_list PySem.F.slot_list_append PySem.F.type_list_append mt_append (pv 7) h) fun digits_64 => (js_nilA rfl (.keep (.keep (.keep (.drop (.drop (.drop (.keep (.keep (.nil)))))))))))) (fun s_46 => (js_retO 7 rfl (pv 7) (fun _ => rfl))) hpo_of))))) hpo_of))
theorem ok__law_whole (T : Tx K mg eg) : FnOk P w K mg base (L2N.CX P w) 2 T.a__law_whole T.d__law_whole ["told"] (spM K eg .val (fun y : Int × Unit => m__law_whole y.1) (fun y => [aV K y.1])) := by
  refine fn_mir T.u__law_whole sc__law_whole (fun y => [sV K y.1]) (fun _ => rfl) (fun _ => rfl) fun cdv A outer s H E O y hr => ?_
  obtain ⟨v_told, _⟩ := y
  show JS _ [some (asn K H .val v_told)] _ (m__law_whole v_told) _
  unfold m__law_whole
  exact (js_ret (je_and (je_isi (T := "int") (r := (fun _ => true)) T.z_isinstance T.z_int (by decide +kernel) (fun _ => (by decide +kernel : kitB "int" "int" = some true)) (fun _ => rdV) (je_ni 0 rfl (pv 0))) (je_one (je_not (je_isi (T := "bool") (r := (fun _ => false)) T.z_isinstance T.z_bool (by decide +kernel) (fun _ => (by decide +kernel : kitB "int" "bool" = some false)) (fun _ => rdV) (je_ni 0 rfl (pv 0)))))) (fun _ => rfl))
theorem ok__law_row (T : Tx K mg eg) : FnOk P w K mg base (L2N.CX P w) 3 T.a__law_row T.d__law_row ["told", "due"] (spM K eg .val (fun y : (List Int) × (List Int) × Unit => m__law_row y.1 y.2.1) (fun y => [aB K y.1, aB K y.2.1])) := by
  refine fn_mir T.u__law_row sc__law_row (fun y => [sB K y.1, sB K y.2.1]) (fun _ => rfl) (fun _ => rfl) fun cdv A outer s H E O y hr => ?_
  obtain ⟨v_told, v_due, _⟩ := y
  show JS _ [some (asn K H .bor v_told), some (asn K H .bor v_due), none] _ (m__law_row v_told v_due) _
  unfold m__law_row
  exact (js_ifA (jt_w (jw_or (jt_not (jt_val (je_isi (T := "list") (r := (fun _ => true)) T.z_isinstance T.z_list (by decide +kernel) (fun _ => (by decide +kernel : kitB "list" "list" = some true)) (rdS 0 rfl) (je_sl 0 rfl (pv 0))))) (jw_or1 (jt_ne (je_len T.z_len (rdS 0 rfl) (je_sl 0 rfl (pv 0))) (je_len T.z_len (rdS 1 rfl) (je_sl 1 rfl (pv 1))))))) (js_ret je_bl (fun _ => rfl)) (js_for (tl := (fun s_12 : Unit => [some (asn K H .bor v_told), some (asn K H .bor v_due), none])) (s0 := ()) (ji_range1 T.z_range (je_len T.z_len (rdS 1 rfl) (je_sl 1 rfl (pv 1)))) (pg_name (i := 2) sc__law_row.nd rfl (Or.inl rfl)) (tgt_name 2) (.keep (.keep (.drop .nil))) (fun x_13 s_12 => (js_ifL (jt_w (jw_or (jt_not (jt_val (je_fn (ok__law_whole T) (hr.mono (by decide)) T.m__law_whole T.k__law_whole T.b__law_whole tk_of (ja_cons (je_item (fun y => Rd.els (rdS 0 rfl y)) (je_sl 0 rfl (pv 0)) (je_ni 2 rfl (pv 2))) ja_nil) (fun _ => (psl_cons (psV fzV) psl_nil)) trivial))) (jw_or1 (jt_ne (je_item (fun y => Rd.els (rdS 0 rfl y)) (je_sl 0 rfl (pv 0)) (je_ni 2 rfl (pv 2))) (je_item (fun y => Rd.els (rdS 1 rfl y)) (je_sl 1 rfl (pv 1)) (je_ni 2 rfl (pv 2))))))) (js_ret je_bl (fun _ => rfl)) (js_nilA rfl (.keep (.keep (.drop .nil)))))) (fun s_12 => (js_ret je_bl (fun _ => rfl))) hpo_of))
theorem ok__law_table (T : Tx K mg eg) : FnOk P w K mg base (L2N.CX P w) 4 T.a__law_table T.d__law_table ["told", "due"] (spM K eg .val (fun y : (List (T3 Int Int Int)) × (List (T3 Int Int Int)) × Unit => m__law_table y.1 y.2.1) (fun y => [aB K y.1, aB K y.2.1])) := by
  refine fn_mir T.u__law_table sc__law_table (fun y => [sB K y.1, sB K y.2.1]) (fun _ => rfl) (fun _ => rfl) fun cdv A outer s H E O y hr => ?_
  obtain ⟨v_told, v_due, _⟩ := y
  show JS _ [some (asn K H .bor v_told), some (asn K H .bor v_due), none] _ (m__law_table v_told v_due) _
  unfold m__law_table
  exact (js_ifA (jt_w (jw_or (jt_not (jt_val (je_isi (T := "list") (r := (fun _ => true)) T.z_isinstance T.z_list (by decide +kernel) (fun _ => (by decide +kernel : kitB "list" "list" = some true)) (rdS 0 rfl) (je_sl 0 rfl (pv 0))))) (jw_or1 (jt_ne (je_len T.z_len (rdS 0 rfl) (je_sl 0 rfl (pv 0))) (je_len T.z_len (rdS 1 rfl) (je_sl 1 rfl (pv 1))))))) (js_ret je_bl (fun _ => rfl)) (js_for (tl := (fun s_12 : Unit => [some (asn K H .bor v_told), some (asn K H .bor v_due), none])) (s0 := ()) (ji_range1 T.z_range (je_len T.z_len (rdS 1 rfl) (je_sl 1 rfl (pv 1)))) (pg_name (i := 2) sc__law_table.nd rfl (Or.inl rfl)) (tgt_name 2) (.keep (.keep (.drop .nil))) (fun x_13 s_12 => (js_ifA (jt_not (jt_val (je_isi (T := "tuple") (r := (fun _ => true)) T.z_isinstance T.z_tuple (by decide +kernel) (fun _ => (by decide +kernel : kitB "tuple" "tuple" = some true)) (fun _ => rdV) (je_item (fun y => Rd.els (rdS 0 rfl y)) (je_sl 0 rfl (pv 0)) (je_ni 2 rfl (pv 2)))))) (js_ret je_bl (fun _ => rfl)) (js_ifL (jt_not (jt_val (je_fn (ok__law_row T) (hr.mono (by decide)) T.m__law_row T.k__law_row T.b__law_row tk_of (ja_cons (je_listT T.z_list (je_t3tup (je_item (fun y => Rd.els (rdS 0 rfl y)) (je_sl 0 rfl (pv 0)) (je_ni 2 rfl (pv 2))))) (ja_cons (je_listT T.z_list (je_t3tup (je_item (fun y => Rd.els (rdS 1 rfl y)) (je_sl 1 rfl (pv 1)) (je_ni 2 rfl (pv 2))))) ja_nil)) (fun _ => (psl_cons (psB ((fun _ => rdO) _)) (psl_cons (psB ((fun _ => rdO) _)) psl_nil))) trivial))) (js_ret je_bl (fun _ => rfl)) (js_nilA rfl (.keep (.keep (.drop .nil))))))) (fun s_12 => (js_ret je_bl (fun _ => rfl))) hpo_of))
theorem ok__law_forest (T : Tx K mg eg) : FnOk P w K mg base (L2N.CX P w) 2 T.a__law_forest T.d__law_forest ["digits", "size"] (spM K eg .own (fun y : (List Int) × Int × Unit => m__law_forest y.1 y.2.1) (fun y => [aB K y.1, aV K y.2.1])) := by
  refine fn_mir T.u__law_forest sc__law_forest (fun y => [sB K y.1, sV K y.2.1]) (fun _ => rfl) (fun _ => rfl) fun cdv A outer s H E O y hr => ?_
  obtain ⟨v_digits, v_size, _⟩ := y
  show JS _ [some (asn K H .bor v_digits), some (asn K H .val v_size), none, none, none, none, none, none, none] _ (m__law_forest v_digits v_size) _
  unfold m__law_forest
  exact (js_set (i := 2) sc__law_forest.nd rfl je_int fun few_1 => (js_ifJ (tj := (fun s_8 : Int => [some (asn K H .bor v_digits), some (asn K H .val v_size), some (asn K H .val s_8), none, none, none, none, none, none])) (jt_eq (je_modK (je_item (fun y => Rd.els (rdS 0 rfl y)) (je_sl 0 rfl (pv 0)) je_int)) je_int) (js_set (i := 2) sc__law_forest.nd rfl (je_add je_int (je_modK (je_item (fun y => Rd.els (rdS 0 rfl y)) (je_sl 0 rfl (pv 0)) je_int))) fun few_15 => (js_nil rfl (.keep (.keep (.keep (.drop (.drop (.drop (.drop (.drop (.drop .nil))))))))))) (js_nil rfl (.keep (.keep (.keep (.drop (.drop (.drop (.drop (.drop (.drop .nil)))))))))) fun s_8 => (js_set (i := 3) sc__law_forest.nd rfl je_nil fun pairs_16 => (js_set (i := 4) sc__law_forest.nd rfl je_nil fun path_17 => (js_for (tl := (fun s_19 : (List (Int × Int)) × (List Int) => [some (asn K H .bor v_digits), some (asn K H .val v_size), some (asn K H .val s_8), some (asn K H .own s_19.1), some (asn K H .own s_19.2), none, none, none, none])) (s0 := (pairs_16, path_17)) (ji_range1 T.z_range (je_ni 1 rfl (pv 1))) (pg_name (i := 5) sc__law_forest.nd rfl (Or.inl rfl)) (tgt_name 5) (.keep (.keep (.keep (.keep (.keep (.drop (.drop (.drop (.drop .nil))))))))) (fun x_20 s_19 => (js_set (i := 6) sc__law_forest.nd rfl (je_item (fun y => Rd.els (rdS 0 rfl y)) (je_sl 0 rfl (pv 0)) (je_add je_int (je_ni 5 rfl (pv 5)))) fun mark_26 => (js_set (i := 7) sc__law_forest.nd rfl (je_sub (je_len T.z_len (rdS 4 rfl) (je_sl 4 rfl (pv 4))) (je_intB T.z_int (je_gt (je_modK (je_ni 6 rfl (pv 6))) je_int))) fun keep_35 => (js_ifJ (tj := (fun s_40 : Int => [some (asn K H .bor v_digits), some (asn K H .val v_size), some (asn K H .val s_8), some (asn K H .own s_19.1), some (asn K H .own s_19.2), some (asn K H .val x_20), some (asn K H .val mark_26), some (asn K H .val s_40), none])) (jt_eq (je_modK (je_ni 6 rfl (pv 6))) je_int) (js_set (i := 7) sc__law_forest.nd rfl (je_mod (je_item (fun y => Rd.els (rdS 0 rfl y)) (je_sl 0 rfl (pv 0)) (je_add je_int (je_ni 5 rfl (pv 5)))) (je_add (je_len T.z_len (rdS 4 rfl) (je_sl 4 rfl (pv 4))) je_int)) fun keep_53 => (js_nil rfl (.keep (.keep (.keep (.keep (.keep (.keep (.keep (.keep (.drop .nil))))))))))) (js_nil rfl (.keep (.keep (.keep (.keep (.keep (.keep (.keep (.keep (.drop .nil)))))))))) fun s_40 => (js_set (i := 4) sc__law_forest.nd rfl (je_slice (rdeS 4 rfl) (je_sl 4 rfl (pv 4)) jo_none (jo_some (je_max2 rfl T.z_max je_int (je_ni 7 rfl (pv 7))))) fun path_60 => (js_set (i := 8) sc__law_forest.nd rfl (je_if (jt_neD hr (je_sl 4 rfl (pv 4)) je_nil (rdS 4 rfl) (fun _ => rdO)) (je_item (rdeS 4 rfl) (je_sl 4 rfl (pv 4)) (je_neg je_int)) (je_neg je_int)) fun up_68 => (js_app (xs := s_19.1) 3 rfl (fun _ => fzV) (je_tup2 (fun _ => fzV) (fun _ => fzV) (ja_cons (je_ni 8 rfl (pv 8)) (ja_cons (je_add je_int (je_modK (je_add (je_mod (je_divK (je_ni 6 rfl (pv 6))) (je_ni 2 rfl (pv 2))) (je_item (fun y => Rd.els (rdS 0 rfl y)) (je_sl 0 rfl (pv 0)) je_int)))) ja_nil))) (fun h => pe_bm PySem.F.plainAttrs_list PySem.F.slot_list_append PySem.F.type_list_append mt_append (pv 3) h) fun pairs_88 => (js_app (xs := path_60) 4 rfl (fun _ => fzV) (je_ni 5 rfl (pv 5)) (fun h => pe_bm PySem.F.plainAttrs_list PySem.F.slot_list_append PySem.F.type_list_append mt_append (pv 4) h) fun path_90 => (js_nilA rfl (.keep (.keep (.keep (.keep (.keep (.drop (.drop (.drop (.drop .nil)))))))))))))))))) (fun s_19 => (js_retO 3 rfl (pv 3) (fun _ => rfl))) hpo_of)))))
theorem ok__law_depths (T : Tx K mg eg) : FnOk P w K mg base (L2N.CX P w) 2 T.a__law_depths T.d__law_depths ["pairs"] (spM K eg .own (fun y : (List (Int × Int)) × Unit => m__law_depths y.1) (fun y => [aB K y.1])) := by
  refine fn_mir T.u__law_depths sc__law_depths (fun y => [sB K y.1]) (fun _ => rfl) (fun _ => rfl) fun cdv A outer s H E O y hr => ?_
  obtain ⟨v_pairs, _⟩ := y
  show JS _ [some (asn K H .bor v_pairs), none, none, none] _ (m__law_depths v_pairs) _
  unfold m__law_depths
  exact (js_set (i := 1) sc__law_depths.nd rfl je_nil fun depths_1 => (js_for (tl := (fun s_2 : (List Int) => [some (asn K H .bor v_pairs), some (asn K H .own s_2), none, none])) (s0 := depths_1) (ji_list (fun _ => rdeI) (je_nb 0 rfl (pv 0))) (pg_tup rfl (pgs_cons (pg_name (i := 2) sc__law_depths.nd rfl (Or.inl rfl)) (pgs_cons (pg_name (i := 3) sc__law_depths.nd rfl (Or.inl rfl)) pgs_nil))) (tgt_pair 2 3) (.keep (.keep (.drop (.drop .nil)))) (fun x_3 s_2 => (js_app (xs := s_2) 1 rfl (fun _ => fzV) (je_if (jt_ge (je_ni 2 rfl (pv 2)) je_int) (je_add (je_item (rdeS 1 rfl) (je_sl 1 rfl (pv 1)) (je_ni 2 rfl (pv 2))) je_int) je_int) (fun h => pe_bm PySem.F.plainAttrs_list PySem.F.slot_list_append PySem.F.type_list_append mt_append (pv 1) h) fun depths_13 => (js_nilA rfl (.keep (.keep (.drop (.drop .nil))))))) (fun s_2 => (js_retO 1 rfl (pv 1) (fun _ => rfl))) hpo_of))
theorem ok__law_signs (T : Tx K mg eg) : FnOk P w K mg base (L2N.CX P w) 3 T.a__law_signs T.d__law_signs ["pairs"] (spM K eg .own (fun y : (List (Int × Int)) × Unit => m__law_signs y.1) (fun y => [aB K y.1])) := by
  refine fn_mir T.u__law_signs sc__law_signs (fun y => [sB K y.1]) (fun _ => rfl) (fun _ => rfl) fun cdv A outer s H E O y hr => ?_
  obtain ⟨v_pairs, _⟩ := y
  show JS _ [some (asn K H .bor v_pairs), none, none, none, none] _ (m__law_signs v_pairs) _
  unfold m__law_signs
  exact (js_set (i := 1) sc__law_signs.nd rfl (je_fn (ok__law_depths T) (hr.mono (by decide)) T.m__law_depths T.k__law_depths T.b__law_depths tk_of (ja_cons (je_sl 0 rfl (pv 0)) ja_nil) (fun _ => (psl_cons (psB ((rdS 0 rfl) _)) psl_nil)) trivial) fun depths_4 => (js_wk (.keep (.frz (.drop (.drop (.drop .nil))))) (js_set (i := 2) sc__law_signs.nd rfl je_nil fun row_5 => (js_wk (.keep (.keep (.frz (.drop (.drop .nil))))) (js_set (i := 3) sc__law_signs.nd rfl (je_neg je_int) fun last_7 => (js_for (tl := (fun s_10 : (List Int) × Int => [some (asn K H .bor v_pairs), some (asn K H .val depths_4), some (asn K H .val s_10.1), some (asn K H .val s_10.2), none])) (s0 := (row_5, last_7)) (ji_range1 T.z_range (je_len T.z_len (rdS 0 rfl) (je_sl 0 rfl (pv 0)))) (pg_name (i := 4) sc__law_signs.nd rfl (Or.inl rfl)) (tgt_name 4) (.keep (.keep (.keep (.keep (.drop .nil))))) (fun x_11 s_10 => (js_set (i := 2) sc__law_signs.nd rfl (je_cat (fun _ => rdeO) (fun _ => rdeO) (je_cat (fun _ => rdeV) (fun _ => rdeO) (je_nm 2 rfl (pv 2)) (je_rep (fun _ => rdeO) (je_list (ja_cons je_int ja_nil) (fun x_14 => [x_14.1]) (fun _ => (fzl_cons fzV fzl_nil)) (fun _ => Nat.le_of_ble_eq_true rfl)) (je_sub (je_add (je_ni 3 rfl (pv 3)) je_int) (je_item (fun _ => rdeV) (je_nm 1 rfl (pv 1)) (je_ni 4 rfl (pv 4)))))) (je_list (ja_cons (je_itemK k_snd (je_item (fun y => Rd.els (rdS 0 rfl y)) (je_sl 0 rfl (pv 0)) (je_ni 4 rfl (pv 4)))) ja_nil) (fun x_33 => [x_33.1]) (fun _ => (fzl_cons fzV fzl_nil)) (fun _ => Nat.le_of_ble_eq_true rfl))) fun row_36 => (js_wk (.keep (.keep (.frz (.keep (.keep (.nil)))))) (js_set (i := 3) sc__law_signs.nd rfl (je_item (fun _ => rdeV) (je_nm 1 rfl (pv 1)) (je_ni 4 rfl (pv 4))) fun last_39 => (js_nilA rfl (.keep (.keep (.keep (.keep (.drop .nil)))))))))) (fun s_10 => (js_ret (je_cat (fun _ => rdeV) (fun _ => rdeO) (je_nm 2 rfl (pv 2)) (je_rep (fun _ => rdeO) (je_list (ja_cons je_int ja_nil) (fun x_42 => [x_42.1]) (fun _ => (fzl_cons fzV fzl_nil)) (fun _ => Nat.le_of_ble_eq_true rfl)) (je_add (je_ni 3 rfl (pv 3)) je_int))) (fun _ => rfl))) hpo_of))))))
theorem ok__law_pairs_of (T : Tx K mg eg) : FnOk P w K mg base (L2N.CX P w) 2 T.a__law_pairs_of T.d__law_pairs_of ["row"] (spM K eg .own (fun y : (List Int) × Unit => m__law_pairs_of y.1) (fun y => [aB K y.1])) := by
  refine fn_mir T.u__law_pairs_of sc__law_pairs_of (fun y => [sB K y.1]) (fun _ => rfl) (fun _ => rfl) fun cdv A outer s H E O y hr => ?_
  obtain ⟨v_row, _⟩ := y
  show JS _ [some (asn K H .bor v_row), none, none, none] _ (m__law_pairs_of v_row) _
  unfold m__law_pairs_of
  exact (js_set (i := 1) sc__law_pairs_of.nd rfl je_nil fun pairs_1 => (js_set (i := 2) sc__law_pairs_of.nd rfl (je_list (ja_cons (je_neg je_int) ja_nil) (fun x_5 => [x_5.1]) (fun _ => (fzl_cons fzV fzl_nil)) (fun _ => Nat.le_of_ble_eq_true rfl)) fun path_6 => (js_for (tl := (fun s_7 : (List (Int × Int)) × (List Int) => [some (asn K H .bor v_row), some (asn K H .own s_7.1), some (asn K H .own s_7.2), none])) (s0 := (pairs_1, path_6)) (ji_list (fun _ => rdeI) (je_nb 0 rfl (pv 0))) (pg_name (i := 3) sc__law_pairs_of.nd rfl (Or.inl rfl)) (tgt_name 3) (.keep (.keep (.keep (.drop .nil)))) (fun x_8 s_7 => (js_ifL (jt_gt (je_ni 3 rfl (pv 3)) je_int) (js_app (xs := s_7.1) 1 rfl (fun _ => fzV) (je_tup2 (fun _ => fzV) (fun _ => fzV) (ja_cons (je_item (rdeS 2 rfl) (je_sl 2 rfl (pv 2)) (je_neg je_int)) (ja_cons (je_ni 3 rfl (pv 3)) ja_nil))) (fun h => pe_bm PySem.F.plainAttrs_list PySem.F.slot_list_append PySem.F.type_list_append mt_append (pv 1) h) fun pairs_21 => (js_app (xs := s_7.2) 2 rfl (fun _ => fzV) (je_sub (je_len T.z_len (rdS 1 rfl) (je_sl 1 rfl (pv 1))) je_int) (fun h => pe_bm PySem.F.plainAttrs_list PySem.F.slot_list_append PySem.F.type_list_append mt_append (pv 2) h) fun path_27 => (js_nilA rfl (.keep (.keep (.keep (.drop .nil))))))) (js_exprM (jm_pop 2 rfl (pe_bm0 PySem.F.plainAttrs_list PySem.F.slot_list_pop PySem.F.type_list_pop mt_pop (pv 2))) fun r_28 => (js_nilA rfl (.keep (.keep (.keep (.drop .nil)))))))) (fun s_7 => (js_retO 1 rfl (pv 1) (fun _ => rfl))) hpo_of)))
theorem ok__law_bad_sign (T : Tx K mg eg) : FnOk P w K mg base (L2N.CX P w) 2 T.a__law_bad_sign T.d__law_bad_sign ["row"] (spM K eg .val (fun y : (List Int) × Unit => m__law_bad_sign y.1) (fun y => [aB K y.1])) := by
  refine fn_mir T.u__law_bad_sign sc__law_bad_sign (fun y => [sB K y.1]) (fun _ => rfl) (fun _ => rfl) fun cdv A outer s H E O y hr => ?_
  obtain ⟨v_row, _⟩ := y
  show JS _ [some (asn K H .bor v_row), none] _ (m__law_bad_sign v_row) _
  unfold m__law_bad_sign
  exact (js_for (tl := (fun s_3 : Unit => [some (asn K H .bor v_row), none])) (s0 := ()) (ji_range1 T.z_range (je_len T.z_len (rdS 0 rfl) (je_sl 0 rfl (pv 0)))) (pg_name (i := 1) sc__law_bad_sign.nd rfl (Or.inl rfl)) (tgt_name 1) (.keep (.drop .nil)) (fun x_4 s_3 => (js_ifL (jt_not (jt_chainT (p := fun i j => decide (i ≤ j)) (q := fun i j => decide (i ≤ j)) op_le op_le je_int (je_item (fun y => Rd.els (rdS 0 rfl y)) (je_sl 0 rfl (pv 0)) (je_ni 1 rfl (pv 1))) je_int)) (js_ret (je_ni 1 rfl (pv 1)) (fun _ => rfl)) (js_nilA rfl (.keep (.drop .nil))))) (fun s_3 => (js_ret (je_neg je_int) (fun _ => rfl))) hpo_of)
theorem ok__law_bent_row (T : Tx K mg eg) : FnOk P w K mg base (L2N.CX P w) 2 T.a__law_bent_row T.d__law_bent_row ["row", "five"] (spM K eg .own (fun y : (List Int) × (List Int) × Unit => m__law_bent_row y.1 y.2.1) (fun y => [aB K y.1, aB K y.2.1])) := by
  refine fn_mir T.u__law_bent_row sc__law_bent_row (fun y => [sB K y.1, sB K y.2.1]) (fun _ => rfl) (fun _ => rfl) fun cdv A outer s H E O y hr => ?_
  obtain ⟨v_row, v_five, _⟩ := y
  show JS _ [some (asn K H .bor v_row), some (asn K H .bor v_five), none, none] _ (m__law_bent_row v_row v_five) _
  unfold m__law_bent_row
  exact (js_set (i := 2) sc__law_bent_row.nd rfl (je_mod (je_add (je_item (fun y => Rd.els (rdS 1 rfl y)) (je_sl 1 rfl (pv 1)) je_int) (je_mulKl (je_item (fun y => Rd.els (rdS 1 rfl y)) (je_sl 1 rfl (pv 1)) je_int))) (je_add (je_len T.z_len (rdS 0 rfl) (je_sl 0 rfl (pv 0))) je_int)) fun place_16 => (js_set (i := 3) sc__law_bent_row.nd rfl (je_modK (je_divK (je_item (fun y => Rd.els (rdS 1 rfl y)) (je_sl 1 rfl (pv 1)) je_int))) fun sign_21 => (js_ifJ (tj := (fun s_28 : Int => [some (asn K H .bor v_row), some (asn K H .bor v_five), some (asn K H .val place_16), some (asn K H .val s_28)])) (jt_eq (je_modK (je_item (fun y => Rd.els (rdS 1 rfl y)) (je_sl 1 rfl (pv 1)) je_int)) je_int) (js_set (i := 3) sc__law_bent_row.nd rfl (je_item (fun _ => rdeO) (je_list (ja_cons (je_neg je_int) (ja_cons je_int (ja_cons (je_mulK je_powK) (ja_cons (je_neg (je_mulK je_powK)) ja_nil)))) (fun x_41 => [x_41.1, x_41.2.1, x_41.2.2.1, x_41.2.2.2.1]) (fun _ => (fzl_cons fzV (fzl_cons fzV (fzl_cons fzV (fzl_cons fzV fzl_nil))))) (fun _ => Nat.le_of_ble_eq_true rfl)) (je_modK (je_item (fun y => Rd.els (rdS 1 rfl y)) (je_sl 1 rfl (pv 1)) je_int))) fun sign_47 => (js_nil rfl (.keep (.keep (.keep (.keep (.nil))))))) (js_nil rfl (.keep (.keep (.keep (.keep (.nil)))))) fun s_28 => (js_ifJ (tj := (fun s_54 : Int => [some (asn K H .bor v_row), some (asn K H .bor v_five), some (asn K H .val place_16), some (asn K H .val s_54)])) (jt_eq (je_modK (je_item (fun y => Rd.els (rdS 1 rfl y)) (je_sl 1 rfl (pv 1)) je_int)) je_int) (js_set (i := 3) sc__law_bent_row.nd rfl je_int fun sign_55 => (js_nil rfl (.keep (.keep (.keep (.keep (.nil))))))) (js_nil rfl (.keep (.keep (.keep (.keep (.nil)))))) fun s_54 => (js_ifA (jt_eq (je_modK (je_item (fun y => Rd.els (rdS 1 rfl y)) (je_sl 1 rfl (pv 1)) je_int)) je_int) (js_ret (je_cat (fun _ => rdeO) (fun _ => rdeO) (je_cat (fun _ => rdeO) (fun _ => rdeO) (je_slice (fun y => Rd.els (rdS 0 rfl y)) (je_sl 0 rfl (pv 0)) jo_none (jo_some (je_ni 2 rfl (pv 2)))) (je_list (ja_cons (je_ni 3 rfl (pv 3)) ja_nil) (fun x_68 => [x_68.1]) (fun _ => (fzl_cons fzV fzl_nil)) (fun _ => Nat.le_of_ble_eq_true rfl))) (je_slice (fun y => Rd.els (rdS 0 rfl y)) (je_sl 0 rfl (pv 0)) (jo_some (je_add (je_ni 2 rfl (pv 2)) je_int)) jo_none)) (fun _ => rfl)) (js_ifA (jt_eq (je_modK (je_item (fun y => Rd.els (rdS 1 rfl y)) (je_sl 1 rfl (pv 1)) je_int)) je_int) (js_ret (je_cat (fun _ => rdeO) (fun _ => rdeO) (je_cat (fun _ => rdeO) (fun _ => rdeO) (je_slice (fun y => Rd.els (rdS 0 rfl y)) (je_sl 0 rfl (pv 0)) jo_none (jo_some (je_ni 2 rfl (pv 2)))) (je_list (ja_cons (je_ni 3 rfl (pv 3)) ja_nil) (fun x_93 => [x_93.1]) (fun _ => (fzl_cons fzV fzl_nil)) (fun _ => Nat.le_of_ble_eq_true rfl))) (je_slice (fun y => Rd.els (rdS 0 rfl y)) (je_sl 0 rfl (pv 0)) (jo_some (je_ni 2 rfl (pv 2))) jo_none)) (fun _ => rfl)) (js_ret (je_cat (fun _ => rdeO) (fun _ => rdeO) (je_slice (fun y => Rd.els (rdS 0 rfl y)) (je_sl 0 rfl (pv 0)) jo_none (jo_some (je_ni 2 rfl (pv 2)))) (je_slice (fun y => Rd.els (rdS 0 rfl y)) (je_sl 0 rfl (pv 0)) (jo_some (je_add (je_ni 2 rfl (pv 2)) je_int)) jo_none)) (fun _ => rfl))))))))
theorem ok__law_triples (T : Tx K mg eg) : FnOk P w K mg base (L2N.CX P w) 2 T.a__law_triples T.d__law_triples ["pairs"] (spM K eg .own (fun y : (List (Int × Int)) × Unit => m__law_triples y.1) (fun y => [aB K y.1])) := by
  refine fn_mir T.u__law_triples sc__law_triples (fun y => [sB K y.1]) (fun _ => rfl) (fun _ => rfl) fun cdv A outer s H E O y hr => ?_
  obtain ⟨v_pairs, _⟩ := y
  show JS _ [some (asn K H .bor v_pairs), none, none, none, none, none, none, none, none] _ (m__law_triples v_pairs) _
  unfold m__law_triples
  exact (js_set (i := 1) sc__law_triples.nd rfl (je_len T.z_len (rdS 0 rfl) (je_sl 0 rfl (pv 0))) fun size_2 => (js_set (i := 2) sc__law_triples.nd rfl je_nil fun triples_3 => (js_for (tl := (fun s_5 : (List (T3 Int Int Int)) => [some (asn K H .bor v_pairs), some (asn K H .val size_2), some (asn K H .own s_5), none, none, none, none, none, none])) (s0 := triples_3) (ji_range1 T.z_range (je_ni 1 rfl (pv 1))) (pg_name (i := 3) sc__law_triples.nd rfl (Or.inl rfl)) (tgt_name 3) (.keep (.keep (.keep (.drop (.drop (.drop (.drop (.drop (.drop .nil))))))))) (fun x_6 s_5 => (js_set (i := 4) sc__law_triples.nd rfl (je_neg je_int) fun left_8 => (js_ifJ (tj := (fun s_25 : Int => [some (asn K H .bor v_pairs), some (asn K H .val size_2), some (asn K H .own s_5), some (asn K H .val x_6), some (asn K H .val s_25), none, none, none, none])) (jt_w (jw_and (jt_lt (je_add (je_ni 3 rfl (pv 3)) je_int) (je_ni 1 rfl (pv 1))) (jw_and1 (jt_eq (je_itemK k_fst (je_item (fun y => Rd.els (rdS 0 rfl y)) (je_sl 0 rfl (pv 0)) (je_add (je_ni 3 rfl (pv 3)) je_int))) (je_ni 3 rfl (pv 3)))))) (js_set (i := 4) sc__law_triples.nd rfl (je_add (je_ni 3 rfl (pv 3)) je_int) fun left_29 => (js_nil rfl (.keep (.keep (.keep (.keep (.keep (.drop (.drop (.drop (.drop .nil))))))))))) (js_nil rfl (.keep (.keep (.keep (.keep (.keep (.drop (.drop (.drop (.drop .nil)))))))))) fun s_25 => (js_set (i := 5) sc__law_triples.nd rfl (je_itemK k_fst (je_item (fun y => Rd.els (rdS 0 rfl y)) (je_sl 0 rfl (pv 0)) (je_ni 3 rfl (pv 3)))) fun up_34 => (js_setLc (i := 6) (own := [("j", 7)]) rfl sc__law_triples.nd rfl rfl (sw_true rfl rfl rfl rfl) (ji_range2 T.z_range (je_add (je_ni 3 rfl (pv 3)) je_int) (je_ni 1 rfl (pv 1))) (by show blkC ["pairs", "size", "triples", "k", "left", "up", "later", "j", "right"] (defScope st__law_triples) _ _ = true; decide +kernel) (tgw_name 7) (fun i hi => by cases List.mem_singleton.mp hi; rfl) (Nat.le_of_ble_eq_true rfl) (fun _ _ => fzV) (fun _ => wipe1 _) (fun _ => .keep (.keep (.keep (.keep (.keep (.keep (.drop (.drop (.drop (.nil)))))))))) (fun s9 H9 C9 cl9 fp9 => pg_name (i := 7) sc__law_triples.nd rfl (Or.inl rfl)) (fun x_40 s9 H9 C9 cl9 fp9 => (jts_one (jt_eq (je_itemK k_fst (je_item (fun y => Rd.els (rdS 0 rfl y)) (je_sl 0 rfl (pv 0)) (je_ni 7 rfl (pv 7)))) (je_ni 5 rfl (pv 5))))) (fun x_40 s9 H9 C9 cl9 fp9 => (je_ni 7 rfl (pv 7))) (fun later_47 => (js_wk (.keep (.keep (.keep (.keep (.keep (.keep (.frz (.drop (.drop .nil))))))))) (js_set (i := 8) sc__law_triples.nd rfl (je_if (jt_neD hr (je_nm 6 rfl (pv 6)) je_nil (fun _ => rdV) (fun _ => rdO)) (je_item (fun _ => rdeV) (je_nm 6 rfl (pv 6)) je_int) (je_neg je_int)) fun right_54 => (js_app (xs := s_5) 2 rfl (fun _ => fzV) (je_tup3 (fun _ => fzV) (fun _ => fzV) (fun _ => fzV) (ja_cons (je_itemK k_snd (je_item (fun y => Rd.els (rdS 0 rfl y)) (je_sl 0 rfl (pv 0)) (je_ni 3 rfl (pv 3)))) (ja_cons (je_ni 4 rfl (pv 4)) (ja_cons (je_ni 8 rfl (pv 8)) ja_nil)))) (fun h => pe_bm PySem.F.plainAttrs_list PySem.F.slot_list_append PySem.F.type_list_append mt_append (pv 2) h) fun triples_67 => (js_nilA rfl (.keep (.keep (.keep (.drop (.drop (.drop (.drop (.drop (.drop .nil)))))))))))))) (Nat.le_of_ble_eq_true rfl)))))) (fun s_5 => (js_retO 2 rfl (pv 2) (fun _ => rfl))) hpo_of)))
theorem ok__law_row_due (T : Tx K mg eg) : FnOk P w K mg base (L2N.CX P w) 3 T.a__law_row_due T.d__law_row_due ["row"] (spM K eg .val (fun y : (List Int) × Unit => m__law_row_due y.1) (fun y => [aB K y.1])) := by
  refine fn_mir T.u__law_row_due sc__law_row_due (fun y => [sB K y.1]) (fun _ => rfl) (fun _ => rfl) fun cdv A outer s H E O y hr => ?_
  obtain ⟨v_row, _⟩ := y
  show JS _ [some (asn K H .bor v_row), none, none] _ (m__law_row_due v_row) _
  unfold m__law_row_due
  exact (js_ifA (jt_ge (je_fn (ok__law_bad_sign T) (hr.mono (by decide)) T.m__law_bad_sign T.k__law_bad_sign T.b__law_bad_sign tk_of (ja_cons (je_sl 0 rfl (pv 0)) ja_nil) (fun _ => (psl_cons (psB ((rdS 0 rfl) _)) psl_nil)) trivial) je_int) (js_ret (je_vt2 (B := Vl _) Vv.i (fun _ {_ _ _} h => h) (ja_cons je_str (ja_cons (je_fn (ok__law_bad_sign T) (hr.mono (by decide)) T.m__law_bad_sign T.k__law_bad_sign T.b__law_bad_sign tk_of (ja_cons (je_sl 0 rfl (pv 0)) ja_nil) (fun _ => (psl_cons (psB ((rdS 0 rfl) _)) psl_nil)) trivial) ja_nil)) (fun _ => rfl) (fun _ => fzV)) (fun _ => rfl)) (js_set (i := 1) sc__law_row_due.nd rfl je_int fun excess_16 => (js_for (tl := (fun s_19 : Int => [some (asn K H .bor v_row), some (asn K H .val s_19), none])) (s0 := excess_16) (ji_range1 T.z_range (je_len T.z_len (rdS 0 rfl) (je_sl 0 rfl (pv 0)))) (pg_name (i := 2) sc__law_row_due.nd rfl (Or.inl rfl)) (tgt_name 2) (.keep (.keep (.drop .nil))) (fun x_20 s_19 => (js_set (i := 1) sc__law_row_due.nd rfl (je_add (je_ni 1 rfl (pv 1)) (je_if (jt_gt (je_item (fun y => Rd.els (rdS 0 rfl y)) (je_sl 0 rfl (pv 0)) (je_ni 2 rfl (pv 2))) je_int) je_int (je_neg je_int))) fun excess_30 => (js_ifL (jt_lt (je_ni 1 rfl (pv 1)) je_int) (js_ret (je_vt2 (B := Vl _) Vv.i (fun _ {_ _ _} h => h) (ja_cons je_str (ja_cons (je_ni 2 rfl (pv 2)) ja_nil)) (fun _ => rfl) (fun _ => fzV)) (fun _ => rfl)) (js_nilA rfl (.keep (.keep (.drop .nil))))))) (fun s_19 => (js_ifA (jt_gt (je_ni 1 rfl (pv 1)) je_int) (js_ret (je_vt2 (B := Vl _) Vv.i (fun _ {_ _ _} h => h) (ja_cons je_str (ja_cons (je_len T.z_len (rdS 0 rfl) (je_sl 0 rfl (pv 0))) ja_nil)) (fun _ => rfl) (fun _ => fzV)) (fun _ => rfl)) (js_ret (je_vt2 (B := Ow _) Vv.t (fun _ {_ _ _} h => h) (ja_cons je_str (ja_cons (je_fn (ok__law_triples T) (hr.mono (by decide)) T.m__law_triples T.k__law_triples T.b__law_triples tk_of (ja_cons (je_fn (ok__law_pairs_of T) (hr.mono (by decide)) T.m__law_pairs_of T.k__law_pairs_of T.b__law_pairs_of tk_of (ja_cons (je_sl 0 rfl (pv 0)) ja_nil) (fun _ => (psl_cons (psB ((rdS 0 rfl) _)) psl_nil)) trivial) ja_nil) (fun _ => (psl_cons (psB ((fun _ => rdO) _)) psl_nil)) trivial) ja_nil)) (fun _ => rfl) (fun _ => fzO)) (fun _ => rfl)))) hpo_of)))
theorem ok__law_cuts (T : Tx K mg eg) : FnOk P w K mg base (L2N.CX P w) 2 T.a__law_cuts T.d__law_cuts ["triples"] (spM K eg .own (fun y : (List (T3 Int Int Int)) × Unit => m__law_cuts y.1) (fun y => [aB K y.1])) := by
  refine fn_mir T.u__law_cuts sc__law_cuts (fun y => [sB K y.1]) (fun _ => rfl) (fun _ => rfl) fun cdv A outer s H E O y hr => ?_
  obtain ⟨v_triples, _⟩ := y
  show JS _ [some (asn K H .bor v_triples), none, none, none, none, none, none, none, none, none, none, none] _ (m__law_cuts v_triples) _
  unfold m__law_cuts
  exact (js_set (i := 1) sc__law_cuts.nd rfl (je_len T.z_len (rdS 0 rfl) (je_sl 0 rfl (pv 0))) fun size_2 => (js_setLc (i := 2) (own := [("triple", 3)]) rfl sc__law_cuts.nd rfl rfl (sw_true rfl rfl rfl rfl) (ji_list (fun _ => rdeI) (je_nb 0 rfl (pv 0))) (by show blkC ["triples", "size", "cuts", "triple", "pile", "k", "start", "end", "label", "left", "right", "cut"] (defScope st__law_cuts) _ _ = true; decide +kernel) (tgw_name 3) (fun i hi => by cases List.mem_singleton.mp hi; rfl) (Nat.le_of_ble_eq_true rfl) (fun _ _ => fzV) (fun _ => wipe1 _) (fun _ => .keep (.keep (.drop (.drop (.drop (.drop (.drop (.drop (.drop (.drop (.drop (.drop (.nil))))))))))))) (fun s9 H9 C9 cl9 fp9 => pg_name (i := 3) sc__law_cuts.nd rfl (Or.inl rfl)) (fun x_3 s9 H9 C9 cl9 fp9 => jts_nil) (fun x_3 s9 H9 C9 cl9 fp9 => je_int) (fun cuts_4 => (js_set (i := 4) sc__law_cuts.nd rfl (je_list (ja_cons (je_tup2 (fun _ => fzV) (fun _ => fzV) (ja_cons je_int (ja_cons (je_ni 1 rfl (pv 1)) ja_nil))) ja_nil) (fun x_12 => [x_12.1]) (fun _ => (fzl_cons fzV fzl_nil)) (fun _ => Nat.le_of_ble_eq_true rfl)) fun pile_13 => (js_for (tl := (fun s_15 : (List Int) × (List (Int × Int)) => [some (asn K H .bor v_triples), some (asn K H .val size_2), some (asn K H .own s_15.1), none, some (asn K H .own s_15.2), none, none, none, none, none, none, none])) (s0 := (cuts_4, pile_13)) (ji_range1 T.z_range (je_ni 1 rfl (pv 1))) (pg_name (i := 5) sc__law_cuts.nd rfl (Or.inl rfl)) (tgt_name 5) (.keep (.keep (.keep (.drop (.keep (.drop (.drop (.drop (.drop (.drop (.drop (.drop .nil)))))))))))) (fun x_16 s_15 => (js_asg (jm_pop 4 rfl (pe_bm0 PySem.F.plainAttrs_list PySem.F.slot_list_pop PySem.F.type_list_pop mt_pop (pv 4))) (pg_tup rfl (pgs_cons (pg_name (i := 6) sc__law_cuts.nd rfl (Or.inl rfl)) (pgs_cons (pg_name (i := 7) sc__law_cuts.nd rfl (Or.inl rfl)) pgs_nil))) (tgt_pairP (α := Int) (β := Int) (δ := (List (Int × Int))) 6 7) fun t_17 => (js_at (ts := [some (asn K H .bor v_triples), some (asn K H .val size_2), some (asn K H .own s_15.1), none, some (asn K H .own t_17.2), some (asn K H .val x_16), some (asn K H .val t_17.1.1), some (asn K H .val t_17.1.2), none, none, none, none]) (js_asg (jm_of (je_item (fun y => Rd.els (rdS 0 rfl y)) (je_sl 0 rfl (pv 0)) (je_ni 6 rfl (pv 6)))) (pg_tup rfl (pgs_cons (pg_name (i := 8) sc__law_cuts.nd rfl (Or.inl rfl)) (pgs_cons (pg_name (i := 9) sc__law_cuts.nd rfl (Or.inl rfl)) (pgs_cons (pg_name (i := 10) sc__law_cuts.nd rfl (Or.inl rfl)) pgs_nil)))) (tgt_3 8 9 10) fun t_18 => (js_at (ts := [some (asn K H .bor v_triples), some (asn K H .val size_2), some (asn K H .own s_15.1), none, some (asn K H .own t_17.2), some (asn K H .val x_16), some (asn K H .val t_17.1.1), some (asn K H .val t_17.1.2), some (asn K H .val t_18.a), some (asn K H .val t_18.b), some (asn K H .val t_18.c), none]) (js_set (i := 11) sc__law_cuts.nd rfl (je_if (jt_ne (je_ni 10 rfl (pv 10)) (je_neg je_int)) (je_ni 10 rfl (pv 10)) (je_ni 7 rfl (pv 7))) fun cut_25 => (js_ifA (jt_w (jw_or (jt_not (jt_chainT (p := fun i j => decide (i ≤ j)) (q := fun i j => decide (i ≤ j)) op_le op_le je_int (je_ni 8 rfl (pv 8)) je_int)) (jw_or1 (jt_not (jt_chainT (p := fun i j => decide (i < j)) (q := fun i j => decide (i ≤ j)) op_lt op_le (je_ni 6 rfl (pv 6)) (je_ni 11 rfl (pv 11)) (je_ni 7 rfl (pv 7))))))) (js_ret je_nil (fun _ => rfl)) (js_ifA (jt_w (jw_or (jt_w (jw_and (jt_ne (je_ni 10 rfl (pv 10)) (je_neg je_int)) (jw_and1 (jt_eq (je_ni 11 rfl (pv 11)) (je_ni 7 rfl (pv 7)))))) (jw_or1 (jt_w (jw_and (jt_eq (je_ni 9 rfl (pv 9)) (je_neg je_int)) (jw_and1 (jt_ne (je_ni 11 rfl (pv 11)) (je_add (je_ni 6 rfl (pv 6)) je_int)))))))) (js_ret je_nil (fun _ => rfl)) (js_ifA (jt_w (jw_and (jt_ne (je_ni 9 rfl (pv 9)) (je_neg je_int)) (jw_and1 (jt_w (jw_or (jt_ne (je_ni 9 rfl (pv 9)) (je_add (je_ni 6 rfl (pv 6)) je_int)) (jw_or1 (jt_eq (je_ni 11 rfl (pv 11)) (je_ni 9 rfl (pv 9))))))))) (js_ret je_nil (fun _ => rfl)) (js_setI (xs := s_15.1) (val := fun y => y) 2 (jm_of (je_ni 11 rfl (pv 11))) (fun _ => rfl) (fun _ => fzV) (fun _ => (je_ni 6 rfl (pv 6))) (pv 2) fun y_69 cuts_71 => (js_ifJ (tj := (fun s_76 : (List (Int × Int)) => [some (asn K H .bor v_triples), some (asn K H .val size_2), some (asn K H .own cuts_71), none, some (asn K H .own s_76), some (asn K H .val x_16), some (asn K H .val t_17.1.1), some (asn K H .val t_17.1.2), some (asn K H .val t_18.a), some (asn K H .val t_18.b), some (asn K H .val t_18.c), some (asn K H .val cut_25)])) (jt_ne (je_ni 10 rfl (pv 10)) (je_neg je_int)) (js_app (xs := t_17.2) 4 rfl (fun _ => fzV) (je_tup2 (fun _ => fzV) (fun _ => fzV) (ja_cons (je_ni 10 rfl (pv 10)) (ja_cons (je_ni 7 rfl (pv 7)) ja_nil))) (fun h => pe_bm PySem.F.plainAttrs_list PySem.F.slot_list_append PySem.F.type_list_append mt_append (pv 4) h) fun pile_83 => (js_nil rfl (.keep (.keep (.keep (.drop (.keep (.keep (.keep (.keep (.keep (.keep (.keep (.keep (.nil))))))))))))))) (js_nil rfl (.keep (.keep (.keep (.drop (.keep (.keep (.keep (.keep (.keep (.keep (.keep (.keep (.nil)))))))))))))) fun s_76 => (js_ifL (jt_ne (je_ni 9 rfl (pv 9)) (je_neg je_int)) (js_app (xs := s_76) 4 rfl (fun _ => fzV) (je_tup2 (fun _ => fzV) (fun _ => fzV) (ja_cons (je_ni 9 rfl (pv 9)) (ja_cons (je_ni 11 rfl (pv 11)) ja_nil))) (fun h => pe_bm PySem.F.plainAttrs_list PySem.F.slot_list_append PySem.F.type_list_append mt_append (pv 4) h) fun pile_94 => (js_nilA rfl (.keep (.keep (.keep (.drop (.keep (.drop (.drop (.drop (.drop (.drop (.drop (.drop .nil)))))))))))))) (js_nilA rfl (.keep (.keep (.keep (.drop (.keep (.drop (.drop (.drop (.drop (.drop (.drop (.drop .nil))))))))))))))))))))))))) (fun s_15 => (js_retO 2 rfl (pv 2) (fun _ => rfl))) hpo_of))) (Nat.le_of_ble_eq_true rfl)))
theorem ok__law_binary_due (T : Tx K mg eg) : FnOk P w K mg base (L2N.CX P w) 3 T.a__law_binary_due T.d__law_binary_due ["triples"] (spM K eg .val (fun y : (List (T3 Int Int Int)) × Unit => m__law_binary_due y.1) (fun y => [aB K y.1])) := by
  refine fn_mir T.u__law_binary_due sc__law_binary_due (fun y => [sB K y.1]) (fun _ => rfl) (fun _ => rfl) fun cdv A outer s H E O y hr => ?_
  obtain ⟨v_triples, _⟩ := y
  show JS _ [some (asn K H .bor v_triples), none, none, none] _ (m__law_binary_due v_triples) _
  unfold m__law_binary_due
  exact (js_set (i := 1) sc__law_binary_due.nd rfl (je_fn (ok__law_cuts T) (hr.mono (by decide)) T.m__law_cuts T.k__law_cuts T.b__law_cuts tk_of (ja_cons (je_sl 0 rfl (pv 0)) ja_nil) (fun _ => (psl_cons (psB ((rdS 0 rfl) _)) psl_nil)) trivial) fun cuts_4 => (js_wk (.keep (.frz (.drop (.drop .nil)))) (js_ifA (jt_ne (je_len T.z_len (fun _ => rdV) (je_nm 1 rfl (pv 1))) (je_len T.z_len (rdS 0 rfl) (je_sl 0 rfl (pv 0)))) (js_ret (je_vt1 (ja_cons je_str ja_nil) (fun _ => rfl)) (fun _ => rfl)) (js_set (i := 2) sc__law_binary_due.nd rfl je_nil fun row_14 => (js_wk (.keep (.keep (.frz (.drop .nil)))) (js_for (tl := (fun s_17 : (List Int) => [some (asn K H .bor v_triples), some (asn K H .val cuts_4), some (asn K H .val s_17), none])) (s0 := row_14) (ji_range1 T.z_range (je_len T.z_len (rdS 0 rfl) (je_sl 0 rfl (pv 0)))) (pg_name (i := 3) sc__law_binary_due.nd rfl (Or.inl rfl)) (tgt_name 3) (.keep (.keep (.keep (.drop .nil)))) (fun x_18 s_17 => (js_set (i := 2) sc__law_binary_due.nd rfl (je_cat (fun _ => rdeO) (fun _ => rdeO) (je_cat (fun _ => rdeV) (fun _ => rdeO) (je_nm 2 rfl (pv 2)) (je_rep (fun _ => rdeO) (je_list (ja_cons je_int ja_nil) (fun x_21 => [x_21.1]) (fun _ => (fzl_cons fzV fzl_nil)) (fun _ => Nat.le_of_ble_eq_true rfl)) (je_count 1 rfl (fun _ => rdV) (je_ni 3 rfl (pv 3)) (fun h => pe_bm PySem.F.plainAttrs_list PySem.F.slot_list_count PySem.F.type_list_count mt_lcountV (pv 1) h)))) (je_list (ja_cons (je_itemK k_3a (je_item (fun y => Rd.els (rdS 0 rfl y)) (je_sl 0 rfl (pv 0)) (je_ni 3 rfl (pv 3)))) ja_nil) (fun x_33 => [x_33.1]) (fun _ => (fzl_cons fzV fzl_nil)) (fun _ => Nat.le_of_ble_eq_true rfl))) fun row_36 => (js_wk (.keep (.keep (.frz (.keep (.nil))))) (js_nilA rfl (.keep (.keep (.keep (.drop .nil)))))))) (fun s_17 => (js_ret (je_vt2 (B := Ow _) Vv.l (fun _ {_ _ _} h => h) (ja_cons je_str (ja_cons (je_cat (fun _ => rdeV) (fun _ => rdeO) (je_nm 2 rfl (pv 2)) (je_rep (fun _ => rdeO) (je_list (ja_cons je_int ja_nil) (fun x_39 => [x_39.1]) (fun _ => (fzl_cons fzV fzl_nil)) (fun _ => Nat.le_of_ble_eq_true rfl)) (je_count 1 rfl (fun _ => rdV) (je_len T.z_len (rdS 0 rfl) (je_sl 0 rfl (pv 0))) (fun h => pe_bm PySem.F.plainAttrs_list PySem.F.slot_list_count PySem.F.type_list_count mt_lcountV (pv 1) h)))) ja_nil)) (fun _ => rfl) (fun _ => fzO)) (fun _ => rfl))) hpo_of))))))
theorem ok__law_told (T : Tx K mg eg) : FnOk P w K mg base (L2N.CX P w) 7 T.a__law_told T.d__law_told ["way", "handed"] (spM K eg .val (fun y : Int × Hd × Unit => m__law_told y.1 y.2.1) (fun y => [aV K y.1, aB K y.2.1])) := by
  refine fn_mir T.u__law_told sc__law_told (fun y => [sV K y.1, sB K y.2.1]) (fun _ => rfl) (fun _ => rfl) fun cdv A outer s H E O y hr => ?_
  obtain ⟨v_way, v_handed, _⟩ := y
  show JS _ [some (asn K H .val v_way), some (asn K H .bor v_handed), none, none, none] _ (m__law_told v_way v_handed) _
  unfold m__law_told
  exact (js_set (i := 2) sc__law_told.nd rfl (je_vt1 (ja_cons je_str ja_nil) (fun _ => rfl)) fun told_4 => (js_tryAs (tj := (fun s_6 : Vt => [some (asn K H .val v_way), some (asn K H .bor v_handed), some (asn K H .val s_6), none, none])) (tx := [some (asn K H .val v_way), some (asn K H .bor v_handed), some (asn K H .val told_4), none, none]) (i := 3) rfl rfl sc__law_told.nd rfl rfl ⟨rfl, by decide, Or.inl T.g_PackError⟩ tk_of T.ex_m_PackError (Nat.le_of_ble_eq_true rfl) (fun _ => rfl) (fun _ => trivial) trivial (fun W pn xe tk hpo => (js_ifL (jt_eq (je_ni 0 rfl (pv 0)) je_int) (js_set (i := 2) sc__law_told.nd rfl (je_vt2 (B := Ow _) Vv.t (fun _ {_ _ _} h => h) (ja_cons je_str (ja_cons (je_fn (ok_binary_of_row T) (hr.mono (by decide)) T.m_binary_of_row T.k_binary_of_row T.b_binary_of_row tk (ja_cons (je_slP (f := Hd.toL) 1 rfl (hd_bL _) (pv 1)) ja_nil) (fun _ => (psl_cons (psB ((rdSP (f := Hd.toL) 1 rfl hd_rL) _)) psl_nil)) (@wkx_refl _ _ rfl)) ja_nil)) (fun _ => rfl) (fun _ => fzO)) fun told_18 => (js_nil rfl (.keep (.keep (.keep (.drop (.drop .nil))))))) (js_set (i := 2) sc__law_told.nd rfl (je_vt2 (B := Ow _) Vv.l (fun _ {_ _ _} h => h) (ja_cons je_str (ja_cons (je_fn (ok_row_of_binary T) (hr.mono (by decide)) T.m_row_of_binary T.k_row_of_binary T.b_row_of_binary tk (ja_cons (je_slP (f := Hd.toT) 1 rfl (hd_bT _) (pv 1)) ja_nil) (fun _ => (psl_cons (psB ((rdSP (f := Hd.toT) 1 rfl hd_rT) _)) psl_nil)) (@wkx_refl _ _ rfl)) ja_nil)) (fun _ => rfl) (fun _ => fzO)) fun told_27 => (js_nil rfl (.keep (.keep (.keep (.drop (.drop .nil))))))))) (fun e_5 a oe d pn hpe hz hf => (js_set (i := 4) sc__law_told.nd rfl (je_list (ja_cons (je_isE (b := isaE (e_5).k .BadSign) (cw := .ref (eg .BadSign)) (cv := .ref (eg .BadSign)) 3 rfl (T.ex_c_PackError hpe) hz.zc hf (pv 3) (by exact pe_glob rfl T.g_BadSign rfl) (fun _ h => h) (T.ex_PackError_BadSign hpe) T.z_isinstance) (ja_cons (je_isE (b := isaE (e_5).k .BadRow) (cw := .ref (eg .BadRow)) (cv := .ref (eg .BadRow)) 3 rfl (T.ex_c_PackError hpe) hz.zc hf (pv 3) (by exact pe_glob rfl T.g_BadRow rfl) (fun _ h => h) (T.ex_PackError_BadRow hpe) T.z_isinstance) (ja_cons (je_isE (b := isaE (e_5).k .BadBinary) (cw := .ref (eg .BadBinary)) (cv := .ref (eg .BadBinary)) 3 rfl (T.ex_c_PackError hpe) hz.zc hf (pv 3) (by exact pe_glob rfl T.g_BadBinary rfl) (fun _ h => h) (T.ex_PackError_BadBinary hpe) T.z_isinstance) ja_nil))) (fun x_34 => [x_34.1, x_34.2.1, x_34.2.2.1]) (fun _ => (fzl_cons fzV (fzl_cons fzV (fzl_cons fzV fzl_nil)))) (fun _ => Nat.le_of_ble_eq_true rfl)) fun kinds_35 => (js_wk (.keep (.keep (.keep (.keep (.frz (.nil)))))) (js_set (i := 4) sc__law_told.nd rfl (je_cat (fun _ => rdeV) (fun _ => rdeO) (je_nm 4 rfl (pv 4)) (je_list (ja_cons (je_isE (b := isaE (e_5).k .BadNumber) (cw := .ref (eg .BadNumber)) (cv := .ref (eg .BadNumber)) 3 rfl (T.ex_c_PackError hpe) hz.zc hf (pv 3) (by exact pe_glob rfl T.g_BadNumber rfl) (fun _ h => h) (T.ex_PackError_BadNumber hpe) T.z_isinstance) (ja_cons (je_isE (b := isaE (e_5).k .BadTree) (cw := .ref (eg .BadTree)) (cv := .ref (eg .BadTree)) 3 rfl (T.ex_c_PackError hpe) hz.zc hf (pv 3) (by exact pe_glob rfl T.g_BadTree rfl) (fun _ h => h) (T.ex_PackError_BadTree hpe) T.z_isinstance) ja_nil)) (fun x_40 => [x_40.1, x_40.2.1]) (fun _ => (fzl_cons fzV (fzl_cons fzV fzl_nil))) (fun _ => Nat.le_of_ble_eq_true rfl))) fun kinds_43 => (js_wk (.keep (.keep (.keep (.keep (.frz (.nil)))))) (js_ifA (jt_w (jw_or (jt_ne (je_count 4 rfl (fun _ => rdV) je_bl (fun h => pe_bm PySem.F.plainAttrs_list PySem.F.slot_list_count PySem.F.type_list_count mt_lcountV (pv 4) h)) je_int) (jw_or1 (jt_not (jt_val (je_isE (b := true) (cw := .ty "ValueError") (cv := .type "ValueError") 3 rfl (T.ex_c_PackError hpe) hz.zc hf (pv 3) (by exact pe_bltn rfl T.z_ValueError (by decide +kernel) rfl) (fun _ h => h) (T.ex_PackError_ValueError hpe) T.z_isinstance)))))) (js_ret (je_vt1 (ja_cons je_str ja_nil) (fun _ => rfl)) (fun _ => rfl)) (js_ifA (jt_val (je_item (fun _ => rdeV) (je_nm 4 rfl (pv 4)) je_int)) (js_ret (je_vt2 (B := Vl _) Vv.i (fun _ {_ _ _} h => h) (ja_cons je_str (ja_cons (je_ef 3 rfl (T.ex_f_PackError hpe) (T.nx_PackError_place hpe) hz.zc hf (pv 3)) ja_nil)) (fun _ => rfl) (fun _ => fzV)) (fun _ => rfl)) (js_ifA (jt_val (je_item (fun _ => rdeV) (je_nm 4 rfl (pv 4)) je_int)) (js_ret (je_vt2 (B := Vl _) Vv.i (fun _ {_ _ _} h => h) (ja_cons je_str (ja_cons (je_ef 3 rfl (T.ex_f_PackError hpe) (T.nx_PackError_place hpe) hz.zc hf (pv 3)) ja_nil)) (fun _ => rfl) (fun _ => fzV)) (fun _ => rfl)) (js_ifA (jt_val (je_item (fun _ => rdeV) (je_nm 4 rfl (pv 4)) je_int)) (js_ret (je_vt1 (ja_cons je_str ja_nil) (fun _ => rfl)) (fun _ => rfl)) (js_ret (je_vt1 (ja_cons je_str ja_nil) (fun _ => rfl)) (fun _ => rfl))))))))))) fun s_6 => (js_ret (je_nm 2 rfl (pv 2)) (fun _ => rfl))))
theorem ok__law_row_right (T : Tx K mg eg) : FnOk P w K mg base (L2N.CX P w) 8 T.a__law_row_right T.d__law_row_right ["row"] (spM K eg .val (fun y : (List Int) × Unit => m__law_row_right y.1) (fun y => [aB K y.1])) := by
  refine fn_mir T.u__law_row_right sc__law_row_right (fun y => [sB K y.1]) (fun _ => rfl) (fun _ => rfl) fun cdv A outer s H E O y hr => ?_
  obtain ⟨v_row, _⟩ := y
  show JS _ [some (asn K H .bor v_row), none, none, none] _ (m__law_row_right v_row) _
  unfold m__law_row_right
  exact (js_set (i := 1) sc__law_row_right.nd rfl (je_fn (ok__law_row_due T) (hr.mono (by decide)) T.m__law_row_due T.k__law_row_due T.b__law_row_due tk_of (ja_cons (je_sl 0 rfl (pv 0)) ja_nil) (fun _ => (psl_cons (psB ((rdS 0 rfl) _)) psl_nil)) trivial) fun due_4 => (js_set (i := 2) sc__law_row_right.nd rfl (je_listL T.z_list (fun y => Rd.els (rdS 0 rfl y)) (je_sl 0 rfl (pv 0))) fun handed_6 => (js_wk (.keep (.keep (.frz (.drop .nil)))) (js_set (i := 3) sc__law_row_right.nd rfl (je_fn (ok__law_told T) (hr.mono (by decide)) T.m__law_told T.k__law_told T.b__law_told tk_of (ja_cons je_int (ja_cons (je_mp (fun x y e => by cases e; exact fun h => h) (fun x => .inr ⟨_, rfl⟩) (je_nm 2 rfl (pv 2))) ja_nil)) (fun _ => (psl_cons (psV fzV) (psl_cons (psB ((fun _ => rdV) _)) psl_nil))) trivial) fun told_13 => (js_ifA (jt_w (jw_or (jt_ne (je_itemK k_vt (je_nm 3 rfl (pv 3))) (je_itemK k_vt (je_nm 1 rfl (pv 1)))) (jw_or1 (jt_not (jt_val (je_fn (ok__law_row T) (hr.mono (by decide)) T.m__law_row T.k__law_row T.b__law_row tk_of (ja_cons (je_nm 2 rfl (pv 2)) (ja_cons (je_sl 0 rfl (pv 0)) ja_nil)) (fun _ => (psl_cons (psB ((fun _ => rdV) _)) (psl_cons (psB ((rdS 0 rfl) _)) psl_nil))) trivial)))))) (js_ret je_bl (fun _ => rfl)) (js_ifA (jt_eq (je_itemK k_vt (je_nm 1 rfl (pv 1))) je_str) (js_ret (je_fn (ok__law_table T) (hr.mono (by decide)) T.m__law_table T.k__law_table T.b__law_table tk_of (ja_cons (je_itemP (f := Vt.toT) vt_T vt_bT (je_nm 3 rfl (pv 3))) (ja_cons (je_itemP (f := Vt.toT) vt_T vt_bT (je_nm 1 rfl (pv 1))) ja_nil)) (fun _ => (psl_cons (psB ((fun _ => rdV) _)) (psl_cons (psB ((fun _ => rdV) _)) psl_nil))) trivial) (fun _ => rfl)) (js_ret (je_fn (ok__law_row T) (hr.mono (by decide)) T.m__law_row T.k__law_row T.b__law_row tk_of (ja_cons (je_listT T.z_list (je_vtTail (je_nm 3 rfl (pv 3)) (jo_some je_int) jo_none)) (ja_cons (je_listT T.z_list (je_vtTail (je_nm 1 rfl (pv 1)) (jo_some je_int) jo_none)) ja_nil)) (fun _ => (psl_cons (psB ((fun _ => rdO) _)) (psl_cons (psB ((fun _ => rdO) _)) psl_nil))) trivial) (fun _ => rfl))))))))
theorem ok__law_binary_right (T : Tx K mg eg) : FnOk P w K mg base (L2N.CX P w) 9 T.a__law_binary_right T.d__law_binary_right ["triples"] (spM K eg .val (fun y : (List (T3 Int Int Int)) × Unit => m__law_binary_right y.1) (fun y => [aB K y.1])) := by
  refine fn_mir T.u__law_binary_right sc__law_binary_right (fun y => [sB K y.1]) (fun _ => rfl) (fun _ => rfl) fun cdv A outer s H E O y hr => ?_
  obtain ⟨v_triples, _⟩ := y
  show JS _ [some (asn K H .bor v_triples), none, none, none] _ (m__law_binary_right v_triples) _
  unfold m__law_binary_right
  exact (js_set (i := 1) sc__law_binary_right.nd rfl (je_fn (ok__law_binary_due T) (hr.mono (by decide)) T.m__law_binary_due T.k__law_binary_due T.b__law_binary_due tk_of (ja_cons (je_sl 0 rfl (pv 0)) ja_nil) (fun _ => (psl_cons (psB ((rdS 0 rfl) _)) psl_nil)) trivial) fun due_4 => (js_set (i := 2) sc__law_binary_right.nd rfl (je_listL T.z_list (fun y => Rd.els (rdS 0 rfl y)) (je_sl 0 rfl (pv 0))) fun handed_6 => (js_wk (.keep (.keep (.frz (.drop .nil)))) (js_set (i := 3) sc__law_binary_right.nd rfl (je_fn (ok__law_told T) (hr.mono (by decide)) T.m__law_told T.k__law_told T.b__law_told tk_of (ja_cons je_int (ja_cons (je_mp (fun x y e => by cases e; exact fun h => h) (fun x => .inr ⟨_, rfl⟩) (je_nm 2 rfl (pv 2))) ja_nil)) (fun _ => (psl_cons (psV fzV) (psl_cons (psB ((fun _ => rdV) _)) psl_nil))) trivial) fun told_13 => (js_ifA (jt_w (jw_or (jt_ne (je_itemK k_vt (je_nm 3 rfl (pv 3))) (je_itemK k_vt (je_nm 1 rfl (pv 1)))) (jw_or1 (jt_not (jt_val (je_fn (ok__law_table T) (hr.mono (by decide)) T.m__law_table T.k__law_table T.b__law_table tk_of (ja_cons (je_nm 2 rfl (pv 2)) (ja_cons (je_sl 0 rfl (pv 0)) ja_nil)) (fun _ => (psl_cons (psB ((fun _ => rdV) _)) (psl_cons (psB ((rdS 0 rfl) _)) psl_nil))) trivial)))))) (js_ret je_bl (fun _ => rfl)) (js_ifA (jt_eq (je_itemK k_vt (je_nm 1 rfl (pv 1))) je_str) (js_ret (je_and (je_fn (ok__law_row T) (hr.mono (by decide)) T.m__law_row T.k__law_row T.b__law_row tk_of (ja_cons (je_itemP (f := Vt.toL) vt_L vt_bL (je_nm 3 rfl (pv 3))) (ja_cons (je_itemP (f := Vt.toL) vt_L vt_bL (je_nm 1 rfl (pv 1))) ja_nil)) (fun _ => (psl_cons (psB ((fun _ => rdV) _)) (psl_cons (psB ((fun _ => rdV) _)) psl_nil))) trivial) (je_one (je_fn (ok__law_row_right T) (hr.mono (by decide)) T.m__law_row_right T.k__law_row_right T.b__law_row_right tk_of (ja_cons (je_itemP (f := Vt.toL) vt_L vt_bL (je_nm 1 rfl (pv 1))) ja_nil) (fun _ => (psl_cons (psB ((fun _ => rdV) _)) psl_nil)) trivial))) (fun _ => rfl)) (js_ret (je_eq (je_lenVt T.z_len (je_nm 3 rfl (pv 3))) je_int) (fun _ => rfl))))))))
theorem ok__law_bent (T : Tx K mg eg) : FnOk P w K mg base (L2N.CX P w) 2 T.a__law_bent T.d__law_bent ["triples", "five"] (spM K eg .own (fun y : (List (T3 Int Int Int)) × (List Int) × Unit => m__law_bent y.1 y.2.1) (fun y => [aB K y.1, aB K y.2.1])) := by
  refine fn_mir T.u__law_bent sc__law_bent (fun y => [sB K y.1, sB K y.2.1]) (fun _ => rfl) (fun _ => rfl) fun cdv A outer s H E O y hr => ?_
  obtain ⟨v_triples, v_five, _⟩ := y
  show JS _ [some (asn K H .bor v_triples), some (asn K H .bor v_five), none, none, none, none, none, none, none, none] _ (m__law_bent v_triples v_five) _
  unfold m__law_bent
  exact (js_set (i := 2) sc__law_bent.nd rfl (je_len T.z_len (rdS 0 rfl) (je_sl 0 rfl (pv 0))) fun size_2 => (js_ifA (jt_eq (je_ni 2 rfl (pv 2)) je_int) (js_ret (je_list (ja_cons (je_tup3 (fun _ => fzV) (fun _ => fzV) (fun _ => fzV) (ja_cons (je_modK (je_item (fun y => Rd.els (rdS 1 rfl y)) (je_sl 1 rfl (pv 1)) je_int)) (ja_cons (je_sub (je_modK (je_item (fun y => Rd.els (rdS 1 rfl y)) (je_sl 1 rfl (pv 1)) je_int)) je_int) (ja_cons (je_sub (je_modK (je_item (fun y => Rd.els (rdS 1 rfl y)) (je_sl 1 rfl (pv 1)) je_int)) je_int) ja_nil)))) ja_nil) (fun x_30 => [x_30.1]) (fun _ => (fzl_cons fzV fzl_nil)) (fun _ => Nat.le_of_ble_eq_true rfl)) (fun _ => rfl)) (js_set (i := 3) sc__law_bent.nd rfl (je_mod (je_add (je_item (fun y => Rd.els (rdS 1 rfl y)) (je_sl 1 rfl (pv 1)) je_int) (je_mulKl (je_item (fun y => Rd.els (rdS 1 rfl y)) (je_sl 1 rfl (pv 1)) je_int))) (je_ni 2 rfl (pv 2))) fun place_43 => (js_asg (jm_of (je_item (fun y => Rd.els (rdS 0 rfl y)) (je_sl 0 rfl (pv 0)) (je_ni 3 rfl (pv 3)))) (pg_tup rfl (pgs_cons (pg_name (i := 4) sc__law_bent.nd rfl (Or.inl rfl)) (pgs_cons (pg_name (i := 5) sc__law_bent.nd rfl (Or.inl rfl)) (pgs_cons (pg_name (i := 6) sc__law_bent.nd rfl (Or.inl rfl)) pgs_nil)))) (tgt_3 4 5 6) fun t_44 => (js_at (ts := [some (asn K H .bor v_triples), some (asn K H .bor v_five), some (asn K H .val size_2), some (asn K H .val place_43), some (asn K H .val t_44.a), some (asn K H .val t_44.b), some (asn K H .val t_44.c), none, none, none]) (js_set (i := 7) sc__law_bent.nd rfl (je_sub (je_mod (je_add (je_item (fun y => Rd.els (rdS 1 rfl y)) (je_sl 1 rfl (pv 1)) je_int) (je_mulKl (je_item (fun y => Rd.els (rdS 1 rfl y)) (je_sl 1 rfl (pv 1)) je_int))) (je_add (je_ni 2 rfl (pv 2)) je_int)) je_int) fun part_64 => (js_set (i := 8) sc__law_bent.nd rfl (je_sub (je_modK (je_item (fun y => Rd.els (rdS 1 rfl y)) (je_sl 1 rfl (pv 1)) je_int)) je_int) fun sign_71 => (js_ifJ (tj := (fun s_79 : Int × Int => [some (asn K H .bor v_triples), some (asn K H .bor v_five), some (asn K H .val size_2), some (asn K H .val place_43), some (asn K H .val t_44.a), some (asn K H .val t_44.b), some (asn K H .val t_44.c), some (asn K H .val s_79.1), some (asn K H .val s_79.2), none])) (jt_eq (je_modK (je_divK (je_item (fun y => Rd.els (rdS 1 rfl y)) (je_sl 1 rfl (pv 1)) je_int))) je_int) (js_set (i := 7) sc__law_bent.nd rfl (je_mul je_powK (je_sub je_int (je_mulKl (je_modK (je_item (fun y => Rd.els (rdS 1 rfl y)) (je_sl 1 rfl (pv 1)) je_int))))) fun part_90 => (js_set (i := 8) sc__law_bent.nd rfl (je_ni 7 rfl (pv 7)) fun sign_91 => (js_nil rfl (.keep (.keep (.keep (.keep (.keep (.keep (.keep (.keep (.keep (.drop .nil))))))))))))) (js_nil rfl (.keep (.keep (.keep (.keep (.keep (.keep (.keep (.keep (.keep (.drop .nil))))))))))) fun s_79 => (js_set (i := 9) sc__law_bent.nd rfl (je_list (ja_cons (je_tup3 (fun _ => fzV) (fun _ => fzV) (fun _ => fzV) (ja_cons (je_ni 8 rfl (pv 8)) (ja_cons (je_ni 5 rfl (pv 5)) (ja_cons (je_ni 6 rfl (pv 6)) ja_nil)))) (ja_cons (je_tup3 (fun _ => fzV) (fun _ => fzV) (fun _ => fzV) (ja_cons (je_ni 4 rfl (pv 4)) (ja_cons (je_ni 7 rfl (pv 7)) (ja_cons (je_ni 6 rfl (pv 6)) ja_nil)))) ja_nil)) (fun x_110 => [x_110.1, x_110.2.1]) (fun _ => (fzl_cons fzV (fzl_cons fzV fzl_nil))) (fun _ => Nat.le_of_ble_eq_true rfl)) fun bent_111 => (js_wk (.keep (.keep (.keep (.keep (.keep (.keep (.keep (.keep (.keep (.frz (.nil))))))))))) (js_set (i := 9) sc__law_bent.nd rfl (je_cat (fun _ => rdeV) (fun _ => rdeO) (je_nm 9 rfl (pv 9)) (je_list (ja_cons (je_tup3 (fun _ => fzV) (fun _ => fzV) (fun _ => fzV) (ja_cons (je_ni 4 rfl (pv 4)) (ja_cons (je_ni 5 rfl (pv 5)) (ja_cons (je_ni 7 rfl (pv 7)) ja_nil)))) (ja_cons (je_tup3 (fun _ => fzV) (fun _ => fzV) (fun _ => fzV) (ja_cons (je_ni 4 rfl (pv 4)) (ja_cons (je_ni 6 rfl (pv 6)) (ja_cons (je_ni 5 rfl (pv 5)) ja_nil)))) ja_nil)) (fun x_130 => [x_130.1, x_130.2.1]) (fun _ => (fzl_cons fzV (fzl_cons fzV fzl_nil))) (fun _ => Nat.le_of_ble_eq_true rfl))) fun bent_133 => (js_wk (.keep (.keep (.keep (.keep (.keep (.keep (.keep (.keep (.keep (.frz (.nil))))))))))) (js_ret (je_cat (fun _ => rdeO) (fun _ => rdeO) (je_cat (fun _ => rdeO) (fun _ => rdeO) (je_slice (fun y => Rd.els (rdS 0 rfl y)) (je_sl 0 rfl (pv 0)) jo_none (jo_some (je_ni 3 rfl (pv 3)))) (je_list (ja_cons (je_item (fun _ => rdeV) (je_nm 9 rfl (pv 9)) (je_modK (je_item (fun y => Rd.els (rdS 1 rfl y)) (je_sl 1 rfl (pv 1)) je_int))) ja_nil) (fun x_145 => [x_145.1]) (fun _ => (fzl_cons fzV fzl_nil)) (fun _ => Nat.le_of_ble_eq_true rfl))) (je_slice (fun y => Rd.els (rdS 0 rfl y)) (je_sl 0 rfl (pv 0)) (jo_some (je_add (je_ni 3 rfl (pv 3)) je_int)) jo_none)) (fun _ => rfl))))))))))))))
theorem ok_law (T : Tx K mg eg) : FnOk P w K mg base (L2N.CX P w) 10 T.a_law T.d_law ["script"] (spM K eg .val (fun y : Scr × Unit => m_law y.1) (fun y => [aV K y.1])) := by
  refine fn_mir T.u_law sc_law (fun y => [sV K y.1]) (fun _ => rfl) (fun _ => rfl) fun cdv A outer s H E O y hr => ?_
  obtain ⟨v_script, _⟩ := y
  show JS _ [some (asn K H .val v_script), none, none, none, none, none, none, none, none, none, none, none] _ (m_law v_script) _
  unfold m_law
  exact (js_set (i := 1) sc_law.nd rfl (je_fn (ok__law_digits T) (hr.mono (by decide)) T.m__law_digits T.k__law_digits T.b__law_digits tk_of (ja_cons (je_nm 0 rfl (pv 0)) (ja_cons je_int ja_nil)) (fun _ => (psl_cons (psV fzV) (psl_cons (psV fzV) psl_nil))) trivial) fun digits_6 => (js_wk (.keep (.frz (.drop (.drop (.drop (.drop (.drop (.drop (.drop (.drop (.drop (.drop .nil)))))))))))) (js_set (i := 2) sc_law.nd rfl (je_modK (je_add (je_item (fun _ => rdeV) (je_nm 1 rfl (pv 1)) je_int) je_int)) fun size_13 => (js_ifJ (tj := (fun s_20 : Int => [some (asn K H .val v_script), some (asn K H .val digits_6), some (asn K H .val s_20), none, none, none, none, none, none, none, none, none])) (jt_eq (je_modK (je_item (fun _ => rdeV) (je_nm 1 rfl (pv 1)) je_int)) je_int) (js_set (i := 2) sc_law.nd rfl (je_modK (je_add (je_item (fun _ => rdeV) (je_nm 1 rfl (pv 1)) je_int) (je_mulKl (je_item (fun _ => rdeV) (je_nm 1 rfl (pv 1)) je_int)))) fun size_30 => (js_nil rfl (.keep (.keep (.keep (.drop (.drop (.drop (.drop (.drop (.drop (.drop (.drop (.drop .nil)))))))))))))) (js_nil rfl (.keep (.keep (.keep (.drop (.drop (.drop (.drop (.drop (.drop (.drop (.drop (.drop .nil))))))))))))) fun s_20 => (js_set (i := 3) sc_law.nd rfl (je_fn (ok__law_forest T) (hr.mono (by decide)) T.m__law_forest T.k__law_forest T.b__law_forest tk_of (ja_cons (je_nm 1 rfl (pv 1)) (ja_cons (je_ni 2 rfl (pv 2)) ja_nil)) (fun _ => (psl_cons (psB ((fun _ => rdV) _)) (psl_cons (psV fzV) psl_nil))) trivial) fun pairs_36 => (js_wk (.keep (.keep (.keep (.frz (.drop (.drop (.drop (.drop (.drop (.drop (.drop (.drop .nil)))))))))))) (js_set (i := 4) sc_law.nd rfl (je_fn (ok__law_triples T) (hr.mono (by decide)) T.m__law_triples T.k__law_triples T.b__law_triples tk_of (ja_cons (je_nm 3 rfl (pv 3)) ja_nil) (fun _ => (psl_cons (psB ((fun _ => rdV) _)) psl_nil)) trivial) fun triples_40 => (js_wk (.keep (.keep (.keep (.keep (.frz (.drop (.drop (.drop (.drop (.drop (.drop (.drop .nil)))))))))))) (js_set (i := 5) sc_law.nd rfl (je_fn (ok__law_signs T) (hr.mono (by decide)) T.m__law_signs T.k__law_signs T.b__law_signs tk_of (ja_cons (je_nm 3 rfl (pv 3)) ja_nil) (fun _ => (psl_cons (psB ((fun _ => rdV) _)) psl_nil)) trivial) fun row_44 => (js_wk (.keep (.keep (.keep (.keep (.keep (.frz (.drop (.drop (.drop (.drop (.drop (.drop .nil)))))))))))) (js_set (i := 6) sc_law.nd rfl (je_listL T.z_list (fun _ => rdeV) (je_nm 4 rfl (pv 4))) fun handed_46 => (js_set (i := 7) sc_law.nd rfl (je_fn (ok_row_of_binary T) (hr.mono (by decide)) T.m_row_of_binary T.k_row_of_binary T.b_row_of_binary tk_of (ja_cons (je_sl 6 rfl (pv 6)) ja_nil) (fun _ => (psl_cons (psB ((rdS 6 rfl) _)) psl_nil)) trivial) fun told_50 => (js_ifA (jt_w (jw_or (jt_not (jt_val (je_fn (ok__law_row T) (hr.mono (by decide)) T.m__law_row T.k__law_row T.b__law_row tk_of (ja_cons (je_sl 7 rfl (pv 7)) (ja_cons (je_nm 5 rfl (pv 5)) ja_nil)) (fun _ => (psl_cons (psB ((rdS 7 rfl) _)) (psl_cons (psB ((fun _ => rdV) _)) psl_nil))) trivial))) (jw_or1 (jt_not (jt_val (je_fn (ok__law_table T) (hr.mono (by decide)) T.m__law_table T.k__law_table T.b__law_table tk_of (ja_cons (je_sl 6 rfl (pv 6)) (ja_cons (je_nm 4 rfl (pv 4)) ja_nil)) (fun _ => (psl_cons (psB ((rdS 6 rfl) _)) (psl_cons (psB ((fun _ => rdV) _)) psl_nil))) trivial)))))) (js_ret je_bl (fun _ => rfl)) (js_app (xs := told_50) 7 rfl (fun _ => fzV) je_int (fun h => pe_bm PySem.F.plainAttrs_list PySem.F.slot_list_append PySem.F.type_list_append mt_append (pv 7) h) fun told_67 => (js_app (xs := handed_46) 6 rfl (fun _ => fzV) (je_tup3 (fun _ => fzV) (fun _ => fzV) (fun _ => fzV) (ja_cons je_int (ja_cons (je_neg je_int) (ja_cons (je_neg je_int) ja_nil)))) (fun h => pe_bm PySem.F.plainAttrs_list PySem.F.slot_list_append PySem.F.type_list_append mt_append (pv 6) h) fun handed_78 => (js_set (i := 7) sc_law.nd rfl (je_fn (ok_binary_of_row T) (hr.mono (by decide)) T.m_binary_of_row T.k_binary_of_row T.b_binary_of_row tk_of (ja_cons (je_listL T.z_list (fun _ => rdeV) (je_nm 5 rfl (pv 5))) ja_nil) (fun _ => (psl_cons (psB ((fun _ => rdO) _)) psl_nil)) trivial) fun told_83 => (js_ifA (jt_not (jt_val (je_fn (ok__law_table T) (hr.mono (by decide)) T.m__law_table T.k__law_table T.b__law_table tk_of (ja_cons (je_sl 7 rfl (pv 7)) (ja_cons (je_nm 4 rfl (pv 4)) ja_nil)) (fun _ => (psl_cons (psB ((rdS 7 rfl) _)) (psl_cons (psB ((fun _ => rdV) _)) psl_nil))) trivial))) (js_ret je_bl (fun _ => rfl)) (js_app (xs := told_83) 7 rfl (fun _ => fzV) (je_tup3 (fun _ => fzV) (fun _ => fzV) (fun _ => fzV) (ja_cons je_int (ja_cons (je_neg je_int) (ja_cons (je_neg je_int) ja_nil)))) (fun h => pe_bm PySem.F.plainAttrs_list PySem.F.slot_list_append PySem.F.type_list_append mt_append (pv 7) h) fun told_102 => (js_set (i := 8) sc_law.nd rfl (je_list (ja_cons je_nil (ja_cons (je_nm 4 rfl (pv 4)) (ja_cons (je_slice (fun _ => rdeV) (je_nm 4 rfl (pv 4)) jo_none (jo_some (je_neg je_int))) (ja_cons (je_cat (fun _ => rdeV) (fun _ => rdeO) (je_nm 4 rfl (pv 4)) (je_list (ja_cons (je_tup3 (fun _ => fzV) (fun _ => fzV) (fun _ => fzV) (ja_cons je_int (ja_cons (je_neg je_int) (ja_cons (je_neg je_int) ja_nil)))) ja_nil) (fun x_119 => [x_119.1]) (fun _ => (fzl_cons fzV fzl_nil)) (fun _ => Nat.le_of_ble_eq_true rfl))) ja_nil)))) (fun x_130 => [x_130.1, x_130.2.1, x_130.2.2.1, x_130.2.2.2.1]) (fun _ => (fzl_cons fzO (fzl_cons fzV (fzl_cons fzO (fzl_cons fzO fzl_nil))))) (fun _ => Nat.le_of_ble_eq_true rfl)) fun lists_131 => (js_set (i := 9) sc_law.nd rfl (je_list (ja_cons je_nil (ja_cons (je_nm 5 rfl (pv 5)) (ja_cons (je_cat (fun _ => rdeV) (fun _ => rdeO) (je_nm 5 rfl (pv 5)) (je_list (ja_cons je_int ja_nil) (fun x_134 => [x_134.1]) (fun _ => (fzl_cons fzV fzl_nil)) (fun _ => Nat.le_of_ble_eq_true rfl))) (ja_cons (je_cat (fun _ => rdeV) (fun _ => rdeO) (je_nm 5 rfl (pv 5)) (je_list (ja_cons je_int ja_nil) (fun x_139 => [x_139.1]) (fun _ => (fzl_cons fzV fzl_nil)) (fun _ => Nat.le_of_ble_eq_true rfl))) (ja_cons (je_slice (fun _ => rdeV) (je_nm 5 rfl (pv 5)) (jo_some je_int) jo_none) ja_nil))))) (fun x_156 => [x_156.1, x_156.2.1, x_156.2.2.1, x_156.2.2.2.1, x_156.2.2.2.2.1]) (fun _ => (fzl_cons fzO (fzl_cons fzV (fzl_cons fzO (fzl_cons fzO (fzl_cons fzO fzl_nil)))))) (fun _ => Nat.le_of_ble_eq_true rfl)) fun rows_157 => (js_for (tl := (fun s_159 : (List (List (T3 Int Int Int))) => [some (asn K H .val v_script), some (asn K H .val digits_6), some (asn K H .val s_20), some (asn K H .val pairs_36), some (asn K H .val triples_40), some (asn K H .val row_44), some (asn K H .own handed_78), some (asn K H .own told_102), some (asn K H .own s_159), some (asn K H .own rows_157), none, none])) (s0 := lists_131) (ji_range1 T.z_range je_int) (pg_name (i := 10) sc_law.nd rfl (Or.inl rfl)) (tgt_name 10) (.keep (.keep (.keep (.keep (.keep (.keep (.keep (.keep (.keep (.keep (.drop (.drop .nil)))))))))))) (fun x_160 s_159 => (js_app (xs := s_159) 8 rfl (fun _ => fzO) (je_fn (ok__law_bent T) (hr.mono (by decide)) T.m__law_bent T.k__law_bent T.b__law_bent tk_of (ja_cons (je_nm 4 rfl (pv 4)) (ja_cons (je_slice (fun _ => rdeV) (je_nm 1 rfl (pv 1)) (jo_some (je_add je_int (je_mulKl (je_ni 10 rfl (pv 10))))) (jo_some (je_add je_int (je_mulKl (je_ni 10 rfl (pv 10)))))) ja_nil)) (fun _ => (psl_cons (psB ((fun _ => rdV) _)) (psl_cons (psB ((fun _ => rdO) _)) psl_nil))) trivial) (fun h => pe_bm PySem.F.plainAttrs_list PySem.F.slot_list_append PySem.F.type_list_append mt_append (pv 8) h) fun lists_180 => (js_nilA rfl (.keep (.keep (.keep (.keep (.keep (.keep (.keep (.keep (.keep (.keep (.drop (.drop .nil))))))))))))))) (fun s_159 => (js_for (tl := (fun s_182 : (List (List Int)) => [some (asn K H .val v_script), some (asn K H .val digits_6), some (asn K H .val s_20), some (asn K H .val pairs_36), some (asn K H .val triples_40), some (asn K H .val row_44), some (asn K H .own handed_78), some (asn K H .own told_102), some (asn K H .own s_159), some (asn K H .own s_182), none, none])) (s0 := rows_157) (ji_range1 T.z_range je_int) (pg_name (i := 10) sc_law.nd rfl (Or.inl rfl)) (tgt_name 10) (.keep (.keep (.keep (.keep (.keep (.keep (.keep (.keep (.keep (.keep (.drop (.drop .nil)))))))))))) (fun x_183 s_182 => (js_app (xs := s_182) 9 rfl (fun _ => fzO) (je_fn (ok__law_bent_row T) (hr.mono (by decide)) T.m__law_bent_row T.k__law_bent_row T.b__law_bent_row tk_of (ja_cons (je_nm 5 rfl (pv 5)) (ja_cons (je_slice (fun _ => rdeV) (je_nm 1 rfl (pv 1)) (jo_some (je_add je_int (je_mulKl (je_ni 10 rfl (pv 10))))) (jo_some (je_add je_int (je_mulKl (je_ni 10 rfl (pv 10)))))) ja_nil)) (fun _ => (psl_cons (psB ((fun _ => rdV) _)) (psl_cons (psB ((fun _ => rdO) _)) psl_nil))) trivial) (fun h => pe_bm PySem.F.plainAttrs_list PySem.F.slot_list_append PySem.F.type_list_append mt_append (pv 9) h) fun rows_203 => (js_nilA rfl (.keep (.keep (.keep (.keep (.keep (.keep (.keep (.keep (.keep (.keep (.drop (.drop .nil))))))))))))))) (fun s_182 => (js_wk (.keep (.keep (.keep (.keep (.keep (.keep (.keep (.keep (.frz (.keep (.drop (.drop .nil)))))))))))) (js_for (tl := (fun s_204 : Unit => [some (asn K H .val v_script), some (asn K H .val digits_6), some (asn K H .val s_20), some (asn K H .val pairs_36), some (asn K H .val triples_40), some (asn K H .val row_44), some (asn K H .own handed_78), some (asn K H .own told_102), some (asn K H .val s_159), some (asn K H .own s_182), none, none])) (s0 := ()) (ji_list (fun _ => rdeW (.inl rfl)) (je_nm 8 rfl (pv 8))) (pg_name (i := 11) sc_law.nd rfl (Or.inl rfl)) (tgt_name 11) (.keep (.keep (.keep (.keep (.keep (.keep (.keep (.keep (.keep (.keep (.drop (.drop .nil)))))))))))) (fun x_205 s_204 => (js_ifL (jt_not (jt_val (je_fn (ok__law_binary_right T) (hr.mono (by decide)) T.m__law_binary_right T.k__law_binary_right T.b__law_binary_right tk_of (ja_cons (je_nm 11 rfl (pv 11)) ja_nil) (fun _ => (psl_cons (psB ((fun _ => rdV) _)) psl_nil)) trivial))) (js_ret je_bl (fun _ => rfl)) (js_nilA rfl (.keep (.keep (.keep (.keep (.keep (.keep (.keep (.keep (.keep (.keep (.drop (.drop .nil))))))))))))))) (fun s_204 => (js_wk (.keep (.keep (.keep (.keep (.keep (.keep (.keep (.keep (.keep (.frz (.drop (.drop .nil)))))))))))) (js_for (tl := (fun s_212 : Unit => [some (asn K H .val v_script), some (asn K H .val digits_6), some (asn K H .val s_20), some (asn K H .val pairs_36), some (asn K H .val triples_40), some (asn K H .val row_44), some (asn K H .own handed_78), some (asn K H .own told_102), some (asn K H .val s_159), some (asn K H .val s_182), none, none])) (s0 := ()) (ji_list (fun _ => rdeW (.inl rfl)) (je_nm 9 rfl (pv 9))) (pg_name (i := 11) sc_law.nd rfl (Or.inl rfl)) (tgt_name 11) (.keep (.keep (.keep (.keep (.keep (.keep (.keep (.keep (.keep (.keep (.drop (.drop .nil)))))))))))) (fun x_213 s_212 => (js_ifL (jt_not (jt_val (je_fn (ok__law_row_right T) (hr.mono (by decide)) T.m__law_row_right T.k__law_row_right T.b__law_row_right tk_of (ja_cons (je_nm 11 rfl (pv 11)) ja_nil) (fun _ => (psl_cons (psB ((fun _ => rdV) _)) psl_nil)) trivial))) (js_ret je_bl (fun _ => rfl)) (js_nilA rfl (.keep (.keep (.keep (.keep (.keep (.keep (.keep (.keep (.keep (.keep (.drop (.drop .nil))))))))))))))) (fun s_212 => (js_ret (je_and (je_fn (ok__law_row_right T) (hr.mono (by decide)) T.m__law_row_right T.k__law_row_right T.b__law_row_right tk_of (ja_cons (je_nm 5 rfl (pv 5)) ja_nil) (fun _ => (psl_cons (psB ((fun _ => rdV) _)) psl_nil)) trivial) (je_one (je_fn (ok__law_binary_right T) (hr.mono (by decide)) T.m__law_binary_right T.k__law_binary_right T.b__law_binary_right tk_of (ja_cons (je_nm 4 rfl (pv 4)) ja_nil) (fun _ => (psl_cons (psB ((fun _ => rdV) _)) psl_nil)) trivial))) (fun _ => rfl))) hpo_of))) hpo_of))) hpo_of)) hpo_of)))))))))))))))))))))
end
end K03
set_option maxRecDepth 100000
set_option maxHeartbeats 4000000
namespace K03
open PySem PySem.Spec PyProof.Rows L2 Mw

theorem all_mk {P : Program} {w : World} {K : PySem.W.Frag} {h : Heap} {mg : Str → Option Value} {fa : Addr} (X : K.In h) (G : h.Ns mainGlobals mg) (hfa : mg "law" = some (.ref fa))
    {f_checked_row : Addr} {od_checked_row an_checked_row : Option Addr} {sl_checked_row : Array (Option Value)} {oc_checked_row kV_checked_row dc_checked_row pm_checked_row cd_checked_row ct_checked_row : Value}
    {f_matched : Addr} {od_matched an_matched : Option Addr} {sl_matched : Array (Option Value)} {oc_matched kV_matched dc_matched pm_matched cd_matched ct_matched : Value}
    {f_checked_balanced : Addr} {od_checked_balanced an_checked_balanced : Option Addr} {sl_checked_balanced : Array (Option Value)} {oc_checked_balanced kV_checked_balanced dc_checked_balanced pm_checked_balanced cd_checked_balanced ct_checked_balanced : Value}
    {f_opening_number : Addr} {od_opening_number an_opening_number : Option Addr} {sl_opening_number : Array (Option Value)} {oc_opening_number kV_opening_number dc_opening_number pm_opening_number cd_opening_number ct_opening_number : Value}
    {f_binary_of_row : Addr} {od_binary_of_row an_binary_of_row : Option Addr} {sl_binary_of_row : Array (Option Value)} {oc_binary_of_row kV_binary_of_row dc_binary_of_row pm_binary_of_row cd_binary_of_row ct_binary_of_row : Value}
    {f_row_of_binary : Addr} {od_row_of_binary an_row_of_binary : Option Addr} {sl_row_of_binary : Array (Option Value)} {oc_row_of_binary kV_row_of_binary dc_row_of_binary pm_row_of_binary cd_row_of_binary ct_row_of_binary : Value}
    {f__law_digits : Addr} {od__law_digits an__law_digits : Option Addr} {sl__law_digits : Array (Option Value)} {oc__law_digits kV__law_digits dc__law_digits pm__law_digits cd__law_digits ct__law_digits : Value}
    {f__law_whole : Addr} {od__law_whole an__law_whole : Option Addr} {sl__law_whole : Array (Option Value)} {oc__law_whole kV__law_whole dc__law_whole pm__law_whole cd__law_whole ct__law_whole : Value}
    {f__law_row : Addr} {od__law_row an__law_row : Option Addr} {sl__law_row : Array (Option Value)} {oc__law_row kV__law_row dc__law_row pm__law_row cd__law_row ct__law_row : Value}
    {f__law_table : Addr} {od__law_table an__law_table : Option Addr} {sl__law_table : Array (Option Value)} {oc__law_table kV__law_table dc__law_table pm__law_table cd__law_table ct__law_table : Value}
    {f__law_forest : Addr} {od__law_forest an__law_forest : Option Addr} {sl__law_forest : Array (Option Value)} {oc__law_forest kV__law_forest dc__law_forest pm__law_forest cd__law_forest ct__law_forest : Value}
    {f__law_depths : Addr} {od__law_depths an__law_depths : Option Addr} {sl__law_depths : Array (Option Value)} {oc__law_depths kV__law_depths dc__law_depths pm__law_depths cd__law_depths ct__law_depths : Value}
    {f__law_signs : Addr} {od__law_signs an__law_signs : Option Addr} {sl__law_signs : Array (Option Value)} {oc__law_signs kV__law_signs dc__law_signs pm__law_signs cd__law_signs ct__law_signs : Value}
    {f__law_pairs_of : Addr} {od__law_pairs_of an__law_pairs_of : Option Addr} {sl__law_pairs_of : Array (Option Value)} {oc__law_pairs_of kV__law_pairs_of dc__law_pairs_of pm__law_pairs_of cd__law_pairs_of ct__law_pairs_of : Value}
    {f__law_bad_sign : Addr} {od__law_bad_sign an__law_bad_sign : Option Addr} {sl__law_bad_sign : Array (Option Value)} {oc__law_bad_sign kV__law_bad_sign dc__law_bad_sign pm__law_bad_sign cd__law_bad_sign ct__law_bad_sign : Value}
    {f__law_bent_row : Addr} {od__law_bent_row an__law_bent_row : Option Addr} {sl__law_bent_row : Array (Option Value)} {oc__law_bent_row kV__law_bent_row dc__law_bent_row pm__law_bent_row cd__law_bent_row ct__law_bent_row : Value}
    {f__law_triples : Addr} {od__law_triples an__law_triples : Option Addr} {sl__law_triples : Array (Option Value)} {oc__law_triples kV__law_triples dc__law_triples pm__law_triples cd__law_triples ct__law_triples : Value}
    {f__law_row_due : Addr} {od__law_row_due an__law_row_due : Option Addr} {sl__law_row_due : Array (Option Value)} {oc__law_row_due kV__law_row_due dc__law_row_due pm__law_row_due cd__law_row_due ct__law_row_due : Value}
    {f__law_cuts : Addr} {od__law_cuts an__law_cuts : Option Addr} {sl__law_cuts : Array (Option Value)} {oc__law_cuts kV__law_cuts dc__law_cuts pm__law_cuts cd__law_cuts ct__law_cuts : Value}
    {f__law_binary_due : Addr} {od__law_binary_due an__law_binary_due : Option Addr} {sl__law_binary_due : Array (Option Value)} {oc__law_binary_due kV__law_binary_due dc__law_binary_due pm__law_binary_due cd__law_binary_due ct__law_binary_due : Value}
    {f__law_told : Addr} {od__law_told an__law_told : Option Addr} {sl__law_told : Array (Option Value)} {oc__law_told kV__law_told dc__law_told pm__law_told cd__law_told ct__law_told : Value}
    {f__law_row_right : Addr} {od__law_row_right an__law_row_right : Option Addr} {sl__law_row_right : Array (Option Value)} {oc__law_row_right kV__law_row_right dc__law_row_right pm__law_row_right cd__law_row_right ct__law_row_right : Value}
    {f__law_binary_right : Addr} {od__law_binary_right an__law_binary_right : Option Addr} {sl__law_binary_right : Array (Option Value)} {oc__law_binary_right kV__law_binary_right dc__law_binary_right pm__law_binary_right cd__law_binary_right ct__law_binary_right : Value}
    {f__law_bent : Addr} {od__law_bent an__law_bent : Option Addr} {sl__law_bent : Array (Option Value)} {oc__law_bent kV__law_bent dc__law_bent pm__law_bent cd__law_bent ct__law_bent : Value}
    {f_law : Addr} {od_law an_law : Option Addr} {sl_law : Array (Option Value)} {oc_law kV_law dc_law pm_law cd_law ct_law : Value}
    {C_BadBinary : Addr}
    {C_BadNumber : Addr}
    {C_BadRow : Addr}
    {C_BadSign : Addr}
    {C_BadTree : Addr}
    {C_PackError : Addr}
    {f_iBadRow : Addr} {od_iBadRow an_iBadRow : Option Addr} {sl_iBadRow : Array (Option Value)} {oc_iBadRow kV_iBadRow dc_iBadRow pm_iBadRow cd_iBadRow ct_iBadRow : Value}
    {nm_BadRow q_BadRow : Str} {N_BadRow : Addr} {bs_BadRow : List Value} {sn_BadRow : List Str} {sub_BadRow : List Value} {ab_BadRow : Bool} {col_BadRow : Option Bool} {dd_BadRow : Option Addr} {k0_BadRow k1_BadRow k2_BadRow k3_BadRow k5_BadRow : Option Value}
    {f_iBadSign : Addr} {od_iBadSign an_iBadSign : Option Addr} {sl_iBadSign : Array (Option Value)} {oc_iBadSign kV_iBadSign dc_iBadSign pm_iBadSign cd_iBadSign ct_iBadSign : Value}
    {nm_BadSign q_BadSign : Str} {N_BadSign : Addr} {bs_BadSign : List Value} {sn_BadSign : List Str} {sub_BadSign : List Value} {ab_BadSign : Bool} {col_BadSign : Option Bool} {dd_BadSign : Option Addr} {k0_BadSign k1_BadSign k2_BadSign k3_BadSign k5_BadSign : Option Value}
    {tq_CLOSE : Tok}
    (a_checked_row : PySem.W.nsIn K mainGlobals "checked_row" = some (some (.ref f_checked_row)))
    (l_checked_row : K.lookup f_checked_row = some ⟨oc_checked_row, od_checked_row, .func (PySem.W.fnOf "checked_row" "checked_row" (defArgs st_checked_row) (defBody st_checked_row) (defScope st_checked_row) .none kV_checked_row dc_checked_row pm_checked_row an_checked_row cd_checked_row ct_checked_row), sl_checked_row⟩)
    (c_checked_row : PySem.W.codeIn K cd_checked_row "checked_row" = true)
    (k_checked_row : PySem.W.keepIn K (.ref f_checked_row) = true)
    (a_matched : PySem.W.nsIn K mainGlobals "matched" = some (some (.ref f_matched)))
    (l_matched : K.lookup f_matched = some ⟨oc_matched, od_matched, .func (PySem.W.fnOf "matched" "matched" (defArgs st_matched) (defBody st_matched) (defScope st_matched) .none kV_matched dc_matched pm_matched an_matched cd_matched ct_matched), sl_matched⟩)
    (c_matched : PySem.W.codeIn K cd_matched "matched" = true)
    (k_matched : PySem.W.keepIn K (.ref f_matched) = true)
    (a_checked_balanced : PySem.W.nsIn K mainGlobals "checked_balanced" = some (some (.ref f_checked_balanced)))
    (l_checked_balanced : K.lookup f_checked_balanced = some ⟨oc_checked_balanced, od_checked_balanced, .func (PySem.W.fnOf "checked_balanced" "checked_balanced" (defArgs st_checked_balanced) (defBody st_checked_balanced) (defScope st_checked_balanced) .none kV_checked_balanced dc_checked_balanced pm_checked_balanced an_checked_balanced cd_checked_balanced ct_checked_balanced), sl_checked_balanced⟩)
    (c_checked_balanced : PySem.W.codeIn K cd_checked_balanced "checked_balanced" = true)
    (k_checked_balanced : PySem.W.keepIn K (.ref f_checked_balanced) = true)
    (a_opening_number : PySem.W.nsIn K mainGlobals "opening_number" = some (some (.ref f_opening_number)))
    (l_opening_number : K.lookup f_opening_number = some ⟨oc_opening_number, od_opening_number, .func (PySem.W.fnOf "opening_number" "opening_number" (defArgs st_opening_number) (defBody st_opening_number) (defScope st_opening_number) .none kV_opening_number dc_opening_number pm_opening_number an_opening_number cd_opening_number ct_opening_number), sl_opening_number⟩)
    (c_opening_number : PySem.W.codeIn K cd_opening_number "opening_number" = true)
    (k_opening_number : PySem.W.keepIn K (.ref f_opening_number) = true)
    (a_binary_of_row : PySem.W.nsIn K mainGlobals "binary_of_row" = some (some (.ref f_binary_of_row)))
    (l_binary_of_row : K.lookup f_binary_of_row = some ⟨oc_binary_of_row, od_binary_of_row, .func (PySem.W.fnOf "binary_of_row" "binary_of_row" (defArgs st_binary_of_row) (defBody st_binary_of_row) (defScope st_binary_of_row) .none kV_binary_of_row dc_binary_of_row pm_binary_of_row an_binary_of_row cd_binary_of_row ct_binary_of_row), sl_binary_of_row⟩)
    (c_binary_of_row : PySem.W.codeIn K cd_binary_of_row "binary_of_row" = true)
    (k_binary_of_row : PySem.W.keepIn K (.ref f_binary_of_row) = true)
    (a_row_of_binary : PySem.W.nsIn K mainGlobals "row_of_binary" = some (some (.ref f_row_of_binary)))
    (l_row_of_binary : K.lookup f_row_of_binary = some ⟨oc_row_of_binary, od_row_of_binary, .func (PySem.W.fnOf "row_of_binary" "row_of_binary" (defArgs st_row_of_binary) (defBody st_row_of_binary) (defScope st_row_of_binary) .none kV_row_of_binary dc_row_of_binary pm_row_of_binary an_row_of_binary cd_row_of_binary ct_row_of_binary), sl_row_of_binary⟩)
    (c_row_of_binary : PySem.W.codeIn K cd_row_of_binary "row_of_binary" = true)
    (k_row_of_binary : PySem.W.keepIn K (.ref f_row_of_binary) = true)
    (a__law_digits : PySem.W.nsIn K mainGlobals "_law_digits" = some (some (.ref f__law_digits)))
    (l__law_digits : K.lookup f__law_digits = some ⟨oc__law_digits, od__law_digits, .func (PySem.W.fnOf "_law_digits" "_law_digits" (defArgs st__law_digits) (defBody st__law_digits) (defScope st__law_digits) .none kV__law_digits dc__law_digits pm__law_digits an__law_digits cd__law_digits ct__law_digits), sl__law_digits⟩)
    (c__law_digits : PySem.W.codeIn K cd__law_digits "_law_digits" = true)
    (k__law_digits : PySem.W.keepIn K (.ref f__law_digits) = true)
    (a__law_whole : PySem.W.nsIn K mainGlobals "_law_whole" = some (some (.ref f__law_whole)))
    (l__law_whole : K.lookup f__law_whole = some ⟨oc__law_whole, od__law_whole, .func (PySem.W.fnOf "_law_whole" "_law_whole" (defArgs st__law_whole) (defBody st__law_whole) (defScope st__law_whole) .none kV__law_whole dc__law_whole pm__law_whole an__law_whole cd__law_whole ct__law_whole), sl__law_whole⟩)
    (c__law_whole : PySem.W.codeIn K cd__law_whole "_law_whole" = true)
    (k__law_whole : PySem.W.keepIn K (.ref f__law_whole) = true)
    (a__law_row : PySem.W.nsIn K mainGlobals "_law_row" = some (some (.ref f__law_row)))
    (l__law_row : K.lookup f__law_row = some ⟨oc__law_row, od__law_row, .func (PySem.W.fnOf "_law_row" "_law_row" (defArgs st__law_row) (defBody st__law_row) (defScope st__law_row) .none kV__law_row dc__law_row pm__law_row an__law_row cd__law_row ct__law_row), sl__law_row⟩)
    (c__law_row : PySem.W.codeIn K cd__law_row "_law_row" = true)
    (k__law_row : PySem.W.keepIn K (.ref f__law_row) = true)
    (a__law_table : PySem.W.nsIn K mainGlobals "_law_table" = some (some (.ref f__law_table)))
    (l__law_table : K.lookup f__law_table = some ⟨oc__law_table, od__law_table, .func (PySem.W.fnOf "_law_table" "_law_table" (defArgs st__law_table) (defBody st__law_table) (defScope st__law_table) .none kV__law_table dc__law_table pm__law_table an__law_table cd__law_table ct__law_table), sl__law_table⟩)
    (c__law_table : PySem.W.codeIn K cd__law_table "_law_table" = true)
    (k__law_table : PySem.W.keepIn K (.ref f__law_table) = true)
    (a__law_forest : PySem.W.nsIn K mainGlobals "_law_forest" = some (some (.ref f__law_forest)))
    (l__law_forest : K.lookup f__law_forest = some ⟨oc__law_forest, od__law_forest, .func (PySem.W.fnOf "_law_forest" "_law_forest" (defArgs st__law_forest) (defBody st__law_forest) (defScope st__law_forest) .none kV__law_forest dc__law_forest pm__law_forest an__law_forest cd__law_forest ct__law_forest), sl__law_forest⟩)
    (c__law_forest : PySem.W.codeIn K cd__law_forest "_law_forest" = true)
    (k__law_forest : PySem.W.keepIn K (.ref f__law_forest) = true)
    (a__law_depths : PySem.W.nsIn K mainGlobals "_law_depths" = some (some (.ref f__law_depths)))
    (l__law_depths : K.lookup f__law_depths = some ⟨oc__law_depths, od__law_depths, .func (PySem.W.fnOf "_law_depths" "_law_depths" (defArgs st__law_depths) (defBody st__law_depths) (defScope st__law_depths) .none kV__law_depths dc__law_depths pm__law_depths an__law_depths cd__law_depths ct__law_depths), sl__law_depths⟩)
    (c__law_depths : PySem.W.codeIn K cd__law_depths "_law_depths" = true)
    (k__law_depths : PySem.W.keepIn K (.ref f__law_depths) = true)
    (a__law_signs : PySem.W.nsIn K mainGlobals "_law_signs" = some (some (.ref f__law_signs)))
    (l__law_signs : K.lookup f__law_signs = some ⟨oc__law_signs, od__law_signs, .func (PySem.W.fnOf "_law_signs" "_law_signs" (defArgs st__law_signs) (defBody st__law_signs) (defScope st__law_signs) .none kV__law_signs dc__law_signs pm__law_signs an__law_signs cd__law_signs ct__law_signs), sl__law_signs⟩)
    (c__law_signs : PySem.W.codeIn K cd__law_signs "_law_signs" = true)
    (k__law_signs : PySem.W.keepIn K (.ref f__law_signs) = true)
    (a__law_pairs_of : PySem.W.nsIn K mainGlobals "_law_pairs_of" = some (some (.ref f__law_pairs_of)))
    (l__law_pairs_of : K.lookup f__law_pairs_of = some ⟨oc__law_pairs_of, od__law_pairs_of, .func (PySem.W.fnOf "_law_pairs_of" "_law_pairs_of" (defArgs st__law_pairs_of) (defBody st__law_pairs_of) (defScope st__law_pairs_of) .none kV__law_pairs_of dc__law_pairs_of pm__law_pairs_of an__law_pairs_of cd__law_pairs_of ct__law_pairs_of), sl__law_pairs_of⟩)
    (c__law_pairs_of : PySem.W.codeIn K cd__law_pairs_of "_law_pairs_of" = true)
    (k__law_pairs_of : PySem.W.keepIn K (.ref f__law_pairs_of) = true)
    (a__law_bad_sign : PySem.W.nsIn K mainGlobals "_law_bad_sign" = some (some (.ref f__law_bad_sign)))
    (l__law_bad_sign : K.lookup f__law_bad_sign = some ⟨oc__law_bad_sign, od__law_bad_sign, .func (PySem.W.fnOf "_law_bad_sign" "_law_bad_sign" (defArgs st__law_bad_sign) (defBody st__law_bad_sign) (defScope st__law_bad_sign) .none kV__law_bad_sign dc__law_bad_sign pm__law_bad_sign an__law_bad_sign cd__law_bad_sign ct__law_bad_sign), sl__law_bad_sign⟩)
    (c__law_bad_sign : PySem.W.codeIn K cd__law_bad_sign "_law_bad_sign" = true)
    (k__law_bad_sign : PySem.W.keepIn K (.ref f__law_bad_sign) = true)
    (a__law_bent_row : PySem.W.nsIn K mainGlobals "_law_bent_row" = some (some (.ref f__law_bent_row)))
    (l__law_bent_row : K.lookup f__law_bent_row = some ⟨oc__law_bent_row, od__law_bent_row, .func (PySem.W.fnOf "_law_bent_row" "_law_bent_row" (defArgs st__law_bent_row) (defBody st__law_bent_row) (defScope st__law_bent_row) .none kV__law_bent_row dc__law_bent_row pm__law_bent_row an__law_bent_row cd__law_bent_row ct__law_bent_row), sl__law_bent_row⟩)
    (c__law_bent_row : PySem.W.codeIn K cd__law_bent_row "_law_bent_row" = true)
    (k__law_bent_row : PySem.W.keepIn K (.ref f__law_bent_row) = true)
    (a__law_triples : PySem.W.nsIn K mainGlobals "_law_triples" = some (some (.ref f__law_triples)))
    (l__law_triples : K.lookup f__law_triples = some ⟨oc__law_triples, od__law_triples, .func (PySem.W.fnOf "_law_triples" "_law_triples" (defArgs st__law_triples) (defBody st__law_triples) (defScope st__law_triples) .none kV__law_triples dc__law_triples pm__law_triples an__law_triples cd__law_triples ct__law_triples), sl__law_triples⟩)
    (c__law_triples : PySem.W.codeIn K cd__law_triples "_law_triples" = true)
    (k__law_triples : PySem.W.keepIn K (.ref f__law_triples) = true)
    (a__law_row_due : PySem.W.nsIn K mainGlobals "_law_row_due" = some (some (.ref f__law_row_due)))
    (l__law_row_due : K.lookup f__law_row_due = some ⟨oc__law_row_due, od__law_row_due, .func (PySem.W.fnOf "_law_row_due" "_law_row_due" (defArgs st__law_row_due) (defBody st__law_row_due) (defScope st__law_row_due) .none kV__law_row_due dc__law_row_due pm__law_row_due an__law_row_due cd__law_row_due ct__law_row_due), sl__law_row_due⟩)
    (c__law_row_due : PySem.W.codeIn K cd__law_row_due "_law_row_due" = true)
    (k__law_row_due : PySem.W.keepIn K (.ref f__law_row_due) = true)
    (a__law_cuts : PySem.W.nsIn K mainGlobals "_law_cuts" = some (some (.ref f__law_cuts)))
    (l__law_cuts : K.lookup f__law_cuts = some ⟨oc__law_cuts, od__law_cuts, .func (PySem.W.fnOf "_law_cuts" "_law_cuts" (defArgs st__law_cuts) (defBody st__law_cuts) (defScope st__law_cuts) .none kV__law_cuts dc__law_cuts pm__law_cuts an__law_cuts cd__law_cuts ct__law_cuts), sl__law_cuts⟩)
    (c__law_cuts : PySem.W.codeIn K cd__law_cuts "_law_cuts" = true)
    (k__law_cuts : PySem.W.keepIn K (.ref f__law_cuts) = true)
    (a__law_binary_due : PySem.W.nsIn K mainGlobals "_law_binary_due" = some (some (.ref f__law_binary_due)))
    (l__law_binary_due : K.lookup f__law_binary_due = some ⟨oc__law_binary_due, od__law_binary_due, .func (PySem.W.fnOf "_law_binary_due" "_law_binary_due" (defArgs st__law_binary_due) (defBody st__law_binary_due) (defScope st__law_binary_due) .none kV__law_binary_due dc__law_binary_due pm__law_binary_due an__law_binary_due cd__law_binary_due ct__law_binary_due), sl__law_binary_due⟩)
    (c__law_binary_due : PySem.W.codeIn K cd__law_binary_due "_law_binary_due" = true)
    (k__law_binary_due : PySem.W.keepIn K (.ref f__law_binary_due) = true)
    (a__law_told : PySem.W.nsIn K mainGlobals "_law_told" = some (some (.ref f__law_told)))
    (l__law_told : K.lookup f__law_told = some ⟨oc__law_told, od__law_told, .func (PySem.W.fnOf "_law_told" "_law_told" (defArgs st__law_told) (defBody st__law_told) (defScope st__law_told) .none kV__law_told dc__law_told pm__law_told an__law_told cd__law_told ct__law_told), sl__law_told⟩)
    (c__law_told : PySem.W.codeIn K cd__law_told "_law_told" = true)
    (k__law_told : PySem.W.keepIn K (.ref f__law_told) = true)
    (a__law_row_right : PySem.W.nsIn K mainGlobals "_law_row_right" = some (some (.ref f__law_row_right)))
    (l__law_row_right : K.lookup f__law_row_right = some ⟨oc__law_row_right, od__law_row_right, .func (PySem.W.fnOf "_law_row_right" "_law_row_right" (defArgs st__law_row_right) (defBody st__law_row_right) (defScope st__law_row_right) .none kV__law_row_right dc__law_row_right pm__law_row_right an__law_row_right cd__law_row_right ct__law_row_right), sl__law_row_right⟩)
    (c__law_row_right : PySem.W.codeIn K cd__law_row_right "_law_row_right" = true)
    (k__law_row_right : PySem.W.keepIn K (.ref f__law_row_right) = true)
    (a__law_binary_right : PySem.W.nsIn K mainGlobals "_law_binary_right" = some (some (.ref f__law_binary_right)))
    (l__law_binary_right : K.lookup f__law_binary_right = some ⟨oc__law_binary_right, od__law_binary_right, .func (PySem.W.fnOf "_law_binary_right" "_law_binary_right" (defArgs st__law_binary_right) (defBody st__law_binary_right) (defScope st__law_binary_right) .none kV__law_binary_right dc__law_binary_right pm__law_binary_right an__law_binary_right cd__law_binary_right ct__law_binary_right), sl__law_binary_right⟩)
    (c__law_binary_right : PySem.W.codeIn K cd__law_binary_right "_law_binary_right" = true)
    (k__law_binary_right : PySem.W.keepIn K (.ref f__law_binary_right) = true)
    (a__law_bent : PySem.W.nsIn K mainGlobals "_law_bent" = some (some (.ref f__law_bent)))
    (l__law_bent : K.lookup f__law_bent = some ⟨oc__law_bent, od__law_bent, .func (PySem.W.fnOf "_law_bent" "_law_bent" (defArgs st__law_bent) (defBody st__law_bent) (defScope st__law_bent) .none kV__law_bent dc__law_bent pm__law_bent an__law_bent cd__law_bent ct__law_bent), sl__law_bent⟩)
    (c__law_bent : PySem.W.codeIn K cd__law_bent "_law_bent" = true)
    (k__law_bent : PySem.W.keepIn K (.ref f__law_bent) = true)
    (a_law : PySem.W.nsIn K mainGlobals "law" = some (some (.ref f_law)))
    (l_law : K.lookup f_law = some ⟨oc_law, od_law, .func (PySem.W.fnOf "law" "law" (defArgs st_law) (defBody st_law) (defScope st_law) .none kV_law dc_law pm_law an_law cd_law ct_law), sl_law⟩)
    (c_law : PySem.W.codeIn K cd_law "law" = true)
    (k_law : PySem.W.keepIn K (.ref f_law) = true)
    (aC_BadBinary : PySem.W.nsIn K mainGlobals "BadBinary" = some (some (.ref C_BadBinary)))
    (aC_BadNumber : PySem.W.nsIn K mainGlobals "BadNumber" = some (some (.ref C_BadNumber)))
    (aC_BadRow : PySem.W.nsIn K mainGlobals "BadRow" = some (some (.ref C_BadRow)))
    (aC_BadSign : PySem.W.nsIn K mainGlobals "BadSign" = some (some (.ref C_BadSign)))
    (aC_BadTree : PySem.W.nsIn K mainGlobals "BadTree" = some (some (.ref C_BadTree)))
    (aC_PackError : PySem.W.nsIn K mainGlobals "PackError" = some (some (.ref C_PackError)))
    (ga_BadBinary : PySem.W.findIn K (.ref C_BadBinary) "__getattribute__" = some (some (.builtin "BaseException.__getattribute__")))
    (gg_BadBinary : PySem.W.findIn K (.ref C_BadBinary) "__getattr__" = some none)
    (hc_BadBinary : PySem.W.findIn K (.ref C_BadBinary) "__class__" = some (some (.builtin "object.__class__")))
    (kC_BadBinary : PySem.W.keepIn K (.ref C_BadBinary) = true)
    (exC_BadBinary : PySem.W.subIn K (.ref C_BadBinary) (.type "BaseException") = some true)
    (veC_BadBinary : PySem.W.subIn K (.ref C_BadBinary) (.type "ValueError") = some true)
    (tyC_BadBinary : PySem.W.typeIn K (.ref C_BadBinary) = some (.type "type"))
    (hdC_BadBinary : PySem.W.hasDictIn K C_BadBinary = true)
    (mro_BadBinary : PySem.W.mroIn K C_BadBinary (.type "object") = some true)
    (sub_BadBinary : PySem.W.subIn K (.ref C_BadBinary) (.ref C_BadBinary) = some true)
    (par_BadBinary : PySem.W.subIn K (.ref C_BadBinary) (.ref C_PackError) = some true)
    (nf_BadBinary_place : PySem.W.findIn K (.ref C_BadBinary) "place" = some none)
    (xq_BadBinary : PySem.W.excIn K C_BadBinary [.type "ValueError", .type "Exception", .type "BaseException", .type "object"] "ValueError.__new__" = true)
    (x_BadRow : K.lookup C_BadRow = some (excClassObj nm_BadRow q_BadRow C_BadRow N_BadRow bs_BadRow [.ref C_PackError, .type "ValueError", .type "Exception", .type "BaseException", .type "object"] true sn_BadRow sub_BadRow ab_BadRow col_BadRow dd_BadRow k0_BadRow k1_BadRow k2_BadRow k3_BadRow k5_BadRow "ValueError.__new__"))
    (sa_BadRow : PySem.W.findIn K (.ref C_BadRow) "__setattr__" = some (some (.builtin "object.__setattr__")))
    (ga_BadRow : PySem.W.findIn K (.ref C_BadRow) "__getattribute__" = some (some (.builtin "BaseException.__getattribute__")))
    (gg_BadRow : PySem.W.findIn K (.ref C_BadRow) "__getattr__" = some none)
    (hc_BadRow : PySem.W.findIn K (.ref C_BadRow) "__class__" = some (some (.builtin "object.__class__")))
    (no_BadRow : PySem.W.findIn K (.ref C_BadRow) "place" = some none)
    (iC_BadRow : PySem.W.findIn K (.ref C_BadRow) "__init__" = some (some (.ref f_iBadRow)))
    (tI_BadRow : PySem.W.typeIn K (.ref f_iBadRow) = some (.type "function"))
    (kC_BadRow : PySem.W.keepIn K (.ref C_BadRow) = true)
    (exC_BadRow : PySem.W.subIn K (.ref C_BadRow) (.type "BaseException") = some true)
    (veC_BadRow : PySem.W.subIn K (.ref C_BadRow) (.type "ValueError") = some true)
    (tyC_BadRow : PySem.W.typeIn K (.ref C_BadRow) = some (.type "type"))
    (hdC_BadRow : PySem.W.hasDictIn K C_BadRow = true)
    (mro_BadRow : PySem.W.mroIn K C_BadRow (.type "object") = some true)
    (sub_BadRow : PySem.W.subIn K (.ref C_BadRow) (.ref C_BadRow) = some true)
    (par_BadRow : PySem.W.subIn K (.ref C_BadRow) (.ref C_PackError) = some true)
    (li_BadRow : K.lookup f_iBadRow = some ⟨oc_iBadRow, od_iBadRow, .func (PySem.W.fnOf "__init__" "BadRow.__init__" (defArgs st_iBadRow) (defBody st_iBadRow) (defScope st_iBadRow) .none kV_iBadRow dc_iBadRow pm_iBadRow an_iBadRow cd_iBadRow ct_iBadRow), sl_iBadRow⟩)
    (ci_BadRow : PySem.W.codeIn K cd_iBadRow "BadRow.__init__" = true)
    (ki_BadRow : PySem.W.keepIn K (.ref f_iBadRow) = true)
    (x_BadSign : K.lookup C_BadSign = some (excClassObj nm_BadSign q_BadSign C_BadSign N_BadSign bs_BadSign [.ref C_PackError, .type "ValueError", .type "Exception", .type "BaseException", .type "object"] true sn_BadSign sub_BadSign ab_BadSign col_BadSign dd_BadSign k0_BadSign k1_BadSign k2_BadSign k3_BadSign k5_BadSign "ValueError.__new__"))
    (sa_BadSign : PySem.W.findIn K (.ref C_BadSign) "__setattr__" = some (some (.builtin "object.__setattr__")))
    (ga_BadSign : PySem.W.findIn K (.ref C_BadSign) "__getattribute__" = some (some (.builtin "BaseException.__getattribute__")))
    (gg_BadSign : PySem.W.findIn K (.ref C_BadSign) "__getattr__" = some none)
    (hc_BadSign : PySem.W.findIn K (.ref C_BadSign) "__class__" = some (some (.builtin "object.__class__")))
    (no_BadSign : PySem.W.findIn K (.ref C_BadSign) "place" = some none)
    (iC_BadSign : PySem.W.findIn K (.ref C_BadSign) "__init__" = some (some (.ref f_iBadSign)))
    (tI_BadSign : PySem.W.typeIn K (.ref f_iBadSign) = some (.type "function"))
    (kC_BadSign : PySem.W.keepIn K (.ref C_BadSign) = true)
    (exC_BadSign : PySem.W.subIn K (.ref C_BadSign) (.type "BaseException") = some true)
    (veC_BadSign : PySem.W.subIn K (.ref C_BadSign) (.type "ValueError") = some true)
    (tyC_BadSign : PySem.W.typeIn K (.ref C_BadSign) = some (.type "type"))
    (hdC_BadSign : PySem.W.hasDictIn K C_BadSign = true)
    (mro_BadSign : PySem.W.mroIn K C_BadSign (.type "object") = some true)
    (sub_BadSign : PySem.W.subIn K (.ref C_BadSign) (.ref C_BadSign) = some true)
    (par_BadSign : PySem.W.subIn K (.ref C_BadSign) (.ref C_PackError) = some true)
    (li_BadSign : K.lookup f_iBadSign = some ⟨oc_iBadSign, od_iBadSign, .func (PySem.W.fnOf "__init__" "BadSign.__init__" (defArgs st_iBadSign) (defBody st_iBadSign) (defScope st_iBadSign) .none kV_iBadSign dc_iBadSign pm_iBadSign an_iBadSign cd_iBadSign ct_iBadSign), sl_iBadSign⟩)
    (ci_BadSign : PySem.W.codeIn K cd_iBadSign "BadSign.__init__" = true)
    (ki_BadSign : PySem.W.keepIn K (.ref f_iBadSign) = true)
    (qh_BadNumber : PySem.W.hasDictIn K C_BadNumber = true)
    (qt_BadNumber : PySem.W.typeIn K (.ref C_BadNumber) = some (.type "type"))
    (qh_BadTree : PySem.W.hasDictIn K C_BadTree = true)
    (qt_BadTree : PySem.W.typeIn K (.ref C_BadTree) = some (.type "type"))
    (qh_PackError : PySem.W.hasDictIn K C_PackError = true)
    (qt_PackError : PySem.W.typeIn K (.ref C_PackError) = some (.type "type"))
    (qb_PackError : PySem.W.subIn K (.ref C_PackError) (.type "BaseException") = some true)
    (sb_BadBinary_BadNumber : PySem.W.subIn K (.ref C_BadBinary) (.ref C_BadNumber) = some false)
    (sb_BadBinary_BadRow : PySem.W.subIn K (.ref C_BadBinary) (.ref C_BadRow) = some false)
    (sb_BadBinary_BadSign : PySem.W.subIn K (.ref C_BadBinary) (.ref C_BadSign) = some false)
    (sb_BadBinary_BadTree : PySem.W.subIn K (.ref C_BadBinary) (.ref C_BadTree) = some false)
    (sb_BadRow_BadBinary : PySem.W.subIn K (.ref C_BadRow) (.ref C_BadBinary) = some false)
    (sb_BadRow_BadNumber : PySem.W.subIn K (.ref C_BadRow) (.ref C_BadNumber) = some false)
    (sb_BadRow_BadSign : PySem.W.subIn K (.ref C_BadRow) (.ref C_BadSign) = some false)
    (sb_BadRow_BadTree : PySem.W.subIn K (.ref C_BadRow) (.ref C_BadTree) = some false)
    (sb_BadSign_BadBinary : PySem.W.subIn K (.ref C_BadSign) (.ref C_BadBinary) = some false)
    (sb_BadSign_BadNumber : PySem.W.subIn K (.ref C_BadSign) (.ref C_BadNumber) = some false)
    (sb_BadSign_BadRow : PySem.W.subIn K (.ref C_BadSign) (.ref C_BadRow) = some false)
    (sb_BadSign_BadTree : PySem.W.subIn K (.ref C_BadSign) (.ref C_BadTree) = some false)
    (sn : PySem.W.specialIn K (.builtin "object.__class__") "__get__" = some (some (.builtin "getset_descriptor.__get__")))
    (sk : PySem.W.takesIn K (.builtin "object.__class__") = some true)
    (q_CLOSE : PySem.W.nsIn K mainGlobals "CLOSE" = some (some (.int (-1) tq_CLOSE)))
    (z_ValueError : PySem.W.nsIn K mainGlobals "ValueError" = some none)
    (z_abs : PySem.W.nsIn K mainGlobals "abs" = some none)
    (z_bool : PySem.W.nsIn K mainGlobals "bool" = some none)
    (z_enumerate : PySem.W.nsIn K mainGlobals "enumerate" = some none)
    (z_int : PySem.W.nsIn K mainGlobals "int" = some none)
    (z_isinstance : PySem.W.nsIn K mainGlobals "isinstance" = some none)
    (z_len : PySem.W.nsIn K mainGlobals "len" = some none)
    (z_list : PySem.W.nsIn K mainGlobals "list" = some none)
    (z_max : PySem.W.nsIn K mainGlobals "max" = some none)
    (z_range : PySem.W.nsIn K mainGlobals "range" = some none)
    (z_tuple : PySem.W.nsIn K mainGlobals "tuple" = some none) :
    ∃ eg : EK → Addr, ∃ fd : FuncData, (∀ (s : Shared) (v : Value), BindsTo s fd ⟨[v], []⟩ [("script", v)]) ∧ ∀ base : Heap, K.In base → base.Ns mainGlobals mg → FnOk P w K mg base (L2N.CX P w) 10 fa fd ["script"] (spL K eg m_law) := by
  have e := hfa.symm.trans (PySem.W.mg_of X G a_law)
  cases e
  have e_BadRow : ErrTxt K C_BadRow C_PackError f_iBadRow "place" := ⟨⟨_, _, _, _, _, _, _, _, _, _, _, _, _, _, x_BadRow⟩, sa_BadRow, ga_BadRow, gg_BadRow, hc_BadRow, no_BadRow, iC_BadRow, tI_BadRow, kC_BadRow, exC_BadRow, veC_BadRow, tyC_BadRow, hdC_BadRow, mro_BadRow, sub_BadRow, par_BadRow⟩
  have e_BadSign : ErrTxt K C_BadSign C_PackError f_iBadSign "place" := ⟨⟨_, _, _, _, _, _, _, _, _, _, _, _, _, _, x_BadSign⟩, sa_BadSign, ga_BadSign, gg_BadSign, hc_BadSign, no_BadSign, iC_BadSign, tI_BadSign, kC_BadSign, exC_BadSign, veC_BadSign, tyC_BadSign, hdC_BadSign, mro_BadSign, sub_BadSign, par_BadSign⟩
  let T : Tx K mg (fun k => match k with | .BadBinary => C_BadBinary | .BadNumber => C_BadNumber | .BadRow => C_BadRow | .BadSign => C_BadSign | .BadTree => C_BadTree | .PackError => C_PackError | _ => 0) := { a_checked_row := f_checked_row, d_checked_row := _, u_checked_row := fun_mk (st := st_checked_row) l_checked_row c_checked_row k_checked_row, b_checked_row := (fun_mk (st := st_checked_row) l_checked_row c_checked_row k_checked_row).binds (ps := ["row"]) (fun _ _ _ _ _ _ us hl => match us, hl with | [_], _ => rfl), m_checked_row := PySem.W.mg_of X G a_checked_row, k_checked_row := k_checked_row, a_matched := f_matched, d_matched := _, u_matched := fun_mk (st := st_matched) l_matched c_matched k_matched, b_matched := (fun_mk (st := st_matched) l_matched c_matched k_matched).binds (ps := ["row"]) (fun _ _ _ _ _ _ us hl => match us, hl with | [_], _ => rfl), m_matched := PySem.W.mg_of X G a_matched, k_matched := k_matched, a_checked_balanced := f_checked_balanced, d_checked_balanced := _, u_checked_balanced := fun_mk (st := st_checked_balanced) l_checked_balanced c_checked_balanced k_checked_balanced, b_checked_balanced := (fun_mk (st := st_checked_balanced) l_checked_balanced c_checked_balanced k_checked_balanced).binds (ps := ["row"]) (fun _ _ _ _ _ _ us hl => match us, hl with | [_], _ => rfl), m_checked_balanced := PySem.W.mg_of X G a_checked_balanced, k_checked_balanced := k_checked_balanced, a_opening_number := f_opening_number, d_opening_number := _, u_opening_number := fun_mk (st := st_opening_number) l_opening_number c_opening_number k_opening_number, b_opening_number := (fun_mk (st := st_opening_number) l_opening_number c_opening_number k_opening_number).binds (ps := ["signs", "numbers", "place"]) (fun _ _ _ _ _ _ us hl => match us, hl with | [_, _, _], _ => rfl), m_opening_number := PySem.W.mg_of X G a_opening_number, k_opening_number := k_opening_number, a_binary_of_row := f_binary_of_row, d_binary_of_row := _, u_binary_of_row := fun_mk (st := st_binary_of_row) l_binary_of_row c_binary_of_row k_binary_of_row, b_binary_of_row := (fun_mk (st := st_binary_of_row) l_binary_of_row c_binary_of_row k_binary_of_row).binds (ps := ["row"]) (fun _ _ _ _ _ _ us hl => match us, hl with | [_], _ => rfl), m_binary_of_row := PySem.W.mg_of X G a_binary_of_row, k_binary_of_row := k_binary_of_row, a_row_of_binary := f_row_of_binary, d_row_of_binary := _, u_row_of_binary := fun_mk (st := st_row_of_binary) l_row_of_binary c_row_of_binary k_row_of_binary, b_row_of_binary := (fun_mk (st := st_row_of_binary) l_row_of_binary c_row_of_binary k_row_of_binary).binds (ps := ["triples"]) (fun _ _ _ _ _ _ us hl => match us, hl with | [_], _ => rfl), m_row_of_binary := PySem.W.mg_of X G a_row_of_binary, k_row_of_binary := k_row_of_binary, a__law_digits := f__law_digits, d__law_digits := _, u__law_digits := fun_mk (st := st__law_digits) l__law_digits c__law_digits k__law_digits, b__law_digits := (fun_mk (st := st__law_digits) l__law_digits c__law_digits k__law_digits).binds (ps := ["script", "many"]) (fun _ _ _ _ _ _ us hl => match us, hl with | [_, _], _ => rfl), m__law_digits := PySem.W.mg_of X G a__law_digits, k__law_digits := k__law_digits, a__law_whole := f__law_whole, d__law_whole := _, u__law_whole := fun_mk (st := st__law_whole) l__law_whole c__law_whole k__law_whole, b__law_whole := (fun_mk (st := st__law_whole) l__law_whole c__law_whole k__law_whole).binds (ps := ["told"]) (fun _ _ _ _ _ _ us hl => match us, hl with | [_], _ => rfl), m__law_whole := PySem.W.mg_of X G a__law_whole, k__law_whole := k__law_whole, a__law_row := f__law_row, d__law_row := _, u__law_row := fun_mk (st := st__law_row) l__law_row c__law_row k__law_row, b__law_row := (fun_mk (st := st__law_row) l__law_row c__law_row k__law_row).binds (ps := ["told", "due"]) (fun _ _ _ _ _ _ us hl => match us, hl with | [_, _], _ => rfl), m__law_row := PySem.W.mg_of X G a__law_row, k__law_row := k__law_row, a__law_table := f__law_table, d__law_table := _, u__law_table := fun_mk (st := st__law_table) l__law_table c__law_table k__law_table, b__law_table := (fun_mk (st := st__law_table) l__law_table c__law_table k__law_table).binds (ps := ["told", "due"]) (fun _ _ _ _ _ _ us hl => match us, hl with | [_, _], _ => rfl), m__law_table := PySem.W.mg_of X G a__law_table, k__law_table := k__law_table, a__law_forest := f__law_forest, d__law_forest := _, u__law_forest := fun_mk (st := st__law_forest) l__law_forest c__law_forest k__law_forest, b__law_forest := (fun_mk (st := st__law_forest) l__law_forest c__law_forest k__law_forest).binds (ps := ["digits", "size"]) (fun _ _ _ _ _ _ us hl => match us, hl with | [_, _], _ => rfl), m__law_forest := PySem.W.mg_of X G a__law_forest, k__law_forest := k__law_forest, a__law_depths := f__law_depths, d__law_depths := _, u__law_depths := fun_mk (st := st__law_depths) l__law_depths c__law_depths k__law_depths, b__law_depths := (fun_mk (st := st__law_depths) l__law_depths c__law_depths k__law_depths).binds (ps := ["pairs"]) (fun _ _ _ _ _ _ us hl => match us, hl with | [_], _ => rfl), m__law_depths := PySem.W.mg_of X G a__law_depths, k__law_depths := k__law_depths, a__law_signs := f__law_signs, d__law_signs := _, u__law_signs := fun_mk (st := st__law_signs) l__law_signs c__law_signs k__law_signs, b__law_signs := (fun_mk (st := st__law_signs) l__law_signs c__law_signs k__law_signs).binds (ps := ["pairs"]) (fun _ _ _ _ _ _ us hl => match us, hl with | [_], _ => rfl), m__law_signs := PySem.W.mg_of X G a__law_signs, k__law_signs := k__law_signs, a__law_pairs_of := f__law_pairs_of, d__law_pairs_of := _, u__law_pairs_of := fun_mk (st := st__law_pairs_of) l__law_pairs_of c__law_pairs_of k__law_pairs_of, b__law_pairs_of := (fun_mk (st := st__law_pairs_of) l__law_pairs_of c__law_pairs_of k__law_pairs_of).binds (ps := ["row"]) (fun _ _ _ _ _ _ us hl => match us, hl with | [_], _ => rfl), m__law_pairs_of := PySem.W.mg_of X G a__law_pairs_of, k__law_pairs_of := k__law_pairs_of, a__law_bad_sign := f__law_bad_sign, d__law_bad_sign := _, u__law_bad_sign := fun_mk (st := st__law_bad_sign) l__law_bad_sign c__law_bad_sign k__law_bad_sign, b__law_bad_sign := (fun_mk (st := st__law_bad_sign) l__law_bad_sign c__law_bad_sign k__law_bad_sign).binds (ps := ["row"]) (fun _ _ _ _ _ _ us hl => match us, hl with | [_], _ => rfl), m__law_bad_sign := PySem.W.mg_of X G a__law_bad_sign, k__law_bad_sign := k__law_bad_sign, a__law_bent_row := f__law_bent_row, d__law_bent_row := _, u__law_bent_row := fun_mk (st := st__law_bent_row) l__law_bent_row c__law_bent_row k__law_bent_row, b__law_bent_row := (fun_mk (st := st__law_bent_row) l__law_bent_row c__law_bent_row k__law_bent_row).binds (ps := ["row", "five"]) (fun _ _ _ _ _ _ us hl => match us, hl with | [_, _], _ => rfl), m__law_bent_row := PySem.W.mg_of X G a__law_bent_row, k__law_bent_row := k__law_bent_row, a__law_triples := f__law_triples, d__law_triples := _, u__law_triples := fun_mk (st := st__law_triples) l__law_triples c__law_triples k__law_triples, b__law_triples := (fun_mk (st := st__law_triples) l__law_triples c__law_triples k__law_triples).binds (ps := ["pairs"]) (fun _ _ _ _ _ _ us hl => match us, hl with | [_], _ => rfl), m__law_triples := PySem.W.mg_of X G a__law_triples, k__law_triples := k__law_triples, a__law_row_due := f__law_row_due, d__law_row_due := _, u__law_row_due := fun_mk (st := st__law_row_due) l__law_row_due c__law_row_due k__law_row_due, b__law_row_due := (fun_mk (st := st__law_row_due) l__law_row_due c__law_row_due k__law_row_due).binds (ps := ["row"]) (fun _ _ _ _ _ _ us hl => match us, hl with | [_], _ => rfl), m__law_row_due := PySem.W.mg_of X G a__law_row_due, k__law_row_due := k__law_row_due, a__law_cuts := f__law_cuts, d__law_cuts := _, u__law_cuts := fun_mk (st := st__law_cuts) l__law_cuts c__law_cuts k__law_cuts, b__law_cuts := (fun_mk (st := st__law_cuts) l__law_cuts c__law_cuts k__law_cuts).binds (ps := ["triples"]) (fun _ _ _ _ _ _ us hl => match us, hl with | [_], _ => rfl), m__law_cuts := PySem.W.mg_of X G a__law_cuts, k__law_cuts := k__law_cuts, a__law_binary_due := f__law_binary_due, d__law_binary_due := _, u__law_binary_due := fun_mk (st := st__law_binary_due) l__law_binary_due c__law_binary_due k__law_binary_due, b__law_binary_due := (fun_mk (st := st__law_binary_due) l__law_binary_due c__law_binary_due k__law_binary_due).binds (ps := ["triples"]) (fun _ _ _ _ _ _ us hl => match us, hl with | [_], _ => rfl), m__law_binary_due := PySem.W.mg_of X G a__law_binary_due, k__law_binary_due := k__law_binary_due, a__law_told := f__law_told, d__law_told := _, u__law_told := fun_mk (st := st__law_told) l__law_told c__law_told k__law_told, b__law_told := (fun_mk (st := st__law_told) l__law_told c__law_told k__law_told).binds (ps := ["way", "handed"]) (fun _ _ _ _ _ _ us hl => match us, hl with | [_, _], _ => rfl), m__law_told := PySem.W.mg_of X G a__law_told, k__law_told := k__law_told, a__law_row_right := f__law_row_right, d__law_row_right := _, u__law_row_right := fun_mk (st := st__law_row_right) l__law_row_right c__law_row_right k__law_row_right, b__law_row_right := (fun_mk (st := st__law_row_right) l__law_row_right c__law_row_right k__law_row_right).binds (ps := ["row"]) (fun _ _ _ _ _ _ us hl => match us, hl with | [_], _ => rfl), m__law_row_right := PySem.W.mg_of X G a__law_row_right, k__law_row_right := k__law_row_right, a__law_binary_right := f__law_binary_right, d__law_binary_right := _, u__law_binary_right := fun_mk (st := st__law_binary_right) l__law_binary_right c__law_binary_right k__law_binary_right, b__law_binary_right := (fun_mk (st := st__law_binary_right) l__law_binary_right c__law_binary_right k__law_binary_right).binds (ps := ["triples"]) (fun _ _ _ _ _ _ us hl => match us, hl with | [_], _ => rfl), m__law_binary_right := PySem.W.mg_of X G a__law_binary_right, k__law_binary_right := k__law_binary_right, a__law_bent := f__law_bent, d__law_bent := _, u__law_bent := fun_mk (st := st__law_bent) l__law_bent c__law_bent k__law_bent, b__law_bent := (fun_mk (st := st__law_bent) l__law_bent c__law_bent k__law_bent).binds (ps := ["triples", "five"]) (fun _ _ _ _ _ _ us hl => match us, hl with | [_, _], _ => rfl), m__law_bent := PySem.W.mg_of X G a__law_bent, k__law_bent := k__law_bent, a_law := fa, d_law := _, u_law := fun_mk (st := st_law) l_law c_law k_law, b_law := (fun_mk (st := st_law) l_law c_law k_law).binds (ps := ["script"]) (fun _ _ _ _ _ _ us hl => match us, hl with | [_], _ => rfl), m_law := PySem.W.mg_of X G a_law, k_law := k_law, xq_BadBinary := xq_BadBinary, kc_BadBinary := kC_BadBinary, xb_BadBinary := exC_BadBinary, xt_BadBinary := tyC_BadBinary, xc_BadBinary := ⟨ga_BadBinary, gg_BadBinary, exC_BadBinary, hdC_BadBinary, hc_BadBinary, sn, sk, mro_BadBinary⟩, xf_BadBinary := ⟨ga_BadBinary, gg_BadBinary, exC_BadBinary, hdC_BadBinary⟩, no_BadBinary_place := nf_BadBinary_place, xm_BadBinary_PackError := PySem.W.exm_ref qb_PackError qh_PackError qt_PackError par_BadBinary, xk_BadBinary_BadBinary := kit_ref sub_BadBinary hdC_BadBinary tyC_BadBinary sub_BadBinary, xk_BadBinary_BadNumber := kit_ref sub_BadBinary qh_BadNumber qt_BadNumber sb_BadBinary_BadNumber, xk_BadBinary_BadRow := kit_ref sub_BadBinary hdC_BadRow tyC_BadRow sb_BadBinary_BadRow, xk_BadBinary_BadSign := kit_ref sub_BadBinary hdC_BadSign tyC_BadSign sb_BadBinary_BadSign, xk_BadBinary_BadTree := kit_ref sub_BadBinary qh_BadTree qt_BadTree sb_BadBinary_BadTree, xk_BadBinary_ValueError := kit_ve (by decide +kernel) veC_BadBinary, ia_BadRow := f_iBadRow, id_BadRow := _, iu_BadRow := fun_mk (st := st_iBadRow) li_BadRow ci_BadRow ki_BadRow, ib_BadRow := (fun_mk (st := st_iBadRow) li_BadRow ci_BadRow ki_BadRow).binds (ps := ["self", "place"]) (fun _ _ _ _ _ _ us hl => match us, hl with | [_, _], _ => rfl), in_BadRow := iC_BadRow, it_BadRow := tI_BadRow, oex_BadRow := e_BadRow.oex, ino_BadRow := no_BadRow, xc_BadRow := e_BadRow.xc sn sk, xf_BadRow := e_BadRow.xf, no_BadRow_place := no_BadRow, xm_BadRow_PackError := PySem.W.exm_ref qb_PackError qh_PackError qt_PackError par_BadRow, xk_BadRow_BadBinary := kit_ref sub_BadRow hdC_BadBinary tyC_BadBinary sb_BadRow_BadBinary, xk_BadRow_BadNumber := kit_ref sub_BadRow qh_BadNumber qt_BadNumber sb_BadRow_BadNumber, xk_BadRow_BadRow := kit_ref sub_BadRow hdC_BadRow tyC_BadRow sub_BadRow, xk_BadRow_BadSign := kit_ref sub_BadRow hdC_BadSign tyC_BadSign sb_BadRow_BadSign, xk_BadRow_BadTree := kit_ref sub_BadRow qh_BadTree qt_BadTree sb_BadRow_BadTree, xk_BadRow_ValueError := kit_ve (by decide +kernel) veC_BadRow, ia_BadSign := f_iBadSign, id_BadSign := _, iu_BadSign := fun_mk (st := st_iBadSign) li_BadSign ci_BadSign ki_BadSign, ib_BadSign := (fun_mk (st := st_iBadSign) li_BadSign ci_BadSign ki_BadSign).binds (ps := ["self", "place"]) (fun _ _ _ _ _ _ us hl => match us, hl with | [_, _], _ => rfl), in_BadSign := iC_BadSign, it_BadSign := tI_BadSign, oex_BadSign := e_BadSign.oex, ino_BadSign := no_BadSign, xc_BadSign := e_BadSign.xc sn sk, xf_BadSign := e_BadSign.xf, no_BadSign_place := no_BadSign, xm_BadSign_PackError := PySem.W.exm_ref qb_PackError qh_PackError qt_PackError par_BadSign, xk_BadSign_BadBinary := kit_ref sub_BadSign hdC_BadBinary tyC_BadBinary sb_BadSign_BadBinary, xk_BadSign_BadNumber := kit_ref sub_BadSign qh_BadNumber qt_BadNumber sb_BadSign_BadNumber, xk_BadSign_BadRow := kit_ref sub_BadSign hdC_BadRow tyC_BadRow sb_BadSign_BadRow, xk_BadSign_BadSign := kit_ref sub_BadSign hdC_BadSign tyC_BadSign sub_BadSign, xk_BadSign_BadTree := kit_ref sub_BadSign qh_BadTree qt_BadTree sb_BadSign_BadTree, xk_BadSign_ValueError := kit_ve (by decide +kernel) veC_BadSign, g_BadBinary := PySem.W.mg_of X G aC_BadBinary, g_BadNumber := PySem.W.mg_of X G aC_BadNumber, g_BadRow := PySem.W.mg_of X G aC_BadRow, g_BadSign := PySem.W.mg_of X G aC_BadSign, g_BadTree := PySem.W.mg_of X G aC_BadTree, g_PackError := PySem.W.mg_of X G aC_PackError, q_CLOSE := ⟨_, PySem.W.mg_of X G q_CLOSE⟩, z_ValueError := PySem.W.mg_none_of X G z_ValueError, z_abs := PySem.W.mg_none_of X G z_abs, z_bool := PySem.W.mg_none_of X G z_bool, z_enumerate := PySem.W.mg_none_of X G z_enumerate, z_int := PySem.W.mg_none_of X G z_int, z_isinstance := PySem.W.mg_none_of X G z_isinstance, z_len := PySem.W.mg_none_of X G z_len, z_list := PySem.W.mg_none_of X G z_list, z_max := PySem.W.mg_none_of X G z_max, z_range := PySem.W.mg_none_of X G z_range, z_tuple := PySem.W.mg_none_of X G z_tuple }
  exact ⟨_, PySem.W.fnOf "law" "law" (defArgs st_law) (defBody st_law) (defScope st_law) .none kV_law dc_law pm_law an_law cd_law ct_law, fun s v => .of_eq rfl, fun base _ _ => ok_law (P := P) (w := w) (base := base) T⟩
end K03
open PySem PySem.W PyProof.Rows
set_option maxRecDepth 100000 in
set_option maxHeartbeats 0 in
theorem PySem.Challenge.cw_packedtrees_k03_binary_there_and_back_holds : PySem.Challenge.rw_packedtrees_k03_binary_there_and_back.Holds := by
  w_on; o_law; k_head; (case hw => w_witness2)
  k_fill
  refine Mw.walk_ex (k := 10) (l := PySem.Challenge.rw_packedtrees_k03_binary_there_and_back) (m := K03.m_law) rfl rfl ⟨rfl, by decide, by decide⟩ (fun w h Y => PySem.W.kIn_of Y) ?F K03.law_true
  case F =>
    intro w mg fa h KX G hmg
    refine' K03.all_mk KX G hmg ?a_checked_row ?l_checked_row ?c_checked_row ?k_checked_row ?a_matched ?l_matched ?c_matched ?k_matched ?a_checked_balanced ?l_checked_balanced ?c_checked_balanced ?k_checked_balanced ?a_opening_number ?l_opening_number ?c_opening_number ?k_opening_number ?a_binary_of_row ?l_binary_of_row ?c_binary_of_row ?k_binary_of_row ?a_row_of_binary ?l_row_of_binary ?c_row_of_binary ?k_row_of_binary ?a__law_digits ?l__law_digits ?c__law_digits ?k__law_digits ?a__law_whole ?l__law_whole ?c__law_whole ?k__law_whole ?a__law_row ?l__law_row ?c__law_row ?k__law_row ?a__law_table ?l__law_table ?c__law_table ?k__law_table ?a__law_forest ?l__law_forest ?c__law_forest ?k__law_forest ?a__law_depths ?l__law_depths ?c__law_depths ?k__law_depths ?a__law_signs ?l__law_signs ?c__law_signs ?k__law_signs ?a__law_pairs_of ?l__law_pairs_of ?c__law_pairs_of ?k__law_pairs_of ?a__law_bad_sign ?l__law_bad_sign ?c__law_bad_sign ?k__law_bad_sign ?a__law_bent_row ?l__law_bent_row ?c__law_bent_row ?k__law_bent_row ?a__law_triples ?l__law_triples ?c__law_triples ?k__law_triples ?a__law_row_due ?l__law_row_due ?c__law_row_due ?k__law_row_due ?a__law_cuts ?l__law_cuts ?c__law_cuts ?k__law_cuts ?a__law_binary_due ?l__law_binary_due ?c__law_binary_due ?k__law_binary_due ?a__law_told ?l__law_told ?c__law_told ?k__law_told ?a__law_row_right ?l__law_row_right ?c__law_row_right ?k__law_row_right ?a__law_binary_right ?l__law_binary_right ?c__law_binary_right ?k__law_binary_right ?a__law_bent ?l__law_bent ?c__law_bent ?k__law_bent ?a_law ?l_law ?c_law ?k_law ?aC_BadBinary ?aC_BadNumber ?aC_BadRow ?aC_BadSign ?aC_BadTree ?aC_PackError ?ga_BadBinary ?gg_BadBinary ?hc_BadBinary ?kC_BadBinary ?exC_BadBinary ?veC_BadBinary ?tyC_BadBinary ?hdC_BadBinary ?mro_BadBinary ?sub_BadBinary ?par_BadBinary ?nf_BadBinary_place ?xq_BadBinary ?x_BadRow ?sa_BadRow ?ga_BadRow ?gg_BadRow ?hc_BadRow ?no_BadRow ?iC_BadRow ?tI_BadRow ?kC_BadRow ?exC_BadRow ?veC_BadRow ?tyC_BadRow ?hdC_BadRow ?mro_BadRow ?sub_BadRow ?par_BadRow ?li_BadRow ?ci_BadRow ?ki_BadRow ?x_BadSign ?sa_BadSign ?ga_BadSign ?gg_BadSign ?hc_BadSign ?no_BadSign ?iC_BadSign ?tI_BadSign ?kC_BadSign ?exC_BadSign ?veC_BadSign ?tyC_BadSign ?hdC_BadSign ?mro_BadSign ?sub_BadSign ?par_BadSign ?li_BadSign ?ci_BadSign ?ki_BadSign ?qh_BadNumber ?qt_BadNumber ?qh_BadTree ?qt_BadTree ?qh_PackError ?qt_PackError ?qb_PackError ?sb_BadBinary_BadNumber ?sb_BadBinary_BadRow ?sb_BadBinary_BadSign ?sb_BadBinary_BadTree ?sb_BadRow_BadBinary ?sb_BadRow_BadNumber ?sb_BadRow_BadSign ?sb_BadRow_BadTree ?sb_BadSign_BadBinary ?sb_BadSign_BadNumber ?sb_BadSign_BadRow ?sb_BadSign_BadTree ?sn ?sk ?q_CLOSE ?z_ValueError ?z_abs ?z_bool ?z_enumerate ?z_int ?z_isinstance ?z_len ?z_list ?z_max ?z_range ?z_tuple
    (case a_checked_row => k_is)
    (case l_checked_row => k_is)
    (case c_checked_row => k_is)
    (case k_checked_row => k_is)
    (case a_matched => k_is)
    (case l_matched => k_is)
    (case c_matched => k_is)
    (case k_matched => k_is)
    (case a_checked_balanced => k_is)
    (case l_checked_balanced => k_is)
    (case c_checked_balanced => k_is)
    (case k_checked_balanced => k_is)
    (case a_opening_number => k_is)
    (case l_opening_number => k_is)
    (case c_opening_number => k_is)
    (case k_opening_number => k_is)
    (case a_binary_of_row => k_is)
    (case l_binary_of_row => k_is)
    (case c_binary_of_row => k_is)
    (case k_binary_of_row => k_is)
    (case a_row_of_binary => k_is)
    (case l_row_of_binary => k_is)
    (case c_row_of_binary => k_is)
    (case k_row_of_binary => k_is)
    (case a__law_digits => k_is)
    (case l__law_digits => k_is)
    (case c__law_digits => k_is)
    (case k__law_digits => k_is)
    (case a__law_whole => k_is)
    (case l__law_whole => k_is)
    (case c__law_whole => k_is)
    (case k__law_whole => k_is)
    (case a__law_row => k_is)
    (case l__law_row => k_is)
    (case c__law_row => k_is)
    (case k__law_row => k_is)
    (case a__law_table => k_is)
    (case l__law_table => k_is)
    (case c__law_table => k_is)
    (case k__law_table => k_is)
    (case a__law_forest => k_is)
    (case l__law_forest => k_is)
    (case c__law_forest => k_is)
    (case k__law_forest => k_is)
    (case a__law_depths => k_is)
    (case l__law_depths => k_is)
    (case c__law_depths => k_is)
    (case k__law_depths => k_is)
    (case a__law_signs => k_is)
    (case l__law_signs => k_is)
    (case c__law_signs => k_is)
    (case k__law_signs => k_is)
    (case a__law_pairs_of => k_is)
    (case l__law_pairs_of => k_is)
    (case c__law_pairs_of => k_is)
    (case k__law_pairs_of => k_is)
    (case a__law_bad_sign => k_is)
    (case l__law_bad_sign => k_is)
    (case c__law_bad_sign => k_is)
    (case k__law_bad_sign => k_is)
    (case a__law_bent_row => k_is)
    (case l__law_bent_row => k_is)
    (case c__law_bent_row => k_is)
    (case k__law_bent_row => k_is)
    (case a__law_triples => k_is)
    (case l__law_triples => k_is)
    (case c__law_triples => k_is)
    (case k__law_triples => k_is)
    (case a__law_row_due => k_is)
    (case l__law_row_due => k_is)
    (case c__law_row_due => k_is)
    (case k__law_row_due => k_is)
    (case a__law_cuts => k_is)
    (case l__law_cuts => k_is)
    (case c__law_cuts => k_is)
    (case k__law_cuts => k_is)
    (case a__law_binary_due => k_is)
    (case l__law_binary_due => k_is)
    (case c__law_binary_due => k_is)
    (case k__law_binary_due => k_is)
    (case a__law_told => k_is)
    (case l__law_told => k_is)
    (case c__law_told => k_is)
    (case k__law_told => k_is)
    (case a__law_row_right => k_is)
    (case l__law_row_right => k_is)
    (case c__law_row_right => k_is)
    (case k__law_row_right => k_is)
    (case a__law_binary_right => k_is)
    (case l__law_binary_right => k_is)
    (case c__law_binary_right => k_is)
    (case k__law_binary_right => k_is)
    (case a__law_bent => k_is)
    (case l__law_bent => k_is)
    (case c__law_bent => k_is)
    (case k__law_bent => k_is)
    (case a_law => k_is)
    (case l_law => k_is)
    (case c_law => k_is)
    (case k_law => k_is)
    (case aC_BadBinary => k_is)
    (case aC_BadNumber => k_is)
    (case aC_BadRow => k_is)
    (case aC_BadSign => k_is)
    (case aC_BadTree => k_is)
    (case aC_PackError => k_is)
    (case ga_BadBinary => k_is)
    (case gg_BadBinary => k_is)
    (case hc_BadBinary => k_is)
    (case kC_BadBinary => k_is)
    (case exC_BadBinary => k_is)
    (case veC_BadBinary => k_is)
    (case tyC_BadBinary => k_is)
    (case hdC_BadBinary => k_is)
    (case mro_BadBinary => k_is)
    (case sub_BadBinary => first | rfl | k_is)
    (case par_BadBinary => k_is)
    (case nf_BadBinary_place => k_is)
    (case xq_BadBinary => k_exc)
    (case x_BadRow => k_is)
    (case sa_BadRow => k_is)
    (case ga_BadRow => k_is)
    (case gg_BadRow => k_is)
    (case hc_BadRow => k_is)
    (case no_BadRow => k_is)
    (case iC_BadRow => k_is)
    (case tI_BadRow => k_is)
    (case kC_BadRow => k_is)
    (case exC_BadRow => k_is)
    (case veC_BadRow => k_is)
    (case tyC_BadRow => k_is)
    (case hdC_BadRow => k_is)
    (case mro_BadRow => k_is)
    (case sub_BadRow => first | rfl | k_is)
    (case par_BadRow => k_is)
    (case li_BadRow => k_is)
    (case ci_BadRow => k_is)
    (case ki_BadRow => k_is)
    (case x_BadSign => k_is)
    (case sa_BadSign => k_is)
    (case ga_BadSign => k_is)
    (case gg_BadSign => k_is)
    (case hc_BadSign => k_is)
    (case no_BadSign => k_is)
    (case iC_BadSign => k_is)
    (case tI_BadSign => k_is)
    (case kC_BadSign => k_is)
    (case exC_BadSign => k_is)
    (case veC_BadSign => k_is)
    (case tyC_BadSign => k_is)
    (case hdC_BadSign => k_is)
    (case mro_BadSign => k_is)
    (case sub_BadSign => first | rfl | k_is)
    (case par_BadSign => k_is)
    (case li_BadSign => k_is)
    (case ci_BadSign => k_is)
    (case ki_BadSign => k_is)
    (case qh_BadNumber => k_is)
    (case qt_BadNumber => k_is)
    (case qh_BadTree => k_is)
    (case qt_BadTree => k_is)
    (case qh_PackError => k_is)
    (case qt_PackError => k_is)
    (case qb_PackError => k_is)
    (case sb_BadBinary_BadNumber => k_is)
    (case sb_BadBinary_BadRow => k_is)
    (case sb_BadBinary_BadSign => k_is)
    (case sb_BadBinary_BadTree => k_is)
    (case sb_BadRow_BadBinary => k_is)
    (case sb_BadRow_BadNumber => k_is)
    (case sb_BadRow_BadSign => k_is)
    (case sb_BadRow_BadTree => k_is)
    (case sb_BadSign_BadBinary => k_is)
    (case sb_BadSign_BadNumber => k_is)
    (case sb_BadSign_BadRow => k_is)
    (case sb_BadSign_BadTree => k_is)
    (case sn => k_is)
    (case sk => k_is)
    (case q_CLOSE => k_is)
    (case z_ValueError => k_is)
    (case z_abs => k_is)
    (case z_bool => k_is)
    (case z_enumerate => k_is)
    (case z_int => k_is)
    (case z_isinstance => k_is)
    (case z_len => k_is)
    (case z_list => k_is)
    (case z_max => k_is)
    (case z_range => k_is)
    (case z_tuple => k_is)

