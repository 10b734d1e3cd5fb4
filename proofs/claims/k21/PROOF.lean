import PyProof.Rows.All
import Wide.All
import OpenK.AllK
import Wide.FinOn
import HandS.ForMost
import HandS.ForExc
import HandS.Flow
import HandS.IsInst
import HandS.Walk
import HandS.Conv
import HandS.ExcInit
import HandS.ExcOwn
import HandS.TryMany
import HandS.ExcSuper
import KE.KSuper
import KE.KExcSuper
import HandS.ExcField
import HandS.WordsExc
import HandS.ExcIs
import KE.KExcIs
import KE.RegKSuper
import KE.RegKTryMore
import KE.RegKIsAll
import HandS.DictComp
import HandS.CallSlots
import HandS.Property
import HandS.ClsMeth
import HandS.SetFor
import HandS.Defaults
import HandS.ReplaceList
import HandS.ReplaceLit
import HandS.RaiseMore
import HandS.Style
import HandS.Text
import PyProof.Rows.RegReprOcc
import PyProof.Rows.StrMeet
import KE.DatumOrd
import HandS.TupAny
import HandS.Iter
import PySem.Challenge.RW_lockrules_k21_outcomes_of_interleavings
set_option Elab.async false
set_option linter.all false
set_option maxRecDepth 100000
set_option Elab.async false
set_option linter.all false
set_option maxRecDepth 100000
set_option maxHeartbeats 4000000
set_option autoImplicit false
/-! LK1: typed readings. What a slot holds is told by a list of Slots; an expression gives a datum, told by a representation. -/
namespace LK
open PySem L2

/-! ### representations -/
abbrev Rp (α : Type) := Hp → V → α → Prop
def Ex (H H' : Hp) : Prop := ∀ a o, H a = some o → H' a = some o
theorem Ex.refl (H : Hp) : Ex H H := fun _ _ h => h
theorem Ex.trans {H H1 H2 : Hp} (a : Ex H H1) (b : Ex H1 H2) : Ex H H2 := fun x o h => b x o (a x o h)
theorem Ex.back {H H' : Hp} {p : Addr} (e : Ex H H') (h : H' p = none) : H p = none := by
  cases h1 : H p with
  | none => rfl
  | some o => rw [e p o h1] at h; cases h
theorem Ex.new {H : Hp} {p : Addr} {o : HO} (h : H p = none) : Ex H (upd H p o) := fun a u e => by
  rw [upd_ne (ne_of_none e h)]; exact e
/-- what an object is, locked or not -/
def core : HO → HO
  | .frz _ u => u
  | o => o
def isD : HO → Bool
  | .dK _ => true
  | .dT _ => true
  | _ => false
/-- the same, but for a lock of a dict -/
def Sm (o o' : HO) : Prop := o = o' ∨ (core o = core o' ∧ isD (core o) = true)
def Exs (F F' : Hp) : Prop := ∀ a o, F a = some o → ∃ o', F' a = some o' ∧ Sm o o'
theorem Ex.s {H H' : Hp} (e : Ex H H') : Exs H H' := fun a o h => ⟨o, e a o h, .inl rfl⟩
theorem Exs.at_ {F F' : Hp} {p : Addr} {o : HO} (e : Exs F F') (h : F p = some o) (hd : isD (core o) = false) : F' p = some o := by
  obtain ⟨o', h1, h2⟩ := e p o h
  rcases h2 with h2 | ⟨_, h2⟩
  · rw [h2]; exact h1
  · rw [hd] at h2; cases h2
theorem Exs.rd {F F' : Hp} {p : Addr} {u : HO} (e : Exs F F') (h : Rd F p u) (hd : isD u = true) : Rd F' p u := by
  have hc : core u = u := by cases u <;> first | rfl | cases hd
  have fin : ∀ o o', F' p = some o' → Sm o o' → core o = u → Rd F' p u := fun o o' h1 h2 hu => by
    have ho : core o' = u := by
      rcases h2 with h2 | ⟨h2, _⟩
      · rw [← h2]; exact hu
      · rw [← h2]; exact hu
    cases o' with
    | frz ob w =>
      have : w = u := ho
      subst this
      exact .inr ⟨ob, h1⟩
    | _ => exact .inl (by rw [← ho]; exact h1)
  rcases h with h | ⟨ob, h⟩
  · obtain ⟨o', h1, h2⟩ := e p _ h
    exact fin u o' h1 h2 hc
  · obtain ⟨o', h1, h2⟩ := e p _ h
    exact fin _ o' h1 h2 rfl
class Mo {α : Type} (r : Rp α) : Prop where
  mo : ∀ {F F' : Hp} {v : V} {a : α}, Exs F F' → r F v a → r F' v a
theorem Mo.ex {α : Type} {r : Rp α} (i : Mo r) {F F' : Hp} {v : V} {a : α} (e : Ex F F') (h : r F v a) : r F' v a := i.mo e.s h
theorem mox {α : Type} {r : Rp α} [i : Mo r] {F F' : Hp} {v : V} {a : α} (e : Ex F F') (h : r F v a) : r F' v a := i.mo e.s h
/-- what does not lean on the heap -/
class Fl {α : Type} (r : Rp α) : Prop where
  fl : ∀ {F F' : Hp} {v : V} {a : α}, r F v a → r F' v a
instance {α : Type} (r : Rp α) [h : Fl r] : Mo r := ⟨fun _ x => h.fl x⟩
def rInt : Rp Int := fun _ v a => v = .int a
def rBl : Rp Bool := fun _ v a => v = .bl a
def rNon : Rp Unit := fun _ v _ => v = .non
def rTx : Rp (List Nat) := fun _ v a => v = .str ⟨a.toArray⟩ ∧ a.length ≤ 16777216 ∧ ∀ c ∈ a, c < 1114112
def rRef : Rp Addr := fun _ v a => v = .ref a
instance : Fl rInt := ⟨fun h => h⟩
instance : Fl rBl := ⟨fun h => h⟩
instance : Fl rNon := ⟨fun h => h⟩
instance : Fl rTx := ⟨fun h => h⟩
instance : Fl rRef := ⟨fun h => h⟩
def rLst {α : Type} (r : Rp α) : Rp (List α) := fun F v xs => ∃ p vs, v = .ref p ∧ F p = some (.lst vs) ∧ xs.length ≤ 16777216 ∧ Paired (r F) vs xs
def rTup {α : Type} (r : Rp α) : Rp (List α) := fun F v xs => ∃ p vs, v = .ref p ∧ F p = some (.tup vs) ∧ xs.length ≤ 16777216 ∧ Paired (r F) vs xs
def rPr {α β : Type} (r : Rp α) (s : Rp β) : Rp (α × β) := fun F v x => ∃ p u w, v = .ref p ∧ F p = some (.tup [u, w]) ∧ r F u x.1 ∧ s F w x.2
def rP3 {α β γ : Type} (r : Rp α) (s : Rp β) (t : Rp γ) : Rp (α × β × γ) := fun F v x => ∃ p u w z, v = .ref p ∧ F p = some (.tup [u, w, z]) ∧ r F u x.1 ∧ s F w x.2.1 ∧ t F z x.2.2
/-- never None -/
class Nn {α : Type} (r : Rp α) : Prop where
  nn : ∀ {F : Hp} {v : V} {a : α}, r F v a → v ≠ .non
def rOpt {α : Type} (r : Rp α) : Rp (Option α) := fun F v x => match x with
  | none => v = .non
  | some a => r F v a
theorem pmap {α β : Type} {R S : α → β → Prop} : ∀ {xs : List α} {ys : List β}, (∀ a b, R a b → S a b) → Paired R xs ys → Paired S xs ys
  | _, _, _, .nil => .nil
  | _, _, f, .cons h t => .cons (f _ _ h) (pmap f t)
instance {α : Type} (r : Rp α) [h : Mo r] : Mo (rLst r) := ⟨fun e ⟨p, vs, h1, h2, h3, h4⟩ => ⟨p, vs, h1, e.at_ h2 rfl, h3, pmap (fun _ _ z => h.mo e z) h4⟩⟩
instance {α : Type} (r : Rp α) [h : Mo r] : Mo (rTup r) := ⟨fun e ⟨p, vs, h1, h2, h3, h4⟩ => ⟨p, vs, h1, e.at_ h2 rfl, h3, pmap (fun _ _ z => h.mo e z) h4⟩⟩
instance {α β : Type} (r : Rp α) (s : Rp β) [h : Mo r] [g : Mo s] : Mo (rPr r s) := ⟨fun e ⟨p, u, w, h1, h2, h3, h4⟩ => ⟨p, u, w, h1, e.at_ h2 rfl, h.mo e h3, g.mo e h4⟩⟩
instance {α β γ : Type} (r : Rp α) (s : Rp β) (t : Rp γ) [h : Mo r] [g : Mo s] [k : Mo t] : Mo (rP3 r s t) := ⟨fun e ⟨p, u, w, z, h1, h2, h3, h4, h5⟩ => ⟨p, u, w, z, h1, e.at_ h2 rfl, h.mo e h3, g.mo e h4, k.mo e h5⟩⟩
instance {α : Type} (r : Rp α) [h : Mo r] : Mo (rOpt r) := ⟨fun {F F' v a} e x => by
  cases a with
  | none => exact x
  | some b => exact h.mo e x⟩
instance {α : Type} (r : Rp α) [h : Fl r] : Fl (rOpt r) := ⟨fun {F F' v a} x => by
  cases a with
  | none => exact x
  | some b => exact h.fl x⟩
instance : Nn rInt := ⟨fun h => by rw [show _ = _ from h]; intro z; cases z⟩
instance : Nn rBl := ⟨fun h => by rw [show _ = _ from h]; intro z; cases z⟩
instance : Nn rTx := ⟨fun h => by rw [h.1]; intro z; cases z⟩
instance {α : Type} (r : Rp α) : Nn (rLst r) := ⟨fun ⟨_, _, h, _⟩ => by rw [h]; intro z; cases z⟩
instance {α : Type} (r : Rp α) : Nn (rTup r) := ⟨fun ⟨_, _, h, _⟩ => by rw [h]; intro z; cases z⟩
instance {α β : Type} (r : Rp α) (s : Rp β) : Nn (rPr r s) := ⟨fun ⟨_, _, _, h, _⟩ => by rw [h]; intro z; cases z⟩

/-! ### what grows -/
/-- F: what never changes from here on; H: all that is tracked -/
structure Gr (F H F' H' : Hp) : Prop where
  ff : Ex F F'
  fh : Ex F' H'
  hh : Ex H H'
  nw : ∀ p o, F' p = some o → F p = none → H p = none
theorem Gr.refl {F H : Hp} (e : Ex F H) : Gr F H F H := ⟨Ex.refl F, e, Ex.refl H, fun p o h1 h2 => by rw [h1] at h2; cases h2⟩
theorem Gr.trans {F H F1 H1 F2 H2 : Hp} (a : Gr F H F1 H1) (b : Gr F1 H1 F2 H2) : Gr F H F2 H2 := ⟨a.ff.trans b.ff, b.fh, a.hh.trans b.hh, fun p o h1 h2 => by
  cases e : F1 p with
  | none => exact a.hh.back (b.nw p o h1 e)
  | some u => exact a.nw p u e h2⟩
/-- a new object, frozen at once -/
theorem Gr.new {F H : Hp} {p : Addr} {o : HO} (e : Ex F H) (h : H p = none) : Gr F H (upd F p o) (upd H p o) := by
  have hF := e.back h
  refine ⟨Ex.new hF, fun a u q => ?_, Ex.new h, fun a u q n => ?_⟩
  · by_cases ha : a = p
    · subst ha; rw [upd_same] at q ⊢; exact q
    · rw [upd_ne ha] at q ⊢; exact e a u q
  · by_cases ha : a = p
    · subst ha; exact h
    · rw [upd_ne ha, n] at q; cases q
/-- a new object, not frozen -/
theorem Gr.wild {F H : Hp} {p : Addr} {o : HO} (e : Ex F H) (h : H p = none) : Gr F H F (upd H p o) :=
  ⟨Ex.refl F, e.trans (Ex.new h), Ex.new h, fun a u q n => by rw [n] at q; cases q⟩

/-! ### what the slots hold -/
/-- an own thing that may still change: over what is frozen, the heap, its root, the addresses that are its own -/
abbrev Mu := Hp → Hp → Addr → List Addr → Prop
class MoM (M : Mu) : Prop where
  mo : ∀ {F F' H H' : Hp} {p : Addr} {S : List Addr}, Exs F F' → (∀ a ∈ S, H' a = H a) → M F H p S → M F' H' p S
  own : ∀ {F H : Hp} {p : Addr} {S : List Addr}, M F H p S → ∀ a ∈ S, H a ≠ none
/-- an own list -/
def mL {α : Type} (r : Rp α) (xs : List α) : Mu := fun F H p S => S = [p] ∧ ∃ vs, H p = some (.lst vs) ∧ xs.length ≤ 16777216 ∧ Paired (r F) vs xs
instance {α : Type} (r : Rp α) [h : Mo r] (xs : List α) : MoM (mL r xs) := ⟨fun e k ⟨h0, vs, h1, h2, h3⟩ => ⟨h0, vs, by rw [k _ (by rw [h0]; exact List.mem_cons_self)]; exact h1, h2, pmap (fun _ _ z => h.mo e z) h3⟩,
  fun ⟨h0, vs, h1, _⟩ a ha => by rw [h0] at ha; rw [List.mem_singleton.mp ha, h1]; exact fun z => nomatch z⟩
inductive Slot : Type 1
  | no
  | fz {α : Type} (r : Rp α) (i : Mo r) (a : α)
  | bw {α : Type} (r : Rp α) (i : Mo r) (a : α)
  | ow (M : Mu) (i : MoM M)
abbrev sF {α : Type} (r : Rp α) [i : Mo r] (a : α) : Slot := .fz r i a
abbrev sB {α : Type} (r : Rp α) [i : Mo r] (a : α) : Slot := .bw r i a
abbrev sO (M : Mu) [i : MoM M] : Slot := .ow M i
abbrev sL {α : Type} (r : Rp α) [Mo r] (xs : List α) : Slot := sO (mL r xs)
def SlotOk (H0 F H : Hp) (s : Option V) (S : List Addr) : Slot → Prop
  | .no => True
  | .fz r _ a => ∃ v, s = some v ∧ r F v a
  | .bw r _ a => ∃ v, s = some v ∧ r H0 v a
  | .ow M _ => ∃ p, s = some (.ref p) ∧ (∀ a ∈ S, F a = none ∧ H0 a = none) ∧ M F H p S
structure EnvF (F0 H0 : Hp) (G : List Slot) (σ : L2.St) (F H : Hp) (fp : Nat → List Addr) : Prop where
  gr : Gr F0 H0 F H
  len : σ.length = G.length
  at_ : ∀ (i : Nat) (s : Slot), G[i]? = some s → ∃ x, σ[i]? = some x ∧ SlotOk H0 F H x (fp i) s
  dj : ∀ (i j : Nat) (M : Mu) (iM : MoM M) (N : Mu) (iN : MoM N) (a : Addr), i ≠ j → G[i]? = some (.ow M iM) → G[j]? = some (.ow N iN) → a ∈ fp i → a ∉ fp j
def EnvOk (F0 H0 : Hp) (G : List Slot) (σ : L2.St) (F H : Hp) : Prop := ∃ fp, EnvF F0 H0 G σ F H fp
section
variable {F0 H0 F H F' H' : Hp} {G : List Slot} {σ : L2.St}
theorem EnvOk.gr (E : EnvOk F0 H0 G σ F H) : Gr F0 H0 F H := let ⟨_, e⟩ := E; e.gr
theorem EnvOk.len (E : EnvOk F0 H0 G σ F H) : σ.length = G.length := let ⟨_, e⟩ := E; e.len
theorem EnvOk.fz_at {α : Type} {r : Rp α} {im : Mo r} {a : α} {i : Nat} (E : EnvOk F0 H0 G σ F H) (h : G[i]? = some (.fz r im a)) : ∃ v, σ[i]? = some (some v) ∧ r F v a := by
  obtain ⟨fp, e⟩ := E
  obtain ⟨x, hx, v, hv, ok⟩ := e.at_ i _ h
  exact ⟨v, by rw [hx, hv], ok⟩
theorem EnvOk.bw_at {α : Type} {r : Rp α} {im : Mo r} {a : α} {i : Nat} (E : EnvOk F0 H0 G σ F H) (h : G[i]? = some (.bw r im a)) : ∃ v, σ[i]? = some (some v) ∧ r H0 v a := by
  obtain ⟨fp, e⟩ := E
  obtain ⟨x, hx, v, hv, ok⟩ := e.at_ i _ h
  exact ⟨v, by rw [hx, hv], ok⟩
theorem EnvOk.ow_at {M : Mu} {iM : MoM M} {i : Nat} (E : EnvOk F0 H0 G σ F H) (h : G[i]? = some (.ow M iM)) : ∃ p S, σ[i]? = some (some (.ref p)) ∧ (∀ a ∈ S, F a = none ∧ H0 a = none) ∧ M F H p S := by
  obtain ⟨fp, e⟩ := E
  obtain ⟨x, hx, p, hp, ok⟩ := e.at_ i _ h
  exact ⟨p, _, by rw [hx, hp], ok⟩
theorem EnvOk.lst_at {α : Type} {r : Rp α} {xs : List α} {iM : MoM (mL r xs)} {i : Nat} (E : EnvOk F0 H0 G σ F H) (h : G[i]? = some (.ow (mL r xs) iM)) : ∃ p vs, σ[i]? = some (some (.ref p)) ∧ F p = none ∧ H0 p = none ∧ H p = some (.lst vs) ∧ xs.length ≤ 16777216 ∧ Paired (r F) vs xs := by
  obtain ⟨p, S, e, h1, rfl, vs, h2, h3, h4⟩ := E.ow_at h
  exact ⟨p, vs, e, (h1 p (by simp)).1, (h1 p (by simp)).2, h2, h3, h4⟩
theorem EnvOk.gro (E : EnvOk F0 H0 G σ F H) (g : Gr F H F' H') : EnvOk F0 H0 G σ F' H' := by
  obtain ⟨fp, E⟩ := E
  refine ⟨fp, E.gr.trans g, E.len, fun i s h => ?_, E.dj⟩
  obtain ⟨x, hx, ok⟩ := E.at_ i s h
  refine ⟨x, hx, ?_⟩
  cases s with
  | no => trivial
  | fz r im a => obtain ⟨v, e, q⟩ := ok; exact ⟨v, e, im.ex g.ff q⟩
  | bw r im a => exact ok
  | ow M im =>
    obtain ⟨p, e, h1, h2⟩ := ok
    refine ⟨p, e, fun a ha => ⟨?_, (h1 a ha).2⟩, im.mo g.ff.s (fun a ha => ?_) h2⟩
    · cases q : F' a with
      | none => rfl
      | some u => exact absurd (g.nw a u q (h1 a ha).1) (im.own h2 a ha)
    · cases q : H a with
      | none => exact absurd q (im.own h2 a ha)
      | some u => exact g.hh a u q
theorem set_get.{u} {α : Type u} {l : List α} {i j : Nat} {x y : α} (h : (l.set i x)[j]? = some y) : (i = j ∧ i < l.length ∧ x = y) ∨ (i ≠ j ∧ l[j]? = some y) := by
  by_cases e : i = j
  · subst e
    by_cases hl : i < l.length
    · rw [List.getElem?_set_self hl] at h; exact .inl ⟨rfl, hl, Option.some.inj h⟩
    · rw [List.getElem?_eq_none (by simpa using hl)] at h; cases h
  · rw [List.getElem?_set_ne e] at h; exact .inr ⟨e, h⟩
/-- a slot is stored, no own thing -/
theorem EnvOk.set {i : Nat} {s : Slot} {v : V} (E : EnvOk F0 H0 G σ F H) (ok : SlotOk H0 F H (some v) [] s) (hn : ∀ M im, s ≠ .ow M im) : EnvOk F0 H0 (G.set i s) (σ.set i (some v)) F H := by
  obtain ⟨fp, E⟩ := E
  refine ⟨fp, E.gr, by rw [List.length_set, List.length_set, E.len], fun j t h => ?_, fun j k M iM N iN a hjk h1 h2 h3 => ?_⟩
  · rcases set_get h with ⟨rfl, hl, rfl⟩ | ⟨ne, h⟩
    · refine ⟨_, by rw [List.getElem?_set_self (by rw [E.len]; exact hl)], ?_⟩
      cases s with
      | ow M im => exact absurd rfl (hn M im)
      | no => trivial
      | fz r im a => exact ok
      | bw r im a => exact ok
    · obtain ⟨x, hx, o⟩ := E.at_ j t h
      exact ⟨x, by rw [List.getElem?_set_ne ne]; exact hx, o⟩
  · rcases set_get h1 with ⟨_, _, e⟩ | ⟨n1, h1⟩
    · exact absurd e (hn M iM)
    · rcases set_get h2 with ⟨_, _, e⟩ | ⟨n2, h2⟩
      · exact absurd e (hn N iN)
      · exact E.dj j k M iM N iN a hjk h1 h2 h3
/-- a slot gets a new own thing, at addresses that were free -/
theorem EnvOk.setO {i : Nat} {M : Mu} {im : MoM M} {p : Addr} {S : List Addr} (E : EnvOk F0 H0 G σ F H) (g : Gr F H F' H') (hS : ∀ a ∈ S, H a = none ∧ F' a = none) (m : M F' H' p S) : EnvOk F0 H0 (G.set i (.ow M im)) (σ.set i (some (.ref p))) F' H' := by
  have hE := E
  obtain ⟨fp, E⟩ := E
  have old : ∀ (j : Nat) (N : Mu) (iN : MoM N) (a : Addr), G[j]? = some (.ow N iN) → a ∈ fp j → a ∉ S := fun j N iN a h1 h2 h3 => by
    obtain ⟨x, hx, q, _, _, ok⟩ := E.at_ j _ h1
    exact iN.own ok a h2 (hS a h3).1
  obtain ⟨fp', E'⟩ : ∃ fp', EnvF F0 H0 G σ F' H' fp' ∧ fp' = fp := by
    refine ⟨fp, ⟨E.gr.trans g, E.len, fun j s h => ?_, E.dj⟩, rfl⟩
    obtain ⟨x, hx, ok⟩ := E.at_ j s h
    refine ⟨x, hx, ?_⟩
    cases s with
    | no => trivial
    | fz r im a => obtain ⟨v, e, q⟩ := ok; exact ⟨v, e, im.ex g.ff q⟩
    | bw r im a => exact ok
    | ow N iN =>
      obtain ⟨q, e, h1, h2⟩ := ok
      refine ⟨q, e, fun a ha => ⟨?_, (h1 a ha).2⟩, iN.mo g.ff.s (fun a ha => ?_) h2⟩
      · cases z : F' a with
        | none => rfl
        | some u => exact absurd (g.nw a u z (h1 a ha).1) (iN.own h2 a ha)
      · cases z : H a with
        | none => exact absurd z (iN.own h2 a ha)
        | some u => exact g.hh a u z
  obtain ⟨E', rfl⟩ := E'
  refine ⟨fun j => if j = i then S else fp' j, E'.gr, by rw [List.length_set, List.length_set, E.len], fun j t h => ?_, fun j k N iN N' iN' a hjk h1 h2 h3 => ?_⟩
  · rcases set_get h with ⟨rfl, hl, rfl⟩ | ⟨ne, h⟩
    · refine ⟨_, by rw [List.getElem?_set_self (by rw [E.len]; exact hl)], p, rfl, fun a ha => ?_, ?_⟩
      · rw [if_pos rfl] at ha
        exact ⟨(hS a ha).2, E.gr.hh.back (hS a ha).1⟩
      · rw [if_pos rfl]; exact m
    · obtain ⟨x, hx, o⟩ := E'.at_ j t h
      refine ⟨x, by rw [List.getElem?_set_ne ne]; exact hx, ?_⟩
      rw [if_neg (fun e => ne e.symm)]
      exact o
  · rcases set_get h1 with ⟨rfl, _, _⟩ | ⟨n1, h1⟩
    · rw [if_pos rfl] at h3
      rw [if_neg (fun e => hjk e.symm)]
      rcases set_get h2 with ⟨e', _, _⟩ | ⟨n2, h2⟩
      · exact absurd e' hjk
      · exact fun z => old k _ _ a h2 z h3
    · rw [if_neg (fun e => n1 e.symm)] at h3
      rcases set_get h2 with ⟨rfl, _, _⟩ | ⟨n2, h2⟩
      · rw [if_pos rfl]; exact old j _ _ a h1 h3
      · rw [if_neg (fun e => n2 e.symm)]
        exact E.dj j k N iN N' iN' a hjk h1 h2 h3
/-- an own thing changes: what was its own or is new, nothing else -/
theorem EnvOk.mut {i : Nat} {M N : Mu} {im : MoM M} {iN : MoM N} {p : Addr} {S S' : List Addr} (E : EnvOk F0 H0 G σ F H) (hi : G[i]? = some (.ow M im))
    (k : ∀ p S, σ[i]? = some (some (.ref p)) → (∀ a ∈ S, F a = none ∧ H0 a = none) → M F H p S → ∃ S', Ex F F' ∧ (∀ a u, F' a = some u → F a = none → H a = none) ∧ (∀ a, a ∉ S → a ∉ S' → H a ≠ none → H' a = H a) ∧ Ex F' H' ∧ (∀ a ∈ S', (a ∈ S ∨ H a = none) ∧ F' a = none) ∧ N F' H' p S') : EnvOk F0 H0 (G.set i (.ow N iN)) σ F' H' := by
  obtain ⟨fp, E⟩ := E
  obtain ⟨x, hx, p, e1, f1, f2⟩ := E.at_ i _ hi
  subst e1
  obtain ⟨S', ff, nw, keep, fh, own, m⟩ := k p _ hx f1 f2
  have hil : i < G.length := (List.getElem?_eq_some_iff.mp hi).1
  have out : ∀ (j : Nat) (A : Mu) (iA : MoM A) (a : Addr), j ≠ i → G[j]? = some (.ow A iA) → a ∈ fp j → a ∉ fp i ∧ a ∉ S' ∧ H a ≠ none := fun j A iA a hj h1 h2 => by
    obtain ⟨y, hy, q, _, _, ok⟩ := E.at_ j _ h1
    have h3 : a ∉ fp i := E.dj j i _ _ _ _ a hj h1 hi h2
    have h4 := iA.own ok a h2
    exact ⟨h3, fun z => (own a z).1.elim h3 h4, h4⟩
  refine ⟨fun j => if j = i then S' else fp j, ⟨E.gr.ff.trans ff, fh, fun a u e => ?_, fun a u q n => ?_⟩, by rw [List.length_set, E.len], fun j t h => ?_, fun j l A iA B iB a hjk h1 h2 h3 => ?_⟩
  · have z := E.gr.hh a u e
    have nS : a ∉ fp i := fun z => by rw [(f1 a z).2] at e; cases e
    have nS' : a ∉ S' := fun y => by
      rcases (own a y).1 with y | y
      · exact nS y
      · rw [z] at y; cases y
    rw [keep a nS nS' (by rw [z]; exact fun q => nomatch q)]; exact z
  · cases q' : F a with
    | none => exact E.gr.hh.back (nw a u q q')
    | some o => exact E.gr.nw a o q' n
  · rcases set_get h with ⟨rfl, hl, rfl⟩ | ⟨ne, h⟩
    · refine ⟨_, hx, p, rfl, fun a ha => ?_, ?_⟩
      · rw [if_pos rfl] at ha
        refine ⟨(own a ha).2, ?_⟩
        rcases (own a ha).1 with y | y
        · exact (f1 a y).2
        · exact E.gr.hh.back y
      · rw [if_pos rfl]; exact m
    · obtain ⟨y, hy, ok⟩ := E.at_ j t h
      refine ⟨y, hy, ?_⟩
      rw [if_neg (fun e => ne e.symm)]
      cases t with
      | no => trivial
      | fz r im a => obtain ⟨v, e, q⟩ := ok; exact ⟨v, e, im.ex ff q⟩
      | bw r im a => exact ok
      | ow B iB =>
        obtain ⟨q, e, g1, g2⟩ := ok
        refine ⟨q, e, fun a ha => ⟨?_, (g1 a ha).2⟩, iB.mo ff.s (fun a ha => ?_) g2⟩
        · cases z : F' a with
          | none => rfl
          | some u => exact absurd (nw a u z (g1 a ha).1) (iB.own g2 a ha)
        · obtain ⟨o1, o2, o3⟩ := out j _ _ a (fun e => ne e.symm) h ha
          exact keep a o1 o2 o3
  · have old : ∀ (j : Nat) (A : Mu) (iA : MoM A), (G.set i (.ow N iN))[j]? = some (.ow A iA) → ∃ (A' : Mu) (iA' : MoM A'), G[j]? = some (.ow A' iA') := fun j A iA h => by
      rcases set_get h with ⟨rfl, _, _⟩ | ⟨_, h⟩
      · exact ⟨_, _, hi⟩
      · exact ⟨_, _, h⟩
    obtain ⟨A', iA', k1⟩ := old j _ _ h1
    obtain ⟨B', iB', k2⟩ := old l _ _ h2
    by_cases ej : j = i
    · rw [if_pos ej] at h3
      rw [if_neg (fun e => hjk (ej.trans e.symm))]
      exact fun z => (out l _ _ a (fun e => hjk (ej.trans e.symm)) k2 z).2.1 h3
    · rw [if_neg ej] at h3
      by_cases el : l = i
      · rw [if_pos el]
        exact (out j _ _ a ej k1 h3).2.1
      · rw [if_neg el]
        exact E.dj j l _ _ _ _ a hjk k1 k2 h3
/-- an own list changes -/
theorem EnvOk.mutL {α β : Type} {r : Rp α} {s : Rp β} {xs : List α} {ys : List β} {im : MoM (mL r xs)} {iN : MoM (mL s ys)} {i : Nat} {p : Addr} {vs : List V} (E : EnvOk F0 H0 G σ F H) (hi : G[i]? = some (.ow (mL r xs) im)) (hp : σ[i]? = some (some (.ref p))) (hl : ys.length ≤ 16777216) (m : Paired (s F) vs ys) :
    EnvOk F0 H0 (G.set i (.ow (mL s ys) iN)) σ F (upd H p (.lst vs)) := by
  have gr := E.gr
  refine E.mut (p := p) (S := []) (S' := []) hi fun q S hq hS ⟨hS', ws, h1, h2, h3⟩ => ?_
  rw [hp] at hq; cases hq
  subst hS'
  have hF := (hS p (by simp)).1
  refine ⟨[p], Ex.refl F, fun a u e n => (by rw [n] at e; cases e), fun a ha _ _ => upd_ne (fun e => ha (by rw [e]; simp)), fun a u e => by rw [upd_ne (ne_of_none e hF)]; exact gr.fh a u e, fun a ha => ⟨.inl ha, by rw [List.mem_singleton.mp ha]; exact hF⟩, rfl, vs, upd_same, hl, m⟩
/-- an own thing is frozen, with all that is its own -/
theorem EnvOk.freeze {i : Nat} {M : Mu} {im : MoM M} {s : Slot} (E : EnvOk F0 H0 G σ F H) (hi : G[i]? = some (.ow M im)) (hs : ∀ p S F', M F H p S → (∀ a ∈ S, F' a = H a) → Ex F F' → Ex F' H → SlotOk H0 F' H (some (.ref p)) [] s) (hn : ∀ M im, s ≠ .ow M im) :
    ∃ F', EnvOk F0 H0 (G.set i s) σ F' H ∧ Gr F0 H0 F' H ∧ Ex F F' := by
  obtain ⟨fp, E⟩ := E
  obtain ⟨x, hx, p, e1, f1, f2⟩ := E.at_ i _ hi
  subst e1
  have hil : i < G.length := (List.getElem?_eq_some_iff.mp hi).1
  let F' : Hp := fun a => if a ∈ fp i then H a else F a
  have at1 : ∀ a ∈ fp i, F' a = H a := fun a ha => if_pos ha
  have at2 : ∀ a, a ∉ fp i → F' a = F a := fun a ha => if_neg ha
  have ff : Ex F F' := fun a o e => by rw [at2 a (fun z => by rw [(f1 a z).1] at e; cases e)]; exact e
  have fh : Ex F' H := fun a o e => by
    by_cases ha : a ∈ fp i
    · rw [at1 a ha] at e; exact e
    · rw [at2 a ha] at e; exact E.gr.fh a o e
  have g : Gr F0 H0 F' H := ⟨E.gr.ff.trans ff, fh, E.gr.hh, fun a u q n => by
    by_cases ha : a ∈ fp i
    · exact (f1 a ha).2
    · rw [at2 a ha] at q; exact E.gr.nw a u q n⟩
  refine ⟨F', ⟨fp, g, by rw [List.length_set, E.len], fun j t h => ?_, fun j k A iA B iB a hjk h1 h2 h3 => ?_⟩, g, ff⟩
  · rcases set_get h with ⟨rfl, hl, rfl⟩ | ⟨ne, h⟩
    · refine ⟨_, hx, ?_⟩
      have z := hs p _ F' f2 at1 ff fh
      cases s with
      | ow M im => exact absurd rfl (hn M im)
      | no => trivial
      | fz r im a => exact z
      | bw r im a => exact z
    · obtain ⟨y, hy, ok⟩ := E.at_ j t h
      refine ⟨y, hy, ?_⟩
      cases t with
      | no => trivial
      | fz r im a => obtain ⟨v, e, q⟩ := ok; exact ⟨v, e, im.ex ff q⟩
      | bw r im a => exact ok
      | ow B iB =>
        obtain ⟨q, e, g1, g2⟩ := ok
        exact ⟨q, e, fun a ha => ⟨by rw [at2 a (E.dj j i _ _ _ _ a (fun e => ne e.symm) h hi ha)]; exact (g1 a ha).1, (g1 a ha).2⟩, iB.mo ff.s (fun _ _ => rfl) g2⟩
  · rcases set_get h1 with ⟨_, _, e⟩ | ⟨n1, h1⟩
    · exact absurd e (hn A iA)
    · rcases set_get h2 with ⟨_, _, e⟩ | ⟨n2, h2⟩
      · exact absurd e (hn B iB)
      · exact E.dj j k _ _ _ _ a hjk h1 h2 h3
/-- forgetting -/
theorem EnvOk.drop {i : Nat} (E : EnvOk F0 H0 G σ F H) : EnvOk F0 H0 (G.set i .no) σ F H := by
  obtain ⟨fp, E⟩ := E
  refine ⟨fp, E.gr, by rw [List.length_set, E.len], fun j t h => ?_, fun j k A iA B iB q hjk h1 h2 h3 => ?_⟩
  · rcases set_get h with ⟨rfl, hl, rfl⟩ | ⟨ne, h⟩
    · exact ⟨_, by rw [List.getElem?_eq_getElem (by rw [E.len]; exact hl)], trivial⟩
    · exact E.at_ j t h
  · rcases set_get h1 with ⟨_, _, e⟩ | ⟨n1, h1⟩
    · cases e
    · rcases set_get h2 with ⟨_, _, e⟩ | ⟨n2, h2⟩
      · cases e
      · exact E.dj j k _ _ _ _ q hjk h1 h2 h3
theorem EnvOk.wipe (E : EnvOk F0 H0 G σ F H) {i : Nat} : EnvOk F0 H0 (G.set i .no) (σ.set i none) F H := by
  obtain ⟨fp, E⟩ := E
  refine ⟨fp, E.gr, by rw [List.length_set, List.length_set, E.len], fun j t h => ?_, fun j k A iA B iB q hjk h1 h2 h3 => ?_⟩
  · rcases set_get h with ⟨rfl, hl, rfl⟩ | ⟨ne, h⟩
    · exact ⟨_, by rw [List.getElem?_set_self (by rw [E.len]; exact hl)], trivial⟩
    · obtain ⟨x, hx, o⟩ := E.at_ j t h
      exact ⟨x, by rw [List.getElem?_set_ne ne]; exact hx, o⟩
  · rcases set_get h1 with ⟨_, _, e⟩ | ⟨n1, h1⟩
    · cases e
    · rcases set_get h2 with ⟨_, _, e⟩ | ⟨n2, h2⟩
      · cases e
      · exact E.dj j k _ _ _ _ q hjk h1 h2 h3
end

/-! ### the judgements -/
/-- sh: the datum is frozen; b0: it stands at the entry; bo: it stands now -/
inductive Md | sh | b0 | bo
def pk : Md → Hp → Hp → Hp → Hp
  | .sh, F, _, _ => F
  | .b0, _, H0, _ => H0
  | .bo, _, _, H => H
section
variable {F0 H0 F H F' H' : Hp}
theorem pk_mono (m : Md) (g : Gr F H F' H') : Ex (pk m F H0 H) (pk m F' H0 H') := by
  cases m with
  | sh => exact g.ff
  | b0 => exact Ex.refl _
  | bo => exact g.hh
theorem pk_now {m : Md} (g : Gr F0 H0 F H) : Ex (pk m F H0 H) H := by
  cases m with
  | sh => exact g.fh
  | b0 => exact g.hh
  | bo => exact Ex.refl _
end
section
variable (F0 H0 : Hp)
def Ed {α : Type} (t : TE) (G : List Slot) (m : Md) (r : Rp α) (a : α) : Prop := ∀ σ F H, EnvOk F0 H0 G σ F H → ∀ Q : VK, (∀ v F' H', Gr F H F' H' → r (pk m F' H0 H') v a → Q v H') → t σ H Q
def Et (t : TT) (G : List Slot) (b : Bool) : Prop := ∀ σ F H, EnvOk F0 H0 G σ F H → ∀ Q : Bool → Hp → Prop, (∀ F' H', Gr F H F' H' → Q b H') → t σ H Q
def Gk (K : L2.St → Hp → Prop) (G : List Slot) : Prop := ∀ σ F H, EnvOk F0 H0 G σ F H → K σ H
/-- what is known at a place where ways meet -/
def EnvK (G : List Slot) : L2.St → Hp → Prop := fun σ H => ∃ F, EnvOk F0 H0 G σ F H
end
abbrev RA (α : Type) := Hp → Hp → Hp → List V → α → Prop
section
variable (F0 H0 : Hp)
def Ea {α : Type} (t : TA) (G : List Slot) (ra : RA α) (a : α) : Prop := ∀ σ F H, EnvOk F0 H0 G σ F H → ∀ Q : List V → Hp → Prop, (∀ vs F' H', Gr F H F' H' → ra F' H0 H' vs a → Q vs H') → t σ H Q
end
/-- the parameters of a def -/
inductive Pt : Type → Type 1
  | nil : Pt Unit
  | cons {α β : Type} (m : Md) (r : Rp α) (i : Mo r) (t : Pt β) : Pt (α × β)
def Pt.ra {α : Type} : Pt α → RA α
  | .nil => fun _ _ _ vs _ => vs = []
  | .cons m r _ t => fun F H0 H vs a => ∃ v us, vs = v :: us ∧ r (pk m F H0 H) v a.1 ∧ t.ra F H0 H us a.2
theorem Pt.mono {α : Type} : ∀ (T : Pt α) {F H F' H' H0 : Hp} {vs : List V} {a : α}, Gr F H F' H' → T.ra F H0 H vs a → T.ra F' H0 H' vs a
  | .nil, _, _, _, _, _, _, _, _, h => h
  | .cons m r i t, _, _, _, _, _, _, _, g, h => by
    obtain ⟨v, us, h1, h2, h3⟩ := h
    exact ⟨v, us, h1, i.ex (pk_mono m g) h2, t.mono g h3⟩
def Pt.count {α : Type} : Pt α → Nat
  | .nil => 0
  | .cons _ _ _ t => t.count + 1
theorem Pt.length {α : Type} : ∀ (T : Pt α) {F H H0 : Hp} {vs : List V} {a : α}, T.ra F H0 H vs a → vs.length = T.count
  | .nil, _, _, _, _, _, h => by rw [show _ = _ from h]; rfl
  | .cons m r i t, _, _, _, _, _, h => by
    obtain ⟨v, us, h1, h2, h3⟩ := h
    rw [h1, List.length_cons, t.length h3]; rfl
/-- what a parameter's slot holds at the entry -/
def pslot {α : Type} (m : Md) (r : Rp α) (i : Mo r) (a : α) : Slot := match m with
  | .sh => .fz r i a
  | _ => .bw r i a
def Pt.slots {α : Type} : Pt α → α → List Slot
  | .nil, _ => []
  | .cons m r i t, a => pslot m r i a.1 :: t.slots a.2

end LK

set_option Elab.async false
set_option linter.all false
set_option maxRecDepth 100000
set_option maxHeartbeats 4000000
set_option autoImplicit false
/-! LK2: typed readings of expressions. -/
namespace LK
open PySem L2
theorem plen {α β : Type} {R : α → β → Prop} {xs : List α} {ys : List β} (h : Paired R xs ys) : xs.length = ys.length := h.length
theorem pget {α β : Type} {R : α → β → Prop} : ∀ {xs : List α} {ys : List β} {i : Nat} {y : β}, Paired R xs ys → ys[i]? = some y → ∃ x, xs[i]? = some x ∧ R x y
  | _, _, i, y, .nil, e => by simp at e
  | _, _, 0, y, .cons h _, e => by simp at e; subst e; exact ⟨_, rfl, h⟩
  | _, _, i + 1, y, .cons _ t, e => by
    obtain ⟨x, h1, h2⟩ := pget (i := i) t (by simpa using e)
    exact ⟨x, by simpa using h1, h2⟩
theorem pgetL {α β : Type} {R : α → β → Prop} : ∀ {xs : List α} {ys : List β} {i : Nat} {x : α}, Paired R xs ys → xs[i]? = some x → ∃ y, ys[i]? = some y ∧ R x y
  | _, _, i, y, .nil, e => by simp at e
  | _, _, 0, y, .cons h _, e => by simp at e; subst e; exact ⟨_, rfl, h⟩
  | _, _, i + 1, y, .cons _ t, e => by
    obtain ⟨x, h1, h2⟩ := pgetL (i := i) t (by simpa using e)
    exact ⟨x, by simpa using h1, h2⟩
theorem papp {α β : Type} {R : α → β → Prop} {xs xs' : List α} {ys ys' : List β} (h : Paired R xs ys) (h' : Paired R xs' ys') : Paired R (xs ++ xs') (ys ++ ys') := by
  induction h with
  | nil => exact h'
  | cons a _ ih => exact .cons a ih
theorem ptake {α β : Type} {R : α → β → Prop} : ∀ (n : Nat) {xs : List α} {ys : List β}, Paired R xs ys → Paired R (xs.take n) (ys.take n)
  | 0, _, _, _ => .nil
  | _ + 1, _, _, .nil => .nil
  | n + 1, _, _, .cons a t => .cons a (ptake n t)
theorem pdrop {α β : Type} {R : α → β → Prop} : ∀ (n : Nat) {xs : List α} {ys : List β}, Paired R xs ys → Paired R (xs.drop n) (ys.drop n)
  | 0, _, _, h => h
  | _ + 1, _, _, .nil => .nil
  | n + 1, _, _, .cons _ t => pdrop n t
theorem pset {α β : Type} {R : α → β → Prop} {x : α} {y : β} (r : R x y) : ∀ {xs : List α} {ys : List β} (i : Nat), Paired R xs ys → Paired R (xs.set i x) (ys.set i y)
  | _, _, _, .nil => .nil
  | _, _, 0, .cons _ t => .cons r t
  | _, _, i + 1, .cons q t => .cons q (pset r i t)
theorem perase {α β : Type} {R : α → β → Prop} : ∀ {xs : List α} {ys : List β} (i : Nat), Paired R xs ys → Paired R (xs.eraseIdx i) (ys.eraseIdx i)
  | _, _, _, .nil => .nil
  | _, _, 0, .cons _ t => t
  | _, _, i + 1, .cons q t => .cons q (perase i t)
theorem pdl {α β : Type} {R : α → β → Prop} : ∀ {xs : List α} {ys : List β}, Paired R xs ys → Paired R xs.dropLast ys.dropLast
  | _, _, .nil => .nil
  | _, _, .cons _ .nil => .nil
  | _, _, .cons q (.cons r t) => .cons q (pdl (.cons r t))
theorem sz_le {n : Nat} (h : n ≤ 16777216) : n ≤ sizeLine := by rw [sizeLine_eq]; exact h
theorem le_sz {n : Nat} (h : n ≤ sizeLine) : n ≤ 16777216 := by rw [sizeLine_eq] at h; exact h
theorem sz_lt {n : Nat} (h : n < 16777216) : n < sizeLine := by rw [sizeLine_eq]; exact h

/-! ### items by place -/
def ixD {α : Type} [Inhabited α] (xs : List α) (i : Int) : α := (atI xs i).getD default
def ixOk (n : Nat) (i : Int) : Prop := -(n : Int) ≤ i ∧ i < n
theorem ixN_some {n : Nat} {i : Int} (h : ixOk n i) : ∃ j, ixN n i = some j ∧ j < n := by
  unfold ixN
  obtain ⟨h1, h2⟩ := h
  by_cases h0 : 0 ≤ i
  · rw [if_pos h0, if_pos h2]; exact ⟨_, rfl, by omega⟩
  · rw [if_neg h0, if_pos h1]; exact ⟨_, rfl, by omega⟩
theorem atI_ok {α : Type} [Inhabited α] {xs : List α} {i : Int} (h : ixOk xs.length i) : atI xs i = some (ixD xs i) := by
  obtain ⟨j, e, hj⟩ := ixN_some h
  unfold ixD atI
  rw [e]
  show xs[j]? = some ((xs[j]?).getD default)
  rw [List.getElem?_eq_getElem hj]; rfl
theorem pat {α β : Type} {R : α → β → Prop} {xs : List α} {ys : List β} {i : Int} {y : β} (p : Paired R xs ys) (h : atI ys i = some y) : ∃ x, atI xs i = some x ∧ R x y := by
  unfold atI at h ⊢
  rw [plen p]
  cases e : ixN ys.length i with
  | none => rw [e] at h; cases h
  | some j => rw [e] at h; exact pget p h
theorem ixD_mem {α : Type} [Inhabited α] {xs : List α} {j : Int} (h : ixOk xs.length j) : ixD xs j ∈ xs := by
  have e := atI_ok h
  unfold atI at e
  cases q : ixN xs.length j with
  | none => rw [q] at e; cases e
  | some n => rw [q] at e; exact List.mem_of_getElem? e
theorem ixD_nat {α : Type} [Inhabited α] (xs : List α) (i : Nat) : ixD xs (i : Int) = xs.getD i default := by
  unfold ixD atI ixN
  rw [if_pos (by omega)]
  by_cases h : (i : Int) < xs.length
  · rw [if_pos h]; simp [List.getD_eq_getElem?_getD]
  · rw [if_neg h]; simp [List.getD_eq_getElem?_getD]; rw [List.getElem?_eq_none (by omega)]; rfl
/-- the part of a list -/
def cutL {α : Type} (xs : List α) (lo hi : Option Int) : List α := (xs.drop (HT.sIx xs.length 0 lo)).take (HT.sIx xs.length xs.length hi - HT.sIx xs.length 0 lo)
theorem pcut {α β : Type} {R : α → β → Prop} {xs : List α} {ys : List β} (lo hi : Option Int) (p : Paired R xs ys) : Paired R (cutL xs lo hi) (cutL ys lo hi) := by
  unfold cutL
  rw [plen p]
  exact ptake _ (pdrop _ p)
theorem cutL_mem {α : Type} {xs : List α} {lo hi : Option Int} {x : α} (h : x ∈ cutL xs lo hi) : x ∈ xs := List.mem_of_mem_drop (List.mem_of_mem_take h)
theorem cutL_le {α : Type} (xs : List α) (lo hi : Option Int) : (cutL xs lo hi).length ≤ xs.length := by
  unfold cutL
  rw [List.length_take, List.length_drop]
  omega

section
variable {F0 H0 : Hp} {G : List Slot} {m m1 m2 : Md} {ta tb tc te : TE} {t u : TT} {K : PySem.W.Frag}
/-! ### new lists -/
def En {α : Type} (F0 H0 : Hp) (t : TE) (G : List Slot) (r : Rp α) (xs : List α) : Prop := ∀ σ F H, EnvOk F0 H0 G σ F H → ∀ Q : VK, (∀ p vs F' H', Gr F H F' H' → H p = none → F' p = none → H' p = some (.lst vs) → xs.length ≤ 16777216 → Paired (r F') vs xs → Q (.ref p) H') → t σ H Q
theorem En.ed {α : Type} {r : Rp α} [Mo r] {xs : List α} (h : En F0 H0 te G r xs) : Ed F0 H0 te G .sh (rLst r) xs := fun σ F H E Q q =>
  h σ F H E Q fun p vs F' H' g h1 h2 h3 h4 h5 => q _ (upd F' p (.lst vs)) H' ⟨g.ff.trans (Ex.new h2), fun a o e => by
      by_cases ha : a = p
      · subst ha; rw [upd_same] at e; cases e; exact h3
      · rw [upd_ne ha] at e; exact g.fh a o e, g.hh, fun a o e n => by
      by_cases ha : a = p
      · subst ha; exact h1
      · rw [upd_ne ha] at e; exact g.nw a o e n⟩ ⟨p, vs, rfl, upd_same, h4, pmap (fun _ _ z => mox (Ex.new h2) z) h5⟩
theorem Ed.bo {α : Type} {r : Rp α} [Mo r] {a : α} (h : Ed F0 H0 te G m r a) : Ed F0 H0 te G .bo r a := fun σ F H E Q q =>
  h σ F H E Q fun v F' H' g x => q v F' H' g (mox (pk_now (E.gr.trans g)) x)
theorem Ed.fl {α : Type} {r : Rp α} [Fl r] {a : α} (h : Ed F0 H0 te G m1 r a) : Ed F0 H0 te G m r a := fun σ F H E Q q =>
  h σ F H E Q fun v F' H' g x => q v F' H' g (Fl.fl x)
theorem Ed.cast {α : Type} {r : Rp α} {a b : α} (h : Ed F0 H0 te G m r a) (e : a = b) : Ed F0 H0 te G m r b := e ▸ h
theorem Et.cast {a b : Bool} (h : Et F0 H0 t G a) (e : a = b) : Et F0 H0 t G b := e ▸ h
theorem En.cast {α : Type} {r : Rp α} {a b : List α} (h : En F0 H0 te G r a) (e : a = b) : En F0 H0 te G r b := e ▸ h

/-! ### names, constants -/
theorem ed_v {α : Type} {r : Rp α} {im : Mo r} {a : α} {i : Nat} (h : G[i]? = some (.fz r im a)) : Ed F0 H0 (tVar i) G .sh r a := fun σ F H E Q q => by
  obtain ⟨v, hx, ok⟩ := E.fz_at h
  exact ⟨v, hx, q v F H (Gr.refl E.gr.fh) ok⟩
theorem ed_b {α : Type} {r : Rp α} {im : Mo r} {a : α} {i : Nat} (h : G[i]? = some (.bw r im a)) : Ed F0 H0 (tVar i) G .b0 r a := fun σ F H E Q q => by
  obtain ⟨v, hx, ok⟩ := E.bw_at h
  exact ⟨v, hx, q v F H (Gr.refl E.gr.fh) ok⟩
/-- an own list, read -/
theorem ed_o {α : Type} {r : Rp α} [Mo r] {xs : List α} {im : MoM (mL r xs)} {i : Nat} (h : G[i]? = some (.ow (mL r xs) im)) : Ed F0 H0 (tVar i) G .bo (rLst r) xs := fun σ F H E Q q => by
  obtain ⟨p, vs, hx, h1, h2, h3, h4, h5⟩ := E.lst_at h
  exact ⟨_, hx, q _ F H (Gr.refl E.gr.fh) ⟨p, vs, rfl, h3, h4, pmap (fun _ _ z => mox E.gr.fh z) h5⟩⟩
theorem ed_c {α : Type} {r : Rp α} {v : V} {a : α} (h : ∀ F, r F v a) : Ed F0 H0 (tC v) G m r a := fun σ F H E Q q => q v F H (Gr.refl E.gr.fh) (h _)
theorem ed_int {i : Int} : Ed F0 H0 (tC (.int i)) G m rInt i := ed_c fun _ => rfl
theorem ed_bl {b : Bool} : Ed F0 H0 (tC (.bl b)) G m rBl b := ed_c fun _ => rfl
theorem ed_tx {x : Str} {a : List Nat} (h : x = ⟨a.toArray⟩) (hl : a.length ≤ 16777216) (hc : (a.all fun c => decide (c < 1114112)) = true := by decide) : Ed F0 H0 (tC (.str x)) G m rTx a := ed_c fun _ => ⟨by rw [h], hl, fun c h => of_decide_eq_true (List.all_eq_true.mp hc c h)⟩
theorem ed_none {α : Type} {r : Rp α} : Ed F0 H0 (tC .non) G m (rOpt r) none := ed_c fun _ => rfl
theorem ed_some {α : Type} {r : Rp α} {a : α} (h : Ed F0 H0 te G m r a) : Ed F0 H0 te G m (rOpt r) (some a) := h
theorem ed_nonU : Ed F0 H0 (tC .non) G m rNon () := ed_c fun _ => rfl

/-! ### operators by values -/
theorem ed_bin {α β γ : Type} {rx : Rp α} {ry : Rp β} {rz : Rp γ} [Mo rx] {x : α} {y : β} {z : γ} {r : R2} (hx : Ed F0 H0 ta G m1 rx x) (hy : Ed F0 H0 tb G m2 ry y)
    (hr : ∀ v w F H, Gr F0 H0 F H → rx (pk m1 F H0 H) v x → ry (pk m2 F H0 H) w y → ∀ Q : VK, (∀ u F' H', Gr F H F' H' → rz (pk m F' H0 H') u z → Q u H') → r v w H Q) : Ed F0 H0 (tOp r ta tb) G m rz z := fun σ F H E Q q =>
  hx σ F H E _ fun v F1 H1 g1 h1 => hy σ F1 H1 (E.gro g1) _ fun w F2 H2 g2 h2 =>
    hr v w F2 H2 (E.gr.trans (g1.trans g2)) (mox (pk_mono m1 g2) h1) h2 Q fun u F3 H3 g3 h3 => q u F3 H3 ((g1.trans g2).trans g3) h3
theorem en_bin {α β γ : Type} {rx : Rp α} {ry : Rp β} {rz : Rp γ} [Mo rx] {x : α} {y : β} {z : List γ} {r : R2} (hx : Ed F0 H0 ta G m1 rx x) (hy : Ed F0 H0 tb G m2 ry y)
    (hr : ∀ v w F H, Gr F0 H0 F H → rx (pk m1 F H0 H) v x → ry (pk m2 F H0 H) w y → ∀ Q : VK, (∀ p vs F' H', Gr F H F' H' → H p = none → F' p = none → H' p = some (.lst vs) → z.length ≤ 16777216 → Paired (rz F') vs z → Q (.ref p) H') → r v w H Q) : En F0 H0 (tOp r ta tb) G rz z := fun σ F H E Q q =>
  hx σ F H E _ fun v F1 H1 g1 h1 => hy σ F1 H1 (E.gro g1) _ fun w F2 H2 g2 h2 =>
    hr v w F2 H2 (E.gr.trans (g1.trans g2)) (mox (pk_mono m1 g2) h1) h2 Q fun p vs F3 H3 g3 h3 h4 h5 h6 h7 => q p vs F3 H3 ((g1.trans g2).trans g3) ((g1.trans g2).hh.back h3) h4 h5 h6 h7
theorem ed_un {α β : Type} {rx : Rp α} {rz : Rp β} {x : α} {z : β} {r : V → Hp → VK → Prop} (hx : Ed F0 H0 ta G m1 rx x)
    (hr : ∀ v F H, Gr F0 H0 F H → rx (pk m1 F H0 H) v x → ∀ Q : VK, (∀ u F' H', Gr F H F' H' → rz (pk m F' H0 H') u z → Q u H') → r v H Q) : Ed F0 H0 (fun σ H Q => ta σ H fun x H1 => r x H1 Q) G m rz z := fun σ F H E Q q =>
  hx σ F H E _ fun v F1 H1 g1 h1 => hr v F1 H1 (E.gr.trans g1) h1 Q fun u F3 H3 g3 h3 => q u F3 H3 (g1.trans g3) h3
theorem ed_iop {γ : Type} {rz : Rp γ} {g : Int → Int → V} {x y : Int} {z : γ} (hx : Ed F0 H0 ta G m1 rInt x) (hy : Ed F0 H0 tb G m2 rInt y) (hz : ∀ F, rz F (g x y) z) : Ed F0 H0 (tOp (rI0 g) ta tb) G m rz z :=
  ed_bin hx hy fun v w F H g0 hv hw Q q => ⟨x, y, hv, hw, q _ F H (Gr.refl g0.fh) (hz _)⟩
theorem ed_iopC {γ : Type} {rz : Rp γ} {C : Int → Int → Prop} {g : Int → Int → V} {x y : Int} {z : γ} (hx : Ed F0 H0 ta G m1 rInt x) (hy : Ed F0 H0 tb G m2 rInt y) (hc : C x y) (hz : ∀ F, rz F (g x y) z) : Ed F0 H0 (tOp (rI C g) ta tb) G m rz z :=
  ed_bin hx hy fun v w F H g0 hv hw Q q => ⟨x, y, hv, hw, hc, q _ F H (Gr.refl g0.fh) (hz _)⟩
abbrev rAddI : R2 := rI0 fun i j => .int (i + j)
theorem ed_add {x y : Int} (hx : Ed F0 H0 ta G m1 rInt x) (hy : Ed F0 H0 tb G m2 rInt y) : Ed F0 H0 (tOp (rI0 fun i j => .int (i + j)) ta tb) G m rInt (x + y) := ed_iop hx hy fun _ => rfl
theorem ed_sub {x y : Int} (hx : Ed F0 H0 ta G m1 rInt x) (hy : Ed F0 H0 tb G m2 rInt y) : Ed F0 H0 (tOp (rI0 fun i j => .int (i - j)) ta tb) G m rInt (x - y) := ed_iop hx hy fun _ => rfl
theorem ed_mul {x y : Int} (hx : Ed F0 H0 ta G m1 rInt x) (hy : Ed F0 H0 tb G m2 rInt y) (hc : (-18446744073709551616 < x ∧ x < 18446744073709551616) ∨ (-18446744073709551616 < y ∧ y < 18446744073709551616)) : Ed F0 H0 (tOp (rI CMul fun i j => .int (i * j)) ta tb) G m rInt (x * y) := ed_iopC hx hy hc fun _ => rfl
theorem ed_mod {x y : Int} (hx : Ed F0 H0 ta G m1 rInt x) (hy : Ed F0 H0 tb G m2 rInt y) (hc : 0 < y) : Ed F0 H0 (tOp (rI (fun _ j => 0 < j) fun i j => .int (i % j)) ta tb) G m rInt (x % y) := ed_iopC hx hy hc fun _ => rfl
theorem ed_div {x y : Int} (hx : Ed F0 H0 ta G m1 rInt x) (hy : Ed F0 H0 tb G m2 rInt y) (hc : 0 < y ∧ y < 1073741824) : Ed F0 H0 (tOp (rI CDiv fun i j => .int (i / j)) ta tb) G m rInt (x / y) := ed_iopC hx hy hc fun _ => rfl
theorem ed_pow {x y : Int} (hx : Ed F0 H0 ta G m1 rInt x) (hy : Ed F0 H0 tb G m2 rInt y) (hc : 0 ≤ y ∧ y ≤ 1000000 ∧ x.natAbs < 18446744073709551616) : Ed F0 H0 (tOp (rI CPow fun i j => .int (i ^ j.toNat)) ta tb) G m rInt (x ^ y.toNat) := ed_iopC hx hy hc fun _ => rfl
theorem ed_neg {x : Int} (hx : Ed F0 H0 ta G m1 rInt x) : Ed F0 H0 (tUn (rU fun i => .int (-i)) ta) G m rInt (-x) := fun σ F H E Q q => hx σ F H E _ fun v F1 H1 g1 hv => ⟨x, hv, q _ F1 H1 g1 rfl⟩
theorem ed_lt {x y : Int} (hx : Ed F0 H0 ta G m1 rInt x) (hy : Ed F0 H0 tb G m2 rInt y) : Ed F0 H0 (tOp (rI0 fun i j => .bl (decide (i < j))) ta tb) G m rBl (decide (x < y)) := ed_iop hx hy fun _ => rfl
theorem ed_le {x y : Int} (hx : Ed F0 H0 ta G m1 rInt x) (hy : Ed F0 H0 tb G m2 rInt y) : Ed F0 H0 (tOp (rI0 fun i j => .bl (decide (i ≤ j))) ta tb) G m rBl (decide (x ≤ y)) := ed_iop hx hy fun _ => rfl
theorem ed_gt {x y : Int} (hx : Ed F0 H0 ta G m1 rInt x) (hy : Ed F0 H0 tb G m2 rInt y) : Ed F0 H0 (tOp (rI0 fun i j => .bl (decide (j < i))) ta tb) G m rBl (decide (y < x)) := ed_iop hx hy fun _ => rfl
theorem ed_ge {x y : Int} (hx : Ed F0 H0 ta G m1 rInt x) (hy : Ed F0 H0 tb G m2 rInt y) : Ed F0 H0 (tOp (rI0 fun i j => .bl (decide (j ≤ i))) ta tb) G m rBl (decide (y ≤ x)) := ed_iop hx hy fun _ => rfl
/-- what == compares by value -/
class Sc {α : Type} (r : Rp α) : Prop where
  sc : ∀ {F F' : Hp} {v w : V} {a b : α}, r F v a → r F' w b → scal v w = true ∧ (v = w ↔ a = b)
instance : Sc rInt := ⟨fun {F F' v w a b} h h' => by rw [show v = _ from h, show w = _ from h']; exact ⟨rfl, by simp⟩⟩
instance : Sc rBl := ⟨fun {F F' v w a b} h h' => by rw [show v = _ from h, show w = _ from h']; exact ⟨rfl, by simp⟩⟩
instance : Sc rTx := ⟨fun {F F' v w a b} h h' => by rw [h.1, h'.1]; exact ⟨rfl, by simp⟩⟩
theorem ed_eq {α : Type} {r : Rp α} [DecidableEq α] [Mo r] [Sc r] {x y : α} (hx : Ed F0 H0 ta G m1 r x) (hy : Ed F0 H0 tb G m2 r y) : Ed F0 H0 (tOp rEq ta tb) G m rBl (decide (x = y)) :=
  ed_bin hx hy fun v w F H g0 hv hw Q q => by
    obtain ⟨h1, h2⟩ := Sc.sc hv hw
    exact ⟨h1, q _ F H (Gr.refl g0.fh) (by show V.bl _ = V.bl _; rw [decide_eq_decide.mpr h2])⟩
theorem ed_ne {α : Type} {r : Rp α} [DecidableEq α] [Mo r] [Sc r] {x y : α} (hx : Ed F0 H0 ta G m1 r x) (hy : Ed F0 H0 tb G m2 r y) : Ed F0 H0 (tOp rNe ta tb) G m rBl (!decide (x = y)) :=
  ed_bin hx hy fun v w F H g0 hv hw Q q => by
    obtain ⟨h1, h2⟩ := Sc.sc hv hw
    exact ⟨h1, q _ F H (Gr.refl g0.fh) (by show V.bl _ = V.bl _; rw [decide_eq_decide.mpr h2])⟩
/-- an optional one: is None -/
theorem ed_isN {α : Type} {r : Rp α} [Mo r] [Nn r] {x : Option α} (hx : Ed F0 H0 ta G m1 (rOpt r) x) : Ed F0 H0 (tIsN ta) G m rBl x.isNone :=
  ed_un (r := fun x H Q => Q (.bl (decide (x = .non))) H) hx fun v F H g0 hv Q q => q _ F H (Gr.refl g0.fh) (by
    cases x with
    | none => show V.bl _ = V.bl _; rw [decide_eq_true (show v = .non from hv)]; rfl
    | some a => show V.bl _ = V.bl _; rw [decide_eq_false (Nn.nn (r := r) (a := a) hv)]; rfl)
theorem ed_notN {α : Type} {r : Rp α} [Mo r] [Nn r] {x : Option α} (hx : Ed F0 H0 ta G m1 (rOpt r) x) : Ed F0 H0 (tNotN ta) G m rBl x.isSome :=
  ed_un (r := fun x H Q => Q (.bl (!decide (x = .non))) H) hx fun v F H g0 hv Q q => q _ F H (Gr.refl g0.fh) (by
    cases x with
    | none => show V.bl _ = V.bl _; rw [decide_eq_true (show v = .non from hv)]; rfl
    | some a => show V.bl _ = V.bl _; rw [decide_eq_false (Nn.nn (r := r) (a := a) hv)]; rfl)

/-! ### texts -/
abbrev rCatS : R2 := fun x y H Q => ∃ i j, x = .str i ∧ y = .str j ∧ i.length + j.length ≤ sizeLine ∧ Q (.str (i ++ j)) H
theorem tx_cat (a b : List Nat) : (⟨a.toArray⟩ : Str) ++ (⟨b.toArray⟩ : Str) = ⟨(a ++ b).toArray⟩ := by
  show Str.mk (a.toArray ++ b.toArray) = _
  simp
theorem tx_len (a : List Nat) : (⟨a.toArray⟩ : Str).length = a.length := by simp [Str.length]
theorem ed_cat {x y : List Nat} (hx : Ed F0 H0 ta G m1 rTx x) (hy : Ed F0 H0 tb G m2 rTx y) (hl : x.length + y.length ≤ 16777216) : Ed F0 H0 (tOp rCatS ta tb) G m rTx (x ++ y) :=
  ed_bin hx hy fun v w F H g0 hv hw Q q => ⟨_, _, hv.1, hw.1, by rw [tx_len, tx_len]; exact sz_le hl, q _ F H (Gr.refl g0.fh) ⟨by rw [tx_cat], by rw [List.length_append]; exact hl, fun c hc => (List.mem_append.mp hc).elim (hv.2.2 c) (hw.2.2 c)⟩⟩
theorem ed_ixT {x : List Nat} {i : Int} (hx : Ed F0 H0 ta G m1 rTx x) (hy : Ed F0 H0 tb G m2 rInt i) (hi : ixOk x.length i) : Ed F0 H0 (tOp rIxS ta tb) G m rTx [ixD x i] :=
  ed_bin hx hy fun v w F H g0 hv hw Q q => ⟨_, i, ixD x i, hv.1, hw, by rw [tx_len]; exact sz_le hv.2.1, by simpa using atI_ok hi, q _ F H (Gr.refl g0.fh) ⟨rfl, by simp, fun c hc => by rw [List.mem_singleton.mp hc]; exact hv.2.2 _ (ixD_mem hi)⟩⟩
abbrev rInC : R2 := fun x y H Q => ∃ (c : Nat) (z : Str), x = .str ⟨#[c]⟩ ∧ y = .str z ∧ Q (.bl (decide (c ∈ z.cps.toList))) H
abbrev rNotInC : R2 := fun x y H Q => ∃ (c : Nat) (z : Str), x = .str ⟨#[c]⟩ ∧ y = .str z ∧ Q (.bl (!decide (c ∈ z.cps.toList))) H
theorem ed_inT {c : Nat} {y : List Nat} (hx : Ed F0 H0 ta G m1 rTx [c]) (hy : Ed F0 H0 tb G m2 rTx y) : Ed F0 H0 (tOp rInC ta tb) G m rBl (decide (c ∈ y)) :=
  ed_bin hx hy fun v w F H g0 hv hw Q q => ⟨c, _, hv.1, hw.1, q _ F H (Gr.refl g0.fh) (by simp [rBl])⟩
theorem ed_niT {c : Nat} {y : List Nat} (hx : Ed F0 H0 ta G m1 rTx [c]) (hy : Ed F0 H0 tb G m2 rTx y) : Ed F0 H0 (tOp rNotInC ta tb) G m rBl (!decide (c ∈ y)) :=
  ed_bin hx hy fun v w F H g0 hv hw Q q => ⟨c, _, hv.1, hw.1, q _ F H (Gr.refl g0.fh) (by simp [rBl])⟩

/-! ### lists, tuples: items, lengths -/
theorem ed_ixL {α : Type} {r : Rp α} [Mo r] [Inhabited α] {xs : List α} {i : Int} (hx : Ed F0 H0 ta G m (rLst r) xs) (hy : Ed F0 H0 tb G m2 rInt i) (hi : ixOk xs.length i) : Ed F0 H0 (tOp (rIxL K) ta tb) G m r (ixD xs i) :=
  ed_bin hx hy fun v w F H g0 hv hw Q q => by
    obtain ⟨p, vs, rfl, h1, h2, h3⟩ := hv
    obtain ⟨x, e, rx⟩ := pat h3 (atI_ok hi)
    exact ⟨p, vs, i, x, rfl, hw, SqL.of (pk_now g0 _ _ h1), e, q _ F H (Gr.refl g0.fh) rx⟩
theorem ed_ixU {α : Type} {r : Rp α} [Mo r] [Inhabited α] {xs : List α} {i : Int} (hx : Ed F0 H0 ta G m (rTup r) xs) (hy : Ed F0 H0 tb G m2 rInt i) (hi : ixOk xs.length i) : Ed F0 H0 (tOp (rIxT K) ta tb) G m r (ixD xs i) :=
  ed_bin hx hy fun v w F H g0 hv hw Q q => by
    obtain ⟨p, vs, rfl, h1, h2, h3⟩ := hv
    obtain ⟨x, e, rx⟩ := pat h3 (atI_ok hi)
    exact ⟨p, vs, i, x, rfl, hw, SqT.of (pk_now g0 _ _ h1), e, q _ F H (Gr.refl g0.fh) rx⟩
/-- a pair's parts -/
theorem ed_ix0 {α β : Type} {r : Rp α} {s : Rp β} [Mo r] [Mo s] {x : α × β} (hx : Ed F0 H0 ta G m (rPr r s) x) : Ed F0 H0 (tOp (rIxT K) ta (tC (.int 0))) G m r x.1 :=
  ed_bin hx (ed_int (m := .sh)) fun v w F H g0 hv hw Q q => by
    obtain ⟨p, u, z, rfl, h1, h2, h3⟩ := hv
    exact ⟨p, _, 0, u, rfl, hw, SqT.of (pk_now g0 _ _ h1), rfl, q _ F H (Gr.refl g0.fh) h2⟩
theorem ed_ix1 {α β : Type} {r : Rp α} {s : Rp β} [Mo r] [Mo s] {x : α × β} (hx : Ed F0 H0 ta G m (rPr r s) x) : Ed F0 H0 (tOp (rIxT K) ta (tC (.int 1))) G m s x.2 :=
  ed_bin hx (ed_int (m := .sh)) fun v w F H g0 hv hw Q q => by
    obtain ⟨p, u, z, rfl, h1, h2, h3⟩ := hv
    exact ⟨p, _, 1, z, rfl, hw, SqT.of (pk_now g0 _ _ h1), rfl, q _ F H (Gr.refl g0.fh) h3⟩
theorem ed_c1 {α β : Type} {rx : Rp α} {rz : Rp β} {x : α} {z : β} {r : List V → Hp → VK → Prop} (hx : Ed F0 H0 ta G m1 rx x)
    (hr : ∀ v F H, Gr F0 H0 F H → rx (pk m1 F H0 H) v x → ∀ Q : VK, (∀ u F' H', Gr F H F' H' → rz (pk m F' H0 H') u z → Q u H') → r [v] H Q) : Ed F0 H0 (tCB r (tCons ta tNil)) G m rz z := fun σ F H E Q q =>
  hx σ F H E _ fun v F1 H1 g1 h1 => hr v F1 H1 (E.gr.trans g1) h1 Q fun u F3 H3 g3 h3 => q u F3 H3 (g1.trans g3) h3
theorem en_c1 {α β : Type} {rx : Rp α} {rz : Rp β} {x : α} {z : List β} {r : List V → Hp → VK → Prop} (hx : Ed F0 H0 ta G m1 rx x)
    (hr : ∀ v F H, Gr F0 H0 F H → rx (pk m1 F H0 H) v x → ∀ Q : VK, (∀ p vs F' H', Gr F H F' H' → H p = none → F' p = none → H' p = some (.lst vs) → z.length ≤ 16777216 → Paired (rz F') vs z → Q (.ref p) H') → r [v] H Q) : En F0 H0 (tCB r (tCons ta tNil)) G rz z := fun σ F H E Q q =>
  hx σ F H E _ fun v F1 H1 g1 h1 => hr v F1 H1 (E.gr.trans g1) h1 Q fun p vs F3 H3 g3 h3 h4 h5 h6 h7 => q p vs F3 H3 (g1.trans g3) (g1.hh.back h3) h4 h5 h6 h7
abbrev rLenQ (K : PySem.W.Frag) : List V → Hp → VK → Prop := fun xs H Q => ∃ p ys, xs = [.ref p] ∧ (SqL K H p ys ∨ SqT K H p ys) ∧ Q (.int ys.length) H
abbrev rLenT : List V → Hp → VK → Prop := fun xs H Q => ∃ z, xs = [.str z] ∧ z.length ≤ sizeLine ∧ Q (.int z.length) H
theorem ed_lenL {α : Type} {r : Rp α} {xs : List α} (hx : Ed F0 H0 ta G m1 (rLst r) xs) : Ed F0 H0 (tCB (rLenQ K) (tCons ta tNil)) G m rInt (xs.length : Int) :=
  ed_c1 hx fun v F H g0 hv Q q => by
    obtain ⟨p, vs, rfl, h1, h2, h3⟩ := hv
    exact ⟨p, vs, rfl, .inl (SqL.of (pk_now g0 _ _ h1)), q _ F H (Gr.refl g0.fh) (by rw [plen h3]; rfl)⟩
theorem ed_lenU {α : Type} {r : Rp α} {xs : List α} (hx : Ed F0 H0 ta G m1 (rTup r) xs) : Ed F0 H0 (tCB (rLenQ K) (tCons ta tNil)) G m rInt (xs.length : Int) :=
  ed_c1 hx fun v F H g0 hv Q q => by
    obtain ⟨p, vs, rfl, h1, h2, h3⟩ := hv
    exact ⟨p, vs, rfl, .inr (SqT.of (pk_now g0 _ _ h1)), q _ F H (Gr.refl g0.fh) (by rw [plen h3]; rfl)⟩
theorem ed_lenT {x : List Nat} (hx : Ed F0 H0 ta G m1 rTx x) : Ed F0 H0 (tCB rLenT (tCons ta tNil)) G m rInt (x.length : Int) :=
  ed_c1 hx fun v F H g0 hv Q q => ⟨⟨x.toArray⟩, by rw [hv.1], by rw [tx_len]; exact sz_le hv.2.1, q _ F H (Gr.refl g0.fh) (by rw [tx_len]; rfl)⟩

/-! ### x in a list or tuple of flat things -/
class Ft {α : Type} (r : Rp α) : Prop where
  ft : ∀ {F : Hp} {v : V} {a : α}, r F v a → flatV v = true
  eq : ∀ {F F' : Hp} {v w : V} {a b : α}, r F v a → r F' w b → (eqV v w = true ↔ a = b)
instance : Ft rInt := ⟨fun {F v a} h => by rw [show v = _ from h]; rfl, fun {F F' v w a b} h h' => by rw [show v = _ from h, show w = _ from h']; simp [eqV]⟩
instance : Ft rTx := ⟨fun {F v a} h => by rw [h.1]; rfl, fun {F F' v w a b} h h' => by rw [h.1, h'.1]; simp [eqV]⟩
theorem ft_all {α : Type} {r : Rp α} [Ft r] {F : Hp} : ∀ {vs : List V} {xs : List α}, Paired (r F) vs xs → vs.all flatV = true
  | _, _, .nil => rfl
  | _, _, .cons h t => by rw [List.all_cons, Ft.ft h, ft_all t]; rfl
theorem ft_in {α : Type} {r : Rp α} [Ft r] [DecidableEq α] {F F' : Hp} {v : V} {a : α} (hv : r F' v a) : ∀ {vs : List V} {xs : List α}, Paired (r F) vs xs → inV v vs = decide (a ∈ xs)
  | _, _, .nil => by simp [inV]
  | w :: vs, x :: xs, .cons h t => by
    have ih := ft_in hv t
    unfold inV at ih ⊢
    rw [List.any_cons, ih]
    have e : eqV w v = decide (x = a) := by
      by_cases z : x = a
      · rw [decide_eq_true z]; exact (Ft.eq h hv).mpr z
      · rw [decide_eq_false z]
        cases q : eqV w v with
        | false => rfl
        | true => exact absurd ((Ft.eq h hv).mp q) z
    rw [e]
    by_cases z : x = a
    · subst z; simp
    · rw [decide_eq_false z, Bool.false_or]
      simp only [List.mem_cons, decide_eq_decide]
      exact ⟨fun q => .inr q, fun q => q.resolve_left fun y => z y.symm⟩
theorem ed_inL {α : Type} {r : Rp α} [Ft r] [Mo r] [DecidableEq α] {a : α} {xs : List α} (hx : Ed F0 H0 ta G m1 r a) (hy : Ed F0 H0 tb G m2 (rLst r) xs) : Ed F0 H0 (tOp (rIn K false) ta tb) G m rBl (decide (a ∈ xs)) :=
  ed_bin hx hy fun v w F H g0 hv hw Q q => by
    obtain ⟨p, vs, rfl, h1, h2, h3⟩ := hw
    exact ⟨p, vs, rfl, .inl (SqL.of (pk_now g0 _ _ h1)), Ft.ft hv, ft_all h3, q _ F H (Gr.refl g0.fh) (by rw [ft_in hv h3]; rfl)⟩
theorem ed_niL {α : Type} {r : Rp α} [Ft r] [Mo r] [DecidableEq α] {a : α} {xs : List α} (hx : Ed F0 H0 ta G m1 r a) (hy : Ed F0 H0 tb G m2 (rLst r) xs) : Ed F0 H0 (tOp (rIn K true) ta tb) G m rBl (!decide (a ∈ xs)) :=
  ed_bin hx hy fun v w F H g0 hv hw Q q => by
    obtain ⟨p, vs, rfl, h1, h2, h3⟩ := hw
    exact ⟨p, vs, rfl, .inl (SqL.of (pk_now g0 _ _ h1)), Ft.ft hv, ft_all h3, q _ F H (Gr.refl g0.fh) (by rw [ft_in hv h3]; rfl)⟩
theorem ed_inU {α : Type} {r : Rp α} [Ft r] [Mo r] [DecidableEq α] {a : α} {xs : List α} (hx : Ed F0 H0 ta G m1 r a) (hy : Ed F0 H0 tb G m2 (rTup r) xs) : Ed F0 H0 (tOp (rIn K false) ta tb) G m rBl (decide (a ∈ xs)) :=
  ed_bin hx hy fun v w F H g0 hv hw Q q => by
    obtain ⟨p, vs, rfl, h1, h2, h3⟩ := hw
    exact ⟨p, vs, rfl, .inr (SqT.of (pk_now g0 _ _ h1)), Ft.ft hv, ft_all h3, q _ F H (Gr.refl g0.fh) (by rw [ft_in hv h3]; rfl)⟩
theorem ed_niU {α : Type} {r : Rp α} [Ft r] [Mo r] [DecidableEq α] {a : α} {xs : List α} (hx : Ed F0 H0 ta G m1 r a) (hy : Ed F0 H0 tb G m2 (rTup r) xs) : Ed F0 H0 (tOp (rIn K true) ta tb) G m rBl (!decide (a ∈ xs)) :=
  ed_bin hx hy fun v w F H g0 hv hw Q q => by
    obtain ⟨p, vs, rfl, h1, h2, h3⟩ := hw
    exact ⟨p, vs, rfl, .inr (SqT.of (pk_now g0 _ _ h1)), Ft.ft hv, ft_all h3, q _ F H (Gr.refl g0.fh) (by rw [ft_in hv h3]; rfl)⟩

/-! ### tests -/
theorem et_B {b : Bool} (h : Ed F0 H0 te G m rBl b) : Et F0 H0 (tB te) G b := fun σ F H E Q q => h σ F H E _ fun v F' H' g hv => ⟨b, hv, q F' H' g⟩
theorem et_T {b : Bool} (h : Ed F0 H0 te G m rBl b) : Et F0 H0 (tTest te) G b := fun σ F H E Q q => h σ F H E _ fun v F' H' g hv => ⟨b, hv, q F' H' g⟩
theorem et_and {a b : Bool} (h1 : Et F0 H0 t G a) (h2 : a = true → Et F0 H0 u G b) : Et F0 H0 (tAnd t u) G (a && b) := fun σ F H E Q q => h1 σ F H E _ fun F1 H1 g1 => by
  cases a with
  | true => exact h2 rfl σ F1 H1 (E.gro g1) Q fun F2 H2 g2 => q F2 H2 (g1.trans g2)
  | false => exact q F1 H1 g1
theorem et_or {a b : Bool} (h1 : Et F0 H0 t G a) (h2 : a = false → Et F0 H0 u G b) : Et F0 H0 (tOr t u) G (a || b) := fun σ F H E Q q => h1 σ F H E _ fun F1 H1 g1 => by
  cases a with
  | true => exact q F1 H1 g1
  | false => exact h2 rfl σ F1 H1 (E.gro g1) Q fun F2 H2 g2 => q F2 H2 (g1.trans g2)
theorem et_not {a : Bool} (h1 : Et F0 H0 t G a) : Et F0 H0 (tNot t) G (!a) := fun σ F H E Q q => h1 σ F H E _ fun F1 H1 g1 => q F1 H1 g1
abbrev tTr (K : PySem.W.Frag) (ta : TE) : TT := fun σ H Q => ta σ H fun x H' => ∃ k, TruV K x H' k ∧ Q k H'
theorem et_trL {α : Type} {r : Rp α} {xs : List α} (h : Ed F0 H0 te G m (rLst r) xs) : Et F0 H0 (tTr K te) G (!xs.isEmpty) := fun σ F H E Q q => h σ F H E _ fun v F' H' g hv => by
  obtain ⟨p, vs, rfl, h1, h2, h3⟩ := hv
  refine ⟨_, .inl ⟨vs, SqL.of (pk_now (E.gr.trans g) _ _ h1), rfl⟩, ?_⟩
  have e : vs.isEmpty = xs.isEmpty := by cases h3 <;> rfl
  rw [e]; exact q F' H' g
theorem et_trU {α : Type} {r : Rp α} {xs : List α} (h : Ed F0 H0 te G m (rTup r) xs) : Et F0 H0 (tTr K te) G (!xs.isEmpty) := fun σ F H E Q q => h σ F H E _ fun v F' H' g hv => by
  obtain ⟨p, vs, rfl, h1, h2, h3⟩ := hv
  refine ⟨_, .inr (.inl ⟨vs, SqT.of (pk_now (E.gr.trans g) _ _ h1), rfl⟩), ?_⟩
  have e : vs.isEmpty = xs.isEmpty := by cases h3 <;> rfl
  rw [e]; exact q F' H' g
theorem ed_andV {a b : Bool} (h1 : Ed F0 H0 ta G m1 rBl a) (h2 : a = true → Ed F0 H0 tb G m2 rBl b) : Ed F0 H0 (tAndV ta tb) G m rBl (a && b) := fun σ F H E Q q => h1 σ F H E _ fun v F1 H1 g1 hv => ⟨a, hv, by
  cases a with
  | true => exact h2 rfl σ F1 H1 (E.gro g1) Q fun w F2 H2 g2 hw => q w F2 H2 (g1.trans g2) hw
  | false => exact q _ F1 H1 g1 rfl⟩
theorem ed_orV {a b : Bool} (h1 : Ed F0 H0 ta G m1 rBl a) (h2 : a = false → Ed F0 H0 tb G m2 rBl b) : Ed F0 H0 (tOrV ta tb) G m rBl (a || b) := fun σ F H E Q q => h1 σ F H E _ fun v F1 H1 g1 hv => ⟨a, hv, by
  cases a with
  | true => exact q _ F1 H1 g1 rfl
  | false => exact h2 rfl σ F1 H1 (E.gro g1) Q fun w F2 H2 g2 hw => q w F2 H2 (g1.trans g2) hw⟩
theorem ed_notV {a : Bool} (h1 : Ed F0 H0 ta G m1 rBl a) : Ed F0 H0 (tNotV ta) G m rBl (!a) := fun σ F H E Q q => h1 σ F H E _ fun v F1 H1 g1 hv => ⟨a, hv, q _ F1 H1 g1 rfl⟩
theorem ed_if {α : Type} {r : Rp α} {a b : α} {c : Bool} (h : Et F0 H0 t G c) (h1 : c = true → Ed F0 H0 ta G m r a) (h2 : c = false → Ed F0 H0 tb G m r b) : Ed F0 H0 (tIf t ta tb) G m r (if c = true then a else b) := fun σ F H E Q q => h σ F H E _ fun F1 H1 g1 => by
  cases c with
  | true => exact h1 rfl σ F1 H1 (E.gro g1) Q fun w F2 H2 g2 hw => q w F2 H2 (g1.trans g2) hw
  | false => exact h2 rfl σ F1 H1 (E.gro g1) Q fun w F2 H2 g2 hw => q w F2 H2 (g1.trans g2) hw

/-! ### arguments, displays -/
theorem ea_nil : Ea F0 H0 tNil G Pt.nil.ra () := fun σ F H E Q q => q [] F H (Gr.refl E.gr.fh) rfl
theorem ea_cons {α β : Type} {r : Rp α} [im : Mo r] {T : Pt β} {tr : TA} {a : α} {b : β} (h : Ed F0 H0 ta G m r a) (hr : Ea F0 H0 tr G T.ra b) : Ea F0 H0 (tCons ta tr) G (Pt.cons m r im T).ra (a, b) := fun σ F H E Q q =>
  h σ F H E _ fun v F1 H1 g1 h1 => hr σ F1 H1 (E.gro g1) _ fun vs F2 H2 g2 h2 => q _ F2 H2 (g1.trans g2) ⟨v, vs, rfl, im.ex (pk_mono m g2) h1, h2⟩
def El {α : Type} (F0 H0 : Hp) (t : TA) (G : List Slot) (r : Rp α) (xs : List α) : Prop := ∀ σ F H, EnvOk F0 H0 G σ F H → ∀ Q : List V → Hp → Prop, (∀ vs F' H', Gr F H F' H' → Paired (r F') vs xs → Q vs H') → t σ H Q
theorem el_nil {α : Type} {r : Rp α} : El F0 H0 tNil G r [] := fun σ F H E Q q => q [] F H (Gr.refl E.gr.fh) .nil
theorem el_cons {α : Type} {r : Rp α} [Mo r] {tr : TA} {a : α} {xs : List α} (h : Ed F0 H0 ta G .sh r a) (hr : El F0 H0 tr G r xs) : El F0 H0 (tCons ta tr) G r (a :: xs) := fun σ F H E Q q =>
  h σ F H E _ fun v F1 H1 g1 h1 => hr σ F1 H1 (E.gro g1) _ fun vs F2 H2 g2 h2 => q _ F2 H2 (g1.trans g2) (.cons (mox g2.ff h1) h2)
theorem en_lst {α : Type} {r : Rp α} [Mo r] {ts : TA} {xs : List α} (h : El F0 H0 ts G r xs) (hl : xs.length ≤ 16777216) : En F0 H0 (tLst ts) G r xs := fun σ F H E Q q =>
  h σ F H E _ fun vs F1 H1 g1 h1 => ⟨by rw [plen h1]; exact sz_le hl, fun p hp => q p vs F1 _ (g1.trans (Gr.wild g1.fh hp)) (g1.hh.back hp) (g1.fh.back hp) upd_same hl h1⟩
theorem ed_tup {α : Type} {r : Rp α} [Mo r] {ts : TA} {xs : List α} (h : El F0 H0 ts G r xs) (hl : xs.length ≤ 16777216) : Ed F0 H0 (tTup ts) G .sh (rTup r) xs := fun σ F H E Q q =>
  h σ F H E _ fun vs F1 H1 g1 h1 => ⟨by rw [plen h1]; exact sz_le hl, fun p hp => q _ _ _ (g1.trans (Gr.new g1.fh hp)) ⟨p, vs, rfl, upd_same, hl, pmap (fun _ _ z => mox (Ex.new (g1.fh.back hp)) z) h1⟩⟩
theorem ed_pr {α β : Type} {r : Rp α} {s : Rp β} [Mo r] [Mo s] {a : α} {b : β} (h : Ed F0 H0 ta G .sh r a) (h' : Ed F0 H0 tb G .sh s b) : Ed F0 H0 (tTup (tCons ta (tCons tb tNil))) G .sh (rPr r s) (a, b) := fun σ F H E Q q =>
  h σ F H E _ fun v F1 H1 g1 h1 => h' σ F1 H1 (E.gro g1) _ fun w F2 H2 g2 h2 => ⟨sz_le (by show 2 ≤ 16777216; decide), fun p hp => by
    have n := Ex.new (o := .tup [v, w]) (g2.fh.back hp)
    exact q _ _ _ ((g1.trans g2).trans (Gr.new g2.fh hp)) ⟨p, v, w, rfl, upd_same, mox (g2.ff.trans n) h1, mox n h2⟩⟩
theorem ed_p3 {α β γ : Type} {r : Rp α} {s : Rp β} {s3 : Rp γ} [Mo r] [Mo s] [Mo s3] {a : α} {b : β} {c : γ} (h : Ed F0 H0 ta G .sh r a) (h' : Ed F0 H0 tb G .sh s b) (h3 : Ed F0 H0 tc G .sh s3 c) : Ed F0 H0 (tTup (tCons ta (tCons tb (tCons tc tNil)))) G .sh (rP3 r s s3) (a, b, c) := fun σ F H E Q q =>
  h σ F H E _ fun v F1 H1 g1 h1 => h' σ F1 H1 (E.gro g1) _ fun w F2 H2 g2 h2 => h3 σ F2 H2 ((E.gro g1).gro g2) _ fun z F3 H3 g3 h3 => ⟨sz_le (by show 3 ≤ 16777216; decide), fun p hp => by
    have n := Ex.new (o := .tup [v, w, z]) (g3.fh.back hp)
    exact q _ _ _ (((g1.trans g2).trans g3).trans (Gr.new g3.fh hp)) ⟨p, v, w, z, rfl, upd_same, mox ((g2.ff.trans g3.ff).trans n) h1, mox (g3.ff.trans n) h2, mox n h3⟩⟩

/-! ### list(..), tuple(..), +, slices -/
abbrev rListQ (K : PySem.W.Frag) : List V → Hp → VK → Prop := fun xs H Q => ∃ p ys, xs = [.ref p] ∧ (SqL K H p ys ∨ SqT K H p ys) ∧ ∀ l, H l = none → Q (.ref l) (upd H l (.lst ys))
abbrev rTupleQ (K : PySem.W.Frag) : List V → Hp → VK → Prop := fun xs H Q => ∃ p ys, xs = [.ref p] ∧ ((SqL K H p ys ∧ ∀ l, H l = none → Q (.ref l) (upd H l (.tup ys))) ∨ (SqT K H p ys ∧ Q (.ref p) H))
/-- what may be kept: frozen, or flat -/
class Kp {α : Type} (m : Md) (r : Rp α) : Prop where
  kp : ∀ {F0 H0 F H : Hp} {v : V} {a : α}, Gr F0 H0 F H → r (pk m F H0 H) v a → r F v a
instance {α : Type} (r : Rp α) : Kp .sh r := ⟨fun _ h => h⟩
instance {α : Type} (m : Md) (r : Rp α) [Fl r] : Kp m r := ⟨fun _ h => Fl.fl h⟩
theorem en_list {α : Type} {r : Rp α} [Mo r] [Kp m1 r] {xs : List α} (hx : Ed F0 H0 ta G m1 (rLst r) xs) : En F0 H0 (tCB (rListQ K) (tCons ta tNil)) G r xs :=
  en_c1 hx fun v F H g0 hv Q q => by
    obtain ⟨p, vs, rfl, h1, h2, h3⟩ := hv
    exact ⟨p, vs, rfl, .inl (SqL.of (pk_now g0 _ _ h1)), fun l hl => q l vs F _ (Gr.wild g0.fh hl) hl (g0.fh.back hl) upd_same h2 (pmap (fun _ _ z => Kp.kp g0 z) h3)⟩
theorem en_listU {α : Type} {r : Rp α} [Mo r] [Kp m1 r] {xs : List α} (hx : Ed F0 H0 ta G m1 (rTup r) xs) : En F0 H0 (tCB (rListQ K) (tCons ta tNil)) G r xs :=
  en_c1 hx fun v F H g0 hv Q q => by
    obtain ⟨p, vs, rfl, h1, h2, h3⟩ := hv
    exact ⟨p, vs, rfl, .inr (SqT.of (pk_now g0 _ _ h1)), fun l hl => q l vs F _ (Gr.wild g0.fh hl) hl (g0.fh.back hl) upd_same h2 (pmap (fun _ _ z => Kp.kp g0 z) h3)⟩
theorem ed_tupL {α : Type} {r : Rp α} [Mo r] [Kp m1 r] {xs : List α} (hx : Ed F0 H0 ta G m1 (rLst r) xs) : Ed F0 H0 (tCB (rTupleQ K) (tCons ta tNil)) G .sh (rTup r) xs :=
  ed_c1 hx fun v F H g0 hv Q q => by
    obtain ⟨p, vs, rfl, h1, h2, h3⟩ := hv
    exact ⟨p, vs, rfl, .inl ⟨SqL.of (pk_now g0 _ _ h1), fun l hl => q _ _ _ (Gr.new g0.fh hl) ⟨l, vs, rfl, upd_same, h2, pmap (fun _ _ z => mox (Ex.new (g0.fh.back hl)) (Kp.kp (r := r) g0 z)) h3⟩⟩⟩
theorem en_catL {α : Type} {r : Rp α} [Mo r] [Kp m1 r] [Kp m2 r] {xs ys : List α} (hx : Ed F0 H0 ta G m1 (rLst r) xs) (hy : Ed F0 H0 tb G m2 (rLst r) ys) (hl : xs.length + ys.length ≤ 16777216) : En F0 H0 (tOp rCat ta tb) G r (xs ++ ys) :=
  en_bin hx hy fun v w F H g0 hv hw Q q => by
    obtain ⟨p, vs, rfl, h1, h2, h3⟩ := hv
    obtain ⟨p', vs', rfl, h1', h2', h3'⟩ := hw
    exact ⟨p, p', vs, vs', rfl, rfl, pk_now g0 _ _ h1, pk_now g0 _ _ h1', by rw [plen h3, plen h3']; exact sz_le hl, fun l hl' => q l _ F _ (Gr.wild g0.fh hl') hl' (g0.fh.back hl') upd_same (by rw [List.length_append]; exact hl) (papp (pmap (fun _ _ z => Kp.kp g0 z) h3) (pmap (fun _ _ z => Kp.kp g0 z) h3'))⟩
def Eo (F0 H0 : Hp) (t : TO) (G : List Slot) (o : Option Int) : Prop := ∀ σ F H, EnvOk F0 H0 G σ F H → ∀ Q : Option Int → Hp → Prop, (∀ F' H', Gr F H F' H' → Q o H') → t σ H Q
theorem eo_none : Eo F0 H0 tNoPart G none := fun σ F H E Q q => q F H (Gr.refl E.gr.fh)
theorem eo_some {i : Int} (h : Ed F0 H0 te G m rInt i) : Eo F0 H0 (tPart te) G (some i) := fun σ F H E Q q => h σ F H E _ fun v F' H' g hv => ⟨i, hv, q F' H' g⟩
theorem ed_sl {α γ : Type} {rx : Rp α} {rz : Rp γ} [Mo rx] {x : α} {z : γ} {lo hi : Option Int} {tl th : TO} {r : V → Option Int → Option Int → Hp → VK → Prop} (hx : Ed F0 H0 ta G m1 rx x) (hl : Eo F0 H0 tl G lo) (hh : Eo F0 H0 th G hi)
    (hr : ∀ v F H, Gr F0 H0 F H → rx (pk m1 F H0 H) v x → ∀ Q : VK, (∀ u F' H', Gr F H F' H' → rz (pk m F' H0 H') u z → Q u H') → r v lo hi H Q) : Ed F0 H0 (tSl r ta tl th) G m rz z := fun σ F H E Q q =>
  hx σ F H E _ fun v F1 H1 g1 h1 => hl σ F1 H1 (E.gro g1) _ fun F2 H2 g2 => hh σ F2 H2 ((E.gro g1).gro g2) _ fun F3 H3 g3 =>
    hr v F3 H3 (E.gr.trans ((g1.trans g2).trans g3)) (mox (pk_mono m1 (g2.trans g3)) h1) Q fun u F4 H4 g4 h4 => q u F4 H4 (((g1.trans g2).trans g3).trans g4) h4
theorem ed_slT {x : List Nat} {lo hi : Option Int} {tl th : TO} (hx : Ed F0 H0 ta G m1 rTx x) (hl : Eo F0 H0 tl G lo) (hh : Eo F0 H0 th G hi) : Ed F0 H0 (tSl rSlS ta tl th) G m rTx (cutL x lo hi) :=
  ed_sl hx hl hh fun v F H g0 hv Q q => ⟨_, hv.1, by rw [tx_len]; exact sz_le hv.2.1, q _ F H (Gr.refl g0.fh) ⟨by unfold cutS cutL; rw [tx_len], Nat.le_trans (cutL_le _ _ _) hv.2.1, fun c hc => hv.2.2 c (cutL_mem hc)⟩⟩
theorem en_slL {α : Type} {r : Rp α} [Mo r] [Kp m1 r] {xs : List α} {lo hi : Option Int} {tl th : TO} (hx : Ed F0 H0 ta G m1 (rLst r) xs) (hl : Eo F0 H0 tl G lo) (hh : Eo F0 H0 th G hi) : En F0 H0 (tSl (rSlL K) ta tl th) G r (cutL xs lo hi) := fun σ F H E Q q =>
  hx σ F H E _ fun v F1 H1 g1 h1 => hl σ F1 H1 (E.gro g1) _ fun F2 H2 g2 => hh σ F2 H2 ((E.gro g1).gro g2) _ fun F3 H3 g3 => by
    have g := (g1.trans g2).trans g3
    have g0 := E.gr.trans g
    obtain ⟨p, vs, rfl, e1, e2, e3⟩ := mox (r := rLst r) (pk_mono m1 (g2.trans g3)) h1
    exact ⟨p, vs, rfl, SqL.of (pk_now g0 _ _ e1), fun l hl' => q l _ F3 _ (g.trans (Gr.wild g.fh hl')) (g.hh.back hl') (g.fh.back hl') upd_same (Nat.le_trans (cutL_le _ _ _) e2) (pcut lo hi (pmap (fun _ _ z => Kp.kp g0 z) e3))⟩
/-- all, any of a list of bools -/
theorem pbl {F : Hp} : ∀ {vs : List V} {bs : List Bool}, Paired (rBl F) vs bs → vs = bs.map V.bl
  | _, _, .nil => rfl
  | _, _, .cons h t => by rw [List.map_cons, ← pbl t, show _ = _ from h]
theorem pints {F : Hp} : ∀ {vs : List V} {bs : List Int}, Paired (rInt F) vs bs → vs = bs.map V.int
  | _, _, .nil => rfl
  | _, _, .cons h t => by rw [List.map_cons, ← pints t, show _ = _ from h]
theorem ed_all {bs : List Bool} (hx : Ed F0 H0 ta G m1 (rLst rBl) bs) : Ed F0 H0 (tCB (rAll K) (tCons ta tNil)) G m rBl (bs.all id) :=
  ed_c1 hx fun v F H g0 hv Q q => by
    obtain ⟨p, vs, rfl, h1, h2, h3⟩ := hv
    exact ⟨p, bs, rfl, by rw [← pbl h3]; exact SqL.of (pk_now g0 _ _ h1), q _ F H (Gr.refl g0.fh) rfl⟩
theorem ed_any {bs : List Bool} (hx : Ed F0 H0 ta G m1 (rLst rBl) bs) : Ed F0 H0 (tCB (rAny K) (tCons ta tNil)) G m rBl (bs.any id) :=
  ed_c1 hx fun v F H g0 hv Q q => by
    obtain ⟨p, vs, rfl, h1, h2, h3⟩ := hv
    exact ⟨p, bs, rfl, by rw [← pbl h3]; exact SqL.of (pk_now g0 _ _ h1), q _ F H (Gr.refl g0.fh) rfl⟩
/-- int(n), int(flag), str of a digit, int of a digit -/
abbrev rInt1 : List V → Hp → VK → Prop := fun xs H Q => (∃ i, xs = [.int i] ∧ Q (.int i) H) ∨ ∃ k, xs = [.bl k] ∧ Q (.int (if k then 1 else 0)) H
theorem ed_intI {i : Int} (hx : Ed F0 H0 ta G m1 rInt i) : Ed F0 H0 (tCB rInt1 (tCons ta tNil)) G m rInt i := ed_c1 hx fun v F H g0 hv Q q => .inl ⟨i, by rw [show v = _ from hv], q _ F H (Gr.refl g0.fh) rfl⟩
theorem ed_intB {b : Bool} (hx : Ed F0 H0 ta G m1 rBl b) : Ed F0 H0 (tCB rInt1 (tCons ta tNil)) G m rInt (if b then 1 else 0) := ed_c1 hx fun v F H g0 hv Q q => .inr ⟨b, by rw [show v = _ from hv], q _ F H (Gr.refl g0.fh) rfl⟩
abbrev rStrI : List V → Hp → VK → Prop := fun xs H Q => ∃ i, xs = [.int i] ∧ i.natAbs.log2 < 1920 ∧ Q (.str (toString i)) H
theorem dig_str : ∀ n : Nat, n < 10 → (Str.ofString (toString (n : Int)) : Str) = ⟨([48 + n] : List Nat).toArray⟩ ∧ (n : Int).natAbs.log2 < 1920 := by decide +kernel
theorem ed_strI {i : Int} (hx : Ed F0 H0 ta G m1 rInt i) (h0 : 0 ≤ i) (h9 : i < 10) : Ed F0 H0 (tCB rStrI (tCons ta tNil)) G m rTx [48 + i.toNat] := ed_c1 hx fun v F H g0 hv Q q => by
  obtain ⟨e1, e2⟩ := dig_str i.toNat (by omega)
  have ei : ((i.toNat : Nat) : Int) = i := by omega
  rw [ei] at e1 e2
  exact ⟨i, by rw [show v = _ from hv], e2, q _ F H (Gr.refl g0.fh) ⟨congrArg V.str e1, by simp, fun c hc => by rw [List.mem_singleton.mp hc]; omega⟩⟩
abbrev rIntS : List V → Hp → VK → Prop := fun xs H Q => ∃ a n, xs = [.str a] ∧ PySem.intText? a = some n ∧ a.length ≤ 640 ∧ Q (.int n) H
theorem dig_int : ∀ n : Nat, n < 10 → PySem.intText? ⟨([48 + n] : List Nat).toArray⟩ = some (n : Int) := by decide +kernel
theorem ed_intS {c : Nat} (hx : Ed F0 H0 ta G m1 rTx [c]) (h0 : 48 ≤ c) (h9 : c < 58) : Ed F0 H0 (tCB rIntS (tCons ta tNil)) G m rInt ((c : Int) - 48) := ed_c1 hx fun v F H g0 hv Q q => by
  have e1 := dig_int (c - 48) (by omega)
  have ec : 48 + (c - 48) = c := by omega
  rw [ec] at e1
  exact ⟨⟨([c] : List Nat).toArray⟩, _, by rw [hv.1], e1, by rw [tx_len]; simp, q _ F H (Gr.refl g0.fh) (by show V.int _ = V.int _; congr 1; omega)⟩
end
end LK

set_option Elab.async false
set_option linter.all false
set_option maxRecDepth 100000
set_option maxHeartbeats 4000000
set_option autoImplicit false
/-! LK3: what is walked, targets, comprehensions, statements, loops, defs. -/
namespace LK
open PySem L2

/-! ### slots wiped -/
def wipeG (G : List Slot) : List Nat → List Slot
  | [] => G
  | v :: vs => (wipeG G vs).set v .no
theorem wipe_set_ne {σ : L2.St} {j : Nat} {x : Option V} : ∀ {vs : List Nat}, j ∉ vs → wipe (σ.set j x) vs = (wipe σ vs).set j x
  | [], _ => rfl
  | v :: vs, h => by
    have h1 : j ≠ v := fun e => h (by rw [e]; exact List.mem_cons_self)
    have h2 : j ∉ vs := fun m => h (List.mem_cons_of_mem _ m)
    show (wipe (σ.set j x) vs).set v none = ((wipe σ vs).set v none).set j x
    rw [wipe_set_ne h2, List.set_comm _ _ h1]
theorem wipe_set {σ : L2.St} {j : Nat} {x : Option V} : ∀ {vs : List Nat}, j ∈ vs → wipe (σ.set j x) vs = wipe σ vs
  | v :: vs, h => by
    show (wipe (σ.set j x) vs).set v none = (wipe σ vs).set v none
    by_cases h2 : j ∈ vs
    · rw [wipe_set h2]
    · have e : j = v := (List.mem_cons.mp h).resolve_right h2
      subst e
      rw [wipe_set_ne h2, List.set_set]
theorem wipe_wipe {σ : L2.St} {vs : List Nat} : ∀ {us : List Nat}, (∀ j ∈ us, j ∈ vs) → wipe (wipe σ us) vs = wipe σ vs
  | [], _ => rfl
  | u :: us, h => by
    show wipe ((wipe σ us).set u none) vs = wipe σ vs
    rw [wipe_set (h u List.mem_cons_self)]
    exact wipe_wipe fun j hj => h j (List.mem_cons_of_mem _ hj)
theorem EnvOk.wipeA {F0 H0 F H : Hp} {G : List Slot} {σ : L2.St} (E : EnvOk F0 H0 G σ F H) : ∀ vs, EnvOk F0 H0 (wipeG G vs) (L2.wipe σ vs) F H
  | [] => E
  | _ :: vs => (EnvOk.wipeA E vs).wipe

/-! ### other bases -/
/-- F1 may stand for F0 -/
def Bs (F0 H0 F1 : Hp) : Prop := Ex F0 F1 ∧ ∀ p o, F1 p = some o → F0 p = none → H0 p = none
theorem Bs.refl (F0 H0 : Hp) : Bs F0 H0 F0 := ⟨Ex.refl _, fun p o h1 h2 => by rw [h1] at h2; cases h2⟩
theorem Bs.trans {F0 H0 F1 F2 : Hp} (a : Bs F0 H0 F1) (b : Bs F1 H0 F2) : Bs F0 H0 F2 := ⟨a.1.trans b.1, fun p o h1 h2 => by
  cases e : F1 p with
  | none => exact b.2 p o h1 e
  | some u => exact a.2 p u e h2⟩
section
variable {F0 H0 F1 F H : Hp} {G : List Slot} {σ : L2.St}
theorem Gr.bs (g : Gr F0 H0 F H) : Bs F0 H0 F := ⟨g.ff, g.nw⟩
theorem Gr.down (b : Bs F0 H0 F1) (g : Gr F1 H0 F H) : Gr F0 H0 F H := ⟨b.1.trans g.ff, g.fh, g.hh, fun p o h1 h2 => (b.trans g.bs).2 p o h1 h2⟩
theorem EnvOk.down (b : Bs F0 H0 F1) (E : EnvOk F1 H0 G σ F H) : EnvOk F0 H0 G σ F H := let ⟨fp, e⟩ := E; ⟨fp, e.gr.down b, e.len, e.at_, e.dj⟩
/-- from here on -/
theorem EnvOk.here (E : EnvOk F0 H0 G σ F H) : EnvOk F H0 G σ F H := let ⟨fp, e⟩ := E; ⟨fp, ⟨Ex.refl F, e.gr.fh, e.gr.hh, fun p o h1 h2 => by rw [h1] at h2; cases h2⟩, e.len, e.at_, e.dj⟩
end

/-! ### what is walked -/
structure WalkOk {α : Type} (J : It) (F1 H0 : Hp) (m : Md) (r : Rp α) (xs : List α) : Prop where
  go : ∀ i F H, Ex F1 F → Ex F H → Ex H0 H → i < xs.length → J.go i H
  stop : ∀ F H, Ex F1 F → Ex F H → Ex H0 H → J.stop xs.length H
  yld : ∀ i F H v H', Ex F1 F → Ex F H → Ex H0 H → i < xs.length → J.yld i H v H' → ∃ x F', xs[i]? = some x ∧ Gr F H F' H' ∧ r (pk m F' H0 H') v x
section
variable (F0 H0 : Hp)
def Ei {α : Type} (wi : TI) (G : List Slot) (m : Md) (r : Rp α) (xs : List α) : Prop := ∀ σ F H, EnvOk F0 H0 G σ F H → ∀ R : It → Hp → Prop, (∀ J F1 H1, Gr F H F1 H1 → WalkOk J F1 H0 m r xs → xs.length ≤ 16777216 → R J H1) → wi σ H R
/-- a target: what it stores; tg its slots -/
def Eg {α : Type} (g : TG) (m : Md) (r : Rp α) (up : α → List Slot → List Slot) (tg : List Nat) : Prop := ∀ F0 G σ F H v x, EnvOk F0 H0 G σ F H → r (pk m F H0 H) v x → ∀ Q : L2.St → Hp → Prop,
  (∀ σ', EnvOk F0 H0 (up x G) σ' F H → (∀ vs, (∀ j ∈ tg, j ∈ vs) → wipe σ' vs = wipe σ vs) → Q σ' H) → g v σ H Q
end
/-- an element's slot: frozen, or of the entry -/
class Md.Ok (m : Md) : Prop where
  ok : m ≠ .bo
instance : Md.Ok .sh := ⟨fun h => nomatch h⟩
instance : Md.Ok .b0 := ⟨fun h => nomatch h⟩
theorem pslot_ok {α : Type} {m : Md} [h : Md.Ok m] {r : Rp α} {im : Mo r} {F H0 H : Hp} {v : V} {x : α} (hr : r (pk m F H0 H) v x) : SlotOk H0 F H (some v) [] (pslot m r im x) := by
  cases m with
  | sh => exact ⟨v, rfl, hr⟩
  | b0 => exact ⟨v, rfl, hr⟩
  | bo => exact absurd rfl h.ok
theorem pslot_no {α : Type} {m : Md} {r : Rp α} {im : Mo r} {x : α} : ∀ M iM, pslot m r im x ≠ .ow M iM := by
  intro M iM; cases m <;> exact fun h => nomatch h
section
variable {F0 H0 : Hp} {G : List Slot} {m m1 m2 : Md} {ta tb tc te tl : TE} {t u tt : TT} {K : PySem.W.Frag} {wi : TI} {g : TG}
theorem eg_name {α : Type} {r : Rp α} [im : Mo r] [Md.Ok m] {j : Nat} : Eg H0 (gName j) m r (fun x G => G.set j (pslot m r im x)) [j] := fun F0 G σ F H v x E h Q q =>
  q _ (E.set (pslot_ok h) pslot_no) fun vs hv => wipe_set (hv j List.mem_cons_self)
theorem eg_pr {α β : Type} {r : Rp α} {s : Rp β} [im : Mo r] [is : Mo s] [Md.Ok m] {i j : Nat} : Eg H0 (gTup K 2 (gCons (gName i) (gCons (gName j) gNil))) m (rPr r s) (fun x G => (G.set i (pslot m r im x.1)).set j (pslot m s is x.2)) [i, j] := fun F0 G σ F H v x E h Q q => by
  obtain ⟨p, a, b, rfl, h1, h2, h3⟩ := h
  refine ⟨p, _, rfl, SqT.of (pk_now E.gr _ _ h1), rfl, a, [b], rfl, b, [], rfl, rfl, ?_⟩
  exact q _ ((E.set (pslot_ok h2) pslot_no).set (pslot_ok h3) pslot_no) fun vs hv => by
    rw [wipe_set (hv j (by simp)), wipe_set (hv i (by simp))]
theorem eg_p3 {α β γ : Type} {r : Rp α} {s : Rp β} {t : Rp γ} [im : Mo r] [is : Mo s] [it : Mo t] [Md.Ok m] {i j k : Nat} : Eg H0 (gTup K 3 (gCons (gName i) (gCons (gName j) (gCons (gName k) gNil)))) m (rP3 r s t) (fun x G => ((G.set i (pslot m r im x.1)).set j (pslot m s is x.2.1)).set k (pslot m t it x.2.2)) [i, j, k] := fun F0 G σ F H v x E h Q q => by
  obtain ⟨p, a, b, c, rfl, h1, h2, h3, h4⟩ := h
  refine ⟨p, _, rfl, SqT.of (pk_now E.gr _ _ h1), rfl, a, [b, c], rfl, b, [c], rfl, c, [], rfl, rfl, ?_⟩
  exact q _ (((E.set (pslot_ok h2) pslot_no).set (pslot_ok h3) pslot_no).set (pslot_ok h4) pslot_no) fun vs hv => by
    rw [wipe_set (hv k (by simp)), wipe_set (hv j (by simp)), wipe_set (hv i (by simp))]

theorem pick_ok {α : Type} {r : Rp α} {R : Hp} {vs : List V} {xs : List α} {i : Nat} {v : V} (p : Paired (r R) vs xs) (h : vs[i]? = some v) : ∃ x, xs[i]? = some x ∧ r R v x := pgetL p h
theorem pk_keep (m : Md) {F1 F H0 H1 H : Hp} [h : Md.Ok m] (e1 : Ex F1 F) : Ex (pk m F1 H0 H1) (pk m F H0 H) := by
  cases m with
  | sh => exact e1
  | b0 => exact Ex.refl _
  | bo => exact absurd rfl h.ok
theorem pk_in (m : Md) {F H0 H : Hp} (e1 : Ex F H) (e2 : Ex H0 H) : Ex (pk m F H0 H) H := by
  cases m with
  | sh => exact e1
  | b0 => exact e2
  | bo => exact Ex.refl _
theorem ei_list {α : Type} {r : Rp α} [Mo r] [Md.Ok m] {xs : List α} (h : Ed F0 H0 tl G m (rLst r) xs) : Ei F0 H0 (iList K tl) G m r xs := fun σ F H E R q =>
  h σ F H E _ fun v F1 H1 g1 hv => by
    obtain ⟨p, vs, rfl, h1, h2, h3⟩ := hv
    have hl := plen h3
    have sq : ∀ F H, Ex F1 F → Ex F H → Ex H0 H → SqL K H p vs := fun F H e1 e2 e3 => SqL.of (pk_in m e2 e3 _ _ (pk_keep m (H1 := H1) e1 _ _ h1))
    refine ⟨p, rfl, ⟨vs, SqL.of (pk_now (E.gr.trans g1) _ _ h1)⟩, q _ F1 H1 g1 ⟨fun i F H e1 e2 e3 hi => ⟨vs, vs[i]'(by omega), sq F H e1 e2 e3, by simp [show i < vs.length by omega]⟩,
      fun F H e1 e2 e3 => ⟨vs, sq F H e1 e2 e3, by omega⟩, fun i F H v H' e1 e2 e3 hi y => ?_⟩ h2⟩
    obtain ⟨rfl, y⟩ := y
    obtain ⟨x, hx, rx⟩ := pick_ok h3 (y vs (sq F _ e1 e2 e3))
    exact ⟨x, F, hx, Gr.refl e2, mox (pk_keep m e1) rx⟩
theorem ei_tup {α : Type} {r : Rp α} [Mo r] [Md.Ok m] {xs : List α} (h : Ed F0 H0 tl G m (rTup r) xs) : Ei F0 H0 (iTup K tl) G m r xs := fun σ F H E R q =>
  h σ F H E _ fun v F1 H1 g1 hv => by
    obtain ⟨p, vs, rfl, h1, h2, h3⟩ := hv
    have hl := plen h3
    have sq : ∀ F H, Ex F1 F → Ex F H → Ex H0 H → SqT K H p vs := fun F H e1 e2 e3 => SqT.of (pk_in m e2 e3 _ _ (pk_keep m (H1 := H1) e1 _ _ h1))
    refine ⟨p, rfl, ⟨vs, SqT.of (pk_now (E.gr.trans g1) _ _ h1)⟩, q _ F1 H1 g1 ⟨fun i F H e1 e2 e3 hi => ⟨vs, vs[i]'(by omega), sq F H e1 e2 e3, by simp [show i < vs.length by omega]⟩,
      fun F H e1 e2 e3 => ⟨vs, sq F H e1 e2 e3, by omega⟩, fun i F H v H' e1 e2 e3 hi y => ?_⟩ h2⟩
    obtain ⟨rfl, y⟩ := y
    obtain ⟨x, hx, rx⟩ := pick_ok h3 (y vs (sq F _ e1 e2 e3))
    exact ⟨x, F, hx, Gr.refl e2, mox (pk_keep m e1) rx⟩
/-- range(n), range(a, b) as lists -/
def rng2 (a b : Int) : List Int := (List.range (b - a).toNat).map fun (k : Nat) => a + (k : Int)
def rng (n : Int) : List Int := rng2 0 n
theorem rng2_len (a b : Int) : (rng2 a b).length = (b - a).toNat := by unfold rng2; simp
theorem rng2_get {a b : Int} {i : Nat} (h : i < (b - a).toNat) : (rng2 a b)[i]? = some (a + (i : Int)) := by unfold rng2; simp [h]
theorem mem_rng2 {a b x : Int} (h : x ∈ rng2 a b) : a ≤ x ∧ x < b := by
  unfold rng2 at h
  obtain ⟨k, hk, rfl⟩ := List.mem_map.mp h
  have := List.mem_range.mp hk
  omega
theorem mem_rng {n x : Int} (h : x ∈ rng n) : 0 ≤ x ∧ x < n := mem_rng2 h
theorem ei_rng1 {n : Int} (h : Ed F0 H0 te G m1 rInt n) (hn : n ≤ 16777216) (hn0 : -16777216 ≤ n) : Ei F0 H0 (iRng1 (tCons te tNil)) G .sh rInt (rng n) := fun σ F H E R q =>
  h σ F H E _ fun v F1 H1 g1 hv => ⟨n, by rw [show v = _ from hv], by omega, by omega, q _ F1 H1 g1 ⟨fun i F H e1 e2 e3 hi => by
      unfold rng at hi; rw [rng2_len] at hi; show i < n.toNat; rw [Int.sub_zero] at hi; exact hi, fun F H e1 e2 e3 => by
      unfold rng; rw [rng2_len]; show n.toNat ≤ _; rw [Int.sub_zero]; exact Nat.le_refl _, fun i F H v H' e1 e2 e3 hi y => by
      obtain ⟨rfl, y⟩ := y
      unfold rng at hi ⊢; rw [rng2_len] at hi
      exact ⟨_, F, rng2_get hi, Gr.refl e2, y⟩⟩ (by unfold rng; rw [rng2_len]; omega)⟩
theorem ei_rng2 {a n : Int} (h : Ed F0 H0 ta G m1 rInt a) (h' : Ed F0 H0 te G m2 rInt n) (hn : n ≤ 16777216) (hn0 : -16777216 ≤ n) (ha : 0 ≤ a ∧ a ≤ 16777216) : Ei F0 H0 (iRng2 (tCons ta (tCons te tNil))) G .sh rInt (rng2 a n) := fun σ F H E R q =>
  h σ F H E _ fun v F1 H1 g1 hv => h' σ F1 H1 (E.gro g1) _ fun w F2 H2 g2 hw => ⟨a, n, by rw [show v = _ from hv, show w = _ from hw], ⟨by omega, by omega, by omega, by omega⟩, q _ F2 H2 (g1.trans g2) ⟨fun i F H e1 e2 e3 hi => by
      rw [rng2_len] at hi; exact hi, fun F H e1 e2 e3 => by
      rw [rng2_len]; exact Nat.le_refl _, fun i F H v H' e1 e2 e3 hi y => by
      obtain ⟨rfl, y⟩ := y
      rw [rng2_len] at hi
      exact ⟨_, F, rng2_get hi, Gr.refl e2, y⟩⟩ (by rw [rng2_len]; omega)⟩
/-- a text, sign by sign -/
def rCh : Rp Nat := fun _ v c => v = .str ⟨#[c]⟩
instance : Fl rCh := ⟨fun h => h⟩
theorem ei_str {x : List Nat} (h : Ed F0 H0 te G m1 rTx x) : Ei F0 H0 (iStr te) G .sh rTx (x.map fun c => [c]) := fun σ F H E R q =>
  h σ F H E _ fun v F1 H1 g1 hv => ⟨_, hv.1, q _ F1 H1 g1 ⟨fun i F H e1 e2 e3 hi => by
      rw [List.length_map] at hi; show i < x.toArray.size; simpa using hi, fun F H e1 e2 e3 => by
      rw [List.length_map]; show x.toArray.size ≤ _; simp, fun i F H v H' e1 e2 e3 hi y => by
      obtain ⟨rfl, c, hc, y⟩ := y
      have hc : x[i]? = some c := by simpa using hc
      exact ⟨[c], F, by rw [List.getElem?_map, hc]; rfl, Gr.refl e2, y, by simp, fun d hd => by rw [List.mem_singleton.mp hd]; exact hv.2.2 c (List.mem_of_getElem? hc)⟩⟩ (by rw [List.length_map]; exact hv.2.1)⟩
/-- enumerate(list) -/
def enumL {α : Type} (xs : List α) : List (Int × α) := (rng (xs.length : Int)).zip xs
theorem enumL_len {α : Type} (xs : List α) : (enumL xs).length = xs.length := by unfold enumL rng; rw [List.length_zip, rng2_len]; omega
theorem enumL_get {α : Type} {xs : List α} {i : Nat} {x : α} (h : xs[i]? = some x) : (enumL xs)[i]? = some ((i : Int), x) := by
  have hi : i < xs.length := (List.getElem?_eq_some_iff.mp h).1
  unfold enumL rng
  rw [List.getElem?_zip_eq_some]
  exact ⟨by rw [rng2_get (by omega)]; simp, h⟩
theorem ei_enum {α : Type} {r : Rp α} [Mo r] {xs : List α} (h : Ed F0 H0 tl G .sh (rLst r) xs) : Ei F0 H0 (iEnum K (tCons tl tNil)) G .sh (rPr rInt r) (enumL xs) := fun σ F H E R q =>
  h σ F H E _ fun v F1 H1 g1 hv => by
    obtain ⟨p, vs, rfl, h1, h2, h3⟩ := hv
    have hl := plen h3
    have sq : ∀ F H, Ex F1 F → Ex F H → Ex H0 H → SqL K H p vs := fun F H e1 e2 e3 => SqL.of (e2 _ _ (e1 _ _ h1))
    refine ⟨p, vs, rfl, SqL.of (g1.fh _ _ h1), q _ F1 H1 g1 ⟨fun i F H e1 e2 e3 hi => ⟨vs, vs[i]'(by rw [enumL_len] at hi; omega), sq F H e1 e2 e3, by rw [enumL_len] at hi; simp [show i < vs.length by omega]⟩,
      fun F H e1 e2 e3 => ⟨vs, sq F H e1 e2 e3, by rw [enumL_len]; omega⟩, fun i F H v H' e1 e2 e3 hi y => ?_⟩ (by rw [enumL_len]; exact h2)⟩
    obtain ⟨T, z, rfl, hT, rfl, y⟩ := y
    obtain ⟨x, hx, rx⟩ := pick_ok h3 (y vs (sq F _ e1 e2 e3))
    exact ⟨_, _, enumL_get hx, Gr.new e2 hT, T, _, _, rfl, upd_same, rfl, mox (e1.trans (Ex.new (e2.back hT))) rx⟩

/-! ### comprehensions -/
theorem en_lc {α β : Type} {r : Rp α} {r' : Rp β} [Mo r'] {xs : List α} {up : α → List Slot → List Slot} {tg vs : List Nat} (p : α → Bool) (f : α → β) (hi : Ei F0 H0 wi G m r xs) (hg : Eg H0 g m r up tg) (hv : ∀ j ∈ tg, j ∈ vs)
    (ht : ∀ F1, Bs F0 H0 F1 → ∀ x ∈ xs, Et F1 H0 tt (up x (wipeG G vs)) (p x)) (he : ∀ F1, Bs F0 H0 F1 → ∀ x ∈ xs, p x = true → Ed F1 H0 te (up x (wipeG G vs)) .sh r' (f x)) :
    En F0 H0 (tLc wi g tt te vs) G r' ((xs.filter p).map f) := fun σ F H E Q q => hi σ F H E _ fun J F1 H1 g1 w hxl D hD => by
  have E1 := (E.gro g1).here
  have b1 : Bs F0 H0 F1 := (E.gr.trans g1).bs
  have nF1 : F1 D = none := g1.fh.back hD
  -- the state behind i turns
  let Pv : Nat → Hp → Prop := fun i H' => ∃ F' Hm ws, EnvOk F1 H0 (wipeG G vs) (wipe σ vs) F' Hm ∧ Gr F1 H1 F' Hm ∧ Hm D = none ∧ H' = upd Hm D (.lst ws) ∧ Paired (r' F') ws (((xs.take i).filter p).map f)
  have take_s : ∀ i x, xs[i]? = some x → xs.take (i + 1) = xs.take i ++ [x] := fun i x hx => by
    rw [List.take_add_one, hx]; rfl
  refine ⟨fun i k H' => k = xs.length - i ∧ i ≤ xs.length ∧ Pv i H', ⟨xs.length, by simp, Nat.zero_le _, F1, H1, [], E1.wipeA vs, Gr.refl g1.fh, hD, rfl, by simp; exact .nil⟩, ?_⟩
  rintro i k H' ⟨rfl, hi', F', Hm, ws, E2, g2, nD, rfl, pw⟩
  have gw := Gr.wild (p := D) (o := .lst ws) g2.fh nD
  have E3 := E2.gro gw
  have nF' : F' D = none := g2.fh.back nD
  have eH0 : Ex H0 (upd Hm D (.lst ws)) := E3.gr.hh
  by_cases hlt : i < xs.length
  · refine .inr ⟨w.go i F' _ g2.ff E3.gr.fh eH0 hlt, Pv (i + 1), fun H'' p' => ⟨xs.length - (i + 1), by omega, rfl, hlt, p'⟩, fun v H'' y => ?_⟩
    obtain ⟨x, F3, hx, g3, rx⟩ := w.yld i F' _ v H'' g2.ff E3.gr.fh eH0 hlt y
    have hmem : x ∈ xs := List.mem_of_getElem? hx
    refine hg F1 _ _ F3 H'' v x (E3.gro g3) rx _ fun σ2 E4 hw2 => ⟨?_, ?_⟩
    · rw [hw2 vs hv, wipe_wipe fun _ z => z]
    refine ht F1 b1 x hmem σ2 F3 H'' E4 _ fun F4 H4 g4 => ?_
    -- what stands but for the new list
    have slim : ∀ {Fx Hx : Hp}, Gr F' (upd Hm D (.lst ws)) Fx Hx → EnvOk F1 H0 (wipeG G vs) (wipe σ vs) Fx (fun a => if a = D then none else Hx a) ∧ Gr F1 H1 Fx (fun a => if a = D then none else Hx a) ∧ Fx D = none := fun {Fx Hx} gx => by
      have nx : Fx D = none := by
        cases e : Fx D with
        | none => rfl
        | some o => have z := gx.nw D o e nF'; rw [upd_same] at z; cases z
      have gs : Gr F' Hm Fx (fun a => if a = D then none else Hx a) := ⟨gx.ff, fun a o e => by
          have ha : a ≠ D := fun z => by rw [z, nx] at e; cases e
          show (if a = D then none else Hx a) = some o
          rw [if_neg ha]; exact gx.fh a o e, fun a o e => by
          have ha : a ≠ D := fun z => by rw [z, nD] at e; cases e
          show (if a = D then none else Hx a) = some o
          rw [if_neg ha]; exact gx.hh a o (by rw [upd_ne ha]; exact e), fun a o e n => by
          have ha : a ≠ D := fun z => by rw [z, nx] at e; cases e
          have z := gx.nw a o e n
          rw [upd_ne ha] at z; exact z⟩
      exact ⟨E2.gro gs, g2.trans gs, nx⟩
    have back : ∀ {Hx : Hp} {o : HO}, Hx D = some o → Hx = upd (fun a => if a = D then none else Hx a) D o := fun {Hx o} e => by
      funext a
      unfold upd
      by_cases ha : a = D
      · rw [if_pos ha, ha]; exact e
      · rw [if_neg ha]
        show Hx a = if a = D then none else Hx a
        rw [if_neg ha]
    have gx := g3.trans g4
    have hD4 : H4 D = some (.lst ws) := gx.hh D _ upd_same
    cases hp : p x with
    | false =>
      obtain ⟨z1, z2, z3⟩ := slim gx
      refine ⟨F4, _, ws, z1, z2, by simp, back hD4, ?_⟩
      rw [take_s i x hx, List.filter_append, List.filter_cons, if_neg (by rw [hp]; decide)]
      simpa using pmap (fun _ _ z => mox gx.ff z) pw
    | true =>
      refine he F1 b1 x hmem hp σ2 F4 H4 (E4.gro g4) _ fun y5 F5 H5 g5 hy => ?_
      have gy := gx.trans g5
      obtain ⟨z1, z2, z3⟩ := slim gy
      have hD5 : H5 D = some (.lst ws) := gy.hh D _ upd_same
      have hl : ws.length < 16777216 := by
        rw [plen pw, List.length_map]
        have := List.length_filter_le p (xs.take i)
        rw [List.length_take] at this
        omega
      refine ⟨ws, hD5, L2LT hl, F5, _, ws ++ [y5], z1, z2, by simp, ?_, ?_⟩
      · funext a
        unfold upd
        by_cases ha : a = D
        · rw [if_pos ha, if_pos ha]
        · rw [if_neg ha, if_neg ha]
          show H5 a = if a = D then none else H5 a
          rw [if_neg ha]
      · rw [take_s i x hx, List.filter_append, List.filter_cons, if_pos hp, List.map_append]
        exact papp (pmap (fun _ _ z => mox gy.ff z) pw) (.cons hy .nil)
  · have e : i = xs.length := by omega
    subst e
    rw [List.take_length] at pw
    refine .inl ⟨w.stop F' _ g2.ff E3.gr.fh eH0, q D ws F' _ (g1.trans (g2.trans gw)) (g1.hh.back hD) nF' upd_same ?_ pw⟩
    rw [List.length_map]
    exact Nat.le_trans (List.length_filter_le _ _) hxl
where L2LT {n : Nat} (h : n < 16777216) : n < sizeLine := sz_lt h
theorem et_yes : Et F0 H0 tYes G true := fun σ F H E Q q => q F H (Gr.refl E.gr.fh)
theorem en_lc0 {α β : Type} {r : Rp α} {r' : Rp β} [Mo r'] {xs : List α} {up : α → List Slot → List Slot} {tg vs : List Nat} (f : α → β) (hi : Ei F0 H0 wi G m r xs) (hg : Eg H0 g m r up tg) (hv : ∀ j ∈ tg, j ∈ vs)
    (he : ∀ F1, Bs F0 H0 F1 → ∀ x ∈ xs, Ed F1 H0 te (up x (wipeG G vs)) .sh r' (f x)) : En F0 H0 (tLc wi g tYes te vs) G r' (xs.map f) := by
  have h := en_lc (fun _ => true) f hi hg hv (fun _ _ _ _ => et_yes) (fun F1 b x hx _ => he F1 b x hx)
  have e : xs.filter (fun _ => true) = xs := List.filter_eq_self.mpr fun _ _ => rfl
  rw [e] at h
  exact h
end
end LK

set_option Elab.async false
set_option linter.all false
set_option maxRecDepth 100000
set_option maxHeartbeats 4000000
set_option autoImplicit false
/-! LK4: statements, loops, defs. -/
namespace LK
open PySem L2 PyProof.Rows PySem.Spec
section
variable {F0 H0 : Hp} {G : List Slot} {m m1 m2 : Md} {ta tb tc te tl : TE} {tt : TT} {t u : TS} {K : PySem.W.Frag} {wi : TI} {g : TG} {nx : L2.St → Hp → Prop} {rt : VK} {bk ct : L2.St → Hp → Prop}
theorem gk_seq (h : Gk F0 H0 (t ⟨u ⟨nx, rt, bk, ct⟩, rt, bk, ct⟩) G) : Gk F0 H0 (tSeq t u ⟨nx, rt, bk, ct⟩) G := h
theorem gk_set {α : Type} {r : Rp α} [im : Mo r] {a : α} {i : Nat} (h : Ed F0 H0 te G .sh r a) (k : Gk F0 H0 nx (G.set i (.fz r im a))) : Gk F0 H0 (tAsg te (gName i) ⟨nx, rt, bk, ct⟩) G := fun σ F H E =>
  h σ F H E _ fun v F1 H1 g1 hv => k _ F1 H1 ((E.gro g1).set ⟨v, rfl, hv⟩ fun _ _ z => nomatch z)
theorem gk_setB {α : Type} {r : Rp α} [im : Mo r] {a : α} {i : Nat} (h : Ed F0 H0 te G .b0 r a) (k : Gk F0 H0 nx (G.set i (.bw r im a))) : Gk F0 H0 (tAsg te (gName i) ⟨nx, rt, bk, ct⟩) G := fun σ F H E =>
  h σ F H E _ fun v F1 H1 g1 hv => k _ F1 H1 ((E.gro g1).set ⟨v, rfl, hv⟩ fun _ _ z => nomatch z)
/-- a new list, to be changed -/
theorem gk_setN {α : Type} {r : Rp α} [im : Mo r] {xs : List α} {i : Nat} (h : En F0 H0 te G r xs) (k : Gk F0 H0 nx (G.set i (sL r xs))) : Gk F0 H0 (tAsg te (gName i) ⟨nx, rt, bk, ct⟩) G := fun σ F H E =>
  h σ F H E _ fun p vs F1 H1 g1 h1 h2 h3 h4 h5 => k _ F1 H1 (E.setO (S := [p]) g1 (fun a ha => by rw [List.mem_singleton.mp ha]; exact ⟨h1, h2⟩) ⟨rfl, vs, h3, h4, h5⟩)
/-- from now on it stays as it is -/
theorem gk_freeze {α : Type} {r : Rp α} [im : Mo r] {xs : List α} {iM : MoM (mL r xs)} {k : L2.St → Hp → Prop} (i : Nat) (hi : G[i]? = some (.ow (mL r xs) iM)) (h : Gk F0 H0 k (G.set i (sF (rLst r) xs))) : Gk F0 H0 k G := fun σ F H E => by
  obtain ⟨F', E', _⟩ := E.freeze (s := sF (rLst r) xs) hi (fun p S F' ⟨hS, vs, e, h1, h2⟩ hp ee _ => ⟨.ref p, rfl, p, vs, rfl, by rw [hp p (by rw [hS]; simp), e], h1, pmap (fun _ _ z => mox ee z) h2⟩) (fun _ _ z => nomatch z)
  exact h σ F' H E'
/-- a name forgotten -/
theorem gk_drop {k : L2.St → Hp → Prop} (i : Nat) (h : Gk F0 H0 k (G.set i .no)) : Gk F0 H0 k G := fun σ F H E => h σ F H E.drop
theorem gk_cast {G' : List Slot} {k : L2.St → Hp → Prop} (e : G = G') (h : Gk F0 H0 k G') : Gk F0 H0 k G := e ▸ h

/-! ### what is wanted at the end -/
def Rt {α : Type} (F0 H0 : Hp) (rt : VK) (r : Rp α) (a : α) : Prop := ∀ v F H, Gr F0 H0 F H → r F v a → rt v H
/-- a new list is handed back -/
def RtN {α : Type} (F0 H0 : Hp) (rt : VK) (r : Rp α) (xs : List α) : Prop := ∀ p vs F H, Gr F0 H0 F H → H0 p = none → F p = none → H p = some (.lst vs) → xs.length ≤ 16777216 → Paired (r F) vs xs → rt (.ref p) H
/-- nothing is handed back at the body's end -/
def RtU (F0 H0 : Hp) (rt : VK) : Prop := ∀ F H, Gr F0 H0 F H → rt .non H
theorem Rt.up {α : Type} {r : Rp α} {a : α} {F1 : Hp} (h : Rt F0 H0 rt r a) (b : Bs F0 H0 F1) : Rt F1 H0 rt r a := fun v F H g => h v F H (g.down b)
theorem RtN.up {α : Type} {r : Rp α} {a : List α} {F1 : Hp} (h : RtN F0 H0 rt r a) (b : Bs F0 H0 F1) : RtN F1 H0 rt r a := fun p vs F H g => h p vs F H (g.down b)
theorem RtU.up {F1 : Hp} (h : RtU F0 H0 rt) (b : Bs F0 H0 F1) : RtU F1 H0 rt := fun F H g => h F H (g.down b)
theorem RtN.ofRt {α : Type} {r : Rp α} [Mo r] {xs : List α} (h : Rt F0 H0 rt (rLst r) xs) : RtN F0 H0 rt r xs := fun p vs F H g h1 h2 h3 h4 h5 =>
  h _ (upd F p (.lst vs)) H ⟨g.ff.trans (Ex.new h2), fun a o e => by
      by_cases ha : a = p
      · subst ha; rw [upd_same] at e; cases e; exact h3
      · rw [upd_ne ha] at e; exact g.fh a o e, g.hh, fun a o e n => by
      by_cases ha : a = p
      · subst ha; exact h1
      · rw [upd_ne ha] at e; exact g.nw a o e n⟩ ⟨p, vs, rfl, upd_same, h4, pmap (fun _ _ z => mox (Ex.new h2) z) h5⟩
theorem gk_ret {α : Type} {r : Rp α} {a b : α} (hq : Rt F0 H0 rt r b) (h : Ed F0 H0 te G .sh r a) (e : a = b) : Gk F0 H0 (tRet te ⟨nx, rt, bk, ct⟩) G := fun σ F H E =>
  h σ F H E _ fun v F1 H1 g1 hv => hq v F1 H1 (E.gr.trans g1) (e ▸ hv)
theorem gk_retN {α : Type} {r : Rp α} {a b : List α} (hq : RtN F0 H0 rt r b) (h : En F0 H0 te G r a) (e : a = b) : Gk F0 H0 (tRet te ⟨nx, rt, bk, ct⟩) G := fun σ F H E =>
  h σ F H E _ fun p vs F1 H1 g1 h1 h2 h3 h4 h5 => hq p vs F1 H1 (E.gr.trans g1) (E.gr.hh.back h1) h2 h3 (e ▸ h4) (e ▸ h5)
theorem gk_retO {α : Type} {r : Rp α} {xs b : List α} {iM : MoM (mL r xs)} {i : Nat} (hq : RtN F0 H0 rt r b) (hi : G[i]? = some (.ow (mL r xs) iM)) (e : xs = b) : Gk F0 H0 (tRet (tVar i) ⟨nx, rt, bk, ct⟩) G := fun σ F H E => by
  obtain ⟨p, vs, hx, h1, h2, h3, h4, h5⟩ := E.lst_at hi
  subst e
  exact ⟨_, hx, hq p vs F H E.gr h2 h1 h3 h4 h5⟩
theorem gk_retU (hq : RtU F0 H0 rt) : Gk F0 H0 (tRetN ⟨nx, rt, bk, ct⟩) G := fun σ F H E => hq F H E.gr
/-- the body's end -/
theorem gk_end {k : L2.St → Hp → Prop} (hq : ∀ σ F H, EnvOk F0 H0 G σ F H → k σ H) : Gk F0 H0 k G := hq
theorem gk_next (h : Gk F0 H0 nx G) : Gk F0 H0 (tNext ⟨nx, rt, bk, ct⟩) G := h
theorem gk_meet {G' : List Slot} (e : G = G') : Gk F0 H0 (EnvK F0 H0 G') G := fun σ F H E => ⟨F, e ▸ E⟩

/-! ### if -/
theorem gk_if {b : Bool} (h : Et F0 H0 tt G b) (h1 : b = true → Gk F0 H0 (t ⟨nx, rt, bk, ct⟩) G) (h2 : b = false → Gk F0 H0 (u ⟨nx, rt, bk, ct⟩) G) : Gk F0 H0 (tIfS tt t u ⟨nx, rt, bk, ct⟩) G := fun σ F H E =>
  h σ F H E _ fun F1 H1 g1 => by
    cases b with
    | true => exact h1 rfl σ F1 H1 (E.gro g1)
    | false => exact h2 rfl σ F1 H1 (E.gro g1)
/-- the ways meet again -/
theorem gk_ifj {b : Bool} (G' : List Slot) (h : Et F0 H0 tt G b) (h1 : b = true → Gk F0 H0 (t ⟨EnvK F0 H0 G', rt, bk, ct⟩) G) (h2 : b = false → Gk F0 H0 (u ⟨EnvK F0 H0 G', rt, bk, ct⟩) G)
    (mt : ∀ {k k' : L2.St → Hp → Prop} σ H, (∀ σ H, k σ H → k' σ H) → t ⟨k, rt, bk, ct⟩ σ H → t ⟨k', rt, bk, ct⟩ σ H) (mu : ∀ {k k' : L2.St → Hp → Prop} σ H, (∀ σ H, k σ H → k' σ H) → u ⟨k, rt, bk, ct⟩ σ H → u ⟨k', rt, bk, ct⟩ σ H)
    (k : Gk F0 H0 nx G') : Gk F0 H0 (tIfS tt t u ⟨nx, rt, bk, ct⟩) G := fun σ F H E =>
  h σ F H E _ fun F1 H1 g1 => by
    have kk : ∀ σ H, EnvK F0 H0 G' σ H → nx σ H := fun σ H ⟨F, e⟩ => k σ F H e
    cases b with
    | true => exact mt (k' := nx) σ H1 kk (h1 rfl σ F1 H1 (E.gro g1))
    | false => exact mu (k' := nx) σ H1 kk (h2 rfl σ F1 H1 (E.gro g1))

/-! ### an own list changes -/
theorem gk_app {α : Type} {r : Rp α} [im : Mo r] {xs : List α} {iM : MoM (mL r xs)} {a : α} {i : Nat} (hi : G[i]? = some (.ow (mL r xs) iM)) (h : Ed F0 H0 te G .sh r a) (hl : xs.length < 16777216) (k : Gk F0 H0 nx (G.set i (sL r (xs ++ [a])))) :
    Gk F0 H0 (tDrop (tBM K "list" rAppend (tVar i) (tCons te tNil)) ⟨nx, rt, bk, ct⟩) G := fun σ F H E => by
  obtain ⟨p, vs, hx, h1, h2, h3, h4, h5⟩ := E.lst_at hi
  refine ⟨_, hx, .inl ⟨rfl, _, SqL.of h3⟩, h σ F H E _ fun v F1 H1 g1 hv => ⟨p, vs, v, rfl, rfl, g1.hh _ _ h3, by rw [plen h5]; exact sz_lt hl, ?_⟩⟩
  exact k σ F1 _ ((E.gro g1).mutL hi hx (by simp; omega) (papp (pmap (fun _ _ z => mox g1.ff z) h5) (.cons hv .nil)))
theorem gk_clear {α : Type} {r : Rp α} [im : Mo r] {xs : List α} {iM : MoM (mL r xs)} {i : Nat} (hi : G[i]? = some (.ow (mL r xs) iM)) (k : Gk F0 H0 nx (G.set i (sL r []))) :
    Gk F0 H0 (tDrop (tBM0 K "list" rClear (tVar i)) ⟨nx, rt, bk, ct⟩) G := fun σ F H E => by
  obtain ⟨p, vs, hx, h1, h2, h3, h4, h5⟩ := E.lst_at hi
  exact ⟨_, hx, .inl ⟨rfl, _, SqL.of h3⟩, p, vs, rfl, rfl, h3, k σ F _ (E.mutL hi hx (by simp) .nil)⟩
theorem gk_ext {α : Type} {r : Rp α} [im : Mo r] [Kp m r] {xs ys : List α} {iM : MoM (mL r xs)} {i : Nat} (hi : G[i]? = some (.ow (mL r xs) iM)) (h : Ed F0 H0 te G m (rLst r) ys) (hl : xs.length + ys.length ≤ 16777216) (k : Gk F0 H0 nx (G.set i (sL r (xs ++ ys)))) :
    Gk F0 H0 (tDrop (tBM K "list" rExtend (tVar i) (tCons te tNil)) ⟨nx, rt, bk, ct⟩) G := fun σ F H E => by
  obtain ⟨p, vs, hx, h1, h2, h3, h4, h5⟩ := E.lst_at hi
  refine ⟨_, hx, .inl ⟨rfl, _, SqL.of h3⟩, h σ F H E _ fun v F1 H1 g1 hv => ?_⟩
  obtain ⟨q, ws, rfl, a1, a2, a3⟩ := hv
  have g0 := E.gr.trans g1
  refine ⟨p, q, vs, ws, rfl, rfl, g1.hh _ _ h3, pk_now g0 _ _ a1, by rw [plen h5, plen a3]; exact sz_le hl, ?_⟩
  exact k σ F1 _ ((E.gro g1).mutL hi hx (by rw [List.length_append]; exact hl) (papp (pmap (fun _ _ z => mox g1.ff z) h5) (pmap (fun _ _ z => Kp.kp g0 z) a3)))
/-- xs[i] = e -/
theorem gk_setI {α : Type} {r : Rp α} [im : Mo r] {xs : List α} {iM : MoM (mL r xs)} {a : α} {i : Nat} {j : Int} (hi : G[i]? = some (.ow (mL r xs) iM)) (h : Ed F0 H0 te G .sh r a) (hj : Ed F0 H0 tb G m rInt j) (hk : 0 ≤ j ∧ j < xs.length) (k : Gk F0 H0 nx (G.set i (sL r (xs.set j.toNat a)))) :
    Gk F0 H0 (tAsg te (gSub (tVar i) tb rSetL) ⟨nx, rt, bk, ct⟩) G := fun σ F H E =>
  h σ F H E _ fun v F1 H1 g1 hv => by
    have E1 := E.gro g1
    obtain ⟨p, vs, hx, h1, h2, h3, h4, h5⟩ := E1.lst_at hi
    refine ⟨_, hx, hj σ F1 H1 E1 _ fun w F2 H2 g2 hw => ?_⟩
    have hl := plen h5
    refine ⟨p, vs, j, j.toNat, rfl, hw, g2.hh _ _ h3, ?_, ?_⟩
    · unfold ixN; rw [if_pos hk.1, if_pos (by omega)]
    · exact k σ F2 _ ((E1.gro g2).mutL hi hx (by rw [List.length_set]; exact h4) (pset (mox g2.ff hv) _ (pmap (fun _ _ z => mox g2.ff z) h5)))
/-- x += e, ints -/
theorem gk_aug {f : Int → Int → Int} {a b : Int} {i : Nat} {im : Mo rInt} (hi : G[i]? = some (.fz rInt im a)) (h : Ed F0 H0 te G m rInt b) (k : Gk F0 H0 nx (G.set i (sF rInt (f a b)))) : Gk F0 H0 (tAug i te (ipI f) ⟨nx, rt, bk, ct⟩) G := fun σ F H E => by
  obtain ⟨v, hx, ok⟩ := E.fz_at hi
  exact ⟨v, hx, h σ F H E _ fun w F1 H1 g1 hw => ⟨a, b, ok, hw, k _ F1 H1 ((E.gro g1).set ⟨_, rfl, rfl⟩ fun _ _ z => nomatch z)⟩⟩
theorem gk_expr {α : Type} {r : Rp α} {a : α} (h : Ed F0 H0 te G m r a) (k : Gk F0 H0 nx G) : Gk F0 H0 (tDrop te ⟨nx, rt, bk, ct⟩) G := fun σ F H E => h σ F H E _ fun v F1 H1 g1 hv => k σ F1 H1 (E.gro g1)

/-! ### loops -/
def LpK {α S : Type} (F1 H0 : Hp) (P : List α → S → Prop) (Gs : S → List Slot) (rest : List α) : L2.St → Hp → Prop := fun σ H => ∃ s F, P rest s ∧ EnvOk F1 H0 (Gs s) σ F H
theorem gk_loop {α S : Type} {F1 : Hp} {P : List α → S → Prop} {Gs : S → List Slot} {rest : List α} (s : S) (p : P rest s) (e : G = Gs s) : Gk F1 H0 (LpK F1 H0 P Gs rest) G := fun σ F H E => ⟨s, F, p, e ▸ E⟩
theorem gk_for {α S : Type} {r : Rp α} {xs : List α} {up : α → List Slot → List Slot} {tg : List Nat} (P : List α → S → Prop) (Gs : S → List Slot) (s0 : S) (hi : Ei F0 H0 wi G m r xs) (hg : Eg H0 g m r up tg) (e0 : G = Gs s0) (p0 : P xs s0)
    (hs : ∀ F1, Bs F0 H0 F1 → ∀ x rest s, x ∈ xs → P (x :: rest) s → Gk F1 H0 (t ⟨LpK F1 H0 P Gs rest, rt, nx, LpK F1 H0 P Gs rest⟩) (up x (Gs s))) (hd : ∀ s, P [] s → Gk F0 H0 nx (Gs s)) :
    Gk F0 H0 (tFor wi g t ⟨nx, rt, bk, ct⟩) G := fun σ F H E => hi σ F H E _ fun J F1 H1 g1 w hxl => by
  subst e0
  have E1 := (E.gro g1).here
  have b1 : Bs F0 H0 F1 := (E.gr.trans g1).bs
  refine ⟨fun i k σ' H' => k = xs.length - i ∧ i ≤ xs.length ∧ ∃ s F', P (xs.drop i) s ∧ EnvOk F1 H0 (Gs s) σ' F' H', ⟨xs.length, by simp, Nat.zero_le _, s0, F1, p0, E1⟩, ?_⟩
  rintro i k σ' H' ⟨rfl, hi', s, F', ps, E2⟩
  by_cases hlt : i < xs.length
  · refine .inr ⟨w.go i F' H' E2.gr.ff E2.gr.fh E2.gr.hh hlt, LpK F1 H0 P Gs (xs.drop (i + 1)), fun σ'' H'' ⟨s', F'', p', E'⟩ => ⟨xs.length - (i + 1), by omega, rfl, hlt, s', F'', p', E'⟩, fun v H'' y => ?_⟩
    obtain ⟨x, F3, hx, g3, rx⟩ := w.yld i F' H' v H'' E2.gr.ff E2.gr.fh E2.gr.hh hlt y
    have hd' : xs.drop i = x :: xs.drop (i + 1) := by
      rw [List.drop_eq_getElem_cons hlt]
      rw [List.getElem?_eq_getElem hlt] at hx
      rw [Option.some.inj hx]
    rw [hd'] at ps
    exact hg F1 _ _ F3 H'' v x (E2.gro g3) rx _ fun σ2 E4 _ => hs F1 b1 x _ s (List.mem_of_getElem? hx) ps σ2 F3 H'' E4
  · have e : i = xs.length := by omega
    subst e
    rw [List.drop_length] at ps
    exact .inl ⟨w.stop F' H' E2.gr.ff E2.gr.fh E2.gr.hh, hd s ps σ' F' H' (E2.down b1)⟩
/-- while: W by a measure -/
theorem gk_while {S : Type} (P : S → Prop) (Gs : S → List Slot) (c : S → Bool) (mu : S → Nat) (s0 : S) (e0 : G = Gs s0) (p0 : P s0) (ht : ∀ s, P s → Et F0 H0 tt (Gs s) (c s))
    (hs : ∀ s, P s → c s = true → Gk F0 H0 (t ⟨fun σ H => ∃ s' F, P s' ∧ mu s' < mu s ∧ EnvOk F0 H0 (Gs s') σ F H, rt, nx, fun σ H => ∃ s' F, P s' ∧ mu s' < mu s ∧ EnvOk F0 H0 (Gs s') σ F H⟩) (Gs s))
    (hd : ∀ s, P s → c s = false → Gk F0 H0 nx (Gs s)) : Gk F0 H0 (tWhile tt t ⟨nx, rt, bk, ct⟩) G := fun σ F H E => by
  subst e0
  refine ⟨fun k σ' H' => ∃ s F', k = mu s ∧ P s ∧ EnvOk F0 H0 (Gs s) σ' F' H', ⟨mu s0, s0, F, rfl, p0, E⟩, ?_⟩
  rintro k σ' H' ⟨s, F', rfl, ps, E2⟩
  refine ht s ps σ' F' H' E2 _ fun F3 H3 g3 => ?_
  cases hc : c s with
  | true => exact ⟨_, fun σ'' H'' ⟨s', F'', p', l, E'⟩ => ⟨mu s', l, s', F'', rfl, p', E'⟩, hs s ps hc σ' F3 H3 (E2.gro g3)⟩
  | false => exact hd s ps hc σ' F3 H3 (E2.gro g3)

/-! ### defs -/
/-- hands back a frozen datum -/
def spV {α β : Type} (T : Pt α) (pre : α → Prop) (f : α → β) (rb : Rp β) : Sp := fun vs H Q _ => ∃ F a, Ex F H ∧ T.ra F H H vs a ∧ pre a ∧ ∀ v F' H', Gr F H F' H' → rb F' v (f a) → Q v H'
/-- hands back a new list -/
def spN {α β : Type} (T : Pt α) (pre : α → Prop) (f : α → List β) (rb : Rp β) : Sp := fun vs H Q _ => ∃ F a, Ex F H ∧ T.ra F H H vs a ∧ pre a ∧ ∀ p vs F' H', Gr F H F' H' → H p = none → F' p = none → H' p = some (.lst vs) → (f a).length ≤ 16777216 → Paired (rb F') vs (f a) → Q (.ref p) H'
theorem spV_len {α β : Type} {T : Pt α} {pre : α → Prop} {f : α → β} {rb : Rp β} {vs : List V} {H : Hp} {Q : VK} {E : XK} (h : spV T pre f rb vs H Q E) : vs.length = T.count := by
  obtain ⟨F, a, _, h, _⟩ := h; exact T.length h
theorem spN_len {α β : Type} {T : Pt α} {pre : α → Prop} {f : α → List β} {rb : Rp β} {vs : List V} {H : Hp} {Q : VK} {E : XK} (h : spN T pre f rb vs H Q E) : vs.length = T.count := by
  obtain ⟨F, a, _, h, _⟩ := h; exact T.length h
theorem Pt.ra_b0 {α : Type} : ∀ (T : Pt α) {F H : Hp} {vs : List V} {a : α}, T.ra F H H vs a → ∀ {n : Nat} {G : List Slot}, ∀ (i : Nat) (s : Slot), (T.slots a)[i]? = some s → ∃ x, vs[i]? = some x ∧ SlotOk H F H (some x) [] s
  | .nil, _, _, _, _, _, _, _, i, s, h => by simp [Pt.slots] at h
  | .cons m r im t, F, H, vs, a, h, n, G, i, s, hs => by
    obtain ⟨v, us, rfl, h2, h3⟩ := h
    cases i with
    | zero =>
      have e : s = pslot m r im a.1 := (Option.some.inj hs).symm
      subst e
      refine ⟨v, rfl, ?_⟩
      cases m with
      | sh => exact ⟨v, rfl, h2⟩
      | b0 => exact ⟨v, rfl, h2⟩
      | bo => exact ⟨v, rfl, h2⟩
    | succ i => exact t.ra_b0 h3 (n := n) (G := G) i s hs
theorem slots_noM {α : Type} : ∀ (T : Pt α) (a : α) (i : Nat) (M : Mu) (iM : MoM M), (T.slots a)[i]? ≠ some (.ow M iM)
  | .nil, _, i, M, iM => by simp [Pt.slots]
  | .cons m r im t, a, 0, M, iM => by
    intro h
    have e : pslot m r im a.1 = .ow M iM := Option.some.inj h
    exact pslot_no M iM e
  | .cons m r im t, a, i + 1, M, iM => slots_noM t a.2 i M iM
theorem slots_len {α : Type} : ∀ (T : Pt α) (a : α), (T.slots a).length = T.count
  | .nil, _ => rfl
  | .cons m r im t, a => by show (t.slots a.2).length + 1 = t.count + 1; rw [slots_len t]
/-- at a def's entry -/
theorem entry {α : Type} {T : Pt α} {F H : Hp} {vs : List V} {a : α} {N : List Str} (e : Ex F H) (h : T.ra F H H vs a) (k : Nat) (hk : N.length = T.count + k) : EnvOk F H (T.slots a ++ List.replicate k .no) (L2.start N vs) F H := by
  have hl := T.length h
  have hs := slots_len T a
  refine ⟨fun _ => [], Gr.refl e, ?_, fun i s hi => ?_, fun i j M iM N' iN p hij h1 => ?_⟩
  · unfold L2.start; simp [hl, hs]; omega
  · by_cases c : i < T.count
    · rw [List.getElem?_append_left (by rw [hs]; exact c)] at hi
      obtain ⟨x, hx, ok⟩ := T.ra_b0 h (n := 0) (G := []) i s hi
      refine ⟨some x, ?_, ok⟩
      unfold L2.start
      rw [List.getElem?_append_left (by simp; omega), List.getElem?_map, hx]; rfl
    · rw [List.getElem?_append_right (by omega)] at hi
      rw [List.getElem?_replicate] at hi
      split at hi
      · cases hi
        refine ⟨none, ?_, trivial⟩
        unfold L2.start
        rw [List.getElem?_append_right (by simp; omega), List.getElem?_replicate]
        rw [if_pos (by simp; omega)]
      · cases hi
  · by_cases c : i < T.count
    · rw [List.getElem?_append_left (by rw [hs]; exact c)] at h1
      exact absurd h1 (slots_noM T a i M iM)
    · rw [List.getElem?_append_right (by omega)] at h1
      rw [List.getElem?_replicate] at h1
      split at h1 <;> cases h1
/-- a call -/
theorem ed_call {α β : Type} {T : Pt α} {pre : α → Prop} {f : α → β} {rb : Rp β} {E : XK} {t : TA} {a : α} (h : Ea F0 H0 t G T.ra a) (hT : ∀ {F H : Hp} {vs : List V}, Gr F0 H0 F H → T.ra F H0 H vs a → T.ra F H H vs a) (hp : pre a) : Ed F0 H0 (tCall (spV T pre f rb) [] E t) G .sh rb (f a) := fun σ F H EE Q q =>
  h σ F H EE _ fun vs F1 H1 g1 h1 => ⟨F1, a, g1.fh, by rw [List.append_nil]; exact hT (EE.gr.trans g1) h1, hp, fun v F2 H2 g2 h2 => q v F2 H2 (g1.trans g2) h2⟩
theorem en_call {α β : Type} {T : Pt α} {pre : α → Prop} {f : α → List β} {rb : Rp β} {E : XK} {t : TA} {a : α} (h : Ea F0 H0 t G T.ra a) (hT : ∀ {F H : Hp} {vs : List V}, Gr F0 H0 F H → T.ra F H0 H vs a → T.ra F H H vs a) (hp : pre a) : En F0 H0 (tCall (spN T pre f rb) [] E t) G rb (f a) := fun σ F H EE Q q =>
  h σ F H EE _ fun vs F1 H1 g1 h1 => ⟨F1, a, g1.fh, by rw [List.append_nil]; exact hT (EE.gr.trans g1) h1, hp, fun p vs F2 H2 g2 e1 e2 e3 e4 e5 => q p vs F2 H2 (g1.trans g2) (g1.hh.back e1) e2 e3 e4 e5⟩
theorem Pt.now {α : Type} : ∀ (T : Pt α) {F H F0 H0 : Hp} {vs : List V} {a : α}, Gr F0 H0 F H → T.ra F H0 H vs a → T.ra F H H vs a
  | .nil, _, _, _, _, _, _, _, h => h
  | .cons m r i t, F, H, F0, H0, _, _, g, h => by
    obtain ⟨v, us, h1, h2, h3⟩ := h
    refine ⟨v, us, h1, i.ex (?_ : Ex (pk m F H0 H) (pk m F H H)) h2, t.now g h3⟩
    cases m with
    | sh => exact Ex.refl _
    | b0 => exact g.hh
    | bo => exact Ex.refl _
end
section
variable {P : Program} {w : World} {K : PySem.W.Frag} {mg : Str → Option Value} {base : Heap}
/-- a def that hands back a frozen datum: its body as a term, and its reading -/
theorem ok_V {α β : Type} {T : Pt α} {pre : α → Prop} {f : α → β} {rb : Rp β} {x qual : Str} {st : Stmt} {fa : Addr} {fd : FuncData} {N ps : List Str} {k : Nat} (c : Nat) (Fn : Fun K x qual st fa fd) (S : FnScope N ps (defScope st)) (hc : N.length = T.count + c) (hps : ps.length = T.count)
    (hbody : ∀ (cdv : Value) (A : Around) (outer : List Env) (s : Shared) (H : Hp) (E : XK), Room k (A.deeper (envOfC qual (defScope st) s.heap.objs.size fa cdv)) →
      ∃ t, PSs (cxOf CX0 P w K mg base N qual (defScope st) fa cdv A outer s H E).nox (defBody st) t ∧ ∀ (F : Hp) (a : α) (nx : L2.St → Hp → Prop) (rt : VK) (bk ct : L2.St → Hp → Prop), pre a → Rt F H rt rb (f a) → (∀ σ H', nx σ H' = rt .non H') → Gk F H (t ⟨nx, rt, bk, ct⟩) (T.slots a ++ List.replicate c .no)) :
    FnOk P w K mg base CX0 (k + 1) fa fd ps (spV T pre f rb) := by
  refine Fn.ok S (fun vs H Q E h => by rw [hps]; exact spV_len h) (fun cdv A outer s H vs Q E hr h => ?_)
  obtain ⟨F, a, e, ha, hp, q⟩ := h
  obtain ⟨t, ht, hg⟩ := hbody cdv A outer s H E hr
  exact ⟨t, ht, hg F a _ _ _ _ hp (fun v F' H' g h => q v F' H' g h) (fun _ _ => rfl) _ F H (entry e ha c hc)⟩
theorem ok_N {α β : Type} {T : Pt α} {pre : α → Prop} {f : α → List β} {rb : Rp β} {x qual : Str} {st : Stmt} {fa : Addr} {fd : FuncData} {N ps : List Str} {k : Nat} (c : Nat) (Fn : Fun K x qual st fa fd) (S : FnScope N ps (defScope st)) (hc : N.length = T.count + c) (hps : ps.length = T.count)
    (hbody : ∀ (cdv : Value) (A : Around) (outer : List Env) (s : Shared) (H : Hp) (E : XK), Room k (A.deeper (envOfC qual (defScope st) s.heap.objs.size fa cdv)) →
      ∃ t, PSs (cxOf CX0 P w K mg base N qual (defScope st) fa cdv A outer s H E).nox (defBody st) t ∧ ∀ (F : Hp) (a : α) (nx : L2.St → Hp → Prop) (rt : VK) (bk ct : L2.St → Hp → Prop), pre a → RtN F H rt rb (f a) → (∀ σ H', nx σ H' = rt .non H') → Gk F H (t ⟨nx, rt, bk, ct⟩) (T.slots a ++ List.replicate c .no)) :
    FnOk P w K mg base CX0 (k + 1) fa fd ps (spN T pre f rb) := by
  refine Fn.ok S (fun vs H Q E h => by rw [hps]; exact spN_len h) (fun cdv A outer s H vs Q E hr h => ?_)
  obtain ⟨F, a, e, ha, hp, q⟩ := h
  obtain ⟨t, ht, hg⟩ := hbody cdv A outer s H E hr
  exact ⟨t, ht, hg F a _ _ _ _ hp (fun p vs F' H' g h1 h2 h3 h4 h5 => q p vs F' H' g h1 h2 h3 h4 h5) (fun _ _ => rfl) _ F H (entry e ha c hc)⟩
end
end LK

set_option Elab.async false
set_option linter.all false
set_option maxRecDepth 100000
set_option maxHeartbeats 4000000
set_option autoImplicit false
/-! LK5: short forms of the terms; loops by folds; forgetting. -/
namespace LK
open PySem L2 PyProof.Rows PySem.Spec

/-! ### terms in short -/
/-- what a caller knows of a def by its name -/
structure Cal (K : PySem.W.Frag) (mg : Str → Option Value) (x : Str) (f : Addr) (fd : FuncData) (ps : List Str) : Prop where
  mg : mg x = some (.ref f)
  kp : PySem.W.keepIn K (.ref f) = true
  bi : Binds K fd ps []
section
variable {X : Cx} {e : Expr} {es : List Expr} {te : TE} {t : TA} {x : Str} {p pos : Pos}
theorem w_call {k : Nat} {f : Addr} {fd : FuncData} {ps : List Str} {sp : Sp} (C : Cal X.K X.mg x f fd ps) (F : FnOk X.prog X.w X.K X.mg X.base CX0 k f fd ps sp) (hr : Room k X.A) (ha : PA X (e :: es) t) (hg : Gl X x := by rfl) (hdb : (x == ("__debug__" : Str)) = false := by decide)
    (he : starEach (e :: es) X.env = (false, eval e X.env) :: starEach es X.env := by rfl) (hpl : (backTo pos (starEach es X.env)).any (·.1) = false := by rfl) : PE X (.Call (.Name x p) (e :: es) [] pos) (tCall sp [] E0 t) :=
  pe_call F hr hg C.mg C.kp C.bi .nil pass0 ha hdb he hpl
theorem w_set {i : Nat} {pos' : Pos} (hN : X.N.Nodup) (hi : X.N[i]? = some x) (hx : Loc X.env.scope x) (hf : X.fn x = true ∨ X.env.scope.names.lookup x = some .local) (he : PE X e te) (hs : swapsWith e (some (.Name x pos')) pos.line X.env = pure false := by rfl) : PS X (.Assign [.Name x pos'] e pos) (tAsg te (gName i)) :=
  ps_set hN hi hx he hs hf
end

/-! ### forgetting -/
def Lw : List Slot → List Slot → Prop
  | [], [] => True
  | s :: G, t :: G' => (t = .no ∨ s = t) ∧ Lw G G'
  | _, _ => False
theorem Lw.len : ∀ {G G' : List Slot}, Lw G G' → G.length = G'.length
  | [], [], _ => rfl
  | _ :: _, _ :: _, h => by rw [List.length_cons, List.length_cons, Lw.len h.2]
  | [], _ :: _, h => h.elim
  | _ :: _, [], h => h.elim
theorem Lw.at_ : ∀ {G G' : List Slot}, Lw G G' → ∀ (i : Nat) (t : Slot), G'[i]? = some t → t = .no ∨ G[i]? = some t
  | [], [], _, i, t, h => by simp at h
  | s :: G, t :: G', l, 0, u, h => by
    have e : t = u := Option.some.inj h
    subst e
    rcases l.1 with q | q
    · exact .inl q
    · exact .inr (by rw [q]; rfl)
  | s :: G, t :: G', l, i + 1, u, h => Lw.at_ l.2 i u h
  | [], _ :: _, l, _, _, _ => l.elim
  | _ :: _, [], l, _, _, _ => l.elim
theorem Lw.refl : ∀ G : List Slot, Lw G G
  | [] => trivial
  | _ :: G => ⟨.inr rfl, Lw.refl G⟩
section
variable {F0 H0 F H : Hp} {G G' : List Slot} {σ : L2.St}
theorem EnvOk.weak (E : EnvOk F0 H0 G σ F H) (l : Lw G G') : EnvOk F0 H0 G' σ F H := by
  obtain ⟨fp, E⟩ := E
  refine ⟨fp, E.gr, E.len.trans l.len, fun i s h => ?_, fun i j M iM N iN p hij h1 h2 h3 => ?_⟩
  · rcases l.at_ i s h with e | e
    · subst e
      have hi : i < σ.length := by rw [E.len, l.len]; exact (List.getElem?_eq_some_iff.mp h).1
      exact ⟨_, List.getElem?_eq_getElem hi, trivial⟩
    · exact E.at_ i s e
  · rcases l.at_ i _ h1 with e | h1
    · cases e
    · rcases l.at_ j _ h2 with e | h2
      · cases e
      · exact E.dj i j M iM N iN p hij h1 h2 h3
theorem gk_weak {k : L2.St → Hp → Prop} (l : Lw G G') (h : Gk F0 H0 k G') : Gk F0 H0 k G := fun σ F H E => h σ F H (E.weak l)
end

/-! ### values by names -/
section
variable {F0 H0 : Hp} {G : List Slot} {m m1 m2 : Md} {ta tb tc te tl : TE} {tt : TT} {t u : TS} {K : PySem.W.Frag} {wi : TI} {g : TG} {nx : L2.St → Hp → Prop} {rt : VK} {bk ct : L2.St → Hp → Prop}
theorem gk_asg {α : Type} {r : Rp α} [im : Mo r] {a : α} {i : Nat} (h : Ed F0 H0 te G .sh r a) (k : ∀ x, x = a → Gk F0 H0 nx (G.set i (.fz r im x))) : Gk F0 H0 (tAsg te (gName i) ⟨nx, rt, bk, ct⟩) G := gk_set h (k a rfl)
theorem gk_asgB {α : Type} {r : Rp α} [im : Mo r] {a : α} {i : Nat} (h : Ed F0 H0 te G .b0 r a) (k : ∀ x, x = a → Gk F0 H0 nx (G.set i (.bw r im x))) : Gk F0 H0 (tAsg te (gName i) ⟨nx, rt, bk, ct⟩) G := gk_setB h (k a rfl)
theorem gk_asgN {α : Type} {r : Rp α} [im : Mo r] {xs : List α} {i : Nat} (h : En F0 H0 te G r xs) (k : ∀ x, x = xs → Gk F0 H0 nx (G.set i (sL r x))) : Gk F0 H0 (tAsg te (gName i) ⟨nx, rt, bk, ct⟩) G := gk_setN h (k xs rfl)
theorem gk_appv {α : Type} {r : Rp α} [im : Mo r] {xs : List α} {iM : MoM (mL r xs)} {a : α} {i : Nat} (hi : G[i]? = some (.ow (mL r xs) iM)) (h : Ed F0 H0 te G .sh r a) (hl : xs.length < 16777216) (k : ∀ x, x = xs ++ [a] → Gk F0 H0 nx (G.set i (sL r x))) :
    Gk F0 H0 (tDrop (tBM K "list" rAppend (tVar i) (tCons te tNil)) ⟨nx, rt, bk, ct⟩) G := gk_app hi h hl (k _ rfl)
/-- loops that go through, by a fold; I: what else holds -/
def FoK {α S : Type} (F1 H0 : Hp) (I : List α → S → Prop) (ups : S → List Slot → List Slot) (G : List Slot) (rest : List α) (s : S) : L2.St → Hp → Prop := fun σ H => I rest s ∧ ∃ F, EnvOk F1 H0 (ups s G) σ F H
theorem gk_fold {α S : Type} {r : Rp α} {xs : List α} {up : α → List Slot → List Slot} {tg : List Nat} (step : S → α → S) (I : List α → S → Prop) (ups : S → List Slot → List Slot) (s0 : S) (hi : Ei F0 H0 wi G m r xs) (hg : Eg H0 g m r up tg) (e0 : Lw G (ups s0 G)) (i0 : I xs s0)
    (hs : ∀ F1, Bs F0 H0 F1 → ∀ x rest s, x ∈ xs → I (x :: rest) s → Gk F1 H0 (t ⟨FoK F1 H0 I ups G rest (step s x), rt, nx, FoK F1 H0 I ups G rest (step s x)⟩) (up x (ups s G))) (hd : ∀ s, s = xs.foldl step s0 → I [] s → Gk F0 H0 nx (ups s G)) :
    Gk F0 H0 (tFor wi g t ⟨nx, rt, bk, ct⟩) G := fun σ F H E => by
  -- the iterable is evaluated in the old slots
  refine hi σ F H E _ fun J F1 H1 g1 w hxl => ?_
  have E1 := ((E.gro g1).weak e0).here
  have b1 : Bs F0 H0 F1 := (E.gr.trans g1).bs
  refine ⟨fun i k σ' H' => k = xs.length - i ∧ i ≤ xs.length ∧ ∃ s F', (xs.drop i).foldl step s = xs.foldl step s0 ∧ I (xs.drop i) s ∧ EnvOk F1 H0 (ups s G) σ' F' H', ⟨xs.length, by simp, Nat.zero_le _, s0, F1, rfl, i0, E1⟩, ?_⟩
  rintro i k σ' H' ⟨rfl, hi', s, F', fs, ps, E2⟩
  by_cases hlt : i < xs.length
  · have hx : xs[i]? = some xs[i] := List.getElem?_eq_getElem hlt
    have hd' : xs.drop i = xs[i] :: xs.drop (i + 1) := List.drop_eq_getElem_cons hlt
    rw [hd'] at ps fs
    refine .inr ⟨w.go i F' H' E2.gr.ff E2.gr.fh E2.gr.hh hlt, FoK F1 H0 I ups G (xs.drop (i + 1)) (step s xs[i]), fun σ'' H'' ⟨p', F'', E'⟩ => ⟨xs.length - (i + 1), by omega, rfl, hlt, _, F'', fs, p', E'⟩, fun v H'' y => ?_⟩
    obtain ⟨x, F3, hx', g3, rx⟩ := w.yld i F' H' v H'' E2.gr.ff E2.gr.fh E2.gr.hh hlt y
    rw [hx] at hx'
    cases hx'
    exact hg F1 _ _ F3 H'' v _ (E2.gro g3) rx _ fun σ2 E4 _ => hs F1 b1 _ _ s (List.mem_of_getElem? hx) ps σ2 F3 H'' E4
  · have e : i = xs.length := by omega
    subst e
    rw [List.drop_length] at ps fs
    exact .inl ⟨w.stop F' H' E2.gr.ff E2.gr.fh E2.gr.hh, hd s fs ps σ' F' H' (E2.down b1)⟩
theorem gk_turn {α S : Type} {F1 : Hp} {I : List α → S → Prop} {ups : S → List Slot → List Slot} {G G' : List Slot} {rest : List α} {s s' : S} (l : Lw G' (ups s' G)) (e : s = s') (i : I rest s') : Gk F1 H0 (FoK F1 H0 I ups G rest s) G' := fun σ F H E => by
  subst e
  exact ⟨i, F, E.weak l⟩
/-- loops that may hand back, by what is to be handed back -/
def runC {α S β : Type} (f : S → α → (S → β) → β) : S → List α → (S → β) → β
  | s, [], k => k s
  | s, x :: xs, k => f s x fun s' => runC f s' xs k
def CpK {α S : Type} (F1 H0 : Hp) (P : List α → S → Prop) (ups : S → List Slot → List Slot) (G : List Slot) (rest : List α) : L2.St → Hp → Prop := fun σ H => ∃ s F, P rest s ∧ EnvOk F1 H0 (ups s G) σ F H
theorem gk_run {α S : Type} {r : Rp α} {xs : List α} {up : α → List Slot → List Slot} {tg : List Nat} (P : List α → S → Prop) (ups : S → List Slot → List Slot) (s0 : S) (hi : Ei F0 H0 wi G m r xs) (hg : Eg H0 g m r up tg) (e0 : Lw G (ups s0 G)) (p0 : P xs s0)
    (hs : ∀ F1, Bs F0 H0 F1 → ∀ x rest s, x ∈ xs → P (x :: rest) s → Gk F1 H0 (t ⟨CpK F1 H0 P ups G rest, rt, nx, CpK F1 H0 P ups G rest⟩) (up x (ups s G))) (hd : ∀ s, P [] s → Gk F0 H0 nx (ups s G)) :
    Gk F0 H0 (tFor wi g t ⟨nx, rt, bk, ct⟩) G := fun σ F H E => by
  refine hi σ F H E _ fun J F1 H1 g1 w hxl => ?_
  have E1 := ((E.gro g1).weak e0).here
  have b1 : Bs F0 H0 F1 := (E.gr.trans g1).bs
  refine ⟨fun i k σ' H' => k = xs.length - i ∧ i ≤ xs.length ∧ ∃ s F', P (xs.drop i) s ∧ EnvOk F1 H0 (ups s G) σ' F' H', ⟨xs.length, by simp, Nat.zero_le _, s0, F1, p0, E1⟩, ?_⟩
  rintro i k σ' H' ⟨rfl, hi', s, F', ps, E2⟩
  by_cases hlt : i < xs.length
  · have hx : xs[i]? = some xs[i] := List.getElem?_eq_getElem hlt
    have hd' : xs.drop i = xs[i] :: xs.drop (i + 1) := List.drop_eq_getElem_cons hlt
    rw [hd'] at ps
    refine .inr ⟨w.go i F' H' E2.gr.ff E2.gr.fh E2.gr.hh hlt, CpK F1 H0 P ups G (xs.drop (i + 1)), fun σ'' H'' ⟨s', F'', p', E'⟩ => ⟨xs.length - (i + 1), by omega, rfl, hlt, s', F'', p', E'⟩, fun v H'' y => ?_⟩
    obtain ⟨x, F3, hx', g3, rx⟩ := w.yld i F' H' v H'' E2.gr.ff E2.gr.fh E2.gr.hh hlt y
    rw [hx] at hx'
    cases hx'
    exact hg F1 _ _ F3 H'' v _ (E2.gro g3) rx _ fun σ2 E4 _ => hs F1 b1 _ _ s (List.mem_of_getElem? hx) ps σ2 F3 H'' E4
  · have e : i = xs.length := by omega
    subst e
    rw [List.drop_length] at ps
    exact .inl ⟨w.stop F' H' E2.gr.ff E2.gr.fh E2.gr.hh, hd s ps σ' F' H' (E2.down b1)⟩
theorem gk_again {α S : Type} {F1 : Hp} {P : List α → S → Prop} {ups : S → List Slot → List Slot} {G G' : List Slot} {rest : List α} (s' : S) (l : Lw G' (ups s' G)) (i : P rest s') : Gk F1 H0 (CpK F1 H0 P ups G rest) G' := fun σ F H E => ⟨s', F, i, E.weak l⟩
/-- ways that meet: what follows is shown once -/
theorem gk_join {S : Type} {b : Bool} (ups : S → List Slot → List Slot) (sv : S) (h : Et F0 H0 tt G b) (k : ∀ s, s = sv → Gk F0 H0 nx (ups s G)) (h1 : b = true → (∀ s, s = sv → Gk F0 H0 nx (ups s G)) → Gk F0 H0 (t ⟨nx, rt, bk, ct⟩) G) (h2 : b = false → (∀ s, s = sv → Gk F0 H0 nx (ups s G)) → Gk F0 H0 (u ⟨nx, rt, bk, ct⟩) G) : Gk F0 H0 (tIfS tt t u ⟨nx, rt, bk, ct⟩) G :=
  gk_if h (fun e => h1 e k) (fun e => h2 e k)
end

/-! ### the script -/
def rScr (K : PySem.W.Frag) : Rp (List Int) := fun F v ns => ∃ p, v = .ref p ∧ SqL K F p (ns.map V.int)
instance (K : PySem.W.Frag) : Mo (rScr K) := ⟨fun e ⟨p, h1, h2⟩ => by
  refine ⟨p, h1, ?_⟩
  rcases h2 with (h2 | ⟨o, h2⟩) | h2
  · exact .inl (.inl (e.at_ h2 rfl))
  · exact .inl (.inr ⟨o, e.at_ h2 rfl⟩)
  · exact .inr h2⟩
theorem SqL.ex {K : PySem.W.Frag} {F F' : Hp} {p : Addr} {xs : List V} (h : SqL K F p xs) (e : Ex F F') : SqL K F' p xs := by
  rcases h with (h | ⟨o, h⟩) | h
  · exact .inl (.inl (e _ _ h))
  · exact .inl (.inr ⟨o, e _ _ h⟩)
  · exact .inr h
section
variable {F0 H0 : Hp} {G : List Slot} {m m1 m2 : Md} {ta tb : TE} {K : PySem.W.Frag}
theorem ed_lenS {ns : List Int} (hx : Ed F0 H0 ta G m1 (rScr K) ns) : Ed F0 H0 (tCB (rLenQ K) (tCons ta tNil)) G m rInt (ns.length : Int) :=
  ed_c1 hx fun v F H g0 hv Q q => by
    obtain ⟨p, rfl, h1⟩ := hv
    exact ⟨p, _, rfl, .inl (SqL.ex h1 (pk_now g0)), q _ F H (Gr.refl g0.fh) (by rw [List.length_map]; rfl)⟩
theorem ed_ixS {ns : List Int} {i : Int} (hx : Ed F0 H0 ta G m1 (rScr K) ns) (hy : Ed F0 H0 tb G m2 rInt i) (hi : ixOk ns.length i) : Ed F0 H0 (tOp (rIxL K) ta tb) G m rInt (ixD ns i) :=
  ed_bin hx hy fun v w F H g0 hv hw Q q => by
    obtain ⟨p, rfl, h1⟩ := hv
    refine ⟨p, _, i, .int (ixD ns i), rfl, hw, SqL.ex h1 (pk_now g0), ?_, q _ F H (Gr.refl g0.fh) rfl⟩
    have e := atI_ok hi
    unfold atI at e ⊢
    rw [List.length_map]
    cases q : ixN ns.length i with
    | none => rw [q] at e; cases e
    | some j =>
      rw [q] at e
      show (ns.map V.int)[j]? = _
      have e : ns[j]? = some (ixD ns i) := e
      rw [List.getElem?_map, e]; rfl
end

/-! ### data as a whole -/
inductive Dt
  | non | bl (b : Bool) | int (i : Int) | tx (s : List Nat) | lst (xs : List Dt) | tup (xs : List Dt)
mutual
def rDt (F : Hp) : V → Dt → Prop
  | v, .non => v = .non
  | v, .bl b => v = .bl b
  | v, .int i => v = .int i
  | v, .tx s => v = .str ⟨s.toArray⟩ ∧ s.length ≤ 16777216 ∧ ∀ c ∈ s, c < 1114112
  | v, .lst xs => ∃ p vs, v = .ref p ∧ F p = some (.lst vs) ∧ xs.length ≤ 16777216 ∧ rDts F vs xs
  | v, .tup xs => ∃ p vs, v = .ref p ∧ F p = some (.tup vs) ∧ xs.length ≤ 16777216 ∧ rDts F vs xs
def rDts (F : Hp) : List V → List Dt → Prop
  | vs, [] => vs = []
  | vs, x :: xs => ∃ v us, vs = v :: us ∧ rDt F v x ∧ rDts F us xs
end
theorem rDts_p {F : Hp} : ∀ {vs : List V} {xs : List Dt}, rDts F vs xs ↔ Paired (rDt F) vs xs
  | vs, [] => by
    unfold rDts
    exact ⟨fun h => by rw [h]; exact .nil, fun h => by cases h; rfl⟩
  | vs, x :: xs => by
    unfold rDts
    constructor
    · rintro ⟨v, us, rfl, h1, h2⟩; exact .cons h1 (rDts_p.mp h2)
    · intro h
      cases h with
      | cons h1 h2 => exact ⟨_, _, rfl, h1, rDts_p.mpr h2⟩
mutual
theorem rDt_mo {F F' : Hp} (e : Exs F F') : ∀ {d : Dt} {v : V}, rDt F v d → rDt F' v d
  | .non, _, h => by unfold rDt at h ⊢; exact h
  | .bl _, _, h => by unfold rDt at h ⊢; exact h
  | .int _, _, h => by unfold rDt at h ⊢; exact h
  | .tx _, _, h => by unfold rDt at h ⊢; exact h
  | .lst xs, _, h => by
    unfold rDt at h ⊢
    obtain ⟨p, vs, h1, h2, h3, h4⟩ := h
    exact ⟨p, vs, h1, e.at_ h2 rfl, h3, rDts_mo e h4⟩
  | .tup xs, _, h => by
    unfold rDt at h ⊢
    obtain ⟨p, vs, h1, h2, h3, h4⟩ := h
    exact ⟨p, vs, h1, e.at_ h2 rfl, h3, rDts_mo e h4⟩
theorem rDts_mo {F F' : Hp} (e : Exs F F') : ∀ {ds : List Dt} {vs : List V}, rDts F vs ds → rDts F' vs ds
  | [], _, h => by unfold rDts at h ⊢; exact h
  | x :: xs, _, h => by
    unfold rDts at h ⊢
    obtain ⟨v, us, h1, h2, h3⟩ := h
    exact ⟨v, us, h1, rDt_mo e h2, rDts_mo e h3⟩
end
instance : Mo rDt := ⟨fun e h => rDt_mo e h⟩
/-- a datum of a known kind as one of these -/
class Tod {α : Type} (r : Rp α) where
  d : α → Dt
  to : ∀ {F : Hp} {v : V} {a : α}, r F v a → rDt F v (d a)
  inj : ∀ {a b : α}, d a = d b → a = b
instance : Tod rInt := ⟨.int, fun h => by unfold rDt; exact h, fun e => by injection e⟩
instance : Tod rBl := ⟨.bl, fun h => by unfold rDt; exact h, fun e => by injection e⟩
instance : Tod rTx := ⟨.tx, fun h => by unfold rDt; exact h, fun e => by injection e⟩
theorem map_inj {α β : Type} {f : α → β} (h : ∀ {a b : α}, f a = f b → a = b) : ∀ {xs ys : List α}, xs.map f = ys.map f → xs = ys
  | [], [], _ => rfl
  | [], _ :: _, e => by cases e
  | _ :: _, [], e => by cases e
  | x :: xs, y :: ys, e => by
    injection e with e1 e2
    rw [h e1, map_inj h e2]
theorem pmapr {α β γ : Type} {R : α → β → Prop} {S : α → γ → Prop} {f : β → γ} (h : ∀ a b, R a b → S a (f b)) : ∀ {xs : List α} {ys : List β}, Paired R xs ys → Paired S xs (ys.map f)
  | _, _, .nil => .nil
  | _, _, .cons a t => .cons (h _ _ a) (pmapr h t)
instance {α : Type} (r : Rp α) [h : Tod r] : Tod (rLst r) := ⟨fun xs => .lst (xs.map h.d), fun ⟨p, vs, h1, h2, h3, h4⟩ => by unfold rDt; exact ⟨p, vs, h1, h2, by rw [List.length_map]; exact h3, rDts_p.mpr (pmapr (fun _ _ z => h.to z) h4)⟩, fun e => by
  injection e with e; exact map_inj (fun z => h.inj z) e⟩
instance {α : Type} (r : Rp α) [h : Tod r] : Tod (rTup r) := ⟨fun xs => .tup (xs.map h.d), fun ⟨p, vs, h1, h2, h3, h4⟩ => by unfold rDt; exact ⟨p, vs, h1, h2, by rw [List.length_map]; exact h3, rDts_p.mpr (pmapr (fun _ _ z => h.to z) h4)⟩, fun e => by
  injection e with e; exact map_inj (fun z => h.inj z) e⟩
instance {α β : Type} (r : Rp α) (s : Rp β) [h : Tod r] [g : Tod s] : Tod (rPr r s) := ⟨fun x => .tup [h.d x.1, g.d x.2], fun ⟨p, u, w, h1, h2, h3, h4⟩ => by unfold rDt; exact ⟨p, [u, w], h1, h2, by simp, rDts_p.mpr (.cons (h.to h3) (.cons (g.to h4) .nil))⟩, fun {a b} e => by
  injection e with e
  injection e with e1 e2
  injection e2 with e2 _
  exact Prod.ext (h.inj e1) (g.inj e2)⟩
end LK

set_option Elab.async false
set_option linter.all false
set_option maxRecDepth 100000
set_option maxHeartbeats 4000000
set_option autoImplicit false
/-! LK6: further rules; the law's own comparison. -/
namespace LK
open PySem L2 PyProof.Rows PySem.Spec
theorem ct {α : Type} {c : Bool} {x y z : α} (h : c = true) (e : x = z) : cond c x y = z := by rw [h]; exact e
theorem cf {α : Type} {c : Bool} {x y z : α} (h : c = false) (e : y = z) : cond c x y = z := by rw [h]; exact e
theorem lw_nil : Lw [] [] := trivial
theorem lw_no {s : Slot} {G G' : List Slot} (h : Lw G G') : Lw (s :: G) (.no :: G') := ⟨.inl rfl, h⟩
theorem lw_eq {s t : Slot} {G G' : List Slot} (e : s = t) (h : Lw G G') : Lw (s :: G) (t :: G') := ⟨.inr e, h⟩
theorem rng_len (n : Int) : (rng n).length = n.toNat := by unfold rng; rw [rng2_len, Int.sub_zero]
theorem nomark2 (b : Expr) {op : CmpOp} (h : behindInMarks op b = false := by rfl) : behindInMarks op b = false := h
section
variable {F0 H0 : Hp} {G : List Slot} {m m1 m2 : Md} {ta tb tc te tl : TE} {tt : TT} {t u : TS} {K : PySem.W.Frag} {wi : TI} {g : TG} {nx : L2.St → Hp → Prop} {rt : VK} {bk ct : L2.St → Hp → Prop}
theorem gk_ifT (h : Et F0 H0 tt G true) (k : Gk F0 H0 (t ⟨nx, rt, bk, ct⟩) G) : Gk F0 H0 (tIfS tt t u ⟨nx, rt, bk, ct⟩) G := gk_if h (fun _ => k) (fun e => nomatch e)
theorem gk_ifF (h : Et F0 H0 tt G false) (k : Gk F0 H0 (u ⟨nx, rt, bk, ct⟩) G) : Gk F0 H0 (tIfS tt t u ⟨nx, rt, bk, ct⟩) G := gk_if h (fun e => nomatch e) (fun _ => k)
theorem gk_extv {α : Type} {r : Rp α} [im : Mo r] [Kp m r] {xs ys : List α} {iM : MoM (mL r xs)} {i : Nat} (hi : G[i]? = some (.ow (mL r xs) iM)) (h : Ed F0 H0 te G m (rLst r) ys) (hl : xs.length + ys.length ≤ 16777216) (k : ∀ x, x = xs ++ ys → Gk F0 H0 nx (G.set i (sL r x))) :
    Gk F0 H0 (tDrop (tBM K "list" rExtend (tVar i) (tCons te tNil)) ⟨nx, rt, bk, ct⟩) G := gk_ext hi h hl (k _ rfl)
theorem gk_clearv {α : Type} {r : Rp α} [im : Mo r] {xs : List α} {iM : MoM (mL r xs)} {i : Nat} (hi : G[i]? = some (.ow (mL r xs) iM)) (k : ∀ x, x = [] → Gk F0 H0 nx (G.set i (sL r x))) :
    Gk F0 H0 (tDrop (tBM0 K "list" rClear (tVar i)) ⟨nx, rt, bk, ct⟩) G := gk_clear hi (k _ rfl)
theorem gk_setIv {α : Type} {r : Rp α} [im : Mo r] {xs : List α} {iM : MoM (mL r xs)} {a : α} {i : Nat} {j : Int} (hi : G[i]? = some (.ow (mL r xs) iM)) (h : Ed F0 H0 te G .sh r a) (hj : Ed F0 H0 tb G m rInt j) (hk : 0 ≤ j ∧ j < xs.length) (k : ∀ x, x = xs.set j.toNat a → Gk F0 H0 nx (G.set i (sL r x))) :
    Gk F0 H0 (tAsg te (gSub (tVar i) tb rSetL) ⟨nx, rt, bk, ct⟩) G := gk_setI hi h hj hk (k _ rfl)
theorem gk_augv {f : Int → Int → Int} {a b : Int} {i : Nat} {im : Mo rInt} (hi : G[i]? = some (.fz rInt im a)) (h : Ed F0 H0 te G m rInt b) (k : ∀ x, x = f a b → Gk F0 H0 nx (G.set i (sF rInt x))) : Gk F0 H0 (tAug i te (ipI f) ⟨nx, rt, bk, ct⟩) G := gk_aug hi h (k _ rfl)
/-- list(range(n)) -/
theorem en_c0 {α : Type} {r : Rp α} {xs : List α} (h : ∀ σ F H, EnvOk F0 H0 G σ F H → ∀ Q : VK, (∀ p vs F' H', Gr F H F' H' → H p = none → F' p = none → H' p = some (.lst vs) → xs.length ≤ 16777216 → Paired (r F') vs xs → Q (.ref p) H') → te σ H Q) : En F0 H0 te G r xs := h

class Ln {α : Type} (r : Rp (List α)) : Prop where
  ln : ∀ {F : Hp} {v : V} {x : List α}, r F v x → x.length ≤ 16777216
instance : Ln rTx := ⟨fun h => h.2.1⟩
instance {α : Type} (r : Rp α) : Ln (rLst r) := ⟨fun ⟨_, _, _, _, h, _⟩ => h⟩
instance {α : Type} (r : Rp α) : Ln (rTup r) := ⟨fun ⟨_, _, _, _, h, _⟩ => h⟩
theorem gk_lnF {α : Type} {r : Rp (List α)} [Ln r] {im : Mo r} {x : List α} {k : L2.St → Hp → Prop} (i : Nat) (hi : G[i]? = some (.fz r im x)) (h : x.length ≤ 16777216 → Gk F0 H0 k G) : Gk F0 H0 k G := fun σ F H E => by
  obtain ⟨v, _, ok⟩ := E.fz_at hi
  exact h (Ln.ln (r := r) ok) σ F H E
theorem gk_lnB {α : Type} {r : Rp (List α)} [Ln r] {im : Mo r} {x : List α} {k : L2.St → Hp → Prop} (i : Nat) (hi : G[i]? = some (.bw r im x)) (h : x.length ≤ 16777216 → Gk F0 H0 k G) : Gk F0 H0 k G := fun σ F H E => by
  obtain ⟨v, _, ok⟩ := E.bw_at hi
  exact h (Ln.ln (r := r) ok) σ F H E
theorem gk_lnO {α : Type} {r : Rp α} {x : List α} {iM : MoM (mL r x)} {k : L2.St → Hp → Prop} (i : Nat) (hi : G[i]? = some (.ow (mL r x) iM)) (h : x.length ≤ 16777216 → Gk F0 H0 k G) : Gk F0 H0 k G := fun σ F H E => by
  obtain ⟨p, vs, _, _, _, _, h4, _⟩ := E.lst_at hi
  exact h h4 σ F H E

/-! ### joins -/
theorem ptx {F : Hp} : ∀ {vs : List V} {xs : List (List Nat)}, Paired (rTx F) vs xs → vs = xs.map fun x => V.str ⟨x.toArray⟩
  | _, _, .nil => rfl
  | _, _, .cons h t => by rw [List.map_cons, ← ptx t, h.1]
theorem ptx_ok {F : Hp} : ∀ {vs : List V} {xs : List (List Nat)}, Paired (rTx F) vs xs → ∀ l ∈ xs, ∀ c ∈ l, c < 1114112
  | _, _, .cons h t, l, hl, c, hc => by
    rcases List.mem_cons.mp hl with e | e
    · subst e; exact h.2.2 c hc
    · exact ptx_ok t l e c hc
abbrev rJoin (K : PySem.W.Frag) : V → List V → Hp → VK → Prop := fun x xs H Q => ∃ a p, ∃ ys : List Str, x = .str a ∧ xs = [.ref p] ∧ (SqL K H p (ys.map V.str) ∨ SqT K H p (ys.map V.str)) ∧ (ys.map (·.length)).sum + ys.length * a.length ≤ 16777216 ∧ Q (.str (Txt.join a ys)) H
theorem joinL_nil : ∀ xs : List (List Nat), TL.joinL [] xs = xs.flatten
  | [] => rfl
  | [p] => by simp [TL.joinL]
  | p :: q :: r => by
    show p ++ ([] ++ TL.joinL [] (q :: r)) = _
    rw [joinL_nil (q :: r)]; simp
theorem sum_len : ∀ xs : List (List Nat), ((xs.map fun x => (⟨x.toArray⟩ : Str)).map (·.length)).sum = xs.flatten.length
  | [] => rfl
  | x :: xs => by
    rw [List.map_cons, List.map_cons, List.sum_cons, sum_len xs, List.flatten_cons, List.length_append, tx_len]
theorem ed_join {xs : List (List Nat)} (hx : Ed F0 H0 ta G m1 rTx []) (hy : Ed F0 H0 tb G m2 (rLst rTx) xs) (hl : xs.flatten.length ≤ 16777216) : Ed F0 H0 (tM1 (rJoin K) ta tb) G m rTx xs.flatten := fun σ F H E Q q =>
  hx σ F H E _ fun v F1 H1 g1 hv => ⟨⟨_, hv.1⟩, hy σ F1 H1 (E.gro g1) _ fun w F2 H2 g2 hw => by
    obtain ⟨p, vs, rfl, h1, h2, h3⟩ := hw
    refine ⟨_, p, xs.map fun x => (⟨x.toArray⟩ : Str), hv.1, rfl, .inl (SqL.of ?_), ?_, ?_⟩
    · have e := ptx h3
      have h := pk_now (E.gr.trans (g1.trans g2)) _ _ h1
      rw [e] at h
      rw [List.map_map]; exact h
    · rw [sum_len, tx_len, List.length_nil, Nat.mul_zero, Nat.add_zero]; exact hl
    · refine q _ F2 H2 (g1.trans g2) ⟨?_, hl, fun c hc => by obtain ⟨l, hl1, hl2⟩ := List.mem_flatten.mp hc; exact ptx_ok h3 l hl1 c hl2⟩
      have e : TL.tl (Txt.join ⟨([] : List Nat).toArray⟩ (xs.map fun x => (⟨x.toArray⟩ : Str))) = xs.flatten := by
        rw [TL.join_eq, TL.tl_join]
        have e2 : (xs.map fun x => (⟨x.toArray⟩ : Str)).map TL.tl = xs := by
          rw [List.map_map]
          exact (List.map_congr_left (fun _ _ => rfl)).trans (List.map_id xs)
        rw [e2]
        exact joinL_nil xs
      exact congrArg V.str (TL.ext_tl e)⟩
end

/-! ### the law's own comparison -/
mutual
def Dt.dep : Dt → Nat
  | .lst xs => depAll xs + 1
  | .tup xs => depAll xs + 1
  | _ => 0
def depAll : List Dt → Nat
  | [] => 0
  | x :: xs => max x.dep (depAll xs)
end
theorem dep_mem {x : Dt} : ∀ {xs : List Dt}, x ∈ xs → x.dep ≤ depAll xs
  | y :: ys, h => by
    unfold depAll
    rcases List.mem_cons.mp h with e | e
    · subst e; exact Nat.le_max_left _ _
    · exact Nat.le_trans (dep_mem e) (Nat.le_max_right _ _)
theorem depAll_le {n : Nat} : ∀ {xs : List Dt}, (∀ x ∈ xs, x.dep ≤ n) → depAll xs ≤ n
  | [], _ => Nat.zero_le _
  | x :: xs, h => by
    unfold depAll
    exact Nat.max_le.mpr ⟨h x List.mem_cons_self, depAll_le fun y hy => h y (List.mem_cons_of_mem _ hy)⟩
mutual
def same : Dt → Dt → Bool
  | .non, .non => true
  | .bl a, .bl b => decide (a = b)
  | .int a, .int b => decide (a = b)
  | .tx a, .tx b => decide (a = b)
  | .lst a, .lst b => sames a b
  | .tup a, .tup b => sames a b
  | _, _ => false
def sames : List Dt → List Dt → Bool
  | [], [] => true
  | a :: as, b :: bs => same a b && sames as bs
  | _, _ => false
end
mutual
theorem same_iff : ∀ (a b : Dt), same a b = true ↔ a = b
  | .non, b => by cases b <;> simp [same]
  | .bl x, b => by cases b <;> simp [same]
  | .int x, b => by cases b <;> simp [same]
  | .tx x, b => by cases b <;> simp [same]
  | .lst xs, b => by
    cases b with
    | lst ys => simp only [same, Dt.lst.injEq]; exact sames_iff xs ys
    | _ => simp [same]
  | .tup xs, b => by
    cases b with
    | tup ys => simp only [same, Dt.tup.injEq]; exact sames_iff xs ys
    | _ => simp [same]
theorem sames_iff : ∀ (as bs : List Dt), sames as bs = true ↔ as = bs
  | [], bs => by cases bs <;> simp [sames]
  | a :: as, [] => by simp [sames]
  | a :: as, b :: bs => by
    simp only [sames, Bool.and_eq_true, List.cons.injEq]
    rw [same_iff a b, sames_iff as bs]
end
theorem sames_len : ∀ {as bs : List Dt}, sames as bs = true → as.length = bs.length := fun {as bs} h => by rw [(sames_iff as bs).mp h]
/-- from the k-th place on -/
theorem sames_drop {as bs : List Dt} (hl : as.length = bs.length) : ∀ k, k < bs.length → sames (as.drop k) (bs.drop k) = (same (as.getD k .non) (bs.getD k .non) && sames (as.drop (k + 1)) (bs.drop (k + 1))) := fun k hk => by
  rw [List.drop_eq_getElem_cons (show k < as.length by omega), List.drop_eq_getElem_cons hk]
  simp [sames, List.getD_eq_getElem?_getD, List.getElem?_eq_getElem hk, List.getElem?_eq_getElem (show k < as.length by omega)]
class Dep {α : Type} (r : Rp α) [t : Tod r] (n : outParam Nat) : Prop where
  le : ∀ a : α, (t.d a).dep ≤ n
instance : Dep rInt 0 := ⟨fun a => Nat.le_refl _⟩
instance : Dep rBl 0 := ⟨fun a => Nat.le_refl _⟩
instance : Dep rTx 0 := ⟨fun a => Nat.le_refl _⟩
instance {α : Type} (r : Rp α) [t : Tod r] (n : Nat) [h : Dep r n] : Dep (rLst r) (n + 1) := ⟨fun a => Nat.succ_le_succ (depAll_le fun x hx => by obtain ⟨y, _, rfl⟩ := List.mem_map.mp hx; exact h.le y)⟩
instance {α : Type} (r : Rp α) [t : Tod r] (n : Nat) [h : Dep r n] : Dep (rTup r) (n + 1) := ⟨fun a => Nat.succ_le_succ (depAll_le fun x hx => by obtain ⟨y, _, rfl⟩ := List.mem_map.mp hx; exact h.le y)⟩
instance {α β : Type} (r : Rp α) (s : Rp β) [t : Tod r] [t' : Tod s] (n k : Nat) [h : Dep r n] [h' : Dep s k] : Dep (rPr r s) (max n k + 1) := ⟨fun a => by
  show Dt.dep (.tup [t.d a.1, t'.d a.2]) ≤ _
  simp only [Dt.dep, depAll]
  have := h.le a.1
  have := h'.le a.2
  omega⟩
/-- the types' names -/
def Dt.ty : Dt → String
  | .non => "NoneType" | .bl _ => "bool" | .int _ => "int" | .tx _ => "str" | .lst _ => "list" | .tup _ => "tuple"
def isi (T : String) (d : Dt) : Bool := (kitB d.ty T).getD false
def kitOk (T : String) : Bool := ["NoneType", "bool", "int", "str", "list", "tuple"].all fun s => (kitB s T).isSome
def Dt.kB : Dt → Bool
  | .bl _ => true
  | _ => false
def Dt.kI : Dt → Bool
  | .bl _ => true
  | .int _ => true
  | _ => false
def Dt.kS : Dt → Bool
  | .tx _ => true
  | _ => false
def Dt.kL : Dt → Bool
  | .lst _ => true
  | _ => false
def Dt.kU : Dt → Bool
  | .tup _ => true
  | _ => false
theorem isi_b (d : Dt) : isi "bool" d = d.kB := by unfold isi; cases d <;> simp only [Dt.ty, Dt.kB] <;> decide +kernel
theorem isi_i (d : Dt) : isi "int" d = d.kI := by unfold isi; cases d <;> simp only [Dt.ty, Dt.kI] <;> decide +kernel
theorem isi_s (d : Dt) : isi "str" d = d.kS := by unfold isi; cases d <;> simp only [Dt.ty, Dt.kS] <;> decide +kernel
theorem isi_l (d : Dt) : isi "list" d = d.kL := by unfold isi; cases d <;> simp only [Dt.ty, Dt.kL] <;> decide +kernel
theorem isi_u (d : Dt) : isi "tuple" d = d.kU := by unfold isi; cases d <;> simp only [Dt.ty, Dt.kU] <;> decide +kernel
section
variable {F0 H0 : Hp} {G : List Slot} {m m1 m2 : Md} {ta tb tc te tl : TE} {tt : TT} {t u : TS} {K : PySem.W.Frag} {nx : L2.St → Hp → Prop} {rt : VK} {bk ct : L2.St → Hp → Prop}
theorem Ed.dt {α : Type} {r : Rp α} [h : Tod r] {a : α} (x : Ed F0 H0 te G m r a) : Ed F0 H0 te G m rDt (h.d a) := fun σ F H E Q q => x σ F H E Q fun v F' H' g hv => q v F' H' g (h.to hv)
theorem dt_ty {F H : Hp} {v : V} {d : Dt} (h : rDt F v d) (e : Ex F H) : TyX K H v (.type d.ty) := by
  cases d with
  | non => unfold rDt at h; subst h; exact .base .non
  | bl b => unfold rDt at h; subst h; exact .base (.bl _)
  | int i => unfold rDt at h; subst h; exact .base (.int _)
  | tx s => unfold rDt at h; obtain ⟨h, _⟩ := h; subst h; exact .base (.str _)
  | lst xs => unfold rDt at h; obtain ⟨p, vs, rfl, h2, _⟩ := h; exact .base (.lst (e _ _ h2))
  | tup xs => unfold rDt at h; obtain ⟨p, vs, rfl, h2, _⟩ := h; exact .base (.tup (e _ _ h2))
theorem kitOk_at {T : String} (h : kitOk T = true) (d : Dt) : kitB d.ty T = some (isi T d) := by
  have h := List.all_eq_true.mp h d.ty (by cases d <;> simp [Dt.ty])
  unfold isi
  cases e : kitB d.ty T with
  | none => rw [e] at h; cases h
  | some b => rfl
theorem ed_isi {T : String} {d : Dt} (h : Ed F0 H0 ta G m1 rDt d) (hT : kitOk T = true := by decide +kernel) : Ed F0 H0 (tCB (rIsi K) (tCons ta (tCons (tC (.ty T)) tNil))) G m rBl (isi T d) := fun σ F H E Q q =>
  h σ F H E _ fun v F1 H1 g1 hv => ⟨v, .ty T, .type d.ty, .type T, _, rfl, .ty T, dt_ty hv (pk_now (E.gr.trans g1)), kit_ty (kitOk_at hT d), q _ F1 H1 g1 rfl⟩
def Dt.isN : Dt → Bool
  | .non => true
  | _ => false
theorem ed_isND {d : Dt} (h : Ed F0 H0 ta G m1 rDt d) : Ed F0 H0 (tIsN ta) G m rBl d.isN :=
  ed_un (r := fun x H Q => Q (.bl (decide (x = .non))) H) h fun v F H g0 hv Q q => q _ F H (Gr.refl g0.fh) (by
    cases d with
    | non => unfold rDt at hv; subst hv; rfl
    | bl b => unfold rDt at hv; subst hv; rfl
    | int i => unfold rDt at hv; subst hv; rfl
    | tx s => unfold rDt at hv; obtain ⟨h, _⟩ := hv; subst h; rfl
    | lst xs => unfold rDt at hv; obtain ⟨p, vs, rfl, _⟩ := hv; rfl
    | tup xs => unfold rDt at hv; obtain ⟨p, vs, rfl, _⟩ := hv; rfl)
theorem Ed.dB {b : Bool} (h : Ed F0 H0 te G m rDt (.bl b)) : Ed F0 H0 te G m rBl b := fun σ F H E Q q => h σ F H E Q fun v F' H' g hv => q v F' H' g (by unfold rDt at hv; exact hv)
theorem Ed.dI {b : Int} (h : Ed F0 H0 te G m rDt (.int b)) : Ed F0 H0 te G m rInt b := fun σ F H E Q q => h σ F H E Q fun v F' H' g hv => q v F' H' g (by unfold rDt at hv; exact hv)
theorem Ed.dT {b : List Nat} (h : Ed F0 H0 te G m rDt (.tx b)) : Ed F0 H0 te G m rTx b := fun σ F H E Q q => h σ F H E Q fun v F' H' g hv => q v F' H' g (by unfold rDt at hv; exact hv)
theorem Ed.dL {b : List Dt} (h : Ed F0 H0 te G m rDt (.lst b)) : Ed F0 H0 te G m (rLst rDt) b := fun σ F H E Q q => h σ F H E Q fun v F' H' g hv => q v F' H' g (by unfold rDt at hv; obtain ⟨p, vs, h1, h2, h3, h4⟩ := hv; exact ⟨p, vs, h1, h2, h3, rDts_p.mp h4⟩)
theorem Ed.dU {b : List Dt} (h : Ed F0 H0 te G m rDt (.tup b)) : Ed F0 H0 te G m (rTup rDt) b := fun σ F H E Q q => h σ F H E Q fun v F' H' g hv => q v F' H' g (by unfold rDt at hv; obtain ⟨p, vs, h1, h2, h3, h4⟩ := hv; exact ⟨p, vs, h1, h2, h3, rDts_p.mp h4⟩)
instance : Inhabited Dt := ⟨.non⟩
/-- a list or a tuple of these -/
def Dt.items : Dt → List Dt
  | .lst xs => xs
  | .tup xs => xs
  | _ => []
def Dt.isSeq : Dt → Bool
  | .lst _ => true
  | .tup _ => true
  | _ => false
theorem ed_lenD {d : Dt} (hs : d.isSeq = true) (h : Ed F0 H0 ta G m1 rDt d) : Ed F0 H0 (tCB (rLenQ K) (tCons ta tNil)) G m rInt (d.items.length : Int) := by
  cases d with
  | lst xs => exact ed_lenL h.dL
  | tup xs => exact ed_lenU h.dU
  | _ => cases hs
theorem ed_ixDt {d : Dt} {i : Int} (hs : d.isSeq = true) (h : Ed F0 H0 ta G m rDt d) (hy : Ed F0 H0 tb G m2 rInt i) (hi : ixOk d.items.length i) : Ed F0 H0 (tOp (rIx K) ta tb) G m rDt (ixD d.items i) := by
  cases d with
  | lst xs =>
    exact ed_bin h.dL hy fun v w F H g0 hv hw Q q => by
      obtain ⟨p, vs, rfl, h1, h2, h3⟩ := hv
      obtain ⟨x, e, rx⟩ := pat h3 (atI_ok hi)
      exact .inl ⟨p, vs, i, x, rfl, hw, SqL.of (pk_now g0 _ _ h1), e, q _ F H (Gr.refl g0.fh) rx⟩
  | tup xs =>
    exact ed_bin h.dU hy fun v w F H g0 hv hw Q q => by
      obtain ⟨p, vs, rfl, h1, h2, h3⟩ := hv
      obtain ⟨x, e, rx⟩ := pat h3 (atI_ok hi)
      exact .inr (.inl ⟨p, vs, i, x, rfl, hw, SqT.of (pk_now g0 _ _ h1), e, q _ F H (Gr.refl g0.fh) rx⟩)
  | _ => cases hs
theorem same_ll (x b : List Dt) : same (.lst x) (.lst b) = sames x b := by simp only [same]
theorem same_uu (x b : List Dt) : same (.tup x) (.tup b) = sames x b := by simp only [same]
abbrev tI (K : PySem.W.Frag) (i : Nat) (T : String) : TE := tCB (rIsi K) (tCons (tVar i) (tCons (tC (.ty T)) tNil))
abbrev tEq01 : TE := tOp rEq (tVar 0) (tVar 1)
abbrev tSameLead (K : PySem.W.Frag) (rest : TS) : TS :=
  tSeq (tIfS (tB (tIsN (tVar 1))) (tRet (tIsN (tVar 0))) tNext)
  (tSeq (tIfS (tB (tI K 1 "bool")) (tRet (tAndV (tI K 0 "bool") tEq01)) tNext)
  (tSeq (tIfS (tB (tI K 1 "int")) (tRet (tAndV (tI K 0 "int") (tAndV (tNotV (tI K 0 "bool")) tEq01))) tNext)
  (tSeq (tIfS (tB (tI K 1 "str")) (tRet (tAndV (tI K 0 "str") tEq01)) tNext)
  (tSeq (tIfS (tAnd (tB (tI K 1 "list")) (tNot (tB (tI K 0 "list")))) (tRet (tC (.bl false))) tNext)
  (tSeq (tIfS (tAnd (tB (tI K 1 "tuple")) (tNot (tB (tI K 0 "tuple")))) (tRet (tC (.bl false))) tNext) rest)))))
theorem same_lead {a d : Dt} {ia id : Mo rDt} {rest : TS} (hq : Rt F0 H0 rt rBl (same a d)) (hr : a.isSeq = true → d.isSeq = true → same a d = sames a.items d.items → Gk F0 H0 (rest ⟨nx, rt, bk, ct⟩) [.bw rDt ia a, .bw rDt id d, .no]) : Gk F0 H0 (tSameLead K rest ⟨nx, rt, bk, ct⟩) [.bw rDt ia a, .bw rDt id d, .no] := by
  have e0 : Ed F0 H0 (tVar 0) [.bw rDt ia a, .bw rDt id d, .no] .b0 rDt a := ed_b rfl
  have e1 : Ed F0 H0 (tVar 1) [.bw rDt ia a, .bw rDt id d, .no] .b0 rDt d := ed_b rfl
  have i0 : ∀ T, kitOk T = true → Ed F0 H0 (tI K 0 T) [.bw rDt ia a, .bw rDt id d, .no] .sh rBl (isi T a) := fun T h => ed_isi e0 h
  have no : ∀ {tt : TT} {t : TS} {nx : L2.St → Hp → Prop} {rt : VK} {bk ct : L2.St → Hp → Prop}, Et F0 H0 tt [.bw rDt ia a, .bw rDt id d, .no] false → Gk F0 H0 nx [.bw rDt ia a, .bw rDt id d, .no] → Gk F0 H0 (tIfS tt t tNext ⟨nx, rt, bk, ct⟩) [.bw rDt ia a, .bw rDt id d, .no] := fun h k => gk_ifF h k
  have n1 : ∀ T, kitOk T = true → isi T d = false → Et F0 H0 (tB (tI K 1 T)) [.bw rDt ia a, .bw rDt id d, .no] false := fun T h e => (et_B (ed_isi (m := .sh) e1 h)).cast e
  have y1 : ∀ T, kitOk T = true → isi T d = true → Et F0 H0 (tB (tI K 1 T)) [.bw rDt ia a, .bw rDt id d, .no] true := fun T h e => (et_B (ed_isi (m := .sh) e1 h)).cast e
  have na : ∀ T, kitOk T = true → isi T d = false → Et F0 H0 (tAnd (tB (tI K 1 T)) (tNot (tB (tI K 0 T)))) [.bw rDt ia a, .bw rDt id d, .no] false := fun T h e => et_and (b := false) (n1 T h e) (fun z => nomatch z)
  have ya : ∀ T, kitOk T = true → isi T d = true → Et F0 H0 (tAnd (tB (tI K 1 T)) (tNot (tB (tI K 0 T)))) [.bw rDt ia a, .bw rDt id d, .no] (!isi T a) := fun T h e => et_and (y1 T h e) (fun _ => et_not (et_B (i0 T h)))
  have kb : kitOk "bool" = true := by decide +kernel
  have ki : kitOk "int" = true := by decide +kernel
  have ks : kitOk "str" = true := by decide +kernel
  have kl : kitOk "list" = true := by decide +kernel
  have ku : kitOk "tuple" = true := by decide +kernel
  cases d with
  | non =>
    refine gk_seq (gk_ifT (et_B (ed_isND (m := .sh) e1)) (gk_ret hq (ed_isND (m := .sh) e0) ?_))
    cases a <;> simp [same, Dt.isN]
  | bl b =>
    refine gk_seq (no (et_B (ed_isND (m := .sh) e1)) (gk_seq (gk_ifT (y1 _ kb (isi_b _)) ?_)))
    cases a with
    | bl x => exact gk_ret hq (ed_andV (m := .sh) (i0 _ kb) (fun _ => ed_eq (m := .sh) e0.dB e1.dB)) (by simp only [isi_b, isi_i, isi_s]; simp [same, Dt.kB, Dt.kI, Dt.kS])
    | _ => exact gk_ret hq (ed_andV (m := .sh) (m2 := .sh) (b := false) (i0 _ kb) (fun z => nomatch z)) (by simp only [isi_b, isi_i, isi_s]; simp [same, Dt.kB, Dt.kI, Dt.kS])
  | int b =>
    refine gk_seq (no (et_B (ed_isND (m := .sh) e1)) (gk_seq (no (n1 _ kb (isi_b _)) (gk_seq (gk_ifT (y1 _ ki (isi_i _)) ?_)))))
    cases a with
    | int x => exact gk_ret hq (ed_andV (m := .sh) (i0 _ ki) (fun _ => ed_andV (m := .sh) (ed_notV (m := .sh) (i0 _ kb)) (fun _ => ed_eq (m := .sh) e0.dI e1.dI))) (by simp only [isi_b, isi_i, isi_s]; simp [same, Dt.kB, Dt.kI, Dt.kS])
    | bl x => exact gk_ret hq (ed_andV (m := .sh) (i0 _ ki) (fun _ => ed_andV (m := .sh) (m2 := .sh) (b := false) (ed_notV (m := .sh) (i0 _ kb)) (fun z => nomatch z))) (by simp only [isi_b, isi_i, isi_s]; simp [same, Dt.kB, Dt.kI, Dt.kS])
    | _ => exact gk_ret hq (ed_andV (m := .sh) (m2 := .sh) (b := false) (i0 _ ki) (fun z => nomatch z)) (by simp only [isi_b, isi_i, isi_s]; simp [same, Dt.kB, Dt.kI, Dt.kS])
  | tx b =>
    refine gk_seq (no (et_B (ed_isND (m := .sh) e1)) (gk_seq (no (n1 _ kb (isi_b _)) (gk_seq (no (n1 _ ki (isi_i _)) (gk_seq (gk_ifT (y1 _ ks (isi_s _)) ?_)))))))
    cases a with
    | tx x => exact gk_ret hq (ed_andV (m := .sh) (i0 _ ks) (fun _ => ed_eq (m := .sh) e0.dT e1.dT)) (by simp only [isi_b, isi_i, isi_s]; simp [same, Dt.kB, Dt.kI, Dt.kS])
    | _ => exact gk_ret hq (ed_andV (m := .sh) (m2 := .sh) (b := false) (i0 _ ks) (fun z => nomatch z)) (by simp only [isi_b, isi_i, isi_s]; simp [same, Dt.kB, Dt.kI, Dt.kS])
  | lst b =>
    refine gk_seq (no (et_B (ed_isND (m := .sh) e1)) (gk_seq (no (n1 _ kb (isi_b _)) (gk_seq (no (n1 _ ki (isi_i _)) (gk_seq (no (n1 _ ks (isi_s _)) (gk_seq ?_))))))))
    cases a with
    | lst x => exact no ((ya _ kl (isi_l _)).cast (by rw [isi_l]; rfl)) (gk_seq (no (na _ ku (isi_u _)) (hr rfl rfl (same_ll _ _))))
    | _ => exact gk_ifT ((ya _ kl (isi_l _)).cast (by rw [isi_l]; rfl)) (gk_ret hq (ed_bl (m := .sh)) (by simp only [same]))
  | tup b =>
    refine gk_seq (no (et_B (ed_isND (m := .sh) e1)) (gk_seq (no (n1 _ kb (isi_b _)) (gk_seq (no (n1 _ ki (isi_i _)) (gk_seq (no (n1 _ ks (isi_s _)) (gk_seq (no (na _ kl (isi_l _)) (gk_seq ?_))))))))))
    cases a with
    | tup x => exact no ((ya _ ku (isi_u _)).cast (by rw [isi_u]; rfl)) (hr rfl rfl (same_uu _ _))
    | _ => exact gk_ifT ((ya _ ku (isi_u _)).cast (by rw [isi_u]; rfl)) (gk_ret hq (ed_bl (m := .sh)) (by simp only [same]))
/-- what is asked of the two -/
abbrev ptSame : Pt (Dt × Dt × Unit) := .cons .bo rDt inferInstance (.cons .bo rDt inferInstance .nil)
abbrev spSame (n : Nat) : Sp := spV ptSame (fun a => a.2.1.dep ≤ n) (fun a => same a.1 a.2.1) rBl
abbrev tSameRest (K : PySem.W.Frag) (sp : Sp) : TS :=
  tSeq (tIfS (tTest (tOp rNe (tCB (rLenQ K) (tCons (tVar 0) tNil)) (tCB (rLenQ K) (tCons (tVar 1) tNil)))) (tRet (tC (.bl false))) tNext)
  (tSeq (tFor (iRng1 (tCons (tCB (rLenQ K) (tCons (tVar 1) tNil)) tNil)) (gName 2)
    (tIfS (tNot (tB (tCall sp [] E0 (tCons (tOp (rIx K) (tVar 0) (tVar 2)) (tCons (tOp (rIx K) (tVar 1) (tVar 2)) tNil))))) (tRet (tC (.bl false))) tNext))
  (tRet (tC (.bl true))))
theorem lw3 {s t u s' t' : Slot} (h1 : s = s') (h2 : t = t') : Lw [s, t, u] [s', t', .no] := ⟨.inr h1, .inr h2, .inl rfl, trivial⟩
theorem dep_items {d : Dt} {n : Nat} (hs : d.isSeq = true) (h : d.dep ≤ n + 1) : depAll d.items ≤ n := by
  cases d with
  | lst xs => simp only [Dt.dep] at h; exact Nat.le_of_succ_le_succ h
  | tup xs => simp only [Dt.dep] at h; exact Nat.le_of_succ_le_succ h
  | _ => cases hs
theorem same_rest {a d : Dt} {ia id : Mo rDt} {n : Nat} (hq : Rt F0 H0 rt rBl (same a d)) (h1 : a.isSeq = true) (h2 : d.isSeq = true) (he : same a d = sames a.items d.items) (hd : d.dep ≤ n + 1) (hz : d.items.length ≤ 16777216) : Gk F0 H0 (tSameRest K (spSame n) ⟨nx, rt, bk, ct⟩) [.bw rDt ia a, .bw rDt id d, .no] := by
  rw [he] at hq
  have e0 : ∀ F0, Ed F0 H0 (tVar 0) [.bw rDt ia a, .bw rDt id d, .no] .b0 rDt a := fun _ => ed_b rfl
  have e1 : ∀ F0, Ed F0 H0 (tVar 1) [.bw rDt ia a, .bw rDt id d, .no] .b0 rDt d := fun _ => ed_b rfl
  refine gk_seq (gk_if (et_T (ed_ne (m := .sh) (ed_lenD (m := .sh) h1 (e0 _)) (ed_lenD (m := .sh) h2 (e1 _)))) (fun h => ?_) (fun h => ?_))
  · refine gk_ret hq (ed_bl (m := .sh)) ?_
    cases hc : sames a.items d.items with
    | false => rfl
    | true => rw [sames_len hc] at h; simp at h
  have hl : a.items.length = d.items.length := by simp at h; omega
  refine gk_next (gk_seq (gk_run (S := Unit) (fun rem _ => ∃ k : Nat, rem = (rng (d.items.length : Int)).drop k ∧ k ≤ d.items.length ∧ sames a.items d.items = sames (a.items.drop k) (d.items.drop k)) (fun _ G => G.set 2 .no) () (ei_rng1 (ed_lenD (m := .sh) h2 (e1 _)) (by omega) (by omega)) eg_name (lw3 rfl rfl) ⟨0, rfl, Nat.zero_le _, rfl⟩ (fun F1 b x rest s hx hi => ?_) (fun s hi => ?_)))
  · obtain ⟨k, hk, hkl, hs⟩ := hi
    have hkk : k < d.items.length := by
      by_cases c : k < d.items.length
      · exact c
      · rw [List.drop_eq_nil_of_le (by rw [rng_len]; omega)] at hk; cases hk
    have hx' : x = (k : Int) ∧ rest = (rng (d.items.length : Int)).drop (k + 1) := by
      rw [List.drop_eq_getElem_cons (by rw [rng_len]; omega)] at hk
      injection hk with a1 a2
      refine ⟨?_, a2⟩
      have := rng2_get (a := 0) (b := (d.items.length : Int)) (i := k) (by omega)
      unfold rng at a1
      rw [List.getElem?_eq_getElem (by rw [rng2_len]; omega)] at this
      rw [a1, Option.some.inj this]; omega
    obtain ⟨rfl, rfl⟩ := hx'
    rw [sames_drop hl k hkk] at hs
    have ix0 : ixD a.items (k : Int) = a.items.getD k .non := ixD_nat _ _
    have ix1 : ixD d.items (k : Int) = d.items.getD k .non := ixD_nat _ _
    have hmem : (d.items.getD k .non).dep ≤ n := by
      refine Nat.le_trans (dep_mem ?_) (dep_items h2 hd)
      rw [List.getD_eq_getElem?_getD, List.getElem?_eq_getElem hkk]
      exact List.getElem_mem _
    refine gk_if (et_not (et_B (ed_call (ea_cons (Ed.bo (ed_ixDt h1 (ed_b (im := ia) rfl) (ed_v (i := 2) rfl) ⟨by omega, by omega⟩)) (ea_cons (Ed.bo (ed_ixDt h2 (ed_b (im := id) rfl) (ed_v (i := 2) rfl) ⟨by omega, by omega⟩)) ea_nil)) (Pt.now _) (by show (ixD d.items (k : Int)).dep ≤ n; rw [ix1]; exact hmem)))) (fun h => ?_) (fun h => ?_)
    · refine gk_ret (hq.up b) (ed_bl (m := .sh)) ?_
      simp only [Bool.not_eq_true', ix0, ix1] at h
      rw [hs, h]; rfl
    · refine gk_next (gk_again () (lw3 rfl rfl) ⟨k + 1, rfl, hkk, ?_⟩)
      simp only [Bool.not_eq_false', ix0, ix1] at h
      rw [hs, h]; rfl
  · obtain ⟨k, hk, hkl, hs⟩ := hi
    refine gk_ret hq (ed_bl (m := .sh)) ?_
    have hk' : d.items.length ≤ k := by
      have := congrArg List.length hk
      rw [List.length_drop, rng_len] at this
      simp at this; omega
    rw [hs, List.drop_eq_nil_of_le (by omega), List.drop_eq_nil_of_le (by omega)]
    simp [sames]
theorem gk_sameR {a d : Dt} {ia id : Mo rDt} {n : Nat} (hq : Rt F0 H0 rt rBl (same a d)) (h1 : a.isSeq = true) (h2 : d.isSeq = true) (he : same a d = sames a.items d.items) (hd : d.dep ≤ n + 1) : Gk F0 H0 (tSameRest K (spSame n) ⟨nx, rt, bk, ct⟩) [.bw rDt ia a, .bw rDt id d, .no] := fun σ F H E => by
  obtain ⟨v, hx, ok⟩ := E.bw_at (i := 1) rfl
  have hz : d.items.length ≤ 16777216 := by
    cases d with
    | lst xs => unfold rDt at ok; obtain ⟨p, vs, _, _, h3, _⟩ := ok; exact h3
    | tup xs => unfold rDt at ok; obtain ⟨p, vs, _, _, h3, _⟩ := ok; exact h3
    | _ => cases h2
  exact same_rest hq h1 h2 he hd hz σ F H E
theorem same_d {α : Type} {r : Rp α} [t : Tod r] [DecidableEq α] (a b : α) : same (t.d a) (t.d b) = decide (a = b) := by
  by_cases h : a = b
  · subst h; rw [decide_eq_true rfl]; exact (same_iff _ _).mpr rfl
  · rw [decide_eq_false h]
    cases e : same (t.d a) (t.d b) with
    | false => rfl
    | true => exact absurd (t.inj ((same_iff _ _).mp e)) h
/-- a call of it -/
theorem ed_same {α : Type} {r : Rp α} [ht : Tod r] [DecidableEq α] {k n : Nat} [hd : Dep r k] {a b : α} (ha : Ed F0 H0 ta G m1 r a) (hb : Ed F0 H0 tb G m2 r b) (hn : k ≤ n := by decide) : Ed F0 H0 (tCall (spSame n) [] E0 (tCons ta (tCons tb tNil))) G .sh rBl (decide (a = b)) :=
  (ed_call (ea_cons (Ed.bo ha.dt) (ea_cons (Ed.bo hb.dt) ea_nil)) (Pt.now _) (Nat.le_trans (hd.le b) hn)).cast (same_d a b)
end
end LK

set_option Elab.async false
set_option linter.all false
set_option maxRecDepth 100000
set_option maxHeartbeats 4000000
set_option autoImplicit false
/-! LK7: own lists of own lists; pop. -/
namespace LK
open PySem L2 PyProof.Rows PySem.Spec
/-- the list at q holds xs -/
def AtL {α : Type} (r : Rp α) (F H : Hp) (q : Addr) (xs : List α) : Prop := ∃ vs, H q = some (.lst vs) ∧ xs.length ≤ 16777216 ∧ Paired (r F) vs xs
theorem AtL.mo {α : Type} {r : Rp α} [h : Mo r] {F F' H H' : Hp} {q : Addr} {xs : List α} (e : Exs F F') (k : H' q = H q) (a : AtL r F H q xs) : AtL r F' H' q xs := by
  obtain ⟨vs, h1, h2, h3⟩ := a
  exact ⟨vs, by rw [k]; exact h1, h2, pmap (fun _ _ z => h.mo e z) h3⟩
theorem pmem {α β : Type} {R S : α → β → Prop} : ∀ {xs : List α} {ys : List β}, (∀ a b, a ∈ xs → R a b → S a b) → Paired R xs ys → Paired S xs ys
  | _, _, _, .nil => .nil
  | _, _, f, .cons h t => .cons (f _ _ List.mem_cons_self h) (pmem (fun a b ha hr => f a b (List.mem_cons_of_mem _ ha) hr) t)
theorem pin {α β : Type} {R : α → β → Prop} : ∀ {xs : List α} {ys : List β}, Paired R xs ys → ∀ a ∈ xs, ∃ b, R a b
  | _, _, .cons h t, a, ha => by
    rcases List.mem_cons.mp ha with e | e
    · subst e; exact ⟨_, h⟩
    · exact pin t a e
/-- an own list of own lists -/
def mLL {α : Type} (r : Rp α) (xss : List (List α)) : Mu := fun F H p S => ∃ qs, S = p :: qs ∧ (p :: qs).Nodup ∧ H p = some (.lst (qs.map V.ref)) ∧ xss.length ≤ 16777216 ∧ Paired (AtL r F H) qs xss
instance {α : Type} (r : Rp α) [h : Mo r] (xss : List (List α)) : MoM (mLL r xss) := ⟨fun e k ⟨qs, h1, h2, h3, h4, h5⟩ => ⟨qs, h1, h2, by rw [k _ (by rw [h1]; simp)]; exact h3, h4, pmem (fun q xs hq a => a.mo e (k q (by rw [h1]; simp [hq]))) h5⟩,
  fun ⟨qs, h1, h2, h3, h4, h5⟩ a ha => by
    rw [h1] at ha
    rcases List.mem_cons.mp ha with e | e
    · rw [e, h3]; exact fun z => nomatch z
    · obtain ⟨b, vs, z, _⟩ := pin h5 a e
      rw [z]; exact fun z => nomatch z⟩
abbrev sLL {α : Type} (r : Rp α) [Mo r] (xss : List (List α)) : Slot := sO (mLL r xss)
section
variable {F0 H0 : Hp} {G G' : List Slot} {m m1 m2 : Md} {ta tb tc te tl : TE} {tt : TT} {t u : TS} {K : PySem.W.Frag} {wi : TI} {g : TG} {nx : L2.St → Hp → Prop} {rt : VK} {bk ct : L2.St → Hp → Prop}
/-- several new lists -/
def Enn {α : Type} (F0 H0 : Hp) (t : TA) (G : List Slot) (r : Rp α) (xss : List (List α)) : Prop := ∀ σ F H, EnvOk F0 H0 G σ F H → ∀ Q : List V → Hp → Prop, (∀ qs F' H', Gr F H F' H' → qs.Nodup → (∀ q ∈ qs, H q = none ∧ F' q = none) → Paired (AtL r F' H') qs xss → Q (qs.map V.ref) H') → t σ H Q
theorem enn_nil {α : Type} {r : Rp α} : Enn F0 H0 tNil G r [] := fun σ F H E Q q => q [] F H (Gr.refl E.gr.fh) List.nodup_nil (fun _ z => nomatch z) .nil
theorem enn_cons {α : Type} {r : Rp α} [Mo r] {tr : TA} {xs : List α} {xss : List (List α)} (h : En F0 H0 ta G r xs) (hr : Enn F0 H0 tr G r xss) : Enn F0 H0 (tCons ta tr) G r (xs :: xss) := fun σ F H E Q q =>
  h σ F H E _ fun p vs F1 H1 g1 h1 h2 h3 h4 h5 => hr σ F1 H1 (E.gro g1) _ fun qs F2 H2 g2 n2 k2 p2 => by
    have hp : p ∉ qs := fun z => by have := (k2 p z).1; rw [h3] at this; cases this
    refine q (p :: qs) F2 H2 (g1.trans g2) (List.nodup_cons.mpr ⟨hp, n2⟩) (fun a ha => ?_) (.cons ⟨vs, g2.hh _ _ h3, h4, pmap (fun _ _ z => mox g2.ff z) h5⟩ p2)
    rcases List.mem_cons.mp ha with e | e
    · subst e
      refine ⟨h1, ?_⟩
      cases c : F2 a with
      | none => rfl
      | some o => have := g2.nw a o c h2; rw [h3] at this; cases this
    · exact ⟨g1.hh.back (k2 a e).1, (k2 a e).2⟩
theorem gk_asgNN {α : Type} {r : Rp α} [im : Mo r] {ts : TA} {xss : List (List α)} {i : Nat} (h : Enn F0 H0 ts G r xss) (hl : xss.length ≤ 16777216) (k : ∀ x, x = xss → Gk F0 H0 nx (G.set i (sLL r x))) : Gk F0 H0 (tAsg (tLst ts) (gName i) ⟨nx, rt, bk, ct⟩) G := fun σ F H E =>
  h σ F H E _ fun qs F1 H1 g1 n1 k1 p1 => ⟨by rw [List.length_map, plen p1]; exact sz_le hl, fun p hp => k _ rfl _ F1 _ (E.setO (S := p :: qs) (g1.trans (Gr.wild g1.fh hp)) (fun a ha => by
    rcases List.mem_cons.mp ha with e | e
    · subst e; exact ⟨g1.hh.back hp, g1.fh.back hp⟩
    · exact k1 a e) (by
    have np : p ∉ qs := fun z => by
      obtain ⟨b, vs, z2, _⟩ := pin p1 p z
      rw [hp] at z2; cases z2
    exact ⟨qs, rfl, List.nodup_cons.mpr ⟨np, n1⟩, upd_same, hl, pmem (fun q xs hq a => a.mo (Ex.refl F1).s (upd_ne (fun z => np (z ▸ hq)))) p1⟩))⟩
theorem at_rep {α : Type} {r : Rp α} [Mo r] {F H F' : Hp} (e : Ex F F') : ∀ {qs : List Addr} {xss : List (List α)}, (∀ q ∈ qs, ∀ o, H q = some o → F' q = some o) → Paired (AtL r F H) qs xss → Paired (rLst r F') (qs.map V.ref) xss
  | _, _, _, .nil => .nil
  | _, _, k, .cons a t => by
    obtain ⟨vs, b1, b2, b3⟩ := a
    exact .cons ⟨_, vs, rfl, k _ (by simp) _ b1, b2, pmap (fun _ _ z => mox e z) b3⟩ (at_rep e (fun q hq => k q (by simp [hq])) t)
/-- read as it stands -/
theorem ed_oo {α : Type} {r : Rp α} [Mo r] {xss : List (List α)} {im : MoM (mLL r xss)} {i : Nat} (h : G[i]? = some (.ow (mLL r xss) im)) : Ed F0 H0 (tVar i) G .bo (rLst (rLst r)) xss := fun σ F H E Q q => by
  obtain ⟨p, S, hx, h1, qs, h2, h3, h4, h5, h6⟩ := E.ow_at h
  exact ⟨_, hx, q _ F H (Gr.refl E.gr.fh) ⟨p, _, rfl, h4, h5, at_rep E.gr.fh (fun _ _ _ z => z) h6⟩⟩
theorem gk_freezeLL {α : Type} {r : Rp α} [im : Mo r] {xss : List (List α)} {iM : MoM (mLL r xss)} {k : L2.St → Hp → Prop} (i : Nat) (hi : G[i]? = some (.ow (mLL r xss) iM)) (h : Gk F0 H0 k (G.set i (sF (rLst (rLst r)) xss))) : Gk F0 H0 k G := fun σ F H E => by
  obtain ⟨F', E', _⟩ := E.freeze (s := sF (rLst (rLst r)) xss) hi (fun p S F' ⟨qs, h1, h2, h3, h4, h5⟩ hp ee _ => ⟨.ref p, rfl, p, _, rfl, by rw [hp p (by rw [h1]; simp)]; exact h3, h4, at_rep ee (fun q hq o z => by rw [hp q (by rw [h1]; simp [hq])]; exact z) h5⟩) (fun _ _ z => nomatch z)
  exact h σ F' H E'
theorem Paired.ref_at : ∀ {qs : List Addr} {i : Int} {v : V}, atI (qs.map V.ref) i = some v → ∃ j q, ixN qs.length i = some j ∧ qs[j]? = some q ∧ v = .ref q := fun {qs i v} h => by
  unfold atI at h
  rw [List.length_map] at h
  cases e : ixN qs.length i with
  | none => rw [e] at h; cases h
  | some j =>
    rw [e] at h
    have h : (qs.map V.ref)[j]? = some v := h
    rw [List.getElem?_map] at h
    cases q : qs[j]? with
    | none => rw [q] at h; cases h
    | some a => rw [q] at h; cases h; exact ⟨j, a, rfl, q, rfl⟩
theorem nodup_ix {α : Type} {l : List α} (hN : l.Nodup) {i j : Nat} {x : α} (a : l[i]? = some x) (b : l[j]? = some x) : i = j := L2.nd_ix hN a b
theorem at_set {α : Type} {r : Rp α} [h : Mo r] {F H : Hp} {q : Addr} {vs : List V} {ys : List α} (hy : ys.length ≤ 16777216) (hv : Paired (r F) vs ys) : ∀ {qs : List Addr} {xss : List (List α)} (n : Nat), qs.Nodup → qs[n]? = some q → Paired (AtL r F H) qs xss → Paired (AtL r F (upd H q (.lst vs))) qs (xss.set n ys)
  | _, _, n, _, hn, .nil => by simp at hn
  | x1 :: l1, y1 :: l2, 0, nd, hn, .cons a1 t1 => by
    have e : x1 = q := Option.some.inj hn
    subst e
    obtain ⟨d1, d2⟩ := List.nodup_cons.mp nd
    exact .cons ⟨vs, upd_same, hy, hv⟩ (pmem (fun b xs hb a => a.mo (Ex.refl F).s (upd_ne (fun z => d1 (z ▸ hb)))) t1)
  | x1 :: l1, y1 :: l2, n + 1, nd, hn, .cons a1 t1 => by
    obtain ⟨d1, d2⟩ := List.nodup_cons.mp nd
    have hn : l1[n]? = some q := hn
    have hq : q ∈ l1 := List.mem_of_getElem? hn
    exact .cons (a1.mo (Ex.refl F).s (upd_ne (fun z => d1 (z ▸ hq)))) (at_set hy hv n d2 hn t1)
/-- rows[j].append(e) -/
theorem gk_appLL {α : Type} {r : Rp α} [im : Mo r] {xss : List (List α)} {iM : MoM (mLL r xss)} {a : α} {i : Nat} {tj : TE} {j : Int} (hi : G[i]? = some (.ow (mLL r xss) iM)) (hj : Ed F0 H0 tj G m rInt j) (hk : 0 ≤ j ∧ j < xss.length) (h : Ed F0 H0 te G .sh r a) (hl : (ixD xss j).length < 16777216)
    (k : ∀ x, x = xss.set j.toNat (ixD xss j ++ [a]) → Gk F0 H0 nx (G.set i (sLL r x))) : Gk F0 H0 (tDrop (tBM K "list" rAppend (tOp (rIxL K) (tVar i) tj) (tCons te tNil)) ⟨nx, rt, bk, ct⟩) G := fun σ F H E => by
  obtain ⟨p, S, hx, h1, qs, h2, h3, h4, h5, h6⟩ := E.ow_at hi
  have hlen := plen h6
  have hjn : j.toNat < qs.length := by omega
  have hq : qs[j.toNat]? = some qs[j.toNat] := List.getElem?_eq_getElem hjn
  have hxj : xss[j.toNat]? = some (ixD xss j) := by
    have e := atI_ok (xs := xss) (i := j) ⟨by omega, hk.2⟩
    unfold atI ixN at e
    rw [if_pos hk.1, if_pos hk.2] at e
    exact e
  obtain ⟨q0, hq0, vs, b1, b2, b3⟩ := pget h6 hxj
  rw [hq] at hq0; cases hq0
  have hq' : qs[j.toNat]? = some qs[j.toNat] := hq
  generalize hqq : qs[j.toNat] = q at hq b1
  have hqm : q ∈ qs := by rw [← hqq]; exact List.getElem_mem _
  refine ⟨_, hx, hj σ F H E _ fun w F1 H1 g1 hw => ?_⟩
  refine ⟨p, qs.map V.ref, j, .ref q, rfl, hw, SqL.of (g1.hh _ _ h4), ?_, ?_⟩
  · unfold atI ixN
    rw [List.length_map, if_pos hk.1, if_pos (by omega)]
    show (qs.map V.ref)[j.toNat]? = _
    rw [List.getElem?_map, hq]; rfl
  refine ⟨.inl ⟨rfl, vs, SqL.of (g1.hh _ _ b1)⟩, h σ F1 H1 (E.gro g1) _ fun v F2 H2 g2 hv => ?_⟩
  have g := g1.trans g2
  refine ⟨q, vs, v, rfl, rfl, g.hh _ _ b1, by rw [plen b3]; exact sz_lt hl, ?_⟩
  refine k _ rfl σ F2 _ ((E.gro g).mut (p := p) (S := []) (S' := []) hi fun p' S' hp' hS' ⟨qs', c1, c2, c3, c4, c5⟩ => ?_)
  rw [hx] at hp'; cases hp'
  have eqs : qs' = qs := by
    have z := g.hh _ _ h4
    rw [z] at c3
    have z2 : qs.map V.ref = qs'.map V.ref := by injection c3 with c3; injection c3
    exact (map_inj (fun e => by injection e) z2).symm
  subst eqs
  subst c1
  have nF : ∀ a ∈ p :: qs', F2 a = none := fun a ha => (hS' a ha).1
  have npq : p ≠ q := fun z => (List.nodup_cons.mp c2).1 (z ▸ hqm)
  refine ⟨p :: qs', Ex.refl F2, fun a u e n => (by rw [n] at e; cases e), fun a ha _ _ => upd_ne (fun z => ha (by rw [z]; exact List.mem_cons_of_mem _ hqm)), fun a u e => ?_, fun a ha => ⟨.inl ha, nF a ha⟩, qs', rfl, c2, by rw [upd_ne npq]; exact c3, by rw [List.length_set]; exact h5, ?_⟩
  · rw [upd_ne (ne_of_none e (nF q (List.mem_cons_of_mem _ hqm)))]; exact g.fh a u e
  · exact at_set (by simp; omega) (papp (pmap (fun _ _ z => mox g.ff z) b3) (.cons hv .nil)) j.toNat (List.nodup_cons.mp c2).2 hq c5

/-! ### pop -/
/-- an expression that changes the slots to G' -/
def Edm {α : Type} (F0 H0 : Hp) (t : TE) (G G' : List Slot) (r : Rp α) (a : α) : Prop := ∀ σ F H, EnvOk F0 H0 G σ F H → ∀ Q : VK, (∀ v F' H', EnvOk F0 H0 G' σ F' H' → Ex F F' → r F' v a → Q v H') → t σ H Q
def Etm (F0 H0 : Hp) (t : TT) (G G' : List Slot) (b : Bool) : Prop := ∀ σ F H, EnvOk F0 H0 G σ F H → ∀ Q : Bool → Hp → Prop, (∀ F' H', EnvOk F0 H0 G' σ F' H' → Q b H') → t σ H Q
theorem edm_pop {α : Type} {r : Rp α} [im : Mo r] [Inhabited α] {xs : List α} {iM : MoM (mL r xs)} {i : Nat} (hi : G[i]? = some (.ow (mL r xs) iM)) (hl : 0 < xs.length) : Edm F0 H0 (tBM0 K "list" rPop (tVar i)) G (G.set i (sL r xs.dropLast)) r (ixD xs ((xs.length : Int) - 1)) := fun σ F H E Q q => by
  obtain ⟨p, vs, hx, h1, h2, h3, h4, h5⟩ := E.lst_at hi
  have e := atI_ok (xs := xs) (i := (xs.length : Int) - 1) ⟨by omega, by omega⟩
  have e' : xs[xs.length - 1]? = some (ixD xs ((xs.length : Int) - 1)) := by
    unfold atI ixN at e
    rw [if_pos (by omega), if_pos (by omega)] at e
    have z : ((xs.length : Int) - 1).toNat = xs.length - 1 := by omega
    rw [z] at e
    exact e
  obtain ⟨v, hv, rv⟩ := pget h5 e'
  refine ⟨_, hx, .inl ⟨rfl, _, SqL.of h3⟩, p, vs, v, rfl, rfl, h3, by rw [plen h5]; exact hv, ?_⟩
  exact q v F _ (E.mutL hi hx (by simp; omega) (pdl h5)) (Ex.refl F) rv
/-- xs.pop(k) -/
theorem edm_popAt {α : Type} {r : Rp α} [im : Mo r] [Inhabited α] {xs : List α} {iM : MoM (mL r xs)} {i : Nat} {k : Int} (hi : G[i]? = some (.ow (mL r xs) iM)) (h : Ed F0 H0 te G m rInt k) (hk : 0 ≤ k ∧ k < xs.length) : Edm F0 H0 (tBM K "list" rPopAt (tVar i) (tCons te tNil)) G (G.set i (sL r (xs.eraseIdx k.toNat))) r (ixD xs k) := fun σ F H E Q q => by
  obtain ⟨p, vs, hx, h1, h2, h3, h4, h5⟩ := E.lst_at hi
  have e := atI_ok (xs := xs) (i := k) ⟨by omega, hk.2⟩
  have e' : xs[k.toNat]? = some (ixD xs k) := by
    unfold atI ixN at e
    rw [if_pos hk.1, if_pos hk.2] at e
    exact e
  obtain ⟨v, hv, rv⟩ := pget h5 e'
  have hl := plen h5
  refine ⟨_, hx, .inl ⟨rfl, _, SqL.of h3⟩, h σ F H E _ fun w F1 H1 g1 hw => ⟨p, vs, k, k.toNat, v, rfl, by rw [show w = _ from hw], g1.hh _ _ h3, by omega, by omega, by rw [seqIndex_of hk.1 (by omega)], hv, ?_⟩⟩
  exact q v F1 _ ((E.gro g1).mutL hi hx (Nat.le_trans (List.length_eraseIdx_le _ _) h4) (perase _ (pmap (fun _ _ z => mox g1.ff z) h5))) g1.ff (mox g1.ff rv)
theorem edm_of {α : Type} {r : Rp α} {a : α} (h : Ed F0 H0 te G .sh r a) : Edm F0 H0 te G G r a := fun σ F H E Q q => h σ F H E Q fun v F' H' g hv => q v F' H' (E.gro g) g.ff hv
theorem etm_iop {x y : Int} {c : Bool} {f : Int → Int → V} (hx : Edm F0 H0 ta G G' rInt x) (hy : Ed F0 H0 tb G' m rInt y) (hf : f x y = .bl c) : Etm F0 H0 (tTest (tOp (rI0 f) ta tb)) G G' c := fun σ F H E Q q =>
  hx σ F H E _ fun v F1 H1 E1 _ hv => hy σ F1 H1 E1 _ fun w F2 H2 g2 hw => ⟨x, y, hv, hw, c, hf, q F2 H2 (E1.gro g2)⟩
theorem gk_ifm {b : Bool} (h : Etm F0 H0 tt G G' b) (h1 : b = true → Gk F0 H0 (t ⟨nx, rt, bk, ct⟩) G') (h2 : b = false → Gk F0 H0 (u ⟨nx, rt, bk, ct⟩) G') : Gk F0 H0 (tIfS tt t u ⟨nx, rt, bk, ct⟩) G := fun σ F H E =>
  h σ F H E _ fun F1 H1 E1 => by
    cases b with
    | true => exact h1 rfl σ F1 H1 E1
    | false => exact h2 rfl σ F1 H1 E1
theorem gk_asgm {α : Type} {r : Rp α} [im : Mo r] {a : α} {i : Nat} (h : Edm F0 H0 te G G' r a) (k : ∀ x, x = a → Gk F0 H0 nx (G'.set i (.fz r im x))) : Gk F0 H0 (tAsg te (gName i) ⟨nx, rt, bk, ct⟩) G := fun σ F H E =>
  h σ F H E _ fun v F1 H1 E1 _ hv => k _ rfl _ F1 H1 (E1.set ⟨v, rfl, hv⟩ fun _ _ z => nomatch z)
/-- ys.append(an expression that changes another list) -/
theorem gk_appm {α : Type} {r : Rp α} [im : Mo r] {ys : List α} {iM iM' : MoM (mL r ys)} {a : α} {i : Nat} (hi : G[i]? = some (.ow (mL r ys) iM)) (hi' : G'[i]? = some (.ow (mL r ys) iM')) (h : Edm F0 H0 te G G' r a) (hl : ys.length < 16777216) (k : ∀ x, x = ys ++ [a] → Gk F0 H0 nx (G'.set i (sL r x))) :
    Gk F0 H0 (tDrop (tBM K "list" rAppend (tVar i) (tCons te tNil)) ⟨nx, rt, bk, ct⟩) G := fun σ F H E => by
  obtain ⟨p, vs, hx, h1, h2, h3, h4, h5⟩ := E.lst_at hi
  refine ⟨_, hx, .inl ⟨rfl, _, SqL.of h3⟩, h σ F H E _ fun v F1 H1 E1 _ hv => ?_⟩
  obtain ⟨p', vs', hx', k1, k2, k3, k4, k5⟩ := E1.lst_at hi'
  rw [hx] at hx'; cases hx'
  refine ⟨p, vs', v, rfl, rfl, k3, by rw [plen k5]; exact sz_lt hl, ?_⟩
  exact k _ rfl σ F1 _ (E1.mutL hi' hx (by simp; omega) (papp k5 (.cons hv .nil)))
end
end LK

set_option Elab.async false
set_option linter.all false
set_option maxRecDepth 100000
set_option maxHeartbeats 4000000
set_option autoImplicit false
/-! LK8: == of lists and tuples; list(range). -/
namespace LK
open PySem L2 PyProof.Rows PySem.Spec

/-! ### data that == compares at any depth -/
class Da {α : Type} (r : Rp α) where
  d : α → PyData
  dp : ∀ {F H : Hp} {K : PySem.W.Frag} {v : V} {a : α}, r F v a → Ex F H → Dp K H v (d a)
  lay : ∀ {F : Hp} {v : V} {a : α}, r F v a → (d a).canLay0 = true
  dep : Nat
  dep_le : ∀ a, (d a).depth ≤ dep
  eqv : ∀ a b, PyData.eqv (d a) (d b) = true ↔ a = b
instance : Da rInt where
  d := .int
  dp h _ := by rw [show _ = _ from h]; exact .int _
  lay _ := rfl
  dep := 0
  dep_le _ := Nat.le_refl _
  eqv a b := by simp only [PyData.eqv]; exact beq_iff_eq
instance : Da rBl where
  d := .bool
  dp h _ := by rw [show _ = _ from h]; exact .bl _
  lay _ := rfl
  dep := 0
  dep_le _ := Nat.le_refl _
  eqv a b := by simp only [PyData.eqv]; exact beq_iff_eq
instance : Da rTx where
  d a := .str ⟨a.toArray⟩
  dp h _ := by rw [h.1]; exact .str _
  lay {F v a} h := by
    show PyData.strOk ⟨a.toArray⟩ = true
    unfold PyData.strOk
    simp only [List.all_toArray, List.all_eq_true, decide_eq_true_eq]
    exact h.2.2
  dep := 0
  dep_le _ := Nat.le_refl _
  eqv a b := by simp only [PyData.eqv]; rw [beq_iff_eq]; simp
section
variable {α β : Type} {r : Rp α} {s : Rp β} [A : Da r] [B : Da s]
theorem dp_all {F H : Hp} {K : PySem.W.Frag} (e : Ex F H) : ∀ {vs : List V} {xs : List α}, Paired (r F) vs xs → DpAll K H vs (xs.map A.d)
  | _, _, .nil => .nil
  | _, _, .cons h t => .cons (A.dp h e) (dp_all e t)
theorem lay_all {F : Hp} : ∀ {vs : List V} {xs : List α}, Paired (r F) vs xs → PyData.canLayAll0 (xs.map A.d) = true
  | _, _, .nil => rfl
  | _, _, .cons h t => by
    rw [List.map_cons, PyData.canLayAll0, A.lay h, lay_all t]; rfl
theorem depth_all : ∀ xs : List α, PyData.depthAll (xs.map A.d) ≤ A.dep
  | [] => Nat.zero_le _
  | x :: xs => by
    rw [List.map_cons, PyData.depthAll]
    exact Nat.max_le.mpr ⟨A.dep_le x, depth_all xs⟩
theorem eqv_all : ∀ xs ys : List α, PyData.eqvAll (xs.map A.d) (ys.map A.d) = true ↔ xs = ys
  | [], [] => by simp [PyData.eqvAll]
  | [], _ :: _ => by simp [PyData.eqvAll]
  | _ :: _, [] => by simp [PyData.eqvAll]
  | x :: xs, y :: ys => by
    rw [List.map_cons, List.map_cons, PyData.eqvAll, Bool.and_eq_true, A.eqv x y, eqv_all xs ys, List.cons.injEq]
instance : Da (rLst r) where
  d xs := .list (xs.map A.d)
  dp h e := by
    obtain ⟨p, vs, rfl, h1, h2, h3⟩ := h
    exact .lst (SqL.of (e _ _ h1)) (dp_all e h3)
  lay h := by
    obtain ⟨p, vs, rfl, h1, h2, h3⟩ := h
    exact lay_all h3
  dep := A.dep + 1
  dep_le xs := by
    show PyData.depthAll _ + 1 ≤ _
    have := depth_all (A := A) xs
    omega
  eqv a b := by simp only [PyData.eqv]; exact eqv_all a b
instance : Da (rTup r) where
  d xs := .tuple (xs.map A.d)
  dp h e := by
    obtain ⟨p, vs, rfl, h1, h2, h3⟩ := h
    exact .tup (SqT.of (e _ _ h1)) (dp_all e h3)
  lay h := by
    obtain ⟨p, vs, rfl, h1, h2, h3⟩ := h
    exact lay_all h3
  dep := A.dep + 1
  dep_le xs := by
    show PyData.depthAll _ + 1 ≤ _
    have := depth_all (A := A) xs
    omega
  eqv a b := by simp only [PyData.eqv]; exact eqv_all a b
instance : Da (rPr r s) where
  d x := .tuple [A.d x.1, B.d x.2]
  dp h e := by
    obtain ⟨p, u, w, rfl, h1, h2, h3⟩ := h
    exact .tup (SqT.of (e _ _ h1)) (.cons (A.dp h2 e) (.cons (B.dp h3 e) .nil))
  lay h := by
    obtain ⟨p, u, w, rfl, h1, h2, h3⟩ := h
    show PyData.canLayAll0 [_, _] = true
    rw [PyData.canLayAll0, PyData.canLayAll0, PyData.canLayAll0, A.lay h2, B.lay h3]; rfl
  dep := max A.dep B.dep + 1
  dep_le x := by
    show max _ (max _ 0) + 1 ≤ _
    have h1 := A.dep_le x.1
    have h2 := B.dep_le x.2
    omega
  eqv a b := by
    obtain ⟨a1, a2⟩ := a
    obtain ⟨b1, b2⟩ := b
    simp only [PyData.eqv, PyData.eqvAll, Bool.and_true, Bool.and_eq_true, A.eqv, B.eqv, Prod.mk.injEq]
end
section
variable {F0 H0 : Hp} {G : List Slot} {m m1 m2 : Md} {ta tb te : TE} {K : PySem.W.Frag}
theorem da_shaped {α : Type} {r : Rp α} [A : Da r] (hd : A.dep ≤ 64) {F : Hp} {v : V} {a : α} (h : r F v a) : SeqAt.shaped (A.d a) = true := by
  unfold SeqAt.shaped
  rw [A.lay h, decide_eq_true (Nat.le_trans (A.dep_le a) hd)]; rfl
theorem ed_eqQ {α : Type} {r : Rp α} [DecidableEq α] [Mo r] [A : Da r] {x y : α} (hx : Ed F0 H0 ta G m1 r x) (hy : Ed F0 H0 tb G m2 r y) (hd : A.dep ≤ 64 := by decide) : Ed F0 H0 (tOp (rEqD K) ta tb) G m rBl (decide (x = y)) :=
  ed_bin hx hy fun v w F H g0 hv hw Q q =>
    ⟨_, _, A.dp hv (pk_now g0), A.dp hw (pk_now g0), da_shaped hd hv, da_shaped hd hw, q _ F H (Gr.refl g0.fh) (by show V.bl _ = V.bl _; congr 1; rw [Bool.eq_iff_iff, A.eqv, decide_eq_true_eq])⟩
theorem ed_neQ {α : Type} {r : Rp α} [DecidableEq α] [Mo r] [A : Da r] {x y : α} (hx : Ed F0 H0 ta G m1 r x) (hy : Ed F0 H0 tb G m2 r y) (hd : A.dep ≤ 64 := by decide) : Ed F0 H0 (tOp (rNeD K) ta tb) G m rBl (!decide (x = y)) :=
  ed_bin hx hy fun v w F H g0 hv hw Q q =>
    ⟨_, _, A.dp hv (pk_now g0), A.dp hw (pk_now g0), da_shaped hd hv, da_shaped hd hw, q _ F H (Gr.refl g0.fh) (by show V.bl _ = V.bl _; congr 2; rw [Bool.eq_iff_iff, A.eqv, decide_eq_true_eq])⟩
/-! ### list(range(n)), list(range(a, b)) -/
theorem rgV_p {F : Hp} (a b : Int) : Paired (rInt F) (rgV a b) (rng2 a b) := by
  unfold rgV rng2
  generalize List.range (b - a).toNat = l
  induction l with
  | nil => exact .nil
  | cons x l ih => exact .cons rfl ih
theorem en_rng {n : Int} (h : Ed F0 H0 te G m1 rInt n) (hn : n ≤ 16777216) (hn0 : -16777216 ≤ n) : En F0 H0 (tLstRg (tRg1 te)) G rInt (rng n) := fun σ F H E Q q =>
  h σ F H E _ fun v F1 H1 g1 hv => ⟨n, hv, ⟨by omega, by omega, by omega, by omega, by omega⟩, fun p hp => q p _ F1 _ (g1.trans (Gr.wild g1.fh hp)) (g1.hh.back hp) (g1.fh.back hp) upd_same (by unfold rng; rw [rng2_len]; omega) (rgV_p 0 n)⟩
theorem en_rng2 {a b : Int} (h : Ed F0 H0 ta G m1 rInt a) (h' : Ed F0 H0 tb G m2 rInt b) (ha : -16777216 ≤ a ∧ a ≤ 16777216) (hb : -16777216 ≤ b ∧ b ≤ 16777216) (hab : b - a ≤ 16777216) : En F0 H0 (tLstRg (tRg2 ta tb)) G rInt (rng2 a b) := fun σ F H E Q q =>
  h σ F H E _ fun v F1 H1 g1 hv => h' σ F1 H1 (E.gro g1) _ fun w F2 H2 g2 hw => ⟨a, b, hv, hw, ⟨by omega, by omega, by omega, by omega, by omega⟩, fun p hp => q p _ F2 _ ((g1.trans g2).trans (Gr.wild g2.fh hp)) ((g1.trans g2).hh.back hp) (g2.fh.back hp) upd_same (by rw [rng2_len]; omega) (rgV_p a b)⟩
end
/-! ### rules whose terms name the fragment, for scopes of their own -/
section
variable {X : Cx} (K : PySem.W.Frag)
theorem kIxL (h : X.K = K := by rfl) : IxR X (rIxL K) := by subst h; exact ix_list
theorem kIxU (h : X.K = K := by rfl) : IxR X (rIxT K) := by subst h; exact ix_tup
theorem kInQ (h : X.K = K := by rfl) : OpR X (compareOp .In) (rIn K false) := by subst h; exact op_in_seq
theorem kNiQ (h : X.K = K := by rfl) : OpR X (compareOp .NotIn) (rIn K true) := by subst h; exact op_notIn_seq
theorem kEqD (hu : X.A.units + 64 < cLine) (h : X.K = K := by rfl) : OpR X (compareOp .Eq) (rEqD K) := by subst h; exact op_eqD hu
theorem kNeD (hu : X.A.units + 64 < cLine) (h : X.K = K := by rfl) : OpR X (compareOp .NotEq) (rNeD K) := by subst h; exact op_neD hu
theorem kLen (h : X.K = K := by rfl) : CallR X (.builtin "len") (rLenQ K) := by subst h; exact call_len_seq
theorem kList (h : X.K = K := by rfl) : CallR X (.type "list") (rListQ K) := by subst h; exact call_list_of
theorem kTuple (h : X.K = K := by rfl) : CallR X (.type "tuple") (rTupleQ K) := by subst h; exact call_tuple_of
theorem kAll (hc : X.calm = true := by rfl) (h : X.K = K := by rfl) : CallR X (.builtin "all") (rAll K) := by subst h; exact cr_all hc
theorem kAny (hc : X.calm = true := by rfl) (h : X.K = K := by rfl) : CallR X (.builtin "any") (rAny K) := by subst h; exact cr_any hc
theorem kSlL (h : X.K = K := by rfl) : SlR X (rSlL K) := by subst h; exact sl_list
theorem kJoin {o e : Expr} {to te : TE} {apos pos : Pos} (ho : PE X o to) (he : PE X e te) (h : X.K = K := by rfl) (hs : starEach [e] X.env = [(false, eval e X.env)] := by rfl) (hbase : attributeBase o "join" X.env (eval o X.env) = eval o X.env := by rfl) (hline : (apos.endLine == pos.line) = true := by rfl) :
    PE X (.Call (.Attribute o "join" apos) [e] [] pos) (tM1 (rJoin K) to te) := by subst h; exact pe_join ho he hs hbase hline
theorem kTruth {a : Expr} {ta : TE} (ha : PE X a ta) (he : ∀ whole, isTrue a X.env whole = (do let v ← whole; standAt a.pos; holding [v] (truthy v))) (h : X.K = K := by rfl) : PT X a (tTr K ta) := by subst h; exact pt_truth ha he
end
end LK
namespace LK
open PySem L2
theorem gk_turnL {H0 : Hp} {α S : Type} {F1 : Hp} {I : List α → S → Prop} {ups : S → List Slot → List Slot} {G G' : List Slot} {rest : List α} {s s' : S} (l : Lw G' (ups s' G)) (e : s = s') (i : I rest s) : Gk F1 H0 (FoK F1 H0 I ups G rest s) G' := gk_turn l e (e ▸ i)
end LK

set_option Elab.async false
set_option linter.all false
set_option maxRecDepth 100000
set_option maxHeartbeats 4000000
set_option autoImplicit false
/-! LX1: an own exception over ValueError, whose __init__ says super().__init__(text) and keeps its arguments. -/
namespace LKX
open PySem PySem.W PySem.Calls PyProof.Rows PySem.HandSPX
section
variable {prog : Program} {w : World} {A : Around} {E : Value → Shared → Prop} {h : Heap} {g : Array GenState} {d : Drawn} {t : Nat} {os : OsState}
variable {nm q : Str} {C N : Addr} {bs bm : List Value} {hdct : Bool} {sn : List Str} {sub : List Value} {ab : Bool} {col : Option Bool} {dd : Option Addr} {k0 k1 k2 k3 k5 : Option Value}
/-- the bound ValueError.__init__ is called -/
theorem call_bwV {u e t0 : Addr} {rest : List Value} {Q : Value → Shared → Prop}
    (hC : h.get? C = some (excClassObj nm q C N bs bm hdct sn sub ab col dd k0 k1 k2 k3 k5 "ValueError.__new__")) (he : h.get? e = some (excO C t0)) (hu : h.get? u = some (kxs_mw "ValueError.__init__" e)) (hrest : rest.length ≤ sizeLine)
    (hq : ∀ h' t1, (∀ b o, b ≠ e → h.get? b = some o → h'.get? b = some o) → h'.get? e = some (excO C t1) → Q .none ⟨h', g, d, t, os⟩) :
    wpAny (model prog w) A (call (.ref u) rest) Q E ⟨h, g, d, t, os⟩ := by
  refine wpAny_call (codeAny_of_tree ?_)
  show wpAny _ A.in1 (callAny (.ref u) ⟨rest, []⟩) _ _ _
  simp only [callAny]
  refine wpAny_bind (wpAny_load hu ?_)
  simp only [kxs_mw, show (Value.type "method-wrapper" == Value.type "method" || Value.type "method-wrapper" == Value.type "builtin_function_or_method" || Value.type "method-wrapper" == Value.type "method-wrapper") = true by decide, if_true]
  refine W.KFB.if_so (by decide) ?_
  refine wpAny_bind (PySem.ESX.check_bound F.excBase_ValueError hC he rfl ?_)
  refine wpAny_bind (wpAny_pure (wpAny_pure ?_))
  refine ⟨Code.quiet_builtin _ (by decide +kernel), codeAny_builtin F.excBase_ValueError.initEntry ?_⟩
  rw [Around.under_plainId F.excBase_ValueError.init.plain _]
  wp_walk
  refine hq _ h.objs.size (fun b o hb ho => ?_) ?_
  · rw [Heap.get?_update_other _ _ (Ne.symm hb)]
    exact Heap.get?_push_of_some _ ho
  · rw [Heap.get?_update_self _ (Heap.get?_push_of_some _ he) rfl]
    rfl
end

/-! ### super().__init__(text) -/
/-- what the written part says of a class C whose __init__ stands at fI -/
structure SupC (prog : Program) (K : Frag) (mg : Str → Option Value) (C fI : Addr) (x : Str) (qual : Str) (params : Arguments) (body : List Stmt) (scope : Scope) (cda cc : Addr) : Prop where
  oex : L2.OexC K C
  fn : ∃ (oc : Value) (od : Option Addr) (kV doc pm : Value) (an : Option Addr) (ct : Value) (osl : Array (Option Value)), K.lookup fI = some ⟨oc, od, .func (ksFn x qual params body scope .none kV doc pm an (.ref cda) ct cc), osl⟩
  cod : codeIn K (.ref cda) qual = true
  fil : ∃ (ccl : Value) (cdd : Option Addr) (vs : Array Value) (ccs : Array (Option Value)) (file : Str) (tf : Tok), K.lookup cda = some ⟨ccl, cdd, .fields vs, ccs⟩ ∧ vs[2]? = some (.str file tf) ∧ ((prog.main.file : Str) == file) = true
  cel : ∃ (cl : Value) (cld : Option Addr) (csl : Array (Option Value)), K.lookup cc = some ⟨cl, cld, .cell (some (.ref C)), csl⟩
  sup : ks_superIn K C C "__init__" = some (some (.builtin "ValueError.__init__"))
  self : mroIn K C (.ref C) = some true
  ve : subIn K (.ref C) (.type "ValueError") = some true
  nosup : mg "super" = none
  nothird : nsIn K cStatics "thirdparty.any" = some none
  top : (prog.main.scope.names.lookup ("super" : Str)).isSome = false
section
variable {prog : Program} {w : World} {A : Around} {E : Value → Shared → Prop} {h : Heap} {g : Array GenState} {d : Drawn} {t : Nat} {os : OsState} {K : Frag} {mg m : Str → Option Value} {C fI cda cc e t0 L : Addr} {x qual : Str} {params : Arguments} {body : List Stmt} {scope : Scope}
theorem super_init {p0 p1 p2 p3 p4 p5 : Pos} {k : Nat} {c : Str} {ar : Arg} {pl : Sem Bool} {Q : Flow → Shared → Prop} (S : SupC prog K mg C fI x qual params body scope cda cc) (X : K.In h) (gl : h.Ns mainGlobals mg) (bl : ∃ mb, h.Ns builtinsNs mb ∧ ∀ x : Str, x ≠ "__name__" → mb x = bootBuiltins x)
    (hns : h.Ns L m) (hp : (params.posonlyargs ++ params.args).head? = some ar) (hv : m ar.arg = some (.ref e)) (he : h.get? e = some (excO C t0))
    (hks : scope.names.lookup ("super" : Str) = some .globalImplicit) (hkc : scope.names.lookup ("__class__" : Str) = some .free) (hka : scope.names.lookup ar.arg = some .local) (hk : scope.kind = .function)
    (hev : eval (.Call (.Attribute (.Call (.Name "super" p0) [] [] p1) "__init__" p2) [.Constant (.str c) k p3] [] p4) (ksEnv qual scope L fI (.ref cda) cc) = (do
      let ov ← attributeBase (.Call (.Name "super" p0) [] [] p1) "__init__" (ksEnv qual scope L fI (.ref cda) cc) (eval (.Call (.Name "super" p0) [] [] p1) (ksEnv qual scope L fI (.ref cda) cc))
      standAt p2.atName
      let (f, first) ← holding [ov] (getMethod ov "__init__" pl)
      callWith p4 f first (backTo p4 (starEach [.Constant (.str c) k p3] (ksEnv qual scope L fI (.ref cda) cc))) []))
    (hi : interactive (ksEnv qual scope L fI (.ref cda) cc) = false) (hs : swapsWith (.Call (.Attribute (.Call (.Name "super" p0) [] [] p1) "__init__" p2) [.Constant (.str c) k p3] [] p4) none p5.line (ksEnv qual scope L fI (.ref cda) cc) = pure false)
    (hse : starEach [.Constant (.str c) k p3] (ksEnv qual scope L fI (.ref cda) cc) = (false, eval (.Constant (.str c) k p3) (ksEnv qual scope L fI (.ref cda) cc)) :: starEach [] (ksEnv qual scope L fI (.ref cda) cc)) 
    (hq : ∀ h' t' t1, (∀ b o, b ≠ e → h.get? b = some o → h'.get? b = some o) → h'.get? e = some (excO C t1) → Q .next ⟨h', g, d, t', os⟩) :
    _root_.PySem.wpAt (model prog w) A (.func body (ksEnv qual scope L fI (.ref cda) cc)) (exec (.Expr (.Call (.Attribute (.Call (.Name "super" p0) [] [] p1) "__init__" p2) [.Constant (.str c) k p3] [] p4) p5) (ksEnv qual scope L fI (.ref cda) cc)) Q E ⟨h, g, d, t, os⟩ := by
  obtain ⟨oc, od, kV, doc, pm, an, ct, osl, hf⟩ := S.fn
  obtain ⟨ccl, cdd, vs, ccs, file, tf, hcode, hvs, hfile⟩ := S.fil
  obtain ⟨cl, cld, csl, hcell⟩ := S.cel
  obtain ⟨nm, q, N, bs, bm, sn, sub, ab, col, dd, k0, k1, k2, k3, k5, hC, hbm⟩ := S.oex.cls
  obtain ⟨mb, b1, b2⟩ := bl
  have I : InstAt h e (excO C t0) C none := ⟨he, rfl, rfl, trivial⟩
  refine ks_wpAt_Expr_any (ks_wpAt_MethodCall (pl := pl) ?_ hev) hi hs
  refine ks_wpAt_super_base (env := ksEnv qual scope L fI (.ref cda) cc) hks hkc rfl rfl (X _ _ hf) rfl hp rfl (X _ _ hcode) rfl hvs hfile S.top ?_
  refine ks_loadName_global hk hks (loadGlobal_builtin (env := ksEnv qual scope L fI (.ref cda) cc) gl S.nosup b1 ((b2 _ (by decide)).trans (show bootBuiltins "super" = some (.type "super") from PyProof.Rows.Boot.super)) ⟨rfl, ?_⟩)
  refine wpAny_loadName_free hk hkc rfl ⟨_, X _ _ hcell, rfl⟩ ?_
  refine wpAny_loadName_local hk hka hns hv ?_
  refine ks_wpAny_isType_cls (X _ _ hC) rfl ⟨rfl, ?_⟩
  refine ks_wpAny_call_super (X _ _ hC) rfl he rfl (fun c z => by cases z) (looks_mroIn X S.self) (fun h1 e1 u1 => ?_)
  have X1 : K.In h1 := X.keeps u1
  have I1 : InstAt h1 e (excO C t0) C none := ⟨u1 _ _ he, rfl, rfl, trivial⟩
  have hcl : clsIn K C = some { name := nm, bases := bs, mro := .ref C :: bm, ns := N, qualname := q, hasDict := true, slotNames := sn, subclasses := sub, abstract := ab, collection := col, hasDel := false } := by unfold clsIn; rw [hC] <;> rfl
  have hm := S.sup
  unfold ks_superIn at hm
  rw [hcl] at hm
  refine kxs_getMethod kxs_ValueError e1 (looks_opaque X1 S.nothird) (l₀ := .ref C :: bm) (fun A Q E s k q => wpAny_bind ((looks_clsIn X1 hcl) A _ E s k (wpAny_pure q))) rfl X1 hm (I1.type.andThen (looks_subIn X1 S.ve)) (ks_ne X1 I1 hcl) rfl ?_
  have u2 : ∀ b o, h1.get? b = some o → (h1.push (kxs_mw "ValueError.__init__" e)).get? b = some o := fun b o z => Heap.get?_push_of_some _ z
  rw [hse]
  refine kxs_callWith (i := "ValueError.__init__") (x := e) rfl (evalArgs_plain ?_)
  refine args_cons (Constant_str (args_nil ⟨Heap.get?_push_size _ rfl, ?_⟩)) hse
  refine call_bwV (rest := [.str c (t + 1)]) (u2 _ _ (X1 _ _ hC)) (u2 _ _ (u1 _ _ he)) (Heap.get?_push_size _ rfl) (by show 1 ≤ sizeLine; decide) (fun h' t1 k e' => ?_)
  exact hq h' _ t1 (fun b o hb z => k b o hb (u2 _ _ (u1 _ _ z))) e'

/-- a field is kept: the first one -/
theorem fld_new {env : Env} {p1 p2 p3 p4 : Pos} {f xs xp : Str} {u : Value} {Q : Flow → Shared → Prop} (T : L2.OexC K C) (X : K.In h) (hns : h.Ns env.locals m) (hk : env.scope.kind = .function)
    (l1 : env.kindOf xs = some .local) (v1 : m xs = some (.ref e)) (l2 : env.kindOf xp = some .local) (v2 : m xp = some u) (d1 : (xs == ("__debug__" : Str)) = false) (d2 : (xp == ("__debug__" : Str)) = false)
    (he : h.get? e = some (excO C t0)) (hno : findIn K (.ref C) f = some none)
    (hs : swapsWith (.Name xp p4) (some (.Attribute (.Name xs p1) f p2)) p3.line env = pure false)
    (hq : ∀ h' t' dx, (∀ b o, b ≠ e → h.get? b = some o → h'.get? b = some o) → h.objs.size ≤ dx → dx ≠ e →
      h'.get? e = some { cls := .ref C, dict := some dx, data := .fields #[.ref t0, .none, .none, .none, .bool false, .none] } → h'.Ns1 dx (fun y => if y = f then some u else none) → Q .next ⟨h', g, d, t', os⟩) :
    wpAny (model prog w) A (exec (.Assign [.Attribute (.Name xs p1) f p2] (.Name xp p4) p3) env) Q E ⟨h, g, d, t, os⟩ := by
  obtain ⟨nm, q, N, bs, bm, sn, sub, ab, col, dd, k0, k1, k2, k3, k5, hC, hbm⟩ := T.cls
  have hcl : clsIn K C = some { name := nm, bases := bs, mro := .ref C :: bm, ns := N, qualname := q, hasDict := true, slotNames := sn, subclasses := sub, abstract := ab, collection := col, hasDel := false } := by unfold clsIn; rw [hC] <;> rfl
  refine plainObj_wpAny_Assign_Attribute (wpAny_Name (wpAny_loadName_local hk l2 hns v2 (wpAny_Name (wpAny_loadName_local hk l1 hns v1 ?_) d1)) d2) hs
  refine set_plain X (ox := excO C t0) (od := none) ⟨he, rfl, rfl, trivial⟩ T.sa ?_
  exact exc_osa X he hcl (show refsVE (.ref C :: bm) = true from hbm) rfl hno (fun h' tk' dx k dn dne hx hn => hq h' _ dx k dn dne hx hn)

/-- a further one -/
theorem fld_old {env : Env} {p1 p2 p3 p4 : Pos} {f xs xp : Str} {u : Value} {dx : Addr} {fv : Array Value} {m0 : Str → Option Value} {nl : List Str} {Q : Flow → Shared → Prop} (T : L2.OexC K C) (X : K.In h) (hns : h.Ns env.locals m) (hk : env.scope.kind = .function)
    (l1 : env.kindOf xs = some .local) (v1 : m xs = some (.ref e)) (l2 : env.kindOf xp = some .local) (v2 : m xp = some u) (d1 : (xs == ("__debug__" : Str)) = false) (d2 : (xp == ("__debug__" : Str)) = false)
    (he : h.get? e = some { cls := .ref C, dict := some dx, data := .fields fv }) (hd : h.Ns1 dx m0) (hw : Within m0 nl) (hz : nl.length ≤ 1000) (hno : findIn K (.ref C) f = some none)
    (hs : swapsWith (.Name xp p4) (some (.Attribute (.Name xs p1) f p2)) p3.line env = pure false)
    (hq : ∀ h' t', (∀ b o, b ≠ dx → h.get? b = some o → h'.get? b = some o) → h'.Ns1 dx (fun y => if y = f then some u else m0 y) → Q .next ⟨h', g, d, t', os⟩) :
    wpAny (model prog w) A (exec (.Assign [.Attribute (.Name xs p1) f p2] (.Name xp p4) p3) env) Q E ⟨h, g, d, t, os⟩ := by
  obtain ⟨nm, q, N, bs, bm, sn, sub, ab, col, dd, k0, k1, k2, k3, k5, hC, hbm⟩ := T.cls
  have hcl : clsIn K C = some { name := nm, bases := bs, mro := .ref C :: bm, ns := N, qualname := q, hasDict := true, slotNames := sn, subclasses := sub, abstract := ab, collection := col, hasDel := false } := by unfold clsIn; rw [hC] <;> rfl
  obtain ⟨oD, _, _, hoD, _, _⟩ := hd.count hw
  refine plainObj_wpAny_Assign_Attribute (wpAny_Name (wpAny_loadName_local hk l2 hns v2 (wpAny_Name (wpAny_loadName_local hk l1 hns v1 ?_) d1)) d2) hs
  refine set_plain X (ox := { cls := .ref C, dict := some dx, data := .fields fv }) (od := some oD) ⟨he, rfl, rfl, hoD⟩ T.sa ?_
  exact PySem.OEX.osa_old X he hd hw hz hcl (show refsVE (.ref C :: bm) = true from hbm) rfl hno (fun h' tk' k hn => hq h' _ k hn)
/-- what a made exception looks like -/
def Made (h h' : Heap) (e C : Addr) (mA : Str → Option Value) : Prop := ∃ dx t1, (∀ b o, b ≠ e → h.get? b = some o → h'.get? b = some o) ∧ h.objs.size ≤ dx ∧ dx ≠ e ∧
  h'.get? e = some { cls := .ref C, dict := some dx, data := .fields #[.ref t1, .none, .none, .none, .bool false, .none] } ∧ h'.Ns1 dx mA
variable {R : Result → Shared → Prop}
/-- the whole __init__ with one field -/
theorem init1 {s0 : Stmt} {p0 p1 p2 p3 p4 p5 q1 q2 q3 q4 : Pos} {k : Nat} {c f xs xp : Str} {ar : Arg} {pl : Sem Bool} {u : Value} (S : SupC prog K mg C fI x qual params [.Expr (.Call (.Attribute (.Call (.Name "super" p0) [] [] p1) "__init__" p2) [.Constant (.str c) k p3] [] p4) p5, .Assign [.Attribute (.Name xs q1) f q2] (.Name xp q4) q3] scope cda cc) (X : K.In h) (gl : h.Ns mainGlobals mg) (bl : ∃ mb, h.Ns builtinsNs mb ∧ ∀ x : Str, x ≠ "__name__" → mb x = bootBuiltins x)
    (lim : h.NoLimit) (room : A.depth < recursionLimit) (he : h.get? e = some (excO C t0)) (hke : K.lookup e = none)
    (hbind : ∀ (kV doc pm : Value) (an : Option Addr) (ct : Value), BindsTo (⟨h, g, d, t, os⟩ : Shared) (ksFn x qual params [.Expr (.Call (.Attribute (.Call (.Name "super" p0) [] [] p1) "__init__" p2) [.Constant (.str c) k p3] [] p4) p5, .Assign [.Attribute (.Name xs q1) f q2] (.Name xp q4) q3] scope .none kV doc pm an (.ref cda) ct cc) ⟨[.ref e, u], []⟩ [(xs, .ref e), (xp, u)])
    (hp : (params.posonlyargs ++ params.args).head? = some ar) (har : ar.arg = xs) (hne : xs ≠ xp)
    (hks : scope.names.lookup ("super" : Str) = some .globalImplicit) (hkc : scope.names.lookup ("__class__" : Str) = some .free) (hka : scope.names.lookup xs = some .local) (hkb : scope.names.lookup xp = some .local) (hk : scope.kind = .function)
    (hcell : ∀ x ∈ scope.names, x.2 ≠ .cell) (hco : scope.isCoroutine = false) (hgen : scope.isGenerator = false) (hno : findIn K (.ref C) f = some none)
    (hev : ∀ L, eval (.Call (.Attribute (.Call (.Name "super" p0) [] [] p1) "__init__" p2) [.Constant (.str c) k p3] [] p4) (ksEnv qual scope L fI (.ref cda) cc) = (do
      let ov ← attributeBase (.Call (.Name "super" p0) [] [] p1) "__init__" (ksEnv qual scope L fI (.ref cda) cc) (eval (.Call (.Name "super" p0) [] [] p1) (ksEnv qual scope L fI (.ref cda) cc))
      standAt p2.atName
      let (f, first) ← holding [ov] (getMethod ov "__init__" pl)
      callWith p4 f first (backTo p4 (starEach [.Constant (.str c) k p3] (ksEnv qual scope L fI (.ref cda) cc))) []))
    (hi : ∀ L, interactive (ksEnv qual scope L fI (.ref cda) cc) = false) (hs : ∀ L, swapsWith (.Call (.Attribute (.Call (.Name "super" p0) [] [] p1) "__init__" p2) [.Constant (.str c) k p3] [] p4) none p5.line (ksEnv qual scope L fI (.ref cda) cc) = pure false)
    (hse : ∀ L, starEach [.Constant (.str c) k p3] (ksEnv qual scope L fI (.ref cda) cc) = (false, eval (.Constant (.str c) k p3) (ksEnv qual scope L fI (.ref cda) cc)) :: starEach [] (ksEnv qual scope L fI (.ref cda) cc))
    (hs2 : ∀ L, swapsWith (.Name xp q4) (some (.Attribute (.Name xs q1) f q2)) q3.line (ksEnv qual scope L fI (.ref cda) cc) = pure false)
    (d1 : (xs == ("__debug__" : Str)) = false) (d2 : (xp == ("__debug__" : Str)) = false)
    (hq : ∀ h' t', Made h h' e C (fun y => if y = f then some u else none) → R (.ok (.ret .none)) ⟨h', g, d, t', os⟩) :
    codeAny (model prog w) A (.call (.ref fI) ⟨[.ref e, u], []⟩) R ⟨h, g, d, t, os⟩ := by
  obtain ⟨oc, od, kV, doc, pm, an, ct, osl, hf⟩ := S.fn
  refine ks_codeAny_call_defAt (binds := [(xs, .ref e), (xp, u)]) room (X _ _ hf) rfl lim (codeRec_of X S.cod) rfl (hbind _ _ _ _ _) hcell ?_ (fun h1 hns k1 => ?_) hco hgen hk
  · intro y hy
    rcases List.mem_cons.mp hy with e1 | hy
    · subst e1; exact hka
    · rcases List.mem_cons.mp hy with e1 | hy
      · subst e1; exact hkb
      · cases hy
  have X1 : K.In h1 := X.keeps k1
  have v1 : (List.lookup xs [(xs, Value.ref e), (xp, u)].reverse) = some (.ref e) := by
    show List.lookup xs [(xp, u), (xs, Value.ref e)] = _
    rw [List.lookup_cons, show (xs == xp) = false by simpa using hne, List.lookup_cons, show (xs == xs) = true by simp]
  have v2 : (List.lookup xp [(xs, Value.ref e), (xp, u)].reverse) = some u := by
    show List.lookup xp [(xp, u), (xs, Value.ref e)] = _
    rw [List.lookup_cons, show (xp == xp) = true by simp]
  obtain ⟨mb, b1, b2⟩ := bl
  refine ks_wpAt_execs_cons (super_init (m := fun y => List.lookup y [(xs, Value.ref e), (xp, u)].reverse) S X1 (gl.keeps k1) ⟨mb, b1.keeps k1, b2⟩ hns hp (by rw [har]; exact v1) (k1 _ _ he) hks hkc (by rw [har]; exact hka) hk (hev _) (hi _) (hs _) (hse _) (fun h2 t2 t3 k2 e2 => ?_))
  have X2 : K.In h2 := fun b o z => k2 b o (fun q => by rw [q, hke] at z; cases z) (X1 b o z)
  have hLe : h.objs.size ≠ e := fun q => absurd (Heap.lt_size he) (by rw [← q]; exact Nat.lt_irrefl _)
  have hns2 : h2.Ns h.objs.size (fun y => List.lookup y [(xs, Value.ref e), (xp, u)].reverse) := by
    obtain ⟨oL, es, ep, hL, r⟩ := hns
    exact ⟨oL, es, ep, k2 _ _ hLe hL, r⟩
  have sz : h.objs.size ≤ h2.objs.size := by
    obtain ⟨oL, es, ep, hL, r⟩ := hns2
    exact Nat.le_of_lt (Heap.lt_size hL)
  refine ks_wpAt_execs_cons (wpAt_of_wpAny ?_)
  refine fld_new (m := fun y => List.lookup y [(xs, Value.ref e), (xp, u)].reverse) S.oex X2 hns2 hk hka v1 hkb v2 d1 d2 e2 hno (hs2 _) (fun h3 t4 dx k3 n3 ne3 e3 hd3 => ?_)
  refine wpAt_of_wpAny (wpAny_pure ?_)
  exact hq h3 _ ⟨dx, t3, fun b o hb z => k3 b o hb (k2 b o hb (k1 b o z)), Nat.le_trans sz n3, ne3, e3, hd3⟩
end
end LKX

set_option Elab.async false
set_option linter.all false
set_option maxRecDepth 100000
set_option maxHeartbeats 4000000
set_option autoImplicit false
/-! LX2: C(e) for such a class, as a thing to raise. -/
namespace LKX
open PySem PySem.W PySem.Calls PyProof.Rows PySem.HandSPX L2
/-- the reading: what C(e) makes -/
def tMk1 (C : Addr) (f : Str) (ta : TA) : L2.St → Hp → XK → Prop := fun σ H Q => ta σ H fun vs H1 => ∃ y, vs = [y] ∧ ∀ dx, H1 dx = none → Q (.ref C) (some dx) (upd H1 dx (.xd [(f, y)]))
section
variable {X : Cx} {x : Str} {C fI : Addr} {f : Str} {e1 : Expr} {ta : TA} {p pos : Pos}
/-- what init1 gives, as a promise of the class -/
def Ini1 (prog : Program) (w : World) (K : Frag) (mg : Str → Option Value) (C fI : Addr) (f : Str) : Prop :=
  ∀ (A : Around) (R : Result → Shared → Prop) (h : Heap) (g : Array GenState) (d : Drawn) (t : Nat) (os : OsState) (e t0 : Addr) (u : Value), K.In h → h.Ns mainGlobals mg → (∃ mb, h.Ns builtinsNs mb ∧ ∀ x : Str, x ≠ "__name__" → mb x = bootBuiltins x) → h.NoLimit → A.depth < recursionLimit → h.get? e = some (excO C t0) → K.lookup e = none →
    (∀ h' t', Made h h' e C (fun y => if y = f then some u else none) → R (.ok (.ret .none)) ⟨h', g, d, t', os⟩) → codeAny (model prog w) A (.call (.ref fI) ⟨[.ref e, u], []⟩) R ⟨h, g, d, t, os⟩
theorem pmk_sup1 {k : Nat} (T : OexC X.K C) (iC : PySem.W.findIn X.K (.ref C) "__init__" = some (some (.ref fI))) (tI : PySem.W.typeIn X.K (.ref fI) = some (.type "function")) (J : Ini1 X.prog X.w X.K X.mg C fI f)
    (hr : Room (k + 1) X.A) (hg : Gl X x) (hm : X.mg x = some (.ref C)) (ha : PA X [e1] ta)
    (hdb : (x == ("__debug__" : Str)) = false := by decide) (he : starEach [e1] X.env = (false, eval e1 X.env) :: starEach [] X.env := by rfl) :
    PMk X (.Call (.Name x p) [e1] [] pos) (tMk1 C f ta) := by
  intro pins s σ H Q I h
  obtain ⟨nm, q, N, bs, bm, sn, sub, ab, col, dd, k0, k1, k2, k3, k5, hC, hbm⟩ := T.cls
  refine wpAny_Call_Name_kw (ld_glob I hg hm ?_ hdb)
  refine PySem.W.callWith_K (h₀ := X.base) I.ok.mod.kin T.kC (thn (ha.run pos pins s σ H _ I h) fun us s1 ⟨vs, H1, I1, r1, y, ev, q1⟩ => ⟨I1.kIn, ?_⟩) he rfl
  show wpAny _ _ (call (.ref C) us) _ _ _
  subst ev
  obtain ⟨u, rfl, ry⟩ := vals1 r1
  obtain ⟨hp, g, dr, tk, os⟩ := s1
  have kk : ∀ b o, hp.get? b = some o → ((hp.push (PySem.W.kdv_tup [u])).push (PySem.HandSPX.excO C hp.objs.size)).get? b = some o := fun b o e => Heap.get?_push_of_some _ (Heap.get?_push_of_some _ e)
  have hget : ((hp.push (PySem.W.kdv_tup [u])).push (PySem.HandSPX.excO C hp.objs.size)).get? (hp.objs.size + 1) = some (PySem.HandSPX.excO C hp.objs.size) := by heap_get
  have hno : ∀ o, hp.get? (hp.objs.size + 1) ≠ some o := fun o z => absurd (Heap.lt_size z) (Nat.not_lt_of_le (Nat.le_succ _))
  have hkn : X.K.lookup (hp.objs.size + 1) = none := by
    cases z : X.K.lookup (hp.objs.size + 1) with
    | none => rfl
    | some o => exact absurd (I1.kIn _ _ z) (hno o)
  have hn : H1 (hp.objs.size + 1) = none := I1.hok.fresh (Nat.le_succ _)
  obtain ⟨mb, b1, b2⟩ := I1.mod.blt
  refine wpAny_call (PySem.HandSPX.call_own F.excBase_ValueError (fun Y => PySem.HandSPX.refsVE_contains Y bm hbm) (I1.kIn _ _ hC) (PySem.W.looks_findIn I1.kIn iC) (fun self => PySem.W.bind_fn I1.kIn self tI) (by show 1 ≤ sizeLine; decide)
    (J _ _ _ _ _ _ _ (hp.objs.size + 1) hp.objs.size u (I1.kIn.keeps kk) ((I1.mod.glob.keeps I1.bk).keeps kk) ⟨mb, (b1.keeps I1.bk).keeps kk, b2⟩ ((I1.mod.nolimit.keeps I1.bk).keeps kk) (hr.make C [u] []).depth hget hkn (fun h' t' M => ?_)))
  obtain ⟨dx, t1, m1, m2, m3, m4, m5⟩ := M
  have hsz : hp.objs.size ≤ dx := Nat.le_trans (by rw [Heap.size_push, Heap.size_push]; omega) m2
  obtain ⟨G, g1', g2'⟩ := restrict h' fun b => decide (b ≠ hp.objs.size + 1)
  have gk : ∀ b, b ≠ hp.objs.size + 1 → G.get? b = h'.get? b := fun b hb => g1' b (decide_eq_true hb)
  have ge : G.get? (hp.objs.size + 1) = none := g2' _ (by simp)
  have nha : ∀ {b : Addr} {o : Obj}, hp.get? b = some o → b ≠ hp.objs.size + 1 := fun {b o} z e => hno o (e ▸ z)
  have kG : ∀ b o, hp.get? b = some o → G.get? b = some o := fun b o z => by rw [gk b (nha z)]; exact m1 b o (nha z) (kk b o z)
  have rel : ∀ g, RelO ([(f, y)].lookup g) (if g = f then some u else none) := relO_put (fs := []) (mA := fun _ => none) ry fun _ => True.intro
  have I2 : Inv X pins σ (upd H1 dx (.xd [(f, y)])) ⟨G, g, dr, t', os⟩ := I1.laid (t' := t') kG hsz (show ObjOk X.prog X.w _ _ _ (.xd [(f, y)]) from ⟨_, m5.at fun o z => (gk dx m3).trans z, rel⟩)
  refine ⟨rfl, hp.objs.size + 1, _, _, ⟨G, g, dr, t', os⟩, _, .ref C, some dx, rfl, I2, fun b o z => ?_, ge, m4, ⟨rfl, rfl⟩, rfl, rfl, ?_, rfl, I1.bare, raises_own T.exC T.tyC, q1 dx (I1.hok.fresh hsz)⟩
  · by_cases hb : b = hp.objs.size + 1
    · rw [hb, ge] at z; cases z
    · exact (gk b hb).symm.trans z
  · rw [upd_ne (Ne.symm m3)]; exact hn
end
end LKX

set_option Elab.async false
set_option linter.all false
set_option maxRecDepth 100000
set_option maxHeartbeats 4000000
set_option autoImplicit false
/-! LX3: several except clauses, each with a name or without one. -/
namespace LKX
open PySem PySem.Spec PyProof.Rows L2
abbrev Suite := Addr → Value → Option Addr → TS
/-- the ends of a suite whose name goes behind it -/
def goneD (i : Nat) (D : Ends) : Ends := ⟨fun σ H => D.nx (σ.set i none) H, D.rt, fun σ H => D.bk (σ.set i none) H, fun σ H => D.ct (σ.set i none) H⟩
/-- what the clauses wish of an exception: (class, slot of the name, suite) -/
def wCl (K : PySem.W.Frag) (Wout : WX) (D : Ends) : List (Value × Option Nat × Suite) → WX
  | [] => Wout
  | (c, some i, ts) :: r => fun cls d σ H => ∃ b, PySem.W.exmOne K cls c = some b ∧ (b = true → ∀ a, H a = none → ts a cls d (goneD i D) (σ.set i (some (.ref a))) H) ∧ (b = false → wCl K Wout D r cls d σ H)
  | (c, none, ts) :: r => fun cls d σ H => ∃ b, PySem.W.exmOne K cls c = some b ∧ (b = true → ∀ a, H a = none → ts a cls d D σ H) ∧ (b = false → wCl K Wout D r cls d σ H)
inductive ClsOk (X : Cx) : List ExceptHandler → List (Value × Option Nat × Suite) → Prop
  | nil : ClsOk X [] []
  | as {x n : Str} {c : Value} {i : Nat} {ts : Suite} {b₀ : Stmt} {suite : List Stmt} {np pos' : Pos} {hds : List ExceptHandler} {l : List (Value × Option Nat × Suite)} (hc : Names X x c) (hi : X.N[i]? = some n) (hln : X.env.kindOf n = some .local)
      (hsu : ∀ (a : Addr) (oe : Obj) (cls : Value) (d : Option Addr) (pn : List (Addr × Obj)), Zc cls d oe → (∃ vs, oe.data = .fields vs) → PSs (X.suite a ((a, oe) :: pn)) (b₀ :: suite) (ts a cls d)) (r : ClsOk X hds l) :
      ClsOk X (.ExceptHandler (some (.Name x np)) (some n) (b₀ :: suite) pos' :: hds) ((c, some i, ts) :: l)
  | bare {x : Str} {c : Value} {ts : Suite} {b₀ : Stmt} {suite : List Stmt} {np pos' : Pos} {hds : List ExceptHandler} {l : List (Value × Option Nat × Suite)} (hc : Names X x c)
      (hsu : ∀ (a : Addr) (oe : Obj) (cls : Value) (d : Option Addr) (pn : List (Addr × Obj)), Zc cls d oe → (∃ vs, oe.data = .fields vs) → PSs (X.suite a ((a, oe) :: pn)) (b₀ :: suite) (ts a cls d)) (r : ClsOk X hds l) :
      ClsOk X (.ExceptHandler (some (.Name x np)) none (b₀ :: suite) pos' :: hds) ((c, none, ts) :: l)
section
variable {X : Cx} {body : List Stmt} {h₀ : ExceptHandler} {hds : List ExceptHandler} {l : List (Value × Option Nat × Suite)} {pos : Pos} {tb : WX → TS} {Wout : WX}
theorem ps_tryC (hs : X.stack = X.env :: X.outer) (hf : X.env.frame = some X.env.locals) (hN : X.N.Nodup) (tk : Takes X Wout)
    (hb : ∀ (W : WX) (pn : List (Addr × Obj)) (xe : Value → Shared → Prop), Takes (X.tr pn xe) W → PassesOwn (model X.prog X.w) X.A X.env xe → PSs (X.tr pn xe) body (tb W))
    (hh : ClsOk X (h₀ :: hds) l) : PS X (.Try body (h₀ :: hds) [] [] pos) (fun D σ H => tb (wCl X.K Wout D l) D σ H) := by
  refine ⟨fun pins s σ H D I h => ?_⟩
  have ok := I.ok
  have hfr : X.A.frames = some (X.env :: X.outer) := by rw [ok.frames, hs]
  have land : ∀ {f : Flow} {s1 : Shared}, SP (X.tr (X.pn ++ pins) (fun e s₁ => wpAny (model X.prog X.w) X.A (noteFrame e X.env) (fun _ s₂ => wpAny (model X.prog X.w) X.A (setFlight e none) (fun _ s₃ =>
      wpAny (model X.prog X.w) X.A (handleBy e X.env (h₀ :: hds)) (SP X pins D) X.xe s₃) X.xe s₂) X.xe s₁)) [] D f s1 → SP X pins D f s1 := fun {f s1} hsp => by
    cases f with
    | ret u => obtain ⟨v, σ', H', J, r, q⟩ := hsp; exact ⟨v, σ', H', J.ofTry ok, r, q⟩
    | next => obtain ⟨σ', H', J, q⟩ := hsp; exact ⟨σ', H', J.ofTry ok, q⟩
    | brk => obtain ⟨σ', H', J, q⟩ := hsp; exact ⟨σ', H', J.ofTry ok, q⟩
    | cont => obtain ⟨σ', H', J, q⟩ := hsp; exact ⟨σ', H', J.ofTry ok, q⟩
  refine wpAny_Try_except (wpAny_mono ((hb (wCl X.K Wout D l) (X.pn ++ pins) _ (fun u s' xx => ?_) PassesOwn.looking).run [] s σ H D (I.toTry _) h) (fun f s1 hsp => ?_) (fun e s1 he => he))
  · obtain ⟨a, B, sI, pins', σ', H', cls, d, rfl, J', nb, up, sky, na, os, ag, w⟩ := xx
    have J : Inv X pins σ' H' sI := J'.ofTry ok
    have sky' : Sky B (X.env :: X.outer) a (Zc cls d) X.env.locals s'.heap := by rw [← hs]; exact sky
    show wpAny (model X.prog X.w) X.A (noteFrame (.ref a) X.env) _ _ _
    refine Sky.land Zc.steady hfr hf sky' fun h3 fl3 up3 => ?_
    have J3 : Inv X pins σ' H' { s' with heap := h3 } := J.landed nb fl3.1 (up.trans up3) os ag
    obtain ⟨oe3, vs3, he3, hz3, hd3⟩ := fl3.there
    have nfr : a ∉ frs (X.env :: X.outer) := fun hm => by
      obtain ⟨_, o', e', hnf⟩ := fl3.2.2.1.mem hm
      rw [he3] at e'; cases e'
      exact hnf _ hd3
    have nL : a ≠ X.env.locals := fun z => nfr (List.mem_filterMap.mpr ⟨X.env, List.mem_cons_self, by rw [hf, z]⟩)
    have nF : a ∉ X.fs := fun hm => by
      obtain ⟨e, he, q⟩ := List.mem_filterMap.mp hm
      exact nfr (List.mem_filterMap.mpr ⟨e, List.mem_cons_of_mem _ he, q⟩)
    have S3 := J3.suite he3 hd3 na nL nF
    have LT : PySem.W.Looks (model X.prog X.w) h3 (typeOf (.ref a)) cls := fun A Q E s k q => wpAny_typeOf_ref (k _ _ he3) (by rw [hz3.1]; exact q)
    have test : ∀ {x : Str} {c : Value} {np : Pos} {Q : Value → Shared → Prop} {E : Value → Shared → Prop}, Names X x c → Q c { s' with heap := h3 } → wpAny (model X.prog X.w) (X.A.mark (some (.ref a))) (eval (.Name x np) X.env) Q E { s' with heap := h3 } := fun {x c np Q E} hc q => by
      obtain ⟨hg, hdbg, hm | ⟨hm, hv, hnn⟩⟩ := hc
      · exact ld_glob (X := X.suite a ((a, oe3) :: (X.pn ++ pins))) S3 hg hm q hdbg
      · exact ld_blt (X := X.suite a ((a, oe3) :: (X.pn ++ pins))) S3 hg hm hv q hnn hdbg
    have go : ∀ {hs' : List ExceptHandler} {l' : List (Value × Option Nat × Suite)}, ClsOk X hs' l' → wCl X.K Wout D l' cls d σ' H' → wpAny (model X.prog X.w) X.A (handleBy (.ref a) X.env hs') (SP X pins D) X.xe { s' with heap := h3 } := by
      intro hs' l' hk
      induction hk with
      | nil =>
        intro w
        refine wpAny_handleBy_nil ?_
        obtain ⟨k1, k2, k3, oe, vs, T, oT, ts', he, hz, hd, h1, hr⟩ := id fl3
        unfold PySem.passOn
        refine wpAny_bind (wpAny_field he hd h1 ?_)
        rw [if_neg (show ¬ ((Value.ref T == Value.none) = true) from by simp)]
        have fin : wpAny (model X.prog X.w) X.A (setFlight (.ref a) X.env.frame) (fun _ s4 => wpAny (model X.prog X.w) X.A (throw (.ref a) : Sem Flow) (SP X pins D) X.xe s4) X.xe { s' with heap := h3 } := by
          rw [hf]
          refine HandSPX.setFlight_upZ fl3 fun h4 hh4 up4 => wpAny_throw (tk _ _ ?_)
          exact ⟨a, B, sI, pins, σ', H', cls, d, rfl, J, nb, (up.trans up3).trans up4, .inr (.inr (by rw [hs]; exact hh4)), na, os, ag, w⟩
        first
          | exact wpAny_bind (wpAny_pure (wpAny_bind fin))
          | exact wpAny_bind fin
      | @as x n c i ts b₀ suite np pos' hds2 l2 hc hi hln hsu r ih =>
        intro w
        obtain ⟨b, hb1, hyes, hno⟩ := w
        refine wpAny_handleBy_cons (codeAny_handlers_test ?_) (by intro q; cases q)
        refine test hc ((PySem.W.exm_one (M := model X.prog X.w) (J3.kIn) LT hb1).here ?_)
        cases b with
        | false => exact ih (hno rfl)
        | true =>
          refine codeAny_handlers_suite_as ?_
          refine HandSPX.lands_againZ fl3 fun h4 fl4 up4 => ?_
          have J4 : Inv X pins σ' H' { s' with heap := h4 } := J.landed nb fl4.1 ((up.trans up3).trans up4) os ag
          obtain ⟨oe4, vs4, he4, hz4, hd4⟩ := fl4.there
          refine store_ok (X := X.suite a ((a, oe4) :: (X.pn ++ pins))) (v := .ref a) (J4.suite he4 hd4 na nL nF) hN hi (.inl hln) rfl (fun s5 S5 => ?_) (.inr hln)
          refine wpAny_mono ((hsu a oe4 cls d (X.pn ++ pins) hz4 ⟨_, hd4⟩).run [] s5 _ H' _ S5 (hyes rfl a na)) (fun f s6 hsp => ?_) (fun _ _ z => False.elim z)
          cases f with
          | next => obtain ⟨σ6, H6, S6, q6⟩ := hsp; exact gone_ok (S6.unsuite ok) hN hi hln fun s7 J7 => ⟨_, _, J7, q6⟩
          | brk => obtain ⟨σ6, H6, S6, q6⟩ := hsp; exact gone_ok (S6.unsuite ok) hN hi hln fun s7 J7 => ⟨_, _, J7, q6⟩
          | cont => obtain ⟨σ6, H6, S6, q6⟩ := hsp; exact gone_ok (S6.unsuite ok) hN hi hln fun s7 J7 => ⟨_, _, J7, q6⟩
          | ret u => obtain ⟨v6, σ6, H6, S6, r6, q6⟩ := hsp; exact gone_ok (S6.unsuite ok) hN hi hln fun s7 J7 => ⟨_, _, _, J7, r6, q6⟩
      | @bare x c ts b₀ suite np pos' hds2 l2 hc hsu r ih =>
        intro w
        obtain ⟨b, hb1, hyes, hno⟩ := w
        refine wpAny_handleBy_cons (codeAny_handlers_test ?_) (by intro q; cases q)
        refine test hc ((PySem.W.exm_one (M := model X.prog X.w) (J3.kIn) LT hb1).here ?_)
        cases b with
        | false => exact ih (hno rfl)
        | true =>
          refine codeAny_handlers_suite ?_
          refine HandSPX.lands_againZ fl3 fun h4 fl4 up4 => ?_
          have J4 : Inv X pins σ' H' { s' with heap := h4 } := J.landed nb fl4.1 ((up.trans up3).trans up4) os ag
          obtain ⟨oe4, vs4, he4, hz4, hd4⟩ := fl4.there
          refine wpAny_mono ((hsu a oe4 cls d (X.pn ++ pins) hz4 ⟨_, hd4⟩).run [] _ _ H' _ (J4.suite he4 hd4 na nL nF) (hyes rfl a na)) (fun f s6 hsp => ?_) (fun _ _ z => False.elim z)
          cases f with
          | next => obtain ⟨σ6, H6, S6, q6⟩ := hsp; exact ⟨_, _, S6.unsuite ok, q6⟩
          | brk => obtain ⟨σ6, H6, S6, q6⟩ := hsp; exact ⟨_, _, S6.unsuite ok, q6⟩
          | cont => obtain ⟨σ6, H6, S6, q6⟩ := hsp; exact ⟨_, _, S6.unsuite ok, q6⟩
          | ret u => obtain ⟨v6, σ6, H6, S6, r6, q6⟩ := hsp; exact ⟨_, _, _, S6.unsuite ok, r6, q6⟩
    exact go hh w
  · have q := land hsp
    cases f with
    | next => exact wpAny_execs_nil q
    | ret u => exact q
    | brk => exact q
    | cont => exact q
end
end LKX

set_option Elab.async false
set_option linter.all false
set_option maxRecDepth 100000
set_option maxHeartbeats 4000000
set_option autoImplicit false
/-! LX4: typed readings of what raises. -/
namespace LK
open PySem PySem.Spec PyProof.Rows L2 LKX
/-- an error: its kind, its fields -/
abbrev Er := Nat × List Dt
structure XT where
  cls : Nat → Addr
  flds : Nat → List Str
def rEr (T : XT) (F : Hp) (cls : Value) (d : Option Addr) (er : Er) : Prop :=
  cls = .ref (T.cls er.1) ∧ ∃ dd fs, d = some dd ∧ F dd = some (.xd fs) ∧ ∀ (i : Nat) (f : Str) (x : Dt), (T.flds er.1)[i]? = some f → er.2[i]? = some x → ∃ v, fs.lookup f = some v ∧ rDt F v x
theorem rEr.mo {T : XT} {F F' : Hp} {cls : Value} {d : Option Addr} {er : Er} (h : rEr T F cls d er) (e : Exs F F') : rEr T F' cls d er := by
  obtain ⟨h1, dd, fs, h2, h3, h4⟩ := h
  refine ⟨h1, dd, fs, h2, e.at_ h3 rfl, fun i f x a b => ?_⟩
  obtain ⟨v, z1, z2⟩ := h4 i f x a b
  exact ⟨v, z1, mox' e z2⟩
where mox' {F F' : Hp} {v : V} {x : Dt} (e : Exs F F') (h : rDt F v x) : rDt F' v x := rDt_mo e h
/-- what is wanted of an error that leaves -/
def ErK (T : XT) (F H : Hp) (E : XK) (er : Er) : Prop := ∀ cls d F' H', Gr F H F' H' → rEr T F' cls d er → E cls d H'
theorem ErK.up {T : XT} {F H F' H' : Hp} {E : XK} {er : Er} (h : ErK T F H E er) (g : Gr F H F' H') : ErK T F' H' E er := fun cls d F2 H2 g2 r => h cls d F2 H2 (g.trans g2) r
def spX {α β : Type} (T : XT) (P : Pt α) (pre : α → Prop) (f : α → Except Er β) (rb : Rp β) : Sp := fun vs H Q E => ∃ F a, Ex F H ∧ P.ra F H H vs a ∧ pre a ∧
  (∀ b, f a = .ok b → ∀ v F' H', Gr F H F' H' → rb F' v b → Q v H') ∧ (∀ er, f a = .error er → ErK T F H E er)
theorem spX_len {α β : Type} {T : XT} {P : Pt α} {pre : α → Prop} {f : α → Except Er β} {rb : Rp β} {vs : List V} {H : Hp} {Q : VK} {E : XK} (h : spX T P pre f rb vs H Q E) : vs.length = P.count := by
  obtain ⟨F, a, _, h, _⟩ := h; exact P.length h
section
variable {F0 H0 : Hp} {G : List Slot} {m m1 m2 : Md} {ta tb te : TE} {t : TA} {K : PySem.W.Frag} {T : XT}
/-- a call that comes back -/
theorem ed_callX {α β : Type} {P : Pt α} {pre : α → Prop} {f : α → Except Er β} {rb : Rp β} {E : L2.St → XK} {a : α} {b : β} (h : Ea F0 H0 t G P.ra a) (hT : ∀ {F H : Hp} {vs : List V}, Gr F0 H0 F H → P.ra F H0 H vs a → P.ra F H H vs a) (hp : pre a) (hf : f a = .ok b) :
    Ed F0 H0 (tCallS (spX T P pre f rb) E t) G .sh rb b := fun σ F H EE Q q =>
  h σ F H EE _ fun vs F1 H1 g1 h1 => ⟨F1, a, g1.fh, hT (EE.gr.trans g1) h1, hp, fun c hc v F2 H2 g2 h2 => by rw [hf] at hc; cases hc; exact q v F2 H2 (g1.trans g2) h2, fun er he => by rw [hf] at he; cases he⟩
/-- an expression that raises, whatever is wanted of its value -/
def Edx (F0 H0 : Hp) (t : TE) (G : List Slot) : Prop := ∀ σ F H, EnvOk F0 H0 G σ F H → ∀ Q : VK, t σ H Q
theorem edx_call {α β : Type} {P : Pt α} {pre : α → Prop} {f : α → Except Er β} {rb : Rp β} {W : WX} {a : α} {er : Er} (h : Ea F0 H0 t G P.ra a) (hT : ∀ {F H : Hp} {vs : List V}, Gr F0 H0 F H → P.ra F H0 H vs a → P.ra F H H vs a) (hp : pre a) (hf : f a = .error er)
    (hx : ∀ σ F H, EnvOk F0 H0 G σ F H → ∀ cls d, rEr T F cls d er → W cls d σ H) : Edx F0 H0 (tCallS (spX T P pre f rb) (WE W) t) G := fun σ F H EE Q =>
  h σ F H EE _ fun vs F1 H1 g1 h1 => ⟨F1, a, g1.fh, hT (EE.gr.trans g1) h1, hp, fun c hc => (by rw [hf] at hc; cases hc), fun er' he cls d F2 H2 g2 r => by
    rw [hf] at he; cases he
    exact hx σ F2 H2 ((EE.gro g1).gro g2) cls d r⟩
variable {nx : L2.St → Hp → Prop} {rt : VK} {bk ct : L2.St → Hp → Prop}
theorem gk_asgx {g : TG} (h : Edx F0 H0 te G) : Gk F0 H0 (tAsg te g ⟨nx, rt, bk, ct⟩) G := fun σ F H E => h σ F H E _
theorem gk_retx (h : Edx F0 H0 te G) : Gk F0 H0 (tRet te ⟨nx, rt, bk, ct⟩) G := fun σ F H E => h σ F H E _
theorem gk_dropx (h : Edx F0 H0 te G) : Gk F0 H0 (tDrop te ⟨nx, rt, bk, ct⟩) G := fun σ F H E => h σ F H E _
/-- raise C(e) -/
theorem gk_raise1 {α : Type} {r : Rp α} [Mo r] [Tod r] {a : α} {C : Addr} {f : Str} {W : WX} {D : Ends} {k : Nat} (h : Ed F0 H0 te G .sh r a) (hC : T.cls k = C) (hf : T.flds k = [f])
    (hx : ∀ σ F H, EnvOk F0 H0 G σ F H → ∀ cls d, rEr T F cls d (k, [Tod.d r a]) → W cls d σ H) : Gk F0 H0 (fun σ H => tMk1 C f (tCons te tNil) σ H fun cls d H' => W cls d σ H') G := fun σ F H E =>
  h σ F H E _ fun v F1 H1 g1 hv => ⟨v, rfl, fun dx hd => by
    have n := Ex.new (o := .xd [(f, v)]) (g1.fh.back hd)
    refine hx σ (upd F1 dx (.xd [(f, v)])) _ (E.gro (g1.trans (Gr.new g1.fh hd))) _ _ ⟨by rw [← hC], dx, _, rfl, upd_same, fun i g x e1 e2 => ?_⟩
    rw [hf] at e1
    cases i with
    | zero =>
      have e1 : f = g := Option.some.inj e1
      have e2 : Tod.d r a = x := Option.some.inj e2
      subst e1; subst e2
      exact ⟨v, by simp [List.lookup], Tod.to (mox n hv)⟩
    | succ i => simp at e1⟩
end

/-! ### a caught error -/
/-- v: the caught one at a, of the class cls, its dict at d -/
def rXc (T : XT) (a : Addr) (cls : Value) (d : Option Addr) : Rp Er := fun F v er => v = .ref a ∧ rEr T F cls d er
instance (T : XT) (a : Addr) (cls : Value) (d : Option Addr) : Mo (rXc T a cls d) := ⟨fun e h => ⟨h.1, h.2.mo e⟩⟩
section
variable {F0 H0 : Hp} {G : List Slot} {m : Md} {te : TE} {K : PySem.W.Frag} {T : XT} {er : Er} {Wout : WX} {D : Ends} {l : List (Value × Option Nat × Suite)} {c : Value} {i : Nat} {ts : Suite}
/-- what is wanted where the error er is in the air -/
def Air (F0 H0 : Hp) (G : List Slot) (T : XT) (W : WX) (er : Er) : Prop := ∀ σ F H, EnvOk F0 H0 G σ F H → ∀ cls d, rEr T F cls d er → W cls d σ H
theorem air_out {E : XK} (h : ErK T F0 H0 E er) : Air F0 H0 G T (fun cls d _ H => E cls d H) er := fun σ F H EE cls d r => h cls d F H EE.gr r
theorem air_as {b : Bool} (he : PySem.W.exmOne K (.ref (T.cls er.1)) c = some b) (hy : b = true → ∀ a cls d, Gk F0 H0 (ts a cls d (goneD i D)) (G.set i (sF (rXc T a cls d) er))) (hn : b = false → Air F0 H0 G T (wCl K Wout D l) er) :
    Air F0 H0 G T (wCl K Wout D ((c, some i, ts) :: l)) er := fun σ F H EE cls d r => ⟨b, by rw [r.1]; exact he, fun e a ha => hy e a cls d _ F H (EE.set ⟨.ref a, rfl, rfl, r⟩ fun _ _ z => nomatch z), fun e => hn e σ F H EE cls d r⟩
theorem air_bare {b : Bool} (he : PySem.W.exmOne K (.ref (T.cls er.1)) c = some b) (hy : b = true → ∀ a cls d, Gk F0 H0 (ts a cls d D) G) (hn : b = false → Air F0 H0 G T (wCl K Wout D l) er) :
    Air F0 H0 G T (wCl K Wout D ((c, none, ts) :: l)) er := fun σ F H EE cls d r => ⟨b, by rw [r.1]; exact he, fun e a ha => hy e a cls d σ F H EE, fun e => hn e σ F H EE cls d r⟩
theorem air_nil (h : Air F0 H0 G T Wout er) : Air F0 H0 G T (wCl K Wout D []) er := h
/-- behind a suite the name is gone -/
theorem gk_gone {nx : L2.St → Hp → Prop} (h : Gk F0 H0 nx (G.set i .no)) : Gk F0 H0 (fun σ H => nx (σ.set i none) H) G := fun σ F H E => h _ F H E.wipe
/-- e.f of the caught one -/
theorem ed_xf {a : Addr} {cls : Value} {d : Option Addr} {im : Mo (rXc T a cls d)} {n : Nat} {f : Str} {x : Dt} {C : Addr} (hi : G[i]? = some (.fz (rXc T a cls d) im er)) (hC : T.cls er.1 = C) (hf : (T.flds er.1)[n]? = some f) (hx : er.2[n]? = some x) :
    Ed F0 H0 (tXf a cls d C f (tVar i)) G .sh rDt x := fun σ F H E Q q => by
  obtain ⟨v, hv, rfl, h1, dd, fs, h2, h3, h4⟩ := E.fz_at hi
  obtain ⟨u, e1, e2⟩ := h4 n f x hf hx
  exact ⟨_, hv, rfl, by rw [h1, hC], dd, fs, u, h2, E.gr.fh _ _ h3, e1, q u F H (Gr.refl E.gr.fh) e2⟩
/-- a datum of a known kind as one of any kind -/
theorem ed_dt {α : Type} {r : Rp α} [Tod r] {a : α} (h : Ed F0 H0 te G m r a) : Ed F0 H0 te G m rDt (Tod.d r a) := fun σ F H E Q q => h σ F H E Q fun v F' H' g hv => q v F' H' g (Tod.to hv)
end
section
variable {P : Program} {w : World} {K : PySem.W.Frag} {mg : Str → Option Value} {base : Heap}
theorem ok_X {α β : Type} {X : XT} {T : Pt α} {pre : α → Prop} {f : α → Except Er β} {rb : Rp β} {x qual : Str} {st : Stmt} {fa : Addr} {fd : FuncData} {N ps : List Str} {k : Nat} (c : Nat) (Fn : Fun K x qual st fa fd) (S : FnScope N ps (defScope st)) (hc : N.length = T.count + c) (hps : ps.length = T.count)
    (hbody : ∀ (cdv : Value) (A : Around) (outer : List Env) (s : Shared) (H : Hp) (E : XK), Room k (A.deeper (envOfC qual (defScope st) s.heap.objs.size fa cdv)) →
      ∃ t, PSs (cxOf (L2.CX P w) P w K mg base N qual (defScope st) fa cdv A outer s H E) (defBody st) t ∧ ∀ (F : Hp) (a : α) (nx : L2.St → Hp → Prop) (rt : VK) (bk ct : L2.St → Hp → Prop), pre a → (∀ b, f a = .ok b → Rt F H rt rb b) → (∀ er, f a = .error er → ErK X F H E er) → (∀ σ H', nx σ H' = rt .non H') → Gk F H (t ⟨nx, rt, bk, ct⟩) (T.slots a ++ List.replicate c .no)) :
    FnOk P w K mg base (L2.CX P w) (k + 1) fa fd ps (spX X T pre f rb) := by
  refine Fn.okX S (fun vs H Q E h => by rw [hps]; exact spX_len h) (fun cdv A outer s H vs Q E hr h => ?_)
  obtain ⟨F, a, e, ha, hp, q1, q2⟩ := h
  obtain ⟨t, ht, hg⟩ := hbody cdv A outer s H E hr
  exact ⟨t, ht, hg F a _ _ _ _ hp (fun b hb v F' H' g h => q1 b hb v F' H' g h) q2 (fun _ _ => rfl) _ F H (entry e ha c hc)⟩
end
end LK
namespace LK
open PySem PySem.Spec L2 LKX
theorem ErK.lo {T : XT} {F0 H0 F1 : Hp} {E : XK} {er : Er} (h : ErK T F0 H0 E er) (b : Bs F0 H0 F1) : ErK T F1 H0 E er := fun cls d F H g r => h cls d F H (g.down b) r
/-- one after the other, an error ends it -/
def bx {α β : Type} (m : Except Er α) (k : α → Except Er β) : Except Er β := match m with
  | .ok a => k a
  | .error e => .error e
theorem bx_ok {α β : Type} {m : Except Er α} {k : α → Except Er β} {a : α} {r : Except Er β} (h : m = .ok a) (p : k a = r) : bx m k = r := by subst h; exact p
theorem bx_err {α β : Type} {m : Except Er α} {k : α → Except Er β} {e : Er} (h : m = .error e) : bx m k = .error e := by subst h; rfl
end LK
namespace LK
open PySem PySem.Spec L2 LKX
theorem edx_pr2 {F0 H0 : Hp} {G : List Slot} {ta tb : TE} {α : Type} {r : Rp α} {a : α} (h1 : Ed F0 H0 ta G .sh r a) (h2 : Edx F0 H0 tb G) : Edx F0 H0 (tTup (tCons ta (tCons tb tNil))) G := fun σ F H E Q =>
  h1 σ F H E _ fun v F1 H1 g1 _ => h2 σ F1 H1 (E.gro g1) _
end LK

set_option Elab.async false
set_option linter.all false
set_option maxRecDepth 100000
set_option maxHeartbeats 4000000
set_option autoImplicit false
/-! LX5: isinstance of a caught error. -/
namespace LKX
open PySem PySem.Spec PyProof.Rows L2
def rIsX (K : PySem.W.Frag) (a : Addr) (cls : Value) (d : Option Addr) : List V → Hp → VK → Prop := fun xs H Q => ∃ (D dd : Addr) (fs : List (Str × V)) (c : V) (cv : Value) (b : Bool), cls = .ref D ∧ ExcC K D ∧ d = some dd ∧ H dd = some (.xd fs) ∧
  xs = [.ref a, c] ∧ (∀ u, RelV c u → u = cv) ∧ PySem.W.kitOne K (.ref D) cv = some b ∧ Q (.bl b) H
theorem call_isX {X : Cx} {a : Addr} {oe : Obj} {cls : Value} {d : Option Addr} {pn : List (Addr × Obj)} (hz : Zc cls d oe) (hf : ∃ vs, oe.data = .fields vs) : CallR (X.suite a ((a, oe) :: pn)) (.builtin "isinstance") (rIsX X.K a cls d) := by
  intro pins s σ H xs us Q I r h
  obtain ⟨D, dd, fs, c, cv, b, rfl, C, rfl, hdd, rfl, hcv, e, q⟩ := h
  cases r with
  | cons rx rr =>
    cases rr with
    | cons rt rr =>
      cases rr
      cases rx
      have ec := hcv _ rt
      subst ec
      obtain ⟨hget, _⟩ := I.pin (a, oe) (List.mem_append.mpr (.inl List.mem_cons_self))
      obtain ⟨vs, hv⟩ := hf
      have hx : ObjOk X.prog X.w H s.heap dd (.xd fs) := I.hok dd _ hdd
      obtain ⟨mA, hns, hr⟩ := hx
      obtain ⟨od, ho, hl⟩ := lookIn_ns hns
      have J : PySem.W.InstAt s.heap a oe D (some od) := ⟨hget, hz.1, by unfold PySem.W.notCls; rw [hv] <;> rfl, by rw [hz.2]; exact ho⟩
      have hcl : (PySem.W.clsIn X.K D).isSome = true := by
        obtain ⟨cd, hc, _⟩ := PySem.W.any_some C.hd
        have hc : PySem.W.clsIn X.K D = some cd := hc
        rw [hc]; rfl
      exact PySem.W.kia_one (PySem.W.kitx_exc hcl C.hg C.hk C.hs C.ha C.hn C.ht C.hm) I.kIn J e (fun z => nomatch z) fun tk => ⟨.bl b, H, I.kept (t' := tk) fun _ _ z => z, rfl, q⟩
end LKX
namespace LK
open PySem PySem.Spec PyProof.Rows L2 LKX
theorem ed_isX {F0 H0 : Hp} {G : List Slot} {m : Md} {K : PySem.W.Frag} {T : XT} {er : Er} {a : Addr} {cls : Value} {d : Option Addr} {im : Mo (rXc T a cls d)} {i : Nat} {c : V} {cv : Value} {b : Bool} (hi : G[i]? = some (.fz (rXc T a cls d) im er)) (hC : ExcC K (T.cls er.1)) (hcv : ∀ u, RelV c u → u = cv) (hk : PySem.W.kitOne K (.ref (T.cls er.1)) cv = some b) :
    Ed F0 H0 (tCB (rIsX K a cls d) (tCons (tVar i) (tCons (tC c) tNil))) G m rBl b := fun σ F H E Q q => by
  obtain ⟨v, hv, rfl, h1, dd, fs, h2, h3, h4⟩ := E.fz_at hi
  exact ⟨_, hv, T.cls er.1, dd, fs, c, cv, b, h1, hC, h2, E.gr.fh _ _ h3, rfl, hcv, hk, q _ F H (Gr.refl E.gr.fh) rfl⟩
end LK
namespace LK
open PySem PySem.Spec PyProof.Rows L2
/-- a module's constant -/
theorem w_glob {X : Cx} {x : Str} {v : V} {pos : Pos} (h : ∃ u, X.mg x = some u ∧ RelV v u) (hg : Gl X x := by rfl) (hd : (x == ("__debug__" : Str)) = false := by decide) : PE X (.Name x pos) (tC v) :=
  let ⟨_, h1, h2⟩ := h; pe_glob hg h1 h2 hd
end LK
namespace LKX
open PySem PySem.Spec PyProof.Rows L2 LK
/-- what a law knows of an error's class with one field, by its name -/
structure Xk (P : Program) (w : World) (K : PySem.W.Frag) (mg : Str → Option Value) (xt : XT) (x : Str) (k : Nat) (f : Str) : Prop where
  gC : mg x = some (.ref (xt.cls k))
  T : OexC K (xt.cls k)
  ini : ∃ fI, PySem.W.findIn K (.ref (xt.cls k)) "__init__" = some (some (.ref fI)) ∧ PySem.W.typeIn K (.ref fI) = some (.type "function") ∧ Ini1 P w K mg (xt.cls k) fI f
  flds : xt.flds k = [f]
theorem pmk_xk {X : Cx} {xt : XT} {x f : Str} {k j : Nat} {e1 : Expr} {ta : TA} {p pos : Pos} (J : Xk X.prog X.w X.K X.mg xt x k f) (hr : Room (j + 1) X.A) (ha : PA X [e1] ta) (hg : Gl X x := by rfl)
    (hdb : (x == ("__debug__" : Str)) = false := by decide) (he : starEach [e1] X.env = (false, eval e1 X.env) :: starEach [] X.env := by rfl) : PMk X (.Call (.Name x p) [e1] [] pos) (tMk1 (xt.cls k) f ta) :=
  let ⟨_, a, b, c⟩ := J.ini; pmk_sup1 J.T a b c hr hg J.gC ha hdb he
theorem ps_raise1 {X : Cx} {W : WX} {xt : XT} {x f : Str} {k j : Nat} {e1 : Expr} {ta : TA} {p pos pos2 : Pos} (J : Xk X.prog X.w X.K X.mg xt x k f) (hr : Room (j + 1) X.A) (tk : Takes X W) (ha : PA X [e1] ta) (hc : X.calm = true := by rfl) (hg : Gl X x := by rfl)
    (hdb : (x == ("__debug__" : Str)) = false := by decide) (he : starEach [e1] X.env = (false, eval e1 X.env) :: starEach [] X.env := by rfl) :
    PS X (.Raise (some (.Call (.Name x p) [e1] [] pos)) none pos2) (fun _ σ H => tMk1 (xt.cls k) f ta σ H fun cls d H' => W cls d σ H') := ps_raise hc tk (pmk_xk J hr ha hg hdb he)
end LKX

set_option Elab.async false
set_option linter.all false
set_option maxRecDepth 100000
set_option maxHeartbeats 4000000
set_option autoImplicit false
/-! LJ1: what a piece of code gives, as a function of what the slots hold; an answer is a datum, an error, or unknown. -/
/-- an answer: a datum, an error, nothing known -/
inductive R (ε α : Type) : Type
  | ok (a : α)
  | er (e : ε)
  | no
namespace R
variable {ε δ α β : Type}
/-- one after the other, errors as they are -/
def bind (x : R ε α) (k : α → R ε β) : R ε β := match x with
  | .ok a => k a
  | .er e => .er e
  | .no => .no
/-- one after the other, errors told by g -/
def thn (x : R ε α) (g : ε → δ) (k : α → R δ β) : R δ β := match x with
  | .ok a => k a
  | .er e => .er (g e)
  | .no => .no
/-- where no error may leave -/
def noer (x : R ε α) : R δ α := match x with
  | .ok a => .ok a
  | _ => .no
/-- if it is so -/
def iff (c : Prop) [Decidable c] (x : R ε α) : R ε α := if c then x else .no
end R
namespace LJ
open PySem L2 LK LKX PyProof.Rows PySem.Spec
/-- no star ahead of it -/
def notStar : Expr → Bool
  | .Starred _ _ => false
  | _ => true
theorem star_cons {e : Expr} {es : List Expr} {env : Env} (h : notStar e = true) : starEach (e :: es) env = (false, eval e env) :: starEach es env := by
  cases e <;> first | rfl | cases h
/-! ### canonical readings -/
def tE (X : Cx) (e : Expr) : TE := fun σ H Q => ∀ (pins : List (Addr × Obj)) (s : Shared), Inv X pins σ H s → wpAny (model X.prog X.w) X.A (eval e X.env) (EP X pins σ Q) X.xe s
def tT (X : Cx) (e : Expr) : TT := fun σ H Q => ∀ (pins : List (Addr × Obj)) (s : Shared), Inv X pins σ H s → wpAny (model X.prog X.w) X.A (isTrue e X.env (eval e X.env)) (TP X pins σ Q) X.xe s
def tW (X : Cx) (e : Expr) : TT := fun σ H Q => ∀ (wh : Sem Value) (pins : List (Addr × Obj)) (s : Shared), Inv X pins σ H s → wpAny (model X.prog X.w) X.A (isTrue e X.env wh) (TP X pins σ Q) X.xe s
def tA (X : Cx) (es : List Expr) : TA := fun σ H Q => ∀ (pos : Pos) (pins : List (Addr × Obj)) (s : Shared), Inv X pins σ H s → wpAny (model X.prog X.w) X.A (spliced (backTo pos (starEach es X.env))) (AP X pins σ Q) X.xe s
def tS (X : Cx) (st : List Stmt) : TS := fun D σ H => ∀ (pins : List (Addr × Obj)) (s : Shared), Inv X pins σ H s → wpAny (model X.prog X.w) X.A (execs st X.env) (SP X pins D) X.xe s
section
variable {X : Cx} {e : Expr} {es : List Expr} {st : List Stmt} {t : TE} {u : TT} {a : TA} {v : TS}
theorem pE : PE X e (tE X e) := ⟨fun pins s σ H Q I h => h pins s I⟩
theorem pT : PT X e (tT X e) := ⟨fun pins s σ H Q I h => h pins s I⟩
theorem pW : PW X e (tW X e) := ⟨fun wh pins s σ H Q I h => h wh pins s I⟩
theorem pA : PA X es (tA X es) := ⟨fun pos pins s σ H Q I h => h pos pins s I⟩
theorem pS : PSs X st (tS X st) := ⟨fun pins s σ H D I h => h pins s I⟩
theorem tE_le (h : PE X e t) {σ : L2.St} {H : Hp} {Q : VK} (q : t σ H Q) : tE X e σ H Q := fun pins s I => h.run pins s σ H Q I q
theorem tT_le (h : PT X e u) {σ : L2.St} {H : Hp} {Q : Bool → Hp → Prop} (q : u σ H Q) : tT X e σ H Q := fun pins s I => h.run pins s σ H Q I q
theorem tW_le (h : PW X e u) {σ : L2.St} {H : Hp} {Q : Bool → Hp → Prop} (q : u σ H Q) : tW X e σ H Q := fun wh pins s I => h.run wh pins s σ H Q I q
theorem tA_le (h : PA X es a) {σ : L2.St} {H : Hp} {Q : List V → Hp → Prop} (q : a σ H Q) : tA X es σ H Q := fun pos pins s I => h.run pos pins s σ H Q I q
theorem tS_le (h : PSs X st v) {σ : L2.St} {H : Hp} {D : Ends} (q : v D σ H) : tS X st D σ H := fun pins s I => h.run pins s σ H D I q
end

/-! ### where a piece of code stands -/
structure Cn where
  X : Cx
  T : XT
  W : WX
  tk : Takes X W
  nd : X.N.Nodup
/-- an error is in the air -/
def Dx (C : Cn) (F0 H0 : Hp) (t : TE) (G : List Slot) (e : Er) : Prop := ∀ σ F H, EnvOk F0 H0 G σ F H → (∀ F' H' cls d, Gr F H F' H' → rEr C.T F' cls d e → C.W cls d σ H') → ∀ Q : VK, t σ H Q
def Dr (C : Cn) {α : Type} (F0 H0 : Hp) (t : TE) (G : List Slot) (m : Md) (r : Rp α) : R Er α → Prop
  | .ok a => Ed F0 H0 t G m r a
  | .er e => Dx C F0 H0 t G e
  | .no => True
def Tx (C : Cn) (F0 H0 : Hp) (t : TT) (G : List Slot) (e : Er) : Prop := ∀ σ F H, EnvOk F0 H0 G σ F H → (∀ F' H' cls d, Gr F H F' H' → rEr C.T F' cls d e → C.W cls d σ H') → ∀ Q : Bool → Hp → Prop, t σ H Q
def Tr (C : Cn) (F0 H0 : Hp) (t : TT) (G : List Slot) : R Er Bool → Prop
  | .ok b => Et F0 H0 t G b
  | .er e => Tx C F0 H0 t G e
  | .no => True
/-- a thing in a slot of its own -/
def Dv (F0 H0 : Hp) (t : TE) (G : List Slot) (s : Slot) : Prop := ∀ σ F H, EnvOk F0 H0 G σ F H → ∀ Q : VK, (∀ v F' H', Gr F H F' H' → EnvOk F H [s] [some v] F' H' → Q v H') → t σ H Q
def Ds (C : Cn) {α : Type} (F0 H0 : Hp) (t : TE) (G : List Slot) (sb : α → Slot) : R Er α → Prop
  | .ok a => Dv F0 H0 t G (sb a)
  | .er e => Dx C F0 H0 t G e
  | .no => True
section
variable {C : Cn} {F0 H0 : Hp} {G : List Slot} {m m1 m2 : Md} {ta tb : TE}
theorem Dr.bind {α β : Type} {r : Rp α} {r' : Rp β} {x : R Er α} {f : α → R Er β} {t : TE} (h : Dr C F0 H0 ta G m r x) (hx : ∀ e, Dx C F0 H0 ta G e → Dx C F0 H0 t G e) (k : ∀ a, Ed F0 H0 ta G m r a → Dr C F0 H0 t G m1 r' (f a)) : Dr C F0 H0 t G m1 r' (x.bind f) := by
  cases x with
  | ok a => exact k a h
  | er e => exact hx e h
  | no => trivial
theorem Dr.le {α : Type} {r : Rp α} {x : R Er α} {t u : TE} (h : Dr C F0 H0 t G m r x) (le : ∀ σ H Q, t σ H Q → u σ H Q) : Dr C F0 H0 u G m r x := by
  cases x with
  | ok a => exact fun σ F H E Q q => le _ _ _ (h σ F H E Q q)
  | er e => exact fun σ F H E w Q => le _ _ _ (h σ F H E w Q)
  | no => trivial
theorem Ds.le {α : Type} {sb : α → Slot} {x : R Er α} {t u : TE} (h : Ds C F0 H0 t G sb x) (le : ∀ σ H Q, t σ H Q → u σ H Q) : Ds C F0 H0 u G sb x := by
  cases x with
  | ok a => exact fun σ F H E Q q => le _ _ _ (h σ F H E Q q)
  | er e => exact fun σ F H E w Q => le _ _ _ (h σ F H E w Q)
  | no => trivial
theorem Tr.le {x : R Er Bool} {t u : TT} (h : Tr C F0 H0 t G x) (le : ∀ σ H Q, t σ H Q → u σ H Q) : Tr C F0 H0 u G x := by
  cases x with
  | ok a => exact fun σ F H E Q q => le _ _ _ (h σ F H E Q q)
  | er e => exact fun σ F H E w Q => le _ _ _ (h σ F H E w Q)
  | no => trivial
end

/-! ### judgements -/
structure XE (C : Cn) (e : Expr) (G : List Slot) (m : Md) {α : Type} (r : Rp α) (f : R Er α) : Prop where
  h : ∀ F0 H0, Dr C F0 H0 (tE C.X e) G m r f
structure XQ (C : Cn) (e : Expr) (G : List Slot) (f : R Er Bool) : Prop where
  h : ∀ F0 H0, Tr C F0 H0 (tT C.X e) G f
structure XW (C : Cn) (e : Expr) (G : List Slot) (f : R Er Bool) : Prop where
  h : ∀ F0 H0, Tr C F0 H0 (tW C.X e) G f
structure XN (C : Cn) (e : Expr) (G : List Slot) {α : Type} (sb : α → Slot) (f : R Er α) : Prop where
  h : ∀ F0 H0, Ds C F0 H0 (tE C.X e) G sb f
/-- what a block hands on: rs, ret: a return; slz: what is told of the slots at a return or an error; em: an error -/
structure Jn (β ρ ε Z : Type) where
  rs : β → Slot
  ret : β → Z → ρ
  slz : Z → List Slot
  em : Er → Z → ε
section
variable {β ρ ε Z S' : Type}
/-- what the answers mean -/
structure Ans (C : Cn) (J : Jn β ρ ε Z) (F0 H0 : Hp) (A : R ε ρ → Prop) (rt : VK) : Prop where
  no : ¬ A .no
  ret : ∀ b z, A (.ok (J.ret b z)) → ∀ σ F H v, EnvOk F0 H0 (J.rs b :: J.slz z) (some v :: σ) F H → rt v H
  er : ∀ e z, A (.er (J.em e z)) → ∀ σ F H cls d, EnvOk F0 H0 (J.slz z) σ F H → rEr C.T F cls d e → C.W cls d σ H
structure XB (C : Cn) (J : Jn β ρ ε Z) (st : List Stmt) (G : List Slot) (slk : S' → List Slot) (M : (S' → R ε ρ) → R ε ρ) : Prop where
  h : ∀ (F0 H0 : Hp) (A : R ε ρ → Prop) (D : Ends), Ans C J F0 H0 A D.rt → ∀ k : S' → R ε ρ, (∀ s', A (k s') → Gk F0 H0 D.nx (slk s')) → A (M k) → Gk F0 H0 (tS C.X st D) G
theorem Ans.down {C : Cn} {J : Jn β ρ ε Z} {F0 H0 F1 : Hp} {A : R ε ρ → Prop} {rt : VK} (a : Ans C J F0 H0 A rt) (b : Bs F0 H0 F1) : Ans C J F1 H0 A rt :=
  ⟨a.no, fun x z h σ F H v E => a.ret x z h σ F H v (E.down b), fun e z h σ F H cls d E => a.er e z h σ F H cls d (E.down b)⟩
end

/-! ### expressions: names, constants -/
section
variable {C : Cn} {G : List Slot} {m m1 m2 : Md} {a b : Expr} {pos : Pos}
theorem xv {α : Type} {r : Rp α} {im : Mo r} {x : Str} {g : α} (i : Nat) (h : G[i]? = some (.fz r im g) := by rfl) (hN : C.X.N[i]? = some x := by rfl) (hv : Vis C.X.env.scope x := by first | exact Or.inl rfl | exact Or.inr (Or.inl rfl) | exact Or.inr (Or.inr rfl)) (hd : (x == ("__debug__" : Str)) = false := by decide)
    (hcd : (x == ("__classdict__" : Str)) = false := by decide) : XE C (.Name x pos) G .sh r (.ok g) := ⟨fun F0 H0 σ F H E Q q => tE_le (pe_var hN hv hd hcd) (ed_v (F0 := F0) (H0 := H0) h σ F H E Q q)⟩
theorem xvb {α : Type} {r : Rp α} {im : Mo r} {x : Str} {g : α} (i : Nat) (h : G[i]? = some (.bw r im g) := by rfl) (hN : C.X.N[i]? = some x := by rfl) (hv : Vis C.X.env.scope x := by first | exact Or.inl rfl | exact Or.inr (Or.inl rfl) | exact Or.inr (Or.inr rfl)) (hd : (x == ("__debug__" : Str)) = false := by decide)
    (hcd : (x == ("__classdict__" : Str)) = false := by decide) : XE C (.Name x pos) G .b0 r (.ok g) := ⟨fun F0 H0 σ F H E Q q => tE_le (pe_var hN hv hd hcd) (ed_b (F0 := F0) (H0 := H0) h σ F H E Q q)⟩
theorem xvo {α : Type} {r : Rp α} [Mo r] {im : Mo r} {x : Str} {g : List α} {iM : MoM (mL r g)} (i : Nat) (h : G[i]? = some (.ow (mL r g) iM) := by rfl) (hN : C.X.N[i]? = some x := by rfl) (hv : Vis C.X.env.scope x := by first | exact Or.inl rfl | exact Or.inr (Or.inl rfl) | exact Or.inr (Or.inr rfl)) (hd : (x == ("__debug__" : Str)) = false := by decide)
    (hcd : (x == ("__classdict__" : Str)) = false := by decide) : XE C (.Name x pos) G .bo (rLst r) (.ok g) := ⟨fun F0 H0 σ F H E Q q => tE_le (pe_var hN hv hd hcd) (ed_o (F0 := F0) (H0 := H0) h σ F H E Q q)⟩
/-- a reading without conditions -/
theorem x0 {α : Type} {r : Rp α} {e : Expr} {t : TE} {f : α} (p : PE C.X e t) (h : ∀ F0 H0, Ed F0 H0 t G m r f) : XE C e G m r (.ok f) := ⟨fun F0 H0 σ F H E Q q => tE_le p (h F0 H0 σ F H E Q q)⟩
theorem xint {i : Int} {n : Nat} : XE C (.Constant (.int i) n pos) G .sh rInt (.ok i) := x0 pe_int fun _ _ => ed_int
theorem xbl {c : Bool} {n : Nat} : XE C (.Constant (.bool c) n pos) G .sh rBl (.ok c) := x0 pe_bl fun _ _ => ed_bl
theorem xtx {x : Str} {n : Nat} (l : List Nat) (h : x = ⟨l.toArray⟩ := by rfl) (hl : l.length ≤ 16777216 := by decide) (hc : (l.all fun c => decide (c < 1114112)) = true := by decide) : XE C (.Constant (.str x) n pos) G .sh rTx (.ok l) := x0 pe_str fun _ _ => ed_tx h hl hc
theorem xnone {α : Type} {r : Rp α} {n : Nat} : XE C (.Constant .none n pos) G .sh (rOpt r) (.ok none) := x0 pe_non fun _ _ => ed_none
theorem xnon {n : Nat} : XE C (.Constant .none n pos) G .sh rNon (.ok ()) := x0 pe_non fun _ _ => ed_nonU
theorem xglob {α : Type} {r : Rp α} {x : Str} {v : V} {a : α} (h : ∃ u, C.X.mg x = some u ∧ RelV v u) (hr : ∀ F, r F v a) (hg : Gl C.X x := by rfl) (hd : (x == ("__debug__" : Str)) = false := by decide) : XE C (.Name x pos) G .sh r (.ok a) := x0 (w_glob h hg hd) fun _ _ => ed_c hr
end
/-! ### two operands -/
section
variable {C : Cn} {G : List Slot} {m m1 m2 : Md} {a b e : Expr} {pos : Pos}
theorem x1 {α γ : Type} {rx : Rp α} {rz : Rp γ} {t : TE} {f : R Er α} {op : α → R Er γ} (ha : XE C a G m1 rx f)
    (p : PE C.X e t) (hx : ∀ F0 H0 x, Dx C F0 H0 (tE C.X a) G x → Dx C F0 H0 t G x)
    (ho : ∀ F0 H0 x, Ed F0 H0 (tE C.X a) G m1 rx x → Dr C F0 H0 t G m rz (op x)) : XE C e G m rz (f.bind op) := ⟨fun F0 H0 =>
  ((ha.h F0 H0).bind (hx F0 H0) fun x h1 => ho F0 H0 x h1).le fun _ _ _ q => tE_le p q⟩
theorem dx_op1 {r : R2} {ta tb : TE} {F0 H0 : Hp} {x : Er} (h : Dx C F0 H0 ta G x) : Dx C F0 H0 (tOp r ta tb) G x := fun σ F H E w Q => h σ F H E w _
theorem dx_op2 {α : Type} {rx : Rp α} {y : α} {r : R2} {ta tb : TE} {F0 H0 : Hp} {x : Er} (h1 : Ed F0 H0 ta G m rx y) (h : Dx C F0 H0 tb G x) : Dx C F0 H0 (tOp r ta tb) G x := fun σ F H E w Q =>
  h1 σ F H E _ fun v F1 H1 g1 _ => h σ F1 H1 (E.gro g1) (fun F' H' cls d g z => w F' H' cls d (g1.trans g) z) _
theorem x2 {α β γ : Type} {rx : Rp α} {ry : Rp β} {rz : Rp γ} {r : R2} {f : R Er α} {g : R Er β} {op : α → β → R Er γ} (ha : XE C a G m1 rx f) (hb : XE C b G m2 ry g)
    (p : PE C.X e (tOp r (tE C.X a) (tE C.X b))) (ho : ∀ F0 H0 x y, Ed F0 H0 (tE C.X a) G m1 rx x → Ed F0 H0 (tE C.X b) G m2 ry y → Dr C F0 H0 (tOp r (tE C.X a) (tE C.X b)) G m rz (op x y)) :
    XE C e G m rz (f.bind fun x => g.bind fun y => op x y) := ⟨fun F0 H0 =>
  ((ha.h F0 H0).bind (fun _ => dx_op1) fun x h1 => (hb.h F0 H0).bind (fun _ => dx_op2 h1) fun y h2 => ho F0 H0 x y h1 h2).le fun _ _ _ q => tE_le p q⟩
theorem dr_iff {α : Type} {r : Rp α} {c : Prop} [Decidable c] {x : α} {F0 H0 : Hp} {t : TE} (h : c → Ed F0 H0 t G m r x) : Dr C F0 H0 t G m r (R.iff c (.ok x)) := by
  unfold R.iff
  by_cases hc : c
  · rw [if_pos hc]; exact h hc
  · rw [if_neg hc]; trivial
/-! ints -/
def mulR (x y : Int) : R Er Int := R.iff ((-18446744073709551616 < x ∧ x < 18446744073709551616) ∨ (-18446744073709551616 < y ∧ y < 18446744073709551616)) (.ok (x * y))
def modR (x y : Int) : R Er Int := R.iff (0 < y) (.ok (x % y))
def divR (x y : Int) : R Er Int := R.iff (0 < y ∧ y < 1073741824) (.ok (x / y))
def powR (x y : Int) : R Er Int := R.iff (0 ≤ y ∧ y ≤ 1000000 ∧ x.natAbs < 18446744073709551616) (.ok (x ^ y.toNat))
variable {f g : R Er Int}
theorem xadd (ha : XE C a G m1 rInt f) (hb : XE C b G m2 rInt g) : XE C (.BinOp a .Add b pos) G .sh rInt (f.bind fun x => g.bind fun y => .ok (x + y)) := x2 ha hb (pe_op op_add pE pE) fun _ _ _ _ h1 h2 => ed_add h1 h2
theorem xsub (ha : XE C a G m1 rInt f) (hb : XE C b G m2 rInt g) : XE C (.BinOp a .Sub b pos) G .sh rInt (f.bind fun x => g.bind fun y => .ok (x - y)) := x2 ha hb (pe_op op_sub pE pE) fun _ _ _ _ h1 h2 => ed_sub h1 h2
theorem xmul (ha : XE C a G m1 rInt f) (hb : XE C b G m2 rInt g) : XE C (.BinOp a .Mult b pos) G .sh rInt (f.bind fun x => g.bind fun y => mulR x y) := x2 ha hb (pe_op op_mul pE pE) fun _ _ _ _ h1 h2 => dr_iff fun c => ed_mul h1 h2 c
theorem xmod (ha : XE C a G m1 rInt f) (hb : XE C b G m2 rInt g) : XE C (.BinOp a .Mod b pos) G .sh rInt (f.bind fun x => g.bind fun y => modR x y) := x2 ha hb (pe_op op_mod pE pE) fun _ _ _ _ h1 h2 => dr_iff fun c => ed_mod h1 h2 c
theorem xdiv (ha : XE C a G m1 rInt f) (hb : XE C b G m2 rInt g) : XE C (.BinOp a .FloorDiv b pos) G .sh rInt (f.bind fun x => g.bind fun y => divR x y) := x2 ha hb (pe_op op_fdiv pE pE) fun _ _ _ _ h1 h2 => dr_iff fun c => ed_div h1 h2 c
theorem xpow (ha : XE C a G m1 rInt f) (hb : XE C b G m2 rInt g) : XE C (.BinOp a .Pow b pos) G .sh rInt (f.bind fun x => g.bind fun y => powR x y) := x2 ha hb (pe_op op_pow pE pE) fun _ _ _ _ h1 h2 => dr_iff fun c => ed_pow h1 h2 c
/-! ### comparisons -/
def tCm (X : Cx) (op : CmpOp) (a b : Expr) : TE := fun σ H Q => ∀ (pins : List (Addr × Obj)) (s : Shared), Inv X pins σ H s →
    wpAny (model X.prog X.w) X.A (eval a X.env) (fun v s₁ => wpAny (model X.prog X.w) X.A (eval b X.env) (fun u s₂ => wpAny (model X.prog X.w) X.A (compareOp op v u) (EP X pins σ Q) X.xe s₂) X.xe s₁) X.xe s
theorem pC {X : Cx} {op : CmpOp} {a b : Expr} : PC X op a b (tCm X op a b) := ⟨fun pins s σ H Q I h => h pins s I⟩
theorem tCm_le {X : Cx} {op : CmpOp} {a b : Expr} {t : TE} (h : PC X op a b t) {σ : L2.St} {H : Hp} {Q : VK} (q : t σ H Q) : tCm X op a b σ H Q := fun pins s I => h.run pins s σ H Q I q
theorem pcR {X : Cx} {op : CmpOp} {r : R2} (ho : OpR X (compareOp op) r) {a b : Expr} : PC X op a b (tOp r (tE X a) (tE X b)) := ⟨fun pins s σ H Q I h => binT pE pE I h fun v u s2 x y H2 I2 rx ry q => ho pins s2 σ H2 x y v u Q I2 rx ry q⟩
structure XC (C : Cn) (op : CmpOp) (a b : Expr) (G : List Slot) (f : R Er Bool) : Prop where
  h : ∀ F0 H0, Dr C F0 H0 (tCm C.X op a b) G .sh rBl f
theorem xcv {op : CmpOp} {f : R Er Bool} (h : XC C op a b G f) (hm : behindInMarks op b = false := by first | exact nobehind _ (by decide) (by decide) | rfl) : XE C (.Compare a [op] [b] pos) G .sh rBl f := ⟨fun F0 H0 => (h.h F0 H0).le fun _ _ _ q => tE_le (pe_cmp pC hm) q⟩
theorem xqc {op : CmpOp} {f : R Er Bool} (h : XC C op a b G f) (hm : behindInMarks op b = false := by first | exact nobehind _ (by decide) (by decide) | rfl) : XQ C (.Compare a [op] [b] pos) G f := ⟨fun F0 H0 => by
  have h := h.h F0 H0
  cases f with
  | ok x => exact fun σ F H E Q q => tT_le (pt_cmp pC hm) (et_B (te := tCm C.X op a b) (F0 := F0) (H0 := H0) h σ F H E Q q)
  | er e => exact fun σ F H E w Q => tT_le (pt_cmp pC hm) (h σ F H E w _)
  | no => trivial⟩
theorem xc2 {α β : Type} {rx : Rp α} {ry : Rp β} {r : R2} {op : CmpOp} {f : R Er α} {g : R Er β} {o : α → β → R Er Bool} (ha : XE C a G m1 rx f) (hb : XE C b G m2 ry g)
    (p : OpR C.X (compareOp op) r) (ho : ∀ F0 H0 x y, Ed F0 H0 (tE C.X a) G m1 rx x → Ed F0 H0 (tE C.X b) G m2 ry y → Dr C F0 H0 (tOp r (tE C.X a) (tE C.X b)) G .sh rBl (o x y)) :
    XC C op a b G (f.bind fun x => g.bind fun y => o x y) := ⟨fun F0 H0 =>
  ((ha.h F0 H0).bind (fun _ => dx_op1) fun x h1 => (hb.h F0 H0).bind (fun _ => dx_op2 h1) fun y h2 => ho F0 H0 x y h1 h2).le fun _ _ _ q => tCm_le (pcR p) q⟩
theorem xlt (ha : XE C a G m1 rInt f) (hb : XE C b G m2 rInt g) : XC C .Lt a b G (f.bind fun x => g.bind fun y => .ok (decide (x < y))) := xc2 ha hb op_lt fun _ _ _ _ h1 h2 => ed_lt h1 h2
theorem xle (ha : XE C a G m1 rInt f) (hb : XE C b G m2 rInt g) : XC C .LtE a b G (f.bind fun x => g.bind fun y => .ok (decide (x ≤ y))) := xc2 ha hb op_le fun _ _ _ _ h1 h2 => ed_le h1 h2
theorem xgt (ha : XE C a G m1 rInt f) (hb : XE C b G m2 rInt g) : XC C .Gt a b G (f.bind fun x => g.bind fun y => .ok (decide (y < x))) := xc2 ha hb op_gt fun _ _ _ _ h1 h2 => ed_gt h1 h2
theorem xge (ha : XE C a G m1 rInt f) (hb : XE C b G m2 rInt g) : XC C .GtE a b G (f.bind fun x => g.bind fun y => .ok (decide (y ≤ x))) := xc2 ha hb op_ge fun _ _ _ _ h1 h2 => ed_ge h1 h2
/-- == of ints, texts, bools -/
theorem xeq {α : Type} {r : Rp α} [DecidableEq α] [Mo r] [Sc r] {f g : R Er α} (ha : XE C a G m1 r f) (hb : XE C b G m2 r g) : XC C .Eq a b G (f.bind fun x => g.bind fun y => .ok (decide (x = y))) := xc2 ha hb op_eq fun _ _ _ _ h1 h2 => ed_eq h1 h2
theorem xne {α : Type} {r : Rp α} [DecidableEq α] [Mo r] [Sc r] {f g : R Er α} (ha : XE C a G m1 r f) (hb : XE C b G m2 r g) : XC C .NotEq a b G (f.bind fun x => g.bind fun y => .ok (!decide (x = y))) := xc2 ha hb op_ne fun _ _ _ _ h1 h2 => ed_ne h1 h2
/-- == of lists, tuples -/
theorem xeqd {α : Type} {r : Rp α} [DecidableEq α] [Mo r] [A : Da r] {f g : R Er α} (ha : XE C a G m1 r f) {k : Nat} (hr : Room k C.X.A) (hb : XE C b G m2 r g) (hd : A.dep ≤ 64 := by decide) : XC C .Eq a b G (f.bind fun x => g.bind fun y => .ok (decide (x = y))) := xc2 ha hb (op_eqD hr.units) fun _ _ _ _ h1 h2 => ed_eqQ h1 h2 hd
theorem xned {α : Type} {r : Rp α} [DecidableEq α] [Mo r] [A : Da r] {f g : R Er α} (ha : XE C a G m1 r f) {k : Nat} (hr : Room k C.X.A) (hb : XE C b G m2 r g) (hd : A.dep ≤ 64 := by decide) : XC C .NotEq a b G (f.bind fun x => g.bind fun y => .ok (!decide (x = y))) := xc2 ha hb (op_neD hr.units) fun _ _ _ _ h1 h2 => ed_neQ h1 h2 hd
/-- in a list, a tuple of flat things -/
theorem xinL {α : Type} {r : Rp α} [Ft r] [Mo r] [DecidableEq α] {f : R Er α} {g : R Er (List α)} (ha : XE C a G m1 r f) (hb : XE C b G m2 (rLst r) g) : XC C .In a b G (f.bind fun x => g.bind fun y => .ok (decide (x ∈ y))) := xc2 ha hb op_in_seq fun _ _ _ _ h1 h2 => ed_inL h1 h2
theorem xniL {α : Type} {r : Rp α} [Ft r] [Mo r] [DecidableEq α] {f : R Er α} {g : R Er (List α)} (ha : XE C a G m1 r f) (hb : XE C b G m2 (rLst r) g) : XC C .NotIn a b G (f.bind fun x => g.bind fun y => .ok (!decide (x ∈ y))) := xc2 ha hb op_notIn_seq fun _ _ _ _ h1 h2 => ed_niL h1 h2
theorem xinU {α : Type} {r : Rp α} [Ft r] [Mo r] [DecidableEq α] {f : R Er α} {g : R Er (List α)} (ha : XE C a G m1 r f) (hb : XE C b G m2 (rTup r) g) : XC C .In a b G (f.bind fun x => g.bind fun y => .ok (decide (x ∈ y))) := xc2 ha hb op_in_seq fun _ _ _ _ h1 h2 => ed_inU h1 h2
theorem xniU {α : Type} {r : Rp α} [Ft r] [Mo r] [DecidableEq α] {f : R Er α} {g : R Er (List α)} (ha : XE C a G m1 r f) (hb : XE C b G m2 (rTup r) g) : XC C .NotIn a b G (f.bind fun x => g.bind fun y => .ok (!decide (x ∈ y))) := xc2 ha hb op_notIn_seq fun _ _ _ _ h1 h2 => ed_niU h1 h2
/-- a sign in a text -/
def inTR (x y : List Nat) : R Er Bool := match x with
  | [c] => .ok (decide (c ∈ y))
  | _ => .no
def niTR (x y : List Nat) : R Er Bool := match x with
  | [c] => .ok (!decide (c ∈ y))
  | _ => .no
theorem xinT {f g : R Er (List Nat)} (ha : XE C a G m1 rTx f) (hb : XE C b G m2 rTx g) : XC C .In a b G (f.bind fun x => g.bind fun y => inTR x y) := xc2 ha hb op_in_sign fun F0 H0 x y h1 h2 => by
  match x with
  | [] => trivial
  | [c] => exact ed_inT h1 h2
  | _ :: _ :: _ => trivial
theorem xniT {f g : R Er (List Nat)} (ha : XE C a G m1 rTx f) (hb : XE C b G m2 rTx g) : XC C .NotIn a b G (f.bind fun x => g.bind fun y => niTR x y) := xc2 ha hb op_notIn_sign fun F0 H0 x y h1 h2 => by
  match x with
  | [] => trivial
  | [c] => exact ed_niT h1 h2
  | _ :: _ :: _ => trivial
theorem xc1 {α : Type} {rx : Rp α} {t : TE} {op : CmpOp} {f : R Er α} {o : α → R Er Bool} (ha : XE C a G m1 rx f) (p : PC C.X op a b t) (hx : ∀ F0 H0 x, Dx C F0 H0 (tE C.X a) G x → Dx C F0 H0 t G x) (ho : ∀ F0 H0 x, Ed F0 H0 (tE C.X a) G m1 rx x → Dr C F0 H0 t G .sh rBl (o x)) :
    XC C op a b G (f.bind o) := ⟨fun F0 H0 => ((ha.h F0 H0).bind (hx F0 H0) fun x h1 => ho F0 H0 x h1).le fun _ _ _ q => tCm_le p q⟩
theorem xisN {α : Type} {r : Rp α} [Mo r] [Nn r] {n : Nat} {f : R Er (Option α)} (ha : XE C a G m1 (rOpt r) f) : XC C .Is a (.Constant .none n pos) G (f.bind fun x => .ok x.isNone) := xc1 ha (pc_isN pE) (fun _ _ _ z σ F H E w Q => z σ F H E w _) fun _ _ _ h => ed_isN h
theorem xniN {α : Type} {r : Rp α} [Mo r] [Nn r] {n : Nat} {f : R Er (Option α)} (ha : XE C a G m1 (rOpt r) f) : XC C .IsNot a (.Constant .none n pos) G (f.bind fun x => .ok x.isSome) := xc1 ha (pc_notN pE) (fun _ _ _ z σ F H E w Q => z σ F H E w _) fun _ _ _ h => ed_notN h
end
end LJ

set_option Elab.async false
set_option linter.all false
set_option maxRecDepth 100000
set_option maxHeartbeats 4000000
set_option autoImplicit false
/-! LJ2: statements, loops, defs. -/
namespace R
variable {ε δ α β γ S T : Type}
/-- through a list, one state after the other -/
def foldR (f : S → α → R ε S) : S → List α → R ε S
  | s, [] => .ok s
  | s, x :: xs => (f s x).bind fun s' => foldR f s' xs
@[simp] theorem ok_bind (a : α) (k : α → R ε β) : (R.ok a : R ε α).bind k = k a := rfl
@[simp] theorem er_bind (e : ε) (k : α → R ε β) : (R.er e : R ε α).bind k = .er e := rfl
@[simp] theorem no_bind (k : α → R ε β) : (R.no : R ε α).bind k = .no := rfl
@[simp] theorem ok_thn (a : α) (g : ε → δ) (k : α → R δ β) : (R.ok a : R ε α).thn g k = k a := rfl
@[simp] theorem er_thn (e : ε) (g : ε → δ) (k : α → R δ β) : (R.er e : R ε α).thn g k = .er (g e) := rfl
@[simp] theorem no_thn (g : ε → δ) (k : α → R δ β) : (R.no : R ε α).thn g k = .no := rfl
theorem bind_bind (x : R ε α) (k : α → R ε β) (l : β → R ε γ) : (x.bind k).bind l = x.bind fun a => (k a).bind l := by cases x <;> rfl
theorem thn_bind (x : R ε α) (g : ε → δ) (k : α → R δ β) (l : β → R δ γ) : (x.thn g k).bind l = x.thn g fun a => (k a).bind l := by cases x <;> rfl
theorem cond_bind (c : Bool) (x y : R ε α) (k : α → R ε β) : (cond c x y).bind k = cond c (x.bind k) (y.bind k) := by cases c <;> rfl
theorem foldR_run {f : S → α → R ε S} {B : S → α → (S → R ε β) → R ε β} (h : ∀ s x k, B s x k = (f s x).bind k) : ∀ (xs : List α) (s : S) (k : S → R ε β), LK.runC B s xs k = (foldR f s xs).bind k
  | [], s, k => rfl
  | x :: xs, s, k => by
    show B s x _ = ((f s x).bind _).bind k
    rw [h, bind_bind]
    congr 1
    funext s'
    exact foldR_run h xs s' k
/-- a while of at most n turns -/
def whileR (c : S → R ε Bool) (f : S → R ε S) : Nat → S → R ε S
  | 0, _ => .no
  | n + 1, s => (c s).bind fun b => cond b ((f s).bind fun s' => whileR c f n s') (.ok s)
def whileC (c : S → R ε Bool) (B : S → (S → R ε β) → R ε β) : Nat → S → (S → R ε β) → R ε β
  | 0, _, _ => .no
  | n + 1, s, k => (c s).bind fun b => cond b (B s fun s' => whileC c B n s' k) (k s)
/-- all items, none may raise -/
def mapR (p : α → R ε Bool) (f : α → R ε β) : List α → R δ (List β)
  | [] => .ok []
  | x :: xs => (p x).noer.bind fun b => cond b ((f x).noer.bind fun y => (mapR p f xs).bind fun ys => .ok (y :: ys)) (mapR p f xs)
end R
namespace LK
open PySem L2
section
variable {F0 H0 F H F' H' : Hp} {G G' : List Slot} {σ σ' : L2.St}
/-- the same slots at other places -/
theorem EnvOk.re (E : EnvOk F0 H0 G σ F H) (φ : Nat → Nat) (len : σ'.length = G'.length) (h : ∀ i s, G'[i]? = some s → (∃ x, σ'[i]? = some x) ∧ (s = .no ∨ (G[φ i]? = some s ∧ σ'[i]? = σ[φ i]?)))
    (inj : ∀ i j, φ i = φ j → i = j ∨ ∀ M iM, G'[i]? ≠ some (.ow M iM) ∨ G'[j]? = some .no) : EnvOk F0 H0 G' σ' F H := by
  obtain ⟨fp, E⟩ := E
  refine ⟨fun i => fp (φ i), E.gr, len, fun i s hi => ?_, fun i j M iM N iN a hij h1 h2 h3 => ?_⟩
  · obtain ⟨⟨x, hx⟩, h | ⟨h, e⟩⟩ := h i s hi
    · subst h; exact ⟨x, hx, trivial⟩
    · obtain ⟨y, hy, ok⟩ := E.at_ _ s h
      exact ⟨y, by rw [e, hy], ok⟩
  · obtain ⟨_, q | ⟨q1, _⟩⟩ := h i _ h1
    · cases q
    obtain ⟨_, q | ⟨q2, _⟩⟩ := h j _ h2
    · cases q
    refine E.dj (φ i) (φ j) M iM N iN a (fun e => ?_) q1 q2 h3
    rcases inj i j e with z | z
    · exact hij z
    · rcases z M iM with z | z
      · exact z h1
      · rw [h2] at z; cases z
theorem EnvOk.tail {s : Slot} {x : Option V} (E : EnvOk F0 H0 (s :: G) (x :: σ) F H) : EnvOk F0 H0 G σ F H :=
  E.re (fun i => i + 1) (by have := E.len; simpa using this) (fun i t hi => by
    have hl : i < σ.length := by have := E.len; simp at this; rw [this]; exact (List.getElem?_eq_some_iff.mp hi).1
    exact ⟨⟨_, List.getElem?_eq_getElem hl⟩, .inr ⟨by simpa using hi, by simp⟩⟩) (fun i j e => .inl (by omega))
theorem EnvOk.head {s : Slot} {x : Option V} (E : EnvOk F0 H0 (s :: G) (x :: σ) F H) : EnvOk F0 H0 [s] [x] F H :=
  E.re (fun i => i) rfl (fun i t hi => by
    cases i with
    | zero => exact ⟨⟨x, rfl⟩, .inr ⟨by simpa using hi, by simp⟩⟩
    | succ i => simp at hi) (fun i j e => .inl e)
theorem EnvOk.move {s : Slot} {x : Option V} {i : Nat} (E : EnvOk F0 H0 (s :: G) (x :: σ) F H) : EnvOk F0 H0 (G.set i s) (σ.set i x) F H := by
  have hl := E.len
  simp at hl
  refine E.re (fun j => if j = i then 0 else j + 1) (by simp [hl]) (fun j t hj => ?_) (fun j k e => ?_)
  · rcases set_get hj with ⟨rfl, h1, h2⟩ | ⟨h1, h2⟩
    · subst h2
      refine ⟨⟨x, by rw [List.getElem?_set_self (by omega)]⟩, .inr ⟨by simp, by rw [List.getElem?_set_self (by omega)]; simp⟩⟩
    · have hjl : j < σ.length := by rw [hl]; exact (List.getElem?_eq_some_iff.mp h2).1
      have hne : ¬ j = i := fun e => h1 e.symm
      refine ⟨⟨σ[j], by rw [List.getElem?_set_ne h1]; exact List.getElem?_eq_getElem hjl⟩, .inr ⟨by simp [hne, h2], by rw [List.getElem?_set_ne h1]; simp [hne]⟩⟩
  · left
    by_cases a : j = i <;> by_cases b : k = i <;> simp [a, b] at e <;> omega
/-- a datum ahead of the slots -/
theorem EnvOk.push {s : Slot} {v : V} (E : EnvOk F0 H0 G σ F H) (ok : SlotOk H0 F H (some v) [] s) (hn : ∀ M im, s ≠ .ow M im) : EnvOk F0 H0 (s :: G) (some v :: σ) F H := by
  obtain ⟨fp, E⟩ := E
  refine ⟨fun i => match i with | 0 => [] | j + 1 => fp j, E.gr, by simp [E.len], fun i t h => ?_, fun i j M iM N iN a hij h1 h2 h3 => ?_⟩
  · cases i with
    | zero => simp at h; subst h; exact ⟨_, rfl, ok⟩
    | succ i =>
      obtain ⟨x, hx, o⟩ := E.at_ i t (by simpa using h)
      exact ⟨x, by simpa using hx, o⟩
  · cases i with
    | zero => exact absurd (Option.some.inj h1) (hn M iM)
    | succ i =>
      cases j with
      | zero => exact absurd (Option.some.inj h2) (hn N iN)
      | succ j => exact E.dj i j M iM N iN a (by omega) (by simpa using h1) (by simpa using h2) h3
/-- a new own thing ahead of the slots -/
theorem EnvOk.pushO {M : Mu} {im : MoM M} {p : Addr} {S : List Addr} (E : EnvOk F0 H0 G σ F H) (g : Gr F H F' H') (hS : ∀ a ∈ S, H a = none ∧ F' a = none) (m : M F' H' p S) : EnvOk F0 H0 (.ow M im :: G) (some (.ref p) :: σ) F' H' := by
  have E2 : EnvOk F0 H0 (.no :: G) (none :: σ) F H := by
    obtain ⟨fp, E⟩ := E
    refine ⟨fun i => match i with | 0 => [] | j + 1 => fp j, E.gr, by simp [E.len], fun i t h => ?_, fun i j M iM N iN a hij h1 h2 h3 => ?_⟩
    · cases i with
      | zero => simp at h; subst h; exact ⟨_, rfl, trivial⟩
      | succ i =>
        obtain ⟨x, hx, o⟩ := E.at_ i t (by simpa using h)
        exact ⟨x, by simpa using hx, o⟩
    · cases i with
      | zero => cases Option.some.inj h1
      | succ i =>
        cases j with
        | zero => cases Option.some.inj h2
        | succ j => exact E.dj i j M iM N iN a (by omega) (by simpa using h1) (by simpa using h2) h3
  exact E2.setO (i := 0) (im := im) g hS m
end
end LK
namespace LJ
open PySem L2 LK LKX PyProof.Rows PySem.Spec
section
variable {C : Cn} {G : List Slot} {e : Expr}
/-- not of the entry -/
def Slot.nb : Slot → Prop
  | .bw _ _ _ => False
  | _ => True
theorem envJoin {F0 H0 F H F' H' : Hp} {σ : L2.St} {s : Slot} {v : V} (E : EnvOk F0 H0 G σ F H) (g : Gr F H F' H') (E' : EnvOk F H [s] [some v] F' H') (hn : Slot.nb s) : EnvOk F0 H0 (s :: G) (some v :: σ) F' H' := by
  obtain ⟨fp, E'⟩ := E'
  obtain ⟨x, hx, ok⟩ := E'.at_ 0 s rfl
  cases Option.some.inj hx
  cases s with
  | bw r im a => exact hn.elim
  | no => exact (E.gro g).push (s := .no) trivial fun _ _ z => nomatch z
  | fz r im a => exact (E.gro g).push (s := .fz r im a) ok fun _ _ z => nomatch z
  | ow M im =>
    obtain ⟨p, e, h1, h2⟩ := ok
    cases Option.some.inj e
    exact E.pushO (S := fp 0) g (fun a ha => ⟨(h1 a ha).2, (h1 a ha).1⟩) h2
theorem env1 {F H F' H' : Hp} {s : Slot} {v : V} (g : Gr F H F' H') (ok : SlotOk H F' H' (some v) [] s) (hn : ∀ M im, s ≠ .ow M im) : EnvOk F H [s] [some v] F' H' :=
  EnvOk.push (G := []) (σ := []) ⟨fun _ => [], g, rfl, fun i s h => by simp at h, fun i j M iM N iN a _ h => by simp at h⟩ ok hn
theorem env1o {F H F' H' : Hp} {M : Mu} {im : MoM M} {p : Addr} {S : List Addr} (e : Ex F H) (g : Gr F H F' H') (hS : ∀ a ∈ S, H a = none ∧ F' a = none) (m : M F' H' p S) : EnvOk F H [.ow M im] [some (.ref p)] F' H' :=
  EnvOk.pushO (G := []) (σ := []) ⟨fun _ => [], Gr.refl e, rfl, fun i s h => by simp at h, fun i j M iM N iN a _ h => by simp at h⟩ g hS m
theorem dv_ed {α : Type} {r : Rp α} [im : Mo r] {a : α} {F0 H0 : Hp} {t : TE} (h : Ed F0 H0 t G .sh r a) : Dv F0 H0 t G (.fz r im a) := fun σ F H E Q q => h σ F H E Q fun v F' H' g hv => q v F' H' g (env1 g ⟨v, rfl, hv⟩ fun _ _ z => nomatch z)
theorem ed_dv {α : Type} {r : Rp α} {im : Mo r} {a : α} {F0 H0 : Hp} {t : TE} (h : Dv F0 H0 t G (.fz r im a)) : Ed F0 H0 t G .sh r a := fun σ F H E Q q => h σ F H E Q fun v F' H' g E' => by
  obtain ⟨w, hw, ok⟩ := E'.fz_at (i := 0) rfl
  cases Option.some.inj (Option.some.inj hw)
  exact q v F' H' g ok
theorem dv_en {α : Type} {r : Rp α} [im : Mo r] {xs : List α} {F0 H0 : Hp} {t : TE} (h : En F0 H0 t G r xs) : Dv F0 H0 t G (sL r xs) := fun σ F H E Q q => h σ F H E Q fun p vs F' H' g h1 h2 h3 h4 h5 =>
  q _ F' H' g (env1o (S := [p]) E.gr.fh g (fun a ha => by rw [List.mem_singleton.mp ha]; exact ⟨h1, h2⟩) ⟨rfl, vs, h3, h4, h5⟩)
theorem xn {α : Type} {r : Rp α} [im : Mo r] {f : R Er α} (h : XE C e G .sh r f) : XN C e G (fun a => .fz r im a) f := ⟨fun F0 H0 => by
  have h := h.h F0 H0
  cases f with
  | ok a => exact dv_ed h
  | er x => exact h
  | no => trivial⟩
theorem xsh {α : Type} {r : Rp α} {im : Mo r} {f : R Er α} (h : XN C e G (fun a => .fz r im a) f) : XE C e G .sh r f := ⟨fun F0 H0 => by
  have h := h.h F0 H0
  cases f with
  | ok a => exact ed_dv h
  | er x => exact h
  | no => trivial⟩
/-- an own thing that may be frozen -/
class Fzz {α : Type} (mu : α → Mu) (r : outParam (Rp α)) : Prop where
  fz : ∀ {F F' H : Hp} {p : Addr} {S : List Addr} {a : α}, mu a F H p S → (∀ x ∈ S, F' x = H x) → Ex F F' → r F' (.ref p) a
instance {α : Type} (r : Rp α) [Mo r] : Fzz (mL r) (rLst r) := ⟨fun {F F' H p S a} ⟨hS, vs, e, h1, h2⟩ hp ee => ⟨p, vs, rfl, by rw [hp p (by rw [hS]; simp), e], h1, pmap (fun _ _ z => mox ee z) h2⟩⟩
theorem xfz {α : Type} {mu : α → Mu} {iM : ∀ a, MoM (mu a)} {r : Rp α} [Fzz mu r] [im : Mo r] {f : R Er α} (h : XN C e G (fun a => .ow (mu a) (iM a)) f) : XE C e G .sh r f := ⟨fun F0 H0 => by
  have h := h.h F0 H0
  cases f with
  | ok a =>
    refine ed_dv (im := im) fun σ F H E Q q => h σ F H E Q fun v F' H' g E' => ?_
    obtain ⟨F2, E2, g2, _⟩ := E'.freeze (i := 0) (s := sF r a) rfl (fun p S F' m hp ee _ => ⟨.ref p, rfl, Fzz.fz m hp ee⟩) (fun _ _ z => nomatch z)
    exact q v F2 H' g2 E2
  | er x => exact h
  | no => trivial⟩
/-- flat data may be kept as they are -/
theorem xfl {α : Type} {r : Rp α} [Fl r] {m m' : Md} {f : R Er α} (h : XE C e G m r f) : XE C e G m' r f := ⟨fun F0 H0 => by
  have h := h.h F0 H0
  cases f with
  | ok a => exact Ed.fl h
  | er x => exact h
  | no => trivial⟩
theorem xbo {α : Type} {r : Rp α} [Mo r] {m : Md} {f : R Er α} (h : XE C e G m r f) : XE C e G .bo r f := ⟨fun F0 H0 => by
  have h := h.h F0 H0
  cases f with
  | ok a => exact Ed.bo h
  | er x => exact h
  | no => trivial⟩
end

/-! ### tests -/
section
variable {C : Cn} {G : List Slot} {a b c : Expr} {rest : List Expr} {pos : Pos} {m : Md}
theorem tr_bind {f : R Er Bool} {g : Bool → R Er Bool} {F0 H0 : Hp} {t u : TT} (h : Tr C F0 H0 t G f) (hx : ∀ x, Tx C F0 H0 t G x → Tx C F0 H0 u G x) (k : ∀ b, Et F0 H0 t G b → Tr C F0 H0 u G (g b)) : Tr C F0 H0 u G (f.bind g) := by
  cases f with
  | ok b => exact k b h
  | er e => exact hx e h
  | no => trivial
/-- an expression as a test -/
theorem xqv {f : R Er Bool} (h : XE C a G m rBl f) (he : ∀ whole, isTrue a C.X.env whole = (do let v ← whole; standAt a.pos; holding [v] (truthy v)) := by intro _; rfl) : XQ C a G f := ⟨fun F0 H0 => by
  have h := h.h F0 H0
  cases f with
  | ok x => exact fun σ F H E Q q => tT_le (pt_val pE he) (et_B (te := tE C.X a) (F0 := F0) (H0 := H0) h σ F H E Q q)
  | er e => exact fun σ F H E w Q => tT_le (pt_val pE he) (h σ F H E w _)
  | no => trivial⟩
/-- a comparison as a test: its two operands -/
theorem xqw {f : R Er Bool} (h : XW C a G f) : XQ C a G f := ⟨fun F0 H0 => (h.h F0 H0).le fun _ _ _ q => tT_le pW.pt q⟩
theorem xqnot {f : R Er Bool} (h : XQ C a G f) : XQ C (.UnaryOp .Not a pos) G (f.bind fun b => .ok (!b)) := ⟨fun F0 H0 =>
  (tr_bind (u := tNot (tT C.X a)) (g := fun b => .ok (!b)) (h.h F0 H0) (fun x z σ F H E w Q => z σ F H E w _) fun b h => et_not h).le fun _ _ _ q => tT_le (pt_not pT) q⟩
theorem xqand1 {f : R Er Bool} (h : XQ C a G f) : XW C (.BoolOp .And [a] pos) G f := ⟨fun F0 H0 => (h.h F0 H0).le fun _ _ _ q => tW_le (pw_and1 pT) q⟩
theorem xqor1 {f : R Er Bool} (h : XQ C a G f) : XW C (.BoolOp .Or [a] pos) G f := ⟨fun F0 H0 => (h.h F0 H0).le fun _ _ _ q => tW_le (pw_or1 pT) q⟩
theorem xqand {f g : R Er Bool} (h : XQ C a G f) (h2 : XW C (.BoolOp .And (b :: rest) pos) G g) : XW C (.BoolOp .And (a :: b :: rest) pos) G (f.bind fun x => cond x g (.ok false)) := ⟨fun F0 H0 =>
  (tr_bind (u := tAnd (tT C.X a) (tW C.X (.BoolOp .And (b :: rest) pos))) (h.h F0 H0) (fun x z σ F H E w Q => z σ F H E w _) fun x h1 => by
    cases x with
    | false => exact fun σ F H E Q q => h1 σ F H E _ fun F1 H1 g1 => by rw [if_neg (by decide)]; exact q F1 H1 g1
    | true =>
      have h2 := h2.h F0 H0
      show Tr C F0 H0 _ G g
      cases g with
      | ok y => exact fun σ F H E Q q => h1 σ F H E _ fun F1 H1 g1 => by rw [if_pos rfl]; exact h2 σ F1 H1 (E.gro g1) Q fun F2 H2 g2 => q F2 H2 (g1.trans g2)
      | er e => exact fun σ F H E w Q => h1 σ F H E _ fun F1 H1 g1 => by rw [if_pos rfl]; exact h2 σ F1 H1 (E.gro g1) (fun F' H' cls d g z => w F' H' cls d (g1.trans g) z) Q
      | no => trivial).le fun _ _ _ q => tW_le (pw_and pT pW) q⟩
theorem xqor {f g : R Er Bool} (h : XQ C a G f) (h2 : XW C (.BoolOp .Or (b :: rest) pos) G g) : XW C (.BoolOp .Or (a :: b :: rest) pos) G (f.bind fun x => cond x (.ok true) g) := ⟨fun F0 H0 =>
  (tr_bind (u := tOr (tT C.X a) (tW C.X (.BoolOp .Or (b :: rest) pos))) (h.h F0 H0) (fun x z σ F H E w Q => z σ F H E w _) fun x h1 => by
    cases x with
    | true => exact fun σ F H E Q q => h1 σ F H E _ fun F1 H1 g1 => by rw [if_pos rfl]; exact q F1 H1 g1
    | false =>
      have h2 := h2.h F0 H0
      show Tr C F0 H0 _ G g
      cases g with
      | ok y => exact fun σ F H E Q q => h1 σ F H E _ fun F1 H1 g1 => by rw [if_neg (by decide)]; exact h2 σ F1 H1 (E.gro g1) Q fun F2 H2 g2 => q F2 H2 (g1.trans g2)
      | er e => exact fun σ F H E w Q => h1 σ F H E _ fun F1 H1 g1 => by rw [if_neg (by decide)]; exact h2 σ F1 H1 (E.gro g1) (fun F' H' cls d g z => w F' H' cls d (g1.trans g) z) Q
      | no => trivial).le fun _ _ _ q => tW_le (pw_or pT pW) q⟩
end

/-! ### statements -/
section
variable {C : Cn} {β ρ ε Z S S' T : Type} {J : Jn β ρ ε Z} {G : List Slot} {slk : S' → List Slot} {e : Expr} {rest st : List Stmt} {pos : Pos}
theorem Ans.air {F0 H0 : Hp} {A : R ε ρ → Prop} {rt : VK} (an : Ans C J F0 H0 A rt) {z : Z} (hz : Lw G (J.slz z)) {x : Er} (h : A (.er (J.em x z))) {σ : L2.St} {F H : Hp} (E : EnvOk F0 H0 G σ F H) : ∀ F' H' cls d, Gr F H F' H' → rEr C.T F' cls d x → C.W cls d σ H' :=
  fun F' H' cls d g r => an.er x z h σ F' H' cls d ((E.gro g).weak hz) r
theorem xb_nil (s : S') (h : Lw G (slk s)) : XB C J [] G slk (fun k => k s) := ⟨fun F0 H0 A D an k hk hA σ F H E => tS_le pss_nil (hk s hA σ F H (E.weak h))⟩
theorem xb_set {α : Type} {sb : α → Slot} {f : R Er α} {M : α → (S' → R ε ρ) → R ε ρ} {x : Str} {pos' : Pos} (i : Nat) (G' : α → List Slot) (z : Z) (hz : Lw G (J.slz z)) (he : XN C e G sb f) (hG : ∀ a, G.set i (sb a) = G' a) (hr : ∀ a, XB C J rest (G' a) slk (M a)) (hn : ∀ a, Slot.nb (sb a) := by intro; trivial)
    (hi : C.X.N[i]? = some x := by rfl) (hx : Loc C.X.env.scope x := by first | exact .inl rfl | exact .inr rfl) (hs : swapsWith e (some (.Name x pos')) pos.line C.X.env = pure false := by rfl) (hf : C.X.fn x = true ∨ C.X.env.scope.names.lookup x = some .local := by first | exact .inl rfl | exact .inr rfl) :
    XB C J (.Assign [.Name x pos'] e pos :: rest) G slk (fun k => f.thn (fun y => J.em y z) fun a => M a k) := ⟨fun F0 H0 A D an k hk hA σ F H E => by
  have he := he.h F0 H0
  refine tS_le (pss_cons (ps_set C.nd hi hx pE hs hf) pS) ?_
  cases f with
  | ok a => exact he σ F H E _ fun v F' H' g E' => (hr a).h F0 H0 A D an k hk hA _ F' H' (hG a ▸ (envJoin E g E' (hn a)).move)
  | er y => exact he σ F H E (an.air hz hA E) _
  | no => exact (an.no hA).elim⟩
theorem xb_ret {α : Type} {sb : α → Slot} {f : R Er α} (z : Z) (hz : Lw G (J.slz z)) (b : α → β) (hb : ∀ a, sb a = J.rs (b a)) (he : XN C e G sb f) (hn : ∀ a, Slot.nb (sb a) := by intro; trivial) :
    XB C J (.Return (some e) pos :: rest) G slk (fun _ => f.thn (fun y => J.em y z) fun a => .ok (J.ret (b a) z)) := ⟨fun F0 H0 A D an k hk hA σ F H E => by
  have he := he.h F0 H0
  refine tS_le (pss_cons (ps_ret pE) pS) ?_
  cases f with
  | ok a => exact he σ F H E _ fun v F' H' g E' => an.ret (b a) z hA σ F' H' v (EnvOk.weak (envJoin E g E' (hn a)) ⟨.inr (hb a), hz⟩)
  | er y => exact he σ F H E (an.air hz hA E) _
  | no => exact (an.no hA).elim⟩
theorem xb_expr {α : Type} {r : Rp α} {m : Md} {f : R Er α} {M : (S' → R ε ρ) → R ε ρ} (z : Z) (hz : Lw G (J.slz z)) (he : XE C e G m r f) (hr : XB C J rest G slk M) (hs : swapsWith e none pos.line C.X.env = pure false := by rfl) :
    XB C J (.Expr e pos :: rest) G slk (fun k => f.thn (fun y => J.em y z) fun _ => M k) := ⟨fun F0 H0 A D an k hk hA σ F H E => by
  have he := he.h F0 H0
  refine tS_le (pss_cons (ps_expr pE hs) pS) ?_
  cases f with
  | ok a => exact he σ F H E _ fun v F' H' g _ => hr.h F0 H0 A D an k hk hA _ F' H' (E.gro g)
  | er y => exact he σ F H E (an.air hz hA E) _
  | no => exact (an.no hA).elim⟩
theorem xb_if {c : Expr} {a b : List Stmt} {f : R Er Bool} {slj : S → List Slot} {M1 M2 : (S → R ε ρ) → R ε ρ} {M : S → (S' → R ε ρ) → R ε ρ} (z : Z) (hz : Lw G (J.slz z)) (hc : XQ C c G f) (h1 : XB C J a G slj M1) (h2 : XB C J b G slj M2) (hr : ∀ s, XB C J rest (slj s) slk (M s)) :
    XB C J (.If c a b pos :: rest) G slk (fun k => f.thn (fun y => J.em y z) fun x => cond x (M1 fun s => M s k) (M2 fun s => M s k)) := ⟨fun F0 H0 A D an k hk hA σ F H E => by
  have hc := hc.h F0 H0
  refine tS_le (pss_cons (ps_if pT pS pS) pS) ?_
  cases f with
  | ok x =>
    refine hc σ F H E _ fun F' H' g => ?_
    cases x with
    | true => rw [if_pos rfl]; exact h1.h F0 H0 A { D with nx := tS C.X rest D } an _ (fun s hs => (hr s).h F0 H0 A D an k hk hs) hA σ F' H' (E.gro g)
    | false => rw [if_neg (by decide)]; exact h2.h F0 H0 A { D with nx := tS C.X rest D } an _ (fun s hs => (hr s).h F0 H0 A D an k hk hs) hA σ F' H' (E.gro g)
  | er y => exact hc σ F H E (an.air hz hA E) _
  | no => exact (an.no hA).elim⟩
/-- .. both ways go on: by values -/
theorem xb_ifv {c : Expr} {a b : List Stmt} {f : R Er Bool} {slj : S → List Slot} {M1 M2 : (S → R ε ρ) → R ε ρ} {M : S → (S' → R ε ρ) → R ε ρ} (z : Z) (v1 v2 : R ε S) (hz : Lw G (J.slz z)) (hc : XQ C c G f) (h1 : XB C J a G slj M1) (h2 : XB C J b G slj M2) (e1 : ∀ k, M1 k = v1.bind k) (e2 : ∀ k, M2 k = v2.bind k) (hr : ∀ s, XB C J rest (slj s) slk (M s)) :
    XB C J (.If c a b pos :: rest) G slk (fun k => (f.thn (fun y => J.em y z) fun x => cond x v1 v2).bind fun s => M s k) := ⟨fun F0 H0 A D an k hk hA => by
  refine (xb_if z hz hc h1 h2 hr).h F0 H0 A D an k hk ?_
  have e : (fun x => cond x (M1 fun s => M s k) (M2 fun s => M s k)) = fun x => (cond x v1 v2).bind fun s => M s k := by
    funext x; rw [e1, e2, R.cond_bind]
  show A (f.thn _ fun x => cond x (M1 fun s => M s k) (M2 fun s => M s k))
  rw [e, ← R.thn_bind]; exact hA⟩
end

/-! ### loops -/
def tI (X : Cx) (tg e : Expr) : TI := fun σ H Rr => ∀ (pins : List (Addr × Obj)) (s : Shared), Inv X pins σ H s → wpAny (model X.prog X.w) X.A (eval e X.env) (fun v s1 => wpAny (model X.prog X.w) X.A (pyIter v) (PIE X pins σ tg Rr) X.xe s1) X.xe s
def tG (X : Cx) (tg : Expr) : TG := fun v σ H Q => ∀ (pins : List (Addr × Obj)) (s : Shared) (u : Value), Inv X pins σ H s → RelV v u → wpAny (model X.prog X.w) X.A (assign tg X.env u) (fun _ s' => ∃ σ' H', Inv X pins σ' H' s' ∧ Q σ' H') X.xe s
theorem pI {X : Cx} {tg e : Expr} : PI X tg e (tI X tg e) := ⟨fun pins s σ H Rr I h => h pins s I⟩
theorem pG {X : Cx} {tg : Expr} : PG X tg (tG X tg) := ⟨fun pins s σ H v u Q I r h => h pins s u I r⟩
theorem tI_le {X : Cx} {tg e : Expr} {w : TI} (h : PI X tg e w) {σ : L2.St} {H : Hp} {Rr : It → Hp → Prop} (q : w σ H Rr) : tI X tg e σ H Rr := fun pins s I => h.run pins s σ H Rr I q
theorem tG_le {X : Cx} {tg : Expr} {g : TG} (h : PG X tg g) {v : V} {σ : L2.St} {H : Hp} {Q : L2.St → Hp → Prop} (q : g v σ H Q) : tG X tg v σ H Q := fun pins s u I r => h.run pins s σ H v u Q I r q
def Ix (C : Cn) (F0 H0 : Hp) (w : TI) (G : List Slot) (e : Er) : Prop := ∀ σ F H, EnvOk F0 H0 G σ F H → (∀ F' H' cls d, Gr F H F' H' → rEr C.T F' cls d e → C.W cls d σ H') → ∀ Rr : It → Hp → Prop, w σ H Rr
def Ir (C : Cn) (F0 H0 : Hp) {α : Type} (w : TI) (G : List Slot) (m : Md) (r : Rp α) : R Er (List α) → Prop
  | .ok xs => Ei F0 H0 w G m r xs
  | .er e => Ix C F0 H0 w G e
  | .no => True
structure XI (C : Cn) (tg e : Expr) (G : List Slot) (m : Md) {α : Type} (r : Rp α) (f : R Er (List α)) : Prop where
  h : ∀ F0 H0, Ir C F0 H0 (tI C.X tg e) G m r f
/-- a target's store, told for every heap -/
def Egs {α : Type} (H0 : Hp) (g : TG) (m : Md) (r : Rp α) (up : α → List Slot → List Slot) (tg : List Nat) : Prop := ∀ F0 G σ F H v x, EnvOk F0 H0 G σ F H → r (pk m F H0 H) v x → ∀ Q : L2.St → Hp → Prop,
  (∀ σ', (∀ F' H', Ex F F' → EnvOk F0 H0 G σ F' H' → EnvOk F0 H0 (up x G) σ' F' H') → (∀ vs, (∀ j ∈ tg, j ∈ vs) → wipe σ' vs = wipe σ vs) → Q σ' H) → g v σ H Q
theorem Egs.eg {α : Type} {H0 : Hp} {g : TG} {m : Md} {r : Rp α} {up : α → List Slot → List Slot} {tg : List Nat} (h : Egs H0 g m r up tg) : Eg H0 g m r up tg := fun F0 G σ F H v x E hv Q q => h F0 G σ F H v x E hv Q fun σ' a b => q σ' (a F H (Ex.refl F) E) b
theorem pslot_okS {α : Type} {m : Md} [h : Md.Ok m] {r : Rp α} {im : Mo r} {F H0 H F' H' : Hp} {v : V} {x : α} (e : Ex F F') (hr : r (pk m F H0 H) v x) : SlotOk H0 F' H' (some v) [] (pslot m r im x) := by
  cases m with
  | sh => exact ⟨v, rfl, im.ex e hr⟩
  | b0 => exact ⟨v, rfl, hr⟩
  | bo => exact absurd rfl h.ok
structure XG (C : Cn) (tg : Expr) (m : Md) {α : Type} (r : Rp α) (up : α → List Slot → List Slot) (tl : List Nat) : Prop where
  h : ∀ H0, Egs H0 (tG C.X tg) m r up tl
section
variable {C : Cn} {G : List Slot} {m m1 m2 : Md} {tg e a b : Expr} {x : Str} {p pos : Pos}
theorem xg_le {α : Type} {r : Rp α} {g : TG} {up : α → List Slot → List Slot} {tl : List Nat} (p : PG C.X tg g) (h : ∀ H0, Egs H0 g m r up tl) : XG C tg m r up tl := ⟨fun H0 F0 G σ F H v x E hv Q q => tG_le p (h H0 F0 G σ F H v x E hv Q q)⟩
theorem xg_name {α : Type} {r : Rp α} [im : Mo r] [Md.Ok m] (j : Nat) (hN : C.X.N[j]? = some x := by rfl) (hx : Loc C.X.env.scope x := by first | exact .inl rfl | exact .inr rfl) (hf : C.X.fn x = true ∨ C.X.env.scope.names.lookup x = some .local := by first | exact .inl rfl | exact .inr rfl) :
    XG C (.Name x pos) m r (fun x G => G.set j (pslot m r im x)) [j] := xg_le (pg_name C.nd hN hx hf) fun H0 F0 G σ F H v x E h Q q => q _ (fun F' H' e E' => E'.set (pslot_okS e h) pslot_no) fun vs hv => wipe_set (hv j List.mem_cons_self)
theorem xg_pr {α β : Type} {r : Rp α} {s : Rp β} [im : Mo r] [is : Mo s] [Md.Ok m] {x y : Str} {p1 p2 p3 : Pos} {tn : Nat} (i j : Nat) (hN : C.X.N[i]? = some x := by rfl) (hx : Loc C.X.env.scope x := by first | exact .inl rfl | exact .inr rfl) (hf : C.X.fn x = true ∨ C.X.env.scope.names.lookup x = some .local := by first | exact .inl rfl | exact .inr rfl)
    (hN2 : C.X.N[j]? = some y := by rfl) (hx2 : Loc C.X.env.scope y := by first | exact .inl rfl | exact .inr rfl) (hf2 : C.X.fn y = true ∨ C.X.env.scope.names.lookup y = some .local := by first | exact .inl rfl | exact .inr rfl) (hc : C.X.calm = true := by rfl) (hst : (assignEach [.Name x p1, .Name y p2] C.X.env).findIdx? (·.1) = none := by rfl) :
    XG C (.Tuple [.Name x p1, .Name y p2] tn p3) m (rPr r s) (fun x G => (G.set i (pslot m r im x.1)).set j (pslot m s is x.2)) [i, j] := xg_le (pg_tup hc (pgs_cons (pg_name C.nd hN hx hf) (pgs_cons (pg_name C.nd hN2 hx2 hf2) pgs_nil)) rfl hst) fun H0 F0 G σ F H v x E h Q q => by
  obtain ⟨p, a, b, rfl, h1, h2, h3⟩ := h
  refine ⟨p, _, rfl, SqT.of (pk_now E.gr _ _ h1), rfl, a, [b], rfl, b, [], rfl, rfl, ?_⟩
  exact q _ (fun F' H' e E' => (E'.set (pslot_okS e h2) pslot_no).set (pslot_okS e h3) pslot_no) fun vs hv => by
    rw [wipe_set (hv j (by simp)), wipe_set (hv i (by simp))]
theorem ir_bind {α γ : Type} {rx : Rp α} {rz : Rp γ} {t : TE} {w : TI} {f : R Er α} {g : α → R Er (List γ)} {F0 H0 : Hp} (h : Dr C F0 H0 t G m1 rx f) (hx : ∀ x, Dx C F0 H0 t G x → Ix C F0 H0 w G x) (k : ∀ x, Ed F0 H0 t G m1 rx x → Ir C F0 H0 w G m rz (g x)) : Ir C F0 H0 w G m rz (f.bind g) := by
  cases f with
  | ok a => exact k a h
  | er y => exact hx y h
  | no => trivial
theorem Ir.le {γ : Type} {rz : Rp γ} {w u : TI} {f : R Er (List γ)} {F0 H0 : Hp} (h : Ir C F0 H0 w G m rz f) (le : ∀ σ H Q, w σ H Q → u σ H Q) : Ir C F0 H0 u G m rz f := by
  cases f with
  | ok xs => exact fun σ F H E Rr q => le _ _ _ (h σ F H E Rr q)
  | er y => exact fun σ F H E z Rr => le _ _ _ (h σ F H E z Rr)
  | no => trivial
theorem ir_iff {γ : Type} {rz : Rp γ} {w : TI} {c : Prop} [Decidable c] {xs : List γ} {F0 H0 : Hp} (h : c → Ei F0 H0 w G m rz xs) : Ir C F0 H0 w G m rz (R.iff c (.ok xs)) := by
  unfold R.iff
  by_cases hc : c
  · rw [if_pos hc]; exact h hc
  · rw [if_neg hc]; trivial
def rngR (n : Int) : R Er (List Int) := R.iff (n ≤ 16777216 ∧ -16777216 ≤ n) (.ok (rng n))
theorem xi_rng {f : R Er Int} (h : XE C a G m1 rInt f) (hm : C.X.mg "range" = none) (hg : Gl C.X "range" := by rfl) (hs : starEach [a] C.X.env = [(false, eval a C.X.env)] := by rfl) (he : starEach [a] C.X.env = (false, eval a C.X.env) :: starEach [] C.X.env := by exact star_cons rfl) :
    XI C tg (.Call (.Name "range" p) [a] [] pos) G .sh rInt (f.bind rngR) := ⟨fun F0 H0 =>
  Ir.le (ir_bind (w := iRng1 (tCons (tE C.X a) tNil)) (h.h F0 H0) (fun x z σ F H E w Rr => z σ F H E w _) fun n hn => ir_iff fun c => ei_rng1 hn c.1 c.2) fun _ _ _ q => tI_le (pi_range1 hg hm (pa_cons pE pa_nil he) hs) q⟩
theorem xi_list {α : Type} {r : Rp α} [Mo r] [Md.Ok m] {f : R Er (List α)} (h : XE C e G m (rLst r) f) : XI C tg e G m r f := ⟨fun F0 H0 => by
  have h := h.h F0 H0
  refine Ir.le (w := iList C.X.K (tE C.X e)) ?_ fun _ _ _ q => tI_le (pi_list pE) q
  cases f with
  | ok xs => exact ei_list h
  | er y => exact fun σ F H E w Rr => h σ F H E w _
  | no => trivial⟩
end
section
variable {C : Cn} {β ρ ε Z S S' T : Type} {J : Jn β ρ ε Z} {G : List Slot} {slk : S' → List Slot} {tg it : Expr} {rest body : List Stmt} {pos : Pos} {m : Md}
theorem xb_for {α : Type} {r : Rp α} {fx : R Er (List α)} {up : α → List Slot → List Slot} {tl : List Nat} {M : T → (S' → R ε ρ) → R ε ρ} (B : T → α → (T → R ε ρ) → R ε ρ) (slT : T → List Slot) (t0 : T) (z : Z) (hz : Lw G (J.slz z)) (h0 : Lw G (slT t0))
    (po : PassesOwn (model C.X.prog C.X.w) C.X.A C.X.env C.X.xe) (hi : XI C tg it G m r fx) (hg : XG C tg m r up tl) (G' : T → α → List Slot) (hG : ∀ t x, up x (slT t) = G' t x) (hb : ∀ t x, XB C J body (G' t x) slT (B t x)) (hr : ∀ t, XB C J rest (slT t) slk (M t))
    (hc : C.X.calm = true := by rfl) (hs : ∀ x, foldedSetIterable it C.X.env x = pure x := by intro _; rfl) :
    XB C J (.For tg it body [] pos :: rest) G slk (fun k => fx.thn (fun y => J.em y z) fun xs => runC B t0 xs fun t => M t k) := ⟨fun F0 H0 A D an k hk hA => by
  intro σ F H E
  have hi := hi.h F0 H0
  refine tS_le (pss_cons (ps_for po hc pI pG pS hs) pS) ?_
  cases fx with
  | ok xs =>
    refine gk_run (P := fun xs t => A (runC B t xs fun t => M t k)) (ups := fun t _ => slT t) t0 hi (hg.h H0).eg h0 hA (fun F1 b x rest' t hx hP => ?_) (fun t hP => (hr t).h F0 H0 A D an k hk hP) σ F H E
    rw [hG]
    exact (hb t x).h F1 H0 A ⟨_, D.rt, _, _⟩ (an.down b) _ (fun t' hA' => fun σ F H E => ⟨t', F, hA', E⟩) hP
  | er y => exact hi σ F H E (an.air hz hA E) _
  | no => exact (an.no hA).elim⟩
/-- .. that goes through: by values -/
theorem xb_forv0 {α : Type} {r : Rp α} {fx : R Er (List α)} {up : α → List Slot → List Slot} {tl : List Nat} {M : T → (S' → R ε ρ) → R ε ρ} {B : T → α → (T → R ε ρ) → R ε ρ} (st : T → α → R ε T) (slT : T → List Slot) (t0 : T) (z : Z) (hz : Lw G (J.slz z)) (h0 : Lw G (slT t0))
    (po : PassesOwn (model C.X.prog C.X.w) C.X.A C.X.env C.X.xe) (hi : XI C tg it G m r fx) (hg : XG C tg m r up tl) (G' : T → α → List Slot) (hG : ∀ t x, up x (slT t) = G' t x) (hb : ∀ t x, XB C J body (G' t x) slT (B t x)) (hB : ∀ t x k, B t x k = (st t x).bind k) (hr : ∀ t, XB C J rest (slT t) slk (M t))
    (hc : C.X.calm = true := by rfl) (hs : ∀ x, foldedSetIterable it C.X.env x = pure x := by intro _; rfl) :
    XB C J (.For tg it body [] pos :: rest) G slk (fun k => fx.thn (fun y => J.em y z) fun xs => (R.foldR st t0 xs).bind fun t => M t k) := ⟨fun F0 H0 A D an k hk hA => by
  refine (xb_for B slT t0 z hz h0 po hi hg G' hG hb hr hc hs).h F0 H0 A D an k hk ?_
  have e : (fun xs => runC B t0 xs fun t => M t k) = fun xs => (R.foldR st t0 xs).bind fun t => M t k := by
    funext xs; exact R.foldR_run hB xs t0 _
  show A (fx.thn _ fun xs => runC B t0 xs fun t => M t k)
  rw [e]; exact hA⟩
end

/-! ### own lists -/
section
variable {C : Cn} {β ρ ε Z S S' T : Type} {J : Jn β ρ ε Z} {G : List Slot} {slk : S' → List Slot} {e : Expr} {rest : List Stmt} {pos : Pos} {m : Md}
theorem xn_nil {α : Type} {r : Rp α} [Mo r] : XN C (.List [] pos) G (fun xs => sL r xs) (.ok []) := ⟨fun F0 H0 => by
  have h := dv_en (en_lst (F0 := F0) (H0 := H0) (G := G) (el_nil (r := r)) (by simp))
  exact fun σ F H E Q q => tE_le (pe_lst pa_nil) (h σ F H E Q q)⟩
def appR {α : Type} (xs : List α) (a : α) : R ε (List α) := R.iff (xs.length < 16777216) (.ok (xs ++ [a]))
theorem xb_app {α : Type} {r : Rp α} [im : Mo r] {f : R Er α} {xs : List α} {iM : MoM (mL r xs)} {M : List α → (S' → R ε ρ) → R ε ρ} {x : Str} {p1 p2 p3 : Pos} (i : Nat) (G' : List α → List Slot) (z : Z) (hz : Lw G (J.slz z)) (hi : G[i]? = some (.ow (mL r xs) iM)) (he : XE C e G .sh r f) (hG : ∀ a, G.set i (sL r a) = G' a) (hr : ∀ a, XB C J rest (G' a) slk (M a))
    (hN : C.X.N[i]? = some x := by rfl) (hv : Vis C.X.env.scope x := by first | exact Or.inl rfl | exact Or.inr (Or.inl rfl) | exact Or.inr (Or.inr rfl)) (hd : (x == ("__debug__" : Str)) = false := by decide) (hcd : (x == ("__classdict__" : Str)) = false := by decide)
    (hbase : attributeBase (.Name x p1) "append" C.X.env (eval (.Name x p1) C.X.env) = eval (.Name x p1) C.X.env := by rfl)
    (hfew : ((backTo p3 (starEach [e] C.X.env)).all (fun x => !x.1) && (backToKw p3 (keywordEach [] C.X.env)).all (fun x => x.1.isSome) && decide ([e].length + ([] : List Keyword).length + (if ([] : List Keyword).isEmpty then 0 else 1) < 30)) = true := by rfl)
    (hline : (p2.endLine == p3.line) = true := by rfl) (hs : starEach [e] C.X.env = (false, eval e C.X.env) :: starEach [] C.X.env := by exact star_cons rfl) (hplain : (backTo p3 (starEach [] C.X.env)).any (·.1) = false := by rfl)
    (hsw : swapsWith (.Call (.Attribute (.Name x p1) "append" p2) [e] [] p3) none pos.line C.X.env = pure false := by rfl) :
    XB C J (.Expr (.Call (.Attribute (.Name x p1) "append" p2) [e] [] p3) pos :: rest) G slk (fun k => f.thn (fun y => J.em y z) fun a => (appR xs a).bind fun ys => M ys k) := ⟨fun F0 H0 A D an k hk hA σ F H E => by
  have he := he.h F0 H0
  refine tS_le (pss_cons (ps_expr (pe_bm PySem.F.plainAttrs_list PySem.F.slot_list_append PySem.F.type_list_append mt_append (pe_var hN hv hd hcd) (pa_cons pE pa_nil hs) hbase hfew hline hs hplain) hsw) pS) ?_
  cases f with
  | ok a =>
    unfold appR R.iff at hA
    by_cases hl : xs.length < 16777216
    · have hA : A (M (xs ++ [a]) k) := by simpa [hl] using hA
      exact gk_app hi he hl (hG (xs ++ [a]) ▸ (hr (xs ++ [a])).h F0 H0 A D an k hk hA) σ F H E
    · simp [hl] at hA; exact (an.no hA).elim
  | er y =>
    obtain ⟨q, vs, hx, h1, h2, h3, h4, h5⟩ := E.lst_at hi
    exact ⟨_, hx, .inl ⟨rfl, _, SqL.of h3⟩, he σ F H E (an.air hz hA E) _⟩
  | no => exact (an.no hA).elim⟩
/-- an own list is handed back -/
theorem xb_retO {α : Type} {r : Rp α} {xs : List α} {iM : MoM (mL r xs)} {x : Str} {p1 : Pos} (i : Nat) (z : Z) (hi : G[i]? = some (.ow (mL r xs) iM)) (b : β) (hb : J.rs b = .ow (mL r xs) iM) (hz : Lw (G.set i .no) (J.slz z))
    (hN : C.X.N[i]? = some x := by rfl) (hv : Vis C.X.env.scope x := by first | exact Or.inl rfl | exact Or.inr (Or.inl rfl) | exact Or.inr (Or.inr rfl)) (hd : (x == ("__debug__" : Str)) = false := by decide) (hcd : (x == ("__classdict__" : Str)) = false := by decide) :
    XB C J (.Return (some (.Name x p1)) pos :: rest) G slk (fun _ => .ok (J.ret b z)) := ⟨fun F0 H0 A D an k hk hA σ F H E => by
  refine tS_le (pss_cons (ps_ret (pe_var hN hv hd hcd)) pS) ?_
  obtain ⟨q, vs, hx, _⟩ := E.lst_at hi
  refine ⟨_, hx, an.ret b z hA σ F H _ ?_⟩
  have hl := E.len
  have hil : i < G.length := (List.getElem?_eq_some_iff.mp hi).1
  have E2 : EnvOk F0 H0 (.ow (mL r xs) iM :: G.set i .no) (some (.ref q) :: σ) F H := by
    refine E.re (fun j => match j with | 0 => i | n + 1 => n) (by simp [hl]) (fun j t hj => ?_) (fun j l e => ?_)
    · cases j with
      | zero => simp at hj; subst hj; exact ⟨⟨_, rfl⟩, .inr ⟨hi, by simp [hx]⟩⟩
      | succ j =>
        have hjl : j < σ.length := by rw [hl]; have := (List.getElem?_eq_some_iff.mp hj).1; simpa using this
        refine ⟨⟨σ[j], (List.getElem?_cons_succ).trans (List.getElem?_eq_getElem hjl)⟩, ?_⟩
        rcases set_get (show (G.set i .no)[j]? = some t by simpa using hj) with ⟨_, _, e⟩ | ⟨_, h⟩
        · exact .inl e.symm
        · exact .inr ⟨h, by simp⟩
    · cases j with
      | zero =>
        cases l with
        | zero => exact .inl rfl
        | succ l =>
          have e : i = l := e
          subst e
          exact .inr fun _ _ => .inr (by simp [List.getElem?_set_self hil])
      | succ j =>
        cases l with
        | zero =>
          have e : j = i := e
          subst e
          exact .inr fun _ _ => .inl (by simp [List.getElem?_set_self hil])
        | succ l => exact .inl (congrArg (· + 1) e)
  exact E2.weak ⟨.inr hb.symm, hz⟩⟩
/-- from now on it stays as it is -/
theorem xb_fz {α : Type} {r : Rp α} [im : Mo r] {xs : List α} {iM : MoM (mL r xs)} {M : (S' → R ε ρ) → R ε ρ} {st : List Stmt} (i : Nat) (G' : List Slot) (hi : G[i]? = some (.ow (mL r xs) iM)) (hG : G.set i (sF (rLst r) xs) = G') (h : XB C J st G' slk M) : XB C J st G slk M := ⟨fun F0 H0 A D an k hk hA => by
  subst hG
  exact gk_freeze i hi (h.h F0 H0 A D an k hk hA)⟩
end

/-! ### defs -/
def spR {α β : Type} (T : XT) (P : Pt α) (f : α → R Er β) (rs : β → Slot) : Sp := fun vs H Q E => ∃ F a, Ex F H ∧ P.ra F H H vs a ∧ f a ≠ .no ∧
  (∀ b, f a = .ok b → ∀ v F' H', EnvOk F H [rs b] [some v] F' H' → Q v H') ∧ (∀ er, f a = .er er → ErK T F H E er)
theorem spR_len {α β : Type} {T : XT} {P : Pt α} {f : α → R Er β} {rs : β → Slot} {vs : List V} {H : Hp} {Q : VK} {E : XK} (h : spR T P f rs vs H Q E) : vs.length = P.count := by
  obtain ⟨F, a, _, h, _⟩ := h; exact P.length h
/-- the context of a def's body -/
def cnD (P : Program) (w : World) (K : PySem.W.Frag) (mg : Str → Option Value) (base : Heap) (N : List Str) (nd : N.Nodup) (qual : Str) (sc : Scope) (f : Addr) (cdv : Value) (A : Around) (outer : List Env) (s : Shared) (H : Hp) (E : XK) (T : XT) : Cn where
  X := cxOf (L2.CX P w) P w K mg base N qual sc f cdv A outer s H E
  T := T
  W := fun cls d _ H => E cls d H
  tk := takes_of rfl rfl rfl rfl
  nd := nd
abbrev jnD {β : Type} (n : Nat) (rs : β → Slot) : Jn β β Er Unit := ⟨rs, fun b _ => b, fun _ => List.replicate n .no, fun e _ => e⟩
theorem cnD_po {P : Program} {w : World} {K : PySem.W.Frag} {mg : Str → Option Value} {base : Heap} {N : List Str} {nd : N.Nodup} {qual : Str} {sc : Scope} {f : Addr} {cdv : Value} {A : Around} {outer : List Env} {s : Shared} {H : Hp} {E : XK} {T : XT} : PassesOwn (model (cnD P w K mg base N nd qual sc f cdv A outer s H E T).X.prog (cnD P w K mg base N nd qual sc f cdv A outer s H E T).X.w) (cnD P w K mg base N nd qual sc f cdv A outer s H E T).X.A (cnD P w K mg base N nd qual sc f cdv A outer s H E T).X.env (cnD P w K mg base N nd qual sc f cdv A outer s H E T).X.xe := passes_of rfl
theorem lw_nos : ∀ {G : List Slot} {n : Nat}, G.length = n → Lw G (List.replicate n .no)
  | [], 0, _ => trivial
  | s :: G, n + 1, h => ⟨.inl rfl, lw_nos (by simpa using h)⟩
section
variable {P : Program} {w : World} {K : PySem.W.Frag} {mg : Str → Option Value} {base : Heap}
theorem ok_R {α β S' : Type} {X : XT} {T : Pt α} {f : α → R Er β} {rs : β → Slot} {x qual : Str} {st : Stmt} {fa : Addr} {fd : FuncData} {N ps : List Str} {k : Nat} (c : Nat) (Fn : Fun K x qual st fa fd) (S : FnScope N ps (defScope st)) (hc : N.length = T.count + c) (hps : ps.length = T.count)
    (kend : S' → R Er β) (hend : ∀ s b, kend s = .ok b → ∀ F H F' H', Gr F H F' H' → EnvOk F H [rs b] [some .non] F' H') (hend2 : ∀ s e, kend s ≠ .er e)
    (hbody : ∀ (cdv : Value) (A : Around) (outer : List Env) (s : Shared) (H : Hp) (E : XK) (hr : Room k (A.deeper (envOfC qual (defScope st) s.heap.objs.size fa cdv))) (a : α),
      ∃ (slk : S' → List Slot) (M : (S' → R Er β) → R Er β), XB (cnD P w K mg base N S.nd qual (defScope st) fa cdv A outer s H E X) (jnD N.length rs) (defBody st) (T.slots a ++ List.replicate c .no) slk M ∧ M kend = f a) :
    FnOk P w K mg base (L2.CX P w) (k + 1) fa fd ps (spR X T f rs) := by
  refine Fn.okX S (fun vs H Q E h => by rw [hps]; exact spR_len h) (fun cdv A outer s H vs Q E hr h => ?_)
  obtain ⟨F, a, e, ha, hno, q1, q2⟩ := h
  obtain ⟨slk, M, hB, hM⟩ := hbody cdv A outer s H E hr a
  refine ⟨_, pS, hB.h F H (fun r => r = f a) _ ⟨fun h => hno h.symm, fun b z h σ F' H' v EE => q1 b h.symm v F' H' EE.head, fun er z h σ F' H' cls d EE r => q2 er h.symm cls d F' H' EE.gr r⟩ kend (fun s' hs σ F' H' EE => ?_) hM _ F H (entry e ha c hc)⟩
  cases hk : kend s' with
  | ok b => exact q1 b (by rw [← hs, hk]) _ F' H' (hend s' b hk F H F' H' EE.gr)
  | er y => exact absurd hk (hend2 s' y)
  | no => rw [hk] at hs; exact absurd hs.symm hno
end
end LJ

set_option Elab.async false
set_option linter.all false
set_option maxRecDepth 100000
set_option maxHeartbeats 4000000
set_option autoImplicit false
/-! LJ3: expressions. -/
namespace LJ
open PySem L2 LK LKX PyProof.Rows PySem.Spec
instance {n : Nat} {i : Int} : Decidable (ixOk n i) := by unfold ixOk; infer_instance
section
variable {C : Cn} {G : List Slot} {m m1 m2 : Md} {a b c e : Expr} {es rest : List Expr} {pos p apos : Pos} {x : Str}
theorem ds_bind {α γ : Type} {rx : Rp α} {sb : γ → Slot} {f : R Er α} {g : α → R Er γ} {F0 H0 : Hp} {t u : TE} (h : Dr C F0 H0 t G m rx f) (hx : ∀ x, Dx C F0 H0 t G x → Dx C F0 H0 u G x) (k : ∀ x, Ed F0 H0 t G m rx x → Ds C F0 H0 u G sb (g x)) : Ds C F0 H0 u G sb (f.bind g) := by
  cases f with
  | ok a => exact k a h
  | er y => exact hx y h
  | no => trivial
theorem x1n {α γ : Type} {rx : Rp α} {sb : γ → Slot} {t : TE} {f : R Er α} {op : α → R Er γ} (ha : XE C a G m1 rx f) (p : PE C.X e t) (hx : ∀ F0 H0 x, Dx C F0 H0 (tE C.X a) G x → Dx C F0 H0 t G x)
    (ho : ∀ F0 H0 x, Ed F0 H0 (tE C.X a) G m1 rx x → Ds C F0 H0 t G sb (op x)) : XN C e G sb (f.bind op) := ⟨fun F0 H0 =>
  (ds_bind (ha.h F0 H0) (hx F0 H0) fun x h1 => ho F0 H0 x h1).le fun _ _ _ q => tE_le p q⟩
theorem x2n {α β γ : Type} {rx : Rp α} {ry : Rp β} {sb : γ → Slot} {r : R2} {f : R Er α} {g : R Er β} {op : α → β → R Er γ} (ha : XE C a G m1 rx f) (hb : XE C b G m2 ry g)
    (p : PE C.X e (tOp r (tE C.X a) (tE C.X b))) (ho : ∀ F0 H0 x y, Ed F0 H0 (tE C.X a) G m1 rx x → Ed F0 H0 (tE C.X b) G m2 ry y → Ds C F0 H0 (tOp r (tE C.X a) (tE C.X b)) G sb (op x y)) :
    XN C e G sb (f.bind fun x => g.bind fun y => op x y) := ⟨fun F0 H0 =>
  (ds_bind (ha.h F0 H0) (fun _ => dx_op1) fun x h1 => ds_bind (hb.h F0 H0) (fun _ => dx_op2 h1) fun y h2 => ho F0 H0 x y h1 h2).le fun _ _ _ q => tE_le p q⟩
theorem ds_iff {α : Type} {sb : α → Slot} {c : Prop} [Decidable c] {x : α} {F0 H0 : Hp} {t : TE} (h : c → Dv F0 H0 t G (sb x)) : Ds C F0 H0 t G sb (R.iff c (.ok x)) := by
  unfold R.iff
  by_cases hc : c
  · rw [if_pos hc]; exact h hc
  · rw [if_neg hc]; trivial
/-! texts -/
def catR (x y : List Nat) : R Er (List Nat) := R.iff (x.length + y.length ≤ 16777216) (.ok (x ++ y))
def ixTR (x : List Nat) (i : Int) : R Er (List Nat) := R.iff (ixOk x.length i) (.ok [ixD x i])
def ixR {α : Type} [Inhabited α] (x : List α) (i : Int) : R Er α := R.iff (ixOk x.length i) (.ok (ixD x i))
def strR (i : Int) : R Er (List Nat) := R.iff (0 ≤ i ∧ i < 10) (.ok [48 + i.toNat])
def intTR (x : List Nat) : R Er Int := match x with
  | [c] => R.iff (48 ≤ c ∧ c < 58) (.ok ((c : Int) - 48))
  | _ => .no
theorem xcat {f g : R Er (List Nat)} (ha : XE C a G m1 rTx f) (hb : XE C b G m2 rTx g) : XE C (.BinOp a .Add b pos) G .sh rTx (f.bind fun x => g.bind fun y => catR x y) := x2 ha hb (pe_op op_add_str pE pE) fun _ _ _ _ h1 h2 => dr_iff fun c => ed_cat h1 h2 c
theorem xixT {f : R Er (List Nat)} {g : R Er Int} (ha : XE C a G m1 rTx f) (hb : XE C b G m2 rInt g) (hp : PlainIx b := by exact fun _ _ => rfl) : XE C (.Subscript a b pos) G .sh rTx (f.bind fun x => g.bind fun y => ixTR x y) := x2 ha hb (pe_ix ix_str pE pE hp) fun _ _ _ _ h1 h2 => dr_iff fun c => ed_ixT h1 h2 c
theorem xixL {α : Type} {r : Rp α} [Mo r] [Inhabited α] {f : R Er (List α)} {g : R Er Int} (ha : XE C a G m (rLst r) f) (hb : XE C b G m2 rInt g) (hp : PlainIx b := by exact fun _ _ => rfl) : XE C (.Subscript a b pos) G m r (f.bind fun x => g.bind fun y => ixR x y) := x2 ha hb (pe_ix ix_list pE pE hp) fun _ _ _ _ h1 h2 => dr_iff fun c => ed_ixL h1 h2 c
theorem xixU {α : Type} {r : Rp α} [Mo r] [Inhabited α] {f : R Er (List α)} {g : R Er Int} (ha : XE C a G m (rTup r) f) (hb : XE C b G m2 rInt g) (hp : PlainIx b := by exact fun _ _ => rfl) : XE C (.Subscript a b pos) G m r (f.bind fun x => g.bind fun y => ixR x y) := x2 ha hb (pe_ix ix_tup pE pE hp) fun _ _ _ _ h1 h2 => dr_iff fun c => ed_ixU h1 h2 c
theorem xixS {f : R Er (List Int)} {g : R Er Int} (ha : XE C a G m1 (rScr C.X.K) f) (hb : XE C b G m2 rInt g) (hp : PlainIx b := by exact fun _ _ => rfl) : XE C (.Subscript a b pos) G .sh rInt (f.bind fun x => g.bind fun y => ixR x y) := x2 ha hb (pe_ix ix_list pE pE hp) fun _ _ _ _ h1 h2 => dr_iff fun c => ed_ixS h1 h2 c
theorem xix0 {α β : Type} {r : Rp α} {s : Rp β} [Mo r] [Mo s] {f : R Er (α × β)} {n : Nat} {q : Pos} (ha : XE C a G m (rPr r s) f) : XE C (.Subscript a (.Constant (.int 0) n q) pos) G m r (f.bind fun x => .ok x.1) :=
  x1 ha (pe_ix ix_tup pE pe_int (fun _ _ => rfl)) (fun _ _ _ z σ F H E w Q => z σ F H E w _) fun _ _ _ h => ed_ix0 h
theorem xix1 {α β : Type} {r : Rp α} {s : Rp β} [Mo r] [Mo s] {f : R Er (α × β)} {n : Nat} {q : Pos} (ha : XE C a G m (rPr r s) f) : XE C (.Subscript a (.Constant (.int 1) n q) pos) G m s (f.bind fun x => .ok x.2) :=
  x1 ha (pe_ix ix_tup pE pe_int (fun _ _ => rfl)) (fun _ _ _ z σ F H E w Q => z σ F H E w _) fun _ _ _ h => ed_ix1 h
theorem ed_3at {α β γ δ : Type} {r : Rp α} {s : Rp β} {t : Rp γ} {q : Rp δ} [Mo r] [Mo s] [Mo t] {F0 H0 : Hp} {ta : TE} {x : α × β × γ} {y : δ} {i : Nat} (hx : Ed F0 H0 ta G m (rP3 r s t) x) (hy : ∀ (F : Hp) (u w z v : V), r F u x.1 → s F w x.2.1 → t F z x.2.2 → [u, w, z][i]? = some v → q F v y) (hi : i < 3) :
    Ed F0 H0 (tOp (rIxT C.X.K) ta (tC (.int (i : Int)))) G m q y := LK.ed_bin hx (ed_int (m := .sh)) fun v w F H g0 hv hw Q qq => by
  obtain ⟨p, u, w', z, rfl, h1, h2, h3, h4⟩ := hv
  have e : atI [u, w', z] ((i : Nat) : Int) = [u, w', z][i]? := by
    unfold atI ixN
    rw [if_pos (by omega), if_pos (by simpa using (by omega : (i : Int) < 3))]; simp
  obtain ⟨v, hv⟩ : ∃ v, [u, w', z][i]? = some v := ⟨_, List.getElem?_eq_getElem (by simpa using hi)⟩
  exact ⟨p, _, i, v, rfl, hw, SqT.of (pk_now g0 _ _ h1), e.trans hv, qq _ F H (Gr.refl g0.fh) (hy _ _ _ _ _ h2 h3 h4 hv)⟩
theorem xi30 {α β γ : Type} {r : Rp α} {s : Rp β} {t : Rp γ} [Mo r] [Mo s] [Mo t] {f : R Er (α × β × γ)} {n : Nat} {q : Pos} (ha : XE C a G m (rP3 r s t) f) : XE C (.Subscript a (.Constant (.int 0) n q) pos) G m r (f.bind fun x => .ok x.1) :=
  x1 ha (pe_ix ix_tup pE pe_int (fun _ _ => rfl)) (fun _ _ _ z σ F H E w Q => z σ F H E w _) fun _ _ _ h => ed_3at (i := 0) h (fun _ _ _ _ _ h1 _ _ e => by cases e; exact h1) (by decide)
theorem xi31 {α β γ : Type} {r : Rp α} {s : Rp β} {t : Rp γ} [Mo r] [Mo s] [Mo t] {f : R Er (α × β × γ)} {n : Nat} {q : Pos} (ha : XE C a G m (rP3 r s t) f) : XE C (.Subscript a (.Constant (.int 1) n q) pos) G m s (f.bind fun x => .ok x.2.1) :=
  x1 ha (pe_ix ix_tup pE pe_int (fun _ _ => rfl)) (fun _ _ _ z σ F H E w Q => z σ F H E w _) fun _ _ _ h => ed_3at (i := 1) h (fun _ _ _ _ _ _ h2 _ e => by cases e; exact h2) (by decide)
theorem xi32 {α β γ : Type} {r : Rp α} {s : Rp β} {t : Rp γ} [Mo r] [Mo s] [Mo t] {f : R Er (α × β × γ)} {n : Nat} {q : Pos} (ha : XE C a G m (rP3 r s t) f) : XE C (.Subscript a (.Constant (.int 2) n q) pos) G m t (f.bind fun x => .ok x.2.2) :=
  x1 ha (pe_ix ix_tup pE pe_int (fun _ _ => rfl)) (fun _ _ _ z σ F H E w Q => z σ F H E w _) fun _ _ _ h => ed_3at (i := 2) h (fun _ _ _ _ _ _ _ h3 e => by cases e; exact h3) (by decide)

/-! values of tests -/
theorem xnot {f : R Er Bool} (ha : XE C a G m1 rBl f) : XE C (.UnaryOp .Not a pos) G .sh rBl (f.bind fun x => .ok (!x)) := x1 ha (pe_not pE) (fun _ _ _ z σ F H E w Q => z σ F H E w _) fun _ _ _ h => ed_notV h
theorem xneg {f : R Er Int} (ha : XE C a G m1 rInt f) : XE C (.UnaryOp .USub a pos) G .sh rInt (f.bind fun x => .ok (-x)) := x1 ha (pe_un un_neg pE) (fun _ _ _ z σ F H E w Q => z σ F H E w _) fun _ _ _ h => ed_neg h
theorem xone {op : BoolOp} {f : R Er Bool} (ha : XE C a G m rBl f) : XE C (.BoolOp op [a] pos) G m rBl f := ⟨fun F0 H0 => (ha.h F0 H0).le fun _ _ _ q => tE_le (pe_one pE) q⟩
theorem xand {f g : R Er Bool} (ha : XE C a G m1 rBl f) (hb : XE C (.BoolOp .And (b :: rest) pos) G m2 rBl g) : XE C (.BoolOp .And (a :: b :: rest) pos) G .sh rBl (f.bind fun x => cond x g (.ok false)) := ⟨fun F0 H0 =>
  ((ha.h F0 H0).bind (t := tAndV (tE C.X a) (tE C.X (.BoolOp .And (b :: rest) pos))) (m1 := .sh) (r' := rBl) (fun x z σ F H E w Q => z σ F H E w _) fun x h1 => by
    have h2 := hb.h F0 H0
    cases x with
    | false => exact ed_andV (b := false) (m2 := .sh) h1 (fun z => nomatch z)
    | true =>
      show Dr C F0 H0 _ G .sh rBl g
      cases g with
      | ok y => exact (ed_andV h1 (fun _ => h2)).cast rfl
      | er e => exact fun σ F H E w Q => h1 σ F H E _ fun v F1 H1 g1 hv => ⟨true, hv, by rw [if_pos rfl]; exact h2 σ F1 H1 (E.gro g1) (fun F' H' cls d g z => w F' H' cls d (g1.trans g) z) Q⟩
      | no => trivial).le fun _ _ _ q => tE_le (pe_and pE pE) q⟩
theorem xor {f g : R Er Bool} (ha : XE C a G m1 rBl f) (hb : XE C (.BoolOp .Or (b :: rest) pos) G m2 rBl g) : XE C (.BoolOp .Or (a :: b :: rest) pos) G .sh rBl (f.bind fun x => cond x (.ok true) g) := ⟨fun F0 H0 =>
  ((ha.h F0 H0).bind (t := tOrV (tE C.X a) (tE C.X (.BoolOp .Or (b :: rest) pos))) (m1 := .sh) (r' := rBl) (fun x z σ F H E w Q => z σ F H E w _) fun x h1 => by
    have h2 := hb.h F0 H0
    cases x with
    | true => exact ed_orV (b := false) (m2 := .sh) h1 (fun z => nomatch z)
    | false =>
      show Dr C F0 H0 _ G .sh rBl g
      cases g with
      | ok y => exact (ed_orV h1 (fun _ => h2)).cast rfl
      | er e => exact fun σ F H E w Q => h1 σ F H E _ fun v F1 H1 g1 hv => ⟨false, hv, by rw [if_neg (by decide)]; exact h2 σ F1 H1 (E.gro g1) (fun F' H' cls d g z => w F' H' cls d (g1.trans g) z) Q⟩
      | no => trivial).le fun _ _ _ q => tE_le (pe_or pE pE) q⟩
theorem xif {α : Type} {r : Rp α} {f : R Er Bool} {g h : R Er α} (hc : XQ C c G f) (ha : XE C a G m r g) (hb : XE C b G m r h) : XE C (.IfExp c a b pos) G m r (f.bind fun x => cond x g h) := ⟨fun F0 H0 => by
  have hc := hc.h F0 H0; have ha := ha.h F0 H0; have hb := hb.h F0 H0
  refine Dr.le (t := tIf (tT C.X c) (tE C.X a) (tE C.X b)) ?_ fun _ _ _ q => tE_le (pe_ifExp pT pE pE) q
  cases f with
  | no => trivial
  | er e => exact fun σ F H E w Q => hc σ F H E w _
  | ok x =>
    cases x with
    | true =>
      show Dr C F0 H0 _ G m r g
      cases g with
      | ok y => exact (ed_if (b := y) hc (fun _ => ha) (fun z => nomatch z)).cast rfl
      | er e => exact fun σ F H E w Q => hc σ F H E _ fun F1 H1 g1 => by rw [if_pos rfl]; exact ha σ F1 H1 (E.gro g1) (fun F' H' cls d g z => w F' H' cls d (g1.trans g) z) Q
      | no => trivial
    | false =>
      show Dr C F0 H0 _ G m r h
      cases h with
      | ok y => exact (ed_if (a := y) hc (fun z => nomatch z) (fun _ => hb)).cast rfl
      | er e => exact fun σ F H E w Q => hc σ F H E _ fun F1 H1 g1 => by rw [if_neg (by decide)]; exact hb σ F1 H1 (E.gro g1) (fun F' H' cls d g z => w F' H' cls d (g1.trans g) z) Q
      | no => trivial⟩

/-! built-ins of one argument -/
theorem xcb1 {α γ : Type} {rx : Rp α} {rz : Rp γ} {r : List V → Hp → VK → Prop} {f : R Er α} {op : α → R Er γ} (ha : XE C a G m1 rx f) (q : PE C.X e (tCB r (tCons (tE C.X a) tNil)))
    (ho : ∀ F0 H0 x, Ed F0 H0 (tE C.X a) G m1 rx x → Dr C F0 H0 (tCB r (tCons (tE C.X a) tNil)) G m rz (op x)) : XE C e G m rz (f.bind op) := x1 ha q (fun _ _ _ z σ F H E w Q => z σ F H E w _) ho
theorem pB {id : String} {r : List V → Hp → VK → Prop} (hc : CallR C.X (.builtin id) r) (hm : C.X.mg x = none) (hv : bootBuiltins x = some (.builtin id)) (hg : Gl C.X x) (hn : x ≠ "__name__") (hdb : (x == ("__debug__" : Str)) = false)
    (he : starEach [a] C.X.env = (false, eval a C.X.env) :: starEach [] C.X.env) (hpl : (backTo pos (starEach [] C.X.env)).any (·.1) = false) : PE C.X (.Call (.Name x p) [a] [] pos) (tCB r (tCons (tE C.X a) tNil)) := pe_callB hc hg hm hv (pa_cons pE pa_nil he) hn hdb he hpl
theorem pTy {id : String} {r : List V → Hp → VK → Prop} (hc : CallR C.X (.type id) r) (hm : C.X.mg x = none) (hv : bootBuiltins x = some (.type id)) (hg : Gl C.X x) (hn : x ≠ "__name__") (hdb : (x == ("__debug__" : Str)) = false)
    (he : starEach [a] C.X.env = (false, eval a C.X.env) :: starEach [] C.X.env) (hpl : (backTo pos (starEach [] C.X.env)).any (·.1) = false) : PE C.X (.Call (.Name x p) [a] [] pos) (tCB r (tCons (tE C.X a) tNil)) := pe_callTy hc hg hm hv (pa_cons pE pa_nil he) hn hdb he hpl
section
variable (hg1 : Gl C.X "len" := by rfl) (he : starEach [a] C.X.env = (false, eval a C.X.env) :: starEach [] C.X.env := by exact star_cons rfl) (hpl : (backTo pos (starEach [] C.X.env)).any (·.1) = false := by rfl)
theorem xlenL {α : Type} {r : Rp α} {f : R Er (List α)} (ha : XE C a G m1 (rLst r) f) (hm : C.X.mg "len" = none) (hg : Gl C.X "len" := by rfl) (he : starEach [a] C.X.env = (false, eval a C.X.env) :: starEach [] C.X.env := by exact star_cons rfl) (hpl : (backTo pos (starEach [] C.X.env)).any (·.1) = false := by rfl) :
    XE C (.Call (.Name "len" p) [a] [] pos) G .sh rInt (f.bind fun x => .ok (x.length : Int)) := xcb1 ha (pB call_len_seq hm PySem.boot_len hg (by decide) (by decide) he hpl) fun _ _ _ h => ed_lenL h
theorem xlenU {α : Type} {r : Rp α} {f : R Er (List α)} (ha : XE C a G m1 (rTup r) f) (hm : C.X.mg "len" = none) (hg : Gl C.X "len" := by rfl) (he : starEach [a] C.X.env = (false, eval a C.X.env) :: starEach [] C.X.env := by exact star_cons rfl) (hpl : (backTo pos (starEach [] C.X.env)).any (·.1) = false := by rfl) :
    XE C (.Call (.Name "len" p) [a] [] pos) G .sh rInt (f.bind fun x => .ok (x.length : Int)) := xcb1 ha (pB call_len_seq hm PySem.boot_len hg (by decide) (by decide) he hpl) fun _ _ _ h => ed_lenU h
theorem xlenT {f : R Er (List Nat)} (ha : XE C a G m1 rTx f) (hm : C.X.mg "len" = none) (hg : Gl C.X "len" := by rfl) (he : starEach [a] C.X.env = (false, eval a C.X.env) :: starEach [] C.X.env := by exact star_cons rfl) (hpl : (backTo pos (starEach [] C.X.env)).any (·.1) = false := by rfl) :
    XE C (.Call (.Name "len" p) [a] [] pos) G .sh rInt (f.bind fun x => .ok (x.length : Int)) := xcb1 ha (pB call_len_str hm PySem.boot_len hg (by decide) (by decide) he hpl) fun _ _ _ h => ed_lenT h
theorem xlenS {f : R Er (List Int)} (ha : XE C a G m1 (rScr C.X.K) f) (hm : C.X.mg "len" = none) (hg : Gl C.X "len" := by rfl) (he : starEach [a] C.X.env = (false, eval a C.X.env) :: starEach [] C.X.env := by exact star_cons rfl) (hpl : (backTo pos (starEach [] C.X.env)).any (·.1) = false := by rfl) :
    XE C (.Call (.Name "len" p) [a] [] pos) G .sh rInt (f.bind fun x => .ok (x.length : Int)) := xcb1 ha (pB call_len_seq hm PySem.boot_len hg (by decide) (by decide) he hpl) fun _ _ _ h => ed_lenS h
theorem xintI {f : R Er Int} (ha : XE C a G m1 rInt f) (hm : C.X.mg "int" = none) (hg : Gl C.X "int" := by rfl) (he : starEach [a] C.X.env = (false, eval a C.X.env) :: starEach [] C.X.env := by exact star_cons rfl) (hpl : (backTo pos (starEach [] C.X.env)).any (·.1) = false := by rfl) :
    XE C (.Call (.Name "int" p) [a] [] pos) G .sh rInt (f.bind fun x => .ok x) := xcb1 ha (pTy call_int1 hm (by decide +kernel) hg (by decide) (by decide) he hpl) fun _ _ _ h => ed_intI h
theorem xintB {f : R Er Bool} (ha : XE C a G m1 rBl f) (hm : C.X.mg "int" = none) (hg : Gl C.X "int" := by rfl) (he : starEach [a] C.X.env = (false, eval a C.X.env) :: starEach [] C.X.env := by exact star_cons rfl) (hpl : (backTo pos (starEach [] C.X.env)).any (·.1) = false := by rfl) :
    XE C (.Call (.Name "int" p) [a] [] pos) G .sh rInt (f.bind fun x => .ok (cond x 1 0)) := xcb1 ha (pTy call_int1 hm (by decide +kernel) hg (by decide) (by decide) he hpl) fun _ _ x h => by
  have := ed_intB (m := .sh) h
  cases x <;> exact this
theorem xintT {f : R Er (List Nat)} (ha : XE C a G m1 rTx f) (hm : C.X.mg "int" = none) (hg : Gl C.X "int" := by rfl) (he : starEach [a] C.X.env = (false, eval a C.X.env) :: starEach [] C.X.env := by exact star_cons rfl) (hpl : (backTo pos (starEach [] C.X.env)).any (·.1) = false := by rfl) :
    XE C (.Call (.Name "int" p) [a] [] pos) G .sh rInt (f.bind intTR) := xcb1 ha (pTy call_int_str hm (by decide +kernel) hg (by decide) (by decide) he hpl) fun _ _ x h => by
  match x with
  | [] => trivial
  | [c] => exact dr_iff fun z => ed_intS h z.1 z.2
  | _ :: _ :: _ => trivial
theorem xstrI {f : R Er Int} (ha : XE C a G m1 rInt f) (hm : C.X.mg "str" = none) (hg : Gl C.X "str" := by rfl) (he : starEach [a] C.X.env = (false, eval a C.X.env) :: starEach [] C.X.env := by exact star_cons rfl) (hpl : (backTo pos (starEach [] C.X.env)).any (·.1) = false := by rfl) :
    XE C (.Call (.Name "str" p) [a] [] pos) G .sh rTx (f.bind strR) := xcb1 ha (pTy call_str_int hm (by decide +kernel) hg (by decide) (by decide) he hpl) fun _ _ x h => dr_iff fun z => ed_strI h z.1 z.2
theorem xlistL {α : Type} {r : Rp α} [Mo r] [Kp m1 r] {f : R Er (List α)} (ha : XE C a G m1 (rLst r) f) (hm : C.X.mg "list" = none) (hg : Gl C.X "list" := by rfl) (he : starEach [a] C.X.env = (false, eval a C.X.env) :: starEach [] C.X.env := by exact star_cons rfl) (hpl : (backTo pos (starEach [] C.X.env)).any (·.1) = false := by rfl) :
    XN C (.Call (.Name "list" p) [a] [] pos) G (fun xs => sL r xs) f := by
  have h : XN C (.Call (.Name "list" p) [a] [] pos) G (fun xs => sL r xs) (f.bind fun x => .ok x) := x1n ha (pTy call_list_of hm (by decide +kernel) hg (by decide) (by decide) he hpl) (fun _ _ _ z σ F H E w Q => z σ F H E w _) fun _ _ x h => dv_en (en_list h)
  cases f <;> exact h
theorem xlistU {α : Type} {r : Rp α} [Mo r] [Kp m1 r] {f : R Er (List α)} (ha : XE C a G m1 (rTup r) f) (hm : C.X.mg "list" = none) (hg : Gl C.X "list" := by rfl) (he : starEach [a] C.X.env = (false, eval a C.X.env) :: starEach [] C.X.env := by exact star_cons rfl) (hpl : (backTo pos (starEach [] C.X.env)).any (·.1) = false := by rfl) :
    XN C (.Call (.Name "list" p) [a] [] pos) G (fun xs => sL r xs) f := by
  have h : XN C (.Call (.Name "list" p) [a] [] pos) G (fun xs => sL r xs) (f.bind fun x => .ok x) := x1n ha (pTy call_list_of hm (by decide +kernel) hg (by decide) (by decide) he hpl) (fun _ _ _ z σ F H E w Q => z σ F H E w _) fun _ _ x h => dv_en (en_listU h)
  cases f <;> exact h
theorem xtupL {α : Type} {r : Rp α} [Mo r] [Kp m1 r] {f : R Er (List α)} (ha : XE C a G m1 (rLst r) f) (hm : C.X.mg "tuple" = none) (hg : Gl C.X "tuple" := by rfl) (he : starEach [a] C.X.env = (false, eval a C.X.env) :: starEach [] C.X.env := by exact star_cons rfl) (hpl : (backTo pos (starEach [] C.X.env)).any (·.1) = false := by rfl) :
    XE C (.Call (.Name "tuple" p) [a] [] pos) G .sh (rTup r) f := by
  have h : XE C (.Call (.Name "tuple" p) [a] [] pos) G .sh (rTup r) (f.bind fun x => .ok x) := xcb1 ha (pTy call_tuple_of hm (by decide +kernel) hg (by decide) (by decide) he hpl) fun _ _ x h => ed_tupL h
  cases f <;> exact h
theorem xall {f : R Er (List Bool)} (ha : XE C a G m1 (rLst rBl) f) (hm : C.X.mg "all" = none) (hc : C.X.calm = true := by rfl) (hg : Gl C.X "all" := by rfl) (he : starEach [a] C.X.env = (false, eval a C.X.env) :: starEach [] C.X.env := by exact star_cons rfl) (hpl : (backTo pos (starEach [] C.X.env)).any (·.1) = false := by rfl) :
    XE C (.Call (.Name "all" p) [a] [] pos) G .sh rBl (f.bind fun x => .ok (x.all id)) := xcb1 ha (pB (cr_all hc) hm (by decide +kernel) hg (by decide) (by decide) he hpl) fun _ _ _ h => ed_all h
theorem xany {f : R Er (List Bool)} (ha : XE C a G m1 (rLst rBl) f) (hm : C.X.mg "any" = none) (hc : C.X.calm = true := by rfl) (hg : Gl C.X "any" := by rfl) (he : starEach [a] C.X.env = (false, eval a C.X.env) :: starEach [] C.X.env := by exact star_cons rfl) (hpl : (backTo pos (starEach [] C.X.env)).any (·.1) = false := by rfl) :
    XE C (.Call (.Name "any" p) [a] [] pos) G .sh rBl (f.bind fun x => .ok (x.any id)) := xcb1 ha (pB (cr_any hc) hm (by decide +kernel) hg (by decide) (by decide) he hpl) fun _ _ _ h => ed_any h
/-- list(range(n)) -/
theorem xlistRg {f : R Er Int} {p2 pos2 : Pos} (ha : XE C a G m1 rInt f) (hm : C.X.mg "list" = none) (hr : C.X.mg "range" = none) (hc : C.X.calm = true := by rfl) (hg : Gl C.X "list" := by rfl) (hgr : Gl C.X "range" := by rfl)
    (hs : starEach [.Call (.Name "range" p2) [a] [] pos2] C.X.env = (false, eval (.Call (.Name "range" p2) [a] [] pos2) C.X.env) :: starEach [] C.X.env := by rfl) (he : starEach [a] C.X.env = [(false, eval a C.X.env)] := by rfl) :
    XN C (.Call (.Name "list" p) [.Call (.Name "range" p2) [a] [] pos2] [] pos) G (fun xs => sL rInt xs) (f.bind rngR) :=
  x1n ha (pe_listRg hc hg hm (prg_1 hgr hr pE he)) (fun _ _ _ z σ F H E w Q => z σ F H E w _) fun _ _ x h => ds_iff fun c => dv_en (en_rng h c.1 c.2)
end

/-! lists, slices -/
def catLR {α : Type} (x y : List α) : R Er (List α) := R.iff (x.length + y.length ≤ 16777216) (.ok (x ++ y))
theorem xcatL {α : Type} {r : Rp α} [Mo r] [Kp m1 r] [Kp m2 r] {f g : R Er (List α)} (ha : XE C a G m1 (rLst r) f) (hb : XE C b G m2 (rLst r) g) : XN C (.BinOp a .Add b pos) G (fun xs => sL r xs) (f.bind fun x => g.bind fun y => catLR x y) := x2n ha hb (pe_op op_cat pE pE) fun _ _ _ _ h1 h2 => ds_iff fun c => dv_en (en_catL h1 h2 c)
def XO (C : Cn) (o : Option Expr) (G : List Slot) (f : R Er (Option Int)) : Prop := ∃ t, PO C.X o t ∧ ∀ F0 H0, match f with
  | .ok i => Eo F0 H0 t G i
  | .er e => ∀ σ F H, EnvOk F0 H0 G σ F H → (∀ F' H' cls d, Gr F H F' H' → rEr C.T F' cls d e → C.W cls d σ H') → ∀ Q : Option Int → Hp → Prop, t σ H Q
  | .no => True
theorem xo_none : XO C none G (.ok none) := ⟨_, po_none, fun _ _ => eo_none⟩
theorem xo_some {f : R Er Int} (h : XE C a G m rInt f) : XO C (some a) G (f.bind fun i => .ok (some i)) := ⟨_, po_some pE, fun F0 H0 => by
  have h := h.h F0 H0
  cases f with
  | ok i => exact eo_some (te := tE C.X a) h
  | er e => exact fun σ F H E w Q => h σ F H E w _
  | no => trivial⟩
theorem xslT {o1 o2 : Option Expr} {f : R Er (List Nat)} {g h : R Er (Option Int)} {sp : Pos} (ha : XE C a G m1 rTx f) (h1 : XO C o1 G g) (h2 : XO C o2 G h) : XE C (.Subscript a (.Slice o1 o2 none sp) pos) G .sh rTx (f.bind fun x => g.bind fun i => h.bind fun j => .ok (cutL x i j)) := ⟨fun F0 H0 => by
  obtain ⟨tl, pl, hl⟩ := h1
  obtain ⟨th, ph, hh⟩ := h2
  have ha := ha.h F0 H0; have hl := hl F0 H0; have hh := hh F0 H0
  refine Dr.le (t := tSl rSlS (tE C.X a) tl th) ?_ fun _ _ _ q => tE_le (pe_slice sl_str pE pl ph) q
  cases f with
  | no => trivial
  | er e => exact fun σ F H E w Q => ha σ F H E w _
  | ok x =>
    cases g with
    | no => trivial
    | er e => exact fun σ F H E w Q => ha σ F H E _ fun v F1 H1 g1 _ => hl σ F1 H1 (E.gro g1) (fun F' H' cls d g z => w F' H' cls d (g1.trans g) z) _
    | ok i =>
      cases h with
      | no => trivial
      | er e => exact fun σ F H E w Q => ha σ F H E _ fun v F1 H1 g1 _ => hl σ F1 H1 (E.gro g1) _ fun F2 H2 g2 => hh σ F2 H2 ((E.gro g1).gro g2) (fun F' H' cls d g z => w F' H' cls d ((g1.trans g2).trans g) z) _
      | ok j => exact ed_slT ha hl hh⟩
theorem xslL {α : Type} {r : Rp α} [Mo r] [Kp m1 r] {o1 o2 : Option Expr} {f : R Er (List α)} {g h : R Er (Option Int)} {sp : Pos} (ha : XE C a G m1 (rLst r) f) (h1 : XO C o1 G g) (h2 : XO C o2 G h) : XN C (.Subscript a (.Slice o1 o2 none sp) pos) G (fun xs => sL r xs) (f.bind fun x => g.bind fun i => h.bind fun j => .ok (cutL x i j)) := ⟨fun F0 H0 => by
  obtain ⟨tl, pl, hl⟩ := h1
  obtain ⟨th, ph, hh⟩ := h2
  have ha := ha.h F0 H0; have hl := hl F0 H0; have hh := hh F0 H0
  refine Ds.le (t := tSl (rSlL C.X.K) (tE C.X a) tl th) ?_ fun _ _ _ q => tE_le (pe_slice sl_list pE pl ph) q
  cases f with
  | no => trivial
  | er e => exact fun σ F H E w Q => ha σ F H E w _
  | ok x =>
    cases g with
    | no => trivial
    | er e => exact fun σ F H E w Q => ha σ F H E _ fun v F1 H1 g1 _ => hl σ F1 H1 (E.gro g1) (fun F' H' cls d g z => w F' H' cls d (g1.trans g) z) _
    | ok i =>
      cases h with
      | no => trivial
      | er e => exact fun σ F H E w Q => ha σ F H E _ fun v F1 H1 g1 _ => hl σ F1 H1 (E.gro g1) _ fun F2 H2 g2 => hh σ F2 H2 ((E.gro g1).gro g2) (fun F' H' cls d g z => w F' H' cls d ((g1.trans g2).trans g) z) _
      | ok j => exact dv_en (en_slL ha hl hh)⟩
/-- ''.join(list of texts) -/
def joinR (x : List Nat) (xs : List (List Nat)) : R Er (List Nat) := R.iff (x = [] ∧ xs.flatten.length ≤ 16777216) (.ok xs.flatten)
theorem xjoin {f : R Er (List Nat)} {g : R Er (List (List Nat))} (ha : XE C a G m1 rTx f) (hb : XE C b G m2 (rLst rTx) g) (hs : starEach [b] C.X.env = [(false, eval b C.X.env)] := by rfl) (hbase : attributeBase a "join" C.X.env (eval a C.X.env) = eval a C.X.env := by rfl) (hline : (apos.endLine == pos.line) = true := by rfl) :
    XE C (.Call (.Attribute a "join" apos) [b] [] pos) G .sh rTx (f.bind fun x => g.bind fun xs => joinR x xs) := ⟨fun F0 H0 => by
  have ha := ha.h F0 H0; have hb := hb.h F0 H0
  refine Dr.le (t := tM1 (rJoin C.X.K) (tE C.X a) (tE C.X b)) ?_ fun _ _ _ q => tE_le (kJoin _ pE pE rfl hs hbase hline) q
  cases f with
  | no => trivial
  | er e => exact fun σ F H E w Q => ha σ F H E w _
  | ok x =>
    cases g with
    | no => trivial
    | er e => exact fun σ F H E w Q => ha σ F H E _ fun v F1 H1 g1 hv => ⟨⟨_, hv.1⟩, hb σ F1 H1 (E.gro g1) (fun F' H' cls d g z => w F' H' cls d (g1.trans g) z) _⟩
    | ok xs =>
      refine dr_iff fun c => ?_
      obtain ⟨rfl, c⟩ := c
      exact ed_join ha hb c⟩
end
end LJ

set_option Elab.async false
set_option linter.all false
set_option maxRecDepth 100000
set_option maxHeartbeats 4000000
set_option autoImplicit false
/-! LJ4: displays, comprehensions, calls. -/
namespace LJ
open PySem L2 LK LKX PyProof.Rows PySem.Spec
section
variable {C : Cn} {G : List Slot} {m m1 m2 : Md} {a b c e : Expr} {es rest : List Expr} {pos p apos : Pos} {x : Str} {tn : Nat}
/-! ### argument lists -/
def Ar (C : Cn) (F0 H0 : Hp) (t : TA) (G : List Slot) {α : Type} (ok : α → Prop) : R Er α → Prop
  | .ok a => ok a
  | .er e => ∀ σ F H, EnvOk F0 H0 G σ F H → (∀ F' H' cls d, Gr F H F' H' → rEr C.T F' cls d e → C.W cls d σ H') → ∀ Q : List V → Hp → Prop, t σ H Q
  | .no => True
structure XL (C : Cn) (es : List Expr) (G : List Slot) {α : Type} (r : Rp α) (f : R Er (List α)) : Prop where
  h : ∀ F0 H0, Ar C F0 H0 (tA C.X es) G (fun xs => El F0 H0 (tA C.X es) G r xs) f
structure XA (C : Cn) (es : List Expr) (G : List Slot) {α : Type} (P : Pt α) (f : R Er α) : Prop where
  h : ∀ F0 H0, Ar C F0 H0 (tA C.X es) G (fun a => Ea F0 H0 (tA C.X es) G P.ra a) f
theorem xl_nil {α : Type} {r : Rp α} : XL C [] G r (.ok []) := ⟨fun F0 H0 σ F H E Q q => tA_le pa_nil (el_nil (F0 := F0) (H0 := H0) σ F H E Q q)⟩
theorem xl_cons {α : Type} {r : Rp α} [Mo r] {f : R Er α} {g : R Er (List α)} (ha : XE C e G .sh r f) (hr : XL C es G r g) (hs : starEach (e :: es) C.X.env = (false, eval e C.X.env) :: starEach es C.X.env := by exact star_cons rfl) : XL C (e :: es) G r (f.bind fun x => g.bind fun xs => .ok (x :: xs)) := ⟨fun F0 H0 => by
  have ha := ha.h F0 H0; have hr := hr.h F0 H0
  have le : ∀ σ H Q, tCons (tE C.X e) (tA C.X es) σ H Q → tA C.X (e :: es) σ H Q := fun _ _ _ q => tA_le (pa_cons pE pA hs) q
  cases f with
  | no => trivial
  | er y => exact fun σ F H E w Q => le _ _ _ (ha σ F H E w _)
  | ok x =>
    cases g with
    | no => trivial
    | er y => exact fun σ F H E w Q => le _ _ _ (ha σ F H E _ fun v F1 H1 g1 _ => hr σ F1 H1 (E.gro g1) (fun F' H' cls d g z => w F' H' cls d (g1.trans g) z) _)
    | ok xs => exact fun σ F H E Q q => le _ _ _ (el_cons ha hr σ F H E Q q)⟩
theorem xa_nil : XA C [] G .nil (.ok ()) := ⟨fun F0 H0 σ F H E Q q => tA_le pa_nil (ea_nil (F0 := F0) (H0 := H0) σ F H E Q q)⟩
theorem xa_cons {α β : Type} {r : Rp α} [im : Mo r] {P : Pt β} {f : R Er α} {g : R Er β} (ha : XE C e G m r f) (hr : XA C es G P g) (hs : starEach (e :: es) C.X.env = (false, eval e C.X.env) :: starEach es C.X.env := by exact star_cons rfl) : XA C (e :: es) G (.cons m r im P) (f.bind fun x => g.bind fun xs => .ok (x, xs)) := ⟨fun F0 H0 => by
  have ha := ha.h F0 H0; have hr := hr.h F0 H0
  have le : ∀ σ H Q, tCons (tE C.X e) (tA C.X es) σ H Q → tA C.X (e :: es) σ H Q := fun _ _ _ q => tA_le (pa_cons pE pA hs) q
  cases f with
  | no => trivial
  | er y => exact fun σ F H E w Q => le _ _ _ (ha σ F H E w _)
  | ok x =>
    cases g with
    | no => trivial
    | er y => exact fun σ F H E w Q => le _ _ _ (ha σ F H E _ fun v F1 H1 g1 _ => hr σ F1 H1 (E.gro g1) (fun F' H' cls d g z => w F' H' cls d (g1.trans g) z) _)
    | ok xs => exact fun σ F H E Q q => le _ _ _ (ea_cons ha hr σ F H E Q q)⟩
/-- a list display -/
def lenR {α : Type} (xs : List α) : R Er (List α) := R.iff (xs.length ≤ 16777216) (.ok xs)
theorem xn_lst {α : Type} {r : Rp α} [Mo r] {f : R Er (List α)} (h : XL C es G r f) : XN C (.List es pos) G (fun xs => sL r xs) (f.bind lenR) := ⟨fun F0 H0 => by
  have h := h.h F0 H0
  refine Ds.le (t := tLst (tA C.X es)) ?_ fun _ _ _ q => tE_le (pe_lst pA) q
  cases f with
  | no => trivial
  | er y => exact fun σ F H E w Q => h σ F H E w _
  | ok xs => exact ds_iff fun c => dv_en (en_lst h c)⟩
theorem xtup {α : Type} {r : Rp α} [Mo r] {f : R Er (List α)} (h : XL C es G r f) : XE C (.Tuple es tn pos) G .sh (rTup r) (f.bind lenR) := ⟨fun F0 H0 => by
  have h := h.h F0 H0
  refine Dr.le (t := tTup (tA C.X es)) ?_ fun _ _ _ q => tE_le (pe_tup pA) q
  cases f with
  | no => trivial
  | er y => exact fun σ F H E w Q => h σ F H E w _
  | ok xs => exact dr_iff fun c => ed_tup h c⟩
theorem xpr {α β : Type} {r : Rp α} {s : Rp β} [Mo r] [Mo s] {f : R Er α} {g : R Er β} (ha : XE C a G .sh r f) (hb : XE C b G .sh s g) (h1 : starEach [a, b] C.X.env = (false, eval a C.X.env) :: starEach [b] C.X.env := by exact star_cons rfl) (h2 : starEach [b] C.X.env = (false, eval b C.X.env) :: starEach [] C.X.env := by exact star_cons rfl) :
    XE C (.Tuple [a, b] tn pos) G .sh (rPr r s) (f.bind fun x => g.bind fun y => .ok (x, y)) := ⟨fun F0 H0 => by
  have ha := ha.h F0 H0; have hb := hb.h F0 H0
  refine Dr.le (t := tTup (tCons (tE C.X a) (tCons (tE C.X b) tNil))) ?_ fun _ _ _ q => tE_le (pe_tup (pa_cons pE (pa_cons pE pa_nil h2) h1)) q
  cases f with
  | no => trivial
  | er y => exact fun σ F H E w Q => ha σ F H E w _
  | ok x =>
    cases g with
    | no => trivial
    | er y => exact fun σ F H E w Q => ha σ F H E _ fun v F1 H1 g1 _ => hb σ F1 H1 (E.gro g1) (fun F' H' cls d g z => w F' H' cls d (g1.trans g) z) _
    | ok y => exact ed_pr ha hb⟩
theorem xp3 {α β γ : Type} {r : Rp α} {s : Rp β} {t : Rp γ} [Mo r] [Mo s] [Mo t] {f : R Er α} {g : R Er β} {h : R Er γ} (ha : XE C a G .sh r f) (hb : XE C b G .sh s g) (hc : XE C c G .sh t h) (h1 : starEach [a, b, c] C.X.env = (false, eval a C.X.env) :: starEach [b, c] C.X.env := by exact star_cons rfl) (h2 : starEach [b, c] C.X.env = (false, eval b C.X.env) :: starEach [c] C.X.env := by exact star_cons rfl) (h3 : starEach [c] C.X.env = (false, eval c C.X.env) :: starEach [] C.X.env := by exact star_cons rfl) :
    XE C (.Tuple [a, b, c] tn pos) G .sh (rP3 r s t) (f.bind fun x => g.bind fun y => h.bind fun z => .ok (x, y, z)) := ⟨fun F0 H0 => by
  have ha := ha.h F0 H0; have hb := hb.h F0 H0; have hc := hc.h F0 H0
  refine Dr.le (t := tTup (tCons (tE C.X a) (tCons (tE C.X b) (tCons (tE C.X c) tNil)))) ?_ fun _ _ _ q => tE_le (pe_tup (pa_cons pE (pa_cons pE (pa_cons pE pa_nil h3) h2) h1)) q
  cases f with
  | no => trivial
  | er y => exact fun σ F H E w Q => ha σ F H E w _
  | ok x =>
    cases g with
    | no => trivial
    | er y => exact fun σ F H E w Q => ha σ F H E _ fun v F1 H1 g1 _ => hb σ F1 H1 (E.gro g1) (fun F' H' cls d g z => w F' H' cls d (g1.trans g) z) _
    | ok y =>
      cases h with
      | no => trivial
      | er y => exact fun σ F H E w Q => ha σ F H E _ fun v F1 H1 g1 _ => hb σ F1 H1 (E.gro g1) _ fun v F2 H2 g2 _ => hc σ F2 H2 ((E.gro g1).gro g2) (fun F' H' cls d g z => w F' H' cls d ((g1.trans g2).trans g) z) _
      | ok z => exact ed_p3 ha hb hc⟩
/-- a datum as one of any kind, and back -/
theorem xdt {α : Type} {r : Rp α} [t : Tod r] {f : R Er α} (h : XE C e G m r f) : XE C e G m rDt (f.bind fun x => .ok (t.d x)) := ⟨fun F0 H0 => by
  have h := h.h F0 H0
  cases f with
  | no => trivial
  | er y => exact h
  | ok x => exact ed_dt h⟩
theorem xsome {α : Type} {r : Rp α} {f : R Er α} (h : XE C e G m r f) : XE C e G m (rOpt r) (f.bind fun x => .ok (some x)) := ⟨fun F0 H0 => by
  have h := h.h F0 H0
  cases f with
  | no => trivial
  | er y => exact h
  | ok x => exact ed_some h⟩
/-- what is known to be there -/
theorem xget {α : Type} {r : Rp α} {f : R Er (Option α)} (h : XE C e G m (rOpt r) f) : XE C e G m r (f.bind fun x => match x with | some y => .ok y | none => .no) := ⟨fun F0 H0 => by
  have h := h.h F0 H0
  cases f with
  | no => trivial
  | er y => exact h
  | ok x =>
    cases x with
    | none => trivial
    | some y => exact h⟩
def dIR : Dt → R Er Int
  | .int i => .ok i
  | _ => .no
def dTR : Dt → R Er (List Nat)
  | .tx i => .ok i
  | _ => .no
theorem xdI {f : R Er Dt} (h : XE C e G m rDt f) : XE C e G m rInt (f.bind dIR) := ⟨fun F0 H0 => by
  have h := h.h F0 H0
  cases f with
  | no => trivial
  | er y => exact h
  | ok x =>
    cases x with
    | int i => exact Ed.dI h
    | _ => trivial⟩
theorem xdT {f : R Er Dt} (h : XE C e G m rDt f) : XE C e G m rTx (f.bind dTR) := ⟨fun F0 H0 => by
  have h := h.h F0 H0
  cases f with
  | no => trivial
  | er y => exact h
  | ok x =>
    cases x with
    | tx i => exact Ed.dT h
    | _ => trivial⟩

/-! ### calls of defs -/
theorem envRebase {F H F1 H1 F2 H2 : Hp} {s : Slot} {x : Option V} (g : Gr F H F1 H1) (E : EnvOk F1 H1 [s] [x] F2 H2) (hn : Slot.nb s) : EnvOk F H [s] [x] F2 H2 := by
  obtain ⟨fp, E⟩ := E
  refine ⟨fp, g.trans E.gr, E.len, fun i t h => ?_, E.dj⟩
  obtain ⟨y, hy, ok⟩ := E.at_ i t h
  refine ⟨y, hy, ?_⟩
  cases i with
  | succ i => simp at h
  | zero =>
    have h : s = t := Option.some.inj h
    subst h
    cases s with
    | no => trivial
    | fz r im a => exact ok
    | bw r im a => exact hn.elim
    | ow M im =>
      obtain ⟨q, e, h1, h2⟩ := ok
      exact ⟨q, e, fun a ha => ⟨(h1 a ha).1, g.hh.back (h1 a ha).2⟩, h2⟩
theorem xcall {α β : Type} {P : Pt α} {fn : α → R Er β} {rs : β → Slot} {g : R Er α} {k n : Nat} {f : Addr} {fd : FuncData} {ps : List Str} (Cl : Cal C.X.K C.X.mg x f fd ps) (Fo : FnOk C.X.prog C.X.w C.X.K C.X.mg C.X.base (L2.CX C.X.prog C.X.w) k f fd ps (spR C.T P fn rs)) (hr : Room n C.X.A) (ha : XA C (e :: es) G P g)
    (hn : ∀ b, Slot.nb (rs b) := by intro; trivial) (hk : k ≤ n := by decide) (hg : Gl C.X x := by rfl) (hdb : (x == ("__debug__" : Str)) = false := by decide)
    (he : starEach (e :: es) C.X.env = (false, eval e C.X.env) :: starEach es C.X.env := by exact star_cons rfl) (hpl : (backTo pos (starEach es C.X.env)).any (·.1) = false := by rfl) : XN C (.Call (.Name x p) (e :: es) [] pos) G rs (g.bind fn) := ⟨fun F0 H0 => by
  have ha := ha.h F0 H0
  refine Ds.le (t := tCallS (spR C.T P fn rs) (WE C.W) (tA C.X (e :: es))) ?_ fun _ _ _ q => tE_le (pe_callS Fo (hr.mono hk) hg Cl.mg Cl.kp Cl.bi (fun σ => passAt C.tk σ) pA hdb he hpl) q
  cases g with
  | no => trivial
  | er y => exact fun σ F H E w Q => ha σ F H E w _
  | ok a =>
    show Ds C F0 H0 _ G rs (fn a)
    cases hf : fn a with
    | no => trivial
    | er y => exact fun σ F H E w Q => ha σ F H E _ fun vs F1 H1 g1 h1 => ⟨F1, a, g1.fh, Pt.now P (E.gr.trans g1) h1, by rw [hf]; exact fun z => (nomatch z), fun c hc => (by rw [hf] at hc; cases hc), fun er' he cls d F2 H2 g2 r => by
        rw [hf] at he; cases he
        exact w F2 H2 cls d (g1.trans g2) r⟩
    | ok b => exact fun σ F H E Q q => ha σ F H E _ fun vs F1 H1 g1 h1 => ⟨F1, a, g1.fh, Pt.now P (E.gr.trans g1) h1, by rw [hf]; exact fun z => (nomatch z), fun c hc v F2 H2 E2 => by
        rw [hf] at hc; cases hc
        exact q v F2 H2 (g1.trans E2.gr) (envRebase g1 E2 (hn b)), fun er' he => (by rw [hf] at he; cases he)⟩⟩
end

/-! ### comprehensions -/
/-- the context of a comprehension's block -/
abbrev cnB (C : Cn) (s : Shared) (H : Hp) (scope : Scope) (Cc : Addr) (cl : List (Str × Addr)) (fp : List Addr) : Cn where
  X := C.X.blk s H scope (compEnvC scope cl Cc C.X.env) fp
  T := C.T
  W := fun _ _ _ _ => False
  tk := takes0
  nd := C.nd
section
variable {C : Cn} {G : List Slot} {m m1 m2 : Md} {a b c elt tg it e : Expr} {ifs : List Expr} {scope : Scope} {pos p apos : Pos} {x : Str}
/-- the canonical readings of a block's parts -/
def bE (X : Cx) (scope : Scope) (e : Expr) : TE := fun σ H Q => ∀ (s : Shared) (H0 : Hp) (Cc : Addr) (cl : List (Str × Addr)) (fp : List Addr), tE (X.blk s H0 scope (compEnvC scope cl Cc X.env) fp) e σ H Q
def bT (X : Cx) (scope : Scope) (e : Expr) : TT := fun σ H Q => ∀ (s : Shared) (H0 : Hp) (Cc : Addr) (cl : List (Str × Addr)) (fp : List Addr), tT (X.blk s H0 scope (compEnvC scope cl Cc X.env) fp) e σ H Q
def bG (X : Cx) (scope : Scope) (tg : Expr) : TG := fun v σ H Q => ∀ (s : Shared) (H0 : Hp) (Cc : Addr) (cl : List (Str × Addr)) (fp : List Addr), tG (X.blk s H0 scope (compEnvC scope cl Cc X.env) fp) tg v σ H Q
def bI (X : Cx) (scope : Scope) (tg e : Expr) : TI := fun σ H Q => ∀ (s : Shared) (H0 : Hp) (Cc : Addr) (cl : List (Str × Addr)) (fp : List Addr), tI (X.blk s H0 scope (compEnvC scope cl Cc X.env) fp) tg e σ H Q
theorem dr_noer {α : Type} {r : Rp α} {F0 H0 : Hp} {G : List Slot} {f : R Er α} {a : α} {X : Cx} {T : XT} {tk nd} (h : Dr ⟨X, T, fun _ _ _ _ => False, tk, nd⟩ F0 H0 (tE X e) G m r f) (hf : (f.noer : R Er α) = .ok a) : Ed F0 H0 (tE X e) G m r a := by
  cases f with
  | ok b => cases hf; exact h
  | er y => cases hf
  | no => cases hf
theorem tr_noer {F0 H0 : Hp} {G : List Slot} {f : R Er Bool} {a : Bool} {X : Cx} {T : XT} {tk nd} (h : Tr ⟨X, T, fun _ _ _ _ => False, tk, nd⟩ F0 H0 (tT X e) G f) (hf : (f.noer : R Er Bool) = .ok a) : Et F0 H0 (tT X e) G a := by
  cases f with
  | ok b => cases hf; exact h
  | er y => cases hf
  | no => cases hf
theorem map_ok {α β ε δ : Type} [Inhabited β] {p : α → R ε Bool} {f : α → R ε β} : ∀ {xs : List α} {ys : List β}, (R.mapR p f xs : R δ (List β)) = .ok ys → ∃ (p' : α → Bool) (f' : α → β), (∀ x ∈ xs, (p x).noer = (.ok (p' x) : R δ Bool) ∧ (p' x = true → (f x).noer = (.ok (f' x) : R δ β))) ∧ ys = (xs.filter p').map f' := by
  intro xs
  have key : ∀ {xs : List α} {ys : List β}, (R.mapR p f xs : R δ (List β)) = .ok ys → (∀ x ∈ xs, (p x).noer = (.ok (match p x with | .ok b => b | _ => false) : R δ Bool) ∧ ((match p x with | .ok b => b | _ => false) = true → (f x).noer = (.ok (match f x with | .ok y => y | _ => default) : R δ β))) ∧ ys = (xs.filter fun x => match p x with | .ok b => b | _ => false).map fun x => match f x with | .ok y => y | _ => default := by
    intro xs
    induction xs with
    | nil => intro ys h; cases h; exact ⟨fun _ z => (nomatch z), rfl⟩
    | cons x xs ih =>
      intro ys h
      unfold R.mapR at h
      cases hp : p x with
      | er y => rw [hp] at h; cases h
      | no => rw [hp] at h; cases h
      | ok b =>
        rw [hp] at h
        cases b with
        | false =>
          have h : (R.mapR p f xs : R δ (List β)) = .ok ys := h
          obtain ⟨h1, h2⟩ := ih h
          refine ⟨fun y hy => ?_, by rw [h2]; simp [hp]⟩
          rcases List.mem_cons.mp hy with e | hy
          · subst e; rw [hp]; exact ⟨rfl, fun z => nomatch z⟩
          · exact h1 y hy
        | true =>
          cases hf : f x with
          | er y => simp only [R.noer, hf, R.ok_bind, cond_true, R.no_bind] at h; cases h
          | no => simp only [R.noer, hf, R.ok_bind, cond_true, R.no_bind] at h; cases h
          | ok y =>
            simp only [R.noer, hf, R.ok_bind, cond_true] at h
            cases hm : (R.mapR p f xs : R δ (List β)) with
            | er z => rw [hm] at h; cases h
            | no => rw [hm] at h; cases h
            | ok zs =>
              rw [hm] at h
              cases h
              obtain ⟨h1, h2⟩ := ih hm
              refine ⟨fun z hz => ?_, by rw [h2]; simp [hp, hf]⟩
              rcases List.mem_cons.mp hz with e | hz
              · subst e; rw [hp, hf]; exact ⟨rfl, fun _ => rfl⟩
              · exact h1 z hz
  intro ys h
  exact ⟨_, _, key h⟩
/-- a comprehension as a value, and where it is stored -/
structure LcP (X : Cx) (e : Expr) (t : TE) : Prop where
  val : PE X e t
  set : ∀ {i : Nat} {y : Str} {py spos : Pos}, X.N[i]? = some y → X.env.scope.names.lookup y = some .local → swapsWith e (some (.Name y py)) spos.line X.env = pure true → PS X (.Assign [.Name y py] e spos) (tAsg t (gName i))
def XLc (C : Cn) (e : Expr) (G : List Slot) {α : Type} (sb : α → Slot) (f : R Er α) : Prop := ∃ t, LcP C.X e t ∧ ∀ F0 H0, Ds C F0 H0 t G sb f
theorem xnlc {α : Type} {sb : α → Slot} {f : R Er α} (h : XLc C e G sb f) : XN C e G sb f := ⟨fun F0 H0 => by
  obtain ⟨t, p, h⟩ := h
  exact (h F0 H0).le fun _ _ _ q => tE_le p.val q⟩
def tTs (X : Cx) (ifs : List Expr) : TT := fun σ H Q => ∀ (pins : List (Addr × Obj)) (s : Shared), Inv X pins σ H s →
    wpAny (model X.prog X.w) X.A (forIn ifs true fun c r => if r = true then do let ok ← isTrue c X.env (eval c X.env); pure (ForInStep.yield ok) else pure (ForInStep.yield r)) (TP X pins σ Q) X.xe s
theorem pTs {X : Cx} : PTs X ifs (tTs X ifs) := ⟨fun pins s σ H Q I h => h pins s I⟩
theorem tTs_le {X : Cx} {u : TT} (h : PTs X ifs u) {σ : L2.St} {H : Hp} {Q : Bool → Hp → Prop} (q : u σ H Q) : tTs X ifs σ H Q := fun pins s I => h.run pins s σ H Q I q
structure XQs (C : Cn) (ifs : List Expr) (G : List Slot) (f : R Er Bool) : Prop where
  h : ∀ F0 H0, Tr C F0 H0 (tTs C.X ifs) G f
theorem xqs0 : XQs C [] G (.ok true) := ⟨fun F0 H0 σ F H E Q q => tTs_le pts_nil (q F H (Gr.refl E.gr.fh))⟩
theorem xqs1 {f : R Er Bool} (h : XQ C c G f) : XQs C [c] G f := ⟨fun F0 H0 => (h.h F0 H0).le fun _ _ _ q => tTs_le (pts_one pT) q⟩
def bTs (X : Cx) (scope : Scope) (ifs : List Expr) : TT := fun σ H Q => ∀ (s : Shared) (H0 : Hp) (Cc : Addr) (cl : List (Str × Addr)) (fp : List Addr), tTs (X.blk s H0 scope (compEnvC scope cl Cc X.env) fp) ifs σ H Q
theorem tr_noers {F0 H0 : Hp} {G : List Slot} {f : R Er Bool} {a : Bool} {t : TT} {C : Cn} (hW : C.W = fun _ _ _ _ => False) (h : Tr C F0 H0 t G f) (hf : (f.noer : R Er Bool) = .ok a) : Et F0 H0 t G a := by
  cases f with
  | ok b => cases hf; exact h
  | er y => cases hf
  | no => cases hf
theorem mapR_ner {α β ε δ : Type} {p : α → R ε Bool} {f : α → R ε β} {y : δ} : ∀ xs : List α, (R.mapR p f xs : R δ (List β)) ≠ .er y := by
  intro xs
  induction xs with
  | nil => intro h; cases h
  | cons x xs ih =>
    intro h
    unfold R.mapR at h
    cases hp : p x with
    | er y => rw [hp] at h; cases h
    | no => rw [hp] at h; cases h
    | ok b =>
      rw [hp] at h
      cases b with
      | false => exact ih h
      | true =>
        cases hf : f x with
        | er y => simp only [R.noer, hf, R.ok_bind, cond_true, R.no_bind] at h; cases h
        | no => simp only [R.noer, hf, R.ok_bind, cond_true, R.no_bind] at h; cases h
        | ok y =>
          simp only [R.noer, hf, R.ok_bind, cond_true] at h
          cases hm : (R.mapR p f xs : R δ (List β)) with
          | er z => rw [hm] at h; cases h; exact ih hm
          | no => rw [hm] at h; cases h
          | ok zs => rw [hm] at h; cases h
/-- [elt for tg in it if ..] -/
theorem xlc {α β : Type} [Inhabited β] {r : Rp α} {r' : Rp β} [Mo r'] {fx : R Er (List α)} {up : α → List Slot → List Slot} {tl : List Nat} {pf : α → R Er Bool} {ff : α → R Er β} (own : List (Str × Nat)) (G' : α → List Slot)
    (hi : XI C tg it G m r fx) (hg : ∀ s H Cc cl fp, XG (cnB C s H scope Cc cl fp) tg m r up tl) (hG : ∀ x, up x (wipeG G (own.map (·.2))) = G' x)
    (ht : ∀ s H Cc cl fp x, XQs (cnB C s H scope Cc cl fp) ifs (G' x) (pf x)) (he : ∀ s H Cc cl fp x, XE (cnB C s H scope Cc cl fp) elt (G' x) .sh r' (ff x)) (hc : C.X.calm = true := by rfl) (hv : tl.all (fun j => decide (j ∈ own.map (·.2))) = true := by decide) (ok : blkC C.X.N C.X.env.scope scope own = true := by decide +kernel) (hs : ∀ x, foldedSetIterable it C.X.env x = pure x := by intro _; rfl) :
    XLc C (.ListComp elt [⟨tg, it, ifs, 0⟩] scope pos) G (fun xs => sL r' xs) (fx.bind fun xs => R.mapR pf ff xs) := by
  have a1 : ∀ (s : Shared) (H : Hp) (Cc : Addr) (cl : List (Str × Addr)) (fp : List Addr), PG (C.X.blk s H scope (compEnvC scope cl Cc C.X.env) fp) tg (bG C.X scope tg) := fun s H Cc cl fp => ⟨fun pins s' σ H' v u Q I r h => h s H Cc cl fp pins s' u I r⟩
  have a2 : ∀ (s : Shared) (H : Hp) (Cc : Addr) (cl : List (Str × Addr)) (fp : List Addr), PTs (C.X.blk s H scope (compEnvC scope cl Cc C.X.env) fp) ifs (bTs C.X scope ifs) := fun s H Cc cl fp => ⟨fun pins s' σ H' Q I h => h s H Cc cl fp pins s' I⟩
  have a3 : ∀ (s : Shared) (H : Hp) (Cc : Addr) (cl : List (Str × Addr)) (fp : List Addr), PE (C.X.blk s H scope (compEnvC scope cl Cc C.X.env) fp) elt (bE C.X scope elt) := fun s H Cc cl fp => ⟨fun pins s' σ H' Q I h => h s H Cc cl fp pins s' I⟩
  refine ⟨tLc (tI C.X tg it) (bG C.X scope tg) (bTs C.X scope ifs) (bE C.X scope elt) (own.map (·.2)), ⟨pe_lc hc C.nd pI (blkOk_by ok) a1 a2 a3 hs, fun hy hyl hsw => ps_setLc hc C.nd hy hyl hsw pI (blkOk_by ok) a1 a2 a3 hs⟩, fun F0 H0 => ?_⟩
  have hi := hi.h F0 H0
  cases fx with
  | no => trivial
  | er y => exact fun σ F H E w Q => hi σ F H E w _
  | ok xs =>
    show Ds C F0 H0 _ G _ (R.mapR pf ff xs)
    cases hm : (R.mapR pf ff xs : R Er (List β)) with
    | no => trivial
    | er y => exact absurd hm (mapR_ner xs)
    | ok ys =>
      obtain ⟨p', f', h1, rfl⟩ := map_ok hm
      refine dv_en (en_lc p' f' hi (m := m) (r := r) (up := up) (tg := tl) (fun F0 G σ F H v x E hv Q q s H1 Cc cl fp => ((hg s H1 Cc cl fp).h H0).eg F0 G σ F H v x E hv Q q) (fun j hj => of_decide_eq_true (List.all_eq_true.mp hv j hj)) (fun F1 b x hx => ?_) (fun F1 b x hx hp => ?_))
      · rw [hG]
        exact fun σ F H E Q q s H1 Cc cl fp => tr_noers rfl ((ht s H1 Cc cl fp x).h F1 H0) (h1 x hx).1 σ F H E Q q
      · rw [hG]
        exact fun σ F H E Q q s H1 Cc cl fp => dr_noer ((he s H1 Cc cl fp x).h F1 H0) ((h1 x hx).2 hp) σ F H E Q q
end
section
variable {C : Cn} {β ρ ε Z S' : Type} {J : Jn β ρ ε Z} {G : List Slot} {slk : S' → List Slot} {rest : List Stmt} {elt : Expr} {gs : List Comprehension} {scope : Scope} {lpos pos : Pos}
theorem xb_setLc {α : Type} {sb : α → Slot} {f : R Er α} {M : α → (S' → R ε ρ) → R ε ρ} {x : Str} {pos' : Pos} (i : Nat) (G' : α → List Slot) (z : Z) (hz : Lw G (J.slz z)) (he : XLc C (.ListComp elt gs scope lpos) G sb f) (hG : ∀ a, G.set i (sb a) = G' a) (hr : ∀ a, XB C J rest (G' a) slk (M a)) (hn : ∀ a, Slot.nb (sb a) := by intro; trivial)
    (hi : C.X.N[i]? = some x := by rfl) (hx : C.X.env.scope.names.lookup x = some .local := by rfl) (hk : C.X.env.scope.kind = .function := by rfl) (hl : (pos'.line == lpos.line) = true := by rfl) (ha : (scope.names.any fun (n, k) => n == x && (k == .local || k == .cell)) = false := by decide +kernel) :
    XB C J (.Assign [.Name x pos'] (.ListComp elt gs scope lpos) pos :: rest) G slk (fun k => f.thn (fun y => J.em y z) fun a => M a k) := ⟨fun F0 H0 A D an k hk' hA σ F H E => by
  obtain ⟨t, p, he⟩ := he
  have he := he F0 H0
  refine tS_le (pss_cons (p.set hi hx (sw_true hk hx hl ha)) pS) ?_
  cases f with
  | ok a => exact he σ F H E _ fun v F' H' g E' => (hr a).h F0 H0 A D an k hk' hA _ F' H' (hG a ▸ (envJoin E g E' (hn a)).move)
  | er y => exact he σ F H E (an.air hz hA E) _
  | no => exact (an.no hA).elim⟩
end
end LJ

set_option Elab.async false
set_option linter.all false
set_option maxRecDepth 100000
set_option maxHeartbeats 4000000
set_option autoImplicit false
/-! LJ5: raise, try. -/
namespace LJ
open PySem L2 LK LKX PyProof.Rows PySem.Spec
/-- what is known of an own error's class of one field -/
structure XK1 (P : Program) (w : World) (K : PySem.W.Frag) (mg : Str → Option Value) (xt : XT) (x : Str) (k : Nat) (f : Str) : Prop extends Xk P w K mg xt x k f where
  xf : XfC K (xt.cls k)
  hno : PySem.W.findIn K (.ref (xt.cls k)) f = some none
  ex : ExcC K (xt.cls k)
section
variable {C : Cn} {β ρ ε Z S' S1 Zx : Type} {J : Jn β ρ ε Z} {G : List Slot} {slk : S' → List Slot} {rest body suite : List Stmt} {e : Expr} {pos p pos2 : Pos} {m : Md}
theorem xb_raise1 {α : Type} {r : Rp α} [Mo r] [t : Tod r] {f : R Er α} {x fl : Str} {k j : Nat} (z : Z) (hz : Lw G (J.slz z)) (X1 : Xk C.X.prog C.X.w C.X.K C.X.mg C.T x k fl) (hr : Room (j + 1) C.X.A) (he : XE C e G .sh r f) (hc : C.X.calm = true := by rfl) (hg : Gl C.X x := by rfl)
    (hdb : (x == ("__debug__" : Str)) = false := by decide) (hs : starEach [e] C.X.env = (false, eval e C.X.env) :: starEach [] C.X.env := by exact star_cons rfl) :
    XB C J (.Raise (some (.Call (.Name x p) [e] [] pos)) none pos2 :: rest) G slk (fun _ => f.thn (fun y => J.em y z) fun a => .er (J.em (k, [t.d a]) z)) := ⟨fun F0 H0 A D an k' hk hA σ F H E => by
  have he := he.h F0 H0
  refine tS_le (pss_cons (ps_raise1 X1 hr C.tk (pa_cons pE pa_nil hs) hc hg hdb hs) pS) ?_
  cases f with
  | ok a => exact gk_raise1 (T := C.T) (r := r) (k := k) (W := C.W) (D := D) he rfl X1.flds (fun σ F H E' cls d r => an.er _ z hA σ F H cls d (E'.weak hz) r) σ F H E
  | er y => exact he σ F H E (an.air hz hA E) _
  | no => exact (an.no hA).elim⟩

/-! ### try -/
def tryR {ε' : Type} (x : R ε' ((β × Zx) ⊕ S1)) (fr : β → Zx → R ε ρ) (fn : S1 → R ε ρ) (fe : ε' → R ε ρ) : R ε ρ := match x with
  | .ok (.inl b) => fr b.1 b.2
  | .ok (.inr s) => fn s
  | .er e => fe e
  | .no => .no
abbrev jnT (J : Jn β ρ ε Z) (slx : Zx → List Slot) (S1 : Type) : Jn β ((β × Zx) ⊕ S1) (Er × Zx) Zx := ⟨J.rs, fun b z => .inl (b, z), slx, fun e z => (e, z)⟩
abbrev cnT (C : Cn) (pn : List (Addr × Obj)) (xe : Value → Shared → Prop) (W : WX) (tk : Takes (C.X.tr pn xe) W) : Cn := ⟨C.X.tr pn xe, C.T, W, tk, C.nd⟩
abbrev cnS (C : Cn) (a : Addr) (oe : Obj) (pn : List (Addr × Obj)) : Cn := ⟨C.X.suite a ((a, oe) :: pn), C.T, fun _ _ _ _ => False, takes0, C.nd⟩
/-- the except clauses -/
def XH (C : Cn) (J : Jn β ρ ε Z) (slx : Zx → List Slot) (slj : S1 → List Slot) (hds : List ExceptHandler) (Hm : Er × Zx → (S1 → R ε ρ) → R ε ρ) : Prop :=
  ∃ l, ClsOk C.X hds l ∧ ∀ (F0 H0 : Hp) (A : R ε ρ → Prop) (D : Ends), Ans C J F0 H0 A D.rt → ∀ k : S1 → R ε ρ, (∀ s, A (k s) → Gk F0 H0 D.nx (slj s)) → ∀ e z, A (Hm (e, z) k) → Air F0 H0 (slx z) C.T (wCl C.X.K C.W D l) e
theorem xh_nil {slx : Zx → List Slot} {slj : S1 → List Slot} (zz : Zx → Z) (hzz : ∀ z, Lw (slx z) (J.slz (zz z))) : XH C J slx slj [] (fun e _ => .er (J.em e.1 (zz e.2))) := ⟨[], .nil, fun F0 H0 A D an k hk e z hA => air_nil fun σ F H E cls d r => an.er e (zz z) hA σ F H cls d (E.weak (hzz z)) r⟩
/-- what is meant by a clause's answer -/
def clsR (mt : Nat → Option Bool) (k : Nat) (y n : R ε ρ) : R ε ρ := match mt k with
  | some true => y
  | some false => n
  | none => .no
theorem xh_as {slx : Zx → List Slot} {slj : S1 → List Slot} {x n : Str} {c : Value} {b₀ : Stmt} {suite : List Stmt} {np pos' : Pos} {hds : List ExceptHandler} {Hm : Er × Zx → (S1 → R ε ρ) → R ε ρ} {M : Er → Zx → (S1 → R (Er × Zx) ((β × Zx) ⊕ S1)) → R (Er × Zx) ((β × Zx) ⊕ S1)}
    (i : Nat) (mt : Nat → Option Bool) (zz : Zx → Z) (hzz : ∀ z, Lw (slx z) (J.slz (zz z))) (hc : Names C.X x c) (hm : ∀ k b, mt k = some b → PySem.W.exmOne C.X.K (.ref (C.T.cls k)) c = some b) (hgone : ∀ s, (slj s).set i .no = slj s)
    (hsu : ∀ (a : Addr) (oe : Obj) (cls : Value) (d : Option Addr) (pn : List (Addr × Obj)), Zc cls d oe → (∃ vs, oe.data = .fields vs) → ∀ (e : Er) (z : Zx), mt e.1 = some true → XB (cnS C a oe pn) (jnT J slx S1) (b₀ :: suite) ((slx z).set i (sF (rXc C.T a cls d) e)) slj (M e z))
    (hr : XH C J slx slj hds Hm) (hi : C.X.N[i]? = some n := by rfl) (hln : C.X.env.kindOf n = some .local := by rfl) :
    XH C J slx slj (.ExceptHandler (some (.Name x np)) (some n) (b₀ :: suite) pos' :: hds) (fun ez k => clsR mt ez.1.1 (tryR (M ez.1 ez.2 fun s => .ok (.inr s)) (fun b z => .ok (J.ret b (zz z))) k (fun _ => .no)) (Hm ez k)) := by
  obtain ⟨l, hl, hr⟩ := hr
  refine ⟨(c, some i, fun a cls d D σ H => ∀ oe pn, Zc cls d oe → (∃ vs, oe.data = .fields vs) → tS (C.X.suite a ((a, oe) :: pn)) (b₀ :: suite) D σ H) :: l, .as hc hi hln (fun a oe cls d pn hz hv => ⟨fun pins s σ H D I h => h oe pn hz hv pins s I⟩) hl, fun F0 H0 A D an k hk e z hA => ?_⟩
  unfold clsR at hA
  cases hmt : mt e.1 with
  | none => simp only [hmt] at hA; exact (an.no hA).elim
  | some b =>
    simp only [hmt] at hA
    refine air_as (hm _ _ hmt) (fun hb a cls d σ F H E oe pn hz hv => ?_) (fun hb => ?_)
    · subst hb
      have hA : A (tryR (M e z fun s => .ok (.inr s)) (fun b z => .ok (J.ret b (zz z))) k (fun _ => .no)) := hA
      refine (hsu a oe cls d pn hz hv e z hmt).h F0 H0 (fun r => A (tryR r (fun b z => .ok (J.ret b (zz z))) k (fun _ => .no))) (goneD i D) ⟨fun h => an.no h, fun b z h σ F H v E => an.ret b (zz z) h σ F H v (E.weak ⟨.inr rfl, hzz z⟩), fun e z h => (an.no h).elim⟩ (fun s => .ok (.inr s)) (fun s h => ?_) hA σ F H E
      exact gk_gone (by rw [hgone s]; exact hk s h)
    · subst hb
      exact hr F0 H0 A D an k hk e z hA
theorem xh_bare {slx : Zx → List Slot} {slj : S1 → List Slot} {x : Str} {c : Value} {b₀ : Stmt} {suite : List Stmt} {np pos' : Pos} {hds : List ExceptHandler} {Hm : Er × Zx → (S1 → R ε ρ) → R ε ρ} {M : Er → Zx → (S1 → R (Er × Zx) ((β × Zx) ⊕ S1)) → R (Er × Zx) ((β × Zx) ⊕ S1)}
    (mt : Nat → Option Bool) (zz : Zx → Z) (hzz : ∀ z, Lw (slx z) (J.slz (zz z))) (hc : Names C.X x c) (hm : ∀ k b, mt k = some b → PySem.W.exmOne C.X.K (.ref (C.T.cls k)) c = some b)
    (hsu : ∀ (a : Addr) (oe : Obj) (cls : Value) (d : Option Addr) (pn : List (Addr × Obj)), Zc cls d oe → (∃ vs, oe.data = .fields vs) → ∀ (e : Er) (z : Zx), mt e.1 = some true → XB (cnS C a oe pn) (jnT J slx S1) (b₀ :: suite) (slx z) slj (M e z))
    (hr : XH C J slx slj hds Hm) :
    XH C J slx slj (.ExceptHandler (some (.Name x np)) none (b₀ :: suite) pos' :: hds) (fun ez k => clsR mt ez.1.1 (tryR (M ez.1 ez.2 fun s => .ok (.inr s)) (fun b z => .ok (J.ret b (zz z))) k (fun _ => .no)) (Hm ez k)) := by
  obtain ⟨l, hl, hr⟩ := hr
  refine ⟨(c, none, fun a cls d D σ H => ∀ oe pn, Zc cls d oe → (∃ vs, oe.data = .fields vs) → tS (C.X.suite a ((a, oe) :: pn)) (b₀ :: suite) D σ H) :: l, .bare hc (fun a oe cls d pn hz hv => ⟨fun pins s σ H D I h => h oe pn hz hv pins s I⟩) hl, fun F0 H0 A D an k hk e z hA => ?_⟩
  unfold clsR at hA
  cases hmt : mt e.1 with
  | none => simp only [hmt] at hA; exact (an.no hA).elim
  | some b =>
    simp only [hmt] at hA
    refine air_bare (hm _ _ hmt) (fun hb a cls d σ F H E oe pn hz hv => ?_) (fun hb => ?_)
    · subst hb
      have hA : A (tryR (M e z fun s => .ok (.inr s)) (fun b z => .ok (J.ret b (zz z))) k (fun _ => .no)) := hA
      exact (hsu a oe cls d pn hz hv e z hmt).h F0 H0 (fun r => A (tryR r (fun b z => .ok (J.ret b (zz z))) k (fun _ => .no))) D ⟨fun h => an.no h, fun b z h σ F H v E => an.ret b (zz z) h σ F H v (E.weak ⟨.inr rfl, hzz z⟩), fun e z h => (an.no h).elim⟩ (fun s => .ok (.inr s)) (fun s h => hk s h) hA σ F H E
    · subst hb
      exact hr F0 H0 A D an k hk e z hA
theorem xb_try {slx : Zx → List Slot} {slj : S1 → List Slot} {h₀ : ExceptHandler} {hds : List ExceptHandler} {Hm : Er × Zx → (S1 → R ε ρ) → R ε ρ} {Mb : (S1 → R (Er × Zx) ((β × Zx) ⊕ S1)) → R (Er × Zx) ((β × Zx) ⊕ S1)} {M : S1 → (S' → R ε ρ) → R ε ρ}
    (zz : Zx → Z) (hzz : ∀ z, Lw (slx z) (J.slz (zz z)))
    (hb : ∀ pn xe W (tk : Takes (C.X.tr pn xe) W), PassesOwn (model C.X.prog C.X.w) C.X.A C.X.env xe → XB (cnT C pn xe W tk) (jnT J slx S1) body G slj Mb) (hh : XH C J slx slj (h₀ :: hds) Hm) (hr : ∀ s, XB C J rest (slj s) slk (M s))
    (hs : C.X.stack = C.X.env :: C.X.outer := by rfl) (hf : C.X.env.frame = some C.X.env.locals := by rfl) :
    XB C J (.Try body (h₀ :: hds) [] [] pos :: rest) G slk (fun k => tryR (Mb fun s => .ok (.inr s)) (fun b z => .ok (J.ret b (zz z))) (fun s => M s k) (fun ez => Hm ez fun s => M s k)) := ⟨fun F0 H0 A D an k hk hA σ F H E => by
  obtain ⟨l, hl, hh⟩ := hh
  refine tS_le (pss_cons (ps_tryC (tb := fun W D σ H => ∀ pn xe (tk : Takes (C.X.tr pn xe) W), PassesOwn (model C.X.prog C.X.w) C.X.A C.X.env xe → tS (C.X.tr pn xe) body D σ H) hs hf C.nd C.tk (fun W pn xe tk po => ⟨fun pins s σ H D I h => h pn xe tk po pins s I⟩) hl) pS) ?_
  show ∀ pn xe (tk : Takes (C.X.tr pn xe) (wCl C.X.K C.W { D with nx := tS C.X rest D } l)), _ → _
  intro pn xe tk po
  have an' : Ans C J F0 H0 A (Ends.rt { D with nx := tS C.X rest D }) := an
  refine (hb pn xe _ tk po).h F0 H0 (fun r => A (tryR r (fun b z => .ok (J.ret b (zz z))) (fun s => M s k) (fun ez => Hm ez fun s => M s k))) { D with nx := tS C.X rest D } ⟨fun h => an.no h, fun b z h σ F H v E => an.ret b (zz z) h σ F H v (E.weak ⟨.inr rfl, hzz z⟩), fun e z h σ F H cls d E r => ?_⟩ (fun s => .ok (.inr s)) (fun s h => (hr s).h F0 H0 A D an k hk h) hA σ F H E
  exact hh F0 H0 A { D with nx := tS C.X rest D } an' _ (fun s h => (hr s).h F0 H0 A D an k hk h) e z h σ F H E cls d r⟩
end
/-! ### a caught error -/
section
variable {C : Cn} {G : List Slot} {pos p p2 pos2 : Pos} {a : Addr} {oe : Obj} {cls : Value} {d : Option Addr} {pn : List (Addr × Obj)} {x f y : Str}
def fldR (er : Er) (n : Nat) : R Er Dt := match er.2[n]? with
  | some x => .ok x
  | none => .no
theorem xxf {k : Nat} {fs : List Dt} {im : Mo (rXc C.T a cls d)} (i n : Nat) (hz : Zc cls d oe) (hv : ∃ vs, oe.data = .fields vs) (J : XfC C.X.K (C.T.cls k)) (hno : PySem.W.findIn C.X.K (.ref (C.T.cls k)) f = some none) (hfl : (C.T.flds k)[n]? = some f) (hi : G[i]? = some (.fz (rXc C.T a cls d) im (k, fs)) := by rfl)
    (hN : C.X.N[i]? = some x := by rfl) (hvi : Vis C.X.env.scope x := by first | exact Or.inl rfl | exact Or.inr (Or.inl rfl) | exact Or.inr (Or.inr rfl)) (hd : (x == ("__debug__" : Str)) = false := by decide) (hcd : (x == ("__classdict__" : Str)) = false := by decide)
    (hb : attributeBase (.Name x p) f C.X.env (eval (.Name x p) C.X.env) = eval (.Name x p) C.X.env := by rfl) : XE (cnS C a oe pn) (.Attribute (.Name x p) f pos) G .sh rDt (fldR (k, fs) n) := ⟨fun F0 H0 => by
  unfold fldR
  cases hx : ((k, fs) : Er).2[n]? with
  | none => trivial
  | some y => exact fun σ F H E Q q => tE_le (pe_xf (X := C.X) J hno hz hv (pe_var (X := C.X.suite a ((a, oe) :: pn)) hN hvi hd hcd) hb) (ed_xf (F0 := F0) (H0 := H0) (i := i) hi rfl hfl hx σ F H E Q q)⟩
def isxR (mt : Nat → Option Bool) (k : Nat) : R Er Bool := match mt k with
  | some b => .ok b
  | none => .no
/-- isinstance(e, an own class) -/
theorem xisx {er : Er} {im : Mo (rXc C.T a cls d)} {D : Addr} (i : Nat) (mt : Nat → Option Bool) (hz : Zc cls d oe) (hv : ∃ vs, oe.data = .fields vs) (hm : ∀ k b, mt k = some b → ExcC C.X.K (C.T.cls k) ∧ PySem.W.kitOne C.X.K (.ref (C.T.cls k)) (.ref D) = some b) (gD : C.X.mg y = some (.ref D)) (hb : C.X.mg "isinstance" = none) (hi : G[i]? = some (.fz (rXc C.T a cls d) im er) := by rfl)
    (hN : C.X.N[i]? = some x := by rfl) (hvi : Vis C.X.env.scope x := by first | exact Or.inl rfl | exact Or.inr (Or.inl rfl) | exact Or.inr (Or.inr rfl)) (hd : (x == ("__debug__" : Str)) = false := by decide) (hcd : (x == ("__classdict__" : Str)) = false := by decide)
    (hg : Gl C.X y := by rfl) (hdy : (y == ("__debug__" : Str)) = false := by decide) (hgi : Gl C.X "isinstance" := by rfl) (h1 : starEach [.Name x p, .Name y p2] C.X.env = (false, eval (.Name x p) C.X.env) :: starEach [.Name y p2] C.X.env := by exact star_cons rfl) (h2 : starEach [.Name y p2] C.X.env = (false, eval (.Name y p2) C.X.env) :: starEach [] C.X.env := by exact star_cons rfl) (hpl : (backTo pos (starEach [.Name y p2] C.X.env)).any (·.1) = false := by rfl) :
    XE (cnS C a oe pn) (.Call (.Name "isinstance" pos2) [.Name x p, .Name y p2] [] pos) G .sh rBl (isxR mt er.1) := ⟨fun F0 H0 => by
  unfold isxR
  cases hx : mt er.1 with
  | none => trivial
  | some b => exact fun σ F H E Q q => tE_le (pe_callB (X := C.X.suite a ((a, oe) :: pn)) (call_isX hz hv) hgi hb boot_isinstance (pa_cons (pe_var (X := C.X.suite a ((a, oe) :: pn)) hN hvi hd hcd) (pa_cons (pe_glob (v := .ref D) hg gD rfl hdy) pa_nil h2) h1) (by decide) (by decide) h1 hpl) (ed_isX (F0 := F0) (H0 := H0) (m := .sh) (c := .ref D) hi (hm _ _ hx).1 (fun u h => h) (hm _ _ hx).2 σ F H E Q q)⟩
/-- isinstance(e, a built-in class) -/
theorem xisy {er : Er} {im : Mo (rXc C.T a cls d)} {T : String} (i : Nat) (mt : Nat → Option Bool) (hz : Zc cls d oe) (hv : ∃ vs, oe.data = .fields vs) (hm : ∀ k b, mt k = some b → ExcC C.X.K (C.T.cls k) ∧ PySem.W.kitOne C.X.K (.ref (C.T.cls k)) (.type T) = some b) (gD : C.X.mg y = none) (hb : C.X.mg "isinstance" = none) (hbt : bootBuiltins y = some (.type T)) (hi : G[i]? = some (.fz (rXc C.T a cls d) im er) := by rfl)
    (hN : C.X.N[i]? = some x := by rfl) (hvi : Vis C.X.env.scope x := by first | exact Or.inl rfl | exact Or.inr (Or.inl rfl) | exact Or.inr (Or.inr rfl)) (hd : (x == ("__debug__" : Str)) = false := by decide) (hcd : (x == ("__classdict__" : Str)) = false := by decide)
    (hg : Gl C.X y := by rfl) (hdy : (y == ("__debug__" : Str)) = false := by decide) (hny : y ≠ "__name__" := by decide) (hgi : Gl C.X "isinstance" := by rfl) (h1 : starEach [.Name x p, .Name y p2] C.X.env = (false, eval (.Name x p) C.X.env) :: starEach [.Name y p2] C.X.env := by exact star_cons rfl) (h2 : starEach [.Name y p2] C.X.env = (false, eval (.Name y p2) C.X.env) :: starEach [] C.X.env := by exact star_cons rfl) (hpl : (backTo pos (starEach [.Name y p2] C.X.env)).any (·.1) = false := by rfl) :
    XE (cnS C a oe pn) (.Call (.Name "isinstance" pos2) [.Name x p, .Name y p2] [] pos) G .sh rBl (isxR mt er.1) := ⟨fun F0 H0 => by
  unfold isxR
  cases hx : mt er.1 with
  | none => trivial
  | some b => exact fun σ F H E Q q => tE_le (pe_callB (X := C.X.suite a ((a, oe) :: pn)) (call_isX hz hv) hgi hb boot_isinstance (pa_cons (pe_var (X := C.X.suite a ((a, oe) :: pn)) hN hvi hd hcd) (pa_cons (pe_bltn (v := .ty T) hg gD hbt rfl hny hdy) pa_nil h2) h1) (by decide) (by decide) h1 hpl) (ed_isX (F0 := F0) (H0 := H0) (m := .sh) (c := .ty T) hi (hm _ _ hx).1 (fun u h => h) (hm _ _ hx).2 σ F H E Q q)⟩
end
end LJ

set_option Elab.async false
set_option linter.all false
set_option maxRecDepth 100000
set_option maxHeartbeats 4000000
set_option autoImplicit false
/-! LJ6: further rules. -/
namespace R
variable {ε δ α β : Type}
theorem thn_id (x : R ε α) (k : α → R ε β) : (x.thn (fun y => y) k) = x.bind k := by cases x <;> rfl
theorem bind_ok (x : R ε α) : (x.bind fun a => R.ok a) = x := by cases x <;> rfl
end R
namespace LJ
open PySem L2 LK LKX PyProof.Rows PySem.Spec
theorem XB.cast {C : Cn} {β ρ ε Z S' : Type} {J : Jn β ρ ε Z} {G : List Slot} {slk : S' → List Slot} {st : List Stmt} {M M' : (S' → R ε ρ) → R ε ρ} (h : XB C J st G slk M) (e : ∀ k, M k = M' k) : XB C J st G slk M' := ⟨fun F0 H0 A D an k hk hA => h.h F0 H0 A D an k hk (e k ▸ hA)⟩
/-- by values, the body's answers as one function -/
theorem xb_forv {C : Cn} {β ρ ε Z S' T : Type} {J : Jn β ρ ε Z} {G : List Slot} {slk : S' → List Slot} {tg it : Expr} {rest body : List Stmt} {pos : Pos} {m : Md} {α : Type} {r : Rp α} {fx : R Er (List α)} {up : α → List Slot → List Slot} {tl : List Nat} {M : T → (S' → R ε ρ) → R ε ρ} (st : T → α → R ε T) (slT : T → List Slot) (t0 : T) (z : Z) (hz : Lw G (J.slz z)) (h0 : Lw G (slT t0))
    (po : PassesOwn (model C.X.prog C.X.w) C.X.A C.X.env C.X.xe) (hi : XI C tg it G m r fx) (hg : XG C tg m r up tl) (G' : T → α → List Slot) (hG : ∀ t x, up x (slT t) = G' t x) (hb : ∀ t x, XB C J body (G' t x) slT (fun k => (st t x).bind k)) (hr : ∀ t, XB C J rest (slT t) slk (M t))
    (hc : C.X.calm = true := by rfl) (hs : ∀ x, foldedSetIterable it C.X.env x = pure x := by intro _; rfl) :
    XB C J (.For tg it body [] pos :: rest) G slk (fun k => fx.thn (fun y => J.em y z) fun xs => (R.foldR st t0 xs).bind fun t => M t k) := LJ.xb_forv0 st slT t0 z hz h0 po hi hg G' hG hb (fun _ _ _ => rfl) hr hc hs
section
variable {C : Cn} {G : List Slot} {m m1 m2 : Md} {tg a b e : Expr} {es : List Expr} {x : Str} {p pos : Pos}
theorem xi_tup {α : Type} {r : Rp α} [Mo r] [Md.Ok m] {f : R Er (List α)} (h : XE C e G m (rTup r) f) : XI C tg e G m r f := ⟨fun F0 H0 => by
  have h := h.h F0 H0
  refine Ir.le (w := iTup C.X.K (tE C.X e)) ?_ fun _ _ _ q => tI_le (pi_tup pE) q
  cases f with
  | ok xs => exact ei_tup h
  | er y => exact fun σ F H E w Rr => h σ F H E w _
  | no => trivial⟩
theorem xi_str {f : R Er (List Nat)} (h : XE C e G m rTx f) : XI C tg e G .sh rTx (f.bind fun x => .ok (x.map fun c => [c])) := ⟨fun F0 H0 =>
  Ir.le (ir_bind (w := iStr (tE C.X e)) (h.h F0 H0) (fun x z σ F H E w Rr => z σ F H E w _) fun x hx => ei_str hx) fun _ _ _ q => tI_le (pi_str pE) q⟩
theorem xi_enum {elts : List Expr} {kk : Nat} {tpos : Pos} {α : Type} {r : Rp α} [Mo r] {f : R Er (List α)} (h : XE C e G .sh (rLst r) f) (hm : C.X.mg "enumerate" = none) (hg : Gl C.X "enumerate" := by rfl) (he : starEach [e] C.X.env = (false, eval e C.X.env) :: starEach [] C.X.env := by exact star_cons rfl) (hs : starEach [e] C.X.env = [(false, eval e C.X.env)] := by rfl) :
    XI C (.Tuple elts kk tpos) (.Call (.Name "enumerate" p) [e] [] pos) G .sh (rPr rInt r) (f.bind fun x => .ok (enumL x)) := ⟨fun F0 H0 =>
  Ir.le (ir_bind (w := iEnum C.X.K (tCons (tE C.X e) tNil)) (h.h F0 H0) (fun x z σ F H E w Rr => z σ F H E w _) fun x hx => ei_enum hx) fun _ _ _ q => tI_le (pi_enum hg hm (pa_cons pE pa_nil he) hs) q⟩
def rng2R (a n : Int) : R Er (List Int) := R.iff (n ≤ 16777216 ∧ -16777216 ≤ n ∧ 0 ≤ a ∧ a ≤ 16777216) (.ok (rng2 a n))
theorem xi_rng2 {f g : R Er Int} (h : XE C a G m1 rInt f) (h2 : XE C b G m2 rInt g) (hm : C.X.mg "range" = none) (hg : Gl C.X "range" := by rfl) (he : starEach [a, b] C.X.env = (false, eval a C.X.env) :: starEach [b] C.X.env := by exact star_cons rfl) (he2 : starEach [b] C.X.env = (false, eval b C.X.env) :: starEach [] C.X.env := by exact star_cons rfl) (hs : starEach [a, b] C.X.env = [(false, eval a C.X.env), (false, eval b C.X.env)] := by rfl) (hs2 : starEach [b] C.X.env = [(false, eval b C.X.env)] := by rfl) :
    XI C tg (.Call (.Name "range" p) [a, b] [] pos) G .sh rInt (f.bind fun x => g.bind fun y => rng2R x y) := ⟨fun F0 H0 => by
  have h := h.h F0 H0; have h2 := h2.h F0 H0
  refine Ir.le (w := iRng2 (tCons (tE C.X a) (tCons (tE C.X b) tNil))) ?_ fun _ _ _ q => tI_le (pi_range2 hg hm (pa_cons pE (pa_cons pE pa_nil he2) he) hs hs2) q
  cases f with
  | no => trivial
  | er y => exact fun σ F H E w Rr => h σ F H E w _
  | ok x =>
    cases g with
    | no => trivial
    | er y => exact fun σ F H E w Rr => h σ F H E _ fun v F1 H1 g1 _ => h2 σ F1 H1 (E.gro g1) (fun F' H' cls d g z => w F' H' cls d (g1.trans g) z) _
    | ok y => exact ir_iff fun c => ei_rng2 h h2 c.1 c.2.1 c.2.2⟩
theorem xqtrL {α : Type} {r : Rp α} {f : R Er (List α)} (h : XE C a G m (rLst r) f) (he : ∀ whole, isTrue a C.X.env whole = (do let v ← whole; standAt a.pos; holding [v] (truthy v)) := by intro _; rfl) : XQ C a G (f.bind fun x => .ok (!x.isEmpty)) := ⟨fun F0 H0 => by
  have h := h.h F0 H0
  cases f with
  | ok x => exact fun σ F H E Q q => tT_le (pt_truth pE he) (et_trL (te := tE C.X a) (F0 := F0) (H0 := H0) h σ F H E Q q)
  | er e => exact fun σ F H E w Q => tT_le (pt_truth pE he) (h σ F H E w _)
  | no => trivial⟩
theorem xqtrU {α : Type} {r : Rp α} {f : R Er (List α)} (h : XE C a G m (rTup r) f) (he : ∀ whole, isTrue a C.X.env whole = (do let v ← whole; standAt a.pos; holding [v] (truthy v)) := by intro _; rfl) : XQ C a G (f.bind fun x => .ok (!x.isEmpty)) := ⟨fun F0 H0 => by
  have h := h.h F0 H0
  cases f with
  | ok x => exact fun σ F H E Q q => tT_le (pt_truth pE he) (et_trU (te := tE C.X a) (F0 := F0) (H0 := H0) h σ F H E Q q)
  | er e => exact fun σ F H E w Q => tT_le (pt_truth pE he) (h σ F H E w _)
  | no => trivial⟩
/-! the law's own comparison -/
instance : DecidableEq Dt := fun a b => if h : same a b = true then .isTrue ((same_iff a b).mp h) else .isFalse fun e => h ((same_iff a b).mpr e)
instance : Tod rDt := ⟨id, fun h => h, fun h => h⟩
theorem xsame0 {α β : Type} {ra : Rp α} {rb : Rp β} {n : Nat} {u : R Er α} {v : R Er β} {o : α → β → R Er Bool} (ha : XE C a G m1 ra u) (hb : XE C b G m2 rb v) (q : PE C.X e (tCall (spSame n) [] E0 (tCons (tE C.X a) (tCons (tE C.X b) tNil))))
    (ho : ∀ F0 H0 y z, Ed F0 H0 (tE C.X a) G m1 ra y → Ed F0 H0 (tE C.X b) G m2 rb z → Dr C F0 H0 (tCall (spSame n) [] E0 (tCons (tE C.X a) (tCons (tE C.X b) tNil))) G .sh rBl (o y z)) : XE C e G .sh rBl (u.bind fun y => v.bind fun z => o y z) := ⟨fun F0 H0 => by
  have ha := ha.h F0 H0; have hb := hb.h F0 H0
  refine Dr.le (t := tCall (spSame n) [] E0 (tCons (tE C.X a) (tCons (tE C.X b) tNil))) ?_ fun _ _ _ h => tE_le q h
  cases u with
  | no => trivial
  | er y => exact fun σ F H E w Q => ha σ F H E w _
  | ok x =>
    cases v with
    | no => trivial
    | er y => exact fun σ F H E w Q => ha σ F H E _ fun v F1 H1 g1 _ => hb σ F1 H1 (E.gro g1) (fun F' H' cls d g z => w F' H' cls d (g1.trans g) z) _
    | ok y => exact ho F0 H0 x y ha hb⟩
theorem xsame {α : Type} {r : Rp α} [ht : Tod r] [DecidableEq α] {k n j : Nat} [hd : Dep r k] {f : Addr} {fd : FuncData} {ps : List Str} {u v : R Er α} (Cl : Cal C.X.K C.X.mg x f fd ps) (Fo : FnOk C.X.prog C.X.w C.X.K C.X.mg C.X.base CX0 (n + 1) f fd ps (spSame n)) (hr : Room j C.X.A) (ha : XE C a G m1 r u) (hb : XE C b G m2 r v)
    (hn : k ≤ n := by decide) (hk : n + 1 ≤ j := by decide) (hg : Gl C.X x := by rfl) (hdb : (x == ("__debug__" : Str)) = false := by decide) (he : starEach [a, b] C.X.env = (false, eval a C.X.env) :: starEach [b] C.X.env := by exact star_cons rfl) (he2 : starEach [b] C.X.env = (false, eval b C.X.env) :: starEach [] C.X.env := by exact star_cons rfl) (hpl : (backTo pos (starEach [b] C.X.env)).any (·.1) = false := by rfl) :
    XE C (.Call (.Name x p) [a, b] [] pos) G .sh rBl (u.bind fun y => v.bind fun z => .ok (decide (y = z))) :=
  xsame0 ha hb (pe_call Fo (hr.mono hk) hg Cl.mg Cl.kp Cl.bi .nil pass0 (pa_cons pE (pa_cons pE pa_nil he2) he) hdb he hpl) fun F0 H0 y z h1 h2 => ed_same h1 h2 hn
def sameR (n : Nat) (y z : Dt) : R Er Bool := R.iff (z.dep ≤ n) (.ok (decide (y = z)))
theorem xsameD {n j : Nat} {f : Addr} {fd : FuncData} {ps : List Str} {u v : R Er Dt} (Cl : Cal C.X.K C.X.mg x f fd ps) (Fo : FnOk C.X.prog C.X.w C.X.K C.X.mg C.X.base CX0 (n + 1) f fd ps (spSame n)) (hr : Room j C.X.A) (ha : XE C a G m1 rDt u) (hb : XE C b G m2 rDt v)
    (hk : n + 1 ≤ j := by decide) (hg : Gl C.X x := by rfl) (hdb : (x == ("__debug__" : Str)) = false := by decide) (he : starEach [a, b] C.X.env = (false, eval a C.X.env) :: starEach [b] C.X.env := by exact star_cons rfl) (he2 : starEach [b] C.X.env = (false, eval b C.X.env) :: starEach [] C.X.env := by exact star_cons rfl) (hpl : (backTo pos (starEach [b] C.X.env)).any (·.1) = false := by rfl) :
    XE C (.Call (.Name x p) [a, b] [] pos) G .sh rBl (u.bind fun y => v.bind fun z => sameR n y z) :=
  xsame0 ha hb (pe_call Fo (hr.mono hk) hg Cl.mg Cl.kp Cl.bi .nil pass0 (pa_cons pE (pa_cons pE pa_nil he2) he) hdb he hpl) fun F0 H0 y z h1 h2 => dr_iff fun c =>
    (ed_call (ea_cons (Ed.bo h1) (ea_cons (Ed.bo h2) ea_nil)) (Pt.now _) c).cast (by
      show same y z = _
      by_cases h : y = z
      · rw [decide_eq_true h]; exact (same_iff y z).mpr h
      · rw [decide_eq_false h]
        cases e : same y z with
        | false => rfl
        | true => exact absurd ((same_iff y z).mp e) h)
end
section
variable {C : Cn} {β ρ ε Z S' : Type} {J : Jn β ρ ε Z} {G : List Slot} {slk : S' → List Slot} {e : Expr} {rest : List Stmt} {pos : Pos}
/-- a thing of the entry is kept -/
theorem xb_setb {α : Type} {r : Rp α} [im : Mo r] {f : R Er α} {M : α → (S' → R ε ρ) → R ε ρ} {x : Str} {pos' : Pos} (i : Nat) (G' : α → List Slot) (z : Z) (hz : Lw G (J.slz z)) (he : XE C e G .b0 r f) (hG : ∀ a, G.set i (.bw r im a) = G' a) (hr : ∀ a, XB C J rest (G' a) slk (M a))
    (hi : C.X.N[i]? = some x := by rfl) (hx : Loc C.X.env.scope x := by first | exact .inl rfl | exact .inr rfl) (hs : swapsWith e (some (.Name x pos')) pos.line C.X.env = pure false := by rfl) (hf : C.X.fn x = true ∨ C.X.env.scope.names.lookup x = some .local := by first | exact .inl rfl | exact .inr rfl) :
    XB C J (.Assign [.Name x pos'] e pos :: rest) G slk (fun k => f.thn (fun y => J.em y z) fun a => M a k) := ⟨fun F0 H0 A D an k hk hA σ F H E => by
  have he := he.h F0 H0
  refine tS_le (pss_cons (ps_set C.nd hi hx pE hs hf) pS) ?_
  cases f with
  | ok a => exact gk_setB (nx := tS C.X rest D) (rt := D.rt) (bk := D.bk) (ct := D.ct) he (hG a ▸ (hr a).h F0 H0 A D an k hk hA) σ F H E
  | er y => exact he σ F H E (an.air hz hA E) _
  | no => exact (an.no hA).elim⟩
end
end LJ

set_option Elab.async false
set_option linter.all false
set_option maxRecDepth 100000
set_option maxHeartbeats 4000000
set_option autoImplicit false
/-! LJ7: plain lemmas on answers. -/
namespace R
variable {ε δ α β S : Type}
@[simp] theorem iff_pos' {c : Prop} [Decidable c] (h : c) (x : R ε α) : R.iff c x = x := if_pos h
theorem iff_of {c : Prop} [Decidable c] (h : c) (x : R ε α) : R.iff c x = x := if_pos h
/-- through a list, with what holds behind each item -/
theorem foldR_inv (f : S → α → R ε S) (P : Nat → S → Prop) : ∀ (xs : List α) (k : Nat) (s : S), P k s → (∀ j s x, xs[j]? = some x → P (k + j) s → ∃ s', f s x = .ok s' ∧ P (k + j + 1) s') → ∃ s', R.foldR f s xs = .ok s' ∧ P (k + xs.length) s'
  | [], k, s, h, _ => ⟨s, rfl, h⟩
  | x :: xs, k, s, h, hs => by
    obtain ⟨s1, e1, h1⟩ := hs 0 s x rfl h
    obtain ⟨s2, e2, h2⟩ := foldR_inv f P xs (k + 1) s1 h1 (fun j s y hy hp => by
      have := hs (j + 1) s y (by simpa using hy) (by rw [show k + (j + 1) = k + 1 + j by omega]; exact hp)
      rw [show k + (j + 1) + 1 = k + 1 + j + 1 by omega] at this
      exact this)
    refine ⟨s2, ?_, by rw [show k + (x :: xs).length = k + 1 + xs.length by simp; omega]; exact h2⟩
    show (f s x).bind _ = _
    rw [e1]; exact e2
/-- .. with the answers told -/
theorem foldR_ok (f : S → α → R ε S) (g : S → α → S) (P : List α → S → Prop) : ∀ (xs : List α) (s : S), P xs s → (∀ x rest s, P (x :: rest) s → f s x = .ok (g s x) ∧ P rest (g s x)) → R.foldR f s xs = .ok (xs.foldl g s)
  | [], s, _, _ => rfl
  | x :: xs, s, h, hs => by
    obtain ⟨e, h'⟩ := hs x xs s h
    show (f s x).bind _ = _
    rw [e]
    exact foldR_ok f g P xs (g s x) h' hs
theorem mapR_ok {p : α → R ε Bool} {f : α → R ε β} (p' : α → Bool) (g : α → β) : ∀ (xs : List α), (∀ x ∈ xs, p x = .ok (p' x)) → (∀ x ∈ xs, p' x = true → f x = .ok (g x)) → (R.mapR p f xs : R δ (List β)) = .ok ((xs.filter p').map g) := by
  intro xs
  induction xs with
  | nil => intro _ _; rfl
  | cons x xs ih =>
    intro hp hf
    have ih := ih (fun y hy => hp y (List.mem_cons_of_mem _ hy)) (fun y hy => hf y (List.mem_cons_of_mem _ hy))
    unfold R.mapR
    rw [hp x List.mem_cons_self]
    cases h : p' x with
    | false => simp [R.noer, h, ih]
    | true =>
      rw [hf x List.mem_cons_self h]
      simp [R.noer, h, ih]
theorem mapR_all {f : α → R ε β} (g : α → β) (xs : List α) (hf : ∀ x ∈ xs, f x = .ok (g x)) : (R.mapR (fun _ => R.ok true) f xs : R δ (List β)) = .ok (xs.map g) := by
  have := mapR_ok (δ := δ) (p := fun _ => (R.ok true : R ε Bool)) (f := f) (fun _ => true) g xs (fun _ _ => rfl) (fun x hx _ => hf x hx)
  rw [this, List.filter_eq_self.mpr (fun _ _ => rfl)]
end R
namespace LJ
open LK
theorem mulR_r {x y : Int} (h : -18446744073709551616 < y ∧ y < 18446744073709551616) : mulR x y = .ok (x * y) := R.iff_of (.inr h) _
theorem mulR_l {x y : Int} (h : -18446744073709551616 < x ∧ x < 18446744073709551616) : mulR x y = .ok (x * y) := R.iff_of (.inl h) _
theorem modR_ok {x y : Int} (h : 0 < y) : modR x y = .ok (x % y) := R.iff_of h _
theorem divR_ok {x y : Int} (h : 0 < y ∧ y < 1073741824) : divR x y = .ok (x / y) := R.iff_of h _
theorem rngR_ok {n : Int} (h : n ≤ 16777216 ∧ -16777216 ≤ n) : rngR n = .ok (rng n) := R.iff_of h _
theorem appR_ok {ε α : Type} {xs : List α} {a : α} (h : xs.length < 16777216) : (appR xs a : R ε (List α)) = .ok (xs ++ [a]) := R.iff_of h _
theorem catR_ok {x y : List Nat} (h : x.length + y.length ≤ 16777216) : catR x y = .ok (x ++ y) := R.iff_of h _
theorem catLR_ok {α : Type} {x y : List α} (h : x.length + y.length ≤ 16777216) : catLR x y = .ok (x ++ y) := R.iff_of h _
theorem lenR_ok {α : Type} {x : List α} (h : x.length ≤ 16777216) : lenR x = .ok x := R.iff_of h _
theorem ixR_ok {α : Type} [Inhabited α] {x : List α} {i : Int} (h : ixOk x.length i) : ixR x i = .ok (ixD x i) := R.iff_of h _
theorem ixTR_ok {x : List Nat} {i : Int} (h : ixOk x.length i) : ixTR x i = .ok [ixD x i] := R.iff_of h _
theorem strR_ok {i : Int} (h : 0 ≤ i ∧ i < 10) : strR i = .ok [48 + i.toNat] := R.iff_of h _
theorem intTR_ok {c : Nat} (h : 48 ≤ c ∧ c < 58) : intTR [c] = .ok ((c : Int) - 48) := R.iff_of h _
theorem joinR_ok {xs : List (List Nat)} (h : xs.flatten.length ≤ 16777216) : joinR [] xs = .ok xs.flatten := R.iff_of ⟨rfl, h⟩ _
theorem sameR_ok {n : Nat} {y z : Dt} (h : z.dep ≤ n) : sameR n y z = .ok (decide (y = z)) := R.iff_of h _
theorem ixR_mem {α : Type} [Inhabited α] {x : List α} {i : Int} (h : 0 ≤ i ∧ i < x.length) : ∃ a, a ∈ x ∧ ixR x i = .ok a := ⟨_, ixD_mem ⟨by omega, h.2⟩, ixR_ok ⟨by omega, h.2⟩⟩
theorem ixD_cons0 {α : Type} [Inhabited α] (x : α) (xs : List α) : ixD (x :: xs) 0 = x := by rw [show (0 : Int) = ((0 : Nat) : Int) from rfl, ixD_nat]; rfl
theorem ixD_cons1 {α : Type} [Inhabited α] (x y : α) (xs : List α) : ixD (x :: y :: xs) 1 = y := by rw [show (1 : Int) = ((1 : Nat) : Int) from rfl, ixD_nat]; rfl
theorem ixTR_0 (x : Nat) (xs : List Nat) : ixTR (x :: xs) 0 = .ok [x] := by rw [ixTR_ok ⟨by simp <;> omega, by simp <;> omega⟩, ixD_cons0]
theorem ixTR_1 (x y : Nat) (xs : List Nat) : ixTR (x :: y :: xs) 1 = .ok [y] := by rw [ixTR_ok ⟨by simp <;> omega, by simp <;> omega⟩, ixD_cons1]
theorem inTR_1 (c : Nat) (y : List Nat) : inTR [c] y = .ok (decide (c ∈ y)) := rfl
theorem niTR_1 (c : Nat) (y : List Nat) : niTR [c] y = .ok (!decide (c ∈ y)) := rfl
theorem sIx_nat (n d k : Nat) : HT.sIx n d (some (k : Int)) = min k n := by
  unfold HT.sIx
  simp only
  rw [if_neg (by omega)]
  omega
theorem cutL_pre {α : Type} (x : List α) (n : Nat) : cutL x none (some (n : Int)) = x.take n := by
  unfold cutL
  rw [sIx_nat]
  show (x.drop (HT.sIx x.length 0 none)).take (min n x.length - HT.sIx x.length 0 none) = _
  have e : HT.sIx x.length 0 none = 0 := rfl
  rw [e]
  simp [List.take_eq_take_iff]
theorem cutL_suf {α : Type} (x : List α) (n : Nat) : cutL x (some (n : Int)) none = x.drop n := by
  unfold cutL
  rw [sIx_nat]
  have e : HT.sIx x.length x.length none = x.length := rfl
  rw [e]
  by_cases h : n ≤ x.length
  · rw [Nat.min_eq_left h, List.take_of_length_le (by simp)]
  · rw [Nat.min_eq_right (by omega), List.drop_of_length_le (Nat.le_refl _), List.drop_of_length_le (by omega)]; simp
end LJ

set_option Elab.async false
set_option linter.all false
set_option maxRecDepth 100000
set_option maxHeartbeats 4000000
set_option autoImplicit false
/-! LD1: dicts whose keys are ints or texts. -/
namespace LK
open PySem L2 PyProof.Rows
/-! ### plain dicts -/
section
variable {κ β : Type} [DecidableEq κ]
def getA (d : List (κ × β)) (k : κ) : Option β := (d.find? fun kv => decide (kv.1 = k)).map (·.2)
def putA (d : List (κ × β)) (k : κ) (v : β) : List (κ × β) :=
  if (d.any fun kv => decide (kv.1 = k)) = true then d.map (fun kv => if kv.1 = k then (kv.1, v) else kv) else d ++ [(k, v)]
def dropA (d : List (κ × β)) (k : κ) : List (κ × β) := d.filter fun kv => decide (kv.1 ≠ k)
def ofA (l : List (κ × β)) : List (κ × β) := l.foldl (fun d kv => putA d kv.1 kv.2) []
theorem len_putA (d : List (κ × β)) (k : κ) (v : β) : (putA d k v).length ≤ d.length + 1 := by
  unfold putA
  split
  · rw [List.length_map]; omega
  · rw [List.length_append, List.length_cons, List.length_nil]; omega
theorem len_ofA : ∀ (l d : List (κ × β)), (l.foldl (fun d kv => putA d kv.1 kv.2) d).length ≤ d.length + l.length
  | [], d => by show d.length ≤ d.length + 0; omega
  | x :: l, d => by
    have h1 := len_ofA l (putA d x.1 x.2)
    have h2 := len_putA d x.1 x.2
    show (l.foldl _ (putA d x.1 x.2)).length ≤ _
    rw [List.length_cons]; omega
end
/-! ### keys -/
class Ke {κ : Type} (r : Rp κ) where
  key : κ → Key
  inj : ∀ {a b : κ}, key a = key b → a = b
  of : ∀ {F : Hp} {v : V} {a : κ}, r F v a → v = kV (key a)
instance : Ke rInt := ⟨fun i => .inl i, fun h => Sum.inl.inj h, fun h => h⟩
instance : Ke rTx := ⟨fun l => .inr ⟨l.toArray⟩, fun {a b} h => by
  have h := Sum.inr.inj h
  have h : a.toArray = b.toArray := by injection h
  simpa using h, fun h => h.1⟩
/-- an item -/
def PK {κ β : Type} (rk : Rp κ) [Ke rk] (rv : Rp β) (F : Hp) (kv : Key × V) (x : κ × β) : Prop := kv.1 = Ke.key rk x.1 ∧ rk F (kV kv.1) x.1 ∧ rv F kv.2 x.2
def rDk {κ β : Type} (rk : Rp κ) [Ke rk] (rv : Rp β) : Rp (List (κ × β)) := fun F v d => ∃ p kvs, v = .ref p ∧ Rd F p (.dK kvs) ∧ Paired (PK rk rv F) kvs d
/-- an own dict -/
def mD {κ β : Type} (rk : Rp κ) [Ke rk] (rv : Rp β) (d : List (κ × β)) : Mu := fun F H p S => S = [p] ∧ ∃ kvs, H p = some (.dK kvs) ∧ Paired (PK rk rv F) kvs d
section
variable {κ β : Type} {rk : Rp κ} [ke : Ke rk] {rv : Rp β}
theorem PK.mo [Mo rk] [Mo rv] {F F' : Hp} (e : Exs F F') {kv : Key × V} {x : κ × β} (h : PK rk rv F kv x) : PK rk rv F' kv x := ⟨h.1, Mo.mo e h.2.1, Mo.mo e h.2.2⟩
instance [Mo rk] [Mo rv] : Mo (rDk rk rv) := ⟨fun e ⟨p, kvs, h1, h2, h3⟩ => ⟨p, kvs, h1, e.rd h2 rfl, pmap (fun _ _ z => z.mo e) h3⟩⟩
instance : Nn (rDk rk rv) := ⟨fun ⟨_, _, h, _⟩ => by rw [h]; intro z; cases z⟩
instance [Mo rk] [Mo rv] (d : List (κ × β)) : MoM (mD rk rv d) := ⟨fun e k ⟨h0, kvs, h1, h2⟩ => ⟨h0, kvs, by rw [k _ (by rw [h0]; exact List.mem_cons_self)]; exact h1, pmap (fun _ _ z => z.mo e) h2⟩,
  fun ⟨h0, kvs, h1, _⟩ a ha => by rw [h0] at ha; rw [List.mem_singleton.mp ha, h1]; exact fun z => nomatch z⟩
abbrev sD (rk : Rp κ) [Ke rk] (rv : Rp β) [Mo rk] [Mo rv] (d : List (κ × β)) : Slot := sO (mD rk rv d)
variable [DecidableEq κ]
theorem pk_get {F : Hp} {k : κ} : ∀ {kvs : List (Key × V)} {d : List (κ × β)}, Paired (PK rk rv F) kvs d → (valV kvs (ke.key k) = none ∧ getA d k = none) ∨ ∃ v b, valV kvs (ke.key k) = some v ∧ getA d k = some b ∧ rv F v b
  | _, _, .nil => .inl ⟨rfl, rfl⟩
  | _, _, .cons (a := kv) (b := x) h t => by
    by_cases e : x.1 = k
    · refine .inr ⟨kv.2, x.2, valV_pos (by rw [h.1, e]), ?_, h.2.2⟩
      unfold getA; rw [List.find?_cons, decide_eq_true e]; rfl
    · have e' : ¬ kv.1 = ke.key k := fun z => e (ke.inj (h.1.symm.trans z))
      rw [valV_neg e']
      have g : ∀ l, getA (x :: l) k = getA l k := fun l => by unfold getA; rw [List.find?_cons, decide_eq_false e]
      rw [g]
      exact pk_get t
theorem pk_some {F : Hp} {k : κ} {kvs : List (Key × V)} {d : List (κ × β)} (p : Paired (PK rk rv F) kvs d) {b : β} (h : getA d k = some b) : ∃ v, valV kvs (ke.key k) = some v ∧ rv F v b := by
  rcases pk_get (k := k) p with ⟨_, g⟩ | ⟨v, b', e, g, r⟩
  · rw [h] at g; cases g
  · rw [h] at g; cases g; exact ⟨v, e, r⟩
theorem pk_isS {F : Hp} {k : κ} {kvs : List (Key × V)} {d : List (κ × β)} (p : Paired (PK rk rv F) kvs d) : (valV kvs (ke.key k)).isSome = (getA d k).isSome := by
  rcases pk_get (k := k) p with ⟨e, g⟩ | ⟨v, b', e, g, r⟩ <;> rw [e, g] <;> rfl
theorem pk_any {F : Hp} {k : κ} : ∀ {kvs : List (Key × V)} {d : List (κ × β)}, Paired (PK rk rv F) kvs d → (kvs.any fun kv => decide (kv.1 = ke.key k)) = d.any fun kv => decide (kv.1 = k)
  | _, _, .nil => rfl
  | _, _, .cons (a := kv) (b := x) h t => by
    rw [List.any_cons, List.any_cons, pk_any t]
    congr 1
    by_cases e : x.1 = k
    · rw [decide_eq_true e, decide_eq_true (h.1.trans (congrArg _ e))]
    · rw [decide_eq_false e, decide_eq_false (fun z => e (ke.inj (h.1.symm.trans z)))]
theorem pk_map {F : Hp} {k : κ} {v : V} {b : β} (hv : rv F v b) : ∀ {kvs : List (Key × V)} {d : List (κ × β)}, Paired (PK rk rv F) kvs d → Paired (PK rk rv F) (kvs.map fun kv => if kv.1 = ke.key k then (kv.1, v) else kv) (d.map fun kv => if kv.1 = k then (kv.1, b) else kv)
  | _, _, .nil => .nil
  | _, _, .cons (a := kv) (b := x) h t => by
    rw [List.map_cons, List.map_cons]
    refine .cons ?_ (pk_map hv t)
    by_cases e : x.1 = k
    · rw [if_pos e, if_pos (h.1.trans (congrArg _ e))]; exact ⟨h.1, h.2.1, hv⟩
    · rw [if_neg e, if_neg (fun z => e (ke.inj (h.1.symm.trans z)))]; exact h
theorem pk_put {F : Hp} {k : κ} {v : V} {b : β} {kvs : List (Key × V)} {d : List (κ × β)} (hk : rk F (kV (ke.key k)) k) (hv : rv F v b) (p : Paired (PK rk rv F) kvs d) : Paired (PK rk rv F) (putK kvs (ke.key k) v) (putA d k b) := by
  unfold putK putA
  rw [pk_any p]
  split
  · exact pk_map hv p
  · exact papp p (.cons ⟨rfl, hk, hv⟩ .nil)
theorem pk_drop {F : Hp} {k : κ} : ∀ {kvs : List (Key × V)} {d : List (κ × β)}, Paired (PK rk rv F) kvs d → Paired (PK rk rv F) (dropK kvs (ke.key k)) (dropA d k)
  | _, _, .nil => .nil
  | _, _, .cons (a := kv) (b := x) h t => by
    unfold dropK dropA
    rw [List.filter_cons, List.filter_cons]
    by_cases e : x.1 = k
    · have e' : kv.1 = ke.key k := h.1.trans (congrArg _ e)
      rw [if_neg (by simp [e']), if_neg (by simp [e])]
      exact pk_drop t
    · have e' : ¬ kv.1 = ke.key k := fun z => e (ke.inj (h.1.symm.trans z))
      rw [if_pos (by simp [e']), if_pos (by simp [e])]
      exact .cons h (pk_drop t)
end
section
variable {F0 H0 : Hp} {G : List Slot} {m m1 m2 m3 : Md} {ta tb tc te : TE} {κ β : Type} {rk : Rp κ} [ke : Ke rk] {rv : Rp β} [DecidableEq κ]
theorem rd_now {F H : Hp} {p : Addr} {u : HO} (g : Gr F0 H0 F H) (hd : isD u = true) (h : Rd (pk m F H0 H) p u) : Rd H p u := (pk_now g).s.rd h hd
/-- d[k] -/
theorem ed_dget [Mo rk] [Mo rv] {d : List (κ × β)} {k : κ} {b : β} (hd : Ed F0 H0 ta G m (rDk rk rv) d) (hk : Ed F0 H0 tb G m2 rk k) (h : getA d k = some b) : Ed F0 H0 (tDGet ta tb) G m rv b := fun σ F H E Q q =>
  hd σ F H E _ fun v F1 H1 g1 h1 => hk σ F1 H1 (E.gro g1) _ fun w F2 H2 g2 h2 => by
    obtain ⟨p, kvs, rfl, r1, pp⟩ := mox (pk_mono (H0 := H0) m g2) h1
    obtain ⟨u, e, ru⟩ := pk_some pp h
    exact ⟨p, u, rfl, .inl ⟨kvs, _, rd_now (E.gr.trans (g1.trans g2)) rfl r1, ke.of h2, e.symm⟩, q u F2 H2 (g1.trans g2) ru⟩
theorem ed_din [Mo rk] [Mo rv] {d : List (κ × β)} {k : κ} (hk : Ed F0 H0 tb G m2 rk k) (hd : Ed F0 H0 ta G m1 (rDk rk rv) d) : Ed F0 H0 (tDIn tb ta) G m rBl (getA d k).isSome := fun σ F H E Q q =>
  hk σ F H E _ fun w F1 H1 g1 h1 => hd σ F1 H1 (E.gro g1) _ fun v F2 H2 g2 h2 => by
    obtain ⟨p, kvs, rfl, r1, pp⟩ := h2
    exact ⟨p, _, rfl, .inl ⟨kvs, _, rd_now (E.gr.trans (g1.trans g2)) rfl r1, ke.of h1, rfl⟩, q _ F2 H2 (g1.trans g2) (by rw [pk_isS pp]; rfl)⟩
theorem ed_dni [Mo rk] [Mo rv] {d : List (κ × β)} {k : κ} (hk : Ed F0 H0 tb G m2 rk k) (hd : Ed F0 H0 ta G m1 (rDk rk rv) d) : Ed F0 H0 (tDNotIn tb ta) G m rBl (!(getA d k).isSome) := fun σ F H E Q q =>
  hk σ F H E _ fun w F1 H1 g1 h1 => hd σ F1 H1 (E.gro g1) _ fun v F2 H2 g2 h2 => by
    obtain ⟨p, kvs, rfl, r1, pp⟩ := h2
    exact ⟨p, _, rfl, .inl ⟨kvs, _, rd_now (E.gr.trans (g1.trans g2)) rfl r1, ke.of h1, rfl⟩, q _ F2 H2 (g1.trans g2) (by rw [pk_isS pp]; rfl)⟩
/-- d.get(k, x) -/
theorem ed_dget2 [Mo rk] [Mo rv] {d : List (κ × β)} {k : κ} {c : β} (hd : Ed F0 H0 ta G m (rDk rk rv) d) (hk : Ed F0 H0 tb G m2 rk k) (hc : Ed F0 H0 tc G m rv c) : Ed F0 H0 (tDGet2 ta tb tc) G m rv ((getA d k).getD c) := fun σ F H E Q q =>
  hd σ F H E _ fun v F1 H1 g1 h1 => by
    obtain ⟨p, kvs, rfl, r1, pp⟩ := id h1
    refine ⟨p, rfl, .inl ⟨kvs, rd_now (E.gr.trans g1) rfl r1⟩, hk σ F1 H1 (E.gro g1) _ fun w F2 H2 g2 h2 => hc σ F2 H2 ((E.gro g1).gro g2) _ fun u F3 H3 g3 h3 => ?_⟩
    obtain ⟨p', kvs', e, r1, pp⟩ := mox (pk_mono (H0 := H0) m (g2.trans g3)) h1
    cases e
    refine ⟨_, .inl ⟨kvs', _, rd_now (E.gr.trans ((g1.trans g2).trans g3)) rfl r1, ke.of h2, rfl⟩, q _ F3 H3 ((g1.trans g2).trans g3) ?_⟩
    rcases pk_get (k := k) pp with ⟨e1, e2⟩ | ⟨v, b, e1, e2, r⟩
    · rw [e1, e2]; exact h3
    · rw [e1, e2]; exact r
/-- a new dict -/
def Endd (F0 H0 : Hp) (t : TE) (G : List Slot) (rk : Rp κ) [Ke rk] (rv : Rp β) (d : List (κ × β)) : Prop := ∀ σ F H, EnvOk F0 H0 G σ F H → ∀ Q : VK, (∀ p kvs F' H', Gr F H F' H' → H p = none → F' p = none → H' p = some (.dK kvs) → Paired (PK rk rv F') kvs d → Q (.ref p) H') → t σ H Q
theorem end_nil : Endd F0 H0 tDNewK G rk rv ([] : List (κ × β)) := fun σ F H E Q q p hp => q p [] F _ (Gr.wild E.gr.fh hp) hp (E.gr.fh.back hp) upd_same .nil
/-- d[k] = v, d own -/
theorem EnvOk.d_at {σ : L2.St} {F H : Hp} [Mo rk] [Mo rv] {d : List (κ × β)} {iM : MoM (mD rk rv d)} {i : Nat} (E : EnvOk F0 H0 G σ F H) (h : G[i]? = some (.ow (mD rk rv d) iM)) : ∃ p kvs, σ[i]? = some (some (.ref p)) ∧ F p = none ∧ H0 p = none ∧ H p = some (.dK kvs) ∧ Paired (PK rk rv F) kvs d := by
  obtain ⟨p, S, e, h1, rfl, kvs, h2, h3⟩ := E.ow_at h
  exact ⟨p, kvs, e, (h1 p (by simp)).1, (h1 p (by simp)).2, h2, h3⟩
theorem ed_od [Mo rk] [Mo rv] {d : List (κ × β)} {iM : MoM (mD rk rv d)} {i : Nat} (h : G[i]? = some (.ow (mD rk rv d) iM)) : Ed F0 H0 (tVar i) G .bo (rDk rk rv) d := fun σ F H E Q q => by
  obtain ⟨p, kvs, hx, h1, h2, h3, h4⟩ := E.d_at h
  exact ⟨_, hx, q _ F H (Gr.refl E.gr.fh) ⟨p, kvs, rfl, .inl h3, pmap (fun _ _ z => z.mo E.gr.fh.s) h4⟩⟩
theorem EnvOk.mutD {σ : L2.St} {F H : Hp} [Mo rk] [Mo rv] {d d' : List (κ × β)} {iM : MoM (mD rk rv d)} {iN : MoM (mD rk rv d')} {i : Nat} {p : Addr} {kvs : List (Key × V)} (E : EnvOk F0 H0 G σ F H) (hi : G[i]? = some (.ow (mD rk rv d) iM)) (hp : σ[i]? = some (some (.ref p))) (m : Paired (PK rk rv F) kvs d') :
    EnvOk F0 H0 (G.set i (.ow (mD rk rv d') iN)) σ F (upd H p (.dK kvs)) := by
  have gr := E.gr
  refine E.mut (p := p) (S := []) (S' := []) hi fun q S hq hS ⟨h0, ws, h1, h2⟩ => ?_
  rw [hp] at hq
  cases Option.some.inj (Option.some.inj hq)
  subst h0
  refine ⟨[p], Ex.refl F, fun a u h n => (by rw [n] at h; cases h), fun a ha _ _ => upd_ne fun z => ha (by rw [z]; exact List.mem_singleton.mpr rfl), fun a u h => ?_, fun a ha => ⟨.inl ha, ?_⟩, ?_⟩
  · have ha : a ≠ p := fun z => by rw [z, (hS p (by simp)).1] at h; cases h
    rw [upd_ne ha]; exact gr.fh a u h
  · rw [List.mem_singleton.mp ha]; exact (hS p (by simp)).1
  · exact ⟨rfl, kvs, upd_same, m⟩
theorem gk_dput {nx : L2.St → Hp → Prop} {rt : VK} {bk ct : L2.St → Hp → Prop} [im : Mo rk] [iv : Mo rv] [Fl rk] {d : List (κ × β)} {iM : MoM (mD rk rv d)} {k : κ} {b : β} {i : Nat} (hi : G[i]? = some (.ow (mD rk rv d) iM)) (hv : Ed F0 H0 te G .sh rv b) (hk : Ed F0 H0 tb G m2 rk k) (hl : d.length < 16777216) (kk : Gk F0 H0 nx (G.set i (sD rk rv (putA d k b)))) :
    Gk F0 H0 (sDPut (tVar i) tb te ⟨nx, rt, bk, ct⟩) G := fun σ F H E =>
  hv σ F H E _ fun v F1 H1 g1 hv => by
    have E1 := E.gro g1
    obtain ⟨p, kvs, hx, h1, h2, h3, h4⟩ := E1.d_at hi
    refine ⟨_, hx, hk σ F1 H1 E1 _ fun w F2 H2 g2 hw => ?_⟩
    have E2 := E1.gro g2
    obtain ⟨p', kvs', hx', h1', h2', h3', h4'⟩ := E2.d_at hi
    rw [hx] at hx'
    cases Option.some.inj (Option.some.inj hx')
    have ew := ke.of hw
    exact ⟨p, _, rfl, .inl ⟨kvs', _, h3', ew, by rw [plen h4']; exact sz_lt hl, rfl⟩, kk σ F2 _ (E2.mutD hi hx (pk_put (Fl.fl (ew ▸ hw)) (mox g2.ff hv) h4'))⟩
end
end LK

set_option Elab.async false
set_option linter.all false
set_option maxRecDepth 100000
set_option maxHeartbeats 4000000
set_option autoImplicit false
/-! LD2: dict comprehensions; list comprehensions with two fors. -/
namespace LK
open PySem L2 LJ PyProof.Rows
/-- all but what stands at D -/
def but (D : Addr) (H : Hp) : Hp := fun a => if a = D then none else H a
theorem but_at {D : Addr} {H : Hp} : but D H D = none := if_pos rfl
theorem but_ne {D a : Addr} {H : Hp} (h : a ≠ D) : but D H a = H a := if_neg h
theorem but_back {D : Addr} {H : Hp} {o : HO} (e : H D = some o) : H = upd (but D H) D o := by
  funext a
  unfold upd but
  by_cases ha : a = D
  · rw [if_pos ha, ha]; exact e
  · rw [if_neg ha, if_neg ha]
theorem but_upd {D : Addr} {H : Hp} {o : HO} : upd H D o = upd (but D H) D o := by
  funext a
  unfold upd but
  by_cases ha : a = D
  · rw [if_pos ha, if_pos ha]
  · rw [if_neg ha, if_neg ha, if_neg ha]
/-- what grows, but for D -/
theorem slimG {F H F' H' : Hp} {D : Addr} {o : HO} (g : Gr F (upd H D o) F' H') (nF : F D = none) (nH : H D = none) : Gr F H F' (but D H') ∧ F' D = none ∧ H' D = some o := by
  have nx : F' D = none := by
    cases e : F' D with
    | none => rfl
    | some u => have z := g.nw D u e nF; rw [upd_same] at z; cases z
  refine ⟨⟨g.ff, fun a u e => ?_, fun a u e => ?_, fun a u e n => ?_⟩, nx, g.hh D _ upd_same⟩
  · have ha : a ≠ D := fun z => by rw [z, nx] at e; cases e
    rw [but_ne ha]; exact g.fh a u e
  · have ha : a ≠ D := fun z => by rw [z, nH] at e; cases e
    rw [but_ne ha]; exact g.hh a u (by rw [upd_ne ha]; exact e)
  · have ha : a ≠ D := fun z => by rw [z, nx] at e; cases e
    have z := g.nw a u e n
    rw [upd_ne ha] at z; exact z
section
variable {F0 H0 : Hp} {G : List Slot} {m m1 m2 : Md} {te tk tv : TE} {tt tt1 : TT} {wi wi1 : TI} {g g1 : TG}
theorem take_s {α : Type} {xs : List α} {i : Nat} {x : α} (hx : xs[i]? = some x) : xs.take (i + 1) = xs.take i ++ [x] := by
  rw [List.take_add_one, hx]; rfl
/-- a dict comprehension -/
theorem en_dc {α κ β : Type} {r : Rp α} {rk : Rp κ} [ke : Ke rk] {rv : Rp β} [DecidableEq κ] [Mo rk] [Fl rk] [Mo rv] {xs : List α} {up : α → List Slot → List Slot} {tg vs : List Nat} (p : α → Bool) (fk : α → κ) (fv : α → β) (hi : Ei F0 H0 wi G m r xs) (hg : Eg H0 g m r up tg) (hv : ∀ j ∈ tg, j ∈ vs)
    (ht : ∀ F1, Bs F0 H0 F1 → ∀ x ∈ xs, Et F1 H0 tt (up x (wipeG G vs)) (p x)) (he : ∀ F1, Bs F0 H0 F1 → ∀ x ∈ xs, p x = true → Ed F1 H0 tk (up x (wipeG G vs)) .sh rk (fk x)) (he2 : ∀ F1, Bs F0 H0 F1 → ∀ x ∈ xs, p x = true → Ed F1 H0 tv (up x (wipeG G vs)) .sh rv (fv x)) :
    Endd F0 H0 (tDc wi g tt tk tv vs) G rk rv (ofA ((xs.filter p).map fun x => (fk x, fv x))) := fun σ F H E Q q => hi σ F H E _ fun J F1 H1 g1 w hxl D hD => by
  have E1 := (E.gro g1).here
  have b1 : Bs F0 H0 F1 := (E.gr.trans g1).bs
  have nF1 : F1 D = none := g1.fh.back hD
  let Pv : Nat → Hp → Prop := fun i H' => ∃ F' Hm kvs, EnvOk F1 H0 (wipeG G vs) (wipe σ vs) F' Hm ∧ Gr F1 H1 F' Hm ∧ Hm D = none ∧ H' = upd Hm D (.dK kvs) ∧ Paired (PK rk rv F') kvs (ofA (((xs.take i).filter p).map fun x => (fk x, fv x)))
  refine ⟨fun i k H' => k = xs.length - i ∧ i ≤ xs.length ∧ Pv i H', ⟨xs.length, by simp, Nat.zero_le _, F1, H1, [], E1.wipeA vs, Gr.refl g1.fh, hD, rfl, by simp [ofA]; exact .nil⟩, ?_⟩
  rintro i k H' ⟨rfl, hi', F', Hm, kvs, E2, g2, nD, rfl, pw⟩
  have gw := Gr.wild (p := D) (o := .dK kvs) g2.fh nD
  have E3 := E2.gro gw
  have nF' : F' D = none := g2.fh.back nD
  have eH0 : Ex H0 (upd Hm D (.dK kvs)) := E3.gr.hh
  by_cases hlt : i < xs.length
  · refine .inr ⟨w.go i F' _ g2.ff E3.gr.fh eH0 hlt, Pv (i + 1), fun H'' p' => ⟨xs.length - (i + 1), by omega, rfl, hlt, p'⟩, fun v H'' y => ?_⟩
    obtain ⟨x, F3, hx, g3, rx⟩ := w.yld i F' _ v H'' g2.ff E3.gr.fh eH0 hlt y
    have hmem : x ∈ xs := List.mem_of_getElem? hx
    refine hg F1 _ _ F3 H'' v x (E3.gro g3) rx _ fun σ2 E4 hw2 => ⟨?_, ?_⟩
    · rw [hw2 vs hv, wipe_wipe fun _ z => z]
    refine ht F1 b1 x hmem σ2 F3 H'' E4 _ fun F4 H4 g4 => ?_
    have gx := g3.trans g4
    cases hp : p x with
    | false =>
      obtain ⟨z1, z2, z3⟩ := slimG gx nF' nD
      refine ⟨F4, _, kvs, E2.gro z1, g2.trans z1, but_at, but_back z3, ?_⟩
      rw [take_s hx, List.filter_append, List.filter_cons, if_neg (by rw [hp]; decide)]
      simpa using pmap (fun _ _ z => z.mo gx.ff.s) pw
    | true =>
      refine he F1 b1 x hmem hp σ2 F4 H4 (E4.gro g4) _ fun y5 F5 H5 g5 hy => he2 F1 b1 x hmem hp σ2 F5 H5 ((E4.gro g4).gro g5) _ fun y6 F6 H6 g6 hy6 => ?_
      have gy := (gx.trans g5).trans g6
      obtain ⟨z1, z2, z3⟩ := slimG gy nF' nD
      have hl : kvs.length < 16777216 := by
        rw [plen pw]
        have h1 := len_ofA (((xs.take i).filter p).map fun x => (fk x, fv x)) []
        have h2 := List.length_filter_le p (xs.take i)
        rw [List.length_take] at h2
        rw [List.length_map] at h1
        simp only [List.length_nil] at h1
        unfold ofA
        omega
      have ew := ke.of hy
      refine ⟨kvs, _, ew, z3, sz_lt hl, F6, _, _, E2.gro z1, g2.trans z1, but_at, but_upd, ?_⟩
      rw [take_s hx, List.filter_append, List.filter_cons, if_pos hp, List.map_append]
      unfold ofA
      rw [List.foldl_append]
      exact pk_put (Fl.fl (ew ▸ hy)) hy6 (pmap (fun _ _ z => z.mo gy.ff.s) pw)
  · have e : i = xs.length := by omega
    subst e
    rw [List.take_length] at pw
    exact .inl ⟨w.stop F' _ g2.ff E3.gr.fh eH0, q D kvs F' _ (g1.trans (g2.trans gw)) (g1.hh.back hD) nF' upd_same pw⟩
/-- two fors -/
theorem en_lc2 {α γ β : Type} {r : Rp α} {r1 : Rp γ} {r' : Rp β} [Mo r'] {xs : List α} {up : α → List Slot → List Slot} {up1 : γ → List Slot → List Slot} {tg tg1 vs vs1 : List Nat} (p : α → Bool) (ys : α → List γ) (p1 : α → γ → Bool) (f : α → γ → β)
    (hi : Ei F0 H0 wi G m r xs) (hg : Egs H0 g m r up tg) (hv : ∀ j ∈ tg, j ∈ vs) (ht : ∀ F1, Bs F0 H0 F1 → ∀ x ∈ xs, Et F1 H0 tt (up x (wipeG G vs)) (p x))
    (hi1 : ∀ F1, Bs F0 H0 F1 → ∀ x ∈ xs, p x = true → Ei F1 H0 wi1 (up x (wipeG G vs)) m1 r1 (ys x)) (hg1 : Egs H0 g1 m1 r1 up1 tg1) (hv1 : ∀ j ∈ tg1, j ∈ vs1)
    (ht1 : ∀ F1, Bs F0 H0 F1 → ∀ x ∈ xs, p x = true → ∀ y ∈ ys x, Et F1 H0 tt1 (up1 y (wipeG (up x (wipeG G vs)) vs1)) (p1 x y)) (he : ∀ F1, Bs F0 H0 F1 → ∀ x ∈ xs, p x = true → ∀ y ∈ ys x, p1 x y = true → Ed F1 H0 te (up1 y (wipeG (up x (wipeG G vs)) vs1)) .sh r' (f x y))
    (hlen : (((xs.filter p).map fun x => ((ys x).filter (p1 x)).map (f x)).flatten).length ≤ 16777216) :
    En F0 H0 (tLc2 wi g tt wi1 g1 tt1 te vs vs1) G r' (((xs.filter p).map fun x => ((ys x).filter (p1 x)).map (f x)).flatten) := fun σ F H E Q q => hi σ F H E _ fun J F1 H1 g1 w hxl D hD => by
  have E1 := (E.gro g1).here
  have b1 : Bs F0 H0 F1 := (E.gr.trans g1).bs
  have nF1 : F1 D = none := g1.fh.back hD
  let Fl : List α → List β := fun l => ((l.filter p).map fun x => ((ys x).filter (p1 x)).map (f x)).flatten
  have Fl_app : ∀ a b, Fl (a ++ b) = Fl a ++ Fl b := fun a b => by simp only [Fl]; rw [List.filter_append, List.map_append, List.flatten_append]
  let Pv : Nat → Hp → Prop := fun i H' => ∃ F' Hm ws, EnvOk F1 H0 (wipeG G vs) (wipe σ vs) F' Hm ∧ Gr F1 H1 F' Hm ∧ Hm D = none ∧ H' = upd Hm D (.lst ws) ∧ Paired (r' F') ws (Fl (xs.take i))
  refine ⟨fun i k H' => k = xs.length - i ∧ i ≤ xs.length ∧ Pv i H', ⟨xs.length, by simp, Nat.zero_le _, F1, H1, [], E1.wipeA vs, Gr.refl g1.fh, hD, rfl, by simp [Fl]; exact .nil⟩, ?_⟩
  rintro i k H' ⟨rfl, hi', F', Hm, ws, E2, g2, nD, rfl, pw⟩
  have gw := Gr.wild (p := D) (o := .lst ws) g2.fh nD
  have E3 := E2.gro gw
  have nF' : F' D = none := g2.fh.back nD
  have eH0 : Ex H0 (upd Hm D (.lst ws)) := E3.gr.hh
  by_cases hlt : i < xs.length
  · refine .inr ⟨w.go i F' _ g2.ff E3.gr.fh eH0 hlt, Pv (i + 1), fun H'' p' => ⟨xs.length - (i + 1), by omega, rfl, hlt, p'⟩, fun v H'' y => ?_⟩
    obtain ⟨x, F3, hx, g3, rx⟩ := w.yld i F' _ v H'' g2.ff E3.gr.fh eH0 hlt y
    have hmem : x ∈ xs := List.mem_of_getElem? hx
    refine hg F1 _ _ F3 H'' v x (E3.gro g3) rx _ fun σ2 tr hw2 => ⟨?_, ?_⟩
    · rw [hw2 vs hv, wipe_wipe fun _ z => z]
    have E4 : EnvOk F1 H0 (up x (wipeG G vs)) σ2 F3 H'' := tr F3 H'' (Ex.refl F3) (E3.gro g3)
    refine ht F1 b1 x hmem σ2 F3 H'' E4 _ fun F4 H4 g4 => ?_
    have gx := g3.trans g4
    cases hp : p x with
    | false =>
      obtain ⟨z1, z2, z3⟩ := slimG gx nF' nD
      refine ⟨F4, _, ws, E2.gro z1, g2.trans z1, but_at, but_back z3, ?_⟩
      rw [take_s hx, Fl_app]
      have e : Fl [x] = [] := by simp [Fl, hp]
      rw [e, List.append_nil]
      exact pmap (fun _ _ z => mox gx.ff z) pw
    | true =>
      refine hi1 F1 b1 x hmem hp σ2 F4 H4 (E4.gro g4) _ fun J1 F5 H5 g5 w1 hyl => ?_
      have gy := gx.trans g5
      obtain ⟨z1, z2, z3⟩ := slimG gy nF' nD
      have E5 : EnvOk F1 H0 (wipeG G vs) (wipe σ vs) F5 (but D H5) := E2.gro z1
      have E6 : EnvOk F1 H0 (wipeG (up x (wipeG G vs)) vs1) (wipe σ2 vs1) F5 (but D H5) := (tr F5 (but D H5) (g4.ff.trans g5.ff) E5).wipeA vs1
      have eFx : Fl [x] = ((ys x).filter (p1 x)).map (f x) := by simp [Fl, hp]
      let Pw : Nat → Hp → Prop := fun j H' => ∃ F' Hm ws, EnvOk F1 H0 (wipeG G vs) (wipe σ vs) F' Hm ∧ EnvOk F1 H0 (wipeG (up x (wipeG G vs)) vs1) (wipe σ2 vs1) F' Hm ∧ Gr F5 (but D H5) F' Hm ∧ Hm D = none ∧ H' = upd Hm D (.lst ws) ∧ Paired (r' F') ws (Fl (xs.take i) ++ (((ys x).take j).filter (p1 x)).map (f x))
      refine ⟨fun j k H' => k = (ys x).length - j ∧ j ≤ (ys x).length ∧ Pw j H', ⟨(ys x).length, by simp, Nat.zero_le _, F5, _, ws, E5, E6, Gr.refl E5.gr.fh, but_at, but_back z3, by simpa using pmap (fun _ _ z => mox gy.ff z) pw⟩, ?_⟩
      rintro j k H6 ⟨rfl, hj', F6, Hm6, ws6, A1, A2, g6, n6, rfl, pw6⟩
      have gw6 := Gr.wild (p := D) (o := .lst ws6) g6.fh n6
      have B2 := A2.gro gw6
      have nF6 : F6 D = none := g6.fh.back n6
      have eH6 : Ex H0 (upd Hm6 D (.lst ws6)) := B2.gr.hh
      by_cases hjl : j < (ys x).length
      · refine .inr ⟨w1.go j F6 _ g6.ff B2.gr.fh eH6 hjl, Pw (j + 1), fun H'' p' => ⟨(ys x).length - (j + 1), by omega, rfl, hjl, p'⟩, fun v7 H7 y7 => ?_⟩
        obtain ⟨c, F7, hc, g7, rc⟩ := w1.yld j F6 _ v7 H7 g6.ff B2.gr.fh eH6 hjl y7
        have hcm : c ∈ ys x := List.mem_of_getElem? hc
        refine hg1 F1 _ _ F7 H7 v7 c (B2.gro g7) rc _ fun σ3 tr3 hw3 => ⟨?_, ?_⟩
        · rw [hw3 vs1 hv1, wipe_wipe fun _ z => z]
        have E8 := tr3 F7 H7 (Ex.refl F7) (B2.gro g7)
        refine ht1 F1 b1 x hmem hp c hcm σ3 F7 H7 E8 _ fun F8 H8 g8 => ?_
        have gz := g7.trans g8
        cases hp1 : p1 x c with
        | false =>
          obtain ⟨z1, z2, z3⟩ := slimG gz nF6 n6
          refine ⟨F8, _, ws6, A1.gro z1, A2.gro z1, g6.trans z1, but_at, but_back z3, ?_⟩
          rw [take_s hc, List.filter_append, List.filter_cons, if_neg (by rw [hp1]; decide)]
          simpa using pmap (fun _ _ z => mox gz.ff z) pw6
        | true =>
          refine he F1 b1 x hmem hp c hcm hp1 σ3 F8 H8 (E8.gro g8) _ fun y9 F9 H9 g9 hy => ?_
          have gq := gz.trans g9
          obtain ⟨z1, z2, z3⟩ := slimG gq nF6 n6
          have hl : ws6.length < 16777216 := by
            rw [plen pw6]
            have h1 : xs = xs.take i ++ (x :: xs.drop (i + 1)) := by
              have := (List.take_append_drop (i + 1) xs).symm
              rw [take_s hx, List.append_assoc] at this
              exact this
            have h2 : ys x = (ys x).take j ++ (c :: (ys x).drop (j + 1)) := by
              have := (List.take_append_drop (j + 1) (ys x)).symm
              rw [take_s hc, List.append_assoc] at this
              exact this
            have h3 : (Fl xs).length ≤ 16777216 := hlen
            rw [h1, Fl_app, show x :: xs.drop (i + 1) = [x] ++ xs.drop (i + 1) from rfl, Fl_app, eFx] at h3
            have h4 : (((ys x).filter (p1 x)).map (f x)).length = ((((ys x).take j).filter (p1 x)).map (f x)).length + ((((c :: (ys x).drop (j + 1))).filter (p1 x)).map (f x)).length := by
              rw [← List.length_append, ← List.map_append, ← List.filter_append, ← h2]
            have h5 : 1 ≤ ((((c :: (ys x).drop (j + 1))).filter (p1 x)).map (f x)).length := by
              rw [List.filter_cons, if_pos hp1]; simp
            simp only [List.length_append] at h3 ⊢
            omega
          refine ⟨ws6, z3, sz_lt hl, F9, _, ws6 ++ [y9], A1.gro z1, A2.gro z1, g6.trans z1, but_at, but_upd, ?_⟩
          rw [take_s hc, List.filter_append, List.filter_cons, if_pos hp1, List.map_append, ← List.append_assoc]
          exact papp (pmap (fun _ _ z => mox gq.ff z) pw6) (.cons hy .nil)
      · have e : j = (ys x).length := by omega
        subst e
        rw [List.take_length] at pw6
        refine .inl ⟨w1.stop F6 _ g6.ff B2.gr.fh eH6, F6, Hm6, ws6, A1, (g2.trans z1).trans g6, n6, rfl, ?_⟩
        rw [take_s hx, Fl_app, eFx]
        exact pw6
  · have e : i = xs.length := by omega
    subst e
    rw [List.take_length] at pw
    exact .inl ⟨w.stop F' _ g2.ff E3.gr.fh eH0, q D ws F' _ (g1.trans (g2.trans gw)) (g1.hh.back hD) nF' upd_same hlen pw⟩
end
end LK

set_option Elab.async false
set_option linter.all false
set_option maxRecDepth 100000
set_option maxHeartbeats 4000000
set_option autoImplicit false
/-! LD3: judgements for dicts and two fors. -/
namespace R
variable {ε δ α β : Type}
theorem cond_ok {b : Bool} {x y : α} : (cond b (R.ok x) (R.ok y) : R ε α) = R.ok (cond b x y) := by cases b <;> rfl
def okB (x : R ε Bool) : Bool := match x with | .ok b => b | _ => false
def okD [Inhabited β] (x : R ε β) : β := match x with | .ok b => b | _ => default
theorem map_okc [Inhabited β] {p : α → R ε Bool} {f : α → R ε β} : ∀ {xs : List α} {ys : List β}, (R.mapR p f xs : R δ (List β)) = .ok ys → (∀ x ∈ xs, (p x).noer = (.ok (okB (p x)) : R δ Bool) ∧ (okB (p x) = true → (f x).noer = (.ok (okD (f x)) : R δ β))) ∧ ys = (xs.filter fun x => okB (p x)).map fun x => okD (f x) := by
  intro xs
  induction xs with
  | nil => intro ys h; cases h; exact ⟨fun _ z => (nomatch z), rfl⟩
  | cons x xs ih =>
    intro ys h
    unfold R.mapR at h
    cases hp : p x with
    | er y => rw [hp] at h; cases h
    | no => rw [hp] at h; cases h
    | ok b =>
      rw [hp] at h
      cases b with
      | false =>
        have h : (R.mapR p f xs : R δ (List β)) = .ok ys := h
        obtain ⟨h1, h2⟩ := ih h
        refine ⟨fun y hy => ?_, by rw [h2]; simp [hp, okB]⟩
        rcases List.mem_cons.mp hy with e | hy
        · subst e; rw [hp]; exact ⟨rfl, fun z => nomatch z⟩
        · exact h1 y hy
      | true =>
        cases hf : f x with
        | er y => simp only [R.noer, hf, R.ok_bind, cond_true, R.no_bind] at h; cases h
        | no => simp only [R.noer, hf, R.ok_bind, cond_true, R.no_bind] at h; cases h
        | ok y =>
          simp only [R.noer, hf, R.ok_bind, cond_true] at h
          cases hm : (R.mapR p f xs : R δ (List β)) with
          | er z => rw [hm] at h; cases h
          | no => rw [hm] at h; cases h
          | ok zs =>
            rw [hm] at h
            cases h
            obtain ⟨h1, h2⟩ := ih hm
            refine ⟨fun z hz => ?_, by rw [h2]; simp [hp, hf, okB, okD]⟩
            rcases List.mem_cons.mp hz with e | hz
            · subst e; rw [hp, hf]; exact ⟨rfl, fun _ => rfl⟩
            · exact h1 z hz
end R
namespace LJ
open PySem L2 LK LKX PyProof.Rows PySem.Spec
section
variable {C : Cn} {G : List Slot} {m m1 m2 m3 : Md} {a b c e : Expr} {pos p apos : Pos} {x : Str} {κ β : Type} {rk : Rp κ} [ke : Ke rk] {rv : Rp β} [dk : DecidableEq κ] [mk : Mo rk] [mv : Mo rv]
theorem dx_dget1 {F0 H0 : Hp} {ta tb : TE} {y : Er} (h : Dx C F0 H0 ta G y) : Dx C F0 H0 (tDGet ta tb) G y := fun σ F H E w Q => h σ F H E w _
def getR (d : List (κ × β)) (k : κ) : R Er β := match getA d k with
  | some b => .ok b
  | none => .no
theorem xdget {f : R Er (List (κ × β))} {g : R Er κ} {n : Nat} (hr : Room n C.X.A) (ha : XE C a G m (rDk rk rv) f) (hb : XE C b G m2 rk g) (hs : NoSl b := by exact fun _ _ => rfl) : XE C (.Subscript a b pos) G m rv (f.bind fun d => g.bind fun k => getR d k) := ⟨fun F0 H0 => by
  have ha := ha.h F0 H0; have hb := hb.h F0 H0
  refine Dr.le (t := tDGet (tE C.X a) (tE C.X b)) ?_ fun _ _ _ q => tE_le (pe_dget (by have := hr.units; omega) pE pE hs) q
  cases f with
  | no => trivial
  | er y => exact fun σ F H E w Q => ha σ F H E w _
  | ok d =>
    cases g with
    | no => trivial
    | er y => exact fun σ F H E w Q => ha σ F H E _ fun v F1 H1 g1 _ => hb σ F1 H1 (E.gro g1) (fun F' H' cls d g z => w F' H' cls d (g1.trans g) z) _
    | ok k =>
      show Dr C F0 H0 _ G m rv (getR d k)
      unfold getR
      cases h : getA d k with
      | none => trivial
      | some v => exact ed_dget ha hb h⟩
theorem xdin {f : R Er (List (κ × β))} {g : R Er κ} {n : Nat} (hr : Room n C.X.A) (hb : XE C b G m2 rk g) (ha : XE C a G m (rDk rk rv) f) : XC C .In b a G (g.bind fun k => f.bind fun d => .ok (getA d k).isSome) := ⟨fun F0 H0 => by
  have ha := ha.h F0 H0; have hb := hb.h F0 H0
  refine Dr.le (t := tDIn (tE C.X b) (tE C.X a)) ?_ fun _ _ _ q => tCm_le (pc_din (by have := hr.units; omega) pE pE) q
  cases g with
  | no => trivial
  | er y => exact fun σ F H E w Q => hb σ F H E w _
  | ok k =>
    cases f with
    | no => trivial
    | er y => exact fun σ F H E w Q => hb σ F H E _ fun v F1 H1 g1 _ => ha σ F1 H1 (E.gro g1) (fun F' H' cls d g z => w F' H' cls d (g1.trans g) z) _
    | ok d => exact ed_din hb ha⟩
theorem xdni {f : R Er (List (κ × β))} {g : R Er κ} {n : Nat} (hr : Room n C.X.A) (hb : XE C b G m2 rk g) (ha : XE C a G m (rDk rk rv) f) : XC C .NotIn b a G (g.bind fun k => f.bind fun d => .ok (!(getA d k).isSome)) := ⟨fun F0 H0 => by
  have ha := ha.h F0 H0; have hb := hb.h F0 H0
  refine Dr.le (t := tDNotIn (tE C.X b) (tE C.X a)) ?_ fun _ _ _ q => tCm_le (pc_dnotin (by have := hr.units; omega) pE pE) q
  cases g with
  | no => trivial
  | er y => exact fun σ F H E w Q => hb σ F H E w _
  | ok k =>
    cases f with
    | no => trivial
    | er y => exact fun σ F H E w Q => hb σ F H E _ fun v F1 H1 g1 _ => ha σ F1 H1 (E.gro g1) (fun F' H' cls d g z => w F' H' cls d (g1.trans g) z) _
    | ok d => exact ed_dni hb ha⟩
/-- d.get(k, c) -/
theorem xdget2 {f : R Er (List (κ × β))} {g : R Er κ} {h : R Er β} {n : Nat} (hr : Room n C.X.A) (ha : XE C a G m (rDk rk rv) f) (hb : XE C b G m2 rk g) (hc : XE C c G m rv h) (hm : M2 C.X a "get" apos b c pos := by exact ⟨rfl, rfl, rfl, rfl⟩) : XE C (.Call (.Attribute a "get" apos) [b, c] [] pos) G m rv (f.bind fun d => g.bind fun k => h.bind fun u => .ok ((getA d k).getD u)) := ⟨fun F0 H0 => by
  have ha := ha.h F0 H0; have hb := hb.h F0 H0; have hc := hc.h F0 H0
  refine Dr.le (t := tDGet2 (tE C.X a) (tE C.X b) (tE C.X c)) ?_ fun _ _ _ q => tE_le (pe_dget2 (by have := hr.units; omega) pE pE pE hm) q
  have hd : ∀ {d : List (κ × β)} {v : V} {F H F1 H1 : Hp}, Gr F0 H0 F H → Gr F H F1 H1 → rDk rk rv (pk m F1 H0 H1) v d → ∃ p, v = .ref p ∧ IsD H1 p := fun g0 g1 ⟨p, kvs, e, r1, pp⟩ => ⟨p, e, .inl ⟨kvs, rd_now (g0.trans g1) rfl r1⟩⟩
  cases f with
  | no => trivial
  | er y => exact fun σ F H E w Q => ha σ F H E w _
  | ok d =>
    cases g with
    | no => trivial
    | er y =>
      exact fun σ F H E w Q => ha σ F H E _ fun v F1 H1 g1 h1 => by
        obtain ⟨p, e, hp⟩ := hd E.gr g1 h1
        exact ⟨p, e, hp, hb σ F1 H1 (E.gro g1) (fun F' H' cls d g z => w F' H' cls d (g1.trans g) z) _⟩
    | ok k =>
      cases h with
      | no => trivial
      | er y =>
        exact fun σ F H E w Q => ha σ F H E _ fun v F1 H1 g1 h1 => by
          obtain ⟨p, e, hp⟩ := hd E.gr g1 h1
          exact ⟨p, e, hp, hb σ F1 H1 (E.gro g1) _ fun u F2 H2 g2 h2 => hc σ F2 H2 ((E.gro g1).gro g2) (fun F' H' cls d g z => w F' H' cls d ((g1.trans g2).trans g) z) _⟩
      | ok u => exact ed_dget2 ha hb hc⟩
/-- an own dict, read -/
theorem xvd {d : List (κ × β)} {iM : MoM (mD rk rv d)} (i : Nat) (h : G[i]? = some (.ow (mD rk rv d) iM) := by rfl) (hN : C.X.N[i]? = some x := by rfl) (hv : Vis C.X.env.scope x := by first | exact Or.inl rfl | exact Or.inr (Or.inl rfl) | exact Or.inr (Or.inr rfl)) (hd : (x == ("__debug__" : Str)) = false := by decide)
    (hcd : (x == ("__classdict__" : Str)) = false := by decide) : XE C (.Name x pos) G .bo (rDk rk rv) (.ok d) := ⟨fun F0 H0 σ F H E Q q => tE_le (pe_var hN hv hd hcd) (ed_od (F0 := F0) (H0 := H0) h σ F H E Q q)⟩
theorem dv_end {d : List (κ × β)} {F0 H0 : Hp} {t : TE} (h : Endd F0 H0 t G rk rv d) : Dv F0 H0 t G (sD rk rv d) := fun σ F H E Q q => h σ F H E Q fun p kvs F' H' g h1 h2 h3 h4 =>
  q _ F' H' g (env1o (S := [p]) E.gr.fh g (fun a ha => by rw [List.mem_singleton.mp ha]; exact ⟨h1, h2⟩) ⟨rfl, kvs, h3, h4⟩)
theorem xn_dnil : XN C (.Dict [] [] pos) G (fun d => sD rk rv d) (.ok []) := ⟨fun F0 H0 => by
  have h := dv_end (F0 := F0) (H0 := H0) (G := G) (end_nil (rk := rk) (rv := rv))
  exact fun σ F H E Q q => tE_le pe_dnewK (h σ F H E Q q)⟩
instance : Fzz (mD rk rv) (rDk rk rv) := ⟨fun {F F' H p S a} ⟨hS, kvs, e, h1⟩ hp ee => ⟨p, kvs, rfl, .inl (by rw [hp p (by rw [hS]; simp), e]), pmap (fun _ _ z => z.mo ee.s) h1⟩⟩
end
section
variable {C : Cn} {β ρ ε Z S' : Type} {J : Jn β ρ ε Z} {G : List Slot} {slk : S' → List Slot} {e ie : Expr} {rest : List Stmt} {pos p1 p2 : Pos} {m m2 : Md}
def putR {ε' κ γ : Type} [DecidableEq κ] (d : List (κ × γ)) (k : κ) (v : γ) : R ε' (List (κ × γ)) := R.iff (d.length < 16777216) (.ok (putA d k v))
/-- d[k] = v, d own -/
theorem xb_dput {κ γ : Type} {rk : Rp κ} [ke : Ke rk] {rv : Rp γ} [dk : DecidableEq κ] [mk : Mo rk] [fk : Fl rk] [mv : Mo rv] {f : R Er γ} {g : R Er κ} {d : List (κ × γ)} {iM : MoM (mD rk rv d)} {M : List (κ × γ) → (S' → R ε ρ) → R ε ρ} {x : Str} {n : Nat} (i : Nat) (G' : List (κ × γ) → List Slot) (z : Z) (hz : Lw G (J.slz z)) (hi : G[i]? = some (.ow (mD rk rv d) iM)) (hr' : Room n C.X.A)
    (he : XE C e G .sh rv f) (hk : XE C ie G m2 rk g) (hG : ∀ a, G.set i (sD rk rv a) = G' a) (hr : ∀ a, XB C J rest (G' a) slk (M a))
    (hN : C.X.N[i]? = some x := by rfl) (hv : Vis C.X.env.scope x := by first | exact Or.inl rfl | exact Or.inr (Or.inl rfl) | exact Or.inr (Or.inr rfl)) (hd : (x == ("__debug__" : Str)) = false := by decide) (hcd : (x == ("__classdict__" : Str)) = false := by decide)
    (hsw : swapsWith e (some (.Subscript (.Name x p1) ie p2)) pos.line C.X.env = pure false := by rfl) :
    XB C J (.Assign [.Subscript (.Name x p1) ie p2] e pos :: rest) G slk (fun k => f.thn (fun y => J.em y z) fun a => g.thn (fun y => J.em y z) fun j => (putR d j a).bind fun ys => M ys k) := ⟨fun F0 H0 A D an k hkk hA σ F H E => by
  have he := he.h F0 H0; have hk := hk.h F0 H0
  refine tS_le (pss_cons (ps_dput (by have := hr'.units; omega) (pe_var hN hv hd hcd) pE pE hsw) pS) ?_
  cases f with
  | no => exact (an.no hA).elim
  | er y => exact he σ F H E (an.air hz hA E) _
  | ok a =>
    cases g with
    | no => exact (an.no hA).elim
    | er y =>
      exact he σ F H E _ fun v F1 H1 g1 _ => by
        have E1 := E.gro g1
        obtain ⟨p, kvs, hx, _⟩ := E1.d_at hi
        exact ⟨_, hx, hk σ F1 H1 E1 (an.air hz hA E1) _⟩
    | ok j =>
      have hA : A ((putR d j a).bind fun ys => M ys k) := hA
      unfold putR R.iff at hA
      by_cases hl : d.length < 16777216
      · have hA : A (M (putA d j a) k) := by simpa [hl] using hA
        exact gk_dput (nx := tS C.X rest D) (rt := D.rt) (bk := D.bk) (ct := D.ct) hi he hk hl (hG (putA d j a) ▸ (hr (putA d j a)).h F0 H0 A D an k hkk hA) σ F H E
      · simp [hl] at hA; exact (an.no hA).elim⟩
end
/-! ### comprehensions -/
section
variable {C : Cn} {G : List Slot} {m m1 m2 : Md} {a b c elt kx vx tg it tg1 it1 e : Expr} {ifs ifs1 : List Expr} {scope : Scope} {pos p apos : Pos} {x : Str}
/-- {k: v for tg in it if ..} -/
theorem xdc {α κ β : Type} [Inhabited κ] [Inhabited β] {r : Rp α} {rk : Rp κ} [ke : Ke rk] {rv : Rp β} [dk : DecidableEq κ] [mk : Mo rk] [fk : Fl rk] [mv : Mo rv] {fx : R Er (List α)} {up : α → List Slot → List Slot} {tl : List Nat} {pf : α → R Er Bool} {kf : α → R Er κ} {vf : α → R Er β} (own : List (Str × Nat)) (G' : α → List Slot)
    (hi : XI C tg it G m r fx) (hg : ∀ s H Cc cl fp, XG (cnB C s H scope Cc cl fp) tg m r up tl) (hG : ∀ x, up x (wipeG G (own.map (·.2))) = G' x)
    (ht : ∀ s H Cc cl fp x, XQs (cnB C s H scope Cc cl fp) ifs (G' x) (pf x)) (hk : ∀ s H Cc cl fp x, XE (cnB C s H scope Cc cl fp) kx (G' x) .sh rk (kf x)) (he : ∀ s H Cc cl fp x, XE (cnB C s H scope Cc cl fp) vx (G' x) .sh rv (vf x)) (hc : C.X.calm = true := by rfl) (hv : tl.all (fun j => decide (j ∈ own.map (·.2))) = true := by decide) (ok : blkC C.X.N C.X.env.scope scope own = true := by decide +kernel) (hs : ∀ x, foldedSetIterable it C.X.env x = pure x := by intro _; rfl) :
    XN C (.DictComp kx vx [⟨tg, it, ifs, 0⟩] scope pos) G (fun d => sD rk rv d) (fx.bind fun xs => (R.mapR pf (fun x => (kf x).bind fun k => (vf x).bind fun v => .ok (k, v)) xs).bind fun l => .ok (ofA l)) := ⟨fun F0 H0 => by
  have a1 : ∀ (s : Shared) (H : Hp) (Cc : Addr) (cl : List (Str × Addr)) (fp : List Addr), PG (C.X.blk s H scope (compEnvC scope cl Cc C.X.env) fp) tg (bG C.X scope tg) := fun s H Cc cl fp => ⟨fun pins s' σ H' v u Q I r h => h s H Cc cl fp pins s' u I r⟩
  have a2 : ∀ (s : Shared) (H : Hp) (Cc : Addr) (cl : List (Str × Addr)) (fp : List Addr), PTs (C.X.blk s H scope (compEnvC scope cl Cc C.X.env) fp) ifs (bTs C.X scope ifs) := fun s H Cc cl fp => ⟨fun pins s' σ H' Q I h => h s H Cc cl fp pins s' I⟩
  have a3 : ∀ (e : Expr) (s : Shared) (H : Hp) (Cc : Addr) (cl : List (Str × Addr)) (fp : List Addr), PE (C.X.blk s H scope (compEnvC scope cl Cc C.X.env) fp) e (bE C.X scope e) := fun e s H Cc cl fp => ⟨fun pins s' σ H' Q I h => h s H Cc cl fp pins s' I⟩
  refine Ds.le (t := tDc (tI C.X tg it) (bG C.X scope tg) (bTs C.X scope ifs) (bE C.X scope kx) (bE C.X scope vx) (own.map (·.2))) ?_ fun _ _ _ q => tE_le (pe_dc hc C.nd pI (blkOk_by ok) a1 a2 (a3 kx) (a3 vx) hs) q
  have hi := hi.h F0 H0
  cases fx with
  | no => trivial
  | er y => exact fun σ F H E w Q => hi σ F H E w _
  | ok xs =>
    show Ds C F0 H0 _ G _ ((R.mapR pf (fun x => (kf x).bind fun k => (vf x).bind fun v => .ok (k, v)) xs).bind fun l => .ok (ofA l))
    cases hm : (R.mapR pf (fun x => (kf x).bind fun k => (vf x).bind fun v => .ok (k, v)) xs : R Er (List (κ × β))) with
    | no => trivial
    | er y => exact absurd hm (mapR_ner xs)
    | ok ys =>
      obtain ⟨h1, rfl⟩ := R.map_okc hm
      have h2 : ∀ x ∈ xs, R.okB (pf x) = true → ∃ k v, kf x = .ok k ∧ vf x = .ok v ∧ R.okD ((kf x).bind fun k => (vf x).bind fun v => (.ok (k, v) : R Er (κ × β))) = (k, v) := fun x hx hp => by
        have z := (h1 x hx).2 hp
        cases hk : kf x with
        | no => rw [hk] at z; cases z
        | er y => rw [hk] at z; cases z
        | ok k =>
          cases hv : vf x with
          | no => rw [hk, hv] at z; cases z
          | er y => rw [hk, hv] at z; cases z
          | ok v => exact ⟨k, v, rfl, rfl, rfl⟩
      refine dv_end (en_dc (fun x => R.okB (pf x)) (fun x => (R.okD ((kf x).bind fun k => (vf x).bind fun v => (.ok (k, v) : R Er (κ × β)))).1) (fun x => (R.okD ((kf x).bind fun k => (vf x).bind fun v => (.ok (k, v) : R Er (κ × β)))).2) hi (m := m) (r := r) (up := up) (tg := tl) (fun F0 G σ F H v x E hv Q q s H1 Cc cl fp => ((hg s H1 Cc cl fp).h H0).eg F0 G σ F H v x E hv Q q) (fun j hj => of_decide_eq_true (List.all_eq_true.mp hv j hj)) (fun F1 b x hx => ?_) (fun F1 b x hx hp => ?_) (fun F1 b x hx hp => ?_))
      · rw [hG]
        exact fun σ F H E Q q s H1 Cc cl fp => tr_noers rfl ((ht s H1 Cc cl fp x).h F1 H0) (h1 x hx).1 σ F H E Q q
      · rw [hG]
        obtain ⟨k, v, e1, e2, e3⟩ := h2 x hx hp
        rw [e3]
        exact fun σ F H E Q q s H1 Cc cl fp => dr_noer ((hk s H1 Cc cl fp x).h F1 H0) (a := k) (by rw [e1]; rfl) σ F H E Q q
      · rw [hG]
        obtain ⟨k, v, e1, e2, e3⟩ := h2 x hx hp
        rw [e3]
        exact fun σ F H E Q q s H1 Cc cl fp => dr_noer ((he s H1 Cc cl fp x).h F1 H0) (a := v) (by rw [e2]; rfl) σ F H E Q q⟩
/-- [elt for tg in it if .. for tg1 in it1 if ..] -/
theorem xlc2 {α γ β : Type} [Inhabited γ] [Inhabited β] {r : Rp α} {r1 : Rp γ} {r' : Rp β} [mo : Mo r'] {fx : R Er (List α)} {up : α → List Slot → List Slot} {up1 : γ → List Slot → List Slot} {tl tl1 : List Nat} {pf : α → R Er Bool} {gx : α → R Er (List γ)} {pf1 : α → γ → R Er Bool} {ff : α → γ → R Er β} (own : List (Str × Nat)) (vs1 : List Nat) (G' : α → List Slot) (G1 : α → γ → List Slot)
    (hi : XI C tg it G m r fx) (hg : ∀ s H Cc cl fp, XG (cnB C s H scope Cc cl fp) tg m r up tl) (hG : ∀ x, up x (wipeG G (own.map (·.2))) = G' x) (ht : ∀ s H Cc cl fp x, XQs (cnB C s H scope Cc cl fp) ifs (G' x) (pf x))
    (hi1 : ∀ s H Cc cl fp x, XI (cnB C s H scope Cc cl fp) tg1 it1 (G' x) m1 r1 (gx x)) (hg1 : ∀ s H Cc cl fp, XG (cnB C s H scope Cc cl fp) tg1 m1 r1 up1 tl1) (hG1 : ∀ x y, up1 y (wipeG (G' x) vs1) = G1 x y) (ht1 : ∀ s H Cc cl fp x y, XQs (cnB C s H scope Cc cl fp) ifs1 (G1 x y) (pf1 x y))
    (he : ∀ s H Cc cl fp x y, XE (cnB C s H scope Cc cl fp) elt (G1 x y) .sh r' (ff x y)) (hc : C.X.calm = true := by rfl) (hv : tl.all (fun j => decide (j ∈ own.map (·.2))) = true := by decide) (hv1 : tl1.all (fun j => decide (j ∈ vs1)) = true := by decide) (hv2 : vs1.all (fun j => decide (j ∈ own.map (·.2))) = true := by decide) (ok : blkC C.X.N C.X.env.scope scope own = true := by decide +kernel) (hs : ∀ x, foldedSetIterable it C.X.env x = pure x := by intro _; rfl) (hs1 : ∀ env x, foldedSetIterable it1 env x = pure x := by intro _ _; rfl) :
    XLc C (.ListComp elt [⟨tg, it, ifs, 0⟩, ⟨tg1, it1, ifs1, 0⟩] scope pos) G (fun xs => sL r' xs) (fx.bind fun xs => (R.mapR pf (fun x => (gx x).bind fun ys => (R.mapR (pf1 x) (ff x) ys : R Er (List β))) xs).bind fun zs => lenR zs.flatten) := by
  have a1 : ∀ (tg : Expr) (s : Shared) (H : Hp) (Cc : Addr) (cl : List (Str × Addr)) (fp : List Addr), PG (C.X.blk s H scope (compEnvC scope cl Cc C.X.env) fp) tg (bG C.X scope tg) := fun tg s H Cc cl fp => ⟨fun pins s' σ H' v u Q I r h => h s H Cc cl fp pins s' u I r⟩
  have a2 : ∀ (ifs : List Expr) (s : Shared) (H : Hp) (Cc : Addr) (cl : List (Str × Addr)) (fp : List Addr), PTs (C.X.blk s H scope (compEnvC scope cl Cc C.X.env) fp) ifs (bTs C.X scope ifs) := fun ifs s H Cc cl fp => ⟨fun pins s' σ H' Q I h => h s H Cc cl fp pins s' I⟩
  have a3 : ∀ (s : Shared) (H : Hp) (Cc : Addr) (cl : List (Str × Addr)) (fp : List Addr), PE (C.X.blk s H scope (compEnvC scope cl Cc C.X.env) fp) elt (bE C.X scope elt) := fun s H Cc cl fp => ⟨fun pins s' σ H' Q I h => h s H Cc cl fp pins s' I⟩
  have a4 : ∀ (s : Shared) (H : Hp) (Cc : Addr) (cl : List (Str × Addr)) (fp : List Addr), PI (C.X.blk s H scope (compEnvC scope cl Cc C.X.env) fp) tg1 it1 (bI C.X scope tg1 it1) := fun s H Cc cl fp => ⟨fun pins s' σ H' R I h => h s H Cc cl fp pins s' I⟩
  have av : ∀ i ∈ vs1, i ∈ own.map (·.2) := fun j hj => of_decide_eq_true (List.all_eq_true.mp hv2 j hj)
  refine ⟨tLc2 (tI C.X tg it) (bG C.X scope tg) (bTs C.X scope ifs) (bI C.X scope tg1 it1) (bG C.X scope tg1) (bTs C.X scope ifs1) (bE C.X scope elt) (own.map (·.2)) vs1, ⟨pe_lc2 hc C.nd pI (blkOk_by ok) av (a1 tg) (a2 ifs) a4 (a1 tg1) (a2 ifs1) a3 hs hs1, fun hy hyl hsw => ps_setLc2 hc C.nd hy hyl hsw pI (blkOk_by ok) av (a1 tg) (a2 ifs) a4 (a1 tg1) (a2 ifs1) a3 hs hs1⟩, fun F0 H0 => ?_⟩
  have hi := hi.h F0 H0
  cases fx with
  | no => trivial
  | er y => exact fun σ F H E w Q => hi σ F H E w _
  | ok xs =>
    show Ds C F0 H0 _ G _ ((R.mapR pf (fun x => (gx x).bind fun ys => (R.mapR (pf1 x) (ff x) ys : R Er (List β))) xs).bind fun zs => lenR zs.flatten)
    cases hm : (R.mapR pf (fun x => (gx x).bind fun ys => (R.mapR (pf1 x) (ff x) ys : R Er (List β))) xs : R Er (List (List β))) with
    | no => trivial
    | er y => exact absurd hm (mapR_ner xs)
    | ok zs =>
      obtain ⟨h1, rfl⟩ := R.map_okc hm
      refine ds_iff fun hlen => ?_
      have h2 : ∀ x ∈ xs, R.okB (pf x) = true → (∃ ys, gx x = .ok ys) ∧ R.okD ((gx x).bind fun ys => (R.mapR (pf1 x) (ff x) ys : R Er (List β))) = ((R.okD (gx x)).filter fun y => R.okB (pf1 x y)).map (fun y => R.okD (ff x y)) ∧ ∀ y ∈ R.okD (gx x), (pf1 x y).noer = (.ok (R.okB (pf1 x y)) : R Er Bool) ∧ (R.okB (pf1 x y) = true → (ff x y).noer = (.ok (R.okD (ff x y)) : R Er β)) := fun x hx hp => by
        have z := (h1 x hx).2 hp
        cases hk : gx x with
        | no => rw [hk] at z; cases z
        | er y => rw [hk] at z; cases z
        | ok ys =>
          rw [hk] at z
          simp only [R.ok_bind] at z ⊢
          cases hm2 : (R.mapR (pf1 x) (ff x) ys : R Er (List β)) with
          | no => rw [hm2] at z; cases z
          | er y => rw [hm2] at z; cases z
          | ok ws =>
            obtain ⟨k1, k2⟩ := R.map_okc hm2
            exact ⟨⟨ys, rfl⟩, k2, k1⟩
      have e : ((xs.filter fun x => R.okB (pf x)).map fun x => R.okD ((gx x).bind fun ys => (R.mapR (pf1 x) (ff x) ys : R Er (List β)))) = (xs.filter fun x => R.okB (pf x)).map fun x => ((R.okD (gx x)).filter fun y => R.okB (pf1 x y)).map (fun y => R.okD (ff x y)) :=
        List.map_congr_left fun x hx => (h2 x (List.mem_filter.mp hx).1 (List.mem_filter.mp hx).2).2.1
      rw [e] at hlen ⊢
      refine dv_en (en_lc2 (fun x => R.okB (pf x)) (fun x => R.okD (gx x)) (fun x y => R.okB (pf1 x y)) (fun x y => R.okD (ff x y)) hi (m := m) (r := r) (up := up) (tg := tl) (up1 := up1) (tg1 := tl1) (m1 := m1) (r1 := r1) (fun F0 G σ F H v x E hv Q q s H1 Cc cl fp => (hg s H1 Cc cl fp).h H0 F0 G σ F H v x E hv Q q) (fun j hj => of_decide_eq_true (List.all_eq_true.mp hv j hj)) (fun F1 b x hx => ?_) (fun F1 b x hx hp => ?_)
        (fun F0 G σ F H v x E hv Q q s H1 Cc cl fp => (hg1 s H1 Cc cl fp).h H0 F0 G σ F H v x E hv Q q) (fun j hj => of_decide_eq_true (List.all_eq_true.mp hv1 j hj)) (fun F1 b x hx hp y hy => ?_) (fun F1 b x hx hp y hy hp1 => ?_) hlen)
      · rw [hG]
        exact fun σ F H E Q q s H1 Cc cl fp => tr_noers rfl ((ht s H1 Cc cl fp x).h F1 H0) (h1 x hx).1 σ F H E Q q
      · rw [hG]
        obtain ⟨⟨ys, e1⟩, e2, e3⟩ := h2 x hx hp
        intro σ F H E Rr q s H1 Cc cl fp
        have z := (hi1 s H1 Cc cl fp x).h F1 H0
        rw [e1] at z
        refine z σ F H E Rr fun J F1 H1 g w hl => q J F1 H1 g ?_ ?_
        · rw [e1]; exact w
        · rw [e1]; exact hl
      · rw [hG, hG1]
        exact fun σ F H E Q q s H1 Cc cl fp => tr_noers rfl ((ht1 s H1 Cc cl fp x y).h F1 H0) ((h2 x hx hp).2.2 y hy).1 σ F H E Q q
      · rw [hG, hG1]
        exact fun σ F H E Q q s H1 Cc cl fp => dr_noer ((he s H1 Cc cl fp x y).h F1 H0) (((h2 x hx hp).2.2 y hy).2 hp1) σ F H E Q q
end
end LJ

set_option Elab.async false
set_option linter.all false
set_option maxRecDepth 100000
set_option maxHeartbeats 4000000
set_option autoImplicit false
/-! LB1: own instances, where what is raised is wished for at the caller's slots: making, methods, properties, classmethods, own operators. -/
namespace LKB
open PySem L2 PyProof.Rows PySem.Spec
section
variable {X : Cx} {CX : CXT} {k : Nat} {f C g p : Addr} {fd : FuncData} {ps : List Str} {sp : Sp} {dvs : List V} {ds : List Value} {E : L2.St → XK} {x m : Str} {p0 pos apos : Pos} {e o a b : Expr} {es : List Expr} {ta tb tv : TE} {t : TA}
/-- a call somewhere below -/
theorem code_in {A : Around} {pins : List (Addr × Obj)} {σ : L2.St} {H : Hp} {s : Shared} {Q : VK} {us : List Value} {vs : List V} (F : FnOk X.prog X.w X.K X.mg X.base CX k f fd ps sp) (hr : Room k A) (e0 : Env0 X.prog X.w X.K X.mg X.base A X.stack s H) (hb : Binds X.K fd ps ds) (hd : Vals dvs ds) (hx : PassesAt CX X σ (E σ))
    (I : Inv X pins σ H s) (r : Vals vs us) (h : sp (vs ++ dvs) H Q (E σ)) : codeAny (model X.prog X.w) A (.call (.ref f) ⟨us, []⟩) (wants (EP X pins σ Q) X.xe) s := by
  have r2 : Vals (vs ++ dvs) (us ++ ds) := r.append hd
  have hl : (us ++ ds).length = ps.length := by rw [← r2.length]; exact F.len _ _ _ _ h
  refine codeAny_mono (F.run A X.stack s H ⟨us, []⟩ (us ++ ds) (vs ++ dvs) Q (E σ) hr e0 (hb s us I.kIn hl) r2 h) fun r s' hq => ?_
  cases r with
  | error e => exact hx pins H s e s' I hq
  | ok fl =>
    cases fl with
    | ret u => exact I.after hq
    | next => exact False.elim hq
    | brk => exact False.elim hq
    | cont => exact False.elim hq
theorem run_in {A : Around} {pins : List (Addr × Obj)} {σ : L2.St} {H : Hp} {s : Shared} {Q : VK} {us : List Value} {vs : List V} (F : FnOk X.prog X.w X.K X.mg X.base CX k f fd ps sp) (hr : Room k A) (e0 : Env0 X.prog X.w X.K X.mg X.base A X.stack s H) (hb : Binds X.K fd ps ds) (hd : Vals dvs ds) (hx : PassesAt CX X σ (E σ))
    (I : Inv X pins σ H s) (r : Vals vs us) (h : sp (vs ++ dvs) H Q (E σ)) : wpAny (model X.prog X.w) A (call (.ref f) us) (EP X pins σ Q) X.xe s := wpAny_call (code_in F hr e0 hb hd hx I r h)
/-- C(..) -/
def tMakeS (C : Addr) (sp : Sp) (dvs : List V) (E : L2.St → XK) (t : TA) : TE := fun σ H Q => t σ H fun vs H1 => ∀ x dx, H1 x = none → H1 dx = none → dx ≠ x →
  sp (.ref x :: (vs ++ dvs)) (upd (upd H1 dx (.own x)) x (.ins C dx [])) (fun v H2 => v = .non ∧ Q (.ref x) H2) (E σ)
theorem run_makeS {pins : List (Addr × Obj)} {σ : L2.St} {H : Hp} {s : Shared} {Q : VK} {us : List Value} {vs : List V} (M : Mk X.K C f) (F : FnOk X.prog X.w X.K X.mg X.base CX k f fd ps sp) (hr : Room (k + 1) X.A) (hb : Binds X.K fd ps ds) (hd : Vals dvs ds)
    (hx : PassesAt CX X σ (E σ)) (I : Inv X pins σ H s) (r : Vals vs us)
    (h : ∀ x dx, H x = none → H dx = none → dx ≠ x → sp (.ref x :: (vs ++ dvs)) (upd (upd H dx (.own x)) x (.ins C dx [])) (fun v H2 => v = .non ∧ Q (.ref x) H2) (E σ)) :
    wpAny (model X.prog X.w) X.A (call (.ref C) us) (EP X pins σ Q) X.xe s := by
  have hq := h (s.heap.objs.size + 1) s.heap.objs.size (I.hok.fresh (Nat.le_succ _)) (I.hok.fresh (Nat.le_refl _)) (Nat.ne_of_lt (Nat.lt_succ_self _))
  have I2 := Inv.made (C := C) I
  have r2 : Vals (V.ref (s.heap.objs.size + 1) :: (vs ++ dvs)) (Value.ref (s.heap.objs.size + 1) :: (us ++ ds)) := .cons rfl (r.append hd)
  have hl : (Value.ref (s.heap.objs.size + 1) :: us ++ ds).length = ps.length := by
    have e := r2.length
    rw [F.len _ _ _ _ hq] at e
    exact e.symm
  refine wpAny_call (make_map (f := f) I.kIn M.makes M.init (beq_iff_eq.mp M.fn) (codeAny_mono (F.run _ X.stack _ _ ⟨Value.ref (s.heap.objs.size + 1) :: us, []⟩ (Value.ref (s.heap.objs.size + 1) :: (us ++ ds)) _ _ (E σ) (hr.make C us [])
    (I2.env0.make C us []) (hb _ (Value.ref (s.heap.objs.size + 1) :: us) I2.kIn hl) r2 hq) fun r s' hq' => ?_))
  cases r with
  | error e => exact hx pins _ _ e s' I2 hq'
  | ok fl =>
    cases fl with
    | ret u =>
      obtain ⟨v, H', I3, rv, ev, q3⟩ := I2.after hq'
      subst ev
      exact ⟨rv, ⟨V.ref (s.heap.objs.size + 1), H', I3, rfl, q3⟩⟩
    | next => exact False.elim hq'
    | brk => exact False.elim hq'
    | cont => exact False.elim hq'
theorem pe_makeS (M : Mk X.K C f) (F : FnOk X.prog X.w X.K X.mg X.base CX k f fd ps sp) (hr : Room (k + 1) X.A) (hg : Gl X x) (hm : X.mg x = some (.ref C)) (hb : Binds X.K fd ps ds) (hd : Vals dvs ds) (hx : ∀ σ, PassesAt CX X σ (E σ))
    (ha : PA X (e :: es) t) (hdb : (x == ("__debug__" : Str)) = false := by decide) (he : starEach (e :: es) X.env = (false, eval e X.env) :: starEach es X.env := by rfl) (hpl : (backTo pos (starEach es X.env)).any (·.1) = false := by rfl) :
    PE X (.Call (.Name x p0) (e :: es) [] pos) (tMakeS C sp dvs E t) := by
  refine ⟨fun pins s σ H Q I h => ?_⟩
  refine wpAny_Call_Name_kw (ld_glob I hg hm ?_ hdb)
  refine PySem.W.callWith_K (h₀ := X.base) I.ok.mod.kin M.kp (thn (ha.run pos pins s σ H _ I h) fun us s1 ⟨vs, H1, I1, r, q⟩ => ⟨I1.kIn, ?_⟩) he hpl
  exact run_makeS M F hr hb hd (hx σ) I1 r q
/-- c(..), c a local that holds the class -/
theorem pe_makeSL {i : Nat} (M : Mk X.K C f) (F : FnOk X.prog X.w X.K X.mg X.base CX k f fd ps sp) (hr : Room (k + 1) X.A) (hb : Binds X.K fd ps ds) (hd : Vals dvs ds) (hx : ∀ σ, PassesAt CX X σ (E σ))
    (hi : X.N[i]? = some x) (hvis : Vis X.env.scope x) (hdb : (x == ("__debug__" : Str)) = false) (hcd : (x == ("__classdict__" : Str)) = false)
    (ha : PA X (e :: es) t) (he : starEach (e :: es) X.env = (false, eval e X.env) :: starEach es X.env := by rfl) (hpl : (backTo pos (starEach es X.env)).any (·.1) = false := by rfl) :
    PE X (.Call (.Name x p0) (e :: es) [] pos) (fun σ H Q => σ[i]? = some (some (.ref C)) ∧ tMakeS C sp dvs E t σ H Q) := by
  refine ⟨fun pins s σ H Q I h => ?_⟩
  obtain ⟨hs, h⟩ := h
  refine wpAny_Call_Name_kw ?_
  have z := (pe_var (X := X) (pos := p0) hi hvis hdb hcd).run pins s σ H (fun v H' => v = .ref C ∧ H' = H) I ⟨_, hs, rfl, rfl⟩
  refine wpAny_mono z (fun u s1 q => ?_) fun _ _ z => z
  obtain ⟨v, H1, I1, rv, ev, eH⟩ := q
  subst ev eH
  obtain rfl : u = Value.ref C := rv
  refine PySem.W.callWith_K (h₀ := X.base) I.ok.mod.kin M.kp (thn (ha.run pos pins s1 σ _ _ I1 h) fun us s2 ⟨vs, H2, I2, r, q⟩ => ⟨I2.kIn, ?_⟩) he hpl
  exact run_makeS M F hr hb hd (hx σ) I2 r q
/-- o.m(e, ..) -/
def tMethS (C : Addr) (m : Str) (sp : Sp) (dvs : List V) (E : L2.St → XK) (ta : TE) (t : TA) : TE := fun σ H Q => ta σ H fun x H1 => ∃ a dx fs, x = .ref a ∧ H1 a = some (.ins C dx fs) ∧ fs.lookup m = none ∧
  t σ H1 fun vs H2 => sp (x :: (vs ++ dvs)) H2 Q (E σ)
theorem pe_methS {pl : Sem Bool} (he : PE X o ta) (c : Cls X.K C) (hm : Meth X.K C m f) (F : FnOk X.prog X.w X.K X.mg X.base CX k f fd ps sp) (hr : Room k X.A) (hb : Binds X.K fd ps ds) (hd : Vals dvs ds) (hx : ∀ σ, PassesAt CX X σ (E σ)) (ha : PA X (e :: es) t)
    (hst : starEach (e :: es) X.env = (false, eval e X.env) :: starEach es X.env := by rfl) (hpl : (backTo pos (starEach es X.env)).any (·.1) = false := by rfl)
    (ht : eval (.Call (.Attribute o m apos) (e :: es) [] pos) X.env = (do
      let ov ← eval o X.env
      standAt apos.atName
      let (f, first) ← holding [ov] (getMethod ov m pl)
      callWith pos f first (backTo pos (starEach (e :: es) X.env)) (backToKw pos (keywordEach [] X.env))) := by rfl) :
    PE X (.Call (.Attribute o m apos) (e :: es) [] pos) (tMethS C m sp dvs E ta t) := by
  refine ⟨fun pins s σ H Q I h => ?_⟩
  refine PySem.W.methodCall_KW (pl := pl) (thn (he.run pins s σ H _ I h) fun u s1 ⟨x, H1, I1, rx, a, dx, fs, ex, ea, l, q⟩ => ?_) ht
  subst ex
  obtain rfl : u = Value.ref a := rx
  refine getmeth_ok I1 ea c hm l ?_
  refine PySem.W.callWith_K (first := [.ref a]) (h₀ := X.base) I.ok.mod.kin hm.kp (thn (ha.run pos pins s1 σ H1 _ I1 q) fun us s2 ⟨vs, H2, I2, r, q2⟩ => ⟨I2.kIn, ?_⟩) hst hpl
  exact run_in (us := .ref a :: us) (vs := .ref a :: vs) F hr I2.env0 hb hd (hx σ) I2 (.cons rfl r) q2
theorem pe_methS0 {pl : Sem Bool} (he : PE X o ta) (c : Cls X.K C) (hm : Meth X.K C m f) (F : FnOk X.prog X.w X.K X.mg X.base CX k f fd ps sp) (hr : Room k X.A) (hb : Binds X.K fd ps ds) (hd : Vals dvs ds) (hx : ∀ σ, PassesAt CX X σ (E σ))
    (ht : eval (.Call (.Attribute o m apos) [] [] pos) X.env = (do
      let ov ← eval o X.env
      standAt apos.atName
      let (f, first) ← holding [ov] (getMethod ov m pl)
      callWith pos f first (backTo pos (starEach [] X.env)) (backToKw pos (keywordEach [] X.env))) := by rfl) :
    PE X (.Call (.Attribute o m apos) [] [] pos) (tMethS C m sp dvs E ta tNil) := by
  refine ⟨fun pins s σ H Q I h => ?_⟩
  refine PySem.W.methodCall_KW (pl := pl) (thn (he.run pins s σ H _ I h) fun u s1 ⟨x, H1, I1, rx, a, dx, fs, ex, ea, l, q⟩ => ?_) ht
  subst ex
  obtain rfl : u = Value.ref a := rx
  refine getmeth_ok I1 ea c hm l ?_
  exact PySem.W.callWith_K0 I1.kIn hm.kp (run_in (us := [.ref a]) (vs := [.ref a]) F hr I1.env0 hb hd (hx σ) I1 (.cons rfl .nil) q)
/-! ### own operators -/
structure OwnM (K : PySem.W.Frag) (C f : Addr) (name : Str) : Prop where
  at_ : PySem.W.findIn K (.ref C) name = some (some (.ref f))
  fn : PySem.W.isFn K (.ref f) = true
/-- two operands, the first is the object -/
def tOwn2 (C : Addr) (sp : Sp) (E : L2.St → XK) (ta tb : TE) : TE := fun σ H Q => ta σ H fun x H1 => tb σ H1 fun y H2 => ∃ a dx fs, x = .ref a ∧ H2 a = some (.ins C dx fs) ∧ sp [x, y] H2 Q (E σ)
/-- a[b] -/
theorem pe_ownGet (ha : PE X a ta) (hb' : PE X b tb) (O : OwnM X.K C f "__getitem__") (hf : PySem.W.fnIn X.K f = true) (F : FnOk X.prog X.w X.K X.mg X.base CX k f fd ps sp) (hr : Room (k + 1) X.A) (hb : Binds X.K fd ps []) (hx : ∀ σ, PassesAt CX X σ (E σ))
    (hsl : ∀ x i, subscripted b true x i = runValue (.builtin "lifetime.subscript" ⟨[x, i], []⟩)) : PE X (.Subscript a b pos) (tOwn2 C sp E ta tb) := by
  refine ⟨fun pins s σ H Q I h => ?_⟩
  refine Subscript_ (thn (ha.run pins s σ H _ I h) fun v s1 ⟨x, H1, I1, rx, q1⟩ => thn (hb'.run pins s1 σ H1 _ I1 q1) fun u s2 ⟨y, H2, I2, ry, a', dx, fs, ex, ea, q⟩ => ?_)
  subst ex
  obtain rfl : v = Value.ref a' := rx
  obtain ⟨mA, J, _⟩ := ins_get I2.hok ea
  obtain ⟨od, J, _⟩ := J.look
  obtain ⟨m, hF⟩ := I2.fr
  refine PySem.W.sub_K hF I2.ok.mod.kin J O.at_ hf O.fn ?_ (hsl _ _)
  exact run_in (us := [.ref a', u]) (vs := [.ref a', y]) (dvs := []) (ds := []) F hr.in1 I2.env0.in1 hb .nil (hx σ) I2 (.cons rfl (.cons ry .nil)) q
/-- a[i] = v -/
def sOwnSet (C : Addr) (sp : Sp) (E : L2.St → XK) (ta tb tv : TE) : TS := fun D σ H => tv σ H fun z H1 => ta σ H1 fun x H2 => tb σ H2 fun y H3 => ∃ a dx fs, x = .ref a ∧ H3 a = some (.ins C dx fs) ∧ sp [x, y, z] H3 (fun _ H4 => D.nx σ H4) (E σ)
theorem ps_ownSet {pos' : Pos} (ha : PE X a ta) (hb' : PE X b tb) (hv : PE X e tv) (O : OwnM X.K C f "__setitem__") (hq : PySem.W.noSeq X.K C = true) (F : FnOk X.prog X.w X.K X.mg X.base CX k f fd ps sp) (hr : Room k X.A) (hb : Binds X.K fd ps []) (hx : ∀ σ, PassesAt CX X σ (E σ))
    (hs : swapsWith e (some (.Subscript a b pos')) pos.line X.env = pure false) : PS X (.Assign [.Subscript a b pos'] e pos) (sOwnSet C sp E ta tb tv) := by
  refine ⟨fun pins s σ H D I h => ?_⟩
  refine wpAny_Assign_Subscript (thn (hv.run pins s σ H _ I h) fun r s1 ⟨z, H1, I1, rv, q1⟩ => thn (ha.run pins s1 σ H1 _ I1 q1) fun u s2 ⟨x, H2, I2, rx, q2⟩ => thn (hb'.run pins s2 σ H2 _ I2 q2) fun iv s3 ⟨y, H3, I3, ry, a', dx, fs, ex, ea, q3⟩ => ?_) hs
  subst ex
  obtain rfl : u = Value.ref a' := rx
  obtain ⟨mA, J, _⟩ := ins_get I3.hok ea
  obtain ⟨od, J, _⟩ := J.look
  obtain ⟨m, hF⟩ := I3.fr
  refine PySem.W.ksp_setItem hF I3.ok.mod.kin J hq O.at_ O.fn ?_
  refine wpAny_mono (run_in (us := [.ref a', iv, r]) (vs := [.ref a', y, z]) (dvs := []) (ds := []) F hr I3.env0 hb .nil (hx σ) I3 (.cons rfl (.cons ry (.cons rv .nil))) q3) (fun w s4 q => ?_) fun _ _ z => z
  obtain ⟨v, H4, I4, _, q⟩ := q
  exact ⟨σ, H4, I4, q⟩
/-- y in a -/
def tOwnIn (C : Addr) (sp : Sp) (E : L2.St → XK) (fl : Bool → Bool) (tb ta : TE) : TE := fun σ H Q => tb σ H fun y H1 => ta σ H1 fun x H2 => ∃ a dx fs, x = .ref a ∧ H2 a = some (.ins C dx fs) ∧ sp [x, y] H2 (fun v H3 => ∃ c, v = .bl c ∧ Q (.bl (fl c)) H3) (E σ)
theorem pc_ownIn (ha : PE X a ta) (hb' : PE X b tb) (O : OwnM X.K C f "__contains__") (F : FnOk X.prog X.w X.K X.mg X.base CX k f fd ps sp) (hr : Room k X.A) (hb : Binds X.K fd ps []) (hx : ∀ σ, PassesAt CX X σ (E σ)) : PC X .In b a (tOwnIn C sp E id tb ta) := by
  refine ⟨fun pins s σ H Q I h => ?_⟩
  refine thn (hb'.run pins s σ H _ I h) fun iv s1 ⟨y, H1, I1, ry, q1⟩ => thn (ha.run pins s1 σ H1 _ I1 q1) fun u s2 ⟨x, H2, I2, rx, a', dx, fs, ex, ea, q⟩ => ?_
  subst ex
  obtain rfl : u = Value.ref a' := rx
  obtain ⟨mA, J, _⟩ := ins_get I2.hok ea
  obtain ⟨od, J, _⟩ := J.look
  obtain ⟨m, hF⟩ := I2.fr
  refine PySem.W.in_K hF I2.ok.mod.kin J O.at_ O.fn (wpAny_mono (run_in (us := [.ref a', iv]) (vs := [.ref a', y]) (dvs := []) (ds := []) F hr I2.env0 hb .nil (hx σ) I2 (.cons rfl (.cons ry .nil)) q) (fun w s4 q => ?_) fun _ _ z => z)
  obtain ⟨v, H4, I4, rv, c, ec, q⟩ := q
  subst ec
  cases rv
  exact wpAny_truthy_bool ⟨.bl c, H4, I4, rfl, q⟩
theorem pc_ownNi (ha : PE X a ta) (hb' : PE X b tb) (O : OwnM X.K C f "__contains__") (F : FnOk X.prog X.w X.K X.mg X.base CX k f fd ps sp) (hr : Room k X.A) (hb : Binds X.K fd ps []) (hx : ∀ σ, PassesAt CX X σ (E σ)) : PC X .NotIn b a (tOwnIn C sp E (fun c => !c) tb ta) := by
  refine ⟨fun pins s σ H Q I h => ?_⟩
  refine thn (hb'.run pins s σ H _ I h) fun iv s1 ⟨y, H1, I1, ry, q1⟩ => thn (ha.run pins s1 σ H1 _ I1 q1) fun u s2 ⟨x, H2, I2, rx, a', dx, fs, ex, ea, q⟩ => ?_
  subst ex
  obtain rfl : u = Value.ref a' := rx
  obtain ⟨mA, J, _⟩ := ins_get I2.hok ea
  obtain ⟨od, J, _⟩ := J.look
  obtain ⟨m, hF⟩ := I2.fr
  refine PySem.W.notIn_K hF I2.ok.mod.kin J O.at_ O.fn (wpAny_mono (run_in (us := [.ref a', iv]) (vs := [.ref a', y]) (dvs := []) (ds := []) F hr I2.env0 hb .nil (hx σ) I2 (.cons rfl (.cons ry .nil)) q) (fun w s4 q => ?_) fun _ _ z => z)
  obtain ⟨v, H4, I4, rv, c, ec, q⟩ := q
  subst ec
  cases rv
  exact wpAny_truthy_bool ⟨.bl (!c), H4, I4, rfl, q⟩
/-- a op b, both of the class; the answer is not NotImplemented -/
def notNI : V → Prop := fun v => ∀ u, RelV v u → u ≠ .notImplemented
def tOwnB (C : Addr) (sp : Sp) (E : L2.St → XK) (ta tb : TE) : TE := fun σ H Q => ta σ H fun x H1 => tb σ H1 fun y H2 => ∃ a dx fs b dy gs, x = .ref a ∧ y = .ref b ∧ H2 a = some (.ins C dx fs) ∧ H2 b = some (.ins C dy gs) ∧ sp [x, y] H2 (fun v H3 => notNI v ∧ Q v H3) (E σ)
theorem cmpBack_of {Q : Value → Shared → Prop} {v : Value} {s : Shared} (h : v ≠ .notImplemented) (q : Q v s) : PySem.W.CmpBack Q v s := by
  cases v <;> first | exact q | exact absurd rfl h
theorem pe_ownBin {op : Operator} (ha : PE X a ta) (hb' : PE X b tb) (O : OwnM X.K C f (PySem.dunder op.info.2)) (hc : PySem.W.selfFirst X.K C = true) (F : FnOk X.prog X.w X.K X.mg X.base CX k f fd ps sp) (hr : Room k X.A) (hb : Binds X.K fd ps []) (hx : ∀ σ, PassesAt CX X σ (E σ)) :
    PE X (.BinOp a op b pos) (tOwnB C sp E ta tb) := by
  refine ⟨fun pins s σ H Q I h => ?_⟩
  refine wpAny_BinOp (thn (ha.run pins s σ H _ I h) fun u s1 ⟨x, H1, I1, rx, q1⟩ => thn (hb'.run pins s1 σ H1 _ I1 q1) fun iv s2 ⟨y, H2, I2, ry, a', dx, fs, b', dy, gs, ex, ey, ea, eb, q⟩ => ?_)
  subst ex ey
  obtain rfl : u = Value.ref a' := rx
  obtain rfl : iv = Value.ref b' := ry
  obtain ⟨mA, J, _⟩ := ins_get I2.hok ea
  obtain ⟨od, J, _⟩ := J.look
  obtain ⟨mB, J', _⟩ := ins_get I2.hok eb
  obtain ⟨od', J', _⟩ := J'.look
  obtain ⟨m, hF⟩ := I2.fr
  refine PySem.W.binop_K hF I2.ok.mod.kin J J'.type hc O.at_ O.fn (wpAny_mono (run_in (us := [.ref a', .ref b']) (vs := [.ref a', .ref b']) (dvs := []) (ds := []) F hr I2.env0 hb .nil (hx σ) I2 (.cons rfl (.cons rfl .nil)) q) (fun w s4 q => ?_) fun _ _ z => z)
  obtain ⟨v, H4, I4, rv, nn, q⟩ := q
  exact cmpBack_of (nn _ rv) ⟨v, H4, I4, rv, q⟩
theorem pc_ownCmp {op : CmpOp} (ha : PE X a ta) (hb' : PE X b tb) (O : OwnM X.K C f (cmpInfo op).2.1) (hop : compareOp op = richCompare op) (F : FnOk X.prog X.w X.K X.mg X.base CX k f fd ps sp) (hr : Room k X.A) (hb : Binds X.K fd ps []) (hx : ∀ σ, PassesAt CX X σ (E σ)) :
    PC X op a b (tOwnB C sp E ta tb) := by
  refine ⟨fun pins s σ H Q I h => ?_⟩
  refine thn (ha.run pins s σ H _ I h) fun u s1 ⟨x, H1, I1, rx, q1⟩ => thn (hb'.run pins s1 σ H1 _ I1 q1) fun iv s2 ⟨y, H2, I2, ry, a', dx, fs, b', dy, gs, ex, ey, ea, eb, q⟩ => ?_
  subst ex ey
  obtain rfl : u = Value.ref a' := rx
  obtain rfl : iv = Value.ref b' := ry
  obtain ⟨mA, J, _⟩ := ins_get I2.hok ea
  obtain ⟨od, J, _⟩ := J.look
  obtain ⟨mB, J', _⟩ := ins_get I2.hok eb
  obtain ⟨od', J', _⟩ := J'.look
  obtain ⟨m, hF⟩ := I2.fr
  rw [hop]
  refine PySem.W.cmp_K (tb := .ref C) hr.units0 hF I2.ok.mod.kin J J'.type (by simp [PySem.W.notFirst]) O.at_ O.fn (wpAny_mono (run_in (us := [.ref a', .ref b']) (vs := [.ref a', .ref b']) (dvs := []) (ds := []) F hr I2.env0 hb .nil (hx σ) I2 (.cons rfl (.cons rfl .nil)) q) (fun w s4 q => ?_) fun _ _ z => z)
  obtain ⟨v, H4, I4, rv, nn, q⟩ := q
  exact cmpBack_of (nn _ rv) ⟨v, H4, I4, rv, q⟩
/-- e.f, a property -/
def tPropS (C : Addr) (sp : Sp) (E : L2.St → XK) (ta : TE) : TE := fun σ H Q => ta σ H fun x H1 => ∃ a dx fs, x = .ref a ∧ H1 a = some (.ins C dx fs) ∧ sp [.ref a] H1 Q (E σ)
theorem pe_propS {f : Str} (he : PE X e ta) (c : Cls X.K C) (hp : PropOf X.K C f p g) (F : FnOk X.prog X.w X.K X.mg X.base CX k g fd ps sp) (hr : Room (k + 1) X.A) (hb : Binds X.K fd ps []) (hx : ∀ σ, PassesAt CX X.nox σ (E σ))
    (hab : attributeBase e f X.env (eval e X.env) = eval e X.env) : PE X (.Attribute e f pos) (tPropS C sp E ta) := by
  refine ⟨fun pins s σ H Q I h => ?_⟩
  refine attr_of hab (thn (he.run pins s σ H _ I h) fun u s1 ⟨x, H1, I1, rx, a, dx, fs, ex, ea, q⟩ => ?_)
  subst ex
  obtain rfl : u = Value.ref a := rx
  obtain ⟨mA, O, _, _, _, _⟩ := ins_get I1.hok ea
  obtain ⟨od, J, _⟩ := O.look
  obtain ⟨rest, hrec⟩ := hp.rec_
  have I2 := I1.tok (s1.toks + 1)
  have hc : (PySem.W.clsIn X.K C).isSome = true := by
    obtain ⟨cd, hc, _⟩ := PySem.W.any_some c.hd
    rw [hc]
    rfl
  have hl : ([Value.ref a] ++ []).length = ps.length := by
    rw [← F.len _ _ _ _ q]; rfl
  refine PySem.W.get_bind I1.kIn J (PySem.W.plainGet_of (c.get f)).1 (PySem.W.findObj_data hc hp.at_ hp.get hp.tak) (PySem.W.plainGet_of (c.get f)).2 (wpAny_call (PySem.W.prop_get (s := { s1 with toks := s1.toks + 1 }) I1.kIn hrec ?_))
  refine codeAny_mono (F.run X.A.in1 X.stack { s1 with toks := s1.toks + 1 } H1 ⟨[.ref a], []⟩ [.ref a] [.ref a] Q (E σ) hr.in1 I2.env0.in1 (hb _ [.ref a] I2.kIn hl) (.cons rfl .nil) q) fun r s' hq => ?_
  cases r with
  | error er => exact False.elim (hx σ pins H1 { s1 with toks := s1.toks + 1 } er s' (I2.wish _) hq)
  | ok fl =>
    cases fl with
    | ret u =>
      obtain ⟨v, H', I3, rv, q3⟩ := I2.after hq
      show wpAny _ _ (handedOut u) _ _ _
      rw [PySem.W.handedOut_of (handed_of rv)]
      exact wpAny_pure ⟨v, H', I3, rv, q3⟩
    | next => exact False.elim hq
    | brk => exact False.elim hq
    | cont => exact False.elim hq
end
section
open ClX
variable {X : Cx} {CX : CXT} {k : Nat} {C p g : Addr} {mc : Value} {fd : FuncData} {ps : List Str} {sp : Sp} {E : L2.St → XK} {o e : Expr} {es : List Expr} {m : Str} {pos apos : Pos} {ta : TE} {t : TA} {pl : Sem Bool}
/-- C.m(..), m a classmethod -/
def tCMethS (C : Addr) (sp : Sp) (E : L2.St → XK) (ta : TE) (t : TA) : TE := fun σ H Q => ta σ H fun x H1 => x = .ref C ∧ t σ H1 fun vs H2 => sp (.ref C :: vs) H2 Q (E σ)
theorem pe_cmethS (he : PE X o ta) (r : CRead X.K C mc) (c : CMet X.K C mc m p g) (F : FnOk X.prog X.w X.K X.mg X.base CX k g fd ps sp) (hr : Room k X.A) (hb : Binds X.K fd ps []) (hx : ∀ σ, PassesAt CX X σ (E σ)) (ha : PA X (e :: es) t)
    (hst : starEach (e :: es) X.env = (false, eval e X.env) :: starEach es X.env := by rfl) (hpl : (backTo pos (starEach es X.env)).any (·.1) = false := by rfl)
    (ht : eval (.Call (.Attribute o m apos) (e :: es) [] pos) X.env = (do
      let ov ← eval o X.env
      standAt apos.atName
      let (f, first) ← holding [ov] (getMethod ov m pl)
      callWith pos f first (backTo pos (starEach (e :: es) X.env)) (backToKw pos (keywordEach [] X.env))) := by rfl) :
    PE X (.Call (.Attribute o m apos) (e :: es) [] pos) (tCMethS C sp E ta t) := by
  refine ⟨fun pins s σ H Q I h => ?_⟩
  refine PySem.W.methodCall_KW (pl := pl) (thn (he.run pins s σ H _ I h) fun u s1 ⟨x, H1, I1, rx, ex, q⟩ => ?_) ht
  subst ex
  obtain rfl : u = Value.ref C := rx
  refine getmethcm_ok I1 r c fun s2 I2 => ?_
  refine callwith_cm I2 (base_none I1 (Nat.le_refl _)) c.fi (thn (ha.run pos _ s2 σ H1 _ I2 q) fun us s3 ⟨vs, H2, I3, rv, q2⟩ => ⟨⟨pin_at I3, I3.kIn⟩, ?_⟩) hst hpl
  exact thn (wpAny_call (PySem.W.method_call (pin_at I3) (code_in (us := .ref C :: us) (vs := .ref C :: vs) (dvs := []) (ds := []) F hr I3.env0 hb .nil (hx σ) I3 (.cons rfl rv) (by rw [List.append_nil]; exact q2)))) fun _ _ y => unpinE y
end
end LKB

set_option Elab.async false
set_option linter.all false
set_option maxRecDepth 100000
set_option maxHeartbeats 4000000
set_option autoImplicit false
/-! LB2: own instances: what they hold, fields, defs that change their first argument, making. -/
namespace LK
open PySem L2 PyProof.Rows
section
variable {F0 H0 F H F' H' : Hp} {G : List Slot} {σ : L2.St}
/-- as EnvOk.mut, but what is frozen anew may have been its own -/
theorem EnvF.mut' {i : Nat} {M N : Mu} {im : MoM M} {iN : MoM N} {fp : Nat → List Addr} (E : EnvF F0 H0 G σ F H fp) (hi : G[i]? = some (.ow M im))
    (k : ∀ p, σ[i]? = some (some (.ref p)) → (∀ a ∈ fp i, F a = none ∧ H0 a = none) → M F H p (fp i) → ∃ S', Ex F F' ∧ (∀ a u, F' a = some u → F a = none → H a = none ∨ a ∈ fp i) ∧ (∀ a, a ∉ fp i → a ∉ S' → H a ≠ none → H' a = H a) ∧ Ex F' H' ∧ (∀ a ∈ S', (a ∈ fp i ∨ H a = none) ∧ F' a = none) ∧ N F' H' p S') : EnvOk F0 H0 (G.set i (.ow N iN)) σ F' H' := by
  obtain ⟨x, hx, p, e1, f1, f2⟩ := E.at_ i _ hi
  subst e1
  obtain ⟨S', ff, nw, keep, fh, own, m⟩ := k p hx f1 f2
  have hil : i < G.length := (List.getElem?_eq_some_iff.mp hi).1
  have out : ∀ (j : Nat) (A : Mu) (iA : MoM A) (a : Addr), j ≠ i → G[j]? = some (.ow A iA) → a ∈ fp j → a ∉ fp i ∧ a ∉ S' ∧ H a ≠ none := fun j A iA a hj h1 h2 => by
    obtain ⟨y, hy, q, _, _, ok⟩ := E.at_ j _ h1
    have h3 : a ∉ fp i := E.dj j i _ _ _ _ a hj h1 hi h2
    have h4 := iA.own ok a h2
    exact ⟨h3, fun z => (own a z).1.elim h3 h4, h4⟩
  refine ⟨fun j => if j = i then S' else fp j, ⟨E.gr.ff.trans ff, fh, fun a u e => ?_, fun a u q n => ?_⟩, by rw [List.length_set, E.len], fun j t h => ?_, fun j l A iA B iB a hjk h1 h2 h3 => ?_⟩
  · have z := E.gr.hh a u e
    have nS : a ∉ fp i := fun z => by rw [(f1 a z).2] at e; cases e
    have nS' : a ∉ S' := fun y => by
      rcases (own a y).1 with y | y
      · exact nS y
      · rw [z] at y; cases y
    rw [keep a nS nS' (by rw [z]; exact fun q => nomatch q)]; exact z
  · cases q' : F a with
    | none =>
      rcases nw a u q q' with z | z
      · exact E.gr.hh.back z
      · exact (f1 a z).2
    | some o => exact E.gr.nw a o q' n
  · rcases set_get h with ⟨rfl, hl, rfl⟩ | ⟨ne, h⟩
    · refine ⟨_, hx, p, rfl, fun a ha => ?_, ?_⟩
      · rw [if_pos rfl] at ha
        refine ⟨(own a ha).2, ?_⟩
        rcases (own a ha).1 with y | y
        · exact (f1 a y).2
        · exact E.gr.hh.back y
      · rw [if_pos rfl]; exact m
    · obtain ⟨y, hy, ok⟩ := E.at_ j t h
      refine ⟨y, hy, ?_⟩
      rw [if_neg (fun e => ne e.symm)]
      cases t with
      | no => trivial
      | fz r im a => obtain ⟨v, e, q⟩ := ok; exact ⟨v, e, im.ex ff q⟩
      | bw r im a => exact ok
      | ow B iB =>
        obtain ⟨q, e, g1, g2⟩ := ok
        refine ⟨q, e, fun a ha => ⟨?_, (g1 a ha).2⟩, iB.mo ff.s (fun a ha => ?_) g2⟩
        · cases z : F' a with
          | none => rfl
          | some u =>
            rcases nw a u z (g1 a ha).1 with w | w
            · exact absurd w (iB.own g2 a ha)
            · exact absurd w (out j _ _ a (fun e => ne e.symm) h ha).1
        · obtain ⟨o1, o2, o3⟩ := out j _ _ a (fun e => ne e.symm) h ha
          exact keep a o1 o2 o3
  · have old : ∀ (j : Nat) (A : Mu) (iA : MoM A), (G.set i (.ow N iN))[j]? = some (.ow A iA) → ∃ (A' : Mu) (iA' : MoM A'), G[j]? = some (.ow A' iA') := fun j A iA h => by
      rcases set_get h with ⟨rfl, _, _⟩ | ⟨_, h⟩
      · exact ⟨_, _, hi⟩
      · exact ⟨_, _, h⟩
    obtain ⟨A', iA', k1⟩ := old j _ _ h1
    obtain ⟨B', iB', k2⟩ := old l _ _ h2
    by_cases ej : j = i
    · rw [if_pos ej] at h3
      rw [if_neg (fun e => hjk (ej.trans e.symm))]
      exact fun z => (out l _ _ a (fun e => hjk (ej.trans e.symm)) k2 z).2.1 h3
    · rw [if_neg ej] at h3
      by_cases el : l = i
      · rw [if_pos el]
        exact (out j _ _ a ej k1 h3).2.1
      · rw [if_neg el]
        exact E.dj j l _ _ _ _ a hjk k1 k2 h3
end
/-- all but the addresses of S -/
def cut (S : List Addr) (H : Hp) : Hp := fun a => if a ∈ S then none else H a
theorem cut_in {S : List Addr} {H : Hp} {a : Addr} (h : a ∈ S) : cut S H a = none := if_pos h
theorem cut_out {S : List Addr} {H : Hp} {a : Addr} (h : a ∉ S) : cut S H a = H a := if_neg h
theorem cut_le {S : List Addr} {H : Hp} : Ex (cut S H) H := fun a o e => by
  by_cases h : a ∈ S
  · rw [cut_in h] at e; cases e
  · rw [cut_out h] at e; exact e
theorem le_cut {S : List Addr} {F H : Hp} (e : Ex F H) (h : ∀ a ∈ S, F a = none) : Ex F (cut S H) := fun a o q => by
  rw [cut_out fun z => by rw [h a z] at q; cases q]; exact e a o q
/-! ### instances -/
/-- a class as a datum -/
def rCl (C : Addr) : Rp Unit := fun _ v _ => v = .ref C
instance (C : Addr) : Fl (rCl C) := ⟨fun h => h⟩
/-- an instance with one field -/
def rI1 {α : Type} (C : Addr) (f : Str) (r : Rp α) : Rp α := fun F v a => ∃ p dx u, v = .ref p ∧ F p = some (.ins C dx [(f, u)]) ∧ r F u a
instance {α : Type} (C : Addr) (f : Str) (r : Rp α) [h : Mo r] : Mo (rI1 C f r) := ⟨fun e ⟨p, dx, u, h1, h2, h3⟩ => ⟨p, dx, u, h1, e.at_ h2 rfl, h.mo e h3⟩⟩
instance {α : Type} (C : Addr) (f : Str) (r : Rp α) : Nn (rI1 C f r) := ⟨fun ⟨_, _, _, h, _⟩ => by rw [h]; intro z; cases z⟩
/-- .. that may be told by its address -/
class Pin {δ : Type} (mu : Option Addr → δ → Mu) : Prop where
  pin : ∀ {q : Addr} {d : δ} {F H : Hp} {p : Addr} {S : List Addr}, mu (some q) d F H p S → p = q
  un : ∀ {o : Option Addr} {d : δ} {F H : Hp} {p : Addr} {S : List Addr}, mu o d F H p S → mu none d F H p S
  to : ∀ {d : δ} {F H : Hp} {p : Addr} {S : List Addr}, mu none d F H p S → mu (some p) d F H p S
  mo : ∀ (o : Option Addr) (d : δ), MoM (mu o d)
/-- an instance without fields -/
def m0 (C : Addr) (o : Option Addr) (_ : Unit) : Mu := fun F H p S => (∀ q, o = some q → p = q) ∧ ∃ dx, S = [p, dx] ∧ H p = some (.ins C dx []) ∧ H dx = some (.own p)
/-- an instance whose one field is a list of its own -/
def mB {α : Type} (C : Addr) (f : Str) (r : Rp α) (o : Option Addr) (xs : List α) : Mu := fun F H p S => (∀ q, o = some q → p = q) ∧ ∃ dx q vs, S = [p, dx, q] ∧ H p = some (.ins C dx [(f, .ref q)]) ∧ H dx = some (.own p) ∧ H q = some (.lst vs) ∧ xs.length ≤ 16777216 ∧ Paired (r F) vs xs
instance (C : Addr) (o : Option Addr) (u : Unit) : MoM (m0 C o u) := ⟨fun {F F' H H' p S} e k ⟨h0, dx, h1, h2, h3⟩ => by
    subst h1
    exact ⟨h0, dx, rfl, by rw [k p (by simp)]; exact h2, by rw [k dx (by simp)]; exact h3⟩, fun {F H p S} ⟨h0, dx, h1, h2, h3⟩ a ha => by
    subst h1
    rcases List.mem_cons.mp ha with e | ha
    · rw [e, h2]; exact fun z => nomatch z
    · rw [List.mem_singleton.mp ha, h3]; exact fun z => nomatch z⟩
instance {α : Type} (C : Addr) (f : Str) (r : Rp α) [mo : Mo r] (o : Option Addr) (xs : List α) : MoM (mB C f r o xs) := ⟨fun {F F' H H' p S} e k ⟨h0, dx, q, vs, h1, h2, h3, h4, h5, h6⟩ => by
    subst h1
    exact ⟨h0, dx, q, vs, rfl, by rw [k p (by simp)]; exact h2, by rw [k dx (by simp)]; exact h3, by rw [k q (by simp)]; exact h4, h5, pmap (fun _ _ z => mo.mo e z) h6⟩, fun {F H p S} ⟨h0, dx, q, vs, h1, h2, h3, h4, _⟩ a ha => by
    subst h1
    rcases List.mem_cons.mp ha with e | ha
    · rw [e, h2]; exact fun z => nomatch z
    · rcases List.mem_cons.mp ha with e | ha
      · rw [e, h3]; exact fun z => nomatch z
      · rw [List.mem_singleton.mp ha, h4]; exact fun z => nomatch z⟩
instance (C : Addr) : Pin (m0 C) := ⟨fun h => h.1 _ rfl, fun h => ⟨fun _ z => (nomatch z), h.2⟩, fun h => ⟨fun _ z => Option.some.inj z, h.2⟩, fun _ _ => inferInstance⟩
instance {α : Type} (C : Addr) (f : Str) (r : Rp α) [Mo r] : Pin (mB C f r) := ⟨fun h => h.1 _ rfl, fun h => ⟨fun _ z => (nomatch z), h.2⟩, fun h => ⟨fun _ z => Option.some.inj z, h.2⟩, fun _ _ => inferInstance⟩
instance {α : Type} (C : Addr) (f : Str) (r : Rp α) [Mo r] (o : Option Addr) : LJ.Fzz (mB C f r o) (rI1 C f (rLst r)) := ⟨fun {F F' H p S a} ⟨_, dx, q, vs, h1, h2, h3, h4, h5, h6⟩ hp ee => by
  subst h1
  exact ⟨p, dx, _, rfl, by rw [hp p (by simp)]; exact h2, q, vs, rfl, by rw [hp q (by simp)]; exact h4, h5, pmap (fun _ _ z => mox ee z) h6⟩⟩
/-- a list or a tuple, new or of the text -/
def rSq {α : Type} (K : PySem.W.Frag) (r : Rp α) : Rp (List α) := fun F v xs => ∃ p vs, v = .ref p ∧ (SqL K F p vs ∨ SqT K F p vs) ∧ xs.length ≤ 16777216 ∧ Paired (r F) vs xs
end LK
namespace LJ
open PySem L2 LK LKX LKB PyProof.Rows PySem.Spec
/-! ### reading -/
section
variable {C : Cn} {G : List LK.Slot} {m : Md} {a e : Expr} {pos p1 : Pos} {x f : Str}
/-- an own thing, read -/
theorem xvm {α : Type} {mu : α → Mu} {r : Rp α} [fz : Fzz mu r] {d : α} {iM : MoM (mu d)} (i : Nat) (h : G[i]? = some (.ow (mu d) iM) := by rfl) (hN : C.X.N[i]? = some x := by rfl) (hv : Vis C.X.env.scope x := by first | exact Or.inl rfl | exact Or.inr (Or.inl rfl) | exact Or.inr (Or.inr rfl)) (hd : (x == ("__debug__" : Str)) = false := by decide)
    (hcd : (x == ("__classdict__" : Str)) = false := by decide) : XE C (.Name x pos) G .bo r (.ok d) := ⟨fun F0 H0 σ F H E Q q => tE_le (pe_var hN hv hd hcd) (by
  obtain ⟨p, S, hx, hS, hm⟩ := E.ow_at h
  exact ⟨_, hx, q _ F H (Gr.refl E.gr.fh) (fz.fz hm (fun _ _ => rfl) E.gr.fh)⟩)⟩
/-- e.f -/
theorem xfld {α : Type} {C0 : Addr} {r : Rp α} {g : R Er α} (he : XE C e G m (rI1 C0 f r) g) (c : Cls C.X.K C0) (n : NoAttr C.X.K C0 f) (hb : attributeBase e f C.X.env (eval e C.X.env) = eval e C.X.env := by rfl) : XE C (.Attribute e f pos) G m r g := ⟨fun F0 H0 => by
  have h := he.h F0 H0
  refine Dr.le (t := tFld C.X.K (tE C.X e) f) ?_ fun _ _ _ q => tE_le (pe_fld pE hb) q
  cases g with
  | no => trivial
  | er y => exact fun σ F H E w Q => h σ F H E w _
  | ok a =>
    exact fun σ F H E Q q => h σ F H E _ fun v F1 H1 g1 h1 => by
      obtain ⟨p, dx, u, rfl, h2, h3⟩ := h1
      exact ⟨p, C0, dx, _, u, rfl, pk_now (E.gr.trans g1) _ _ h2, c, n, by simp [List.lookup], q u F1 H1 g1 h3⟩⟩
/-- a class of the text -/
theorem xcl {C0 : Addr} (h : C.X.mg x = some (.ref C0)) (hg : Gl C.X x := by rfl) (hd : (x == ("__debug__" : Str)) = false := by decide) : XE C (.Name x pos) G .sh (rCl C0) (.ok ()) := xglob (v := V.ref C0) ⟨Value.ref C0, h, rfl⟩ (fun _ => rfl) hg hd
end
/-! ### fields of an own instance -/
section
variable {C : Cn} {β ρ ε Z S' : Type} {J : Jn β ρ ε Z} {G : List LK.Slot} {slk : S' → List LK.Slot} {e ie : Expr} {rest : List Stmt} {pos p1 p2 p3 : Pos} {x f : Str} {m : Md}
/-- self.f = a new list: the first field -/
theorem xb_init1 {α : Type} {C0 : Addr} {o : Option Addr} {r : Rp α} [mo : Mo r] {g : R Er (List α)} {im : MoM (m0 C0 o ())} {M : List α → (S' → R ε ρ) → R ε ρ} (i : Nat) (G' : List α → List LK.Slot) (z : Z) (hz : Lw G (J.slz z)) (hi : G[i]? = some (.ow (m0 C0 o ()) im)) (he : XN C e G (fun xs => sL r xs) g) (c : Cls C.X.K C0) (n : NoAttr C.X.K C0 f)
    (hG : ∀ xs, G.set i (sO (mB C0 f r o xs)) = G' xs) (hr : ∀ xs, XB C J rest (G' xs) slk (M xs))
    (hN : C.X.N[i]? = some x := by rfl) (hv : Vis C.X.env.scope x := by first | exact Or.inl rfl | exact Or.inr (Or.inl rfl) | exact Or.inr (Or.inr rfl)) (hd : (x == ("__debug__" : Str)) = false := by decide) (hcd : (x == ("__classdict__" : Str)) = false := by decide)
    (hsw : swapsWith e (some (.Attribute (.Name x p1) f p2)) pos.line C.X.env = pure false := by rfl) :
    XB C J (.Assign [.Attribute (.Name x p1) f p2] e pos :: rest) G slk (fun k => g.thn (fun y => J.em y z) fun xs => M xs k) := ⟨fun F0 H0 A D an k hk hA σ F H E => by
  have he := he.h F0 H0
  refine tS_le (pss_cons (ps_fld (pe_var hN hv hd hcd) pE hsw) pS) ?_
  cases g with
  | no => exact (an.no hA).elim
  | er y => exact he σ F H E (an.air hz hA E) _
  | ok xs =>
    refine he σ F H E _ fun v F1 H1 g1 E1 => ?_
    obtain ⟨p, S, hx, hS, h0, dx, hS', h2, h3⟩ := E.ow_at hi
    obtain ⟨q, vs, hq, n1, n2, h4, h5, h6⟩ := E1.lst_at (i := 0) rfl
    cases Option.some.inj (Option.some.inj hq)
    subst hS'
    refine ⟨_, hx, p, C0, dx, [], rfl, g1.hh _ _ h2, c, n, by simp, (hr xs).h F0 H0 A D an k hk hA σ F1 _ ?_⟩
    rw [← hG xs]
    refine E.mut hi (p := p) (S := []) (S' := []) fun p' S'' hx' hS'' hm => ?_
    rw [hx] at hx'
    cases Option.some.inj (Option.some.inj hx')
    obtain ⟨_, dx', hS3, h2', h3'⟩ := hm
    subst hS3
    rw [h2] at h2'
    cases h2'
    have hp1 : F1 p = none := by
      cases w : F1 p with
      | none => rfl
      | some u => exact absurd (g1.nw p u w (hS'' p (by simp)).1) (by rw [h2]; exact fun z => nomatch z)
    have hd1 : F1 dx = none := by
      cases w : F1 dx with
      | none => rfl
      | some u => exact absurd (g1.nw dx u w (hS'' dx (by simp)).1) (by rw [h3']; exact fun z => nomatch z)
    have qp : q ≠ p := fun z => by rw [z, h2] at n2; cases n2
    have dp : dx ≠ p := fun z => by rw [z, h2] at h3'; cases h3'
    refine ⟨[p, dx, q], g1.ff, g1.nw, fun a ha hb hc => ?_, fun a u w => ?_, fun a ha => ?_, ?_⟩
    · have hap : a ≠ p := fun z => ha (by simp [z])
      rw [upd_ne hap]
      cases w : H a with
      | none => exact absurd w hc
      | some u => exact g1.hh a u w
    · have hap : a ≠ p := fun z => by rw [z, hp1] at w; cases w
      rw [upd_ne hap]; exact g1.fh a u w
    · rcases List.mem_cons.mp ha with w | ha
      · subst w; exact ⟨.inl (by simp), hp1⟩
      · rcases List.mem_cons.mp ha with w | ha
        · subst w; exact ⟨.inl (by simp), hd1⟩
        · have w := List.mem_singleton.mp ha
          subst w; exact ⟨.inr n2, n1⟩
    · exact ⟨h0, dx, q, vs, rfl, upd_same, by rw [upd_ne dp]; exact g1.hh _ _ h3', by rw [upd_ne qp]; exact h4, h5, h6⟩⟩
/-- self.f[j] = e -/
theorem xb_fldI {α : Type} {C0 : Addr} {o : Option Addr} {r : Rp α} [mo : Mo r] {g : R Er α} {gi : R Er Int} {xs : List α} {im : MoM (mB C0 f r o xs)} {M : List α → (S' → R ε ρ) → R ε ρ} (i : Nat) (G' : List α → List LK.Slot) (z : Z) (hz : Lw G (J.slz z)) (hi : G[i]? = some (.ow (mB C0 f r o xs) im)) (he : XE C e G .sh r g) (hj : XE C ie G m rInt gi) (c : Cls C.X.K C0) (n : NoAttr C.X.K C0 f)
    (hG : ∀ xs, G.set i (sO (mB C0 f r o xs)) = G' xs) (hr : ∀ xs, XB C J rest (G' xs) slk (M xs))
    (hN : C.X.N[i]? = some x := by rfl) (hv : Vis C.X.env.scope x := by first | exact Or.inl rfl | exact Or.inr (Or.inl rfl) | exact Or.inr (Or.inr rfl)) (hd : (x == ("__debug__" : Str)) = false := by decide) (hcd : (x == ("__classdict__" : Str)) = false := by decide)
    (hb : attributeBase (.Name x p1) f C.X.env (eval (.Name x p1) C.X.env) = eval (.Name x p1) C.X.env := by rfl) (hsw : swapsWith e (some (.Subscript (.Attribute (.Name x p1) f p2) ie p3)) pos.line C.X.env = pure false := by rfl)
    (ha : ∀ v, assign (.Subscript (.Attribute (.Name x p1) f p2) ie p3) C.X.env v = (do
      let ov ← holding [v] (eval (.Attribute (.Name x p1) f p2) C.X.env)
      let iv ← holding [v, ov] (eval ie C.X.env)
      standAt p3
      holding [v, ov, iv] (setItem ov iv v)
      release [v, ov, iv] []) := by intro _; rfl) :
    XB C J (.Assign [.Subscript (.Attribute (.Name x p1) f p2) ie p3] e pos :: rest) G slk (fun k => g.thn (fun y => J.em y z) fun v => gi.thn (fun y => J.em y z) fun j => (R.iff (0 ≤ j ∧ j < xs.length) (.ok (xs.set j.toNat v))).bind fun ys => M ys k) := ⟨fun F0 H0 A D an k hk hA σ F H E => by
  have he := he.h F0 H0; have hj := hj.h F0 H0
  refine tS_le (pss_cons (ps_asg pE (pg_sub (pe_fld (pe_var hN hv hd hcd) hb) pE set_list ha) hsw) pS) ?_
  have hfld : ∀ {F H : Hp}, EnvOk F0 H0 G σ F H → ∃ p dx q vs, σ[i]? = some (some (.ref p)) ∧ (∀ q, o = some q → p = q) ∧ F p = none ∧ F dx = none ∧ F q = none ∧ H p = some (.ins C0 dx [(f, .ref q)]) ∧ H dx = some (.own p) ∧ H q = some (.lst vs) ∧ xs.length ≤ 16777216 ∧ Paired (r F) vs xs := fun E => by
    obtain ⟨p, S, hx, hS, h0, dx, q, vs, hS', h2, h3, h4, h5, h6⟩ := E.ow_at hi
    subst hS'
    exact ⟨p, dx, q, vs, hx, h0, (hS p (by simp)).1, (hS dx (by simp)).1, (hS q (by simp)).1, h2, h3, h4, h5, h6⟩
  cases g with
  | no => exact (an.no hA).elim
  | er y => exact he σ F H E (an.air hz hA E) _
  | ok a =>
    refine he σ F H E _ fun v F1 H1 g1 hv' => ?_
    have E1 := E.gro g1
    obtain ⟨p, dx, q, vs, hx, h0, n1, n2, n3, h2, h3, h4, h5, h6⟩ := hfld E1
    refine ⟨_, hx, p, C0, dx, _, .ref q, rfl, h2, c, n, by simp [List.lookup], ?_⟩
    cases gi with
    | no => exact (an.no hA).elim
    | er y => exact hj σ F1 H1 E1 (an.air hz hA E1) _
    | ok j =>
      refine hj σ F1 H1 E1 _ fun w F2 H2 g2 hw => ?_
      have E2 := E1.gro g2
      obtain ⟨p', dx', q', vs', hx', h0', n1', n2', n3', h2', h3', h4', h5', h6'⟩ := hfld E2
      rw [hx] at hx'
      cases Option.some.inj (Option.some.inj hx')
      have e2 := g2.hh _ _ h2
      rw [h2'] at e2
      cases e2
      have hA : A ((R.iff (0 ≤ j ∧ j < xs.length) (.ok (xs.set j.toNat a))).bind fun ys => M ys k) := hA
      unfold R.iff at hA
      by_cases hjl : 0 ≤ j ∧ j < xs.length
      · rw [if_pos hjl] at hA
        have hA : A (M (xs.set j.toNat a) k) := hA
        have hl := plen h6'
        refine ⟨q, vs', j, j.toNat, rfl, hw, h4', ?_, ?_⟩
        · unfold ixN; rw [if_pos hjl.1, if_pos (by omega)]
        · refine (hr _).h F0 H0 A D an k hk hA σ F2 _ ?_
          rw [← hG]
          refine E2.mut hi (p := p) (S := []) (S' := []) fun p' S'' hx' hS'' hm => ?_
          rw [hx] at hx'
          cases Option.some.inj (Option.some.inj hx')
          obtain ⟨_, dx3, q3, vs3, hS3, k2, k3, k4, k5, k6⟩ := hm
          subst hS3
          rw [h2'] at k2
          cases k2
          have qp : p ≠ q := fun z => by rw [← z, h2'] at h4'; cases h4'
          have dq : dx ≠ q := fun z => by rw [← z, h3'] at h4'; cases h4'
          refine ⟨[p, dx, q], Ex.refl F2, fun a u w n => (by rw [n] at w; cases w), fun a ha _ _ => upd_ne fun z => ha (by simp [z]), fun a u w => ?_, fun a ha => ⟨.inl ha, (hS'' a ha).1⟩, ?_⟩
          · have haq : a ≠ q := fun z => by rw [z, n3'] at w; cases w
            rw [upd_ne haq]; exact E2.gr.fh a u w
          · exact ⟨h0, dx, q, _, rfl, by rw [upd_ne qp]; exact h2', by rw [upd_ne dq]; exact h3', upd_same, by rw [List.length_set]; exact h5', pset (mox g2.ff hv') _ h6'⟩
      · rw [if_neg hjl] at hA; exact (an.no hA).elim⟩
end
end LJ

set_option Elab.async false
set_option linter.all false
set_option maxRecDepth 100000
set_option maxHeartbeats 4000000
set_option autoImplicit false
/-! LB3: defs that change their first argument; making; calls of them. -/
namespace LJ
open PySem L2 LK LKX LKB PyProof.Rows PySem.Spec
/-- the promise: su: what the first argument is; sv, se: behind the call, behind an error -/
def spM {γ α δ ζ : Type} (T : XT) (su : Option Addr → γ → Mu) (P : Pt α) (f : γ → α → R (Er × ζ) δ) (sv : Option Addr → δ → LK.Slot) (se : Option Addr → ζ → LK.Slot) : Sp := fun vs H Q E =>
  ∃ F p S g a ws, vs = .ref p :: ws ∧ Ex F H ∧ su none g F H p S ∧ (∀ b ∈ S, F b = none) ∧ P.ra F (cut S H) (cut S H) ws a ∧ f g a ≠ .no ∧
  (∀ d, f g a = .ok d → ∀ x F' H', EnvOk F (cut S H) [sv (some p) d] [x] F' H' → Q .non H') ∧
  (∀ er z, f g a = .er (er, z) → ∀ cls dd x F' H', EnvOk F (cut S H) [se (some p) z] [x] F' H' → rEr T F' cls dd er → E cls dd H')
theorem spM_len {γ α δ ζ : Type} {T : XT} {su : Option Addr → γ → Mu} {P : Pt α} {f : γ → α → R (Er × ζ) δ} {sv : Option Addr → δ → LK.Slot} {se : Option Addr → ζ → LK.Slot} {vs : List V} {H : Hp} {Q : VK} {E : XK} (h : spM T su P f sv se vs H Q E) : vs.length = P.count + 1 := by
  obtain ⟨F, p, S, g, a, ws, e, _, _, _, h, _⟩ := h
  rw [e, List.length_cons, P.length h]
abbrev jnM {δ ζ : Type} (n : Nat) (se : ζ → LK.Slot) : Jn Empty δ (Er × ζ) ζ := ⟨fun b => b.elim, fun b _ => b.elim, fun z => se z :: List.replicate n .no, fun e z => (e, z)⟩
theorem entryM {α : Type} {T : Pt α} {F H : Hp} {ws : List V} {a : α} {N : List Str} {x : Str} {M : Mu} {im : MoM M} {p : Addr} {S : List Addr} (e : Ex F H) (hm : M F H p S) (hS : ∀ b ∈ S, F b = none) (h : T.ra F (cut S H) (cut S H) ws a) (c : Nat) (hc : N.length = T.count + c) :
    EnvOk F (cut S H) (.ow M im :: (T.slots a ++ List.replicate c .no)) (L2.start (x :: N) (.ref p :: ws)) F H := by
  have hl : ws.length = T.count := T.length h
  have E := entry (le_cut e hS) h c hc
  have g : Gr F (cut S H) F H := ⟨Ex.refl F, e, cut_le, fun a o h1 h2 => by rw [h1] at h2; cases h2⟩
  have E2 := E.pushO (im := im) (S := S) g (fun a ha => ⟨cut_in ha, hS a ha⟩) hm
  have es : L2.start (x :: N) (.ref p :: ws) = some (.ref p) :: L2.start N ws := by
    unfold L2.start
    simp
  rw [es]; exact E2
section
variable {P : Program} {w : World} {K : PySem.W.Frag} {mg : Str → Option Value} {base : Heap}
/-- what ok_M asks of the body's end -/
theorem ok_M {γ δ ζ α S' : Type} {X : XT} {su : Option Addr → γ → Mu} [pn : Pin su] {T : Pt α} {f : γ → α → R (Er × ζ) δ} {sv : Option Addr → δ → LK.Slot} {se : Option Addr → ζ → LK.Slot} {x qual : Str} {st : Stmt} {fa : Addr} {fd : FuncData} {y : Str} {N ps : List Str} {k : Nat} (c : Nat) (Fn : Fun K x qual st fa fd) (S : FnScope (y :: N) ps (defScope st)) (hc : N.length = T.count + c) (hps : ps.length = T.count + 1)
    (kend : S' → R (Er × ζ) δ) (hend2 : ∀ s e, kend s ≠ .er e)
    (hbody : ∀ (cdv : Value) (A : Around) (outer : List Env) (s : Shared) (H : Hp) (E : XK) (hr : Room k (A.deeper (envOfC qual (defScope st) s.heap.objs.size fa cdv))) (p : Addr) (g : γ) (a : α),
      ∃ (slk : S' → List LK.Slot) (M : (S' → R (Er × ζ) δ) → R (Er × ζ) δ), XB (cnD P w K mg base (y :: N) S.nd qual (defScope st) fa cdv A outer s H E X) (jnM N.length (se (some p))) (defBody st) (.ow (su (some p) g) (pn.mo _ _) :: (T.slots a ++ List.replicate c .no)) slk M ∧ M kend = f g a ∧ (∀ s d, kend s = .ok d → Lw (slk s) (sv (some p) d :: List.replicate N.length .no))) :
    FnOk P w K mg base (L2.CX P w) (k + 1) fa fd ps (spM X su T f sv se) := by
  refine Fn.okX S (fun vs H Q E h => by rw [hps]; exact spM_len h) (fun cdv A outer s H vs Q E hr h => ?_)
  obtain ⟨F, p, Sf, g, a, ws, ev, e, hm, hS, ha, hno, q1, q2⟩ := h
  subst ev
  obtain ⟨slk, M, hB, hM, hsl⟩ := hbody cdv A outer s H E hr p g a
  have hl : ws.length = T.count := T.length ha
  have unc : ∀ {s0 : LK.Slot} {n : Nat} {σ : L2.St} {F' H' : Hp}, EnvOk F (cut Sf H) (s0 :: List.replicate n .no) σ F' H' → ∃ x, EnvOk F (cut Sf H) [s0] [x] F' H' := fun {s0 n σ F' H'} EE => by
    cases σ with
    | nil => have := EE.len; simp at this
    | cons x σ => exact ⟨x, EE.head⟩
  refine ⟨_, pS, hB.h F (cut Sf H) (fun r => r = f g a) _ ⟨fun h => hno h.symm, fun b => b.elim, fun er z h σ F' H' cls d EE r => ?_⟩ kend (fun s' hs σ F' H' EE => ?_) hM _ F H (entryM (im := pn.mo _ _) e (pn.to hm) hS ha c hc)⟩
  · obtain ⟨x, E1⟩ := unc EE
    exact q2 er z h.symm cls d x F' H' E1 r
  · cases hk : kend s' with
    | ok d =>
      obtain ⟨x, E1⟩ := unc (EE.weak (hsl s' d hk))
      exact q1 d (by rw [← hs, hk]) x F' H' E1
    | er y => exact absurd hk (hend2 s' y)
    | no => rw [hk] at hs; exact absurd hs.symm hno
end
/-! ### making -/
section
variable {C : Cn} {G : List LK.Slot} {m : Md} {e : Expr} {es : List Expr} {pos p0 : Pos} {x : Str}
theorem spM_make {α δ ζ : Type} {T : XT} {C0 : Addr} {P : Pt α} {fn : Unit → α → R (Er × ζ) δ} {mv : Option Addr → δ → Mu} [pn : Pin mv] {se : Option Addr → ζ → LK.Slot} {F H : Hp} {ws : List V} {a : α} {Q : VK} {E : XK} (ef : Ex F H) (ha : P.ra F H H ws a) (hno : fn () a ≠ .no)
    (q1 : ∀ d, fn () a = .ok d → ∀ p F' H', EnvOk F H [.ow (mv none d) (pn.mo _ _)] [some (.ref p)] F' H' → Q (.ref p) H') (q2 : ∀ er z, fn () a = .er (er, z) → ErK T F H E er) :
    ∀ x dx, H x = none → H dx = none → dx ≠ x → spM T (m0 C0) P fn (fun o d => .ow (mv o d) (pn.mo o d)) se (.ref x :: ws) (upd (upd H dx (.own x)) x (.ins C0 dx [])) (fun v H2 => v = .non ∧ Q (.ref x) H2) E := fun x dx hx hdx ne => by
  have hc : cut [x, dx] (upd (upd H dx (.own x)) x (.ins C0 dx [])) = H := by
    funext b
    by_cases h1 : b = x
    · subst h1; rw [cut_in (by simp), hx]
    · by_cases h2 : b = dx
      · subst h2; rw [cut_in (by simp), hdx]
      · rw [cut_out (by simp [h1, h2]), upd_ne h1, upd_ne h2]
  refine ⟨F, x, [x, dx], (), a, ws, rfl, (ef.trans (Ex.new hdx)).trans (Ex.new (by rw [upd_ne (Ne.symm ne)]; exact hx)), ⟨fun _ z => (nomatch z), dx, rfl, upd_same, by rw [upd_ne ne, upd_same]⟩, fun b hb => ?_, by rw [hc]; exact ha, hno, fun d hd y F' H' EE => ?_, fun er z he cls dd y F' H' EE r => ?_⟩
  · rcases List.mem_cons.mp hb with h | h
    · rw [h]; exact ef.back hx
    · rw [List.mem_singleton.mp h]; exact ef.back hdx
  · rw [hc] at EE
    refine ⟨rfl, q1 d hd x F' H' ?_⟩
    obtain ⟨fp, E1⟩ := EE
    obtain ⟨z, hz, q, hq, h1, h2⟩ := E1.at_ 0 _ rfl
    have eq := pn.pin h2
    subst eq
    exact env1o (S := fp 0) ef E1.gr (fun b hb => ⟨(h1 b hb).2, (h1 b hb).1⟩) (pn.un h2)
  · rw [hc] at EE
    exact q2 er z he cls dd F' H' EE.gr r
def mkR {ζ δ : Type} : R (Er × ζ) δ → R Er δ
  | .ok d => .ok d
  | .er e => .er e.1
  | .no => .no
/-- C(e, ..): a new instance of its own -/
theorem xmake {α δ ζ : Type} {C0 : Addr} {P : Pt α} {fn : Unit → α → R (Er × ζ) δ} {mv : Option Addr → δ → Mu} [pn : Pin mv] {se : Option Addr → ζ → LK.Slot} {k n : Nat} {f : Addr} {fd : FuncData} {ps : List Str} {dvs : List V} {ds : List Value} {β : Type} {P1 : Pt β} {g1 : R Er β} {ad : β → α} (Mk0 : Mk C.X.K C0 f) (gm : C.X.mg x = some (.ref C0)) (hb : Binds C.X.K fd ps ds) (hd : Vals dvs ds)
    (Fo : FnOk C.X.prog C.X.w C.X.K C.X.mg C.X.base (L2.CX C.X.prog C.X.w) k f fd ps (spM C.T (m0 C0) P fn (fun o d => .ow (mv o d) (pn.mo o d)) se)) (hr : Room n C.X.A) (ha : XA C (e :: es) G P1 g1) (had : ∀ F H0 H vs b, P1.ra F H0 H vs b → P.ra F H0 H (vs ++ dvs) (ad b)) (hk : k + 1 ≤ n := by decide) (hg : Gl C.X x := by rfl) (hdb : (x == ("__debug__" : Str)) = false := by decide)
    (he : starEach (e :: es) C.X.env = (false, eval e C.X.env) :: starEach es C.X.env := by exact star_cons rfl) (hpl : (backTo pos (starEach es C.X.env)).any (·.1) = false := by rfl) : XN C (.Call (.Name x p0) (e :: es) [] pos) G (fun d => .ow (mv none d) (pn.mo none d)) (g1.bind fun b => mkR (fn () (ad b))) := ⟨fun F0 H0 => by
  have ha := ha.h F0 H0
  refine Ds.le (t := tMakeS C0 (spM C.T (m0 C0) P fn (fun o d => .ow (mv o d) (pn.mo o d)) se) dvs (WE C.W) (tA C.X (e :: es))) ?_ fun _ _ _ q => tE_le (pe_makeS Mk0 Fo (hr.mono hk) hg gm hb hd (fun σ => passAt C.tk σ) pA hdb he hpl) q
  cases g1 with
  | no => trivial
  | er y => exact fun σ F H E w Q => ha σ F H E w _
  | ok b =>
    show Ds C F0 H0 _ G _ (mkR (fn () (ad b)))
    cases hf : fn () (ad b) with
    | no => trivial
    | er y =>
      exact fun σ F H E w Q => ha σ F H E _ fun vs F1 H1 g1 h1 => spM_make g1.fh (had _ _ _ _ _ (Pt.now P1 (E.gr.trans g1) h1)) (by rw [hf]; exact fun z => nomatch z) (fun d hd => by rw [hf] at hd; cases hd) (fun er z he cls dd F2 H2 g2 r => by
        rw [hf] at he; cases he
        exact w F2 H2 cls dd (g1.trans g2) r)
    | ok d =>
      exact fun σ F H E Q q => ha σ F H E _ fun vs F1 H1 g1 h1 => spM_make g1.fh (had _ _ _ _ _ (Pt.now P1 (E.gr.trans g1) h1)) (by rw [hf]; exact fun z => nomatch z) (fun d' hd p F2 H2 E2 => by
        rw [hf] at hd; cases hd
        exact q _ F2 H2 (g1.trans E2.gr) (envRebase g1 E2 trivial)) (fun er z he => by rw [hf] at he; cases he)⟩
/-- c(e, ..), c a local that holds the class -/
theorem xmakeL {α δ ζ : Type} {C0 : Addr} {im : Mo (rCl C0)} {P : Pt α} {fn : Unit → α → R (Er × ζ) δ} {mv : Option Addr → δ → Mu} [pn : Pin mv] {se : Option Addr → ζ → LK.Slot} {k n : Nat} {f : Addr} {fd : FuncData} {ps : List Str} {dvs : List V} {ds : List Value} {β : Type} {P1 : Pt β} {g1 : R Er β} {ad : β → α} (i : Nat) (hi : G[i]? = some (.fz (rCl C0) im ())) (Mk0 : Mk C.X.K C0 f) (hb : Binds C.X.K fd ps ds) (hd : Vals dvs ds)
    (Fo : FnOk C.X.prog C.X.w C.X.K C.X.mg C.X.base (L2.CX C.X.prog C.X.w) k f fd ps (spM C.T (m0 C0) P fn (fun o d => .ow (mv o d) (pn.mo o d)) se)) (hr : Room n C.X.A) (ha : XA C (e :: es) G P1 g1) (had : ∀ F H0 H vs b, P1.ra F H0 H vs b → P.ra F H0 H (vs ++ dvs) (ad b)) (hk : k + 1 ≤ n := by decide)
    (hN : C.X.N[i]? = some x := by rfl) (hv : Vis C.X.env.scope x := by first | exact Or.inl rfl | exact Or.inr (Or.inl rfl) | exact Or.inr (Or.inr rfl)) (hdb : (x == ("__debug__" : Str)) = false := by decide) (hcd : (x == ("__classdict__" : Str)) = false := by decide)
    (he : starEach (e :: es) C.X.env = (false, eval e C.X.env) :: starEach es C.X.env := by exact star_cons rfl) (hpl : (backTo pos (starEach es C.X.env)).any (·.1) = false := by rfl) : XN C (.Call (.Name x p0) (e :: es) [] pos) G (fun d => .ow (mv none d) (pn.mo none d)) (g1.bind fun b => mkR (fn () (ad b))) := ⟨fun F0 H0 => by
  have ha := ha.h F0 H0
  have hs : ∀ {σ : L2.St} {F H : Hp}, EnvOk F0 H0 G σ F H → σ[i]? = some (some (.ref C0)) := fun E => by
    obtain ⟨v, hx, ok⟩ := E.fz_at hi
    rw [hx]; exact congrArg _ (congrArg _ ok)
  refine Ds.le (t := fun σ H Q => σ[i]? = some (some (.ref C0)) ∧ tMakeS C0 (spM C.T (m0 C0) P fn (fun o d => .ow (mv o d) (pn.mo o d)) se) dvs (WE C.W) (tA C.X (e :: es)) σ H Q) ?_ fun _ _ _ q => tE_le (pe_makeSL Mk0 Fo (hr.mono hk) hb hd (fun σ => passAt C.tk σ) hN hv hdb hcd pA he hpl) q
  cases g1 with
  | no => trivial
  | er y => exact fun σ F H E w Q => ⟨hs E, ha σ F H E w _⟩
  | ok b =>
    show Ds C F0 H0 _ G _ (mkR (fn () (ad b)))
    cases hf : fn () (ad b) with
    | no => trivial
    | er y =>
      exact fun σ F H E w Q => ⟨hs E, ha σ F H E _ fun vs F1 H1 g1 h1 => spM_make g1.fh (had _ _ _ _ _ (Pt.now P1 (E.gr.trans g1) h1)) (by rw [hf]; exact fun z => nomatch z) (fun d hd => by rw [hf] at hd; cases hd) (fun er z he cls dd F2 H2 g2 r => by
        rw [hf] at he; cases he
        exact w F2 H2 cls dd (g1.trans g2) r)⟩
    | ok d =>
      exact fun σ F H E Q q => ⟨hs E, ha σ F H E _ fun vs F1 H1 g1 h1 => spM_make g1.fh (had _ _ _ _ _ (Pt.now P1 (E.gr.trans g1) h1)) (by rw [hf]; exact fun z => nomatch z) (fun d' hd p F2 H2 E2 => by
        rw [hf] at hd; cases hd
        exact q _ F2 H2 (g1.trans E2.gr) (envRebase g1 E2 trivial)) (fun er z he => by rw [hf] at he; cases he)⟩⟩
end
/-! ### x[i] = e by an own __setitem__ -/
section
variable {C : Cn} {β ρ ε Z S' : Type} {J : Jn β ρ ε Z} {G : List LK.Slot} {slk : S' → List LK.Slot} {e ie : Expr} {rest : List Stmt} {pos p1 p2 : Pos} {x : Str} {m : Md}
theorem xb_ownSet {γ δ ζ κ ν : Type} {C0 : Addr} {o : Option Addr} {mu : Option Addr → γ → Mu} [pu : Pin mu] {mv : Option Addr → δ → Mu} [pv : Pin mv] {me : Option Addr → ζ → Mu} [pe : Pin me] {rk : Rp κ} [mk : Mo rk] [fk : Fl rk] {rv : Rp ν} [mo : Mo rv] {st0 : γ} {im : MoM (mu o st0)} {fn : γ → κ × ν × Unit → R (Er × ζ) δ} {g : R Er ν} {gi : R Er κ} {k n : Nat} {f : Addr} {fd : FuncData} {ps : List Str} {M : δ → (S' → R ε ρ) → R ε ρ}
    (i : Nat) (G' : δ → List LK.Slot) (z0 : Z) (hz0 : Lw G (J.slz z0)) (zz : ζ → Z) (hzz : ∀ z, Lw (G.set i (.ow (me o z) (pe.mo _ _))) (J.slz (zz z))) (hi : G[i]? = some (.ow (mu o st0) im)) (he : XE C e G .sh rv g) (hj : XE C ie G m rk gi) (hmu : ∀ F H p S, mu none st0 F H p S → ∃ dx fs, H p = some (.ins C0 dx fs)) (Ow : OwnM C.X.K C0 f "__setitem__") (hq : PySem.W.noSeq C.X.K C0 = true) (hb : Binds C.X.K fd ps [])
    (Fo : FnOk C.X.prog C.X.w C.X.K C.X.mg C.X.base (L2.CX C.X.prog C.X.w) k f fd ps (spM C.T mu (.cons .sh rk mk (.cons .sh rv mo .nil)) fn (fun o d => .ow (mv o d) (pv.mo o d)) (fun o z => .ow (me o z) (pe.mo o z)))) (hr' : Room n C.X.A)
    (hG : ∀ d, G.set i (.ow (mv o d) (pv.mo _ _)) = G' d) (hr : ∀ d, XB C J rest (G' d) slk (M d)) (hk : k ≤ n := by decide)
    (hN : C.X.N[i]? = some x := by rfl) (hv : Vis C.X.env.scope x := by first | exact Or.inl rfl | exact Or.inr (Or.inl rfl) | exact Or.inr (Or.inr rfl)) (hd : (x == ("__debug__" : Str)) = false := by decide) (hcd : (x == ("__classdict__" : Str)) = false := by decide)
    (hsw : swapsWith e (some (.Subscript (.Name x p1) ie p2)) pos.line C.X.env = pure false := by rfl) :
    XB C J (.Assign [.Subscript (.Name x p1) ie p2] e pos :: rest) G slk (fun k => g.thn (fun y => J.em y z0) fun v => gi.thn (fun y => J.em y z0) fun j => (fn st0 (j, v, ())).thn (fun y => J.em y.1 (zz y.2)) fun d => M d k) := ⟨fun F0 H0 A D an k' hkk hA σ F H E => by
  have he := he.h F0 H0; have hj := hj.h F0 H0
  refine tS_le (pss_cons (ps_ownSet (E := WE C.W) (pe_var hN hv hd hcd) pE pE Ow hq Fo (hr'.mono hk) hb (fun σ => passAt C.tk σ) hsw) pS) ?_
  cases g with
  | no => exact (an.no hA).elim
  | er y => exact he σ F H E (an.air hz0 hA E) _
  | ok v0 =>
    refine he σ F H E _ fun v F1 H1 g1 hv1 => ?_
    have E1 := E.gro g1
    obtain ⟨p, S, hx, hS, hm⟩ := E1.ow_at hi
    refine ⟨_, hx, ?_⟩
    cases gi with
    | no => exact (an.no hA).elim
    | er y => exact hj σ F1 H1 E1 (an.air hz0 hA E1) _
    | ok j =>
      refine hj σ F1 H1 E1 _ fun w F2 H2 g2 hw => ?_
      have E2 := E1.gro g2
      obtain ⟨fp, EF⟩ := E2
      obtain ⟨x2, hx2, p2, e2, hS2, hm2⟩ := EF.at_ i _ hi
      subst e2
      rw [hx] at hx2
      cases Option.some.inj (Option.some.inj hx2)
      obtain ⟨dx, fs, hins⟩ := hmu _ _ _ _ (pu.un hm2)
      have pin : ∀ q, o = some q → p = q := fun q ho => by subst ho; exact pu.pin hm2
      have put : ∀ {η : Type} {mw : Option Addr → η → Mu} [pw : Pin mw] {d : η} {y : Option V} {F' H' : Hp}, EnvOk F2 (cut (fp i) H2) [.ow (mw (some p) d) (pw.mo _ _)] [y] F' H' → EnvOk F0 H0 (G.set i (.ow (mw o d) (pw.mo _ _))) σ F' H' := fun {η mw pw d y F' H'} EE => by
        obtain ⟨fq, EQ⟩ := EE
        obtain ⟨y2, hy2, q, eq, k1, k2⟩ := EQ.at_ 0 _ rfl
        refine EF.mut' hi fun p' hx' _ _ => ⟨fq 0, EQ.gr.ff, fun a u w n => ?_, fun a ha _ hc => ?_, EQ.gr.fh, fun a ha => ⟨?_, (k1 a ha).1⟩, ?_⟩
        · by_cases ha : a ∈ fp i
          · exact .inr ha
          · have z := EQ.gr.nw a u w n
            rw [cut_out ha] at z
            exact .inl z
        · cases w : H2 a with
          | none => exact absurd w hc
          | some u => exact EQ.gr.hh a u (by rw [cut_out ha]; exact w)
        · by_cases h : a ∈ fp i
          · exact .inl h
          · have z := (k1 a ha).2
            rw [cut_out h] at z
            exact .inr z
        · rw [hx] at hx'
          cases Option.some.inj (Option.some.inj hx')
          have e := pw.pin k2
          subst e
          cases o with
          | none => exact pw.un k2
          | some o' => rw [← pin o' rfl]; exact k2
      have hA : A ((fn st0 (j, v0, ())).thn (fun y => J.em y.1 (zz y.2)) fun d => M d k') := hA
      refine ⟨p, dx, fs, rfl, hins, F2, p, fp i, st0, (j, v0, ()), [w, v], rfl, EF.gr.fh, pu.un hm2, fun a ha => (hS2 a ha).1, ⟨w, [v], rfl, Fl.fl hw, ⟨v, [], rfl, mox g2.ff hv1, rfl⟩⟩, fun hno => ?_, fun d hd' y F' H' EE => ?_, fun er z he' cls dd y F' H' EE r => ?_⟩
      · rw [hno] at hA
        exact (an.no hA).elim
      · rw [hd'] at hA
        have hA : A (M d k') := hA
        refine (hr d).h F0 H0 A D an k' hkk hA σ F' H' ?_
        rw [← hG d]
        exact put EE
      · rw [he'] at hA
        exact an.er er (zz z) hA σ F' H' cls dd ((put EE).weak (hzz z)) r⟩
end
end LJ

set_option Elab.async false
set_option linter.all false
set_option maxRecDepth 100000
set_option maxHeartbeats 4000000
set_option autoImplicit false
/-! LB4: text * int, count, list() of a parameter with a default; calls of methods, classmethods, own operators; returns of own things. -/
namespace LKB
open PySem L2 PyProof.Rows PySem.Spec
/-- a sign, repeated -/
def rRepS : R2 := fun x y H Q => ∃ (c : Nat) (n : Int), x = .str ⟨#[c]⟩ ∧ y = .int n ∧ 0 ≤ n ∧ n ≤ 1000000 ∧ Q (.str ⟨(List.replicate n.toNat c).toArray⟩) H
theorem fold_rep (c : Nat) : ∀ (k : Nat) (a : Array Nat), (List.replicate k #[c]).foldl (· ++ ·) a = a ++ (List.replicate k c).toArray
  | 0, a => by simp
  | k + 1, a => by
    rw [List.replicate_succ, List.foldl_cons, fold_rep c k]
    rw [List.replicate_succ]
    apply Array.ext'
    simp
theorem op_repS {X : Cx} : OpR X (binaryOp .Mult) rRepS := by
  intro pins s σ H x y v u Q I rx ry h
  obtain ⟨c, n, rfl, rfl, h0, h1, q⟩ := h
  obtain ⟨t, rfl⟩ := rx
  obtain ⟨t', rfl⟩ := ry
  have hl1 : (⟨#[c]⟩ : Str).length = 1 := rfl
  refine P.mul_str (by
    have a : ¬ n < -(2 ^ 63 : Int) := by omega
    have b : ¬ n ≥ 2 ^ 63 := by omega
    rw [decide_eq_false a, decide_eq_false b]; rfl) (fun hn hc => ?_) (fun hn hc => ?_) ?_
  · rw [hl1]
    intro z
    have : (1 : Int) ≤ 9223372036854775807 / n := (Int.le_ediv_iff_mul_le (by omega)).mpr (by omega)
    simp at z
    omega
  · rw [hl1]
    show decide ((1 * n.toNat) > sizeLine) = false
    refine decide_eq_false fun z => ?_
    have : sizeLine = 16777216 := sizeLine_eq
    omega
  · have fin : ∀ (z : Str) (t : Tok) (k : Nat), z = ⟨(List.replicate n.toNat c).toArray⟩ → EP X pins σ Q (.str z t) { s with toks := k } := fun z t k e => ⟨.str z, H, I.tok _, ⟨t, rfl⟩, by rw [e]; exact q⟩
    by_cases hn : n < 1
    · rw [if_pos hn]
      have e : n = 0 := by omega
      subst e
      exact ⟨by decide, fin _ _ _ rfl⟩
    · rw [if_neg hn]
      refine post_val_or_made (fun hc => ?_) fun t' k => ?_
      · have hz : ((List.replicate n.toNat (⟨#[c]⟩ : Str).cps).foldl (· ++ ·) #[]).size ≤ 1000000 := by
          show ((List.replicate n.toNat #[c]).foldl (· ++ ·) #[]).size ≤ _
          rw [fold_rep]; simp; omega
        exact Nat.le_trans hz (by decide)
      · refine fin _ _ _ ?_
        split
        · rename_i hh
          have e : n = 1 := by
            rw [hl1] at hh
            simpa using hh
          subst e; rfl
        · show (⟨(List.replicate n.toNat #[c]).foldl (· ++ ·) #[]⟩ : Str) = _
          rw [fold_rep]; simp
end LKB
namespace LJ
open PySem L2 LK LKX LKB ClX PyProof.Rows PySem.Spec
section
variable {C : Cn} {G : List LK.Slot} {m m1 m2 : Md} {a b e o : Expr} {es : List Expr} {pos apos p : Pos} {x mn : Str}
/-- '.' * n -/
def repR (x : List Nat) (n : Int) : R Er (List Nat) := match x with
  | [c] => R.iff (0 ≤ n ∧ n ≤ 1000000) (.ok (List.replicate n.toNat c))
  | _ => .no
theorem xrep {f : R Er (List Nat)} {g : R Er Int} (ha : XE C a G m1 rTx f) (hb : XE C b G m2 rInt g) : XE C (.BinOp a .Mult b pos) G .sh rTx (f.bind fun x => g.bind fun y => repR x y) := x2 ha hb (pe_op op_repS pE pE) fun F0 H0 x y h1 h2 => by
  unfold repR
  match x with
  | [] => trivial
  | _ :: _ :: _ => trivial
  | [c] =>
    refine dr_iff fun hc => LK.ed_bin h1 h2 fun v w F H g0 hv hw Q q => ⟨c, y, hv.1, hw, hc.1, hc.2, q _ F H (Gr.refl g0.fh) ⟨rfl, by simp; omega, fun d hd => ?_⟩⟩
    rw [(List.mem_replicate.mp hd).2]
    exact hv.2.2 c (by simp)
/-! ### two operands as arguments -/
theorem ea2 {α β : Type} {rx : Rp α} {ry : Rp β} [ix : Mo rx] [iy : Mo ry] {F0 H0 : Hp} {ta tb : TE} {x : α} {y : β} (h1 : Ed F0 H0 ta G m1 rx x) (h2 : Ed F0 H0 tb G m2 ry y) {σ : L2.St} {F H : Hp} (E : EnvOk F0 H0 G σ F H) {Q : V → V → Hp → Prop}
    (q : ∀ v w F' H', Gr F H F' H' → rx (pk m1 F' H0 H') v x → ry (pk m2 F' H0 H') w y → Q v w H') : ta σ H fun v H1 => tb σ H1 fun w H2 => Q v w H2 :=
  h1 σ F H E _ fun v F1 H1 g1 k1 => h2 σ F1 H1 (E.gro g1) _ fun w F2 H2 g2 k2 => q v w F2 H2 (g1.trans g2) (mox (pk_mono m1 g2) k1) k2
/-- what spR asks, at a call -/
theorem spR_at {α β : Type} {T : XT} {P : Pt α} {fn : α → R Er β} {rs : β → LK.Slot} {W : Value → Option Addr → Hp → Prop} {vs : List V} {a : α} {F0 H0 F H : Hp} {Q : VK} (g0 : Gr F0 H0 F H) (ha : P.ra F H H vs a) (hno : fn a ≠ .no)
    (q1 : ∀ b, fn a = .ok b → ∀ v F' H', EnvOk F H [rs b] [some v] F' H' → Q v H') (q2 : ∀ er, fn a = .er er → ∀ cls d F' H', Gr F H F' H' → rEr T F' cls d er → W cls d H') : spR T P fn rs vs H Q (fun cls d H => W cls d H) :=
  ⟨F, a, g0.fh, ha, hno, q1, fun er he cls d F' H' g r => q2 er he cls d F' H' g r⟩
/-- a[b] by an own __getitem__ -/
theorem xownGet {α κ β : Type} {C0 : Addr} {rb : Rp α} [ib : Mo rb] {rk : Rp κ} [ik : Mo rk] {fn : α × κ × Unit → R Er β} {rs : β → LK.Slot} {f : R Er α} {g : R Er κ} {k n : Nat} {fa : Addr} {fd : FuncData} {ps : List Str} (ha : XE C a G m1 rb f) (hb' : XE C b G m2 rk g) (hins : ∀ F v y, rb F v y → ∃ p dx fs, v = .ref p ∧ F p = some (.ins C0 dx fs)) (O : OwnM C.X.K C0 fa "__getitem__") (hf : PySem.W.fnIn C.X.K fa = true) (hb : Binds C.X.K fd ps [])
    (Fo : FnOk C.X.prog C.X.w C.X.K C.X.mg C.X.base (L2.CX C.X.prog C.X.w) k fa fd ps (spR C.T (.cons m1 rb ib (.cons m2 rk ik .nil)) fn rs)) (hr : Room n C.X.A) (hn : ∀ b, Slot.nb (rs b) := by intro; trivial) (hk : k + 1 ≤ n := by decide) (hsl : ∀ x i, subscripted b true x i = runValue (.builtin "lifetime.subscript" ⟨[x, i], []⟩) := by intros; rfl) :
    XN C (.Subscript a b pos) G rs (f.bind fun x => g.bind fun y => fn (x, y, ())) := ⟨fun F0 H0 => by
  have ha := ha.h F0 H0; have hb' := hb'.h F0 H0
  refine Ds.le (t := tOwn2 C0 (spR C.T (.cons m1 rb ib (.cons m2 rk ik .nil)) fn rs) (WE C.W) (tE C.X a) (tE C.X b)) ?_ fun _ _ _ q => tE_le (pe_ownGet pE pE O hf Fo (hr.mono hk) hb (fun σ => passAt C.tk σ) hsl) q
  cases f with
  | no => trivial
  | er y => exact fun σ F H E w Q => ha σ F H E w _
  | ok x0 =>
    cases g with
    | no => trivial
    | er y => exact fun σ F H E w Q => ha σ F H E _ fun v F1 H1 g1 _ => hb' σ F1 H1 (E.gro g1) (fun F' H' cls d g z => w F' H' cls d (g1.trans g) z) _
    | ok y0 =>
      show Ds C F0 H0 _ G rs (fn (x0, y0, ()))
      have key : ∀ {v w : V} {F H F1 H1 : Hp}, Gr F0 H0 F H → Gr F H F1 H1 → rb (pk m1 F1 H0 H1) v x0 → rk (pk m2 F1 H0 H1) w y0 → (Pt.cons m1 rb ib (.cons m2 rk ik .nil)).ra F1 H1 H1 [v, w] (x0, y0, ()) := fun g0 g1 k1 k2 =>
        Pt.now (Pt.cons m1 rb ib (.cons m2 rk ik .nil)) (g0.trans g1) ⟨_, _, rfl, k1, _, _, rfl, k2, rfl⟩
      cases hf' : fn (x0, y0, ()) with
      | no => trivial
      | er y =>
        exact fun σ F H E w Q => ea2 ha hb' E fun v u F1 H1 g1 k1 k2 => by
          obtain ⟨p, dx, fs, e1, e2⟩ := hins _ _ _ k1
          exact ⟨p, dx, fs, e1, pk_now (E.gr.trans g1) _ _ e2, spR_at (E.gr.trans g1) (key E.gr g1 k1 k2) (by rw [hf']; exact fun z => nomatch z) (fun b hb => by rw [hf'] at hb; cases hb) fun er he cls d F2 H2 g2 r => by
            rw [hf'] at he; cases he
            exact w F2 H2 cls d (g1.trans g2) r⟩
      | ok b0 =>
        exact fun σ F H E Q q => ea2 ha hb' E fun v u F1 H1 g1 k1 k2 => by
          obtain ⟨p, dx, fs, e1, e2⟩ := hins _ _ _ k1
          exact ⟨p, dx, fs, e1, pk_now (E.gr.trans g1) _ _ e2, spR_at (E.gr.trans g1) (key E.gr g1 k1 k2) (by rw [hf']; exact fun z => nomatch z) (fun b hb v F2 H2 E2 => by
            rw [hf'] at hb; cases hb
            exact q v F2 H2 (g1.trans E2.gr) (envRebase g1 E2 (hn _))) fun er he => by rw [hf'] at he; cases he⟩⟩
/-- b in a by an own __contains__ -/
theorem xownIn {α κ : Type} {C0 : Addr} {rb : Rp α} [ib : Mo rb] {rk : Rp κ} [ik : Mo rk] {iBl : Mo rBl} {fn : α × κ × Unit → R Er Bool} {f : R Er α} {g : R Er κ} {k n : Nat} {fa : Addr} {fd : FuncData} {ps : List Str} (hb' : XE C b G m2 rk g) (ha : XE C a G m1 rb f) (hins : ∀ F v y, rb F v y → ∃ p dx fs, v = .ref p ∧ F p = some (.ins C0 dx fs)) (O : OwnM C.X.K C0 fa "__contains__") (hb : Binds C.X.K fd ps [])
    (Fo : FnOk C.X.prog C.X.w C.X.K C.X.mg C.X.base (L2.CX C.X.prog C.X.w) k fa fd ps (spR C.T (.cons m1 rb ib (.cons m2 rk ik .nil)) fn (fun c => .fz rBl iBl c))) (hr : Room n C.X.A) (hk : k ≤ n := by decide) :
    XC C .In b a G (g.bind fun y => f.bind fun x => fn (x, y, ())) := ⟨fun F0 H0 => by
  have ha := ha.h F0 H0; have hb' := hb'.h F0 H0
  refine Dr.le (t := tOwnIn C0 (spR C.T (.cons m1 rb ib (.cons m2 rk ik .nil)) fn (fun c => .fz rBl iBl c)) (WE C.W) id (tE C.X b) (tE C.X a)) ?_ fun _ _ _ q => tCm_le (pc_ownIn pE pE O Fo (hr.mono hk) hb (fun σ => passAt C.tk σ)) q
  cases g with
  | no => trivial
  | er y => exact fun σ F H E w Q => hb' σ F H E w _
  | ok y0 =>
    cases f with
    | no => trivial
    | er y => exact fun σ F H E w Q => hb' σ F H E _ fun v F1 H1 g1 _ => ha σ F1 H1 (E.gro g1) (fun F' H' cls d g z => w F' H' cls d (g1.trans g) z) _
    | ok x0 =>
      show Dr C F0 H0 _ G .sh rBl (fn (x0, y0, ()))
      have key : ∀ {v w : V} {F H F1 H1 : Hp}, Gr F0 H0 F H → Gr F H F1 H1 → rb (pk m1 F1 H0 H1) v x0 → rk (pk m2 F1 H0 H1) w y0 → (Pt.cons m1 rb ib (.cons m2 rk ik .nil)).ra F1 H1 H1 [v, w] (x0, y0, ()) := fun g0 g1 k1 k2 =>
        Pt.now (Pt.cons m1 rb ib (.cons m2 rk ik .nil)) (g0.trans g1) ⟨_, _, rfl, k1, _, _, rfl, k2, rfl⟩
      cases hf' : fn (x0, y0, ()) with
      | no => trivial
      | er y =>
        exact fun σ F H E w Q => ea2 hb' ha E fun u v F1 H1 g1 k2 k1 => by
          obtain ⟨p, dx, fs, e1, e2⟩ := hins _ _ _ k1
          exact ⟨p, dx, fs, e1, pk_now (E.gr.trans g1) _ _ e2, spR_at (E.gr.trans g1) (key E.gr g1 k1 k2) (by rw [hf']; exact fun z => nomatch z) (fun b hb => by rw [hf'] at hb; cases hb) fun er he cls d F2 H2 g2 r => by
            rw [hf'] at he; cases he
            exact w F2 H2 cls d (g1.trans g2) r⟩
      | ok b0 =>
        exact fun σ F H E Q q => ea2 hb' ha E fun u v F1 H1 g1 k2 k1 => by
          obtain ⟨p, dx, fs, e1, e2⟩ := hins _ _ _ k1
          exact ⟨p, dx, fs, e1, pk_now (E.gr.trans g1) _ _ e2, spR_at (E.gr.trans g1) (key E.gr g1 k1 k2) (by rw [hf']; exact fun z => nomatch z) (fun b hb v F2 H2 E2 => by
            rw [hf'] at hb; cases hb
            obtain ⟨v', hv', ok⟩ := E2.fz_at (i := 0) rfl
            cases Option.some.inj (Option.some.inj hv')
            have ok : v = .bl b0 := ok
            exact ⟨b0, ok, q _ F2 H2 (g1.trans E2.gr) rfl⟩) fun er he => by rw [hf'] at he; cases he⟩⟩
/-- o.m(e, ..) -/
theorem xmeth {α β γ : Type} {C0 : Addr} {rb : Rp α} [ib : Mo rb] {P : Pt β} {fn : α × β → R Er γ} {rs : γ → LK.Slot} {f : R Er α} {g : R Er β} {k n : Nat} {fa : Addr} {fd : FuncData} {ps : List Str} {pl : Sem Bool} (ho : XE C o G m1 rb f) (ha : XA C (e :: es) G P g) (hins : ∀ F v y, rb F v y → ∃ p dx fs, v = .ref p ∧ F p = some (.ins C0 dx fs) ∧ fs.lookup mn = none) (c : Cls C.X.K C0) (Mt : Meth C.X.K C0 mn fa) (hb : Binds C.X.K fd ps [])
    (Fo : FnOk C.X.prog C.X.w C.X.K C.X.mg C.X.base (L2.CX C.X.prog C.X.w) k fa fd ps (spR C.T (.cons m1 rb ib P) fn rs)) (hr : Room n C.X.A) (hn : ∀ b, Slot.nb (rs b) := by intro; trivial) (hk : k ≤ n := by decide)
    (hst : starEach (e :: es) C.X.env = (false, eval e C.X.env) :: starEach es C.X.env := by exact star_cons rfl) (hpl : (backTo pos (starEach es C.X.env)).any (·.1) = false := by rfl)
    (ht : eval (.Call (.Attribute o mn apos) (e :: es) [] pos) C.X.env = (do
      let ov ← eval o C.X.env
      standAt apos.atName
      let (f, first) ← holding [ov] (getMethod ov mn pl)
      callWith pos f first (backTo pos (starEach (e :: es) C.X.env)) (backToKw pos (keywordEach [] C.X.env))) := by rfl) :
    XN C (.Call (.Attribute o mn apos) (e :: es) [] pos) G rs (f.bind fun x => g.bind fun y => fn (x, y)) := ⟨fun F0 H0 => by
  have ho := ho.h F0 H0; have ha := ha.h F0 H0
  refine Ds.le (t := tMethS C0 mn (spR C.T (.cons m1 rb ib P) fn rs) [] (WE C.W) (tE C.X o) (tA C.X (e :: es))) ?_ fun _ _ _ q => tE_le (pe_methS pE c Mt Fo (hr.mono hk) hb .nil (fun σ => passAt C.tk σ) pA hst hpl ht) q
  have key : ∀ {x0 : α} {v : V} {F H F1 H1 : Hp}, Gr F0 H0 F H → Gr F H F1 H1 → rb (pk m1 F1 H0 H1) v x0 → ∃ p dx fs, v = .ref p ∧ H1 p = some (.ins C0 dx fs) ∧ fs.lookup mn = none := fun g0 g1 k1 => by
    obtain ⟨p, dx, fs, e1, e2, e3⟩ := hins _ _ _ k1
    exact ⟨p, dx, fs, e1, pk_now (g0.trans g1) _ _ e2, e3⟩
  cases f with
  | no => trivial
  | er y => exact fun σ F H E w Q => ho σ F H E w _
  | ok x0 =>
    cases g with
    | no => trivial
    | er y =>
      exact fun σ F H E w Q => ho σ F H E _ fun v F1 H1 g1 k1 => by
        obtain ⟨p, dx, fs, e1, e2, e3⟩ := key E.gr g1 k1
        exact ⟨p, dx, fs, e1, e2, e3, ha σ F1 H1 (E.gro g1) (fun F' H' cls d g z => w F' H' cls d (g1.trans g) z) _⟩
    | ok y0 =>
      show Ds C F0 H0 _ G rs (fn (x0, y0))
      have ky : ∀ {v : V} {us : List V} {F1 H1 F2 H2 : Hp}, Gr F0 H0 F1 H1 → Gr F1 H1 F2 H2 → rb (pk m1 F1 H0 H1) v x0 → P.ra F2 H0 H2 us y0 → (Pt.cons m1 rb ib P).ra F2 H2 H2 (v :: us) (x0, y0) := fun g0 g2 k1 k2 =>
        Pt.now (Pt.cons m1 rb ib P) (g0.trans g2) ⟨_, _, rfl, mox (pk_mono m1 g2) k1, k2⟩
      cases hf' : fn (x0, y0) with
      | no => trivial
      | er y =>
        exact fun σ F H E w Q => ho σ F H E _ fun v F1 H1 g1 k1 => by
          obtain ⟨p, dx, fs, e1, e2, e3⟩ := key E.gr g1 k1
          exact ⟨p, dx, fs, e1, e2, e3, ha σ F1 H1 (E.gro g1) _ fun us F2 H2 g2 k2 => by
            rw [List.append_nil]
            exact spR_at (E.gr.trans (g1.trans g2)) (ky (E.gr.trans g1) g2 k1 k2) (by rw [hf']; exact fun z => nomatch z) (fun b hb => by rw [hf'] at hb; cases hb) fun er he cls d F3 H3 g3 r => by
              rw [hf'] at he; cases he
              exact w F3 H3 cls d ((g1.trans g2).trans g3) r⟩
      | ok b0 =>
        exact fun σ F H E Q q => ho σ F H E _ fun v F1 H1 g1 k1 => by
          obtain ⟨p, dx, fs, e1, e2, e3⟩ := key E.gr g1 k1
          exact ⟨p, dx, fs, e1, e2, e3, ha σ F1 H1 (E.gro g1) _ fun us F2 H2 g2 k2 => by
            rw [List.append_nil]
            exact spR_at (E.gr.trans (g1.trans g2)) (ky (E.gr.trans g1) g2 k1 k2) (by rw [hf']; exact fun z => nomatch z) (fun b hb v F3 H3 E3 => by
              rw [hf'] at hb; cases hb
              exact q v F3 H3 ((g1.trans g2).trans E3.gr) (envRebase (g1.trans g2) E3 (hn _))) fun er he => by rw [hf'] at he; cases he⟩⟩
/-- C.m(e, ..), m a classmethod -/
theorem xcmeth {β γ : Type} {C0 pm : Addr} {mc : Value} {im : Mo (rCl C0)} {P : Pt β} {fn : Unit × β → R Er γ} {rs : γ → LK.Slot} {g : R Er β} {k n : Nat} {fa : Addr} {fd : FuncData} {ps : List Str} {pl : Sem Bool} (ho : XE C o G .sh (rCl C0) (.ok ())) (ha : XA C (e :: es) G P g) (r : CRead C.X.K C0 mc) (cm : CMet C.X.K C0 mc mn pm fa) (hb : Binds C.X.K fd ps [])
    (Fo : FnOk C.X.prog C.X.w C.X.K C.X.mg C.X.base (L2.CX C.X.prog C.X.w) k fa fd ps (spR C.T (.cons .sh (rCl C0) im P) fn rs)) (hr : Room n C.X.A) (hn : ∀ b, Slot.nb (rs b) := by intro; trivial) (hk : k ≤ n := by decide)
    (hst : starEach (e :: es) C.X.env = (false, eval e C.X.env) :: starEach es C.X.env := by exact star_cons rfl) (hpl : (backTo pos (starEach es C.X.env)).any (·.1) = false := by rfl)
    (ht : eval (.Call (.Attribute o mn apos) (e :: es) [] pos) C.X.env = (do
      let ov ← eval o C.X.env
      standAt apos.atName
      let (f, first) ← holding [ov] (getMethod ov mn pl)
      callWith pos f first (backTo pos (starEach (e :: es) C.X.env)) (backToKw pos (keywordEach [] C.X.env))) := by rfl) :
    XN C (.Call (.Attribute o mn apos) (e :: es) [] pos) G rs (g.bind fun y => fn ((), y)) := ⟨fun F0 H0 => by
  have ho : Ed F0 H0 (tE C.X o) G .sh (rCl C0) () := ho.h F0 H0
  have ha := ha.h F0 H0
  refine Ds.le (t := tCMethS C0 (spR C.T (.cons .sh (rCl C0) im P) fn rs) (WE C.W) (tE C.X o) (tA C.X (e :: es))) ?_ fun _ _ _ q => tE_le (pe_cmethS pE r cm Fo (hr.mono hk) hb (fun σ => passAt C.tk σ) pA hst hpl ht) q
  cases g with
  | no => trivial
  | er y => exact fun σ F H E w Q => ho σ F H E _ fun v F1 H1 g1 k1 => ⟨k1, ha σ F1 H1 (E.gro g1) (fun F' H' cls d g z => w F' H' cls d (g1.trans g) z) _⟩
  | ok y0 =>
    show Ds C F0 H0 _ G rs (fn ((), y0))
    have ky : ∀ {us : List V} {F1 H1 F2 H2 : Hp}, Gr F0 H0 F1 H1 → Gr F1 H1 F2 H2 → P.ra F2 H0 H2 us y0 → (Pt.cons .sh (rCl C0) im P).ra F2 H2 H2 (V.ref C0 :: us) ((), y0) := fun g0 g2 k2 =>
      Pt.now (Pt.cons .sh (rCl C0) im P) (g0.trans g2) ⟨_, _, rfl, rfl, k2⟩
    cases hf' : fn ((), y0) with
    | no => trivial
    | er y =>
      exact fun σ F H E w Q => ho σ F H E _ fun v F1 H1 g1 k1 => ⟨k1, ha σ F1 H1 (E.gro g1) _ fun us F2 H2 g2 k2 =>
        spR_at (E.gr.trans (g1.trans g2)) (ky (E.gr.trans g1) g2 k2) (by rw [hf']; exact fun z => nomatch z) (fun b hb => by rw [hf'] at hb; cases hb) fun er he cls d F3 H3 g3 r => by
          rw [hf'] at he; cases he
          exact w F3 H3 cls d ((g1.trans g2).trans g3) r⟩
    | ok b0 =>
      exact fun σ F H E Q q => ho σ F H E _ fun v F1 H1 g1 k1 => ⟨k1, ha σ F1 H1 (E.gro g1) _ fun us F2 H2 g2 k2 =>
        spR_at (E.gr.trans (g1.trans g2)) (ky (E.gr.trans g1) g2 k2) (by rw [hf']; exact fun z => nomatch z) (fun b hb v F3 H3 E3 => by
          rw [hf'] at hb; cases hb
          exact q v F3 H3 ((g1.trans g2).trans E3.gr) (envRebase (g1.trans g2) E3 (hn _))) fun er he => by rw [hf'] at he; cases he⟩⟩
end
section
variable {C : Cn} {β ρ ε Z S' : Type} {J : Jn β ρ ε Z} {G : List LK.Slot} {slk : S' → List LK.Slot} {e : Expr} {rest : List Stmt} {pos : Pos}
/-- an expression for what it does -/
theorem xb_exprN {α : Type} {sb : α → LK.Slot} {f : R Er α} {M : (S' → R ε ρ) → R ε ρ} (z : Z) (hz : Lw G (J.slz z)) (he : XN C e G sb f) (hr : XB C J rest G slk M) (hs : swapsWith e none pos.line C.X.env = pure false := by rfl) :
    XB C J (.Expr e pos :: rest) G slk (fun k => f.thn (fun y => J.em y z) fun _ => M k) := ⟨fun F0 H0 A D an k hk hA σ F H E => by
  have he := he.h F0 H0
  refine tS_le (pss_cons (ps_expr pE hs) pS) ?_
  cases f with
  | ok a => exact he σ F H E _ fun v F' H' g _ => hr.h F0 H0 A D an k hk hA _ F' H' (E.gro g)
  | er y => exact he σ F H E (an.air hz hA E) _
  | no => exact (an.no hA).elim⟩
/-- an own thing is handed back -/
theorem xb_retM {Mu0 : Mu} {iM : MoM Mu0} {x : Str} {p1 : Pos} (i : Nat) (z : Z) (hi : G[i]? = some (.ow Mu0 iM)) (b : β) (hb : J.rs b = .ow Mu0 iM) (hz : Lw (G.set i .no) (J.slz z))
    (hN : C.X.N[i]? = some x := by rfl) (hv : Vis C.X.env.scope x := by first | exact Or.inl rfl | exact Or.inr (Or.inl rfl) | exact Or.inr (Or.inr rfl)) (hd : (x == ("__debug__" : Str)) = false := by decide) (hcd : (x == ("__classdict__" : Str)) = false := by decide) :
    XB C J (.Return (some (.Name x p1)) pos :: rest) G slk (fun _ => .ok (J.ret b z)) := ⟨fun F0 H0 A D an k hk hA σ F H E => by
  refine tS_le (pss_cons (ps_ret (pe_var hN hv hd hcd)) pS) ?_
  obtain ⟨q, S, hx, _⟩ := E.ow_at hi
  refine ⟨_, hx, an.ret b z hA σ F H _ ?_⟩
  have hl := E.len
  have hil : i < G.length := (List.getElem?_eq_some_iff.mp hi).1
  have E2 : EnvOk F0 H0 (.ow Mu0 iM :: G.set i .no) (some (.ref q) :: σ) F H := by
    refine E.re (fun j => match j with | 0 => i | n + 1 => n) (by simp [hl]) (fun j t hj => ?_) (fun j l e => ?_)
    · cases j with
      | zero => simp at hj; subst hj; exact ⟨⟨_, rfl⟩, .inr ⟨hi, by simp [hx]⟩⟩
      | succ j =>
        have hjl : j < σ.length := by rw [hl]; have := (List.getElem?_eq_some_iff.mp hj).1; simpa using this
        refine ⟨⟨σ[j], (List.getElem?_cons_succ).trans (List.getElem?_eq_getElem hjl)⟩, ?_⟩
        rcases set_get (show (G.set i .no)[j]? = some t by simpa using hj) with ⟨_, _, e⟩ | ⟨_, h⟩
        · exact .inl e.symm
        · exact .inr ⟨h, by simp⟩
    · cases j with
      | zero =>
        cases l with
        | zero => exact .inl rfl
        | succ l =>
          have e : i = l := e
          subst e
          exact .inr fun _ _ => .inr (by simp [List.getElem?_set_self hil])
      | succ j =>
        cases l with
        | zero =>
          have e : j = i := e
          subst e
          exact .inr fun _ _ => .inl (by simp [List.getElem?_set_self hil])
        | succ l => exact .inl (congrArg (· + 1) e)
  exact E2.weak ⟨.inr hb.symm, hz⟩⟩
end
end LJ

set_option Elab.async false
set_option linter.all false
set_option maxRecDepth 100000
set_option maxHeartbeats 4000000
set_option autoImplicit false
/-! LB5: defs with defaults that change their first argument; what a class of the text is known by; sequences of either kind. -/
namespace LK
open PySem L2 PyProof.Rows
theorem Rd.exs {F F' : Hp} {p : Addr} {u : HO} (e : Exs F F') (hd : isD u = false) (hf : core u = u) (h : Rd F p u) : Rd F' p u := by
  rcases h with h | ⟨o, h⟩
  · exact .inl (e.at_ h (by rw [hf]; exact hd))
  · exact .inr ⟨o, e.at_ h hd⟩
instance {α : Type} (K : PySem.W.Frag) (r : Rp α) [h : Mo r] : Mo (rSq K r) := ⟨fun e ⟨p, vs, h1, h2, h3, h4⟩ => ⟨p, vs, h1, h2.elim (fun z => .inl (z.elim (fun z => .inl (Rd.exs e rfl rfl z)) .inr)) (fun z => .inr (z.elim (fun z => .inl (Rd.exs e rfl rfl z)) .inr)), h3, pmap (fun _ _ z => h.mo e z) h4⟩⟩
section
variable {F0 H0 : Hp} {G : List Slot} {m1 : Md} {ta : TE} {K : PySem.W.Frag}
theorem sqL_now {F H : Hp} {p : Addr} {vs : List V} (e : Ex F H) (h : SqL K F p vs) : SqL K H p vs := h.elim (fun z => .inl (Rd.exs e.s rfl rfl z)) .inr
theorem sqT_now {F H : Hp} {p : Addr} {vs : List V} (e : Ex F H) (h : SqT K F p vs) : SqT K H p vs := h.elim (fun z => .inl (Rd.exs e.s rfl rfl z)) .inr
theorem en_listQ {α : Type} {r : Rp α} [Mo r] [Kp m1 r] {xs : List α} (hx : Ed F0 H0 ta G m1 (rSq K r) xs) : En F0 H0 (tCB (rListQ K) (tCons ta tNil)) G r xs :=
  en_c1 hx fun v F H g0 hv Q q => by
    obtain ⟨p, vs, rfl, h1, h2, h3⟩ := hv
    exact ⟨p, vs, rfl, h1.elim (fun z => .inl (sqL_now (pk_now g0) z)) (fun z => .inr (sqT_now (pk_now g0) z)), fun l hl => q l vs F _ (Gr.wild g0.fh hl) hl (g0.fh.back hl) upd_same h2 (pmap (fun _ _ z => Kp.kp g0 z) h3)⟩
end
end LK
namespace LJ
open PySem L2 LK LKX LKB ClX PyProof.Rows PySem.Spec
section
variable {C : Cn} {G : List LK.Slot} {m m1 : Md} {a e : Expr} {es : List Expr} {pos p p0 : Pos} {x : Str}
/-- list(e), e a list or a tuple -/
theorem xlistQ {α : Type} {r : Rp α} [Mo r] [Kp m1 r] {f : R Er (List α)} (ha : XE C a G m1 (rSq C.X.K r) f) (hm : C.X.mg "list" = none) (hg : Gl C.X "list" := by rfl) (he : starEach [a] C.X.env = (false, eval a C.X.env) :: starEach [] C.X.env := by exact star_cons rfl) (hpl : (backTo pos (starEach [] C.X.env)).any (·.1) = false := by rfl) :
    XN C (.Call (.Name "list" p) [a] [] pos) G (fun xs => sL r xs) (f.bind fun x => .ok x) := x1n ha (pTy call_list_of hm (by decide +kernel) hg (by decide) (by decide) he hpl) (fun _ _ _ z σ F H E w Q => z σ F H E w _) fun _ _ x h => dv_en (en_listQ h)
/-- a list as a sequence of either kind -/
theorem xsqL {α : Type} {r : Rp α} {f : R Er (List α)} (h : XE C e G m (rLst r) f) : XE C e G m (rSq C.X.K r) f := ⟨fun F0 H0 => by
  have h := h.h F0 H0
  cases f with
  | ok a => exact fun σ F H E Q q => h σ F H E Q fun v F' H' g ⟨p, vs, h1, h2, h3, h4⟩ => q v F' H' g ⟨p, vs, h1, .inl (SqL.of h2), h3, h4⟩
  | er y => exact h
  | no => trivial⟩
theorem xsqU {α : Type} {r : Rp α} {f : R Er (List α)} (h : XE C e G m (rTup r) f) : XE C e G m (rSq C.X.K r) f := ⟨fun F0 H0 => by
  have h := h.h F0 H0
  cases f with
  | ok a => exact fun σ F H E Q q => h σ F H E Q fun v F' H' g ⟨p, vs, h1, h2, h3, h4⟩ => q v F' H' g ⟨p, vs, h1, .inr (SqT.of h2), h3, h4⟩
  | er y => exact h
  | no => trivial⟩
end
section
variable {P : Program} {w : World} {K : PySem.W.Frag} {mg : Str → Option Value} {base : Heap}
theorem ok_MD {γ δ ζ α S' : Type} {X : XT} {su : Option Addr → γ → Mu} [pn : Pin su] {T : Pt α} {f : γ → α → R (Er × ζ) δ} {sv : Option Addr → δ → LK.Slot} {se : Option Addr → ζ → LK.Slot} {x qual : Str} {st : Stmt} {fa : Addr} {fd : FuncData} {y : Str} {N ps : List Str} {k : Nat} {dvs : List V} {kws : List (Str × V)} (c : Nat) (Fn : FunD K x qual (defArgs st) (defBody st) (defScope st) dvs kws fa fd) (S : FnScope (y :: N) ps (defScope st)) (hc : N.length = T.count + c) (hps : ps.length = T.count + 1)
    (kend : S' → R (Er × ζ) δ) (hend2 : ∀ s e, kend s ≠ .er e)
    (hbody : ∀ (cdv : Value) (A : Around) (outer : List Env) (s : Shared) (H : Hp) (E : XK) (hr : Room k (A.deeper (envOfC qual (defScope st) s.heap.objs.size fa cdv))) (p : Addr) (g : γ) (a : α),
      ∃ (slk : S' → List LK.Slot) (M : (S' → R (Er × ζ) δ) → R (Er × ζ) δ), XB (cnD P w K mg base (y :: N) S.nd qual (defScope st) fa cdv A outer s H E X) (jnM N.length (se (some p))) (defBody st) (.ow (su (some p) g) (pn.mo _ _) :: (T.slots a ++ List.replicate c .no)) slk M ∧ M kend = f g a ∧ (∀ s d, kend s = .ok d → Lw (slk s) (sv (some p) d :: List.replicate N.length .no))) :
    FnOk P w K mg base (L2.CX P w) (k + 1) fa fd ps (spM X su T f sv se) := by
  refine Fn.ok S (fun vs H Q E h => by rw [hps]; exact spM_len h) (fun cdv A outer s H vs Q E hr h => ?_)
  obtain ⟨F, p, Sf, g, a, ws, ev, e, hm, hS, ha, hno, q1, q2⟩ := h
  subst ev
  obtain ⟨slk, M, hB, hM, hsl⟩ := hbody cdv A outer s H E hr p g a
  have hl : ws.length = T.count := T.length ha
  have unc : ∀ {s0 : LK.Slot} {n : Nat} {σ : L2.St} {F' H' : Hp}, EnvOk F (cut Sf H) (s0 :: List.replicate n .no) σ F' H' → ∃ x, EnvOk F (cut Sf H) [s0] [x] F' H' := fun {s0 n σ F' H'} EE => by
    cases σ with
    | nil => have := EE.len; simp at this
    | cons x σ => exact ⟨x, EE.head⟩
  refine ⟨_, pS, hB.h F (cut Sf H) (fun r => r = f g a) _ ⟨fun h => hno h.symm, fun b => b.elim, fun er z h σ F' H' cls d EE r => ?_⟩ kend (fun s' hs σ F' H' EE => ?_) hM _ F H (entryM (im := pn.mo _ _) e (pn.to hm) hS ha c hc)⟩
  · obtain ⟨x, E1⟩ := unc EE
    exact q2 er z h.symm cls d x F' H' E1 r
  · cases hk : kend s' with
    | ok d =>
      obtain ⟨x, E1⟩ := unc (EE.weak (hsl s' d hk))
      exact q1 d (by rw [← hs, hk]) x F' H' E1
    | er y => exact absurd hk (hend2 s' y)
    | no => rw [hk] at hs; exact absurd hs.symm hno
end
/-! ### what is known of a class -/
/-- its __init__; dvs: the defaults that fill up -/
structure CalI (K : PySem.W.Frag) (mg : Str → Option Value) (C f : Addr) (x : Str) (fd : FuncData) (ps : List Str) (dvs : List V) : Prop where
  mm : Mk K C f
  gm : mg x = some (.ref C)
  b0 : Binds K fd ps []
  bd : ∃ ds, Vals dvs ds ∧ Binds K fd ps ds
structure CalM (K : PySem.W.Frag) (C : Addr) (m : Str) (f : Addr) (fd : FuncData) (ps : List Str) : Prop where
  mt : Meth K C m f
  bi : Binds K fd ps []
structure CalO (K : PySem.W.Frag) (C : Addr) (m : Str) (f : Addr) (fd : FuncData) (ps : List Str) : Prop where
  ow : OwnM K C f m
  fn : PySem.W.fnIn K f = true
  bi : Binds K fd ps []
structure CalC (K : PySem.W.Frag) (C : Addr) (m : Str) (f : Addr) (fd : FuncData) (ps : List Str) : Prop where
  at_ : ∃ mc pm, CRead K C mc ∧ CMet K C mc m pm f
  bi : Binds K fd ps []
/-- a class whose instances have a dict and the one field f -/
structure ClsB (K : PySem.W.Frag) (C : Addr) (f : Str) : Prop where
  cl : Cls K C
  no : NoAttr K C f
  sq : PySem.W.noSeq K C = true
theorem mB_ins {α : Type} {C : Addr} {f : Str} {r : Rp α} {xs : List α} : ∀ (F H : Hp) (p : Addr) (S : List Addr), mB C f r none xs F H p S → ∃ dx fs, H p = some (.ins C dx fs) := fun _ _ _ _ ⟨_, dx, q, vs, _, h, _⟩ => ⟨dx, _, h⟩
theorem rI1_ins {α : Type} {C : Addr} {f : Str} {r : Rp α} : ∀ (F : Hp) (v : V) (y : α), rI1 C f r F v y → ∃ p dx fs, v = .ref p ∧ F p = some (.ins C dx fs) := fun _ _ _ ⟨p, dx, u, h1, h2, _⟩ => ⟨p, dx, _, h1, h2⟩
theorem rI1_meth {α : Type} {C : Addr} {f mn : Str} {r : Rp α} (h : (mn == f) = false) : ∀ (F : Hp) (v : V) (y : α), rI1 C f r F v y → ∃ p dx fs, v = .ref p ∧ F p = some (.ins C dx fs) ∧ fs.lookup mn = none := fun _ _ _ ⟨p, dx, u, h1, h2, _⟩ => ⟨p, dx, _, h1, h2, by simp [List.lookup, h]⟩
/-- the empty tuple of the text, as a default -/
theorem sq_none {α : Type} {K : PySem.W.Frag} {r : Rp α} {ea : Addr} {o : Obj} {n : Nat} (h : K.lookup ea = some o) (hc : o.cls = .type "tuple") (hd : o.data = .seq #[] n) (F : Hp) : rSq K r F (.ref ea) ([] : List α) :=
  ⟨ea, [], rfl, .inr (.inr ⟨o, #[], n, h, hc, hd, Nat.zero_le _, .nil⟩), by simp, .nil⟩
theorem had1 {α β : Type} {r : Rp α} {ir : Mo r} {q : Rp β} {iq : Mo q} {dv : V} {d0 : β} (h : ∀ F, q F dv d0) : ∀ F H0 H vs (b : α × Unit), (Pt.cons .sh r ir .nil).ra F H0 H vs b → (Pt.cons .sh r ir (.cons .sh q iq .nil)).ra F H0 H (vs ++ [dv]) (b.1, d0, ()) := fun F H0 H vs b ⟨v, us, e1, h1, e2⟩ => by
  have e2 : us = [] := e2
  subst e1; subst e2
  exact ⟨v, [dv], rfl, h1, dv, [], rfl, h F, rfl⟩
section
variable {C : Cn} {G : List LK.Slot} {m : Md} {o e : Expr} {es : List Expr} {pos p0 apos : Pos} {x mn : Str}
/-- C(e, ..), the defaults fill up -/
theorem xmk1 {α δ ζ β : Type} {C0 : Addr} {P : Pt α} {fn : Unit → α → R (Er × ζ) δ} {mv : Option Addr → δ → Mu} [pn : Pin mv] {se : Option Addr → ζ → LK.Slot} {k n : Nat} {f : Addr} {fd : FuncData} {ps : List Str} {dvs : List V} {P1 : Pt β} {g1 : R Er β} (ad : β → α) (I : CalI C.X.K C.X.mg C0 f x fd ps dvs)
    (Fo : FnOk C.X.prog C.X.w C.X.K C.X.mg C.X.base (L2.CX C.X.prog C.X.w) k f fd ps (spM C.T (m0 C0) P fn (fun o d => .ow (mv o d) (pn.mo o d)) se)) (hr : Room n C.X.A) (ha : XA C (e :: es) G P1 g1) (had : ∀ F H0 H vs b, P1.ra F H0 H vs b → P.ra F H0 H (vs ++ dvs) (ad b)) (hk : k + 1 ≤ n := by decide) (hg : Gl C.X x := by rfl) (hdb : (x == ("__debug__" : Str)) = false := by decide)
    (he : starEach (e :: es) C.X.env = (false, eval e C.X.env) :: starEach es C.X.env := by exact star_cons rfl) (hpl : (backTo pos (starEach es C.X.env)).any (·.1) = false := by rfl) : XN C (.Call (.Name x p0) (e :: es) [] pos) G (fun d => .ow (mv none d) (pn.mo none d)) (g1.bind fun b => mkR (fn () (ad b))) := by
  obtain ⟨ds, hd, hb⟩ := I.bd
  exact xmake (ad := ad) I.mm I.gm hb hd Fo hr ha had hk hg hdb he hpl
/-- C(e, ..), all are written -/
theorem xmk0 {α δ ζ : Type} {C0 : Addr} {P : Pt α} {fn : Unit → α → R (Er × ζ) δ} {mv : Option Addr → δ → Mu} [pn : Pin mv] {se : Option Addr → ζ → LK.Slot} {k n : Nat} {f : Addr} {fd : FuncData} {ps : List Str} {dvs : List V} {g1 : R Er α} (I : CalI C.X.K C.X.mg C0 f x fd ps dvs)
    (Fo : FnOk C.X.prog C.X.w C.X.K C.X.mg C.X.base (L2.CX C.X.prog C.X.w) k f fd ps (spM C.T (m0 C0) P fn (fun o d => .ow (mv o d) (pn.mo o d)) se)) (hr : Room n C.X.A) (ha : XA C (e :: es) G P g1) (hk : k + 1 ≤ n := by decide) (hg : Gl C.X x := by rfl) (hdb : (x == ("__debug__" : Str)) = false := by decide)
    (he : starEach (e :: es) C.X.env = (false, eval e C.X.env) :: starEach es C.X.env := by exact star_cons rfl) (hpl : (backTo pos (starEach es C.X.env)).any (·.1) = false := by rfl) : XN C (.Call (.Name x p0) (e :: es) [] pos) G (fun d => .ow (mv none d) (pn.mo none d)) (g1.bind fun b => mkR (fn () b)) :=
  xmake (ad := fun b => b) I.mm I.gm I.b0 .nil Fo hr ha (fun F H0 H vs b h => by rw [List.append_nil]; exact h) hk hg hdb he hpl
/-- c(e, ..), c a local that holds the class, the defaults fill up -/
theorem xmkL1 {α δ ζ β : Type} {C0 : Addr} {im : Mo (rCl C0)} {P : Pt α} {fn : Unit → α → R (Er × ζ) δ} {mv : Option Addr → δ → Mu} [pn : Pin mv] {se : Option Addr → ζ → LK.Slot} {k n : Nat} {f : Addr} {fd : FuncData} {ps : List Str} {dvs : List V} {P1 : Pt β} {g1 : R Er β} {cn : Str} (ad : β → α) (i : Nat) (I : CalI C.X.K C.X.mg C0 f cn fd ps dvs)
    (Fo : FnOk C.X.prog C.X.w C.X.K C.X.mg C.X.base (L2.CX C.X.prog C.X.w) k f fd ps (spM C.T (m0 C0) P fn (fun o d => .ow (mv o d) (pn.mo o d)) se)) (hr : Room n C.X.A) (ha : XA C (e :: es) G P1 g1) (had : ∀ F H0 H vs b, P1.ra F H0 H vs b → P.ra F H0 H (vs ++ dvs) (ad b)) (hk : k + 1 ≤ n := by decide)
    (hi : G[i]? = some (.fz (rCl C0) im ()) := by rfl) (hN : C.X.N[i]? = some x := by rfl) (hv : Vis C.X.env.scope x := by first | exact Or.inl rfl | exact Or.inr (Or.inl rfl) | exact Or.inr (Or.inr rfl)) (hdb : (x == ("__debug__" : Str)) = false := by decide) (hcd : (x == ("__classdict__" : Str)) = false := by decide)
    (he : starEach (e :: es) C.X.env = (false, eval e C.X.env) :: starEach es C.X.env := by exact star_cons rfl) (hpl : (backTo pos (starEach es C.X.env)).any (·.1) = false := by rfl) : XN C (.Call (.Name x p0) (e :: es) [] pos) G (fun d => .ow (mv none d) (pn.mo none d)) (g1.bind fun b => mkR (fn () (ad b))) := by
  obtain ⟨ds, hd, hb⟩ := I.bd
  exact xmakeL (ad := ad) i hi I.mm hb hd Fo hr ha had hk hN hv hdb hcd he hpl
theorem xcm {β γ : Type} {C0 : Addr} {im : Mo (rCl C0)} {P : Pt β} {fn : Unit × β → R Er γ} {rs : γ → LK.Slot} {g : R Er β} {k n : Nat} {fa : Addr} {fd : FuncData} {ps : List Str} {pl : Sem Bool} (ho : XE C o G .sh (rCl C0) (.ok ())) (ha : XA C (e :: es) G P g) (I : CalC C.X.K C0 mn fa fd ps)
    (Fo : FnOk C.X.prog C.X.w C.X.K C.X.mg C.X.base (L2.CX C.X.prog C.X.w) k fa fd ps (spR C.T (.cons .sh (rCl C0) im P) fn rs)) (hr : Room n C.X.A) (hn : ∀ b, Slot.nb (rs b) := by intro; trivial) (hk : k ≤ n := by decide)
    (hst : starEach (e :: es) C.X.env = (false, eval e C.X.env) :: starEach es C.X.env := by exact star_cons rfl) (hpl : (backTo pos (starEach es C.X.env)).any (·.1) = false := by rfl)
    (ht : eval (.Call (.Attribute o mn apos) (e :: es) [] pos) C.X.env = (do
      let ov ← eval o C.X.env
      standAt apos.atName
      let (f, first) ← holding [ov] (getMethod ov mn pl)
      callWith pos f first (backTo pos (starEach (e :: es) C.X.env)) (backToKw pos (keywordEach [] C.X.env))) := by rfl) :
    XN C (.Call (.Attribute o mn apos) (e :: es) [] pos) G rs (g.bind fun y => fn ((), y)) := by
  obtain ⟨mc, pm, r, c⟩ := I.at_
  exact xcmeth ho ha r c I.bi Fo hr hn hk hst hpl ht
end
section
variable {C : Cn} {G : List LK.Slot} {m m1 : Md} {o e : Expr} {pos apos : Pos}
/-- xs.count(k) of ints -/
theorem xcount {f : R Er (List Int)} {g : R Er Int} (ho : XE C o G m (rLst rInt) f) (ha : XE C e G m1 rInt g) (hbase : attributeBase o "count" C.X.env (eval o C.X.env) = eval o C.X.env := by rfl)
    (hfew : ((backTo pos (starEach [e] C.X.env)).all (fun x => !x.1) && (backToKw pos (keywordEach [] C.X.env)).all (fun x => x.1.isSome) && decide ([e].length + ([] : List Keyword).length + (if ([] : List Keyword).isEmpty then 0 else 1) < 30)) = true := by rfl)
    (hline : (apos.endLine == pos.line) = true := by rfl) (hs : starEach [e] C.X.env = (false, eval e C.X.env) :: starEach [] C.X.env := by exact star_cons rfl) (hplain : (backTo pos (starEach [] C.X.env)).any (·.1) = false := by rfl) :
    XE C (.Call (.Attribute o "count" apos) [e] [] pos) G .sh rInt (f.bind fun x => g.bind fun y => .ok ((x.count y : Nat) : Int)) := ⟨fun F0 H0 => by
  have ho := ho.h F0 H0; have ha := ha.h F0 H0
  refine Dr.le (t := tBM C.X.K "list" (rCntI C.X.K) (tE C.X o) (tCons (tE C.X e) tNil)) ?_ fun _ _ _ q => tE_le (pe_bm PySem.F.plainAttrs_list PySem.F.slot_list_count PySem.F.type_list_count mt_lcount pE (pa_cons pE pa_nil hs) hbase hfew hline hs hplain) q
  have hInts : ∀ {F : Hp} {vs : List V} {xs : List Int}, Paired (rInt F) vs xs → vs = xs.map V.int := fun {F vs xs} h => by
    induction h with
    | nil => rfl
    | cons a _ ih => rw [List.map_cons, ← ih, show _ = _ from a]
  cases f with
  | no => trivial
  | er y => exact fun σ F H E w Q => ho σ F H E w _
  | ok xs =>
    cases g with
    | no => trivial
    | er y =>
      exact fun σ F H E w Q => ho σ F H E _ fun v F1 H1 g1 h1 => by
        obtain ⟨p, vs, rfl, h2, h3, h4⟩ := h1
        exact ⟨.inl ⟨rfl, _, SqL.of (pk_now (E.gr.trans g1) _ _ h2)⟩, ha σ F1 H1 (E.gro g1) (fun F' H' cls d g z => w F' H' cls d (g1.trans g) z) _⟩
    | ok k =>
      exact fun σ F H E Q q => ho σ F H E _ fun v F1 H1 g1 h1 => by
        obtain ⟨p, vs, rfl, h2, h3, h4⟩ := h1
        refine ⟨.inl ⟨rfl, _, SqL.of (pk_now (E.gr.trans g1) _ _ h2)⟩, ha σ F1 H1 (E.gro g1) _ fun w F2 H2 g2 hw => ⟨p, xs, k, rfl, by rw [show w = _ from hw], ?_, q _ F2 H2 (g1.trans g2) rfl⟩⟩
        rw [← hInts h4]
        exact SqL.of (g2.hh _ _ (pk_now (E.gr.trans g1) _ _ h2))⟩
end
end LJ

set_option Elab.async false
set_option linter.all false
set_option maxRecDepth 100000
set_option maxHeartbeats 4000000
set_option autoImplicit false
/-! LB6: data of any kind compared; three in a tuple. -/
namespace LK
open PySem L2 PyProof.Rows
instance {α β γ : Type} (r : Rp α) (s : Rp β) (t : Rp γ) [h : Tod r] [g : Tod s] [k : Tod t] : Tod (rP3 r s t) := ⟨fun x => .tup [h.d x.1, g.d x.2.1, k.d x.2.2], fun ⟨p, u, w, z, h1, h2, h3, h4, h5⟩ => by unfold rDt; exact ⟨p, [u, w, z], h1, h2, by simp, rDts_p.mpr (.cons (h.to h3) (.cons (g.to h4) (.cons (k.to h5) .nil)))⟩, fun {a b} e => by
  injection e with e
  injection e with e1 e2
  injection e2 with e2 e3
  injection e3 with e3 _
  exact Prod.ext (h.inj e1) (Prod.ext (g.inj e2) (k.inj e3))⟩
mutual
def Dt.py : Dt → PyData
  | .non => .none
  | .bl b => .bool b
  | .int i => .int i
  | .tx s => .str ⟨s.toArray⟩
  | .lst xs => .list (pys xs)
  | .tup xs => .tuple (pys xs)
def pys : List Dt → List PyData
  | [] => []
  | x :: xs => x.py :: pys xs
end
mutual
theorem dt_dp {F H : Hp} {K : PySem.W.Frag} (e : Ex F H) : ∀ (x : Dt) (v : V), rDt F v x → Dp K H v x.py
  | .non, v, h => by unfold rDt at h; subst h; exact .non
  | .bl b, v, h => by unfold rDt at h; subst h; exact .bl b
  | .int i, v, h => by unfold rDt at h; subst h; exact .int i
  | .tx s, v, h => by unfold rDt at h; rw [h.1]; exact .str _
  | .lst xs, v, h => by
    unfold rDt at h
    obtain ⟨p, vs, rfl, h1, h2, h3⟩ := h
    exact .lst (SqL.of (e _ _ h1)) (dts_dp e xs vs h3)
  | .tup xs, v, h => by
    unfold rDt at h
    obtain ⟨p, vs, rfl, h1, h2, h3⟩ := h
    exact .tup (SqT.of (e _ _ h1)) (dts_dp e xs vs h3)
theorem dts_dp {F H : Hp} {K : PySem.W.Frag} (e : Ex F H) : ∀ (xs : List Dt) (vs : List V), rDts F vs xs → DpAll K H vs (pys xs)
  | [], vs, h => by unfold rDts at h; subst h; exact .nil
  | x :: xs, vs, h => by
    unfold rDts at h
    obtain ⟨v, us, rfl, h1, h2⟩ := h
    exact .cons (dt_dp e x v h1) (dts_dp e xs us h2)
end
mutual
theorem dt_lay {F : Hp} : ∀ (x : Dt) (v : V), rDt F v x → x.py.canLay0 = true
  | .non, v, h => rfl
  | .bl b, v, h => rfl
  | .int i, v, h => rfl
  | .tx s, v, h => by
    unfold rDt at h
    show PyData.strOk ⟨s.toArray⟩ = true
    unfold PyData.strOk
    simp only [List.all_toArray, List.all_eq_true, decide_eq_true_eq]
    exact h.2.2
  | .lst xs, v, h => by
    unfold rDt at h
    obtain ⟨p, vs, rfl, h1, h2, h3⟩ := h
    exact dts_lay xs vs h3
  | .tup xs, v, h => by
    unfold rDt at h
    obtain ⟨p, vs, rfl, h1, h2, h3⟩ := h
    exact dts_lay xs vs h3
theorem dts_lay {F : Hp} : ∀ (xs : List Dt) (vs : List V), rDts F vs xs → PyData.canLayAll0 (pys xs) = true
  | [], vs, h => rfl
  | x :: xs, vs, h => by
    unfold rDts at h
    obtain ⟨v, us, rfl, h1, h2⟩ := h
    show PyData.canLayAll0 (x.py :: pys xs) = true
    rw [PyData.canLayAll0, dt_lay x v h1, dts_lay xs us h2]; rfl
end
end LK
namespace LJ
open PySem L2 LK LKX LKB ClX PyProof.Rows PySem.Spec
def eqDR (y z : Dt) : R Er Bool := R.iff (y.py.depth ≤ 64 ∧ z.py.depth ≤ 64) (.ok (PyData.eqv y.py z.py))
def neDR (y z : Dt) : R Er Bool := R.iff (y.py.depth ≤ 64 ∧ z.py.depth ≤ 64) (.ok (!PyData.eqv y.py z.py))
section
variable {C : Cn} {G : List LK.Slot} {m m1 m2 : Md} {a b : Expr}
theorem dt_shaped {F : Hp} {v : V} {x : Dt} (h : rDt F v x) (hd : x.py.depth ≤ 64) : SeqAt.shaped x.py = true := by
  unfold SeqAt.shaped
  rw [dt_lay x v h, decide_eq_true hd]; rfl
theorem xeqD {f g : R Er Dt} {k : Nat} (hr : Room k C.X.A) (ha : XE C a G m1 rDt f) (hb : XE C b G m2 rDt g) : XC C .Eq a b G (f.bind fun x => g.bind fun y => eqDR x y) := xc2 ha hb (op_eqD hr.units) fun F0 H0 x y h1 h2 =>
  dr_iff fun hc => LK.ed_bin h1 h2 fun v w F H g0 hv hw Q q => ⟨_, _, dt_dp (pk_now g0) x v hv, dt_dp (pk_now g0) y w hw, dt_shaped hv hc.1, dt_shaped hw hc.2, q _ F H (Gr.refl g0.fh) rfl⟩
theorem xneD {f g : R Er Dt} {k : Nat} (hr : Room k C.X.A) (ha : XE C a G m1 rDt f) (hb : XE C b G m2 rDt g) : XC C .NotEq a b G (f.bind fun x => g.bind fun y => neDR x y) := xc2 ha hb (op_neD hr.units) fun F0 H0 x y h1 h2 =>
  dr_iff fun hc => LK.ed_bin h1 h2 fun v w F H g0 hv hw Q q => ⟨_, _, dt_dp (pk_now g0) x v hv, dt_dp (pk_now g0) y w hw, dt_shaped hv hc.1, dt_shaped hw hc.2, q _ F H (Gr.refl g0.fh) rfl⟩
end
end LJ

set_option Elab.async false
set_option linter.all false
set_option maxRecDepth 100000
set_option maxHeartbeats 4000000
set_option autoImplicit false
/-! LM1: expressions that change what the slots hold; pinned own things. -/
namespace LJ
open PySem L2 LK LKX LKB PyProof.Rows PySem.Spec
/-! ### expressions that change what the slots hold -/
def Mr (C : Cn) (F0 H0 : Hp) {S ζ : Type} (t : TE) (G : List LK.Slot) (sv : S → LK.Slot) (sl : S → List LK.Slot) (sle : ζ → List LK.Slot) : R (Er × ζ) S → Prop
  | .ok s => ∀ σ F H, EnvOk F0 H0 G σ F H → ∀ Q : VK, (∀ v F' H', Ex F F' → EnvOk F0 H0 (sv s :: sl s) (some v :: σ) F' H' → Q v H') → t σ H Q
  | .er ez => ∀ σ F H, EnvOk F0 H0 G σ F H → (∀ F' H' cls d, EnvOk F0 H0 (sle ez.2) σ F' H' → rEr C.T F' cls d ez.1 → C.W cls d σ H') → ∀ Q : VK, t σ H Q
  | .no => True
structure XM (C : Cn) (e : Expr) (G : List LK.Slot) {S ζ : Type} (sv : S → LK.Slot) (sl : S → List LK.Slot) (sle : ζ → List LK.Slot) (f : R (Er × ζ) S) : Prop where
  h : ∀ F0 H0, Mr C F0 H0 (tE C.X e) G sv sl sle f
/-- .. a test -/
def Mt (C : Cn) (F0 H0 : Hp) {S ζ : Type} (t : TT) (G : List LK.Slot) (tb : S → Bool) (sl : S → List LK.Slot) (sle : ζ → List LK.Slot) : R (Er × ζ) S → Prop
  | .ok s => ∀ σ F H, EnvOk F0 H0 G σ F H → ∀ Q : Bool → Hp → Prop, (∀ F' H', Ex F F' → EnvOk F0 H0 (sl s) σ F' H' → Q (tb s) H') → t σ H Q
  | .er ez => ∀ σ F H, EnvOk F0 H0 G σ F H → (∀ F' H' cls d, EnvOk F0 H0 (sle ez.2) σ F' H' → rEr C.T F' cls d ez.1 → C.W cls d σ H') → ∀ Q : Bool → Hp → Prop, t σ H Q
  | .no => True
structure XMQ (C : Cn) (e : Expr) (G : List LK.Slot) {S ζ : Type} (tb : S → Bool) (sl : S → List LK.Slot) (sle : ζ → List LK.Slot) (f : R (Er × ζ) S) : Prop where
  h : ∀ F0 H0, Mt C F0 H0 (tT C.X e) G tb sl sle f
section
variable {C : Cn} {S ζ : Type} {F0 H0 : Hp} {G : List LK.Slot} {sv : S → LK.Slot} {tb : S → Bool} {sl : S → List LK.Slot} {sle : ζ → List LK.Slot}
theorem Mr.le {f : R (Er × ζ) S} {t u : TE} (h : Mr C F0 H0 t G sv sl sle f) (le : ∀ σ H Q, t σ H Q → u σ H Q) : Mr C F0 H0 u G sv sl sle f := by
  cases f with
  | ok a => exact fun σ F H E Q q => le _ _ _ (h σ F H E Q q)
  | er e => exact fun σ F H E w Q => le _ _ _ (h σ F H E w Q)
  | no => trivial
theorem Mt.le {f : R (Er × ζ) S} {t u : TT} (h : Mt C F0 H0 t G tb sl sle f) (le : ∀ σ H Q, t σ H Q → u σ H Q) : Mt C F0 H0 u G tb sl sle f := by
  cases f with
  | ok a => exact fun σ F H E Q q => le _ _ _ (h σ F H E Q q)
  | er e => exact fun σ F H E w Q => le _ _ _ (h σ F H E w Q)
  | no => trivial
/-- an error that changed nothing -/
theorem dx_mr {α : Type} {t : TE} {e : Er} {z : ζ} (h : Dx C F0 H0 t G e) (hz : Lw G (sle z)) : Mr C (S := S) F0 H0 t G sv sl sle (.er (e, z)) := fun σ F H E w Q => h σ F H E (fun F' H' cls d g r => w F' H' cls d ((E.gro g).weak hz) r) Q
end
/-! ### statements -/
section
variable {C : Cn} {β ρ ε Z S S' S2 ζ : Type} {J : Jn β ρ ε Z} {G : List LK.Slot} {slk : S' → List LK.Slot} {e : Expr} {rest st : List Stmt} {pos : Pos} {sv : S → LK.Slot} {tb : S → Bool} {sl : S → List LK.Slot} {sle : ζ → List LK.Slot} {f : R (Er × ζ) S}
theorem xb_setM {M : S → (S' → R ε ρ) → R ε ρ} {x : Str} {pos' : Pos} (i : Nat) (G' : S → List LK.Slot) (zz : ζ → Z) (hzz : ∀ z, Lw (sle z) (J.slz (zz z))) (he : XM C e G sv sl sle f) (hG : ∀ s, (sl s).set i (sv s) = G' s) (hr : ∀ s, XB C J rest (G' s) slk (M s))
    (hi : C.X.N[i]? = some x := by rfl) (hx : Loc C.X.env.scope x := by first | exact .inl rfl | exact .inr rfl) (hs : swapsWith e (some (.Name x pos')) pos.line C.X.env = pure false := by rfl) (hf : C.X.fn x = true ∨ C.X.env.scope.names.lookup x = some .local := by first | exact .inl rfl | exact .inr rfl) :
    XB C J (.Assign [.Name x pos'] e pos :: rest) G slk (fun k => f.thn (fun y => J.em y.1 (zz y.2)) fun s => M s k) := ⟨fun F0 H0 A D an k hk hA σ F H E => by
  have he := he.h F0 H0
  refine tS_le (pss_cons (ps_set C.nd hi hx pE hs hf) pS) ?_
  cases f with
  | ok s => exact he σ F H E _ fun v F' H' _ E' => (hr s).h F0 H0 A D an k hk hA _ F' H' (hG s ▸ E'.move)
  | er y => exact he σ F H E (fun F' H' cls d E' r => an.er y.1 (zz y.2) hA σ F' H' cls d (E'.weak (hzz y.2)) r) _
  | no => exact (an.no hA).elim⟩
theorem xb_exprM {M : S → (S' → R ε ρ) → R ε ρ} (zz : ζ → Z) (hzz : ∀ z, Lw (sle z) (J.slz (zz z))) (he : XM C e G sv sl sle f) (hr : ∀ s, XB C J rest (sl s) slk (M s)) (hs : swapsWith e none pos.line C.X.env = pure false := by rfl) :
    XB C J (.Expr e pos :: rest) G slk (fun k => f.thn (fun y => J.em y.1 (zz y.2)) fun s => M s k) := ⟨fun F0 H0 A D an k hk hA σ F H E => by
  have he := he.h F0 H0
  refine tS_le (pss_cons (ps_expr pE hs) pS) ?_
  cases f with
  | ok s => exact he σ F H E _ fun v F' H' _ E' => (hr s).h F0 H0 A D an k hk hA _ F' H' E'.tail
  | er y => exact he σ F H E (fun F' H' cls d E' r => an.er y.1 (zz y.2) hA σ F' H' cls d (E'.weak (hzz y.2)) r) _
  | no => exact (an.no hA).elim⟩
theorem xb_retMm (zz : ζ → Z) (hzz : ∀ z, Lw (sle z) (J.slz (zz z))) (b : S → β) (zs : S → Z) (hb : ∀ s, sv s = J.rs (b s)) (hz : ∀ s, Lw (sl s) (J.slz (zs s))) (he : XM C e G sv sl sle f) :
    XB C J (.Return (some e) pos :: rest) G slk (fun _ => f.thn (fun y => J.em y.1 (zz y.2)) fun s => .ok (J.ret (b s) (zs s))) := ⟨fun F0 H0 A D an k hk hA σ F H E => by
  have he := he.h F0 H0
  refine tS_le (pss_cons (ps_ret pE) pS) ?_
  cases f with
  | ok s => exact he σ F H E _ fun v F' H' _ E' => an.ret (b s) (zs s) hA σ F' H' v (EnvOk.weak E' ⟨.inr (hb s), hz s⟩)
  | er y => exact he σ F H E (fun F' H' cls d E' r => an.er y.1 (zz y.2) hA σ F' H' cls d (E'.weak (hzz y.2)) r) _
  | no => exact (an.no hA).elim⟩
theorem xb_ifM {c : Expr} {a b : List Stmt} {slj : S2 → List LK.Slot} {M1 M2 : S → (S2 → R ε ρ) → R ε ρ} {M : S2 → (S' → R ε ρ) → R ε ρ} (zz : ζ → Z) (hzz : ∀ z, Lw (sle z) (J.slz (zz z))) (hc : XMQ C c G tb sl sle f) (h1 : ∀ s, XB C J a (sl s) slj (M1 s)) (h2 : ∀ s, XB C J b (sl s) slj (M2 s)) (hr : ∀ s, XB C J rest (slj s) slk (M s)) :
    XB C J (.If c a b pos :: rest) G slk (fun k => f.thn (fun y => J.em y.1 (zz y.2)) fun s => cond (tb s) (M1 s fun s => M s k) (M2 s fun s => M s k)) := ⟨fun F0 H0 A D an k hk hA σ F H E => by
  have hc := hc.h F0 H0
  refine tS_le (pss_cons (ps_if pT pS pS) pS) ?_
  cases f with
  | ok s =>
    refine hc σ F H E _ fun F' H' _ E' => ?_
    have hA : A (cond (tb s) (M1 s fun s => M s k) (M2 s fun s => M s k)) := hA
    cases hb : tb s with
    | true =>
      rw [hb] at hA
      rw [if_pos rfl]; exact (h1 s).h F0 H0 A { D with nx := tS C.X rest D } an _ (fun s hs => (hr s).h F0 H0 A D an k hk hs) hA σ F' H' E'
    | false =>
      rw [hb] at hA
      rw [if_neg (by decide)]; exact (h2 s).h F0 H0 A { D with nx := tS C.X rest D } an _ (fun s hs => (hr s).h F0 H0 A D an k hk hs) hA σ F' H' E'
  | er y => exact hc σ F H E (fun F' H' cls d E' r => an.er y.1 (zz y.2) hA σ F' H' cls d (E'.weak (hzz y.2)) r) _
  | no => exact (an.no hA).elim⟩
end
/-! ### tests -/
section
variable {C : Cn} {S ζ : Type} {G : List LK.Slot} {a b : Expr} {pos : Pos} {sv : S → LK.Slot} {tb : S → Bool} {sl : S → List LK.Slot} {sle : ζ → List LK.Slot} {f : R (Er × ζ) S}
/-- a bool as a test -/
theorem xmqv {im : Mo rBl} (h : XM C a G (fun s => .fz rBl im (tb s)) sl sle f) (he : ∀ whole, isTrue a C.X.env whole = (do let v ← whole; standAt a.pos; holding [v] (truthy v)) := by intro _; rfl) : XMQ C a G tb sl sle f := ⟨fun F0 H0 => by
  have h := h.h F0 H0
  refine Mt.le (t := tB (tE C.X a)) ?_ fun _ _ _ q => tT_le (pt_val pE he) q
  cases f with
  | ok s =>
    intro σ F H E Q q
    refine h σ F H E _ fun v F' H' e E' => ?_
    obtain ⟨u, hu, okk⟩ := E'.fz_at (i := 0) rfl
    cases Option.some.inj (Option.some.inj hu)
    exact ⟨_, okk, q F' H' e E'.tail⟩
  | er y => exact fun σ F H E w Q => h σ F H E w _
  | no => trivial⟩
theorem xmqnot (h : XMQ C a G tb sl sle f) : XMQ C (.UnaryOp .Not a pos) G (fun s => !tb s) sl sle f := ⟨fun F0 H0 => by
  have h := h.h F0 H0
  refine Mt.le (t := tNot (tT C.X a)) ?_ fun _ _ _ q => tT_le (pt_not pT) q
  cases f with
  | ok s => exact fun σ F H E Q q => h σ F H E _ fun F' H' e E' => q F' H' e E'
  | er y => exact fun σ F H E w Q => h σ F H E w _
  | no => trivial⟩
/-- a comparison, the left operand changes something -/
theorem xmqc2 {α β : Type} {rx : Rp α} {im : Mo rx} {ry : Rp β} {r : R2} {op : CmpOp} {m2 : Md} {va : S → α} {g : S → R Er β} {o : α → β → R Er Bool} (zs : S → ζ) (hzs : ∀ s, Lw (sl s) (sle (zs s))) (ha : XM C a G (fun s => .fz rx im (va s)) sl sle f) (hb : ∀ s, XE C b (sl s) m2 ry (g s)) (p : OpR C.X (compareOp op) r)
    (ho : ∀ (G : List LK.Slot) ta tb F0 H0 x y, Ed F0 H0 ta G .sh rx x → Ed F0 H0 tb G m2 ry y → Dr C F0 H0 (tOp r ta tb) G .sh rBl (o x y)) (hm : behindInMarks op b = false := by first | exact nobehind _ (by decide) (by decide) | rfl) :
    XMQ C (.Compare a [op] [b] pos) G (fun s : S × Bool => s.2) (fun s => sl s.1) sle (f.bind fun s => (g s).thn (fun e => (e, zs s)) fun y => (o (va s) y).noer.bind fun c => .ok (s, c)) := ⟨fun F0 H0 => by
  have ha := ha.h F0 H0
  refine Mt.le (t := tTest (tOp r (tE C.X a) (tE C.X b))) ?_ fun _ _ _ q => tT_le (pt_cmpR p pE pE hm) q
  cases f with
  | no => trivial
  | er y => exact fun σ F H E w Q => ha σ F H E w _
  | ok s =>
    have hb := (hb s).h F0 H0
    show Mt C F0 H0 _ G _ _ sle ((g s).thn _ _)
    cases hg : g s with
    | no => trivial
    | er y =>
      rw [hg] at hb
      exact fun σ F H E w Q => ha σ F H E _ fun v F1 H1 e1 E1 => hb σ F1 H1 E1.tail (fun F' H' cls d g' r' => w F' H' cls d ((E1.tail.gro g').weak (hzs s)) r') _
    | ok y =>
      rw [hg] at hb
      have h2 := ho (.fz rx im (va s) :: sl s) (tVar 0) (fun σ' H Q => tE C.X b σ'.tail H Q) F0 H0 (va s) y (ed_v (i := 0) rfl) fun σ' F H E Q q => by
        cases σ' with
        | nil => exact absurd E.len (by simp)
        | cons x σ' => exact hb σ' F H E.tail Q q
      show Mt C F0 H0 _ G _ _ sle ((o (va s) y).noer.bind _)
      cases hc : o (va s) y with
      | no => trivial
      | er y' => trivial
      | ok c =>
        rw [hc] at h2
        exact fun σ F H E Q q => ha σ F H E _ fun v F1 H1 e1 E1 => by
          obtain ⟨v', hv', q'⟩ := h2 (some v :: σ) F1 H1 E1 (fun x H' => ∃ k, x = .bl k ∧ Q k H') fun u F2 H2 g2 hu => ⟨c, hu, q F2 H2 (e1.trans g2.ff) (E1.tail.gro g2)⟩
          cases Option.some.inj (Option.some.inj hv')
          exact q'⟩
end
end LJ

set_option Elab.async false
set_option linter.all false
set_option maxRecDepth 100000
set_option maxHeartbeats 4000000
set_option autoImplicit false
/-! LM2: pinned own things, own lists that change. -/
namespace LK
open PySem L2 PyProof.Rows
/-- an own thing at a known address -/
def mP {α : Type} (mk : α → Mu) (o : Option Addr) (a : α) : Mu := fun F H p S => (∀ q, o = some q → p = q) ∧ mk a F H p S
instance {α : Type} (mk : α → Mu) [im : ∀ a, MoM (mk a)] (o : Option Addr) (a : α) : MoM (mP mk o a) := ⟨fun e k h => ⟨h.1, (im a).mo e k h.2⟩, fun h => (im a).own h.2⟩
instance {α : Type} (mk : α → Mu) [im : ∀ a, MoM (mk a)] : Pin (mP mk) := ⟨fun h => h.1 _ rfl, fun h => ⟨fun _ z => (nomatch z), h.2⟩, fun h => ⟨fun _ z => Option.some.inj z, h.2⟩, fun _ _ => inferInstance⟩
instance {α : Type} (mk : α → Mu) (r : Rp α) [fz : LJ.Fzz mk r] (o : Option Addr) : LJ.Fzz (mP mk o) r := ⟨fun h => fz.fz h.2⟩
/-- an own list, at a known address or not -/
def mPl {α : Type} (r : Rp α) : Option Addr → List α → Mu
  | none, xs => mL r xs
  | some q, xs => mP (mL r) (some q) xs
instance {α : Type} (r : Rp α) [Mo r] (o : Option Addr) (xs : List α) : MoM (mPl r o xs) := by
  cases o
  · show MoM (mL r xs); infer_instance
  · show MoM (mP (mL r) _ xs); infer_instance
instance {α : Type} (r : Rp α) [Mo r] : Pin (mPl r) := ⟨fun h => h.1 _ rfl, fun {o d F H p S} h => by
    cases o
    · exact h
    · exact h.2, fun h => ⟨fun _ z => Option.some.inj z, h⟩, fun _ _ => inferInstance⟩
/-- what is an own list, perhaps at a known address -/
class OwnL {α : Type} (mk : List α → Mu) (r : outParam (Rp α)) : Prop where
  c : ∃ c : Addr → Prop, ∀ xs F H p S, mk xs F H p S ↔ (c p ∧ mL r xs F H p S)
instance {α : Type} (r : Rp α) : OwnL (mL r) r := ⟨fun _ => True, fun _ _ _ _ _ => ⟨fun h => ⟨trivial, h⟩, fun h => h.2⟩⟩
instance {α : Type} (r : Rp α) (o : Option Addr) : OwnL (mP (mL r) o) r := ⟨fun p => ∀ q, o = some q → p = q, fun _ _ _ _ _ => Iff.rfl⟩
section
variable {F0 H0 F H F' H' : Hp} {G : List Slot} {σ : L2.St}
theorem EnvOk.lstO {α : Type} {mk : List α → Mu} {r : Rp α} [ol : OwnL mk r] {xs : List α} {iM : MoM (mk xs)} {i : Nat} (E : EnvOk F0 H0 G σ F H) (h : G[i]? = some (.ow (mk xs) iM)) : ∃ p vs, σ[i]? = some (some (.ref p)) ∧ F p = none ∧ H0 p = none ∧ H p = some (.lst vs) ∧ xs.length ≤ 16777216 ∧ Paired (r F) vs xs := by
  obtain ⟨p, S, e, h1, m⟩ := E.ow_at h
  obtain ⟨c, hc⟩ := ol.c
  obtain ⟨_, rfl, vs, h2, h3, h4⟩ := (hc _ _ _ _ _).mp m
  exact ⟨p, vs, e, (h1 p (by simp)).1, (h1 p (by simp)).2, h2, h3, h4⟩
theorem EnvOk.mutO {α : Type} {mk : List α → Mu} {r : Rp α} [ol : OwnL mk r] {xs ys : List α} {im : MoM (mk xs)} {iN : MoM (mk ys)} {i : Nat} {p : Addr} {vs : List V} (E : EnvOk F0 H0 G σ F H) (hi : G[i]? = some (.ow (mk xs) im)) (hp : σ[i]? = some (some (.ref p))) (hl : ys.length ≤ 16777216) (m : Paired (r F) vs ys) :
    EnvOk F0 H0 (G.set i (.ow (mk ys) iN)) σ F (upd H p (.lst vs)) := by
  have gr := E.gr
  obtain ⟨c, hc⟩ := ol.c
  refine E.mut (p := p) (S := []) (S' := []) hi fun q S hq hS hm => ?_
  obtain ⟨hcp, hS', ws, h1, h2, h3⟩ := (hc _ _ _ _ _).mp hm
  rw [hp] at hq; cases hq
  subst hS'
  have hF := (hS p (by simp)).1
  exact ⟨[p], Ex.refl F, fun a u e n => (by rw [n] at e; cases e), fun a ha _ _ => upd_ne (fun e => ha (by rw [e]; simp)), fun a u e => by rw [upd_ne (ne_of_none e hF)]; exact gr.fh a u e, fun a ha => ⟨.inl ha, by rw [List.mem_singleton.mp ha]; exact hF⟩, (hc _ _ _ _ _).mpr ⟨hcp, rfl, vs, upd_same, hl, m⟩⟩
end
end LK
namespace LJ
open PySem L2 LK LKX LKB PyProof.Rows PySem.Spec
/-! ### own lists: expressions -/
def popR {α ε : Type} (xs : List α) : R ε (List α × α) := match xs[xs.length - 1]? with
  | some y => .ok (xs.dropLast, y)
  | none => .no
def popAtR {α ε : Type} (xs : List α) (i : Int) : R ε (List α × α) := R.iff (0 ≤ i) (match xs[i.toNat]? with
  | some y => .ok (xs.eraseIdx i.toNat, y)
  | none => .no)
section
variable {C : Cn} {G : List LK.Slot} {m : Md} {e : Expr} {pos p1 apos : Pos} {x : Str} {α ζ : Type} {mk : List α → Mu} {r : Rp α} [ol : OwnL mk r] [im : ∀ xs, MoM (mk xs)] [ir : Mo r] {xs : List α} {sle : ζ → List LK.Slot}
theorem push_tail {F0 H0 F H : Hp} {s : LK.Slot} {σ : L2.St} {v : V} (E : EnvOk F0 H0 G σ F H) (ok : SlotOk H0 F H (some v) [] s) (hn : ∀ M im, s ≠ .ow M im) : EnvOk F0 H0 (s :: G) (some v :: σ) F H := E.push ok hn
theorem pgetV {β γ : Type} {R' : β → γ → Prop} {us : List β} {ys : List γ} {n : Nat} {y : γ} (h : Paired R' us ys) (hy : ys[n]? = some y) : ∃ u, us[n]? = some u ∧ R' u y := pget h hy
theorem xm_pop (i : Nat) (hi : G[i]? = some (.ow (mk xs) (im xs))) 
    (hN : C.X.N[i]? = some x := by rfl) (hv : Vis C.X.env.scope x := by first | exact Or.inl rfl | exact Or.inr (Or.inl rfl) | exact Or.inr (Or.inr rfl)) (hd : (x == ("__debug__" : Str)) = false := by decide) (hcd : (x == ("__classdict__" : Str)) = false := by decide)
    (hbase : attributeBase (.Name x p1) "pop" C.X.env (eval (.Name x p1) C.X.env) = eval (.Name x p1) C.X.env := by rfl) (hline : (apos.endLine == pos.line) = true := by rfl) :
    XM C (.Call (.Attribute (.Name x p1) "pop" apos) [] [] pos) G (fun s : List α × α => .fz r ir s.2) (fun s => G.set i (.ow (mk s.1) (im s.1))) sle (popR xs) := ⟨fun F0 H0 => by
  refine Mr.le (t := tBM0 C.X.K "list" rPop (tVar i)) ?_ fun _ _ _ q => tE_le (pe_bm0 PySem.F.plainAttrs_list PySem.F.slot_list_pop PySem.F.type_list_pop mt_pop (pe_var hN hv hd hcd) hbase hline) q
  unfold popR
  cases hy : xs[xs.length - 1]? with
  | none => trivial
  | some y =>
    intro σ F H E Q q
    obtain ⟨p, vs, hx, h1, h2, h3, h4, h5⟩ := E.lstO hi
    obtain ⟨v, hv1, hv2⟩ := pgetV h5 hy
    refine ⟨_, hx, .inl ⟨rfl, _, SqL.of h3⟩, p, vs, v, rfl, rfl, h3, by rw [plen h5]; exact hv1, q v F _ (Ex.refl F) ?_⟩
    have E2 := E.mutO (iN := im xs.dropLast) hi hx (by simp; omega) (pdl h5)
    exact E2.push (s := .fz r ir y) ⟨v, rfl, hv2⟩ fun _ _ z => nomatch z⟩
theorem xm_popAt {g : R Er Int} (i : Nat) (z0 : ζ) (hz0 : Lw G (sle z0)) (hi : G[i]? = some (.ow (mk xs) (im xs))) (he : XE C e G m rInt g)
    (hN : C.X.N[i]? = some x := by rfl) (hv : Vis C.X.env.scope x := by first | exact Or.inl rfl | exact Or.inr (Or.inl rfl) | exact Or.inr (Or.inr rfl)) (hd : (x == ("__debug__" : Str)) = false := by decide) (hcd : (x == ("__classdict__" : Str)) = false := by decide)
    (hbase : attributeBase (.Name x p1) "pop" C.X.env (eval (.Name x p1) C.X.env) = eval (.Name x p1) C.X.env := by rfl)
    (hfew : ((backTo pos (starEach [e] C.X.env)).all (fun x => !x.1) && (backToKw pos (keywordEach [] C.X.env)).all (fun x => x.1.isSome) && decide ([e].length + ([] : List Keyword).length + (if ([] : List Keyword).isEmpty then 0 else 1) < 30)) = true := by rfl)
    (hline : (apos.endLine == pos.line) = true := by rfl) (hs : starEach [e] C.X.env = (false, eval e C.X.env) :: starEach [] C.X.env := by exact star_cons rfl) (hplain : (backTo pos (starEach [] C.X.env)).any (·.1) = false := by rfl) :
    XM C (.Call (.Attribute (.Name x p1) "pop" apos) [e] [] pos) G (fun s : List α × α => .fz r ir s.2) (fun s => G.set i (.ow (mk s.1) (im s.1))) sle (g.thn (fun y => (y, z0)) fun j => popAtR xs j) := ⟨fun F0 H0 => by
  have he := he.h F0 H0
  refine Mr.le (t := tBM C.X.K "list" rPopAt (tVar i) (tCons (tE C.X e) tNil)) ?_ fun _ _ _ q => tE_le (pe_bm PySem.F.plainAttrs_list PySem.F.slot_list_pop PySem.F.type_list_pop mt_popAt (pe_var hN hv hd hcd) (pa_cons pE pa_nil hs) hbase hfew hline hs hplain) q
  cases g with
  | no => trivial
  | er y =>
    intro σ F H E w Q
    obtain ⟨p, vs, hx, h1, h2, h3, h4, h5⟩ := E.lstO hi
    exact ⟨_, hx, .inl ⟨rfl, _, SqL.of h3⟩, he σ F H E (fun F' H' cls d g r => w F' H' cls d ((E.gro g).weak hz0) r) _⟩
  | ok j =>
    show Mr C F0 H0 _ G _ _ sle (popAtR xs j)
    unfold popAtR R.iff
    by_cases hj : 0 ≤ j
    · rw [if_pos hj]
      cases hy : xs[j.toNat]? with
      | none => trivial
      | some y =>
        intro σ F H E Q q
        obtain ⟨p, vs, hx, h1, h2, h3, h4, h5⟩ := E.lstO hi
        refine ⟨_, hx, .inl ⟨rfl, _, SqL.of h3⟩, he σ F H E _ fun v F1 H1 g1 hv => ?_⟩
        have E1 := E.gro g1
        obtain ⟨p', vs', hx', k1, k2, k3, k4, k5⟩ := E1.lstO hi
        rw [hx] at hx'
        cases Option.some.inj (Option.some.inj hx')
        obtain ⟨u, hu1, hu2⟩ := pgetV k5 hy
        have hlt : j.toNat < xs.length := (List.getElem?_eq_some_iff.mp hy).1
        have hl := plen k5
        refine ⟨p, vs', j, j.toNat, u, rfl, by rw [show v = _ from hv], k3, by omega, by omega, ?_, hu1, q u F1 _ g1.ff ?_⟩
        · unfold seqIndex?
          have : ¬ j < 0 := by omega
          simp [this]; omega
        · have E2 := E1.mutO (iN := im (xs.eraseIdx j.toNat)) hi hx (by rw [List.length_eraseIdx]; split <;> omega) (perase j.toNat k5)
          exact E2.push (s := .fz r ir y) ⟨u, rfl, hu2⟩ fun _ _ z => nomatch z
    · rw [if_neg hj]; trivial⟩
end
/-! ### own lists: statements -/
section
variable {C : Cn} {β ρ ε Z S S' ζ : Type} {J : Jn β ρ ε Z} {G : List LK.Slot} {slk : S' → List LK.Slot} {e ie : Expr} {rest : List Stmt} {pos p1 p2 p3 : Pos} {x : Str} {m : Md} {α : Type} {mk : List α → Mu} {r : Rp α} [ol : OwnL mk r] [im : ∀ xs, MoM (mk xs)] {xs : List α}
theorem xb_appO {f : R Er α} {M : List α → (S' → R ε ρ) → R ε ρ} (i : Nat) (G' : List α → List LK.Slot) (z : Z) (hz : Lw G (J.slz z)) (hi : G[i]? = some (.ow (mk xs) (im xs))) (he : XE C e G .sh r f) (hG : ∀ a, G.set i (.ow (mk a) (im a)) = G' a) (hr : ∀ a, XB C J rest (G' a) slk (M a)) [ir : Mo r]
    (hN : C.X.N[i]? = some x := by rfl) (hv : Vis C.X.env.scope x := by first | exact Or.inl rfl | exact Or.inr (Or.inl rfl) | exact Or.inr (Or.inr rfl)) (hd : (x == ("__debug__" : Str)) = false := by decide) (hcd : (x == ("__classdict__" : Str)) = false := by decide)
    (hbase : attributeBase (.Name x p1) "append" C.X.env (eval (.Name x p1) C.X.env) = eval (.Name x p1) C.X.env := by rfl)
    (hfew : ((backTo p3 (starEach [e] C.X.env)).all (fun x => !x.1) && (backToKw p3 (keywordEach [] C.X.env)).all (fun x => x.1.isSome) && decide ([e].length + ([] : List Keyword).length + (if ([] : List Keyword).isEmpty then 0 else 1) < 30)) = true := by rfl)
    (hline : (p2.endLine == p3.line) = true := by rfl) (hs : starEach [e] C.X.env = (false, eval e C.X.env) :: starEach [] C.X.env := by exact star_cons rfl) (hplain : (backTo p3 (starEach [] C.X.env)).any (·.1) = false := by rfl)
    (hsw : swapsWith (.Call (.Attribute (.Name x p1) "append" p2) [e] [] p3) none pos.line C.X.env = pure false := by rfl) :
    XB C J (.Expr (.Call (.Attribute (.Name x p1) "append" p2) [e] [] p3) pos :: rest) G slk (fun k => f.thn (fun y => J.em y z) fun a => (appR xs a).bind fun ys => M ys k) := ⟨fun F0 H0 A D an k hk hA σ F H E => by
  have he := he.h F0 H0
  refine tS_le (pss_cons (ps_expr (pe_bm PySem.F.plainAttrs_list PySem.F.slot_list_append PySem.F.type_list_append mt_append (pe_var hN hv hd hcd) (pa_cons pE pa_nil hs) hbase hfew hline hs hplain) hsw) pS) ?_
  obtain ⟨p, vs, hx, h1, h2, h3, h4, h5⟩ := E.lstO hi
  cases f with
  | ok a =>
    unfold appR R.iff at hA
    by_cases hl : xs.length < 16777216
    · have hA : A (M (xs ++ [a]) k) := by simpa [hl] using hA
      refine ⟨_, hx, .inl ⟨rfl, _, SqL.of h3⟩, he σ F H E _ fun v F1 H1 g1 hv => ⟨p, vs, v, rfl, rfl, g1.hh _ _ h3, by rw [plen h5]; exact sz_lt hl, ?_⟩⟩
      refine (hr (xs ++ [a])).h F0 H0 A D an k hk hA σ F1 _ ?_
      rw [← hG]
      exact (E.gro g1).mutO hi hx (by simp; omega) (papp (pmap (fun _ _ z => mox g1.ff z) h5) (.cons hv .nil))
    · simp [hl] at hA; exact (an.no hA).elim
  | er y => exact ⟨_, hx, .inl ⟨rfl, _, SqL.of h3⟩, he σ F H E (an.air hz hA E) _⟩
  | no => exact (an.no hA).elim⟩
/-- x.append(e), e changes something -/
theorem xb_appM {sv : S → α} {sl : S → List LK.Slot} {sle : ζ → List LK.Slot} {f : R (Er × ζ) S} [ir : Mo r] {xw : S → List α} {M : S → List α → (S' → R ε ρ) → R ε ρ} (i : Nat) (G' : S → List α → List LK.Slot) (zz : ζ → Z) (hzz : ∀ z, Lw (sle z) (J.slz (zz z))) (hi0 : G[i]? = some (.ow (mk xs) (im xs))) (hi : ∀ s, (sl s)[i]? = some (.ow (mk (xw s)) (im (xw s)))) (he : XM C e G (fun s => .fz r ir (sv s)) sl sle f) (hG : ∀ s a, (sl s).set i (.ow (mk a) (im a)) = G' s a) (hr : ∀ s a, XB C J rest (G' s a) slk (M s a))
    (hN : C.X.N[i]? = some x := by rfl) (hv : Vis C.X.env.scope x := by first | exact Or.inl rfl | exact Or.inr (Or.inl rfl) | exact Or.inr (Or.inr rfl)) (hd : (x == ("__debug__" : Str)) = false := by decide) (hcd : (x == ("__classdict__" : Str)) = false := by decide)
    (hbase : attributeBase (.Name x p1) "append" C.X.env (eval (.Name x p1) C.X.env) = eval (.Name x p1) C.X.env := by rfl)
    (hfew : ((backTo p3 (starEach [e] C.X.env)).all (fun x => !x.1) && (backToKw p3 (keywordEach [] C.X.env)).all (fun x => x.1.isSome) && decide ([e].length + ([] : List Keyword).length + (if ([] : List Keyword).isEmpty then 0 else 1) < 30)) = true := by rfl)
    (hline : (p2.endLine == p3.line) = true := by rfl) (hs : starEach [e] C.X.env = (false, eval e C.X.env) :: starEach [] C.X.env := by exact star_cons rfl) (hplain : (backTo p3 (starEach [] C.X.env)).any (·.1) = false := by rfl)
    (hsw : swapsWith (.Call (.Attribute (.Name x p1) "append" p2) [e] [] p3) none pos.line C.X.env = pure false := by rfl) :
    XB C J (.Expr (.Call (.Attribute (.Name x p1) "append" p2) [e] [] p3) pos :: rest) G slk (fun k => f.thn (fun y => J.em y.1 (zz y.2)) fun s => (appR (xw s) (sv s)).bind fun ys => M s ys k) := ⟨fun F0 H0 A D an k hk hA σ F H E => by
  have he := he.h F0 H0
  refine tS_le (pss_cons (ps_expr (pe_bm PySem.F.plainAttrs_list PySem.F.slot_list_append PySem.F.type_list_append mt_append (pe_var hN hv hd hcd) (pa_cons pE pa_nil hs) hbase hfew hline hs hplain) hsw) pS) ?_
  obtain ⟨p, vs, hx, h1, h2, h3, h4, h5⟩ := E.lstO hi0
  cases f with
  | ok s =>
    have hA : A ((appR (xw s) (sv s)).bind fun ys => M s ys k) := hA
    unfold appR R.iff at hA
    by_cases hl : (xw s).length < 16777216
    · have hA : A (M s (xw s ++ [sv s]) k) := by simpa [hl] using hA
      refine ⟨_, hx, .inl ⟨rfl, _, SqL.of h3⟩, he σ F H E _ fun v F1 H1 e1 E1 => ?_⟩
      obtain ⟨v', hv', hvr⟩ := E1.fz_at (i := 0) rfl
      cases Option.some.inj (Option.some.inj hv')
      have E2 := E1.tail
      obtain ⟨p', vs', hx', k1, k2, k3, k4, k5⟩ := E2.lstO (hi s)
      rw [hx] at hx'
      cases Option.some.inj (Option.some.inj hx')
      refine ⟨p, vs', v, rfl, rfl, k3, by rw [plen k5]; exact sz_lt hl, ?_⟩
      refine (hr s (xw s ++ [sv s])).h F0 H0 A D an k hk hA σ F1 _ ?_
      rw [← hG]
      exact E2.mutO (hi s) hx (by simp; omega) (papp k5 (.cons hvr .nil))
    · simp [hl] at hA; exact (an.no hA).elim
  | er y => exact ⟨_, hx, .inl ⟨rfl, _, SqL.of h3⟩, he σ F H E (fun F' H' cls d E' r => an.er y.1 (zz y.2) hA σ F' H' cls d (E'.weak (hzz y.2)) r) _⟩
  | no => exact (an.no hA).elim⟩
theorem xb_clear [ol : OwnL mk r] {M : List α → (S' → R ε ρ) → R ε ρ} (i : Nat) (G' : List α → List LK.Slot) (hi : G[i]? = some (.ow (mk xs) (im xs))) (hG : ∀ a, G.set i (.ow (mk a) (im a)) = G' a) (hr : ∀ a, XB C J rest (G' a) slk (M a))
    (hN : C.X.N[i]? = some x := by rfl) (hv : Vis C.X.env.scope x := by first | exact Or.inl rfl | exact Or.inr (Or.inl rfl) | exact Or.inr (Or.inr rfl)) (hd : (x == ("__debug__" : Str)) = false := by decide) (hcd : (x == ("__classdict__" : Str)) = false := by decide)
    (hbase : attributeBase (.Name x p1) "clear" C.X.env (eval (.Name x p1) C.X.env) = eval (.Name x p1) C.X.env := by rfl) (hline : (p2.endLine == p3.line) = true := by rfl)
    (hsw : swapsWith (.Call (.Attribute (.Name x p1) "clear" p2) [] [] p3) none pos.line C.X.env = pure false := by rfl) :
    XB C J (.Expr (.Call (.Attribute (.Name x p1) "clear" p2) [] [] p3) pos :: rest) G slk (fun k => M [] k) := ⟨fun F0 H0 A D an k hk hA σ F H E => by
  refine tS_le (pss_cons (ps_expr (pe_bm0 PySem.F.plainAttrs_list PySem.F.slot_list_clear PySem.F.type_list_clear mt_clear (pe_var hN hv hd hcd) hbase hline) hsw) pS) ?_
  obtain ⟨p, vs, hx, h1, h2, h3, h4, h5⟩ := E.lstO hi
  refine ⟨_, hx, .inl ⟨rfl, _, SqL.of h3⟩, p, vs, rfl, rfl, h3, ?_⟩
  refine (hr []).h F0 H0 A D an k hk hA σ F _ ?_
  rw [← hG]
  exact E.mutO hi hx (by simp) .nil⟩
/-- x[j] = e -/
theorem xb_itemO {g : R Er α} {gi : R Er Int} {M : List α → (S' → R ε ρ) → R ε ρ} [ir : Mo r] (i : Nat) (G' : List α → List LK.Slot) (z : Z) (hz : Lw G (J.slz z)) (hi : G[i]? = some (.ow (mk xs) (im xs))) (he : XE C e G .sh r g) (hj : XE C ie G m rInt gi)
    (hG : ∀ xs, G.set i (.ow (mk xs) (im xs)) = G' xs) (hr : ∀ xs, XB C J rest (G' xs) slk (M xs))
    (hN : C.X.N[i]? = some x := by rfl) (hv : Vis C.X.env.scope x := by first | exact Or.inl rfl | exact Or.inr (Or.inl rfl) | exact Or.inr (Or.inr rfl)) (hd : (x == ("__debug__" : Str)) = false := by decide) (hcd : (x == ("__classdict__" : Str)) = false := by decide)
    (hsw : swapsWith e (some (.Subscript (.Name x p1) ie p3)) pos.line C.X.env = pure false := by rfl)
    (ha : ∀ v, assign (.Subscript (.Name x p1) ie p3) C.X.env v = (do
      let ov ← holding [v] (eval (.Name x p1) C.X.env)
      let iv ← holding [v, ov] (eval ie C.X.env)
      standAt p3
      holding [v, ov, iv] (setItem ov iv v)
      release [v, ov, iv] []) := by intro _; rfl) :
    XB C J (.Assign [.Subscript (.Name x p1) ie p3] e pos :: rest) G slk (fun k => g.thn (fun y => J.em y z) fun v => gi.thn (fun y => J.em y z) fun j => (R.iff (0 ≤ j ∧ j < xs.length) (.ok (xs.set j.toNat v))).bind fun ys => M ys k) := ⟨fun F0 H0 A D an k hk hA σ F H E => by
  have he := he.h F0 H0; have hj := hj.h F0 H0
  refine tS_le (pss_cons (ps_asg pE (pg_sub (pe_var hN hv hd hcd) pE set_list ha) hsw) pS) ?_
  cases g with
  | no => exact (an.no hA).elim
  | er y => exact he σ F H E (an.air hz hA E) _
  | ok a =>
    refine he σ F H E _ fun v F1 H1 g1 hv' => ?_
    have E1 := E.gro g1
    obtain ⟨p, vs, hx, h1, h2, h3, h4, h5⟩ := E1.lstO hi
    refine ⟨_, hx, ?_⟩
    cases gi with
    | no => exact (an.no hA).elim
    | er y => exact hj σ F1 H1 E1 (an.air hz hA E1) _
    | ok j =>
      refine hj σ F1 H1 E1 _ fun w F2 H2 g2 hw => ?_
      have E2 := E1.gro g2
      obtain ⟨p', vs', hx', k1, k2, k3, k4, k5⟩ := E2.lstO hi
      rw [hx] at hx'
      cases Option.some.inj (Option.some.inj hx')
      have hA : A ((R.iff (0 ≤ j ∧ j < xs.length) (.ok (xs.set j.toNat a))).bind fun ys => M ys k) := hA
      unfold R.iff at hA
      by_cases hjl : 0 ≤ j ∧ j < xs.length
      · rw [if_pos hjl] at hA
        have hA : A (M (xs.set j.toNat a) k) := hA
        have hl := plen k5
        refine ⟨p, vs', j, j.toNat, rfl, hw, k3, ?_, ?_⟩
        · unfold ixN; rw [if_pos hjl.1, if_pos (by omega)]
        · refine (hr _).h F0 H0 A D an k hk hA σ F2 _ ?_
          rw [← hG]
          exact E2.mutO hi hx (by rw [List.length_set]; exact k4) (pset (mox g2.ff hv') _ k5)
      · rw [if_neg hjl] at hA; exact (an.no hA).elim⟩
end
end LJ

set_option Elab.async false
set_option linter.all false
set_option maxRecDepth 100000
set_option maxHeartbeats 4000000
set_option autoImplicit false
/-! LM3: defs that change some of their arguments and give an answer. -/
namespace LK
open PySem L2 PyProof.Rows
/-- the own arguments, ahead of the others -/
inductive Ow : Type → Type 1
  | nil : Ow Unit
  | cons {δ γ : Type} (mu : Option Addr → δ → Mu) (pn : Pin mu) (r : Ow γ) : Ow (δ × γ)
def Ow.sl {γ : Type} : Ow γ → List (Option Addr) → γ → List Slot
  | .nil, _, _ => []
  | .cons mu pn r, os, g => .ow (mu (os.headD none) g.1) (pn.mo _ _) :: r.sl os.tail g.2
def Ow.n {γ : Type} : Ow γ → Nat
  | .nil => 0
  | .cons _ _ r => r.n + 1
theorem Ow.len {γ : Type} : ∀ (w : Ow γ) (os : List (Option Addr)) (g : γ), (w.sl os g).length = w.n
  | .nil, _, _ => rfl
  | .cons _ _ r, os, g => by unfold Ow.sl Ow.n; rw [List.length_cons, r.len]
/-- what stands at a place: an own thing, told with any address -/
theorem Ow.at_ {γ : Type} : ∀ (w : Ow γ) (g : γ) (j : Nat), j < w.n → ∃ (δ : Type) (mu : Option Addr → δ → Mu) (pn : Pin mu) (d : δ), ∀ os : List (Option Addr), (w.sl os g)[j]? = some (.ow (mu (os[j]?.getD none) d) (pn.mo _ _))
  | .nil, _, j, h => by exact absurd h (by unfold Ow.n; omega)
  | .cons mu pn r, g, 0, _ => ⟨_, mu, pn, g.1, fun os => by
      unfold Ow.sl
      cases os <;> rfl⟩
  | .cons mu pn r, g, j + 1, h => by
    obtain ⟨δ, mv, pv, d, k⟩ := r.at_ g.2 j (by unfold Ow.n at h; omega)
    refine ⟨δ, mv, pv, d, fun os => ?_⟩
    have := k os.tail
    unfold Ow.sl
    rw [List.getElem?_cons_succ, this]
    cases os <;> simp
/-- the slots at these places -/
def AtAll (G : List Slot) : List Nat → List Slot → Prop
  | [], [] => True
  | i :: is, s :: ss => G[i]? = some s ∧ AtAll G is ss
  | _, _ => False
theorem AtAll.get {G : List Slot} : ∀ {is : List Nat} {ss : List Slot} {j i : Nat} {s : Slot}, AtAll G is ss → is[j]? = some i → ss[j]? = some s → G[i]? = some s
  | [], [], j, _, _, _, h, _ => by simp at h
  | i :: is, s :: ss, 0, _, _, h, h1, h2 => by simp at h1 h2; subst h1 h2; exact h.1
  | i :: is, s :: ss, j + 1, _, _, h, h1, h2 => AtAll.get h.2 (by simpa using h1) (by simpa using h2)
  | [], _ :: _, _, _, _, h, _, _ => h.elim
  | _ :: _, [], _, _, _, h, _, _ => h.elim
theorem AtAll.len {G : List Slot} : ∀ {is : List Nat} {ss : List Slot}, AtAll G is ss → is.length = ss.length
  | [], [], _ => rfl
  | i :: is, s :: ss, h => by rw [List.length_cons, List.length_cons, AtAll.len h.2]
  | [], _ :: _, h => h.elim
  | _ :: _, [], h => h.elim
def setAll (G : List Slot) : List Nat → List Slot → List Slot
  | i :: is, s :: ss => setAll (G.set i s) is ss
  | _, _ => G
theorem setAll_len : ∀ (is : List Nat) (ss : List Slot) (G : List Slot), (setAll G is ss).length = G.length
  | [], _, G => by unfold setAll; rfl
  | _ :: _, [], G => by unfold setAll; rfl
  | i :: is, s :: ss, G => by unfold setAll; rw [setAll_len is ss, List.length_set]
theorem setAll_out : ∀ (is : List Nat) (ss : List Slot) (G : List Slot) (k : Nat), k ∉ is → (setAll G is ss)[k]? = G[k]?
  | [], _, G, k, _ => by unfold setAll; rfl
  | _ :: _, [], G, k, _ => by unfold setAll; rfl
  | i :: is, s :: ss, G, k, h => by
    unfold setAll
    rw [setAll_out is ss _ k (fun z => h (List.mem_cons_of_mem _ z)), List.getElem?_set_ne (fun e => h (by rw [e]; simp))]
theorem setAll_in : ∀ (is : List Nat) (ss : List Slot) (G : List Slot) (j k : Nat) (s : Slot), is.Nodup → is[j]? = some k → ss[j]? = some s → k < G.length → (setAll G is ss)[k]? = some s
  | [], _, G, j, k, s, _, h, _, _ => by simp at h
  | _ :: _, [], G, j, k, s, _, _, h, _ => by simp at h
  | i :: is, t :: ss, G, 0, k, s, nd, h1, h2, hl => by
    simp at h1 h2
    subst h1 h2
    unfold setAll
    rw [setAll_out is ss _ i (List.nodup_cons.mp nd).1, List.getElem?_set_self hl]
  | i :: is, t :: ss, G, j + 1, k, s, nd, h1, h2, hl => by
    unfold setAll
    exact setAll_in is ss _ j k s (List.nodup_cons.mp nd).2 (by simpa using h1) (by simpa using h2) (by rw [List.length_set]; exact hl)
section
variable {F0 H0 F H F' H' : Hp} {G : List Slot} {σ : L2.St}
/-- what the own arguments hold, as a call sees them -/
theorem ow_in {γ : Type} {w : Ow γ} {os : List (Option Addr)} {g : γ} {is : List Nat} {fp : Nat → List Addr} (E : EnvF F0 H0 G σ F H fp) (hi : AtAll G is (w.sl os g)) (nd : is.Nodup) :
    ∃ ps : List Addr, ps.length = is.length ∧ (∀ j i : Nat, is[j]? = some i → ∃ p, ps[j]? = some p ∧ σ[i]? = some (some (.ref p)) ∧ ∀ q, os[j]?.getD none = some q → p = q) ∧
      ∀ H1, Ex H1 H → (∀ i ∈ is, ∀ a ∈ fp i, H1 a = none) → EnvF F H1 (w.sl (ps.map some) g) (ps.map fun p => some (V.ref p)) F H (fun j => fp (is[j]?.getD 0)) := by
  have hl : is.length = w.n := hi.len.trans (w.len os g)
  have hσ : ∀ i ∈ is, ∃ p, σ[i]? = some (some (.ref p)) := fun i h => by
    obtain ⟨j, hj⟩ := List.getElem?_of_mem h
    have hjl : j < w.n := by rw [← hl]; exact (List.getElem?_eq_some_iff.mp hj).1
    obtain ⟨δ, mu, pn, d, k⟩ := w.at_ g j hjl
    obtain ⟨x, hx, p, e, _⟩ := E.at_ i _ (hi.get hj (k os))
    exact ⟨p, by rw [hx, e]⟩
  let pf : Nat → Addr := fun i => match σ[i]? with
    | some (some (V.ref p)) => p
    | _ => 0
  refine ⟨is.map pf, by simp, fun j i hj => ?_, fun H1 e1 hn => ?_⟩
  · obtain ⟨p, hp⟩ := hσ i (List.mem_of_getElem? hj)
    have hpf : pf i = p := by show (match σ[i]? with | some (some (V.ref p)) => p | _ => 0) = p; rw [hp]
    refine ⟨p, by rw [List.getElem?_map, hj]; exact congrArg some hpf, hp, fun q hq => ?_⟩
    have hjl : j < w.n := by rw [← hl]; exact (List.getElem?_eq_some_iff.mp hj).1
    obtain ⟨δ, mu, pn, d, k⟩ := w.at_ g j hjl
    obtain ⟨x, hx, p', e, _, m⟩ := E.at_ i _ (hi.get hj (k os))
    rw [hx] at hp
    rw [e] at hp
    cases Option.some.inj (Option.some.inj hp)
    rw [hq] at m
    exact pn.pin m
  · refine ⟨⟨Ex.refl F, E.gr.fh, e1, fun p o h1 h2 => by rw [h1] at h2; cases h2⟩, by rw [List.length_map, List.length_map, w.len, hl], fun j s h => ?_, fun j k M iM N iN a hjk h1 h2 h3 => ?_⟩
    · have hjl : j < w.n := by rw [← w.len]; exact (List.getElem?_eq_some_iff.mp h).1
      obtain ⟨δ, mu, pn, d, k⟩ := w.at_ g j hjl
      rw [k] at h
      cases h
      have hj : is[j]? = some is[j] := List.getElem?_eq_getElem (by rw [hl]; exact hjl)
      obtain ⟨x, hx, p, e, hf, m⟩ := E.at_ is[j] _ (hi.get hj (k os))
      subst e
      have hpf : pf is[j] = p := by show (match σ[is[j]]? with | some (some (V.ref p)) => p | _ => 0) = p; rw [hx]
      have mem : is[j] ∈ is := List.getElem_mem _
      rw [show is[j]?.getD 0 = is[j] by rw [hj]; rfl]
      refine ⟨some (.ref p), by simp [List.getElem?_map, hj, hpf], p, rfl, fun a ha => ⟨(hf a ha).1, hn _ mem a ha⟩, ?_⟩
      have : ((is.map pf).map some)[j]?.getD none = some p := by simp [List.getElem?_map, hj, hpf]
      rw [this]
      have m1 : mu none d F H p (fp is[j]) := by
        cases ho : os[j]?.getD none with
        | none => rw [ho] at m; exact m
        | some q => rw [ho] at m; exact pn.un m
      exact pn.to m1
    · have hjl : j < is.length := by rw [hl, ← w.len ((is.map pf).map some) g]; exact (List.getElem?_eq_some_iff.mp h1).1
      have hkl : k < is.length := by rw [hl, ← w.len ((is.map pf).map some) g]; exact (List.getElem?_eq_some_iff.mp h2).1
      have hj : is[j]? = some is[j] := List.getElem?_eq_getElem hjl
      have hk : is[k]? = some is[k] := List.getElem?_eq_getElem hkl
      obtain ⟨δ, mu, pn, d, kk⟩ := w.at_ g j (by rw [← hl]; exact hjl)
      obtain ⟨δ', mu', pn', d', kk'⟩ := w.at_ g k (by rw [← hl]; exact hkl)
      have hne : is[j] ≠ is[k] := fun e => hjk ((List.getElem_inj nd).mp e)
      show a ∉ fp (is[k]?.getD 0)
      have h3 : a ∈ fp (is[j]?.getD 0) := h3
      rw [hj] at h3
      rw [hk]
      exact E.dj _ _ _ _ _ _ a hne (hi.get hj (kk os)) (hi.get hk (kk' os)) h3
/-- behind the call -/
theorem ow_out {γ : Type} {w : Ow γ} {os : List (Option Addr)} {g g' : γ} {is : List Nat} {fp fq : Nat → List Addr} {ps : List Addr} {S : List Addr} {xs : List (Option V)} (E : EnvF F0 H0 G σ F H fp) (hi : AtAll G is (w.sl os g)) (nd : is.Nodup)
    (hS : ∀ a, a ∈ S ↔ ∃ i ∈ is, a ∈ fp i) (hp : ∀ j i : Nat, is[j]? = some i → ∃ p, ps[j]? = some p ∧ σ[i]? = some (some (.ref p)) ∧ ∀ q, os[j]?.getD none = some q → p = q)
    (E' : EnvF F (cut S H) (w.sl (ps.map some) g') xs F' H' fq) : EnvF F0 H0 (setAll G is (w.sl os g')) σ F' H' (fun i => if i ∈ is then fq (is.idxOf i) else fp i) := by
  have hl : is.length = w.n := hi.len.trans (w.len os g)
  have hg : ∀ i ∈ is, i < G.length := fun i h => by
    obtain ⟨j, hj⟩ := List.getElem?_of_mem h
    have hjl : j < w.n := by rw [← hl]; exact (List.getElem?_eq_some_iff.mp hj).1
    obtain ⟨δ, mu, pn, d, k⟩ := w.at_ g j hjl
    exact (List.getElem?_eq_some_iff.mp (hi.get hj (k os))).1
  have own : ∀ a, a ∈ S → F a = none ∧ H0 a = none ∧ H a ≠ none := fun a ha => by
    obtain ⟨i, h, h2⟩ := (hS a).mp ha
    obtain ⟨j, hj⟩ := List.getElem?_of_mem h
    have hjl : j < w.n := by rw [← hl]; exact (List.getElem?_eq_some_iff.mp hj).1
    obtain ⟨δ, mu, pn, d, k⟩ := w.at_ g j hjl
    obtain ⟨x, hx, p, e, f, m⟩ := E.at_ i _ (hi.get hj (k os))
    exact ⟨(f a h2).1, (f a h2).2, (pn.mo _ _).own m a h2⟩
  have keep : ∀ a, a ∉ S → H a ≠ none → H' a = H a := fun a ha hn => by
    cases h : H a with
    | none => exact absurd h hn
    | some o => exact E'.gr.hh a o (by rw [cut_out ha]; exact h)
  have idx : ∀ {i : Nat}, i ∈ is → is[is.idxOf i]? = some i ∧ is.idxOf i < w.n := fun {i} h => by
    have hlt := List.idxOf_lt_length_of_mem h
    refine ⟨by rw [List.getElem?_eq_getElem hlt]; exact congrArg some (List.getElem_idxOf hlt), by rw [← hl]; exact hlt⟩
  -- the own places behind the call
  have at' : ∀ i ∈ is, ∃ (δ : Type) (mu : Option Addr → δ → Mu) (pn : Pin mu) (d : δ) (p : Addr), (setAll G is (w.sl os g'))[i]? = some (.ow (mu (os[is.idxOf i]?.getD none) d) (pn.mo _ _)) ∧ σ[i]? = some (some (.ref p)) ∧
      (w.sl (ps.map some) g')[is.idxOf i]? = some (.ow (mu (some p) d) (pn.mo _ _)) ∧ (∀ a ∈ fq (is.idxOf i), F' a = none ∧ cut S H a = none) ∧ mu (os[is.idxOf i]?.getD none) d F' H' p (fq (is.idxOf i)) := fun i h => by
    obtain ⟨hj, hjl⟩ := idx h
    obtain ⟨δ, mu, pn, d, k⟩ := w.at_ g' _ hjl
    obtain ⟨p, hp1, hp2, hp3⟩ := hp _ _ hj
    have e : (ps.map some)[is.idxOf i]?.getD none = some p := by rw [List.getElem?_map, hp1]; rfl
    have kp := k (ps.map some)
    rw [e] at kp
    obtain ⟨x, hx, q, eq, f, m⟩ := E'.at_ _ _ kp
    have := pn.pin m
    subst this
    refine ⟨δ, mu, pn, d, q, setAll_in is _ G _ i _ nd hj (k os) (hg i h), hp2, kp, f, ?_⟩
    cases ho : os[is.idxOf i]?.getD none with
    | none => exact pn.un m
    | some o => rw [← hp3 o ho]; exact m
  have nS : ∀ (i : Nat) (M : Mu) (iM : MoM M), i ∉ is → G[i]? = some (.ow M iM) → ∀ a ∈ fp i, a ∉ S := fun i M iM hni h a ha hs => by
    obtain ⟨k, hk, ha2⟩ := (hS a).mp hs
    obtain ⟨j, hj⟩ := List.getElem?_of_mem hk
    have hjl : j < w.n := by rw [← hl]; exact (List.getElem?_eq_some_iff.mp hj).1
    obtain ⟨δ, mu, pn, d, kk⟩ := w.at_ g j hjl
    exact E.dj i k _ _ _ _ a (fun e => hni (e ▸ hk)) h (hi.get hj (kk os)) ha ha2
  have hF' : ∀ (i : Nat) (M : Mu) (iM : MoM M), i ∉ is → G[i]? = some (.ow M iM) → ∀ a ∈ fp i, F' a = none := fun i M iM hni h a ha => by
    obtain ⟨x, hx, p, e, f, m⟩ := E.at_ i _ h
    cases z : F' a with
    | none => rfl
    | some u =>
      have z1 := E'.gr.nw a u z (f a ha).1
      rw [cut_out (nS i M iM hni h a ha)] at z1
      exact absurd z1 (iM.own m a ha)
  refine ⟨⟨E.gr.ff.trans E'.gr.ff, E'.gr.fh, fun a o e => ?_, fun a o e n => ?_⟩, by rw [setAll_len]; exact E.len, fun i s h => ?_, fun i j M iM N iN a hij h1 h2 h3 => ?_⟩
  · have z := E.gr.hh a o e
    have ns : a ∉ S := fun hs => by rw [(own a hs).2.1] at e; cases e
    rw [keep a ns (by rw [z]; exact fun q => nomatch q)]; exact z
  · cases q : F a with
    | some u => exact E.gr.nw a u q n
    | none =>
      have z := E'.gr.nw a o e q
      by_cases hs : a ∈ S
      · exact (own a hs).2.1
      · rw [cut_out hs] at z
        exact E.gr.hh.back z
  · by_cases hm : i ∈ is
    · obtain ⟨δ, mu, pn, d, p, h1, h2, h3, f, m⟩ := at' i hm
      rw [h1] at h
      cases h
      refine ⟨_, h2, p, rfl, fun a ha => ?_, ?_⟩
      · rw [if_pos hm] at ha
        refine ⟨(f a ha).1, ?_⟩
        have z := (f a ha).2
        by_cases hs : a ∈ S
        · exact (own a hs).2.1
        · rw [cut_out hs] at z
          exact E.gr.hh.back z
      · rw [if_pos hm]; exact m
    · rw [setAll_out _ _ _ _ hm] at h
      obtain ⟨x, hx, ok⟩ := E.at_ i s h
      refine ⟨x, hx, ?_⟩
      rw [if_neg hm]
      cases s with
      | no => trivial
      | fz r im a => obtain ⟨v, e, q⟩ := ok; exact ⟨v, e, im.ex E'.gr.ff q⟩
      | bw r im a => exact ok
      | ow M iM =>
        obtain ⟨p, e, f, m⟩ := ok
        refine ⟨p, e, fun a ha => ⟨hF' i M iM hm h a ha, (f a ha).2⟩, iM.mo E'.gr.ff.s (fun a ha => keep a (nS i M iM hm h a ha) (iM.own m a ha)) m⟩
  · by_cases hmi : i ∈ is <;> by_cases hmj : j ∈ is
    · rw [if_pos hmi] at h3
      rw [if_pos hmj]
      obtain ⟨δ, mu, pn, d, p, _, _, k1, _, _⟩ := at' i hmi
      obtain ⟨δ', mu', pn', d', p', _, _, k2, _, _⟩ := at' j hmj
      have hne : is.idxOf i ≠ is.idxOf j := fun e => by
        have e1 := (idx hmi).1
        have e2 := (idx hmj).1
        rw [e, e2] at e1
        exact hij (Option.some.inj e1).symm
      exact E'.dj _ _ _ _ _ _ a hne k1 k2 h3
    · rw [if_pos hmi] at h3
      rw [if_neg hmj]
      rw [setAll_out _ _ _ _ hmj] at h2
      obtain ⟨δ, mu, pn, d, p, _, _, _, f, _⟩ := at' i hmi
      intro ha
      have z := (f a h3).2
      rw [cut_out (nS j N iN hmj h2 a ha)] at z
      obtain ⟨x, hx, p, e, _, m⟩ := E.at_ j _ h2
      exact iN.own m a ha z
    · rw [if_neg hmi] at h3
      rw [if_pos hmj]
      rw [setAll_out _ _ _ _ hmi] at h1
      obtain ⟨δ, mu, pn, d, p, _, _, _, f, _⟩ := at' j hmj
      intro ha
      have z := (f a ha).2
      rw [cut_out (nS i M iM hmi h1 a h3)] at z
      obtain ⟨x, hx, p, e, _, m⟩ := E.at_ i _ h1
      exact iM.own m a h3 z
    · rw [if_neg hmi] at h3
      rw [if_neg hmj]
      rw [setAll_out _ _ _ _ hmi] at h1
      rw [setAll_out _ _ _ _ hmj] at h2
      exact E.dj i j _ _ _ _ a hij h1 h2 h3
/-- slots behind own ones -/
theorem EnvOk.behind {G2 : List Slot} {σ2 : L2.St} {H2 : Hp} (E : EnvOk F0 H0 G σ F H) (E2 : EnvOk F0 H0 G2 σ2 F H2) (hn : ∀ (i : Nat) (M : Mu) (iM : MoM M), G2[i]? ≠ some (.ow M iM)) : EnvOk F0 H0 (G ++ G2) (σ ++ σ2) F H := by
  obtain ⟨fp, E⟩ := E
  obtain ⟨fq, E2⟩ := E2
  refine ⟨fp, E.gr, by rw [List.length_append, List.length_append, E.len, E2.len], fun i s h => ?_, fun i j M iM N iN a hij h1 h2 h3 => ?_⟩
  · by_cases hi : i < G.length
    · rw [List.getElem?_append_left hi] at h
      obtain ⟨x, hx, ok⟩ := E.at_ i s h
      exact ⟨x, by rw [List.getElem?_append_left (by rw [E.len]; exact hi)]; exact hx, ok⟩
    · rw [List.getElem?_append_right (by omega)] at h
      obtain ⟨x, hx, ok⟩ := E2.at_ _ s h
      refine ⟨x, by rw [List.getElem?_append_right (by rw [E.len]; omega), E.len]; exact hx, ?_⟩
      cases s with
      | no => trivial
      | fz r im a => exact ok
      | bw r im a => exact ok
      | ow M iM => exact absurd h (hn _ M iM)
  · have old : ∀ (i : Nat) (M : Mu) (iM : MoM M), (G ++ G2)[i]? = some (.ow M iM) → G[i]? = some (.ow M iM) := fun i M iM h => by
      by_cases hi : i < G.length
      · rw [List.getElem?_append_left hi] at h; exact h
      · rw [List.getElem?_append_right (by omega)] at h
        exact absurd h (hn _ M iM)
    exact E.dj i j M iM N iN a hij (old _ _ _ h1) (old _ _ _ h2) h3
theorem Pt.noown {α : Type} : ∀ (T : Pt α) (a : α) (n : Nat) (i : Nat) (M : Mu) (iM : MoM M), (T.slots a ++ List.replicate n .no)[i]? ≠ some (.ow M iM)
  | .nil, a, n, i, M, iM => fun h => by
    unfold Pt.slots at h
    rw [List.nil_append] at h
    have := List.eq_of_mem_replicate (List.mem_of_getElem? h)
    cases this
  | .cons m r im t, a, n, 0, M, iM => fun h => by
    unfold Pt.slots at h
    simp only [List.cons_append, List.getElem?_cons_zero, Option.some.injEq] at h
    unfold pslot at h
    cases m <;> cases h
  | .cons m r im t, a, n, i + 1, M, iM => fun h => by
    unfold Pt.slots at h
    simp only [List.cons_append, List.getElem?_cons_succ] at h
    exact t.noown a.2 n i M iM h
end
end LK

set_option Elab.async false
set_option linter.all false
set_option maxRecDepth 100000
set_option maxHeartbeats 4000000
set_option autoImplicit false
/-! LM4: the promise of a def that changes some of its arguments; its rule; its calls. -/
namespace LJ
open PySem L2 LK LKX LKB PyProof.Rows PySem.Spec
def spU {γ α β : Type} (T : XT) (w : Ow γ) (P : Pt α) (f : γ → α → R (Er × γ) (β × γ)) (sr : β → LK.Slot) : Sp := fun vs H Q E =>
  ∃ (F H0 : Hp) (ps : List Addr) (g : γ) (a : α) (ws : List V), vs = ps.map V.ref ++ ws ∧ Ex F H0 ∧ EnvOk F H0 (w.sl (ps.map some) g) (ps.map fun p => some (V.ref p)) F H ∧ P.ra F H0 H0 ws a ∧ f g a ≠ .no ∧
  (∀ b z, f g a = .ok (b, z) → ∀ v xs F' H', EnvOk F H0 (sr b :: w.sl (ps.map some) z) (some v :: xs) F' H' → Q v H') ∧
  (∀ er z, f g a = .er (er, z) → ∀ cls dd xs F' H', EnvOk F H0 (w.sl (ps.map some) z) xs F' H' → rEr T F' cls dd er → E cls dd H')
theorem spU_len {γ α β : Type} {T : XT} {w : Ow γ} {P : Pt α} {f : γ → α → R (Er × γ) (β × γ)} {sr : β → LK.Slot} {vs : List V} {H : Hp} {Q : VK} {E : XK} (h : spU T w P f sr vs H Q E) : vs.length = w.n + P.count := by
  obtain ⟨F, H0, ps, g, a, ws, e, _, E', h, _⟩ := h
  have := E'.len
  rw [List.length_map, w.len] at this
  rw [e, List.length_append, List.length_map, this, P.length h]
abbrev jnU {γ β : Type} (n : Nat) (sr : β → LK.Slot) (w : Ow γ) (ps : List Addr) : Jn β (β × γ) (Er × γ) γ := ⟨sr, fun b z => (b, z), fun z => w.sl (ps.map some) z ++ List.replicate n .no, fun e z => (e, z)⟩
theorem Lw.of {G G' : List LK.Slot} (h : Lw G G') : Lw G G' := h
theorem start_app {N : List Str} {vs ws : List V} {n : Nat} (hl : vs.length = n) : L2.start N (vs ++ ws) = vs.map some ++ L2.start (N.drop n) ws := by
  unfold L2.start
  rw [List.map_append, List.append_assoc, List.length_append, List.length_drop]
  congr 2
  rw [hl]
  congr 1
  omega
theorem envHeads {F H F' H' : Hp} : ∀ {G1 G2 : List LK.Slot} {σ : L2.St}, EnvOk F H (G1 ++ G2) σ F' H' → EnvOk F H G1 (σ.take G1.length) F' H' := fun {G1 G2 σ} E => by
  have hl := E.len
  rw [List.length_append] at hl
  exact E.re (fun i => i) (by rw [List.length_take]; omega) (fun i s hi => by
    have hil : i < G1.length := (List.getElem?_eq_some_iff.mp hi).1
    have e : (σ.take G1.length)[i]? = σ[i]? := by rw [List.getElem?_take]; simp [hil]
    refine ⟨⟨σ[i]'(by omega), by rw [e]; exact List.getElem?_eq_getElem (by omega)⟩, .inr ⟨by rw [List.getElem?_append_left hil]; exact hi, e⟩⟩) (fun i j e => .inl e)
section
variable {P : Program} {w : World} {K : PySem.W.Frag} {mg : Str → Option Value} {base : Heap}
theorem ok_U {γ α β S' : Type} {X : XT} {ow : Ow γ} {T : Pt α} {f : γ → α → R (Er × γ) (β × γ)} {sr : β → LK.Slot} {x qual : Str} {st : Stmt} {fa : Addr} {fd : FuncData} {N ps0 : List Str} {k : Nat} (c : Nat) (Fn : Fun K x qual st fa fd) (S : FnScope N ps0 (defScope st)) (hc : N.length = ow.n + (T.count + c)) (hps : ps0.length = ow.n + T.count)
    (kend : S' → R (Er × γ) (β × γ)) (hend2 : ∀ s e, kend s ≠ .er e)
    (hbody : ∀ (cdv : Value) (A : Around) (outer : List Env) (s : Shared) (H : Hp) (E : XK) (hr : Room k (A.deeper (envOfC qual (defScope st) s.heap.objs.size fa cdv))) (ps : List Addr) (hp : ps.length = ow.n) (g : γ) (a : α),
      ∃ (slk : S' → List LK.Slot) (M : (S' → R (Er × γ) (β × γ)) → R (Er × γ) (β × γ)), XB (cnD P w K mg base N S.nd qual (defScope st) fa cdv A outer s H E X) (jnU (T.count + c) sr ow ps) (defBody st) (ow.sl (ps.map some) g ++ (T.slots a ++ List.replicate c .no)) slk M ∧ M kend = f g a ∧ (∀ s b z, kend s = .ok (b, z) → sr b = sF rNon () ∧ Lw (slk s) (ow.sl (ps.map some) z ++ List.replicate (T.count + c) .no))) :
    FnOk P w K mg base (L2.CX P w) (k + 1) fa fd ps0 (spU X ow T f sr) := by
  refine Fn.okX S (fun vs H Q E h => by rw [hps]; exact spU_len h) (fun cdv A outer s H vs Q E hr h => ?_)
  obtain ⟨F, H0, ps, g, a, ws, ev, e, E0, ha, hno, q1, q2⟩ := h
  subst ev
  have hpl : ps.length = ow.n := by have := E0.len; rwa [List.length_map, ow.len] at this
  obtain ⟨slk, M, hB, hM, hsl⟩ := hbody cdv A outer s H E hr ps hpl g a
  refine ⟨_, pS, hB.h F H0 (fun r => r = f g a) _ ⟨fun h => hno h.symm, fun b z h σ F' H' v EE => q1 b z h.symm v _ F' H' (envHeads (G1 := sr b :: ow.sl (ps.map some) z) EE), fun er z h σ F' H' cls d EE r => q2 er z h.symm cls d _ F' H' (envHeads EE) r⟩ kend (fun s' hs σ F' H' EE => ?_) hM _ F H ?_⟩
  · cases hk : kend s' with
    | ok bz =>
      obtain ⟨b, z⟩ := bz
      obtain ⟨hsr, hl⟩ := hsl s' b z hk
      have E1 := envHeads (EE.weak hl)
      refine q1 b z (by rw [← hs, hk]) .non _ F' H' (EnvOk.push E1 (s := sr b) (v := .non) ?_ ?_)
      · rw [hsr]; exact ⟨.non, rfl, rfl⟩
      · rw [hsr]; exact fun _ _ z => nomatch z
    | er y => exact absurd hk (hend2 s' y)
    | no => rw [hk] at hs; exact absurd hs.symm hno
  · have E2 : EnvOk F H0 (T.slots a ++ List.replicate c .no) (L2.start (N.drop ow.n) ws) F H0 := entry e ha c (by rw [List.length_drop]; omega)
    have E3 := E0.behind E2 fun i M iM => Pt.noown T a c i M iM
    rw [start_app (n := ow.n) (by rw [List.length_map]; exact hpl), List.map_map]
    exact E3
theorem len1 {ps : List Addr} (h : ps.length = 1) : ∃ p, ps = [p] := match ps, h with | [p], _ => ⟨p, rfl⟩
theorem len2 {ps : List Addr} (h : ps.length = 2) : ∃ p q, ps = [p, q] := match ps, h with | [p, q], _ => ⟨p, q, rfl⟩
theorem len3 {ps : List Addr} (h : ps.length = 3) : ∃ p q r, ps = [p, q, r] := match ps, h with | [p, q, r], _ => ⟨p, q, r, rfl⟩
end
/-! ### calls -/
def Ur (C : Cn) (F0 H0 : Hp) (t : TA) (G : List LK.Slot) (is : List Nat) {α : Type} (P : Pt α) : R Er α → Prop
  | .ok a => ∀ σ F H, EnvOk F0 H0 G σ F H → ∀ Q : List V → Hp → Prop, (∀ (ps : List Addr) (ws : List V) (F' H' : Hp), Gr F H F' H' → is.map (fun i => σ[i]?) = ps.map (fun p => some (some (V.ref p))) → (∀ F2 Hc, Ex F' F2 → Ex F2 Hc → Ex H0 Hc → P.ra F2 Hc Hc ws a) → Q (ps.map V.ref ++ ws) H') → t σ H Q
  | .er e => ∀ σ F H, EnvOk F0 H0 G σ F H → (∀ F' H' cls d, Gr F H F' H' → rEr C.T F' cls d e → C.W cls d σ H') → ∀ Q : List V → Hp → Prop, t σ H Q
  | .no => True
structure XU (C : Cn) (es : List Expr) (G : List LK.Slot) (is : List Nat) {α : Type} (P : Pt α) (g : R Er α) : Prop where
  h : ∀ F0 H0, Ur C F0 H0 (tA C.X es) G is P g
section
variable {C : Cn} {G : List LK.Slot} {m : Md} {e : Expr} {es : List Expr} {pos p0 p1 apos : Pos} {x : Str} {is : List Nat}
theorem xu_nil : XU C [] G [] .nil (.ok ()) := ⟨fun F0 H0 σ F H E Q q => tA_le pa_nil (q [] [] F H (Gr.refl E.gr.fh) rfl fun _ _ _ _ _ => rfl)⟩
theorem Ur.le {α : Type} {P : Pt α} {g : R Er α} {F0 H0 : Hp} {t u : TA} (h : Ur C F0 H0 t G is P g) (le : ∀ σ H Q, t σ H Q → u σ H Q) : Ur C F0 H0 u G is P g := by
  cases g with
  | ok a => exact fun σ F H E Q q => le _ _ _ (h σ F H E Q q)
  | er e => exact fun σ F H E w Q => le _ _ _ (h σ F H E w Q)
  | no => trivial
/-- an own argument -/
theorem xu_own {α : Type} {P : Pt α} {g : R Er α} {M : Mu} {iM : MoM M} (i : Nat) (h : XU C es G is P g) (hi : G[i]? = some (.ow M iM) := by rfl) (hN : C.X.N[i]? = some x := by rfl) (hv : Vis C.X.env.scope x := by first | exact Or.inl rfl | exact Or.inr (Or.inl rfl) | exact Or.inr (Or.inr rfl)) (hd : (x == ("__debug__" : Str)) = false := by decide) (hcd : (x == ("__classdict__" : Str)) = false := by decide)
    (hs : starEach (.Name x p0 :: es) C.X.env = (false, eval (.Name x p0) C.X.env) :: starEach es C.X.env := by exact star_cons rfl) : XU C (.Name x p0 :: es) G (i :: is) P g := ⟨fun F0 H0 => by
  have h := h.h F0 H0
  refine Ur.le (t := tCons (tVar i) (tA C.X es)) ?_ fun _ _ _ q => tA_le (pa_cons (pe_var hN hv hd hcd) pA hs) q
  cases g with
  | no => trivial
  | er y =>
    intro σ F H E w Q
    obtain ⟨p, S, hx, _⟩ := E.ow_at hi
    exact ⟨_, hx, h σ F H E w _⟩
  | ok a =>
    intro σ F H E Q q
    obtain ⟨p, S, hx, _⟩ := E.ow_at hi
    refine ⟨_, hx, h σ F H E _ fun ps ws F' H' g' hp hw => q (p :: ps) ws F' H' g' ?_ hw⟩
    rw [List.map_cons, List.map_cons, hx, hp]⟩
theorem xu_gen {α β : Type} {r : Rp α} {m1 m2 : Md} {im : Mo r} {P : Pt β} {f : R Er α} {g : R Er β} (ha : XE C e G m1 r f) (h : XU C es G [] P g) (hc : ∀ F0 F H H0 F2 Hc v a, r (pk m1 F H0 H) v a → Ex F F2 → Ex F2 Hc → Ex H0 Hc → F0 = F → r (pk m2 F2 Hc Hc) v a)
    (hs : starEach (e :: es) C.X.env = (false, eval e C.X.env) :: starEach es C.X.env := by exact star_cons rfl) : XU C (e :: es) G [] (.cons m2 r im P) (f.bind fun x => g.bind fun y => .ok (x, y)) := ⟨fun F0 H0 => by
  have h := h.h F0 H0; have ha := ha.h F0 H0
  refine Ur.le (t := tCons (tE C.X e) (tA C.X es)) ?_ fun _ _ _ q => tA_le (pa_cons pE pA hs) q
  cases f with
  | no => trivial
  | er y => exact fun σ F H E w Q => ha σ F H E w _
  | ok a =>
    cases g with
    | no => trivial
    | er y => exact fun σ F H E w Q => ha σ F H E _ fun v F1 H1 g1 _ => h σ F1 H1 (E.gro g1) (fun F' H' cls d g z => w F' H' cls d (g1.trans g) z) _
    | ok b =>
      intro σ F H E Q q
      refine ha σ F H E _ fun v F1 H1 g1 hv => h σ F1 H1 (E.gro g1) _ fun ps ws F2 H2 g2 hp hw => ?_
      cases ps with
      | cons => simp at hp
      | nil => exact q [] (v :: ws) F2 H2 (g1.trans g2) rfl fun F3 Hc e1 e2 e3 => ⟨v, ws, rfl, hc F1 F1 H1 H0 F3 Hc v a hv (g2.ff.trans e1) e2 e3 rfl, hw F3 Hc e1 e2 e3⟩⟩
theorem xu_sh {α β : Type} {r : Rp α} [im : Mo r] {P : Pt β} {f : R Er α} {g : R Er β} (ha : XE C e G .sh r f) (h : XU C es G [] P g)
    (hs : starEach (e :: es) C.X.env = (false, eval e C.X.env) :: starEach es C.X.env := by exact star_cons rfl) : XU C (e :: es) G [] (.cons .sh r im P) (f.bind fun x => g.bind fun y => .ok (x, y)) := xu_gen ha h (fun _ _ _ _ _ _ _ _ h e _ _ _ => mox (r := r) e h) hs
theorem xu_shb {α β : Type} {r : Rp α} [im : Mo r] {P : Pt β} {f : R Er α} {g : R Er β} (ha : XE C e G .sh r f) (h : XU C es G [] P g)
    (hs : starEach (e :: es) C.X.env = (false, eval e C.X.env) :: starEach es C.X.env := by exact star_cons rfl) : XU C (e :: es) G [] (.cons .bo r im P) (f.bind fun x => g.bind fun y => .ok (x, y)) := xu_gen ha h (fun _ _ _ _ _ _ _ _ h e e2 _ _ => mox (r := r) (e.trans e2) h) hs
theorem xu_b0 {α β : Type} {r : Rp α} [im : Mo r] {P : Pt β} {f : R Er α} {g : R Er β} (ha : XE C e G .b0 r f) (h : XU C es G [] P g)
    (hs : starEach (e :: es) C.X.env = (false, eval e C.X.env) :: starEach es C.X.env := by exact star_cons rfl) : XU C (e :: es) G [] (.cons .bo r im P) (f.bind fun x => g.bind fun y => .ok (x, y)) := xu_gen ha h (fun _ _ _ _ _ _ _ _ h _ _ e3 _ => mox (r := r) e3 h) hs
/-- what a call of such a def wants and gives -/
theorem u_call {γ α β : Type} {F0 H0 F H F1 H1 : Hp} {σ : L2.St} {w : Ow γ} {P : Pt α} {fn : γ → α → R (Er × γ) (β × γ)} {sr : β → LK.Slot} {os : List (Option Addr)} {g0 : γ} {a : α} {ps : List Addr} {ws : List V} {Q : VK} {E' : XK} {T : XT} (E : EnvOk F0 H0 G σ F H) (g1 : Gr F H F1 H1) (hi : AtAll G is (w.sl os g0)) (nd : is.Nodup)
    (hp : is.map (fun i => σ[i]?) = ps.map (fun p => some (some (V.ref p)))) (hw : ∀ F2 Hc, Ex F1 F2 → Ex F2 Hc → Ex H0 Hc → P.ra F2 Hc Hc ws a) (hno : fn g0 a ≠ .no) (hn : ∀ b, LJ.Slot.nb (sr b))
    (q1 : ∀ b z, fn g0 a = .ok (b, z) → ∀ v F' H', Ex F F' → EnvOk F0 H0 (sr b :: setAll G is (w.sl os z)) (some v :: σ) F' H' → Q v H')
    (q2 : ∀ er z, fn g0 a = .er (er, z) → ∀ cls dd F' H', EnvOk F0 H0 (setAll G is (w.sl os z)) σ F' H' → rEr T F' cls dd er → E' cls dd H') :
    spU T w P fn sr (ps.map V.ref ++ ws) H1 Q E' := by
  obtain ⟨fp, E1⟩ := E.gro g1
  obtain ⟨ps', hl, hat, hin⟩ := ow_in E1 hi nd
  have hpe : ps' = ps := by
    have hl2 : ps.length = is.length := by have := congrArg List.length hp; simpa using this.symm
    refine List.ext_getElem? fun j => ?_
    by_cases hj : j < is.length
    · obtain ⟨p, h1, h2, _⟩ := hat j is[j] (List.getElem?_eq_getElem hj)
      have h3 := congrArg (fun l => l[j]?) hp
      simp only [List.getElem?_map, List.getElem?_eq_getElem hj, Option.map_some] at h3
      rw [h2] at h3
      rw [h1]
      cases hq : ps[j]? with
      | none => rw [hq] at h3; cases h3
      | some q => rw [hq] at h3; simpa using h3
    · rw [List.getElem?_eq_none (by omega), List.getElem?_eq_none (by omega)]
  subst hpe
  let S : List Addr := (is.map fp).flatten
  have hS : ∀ a, a ∈ S ↔ ∃ i ∈ is, a ∈ fp i := fun a => by
    show a ∈ (is.map fp).flatten ↔ _
    rw [List.mem_flatten]
    constructor
    · rintro ⟨l, hl, ha⟩
      obtain ⟨i, hi, rfl⟩ := List.mem_map.mp hl
      exact ⟨i, hi, ha⟩
    · rintro ⟨i, hi, ha⟩
      exact ⟨fp i, List.mem_map.mpr ⟨i, hi, rfl⟩, ha⟩
  have own : ∀ a ∈ S, F1 a = none ∧ H0 a = none := fun a ha => by
    obtain ⟨i, h, h2⟩ := (hS a).mp ha
    obtain ⟨j, hj⟩ := List.getElem?_of_mem h
    have hl' : is.length = w.n := hi.len.trans (w.len os g0)
    have hjl : j < w.n := by rw [← hl']; exact (List.getElem?_eq_some_iff.mp hj).1
    obtain ⟨δ, mu, pn, d, k⟩ := w.at_ g0 j hjl
    obtain ⟨x, hx, p, e, f, m⟩ := E1.at_ i _ (hi.get hj (k os))
    exact f a h2
  have eF : Ex F1 (cut S H1) := le_cut E1.gr.fh fun a ha => (own a ha).1
  have eH : Ex H0 (cut S H1) := le_cut E1.gr.hh fun a ha => (own a ha).2
  refine ⟨F1, cut S H1, ps', g0, a, ws, rfl, eF, ⟨_, hin (cut S H1) cut_le fun i hi a ha => cut_in ((hS a).mpr ⟨i, hi, ha⟩)⟩, hw F1 _ (Ex.refl F1) eF eH, hno, fun b z hf v xs F' H' EE => ?_, fun er z hf cls dd xs F' H' EE r => ?_⟩
  · -- the answer, then the own things
    obtain ⟨fq, EF⟩ := EE
    have ET : EnvF F1 (cut S H1) (w.sl (ps'.map some) z) xs F' H' (fun j => fq (j + 1)) :=
      ⟨EF.gr, by have := EF.len; simpa using this, fun i s h => by
        obtain ⟨y, hy, ok⟩ := EF.at_ (i + 1) s (by simpa using h)
        exact ⟨y, by simpa using hy, ok⟩, fun i j M iM N iN a hij h1 h2 h3 => EF.dj (i + 1) (j + 1) M iM N iN a (by omega) (by simpa using h1) (by simpa using h2) h3⟩
    have EO := ow_out E1 hi nd hS hat ET
    refine q1 b z hf v F' H' (g1.ff.trans EF.gr.ff) ?_
    obtain ⟨y, hy, ok⟩ := EF.at_ 0 (sr b) rfl
    have ey : y = some v := by simpa using hy.symm
    subst ey
    cases hsr : sr b with
    | no => exact EnvOk.push (s := .no) ⟨_, EO⟩ trivial fun _ _ z => nomatch z
    | fz r im d =>
      rw [hsr] at ok
      exact EnvOk.push (s := .fz r im d) ⟨_, EO⟩ ok fun _ _ z => nomatch z
    | bw r im d => have := hn b; rw [hsr] at this; exact this.elim
    | ow M iM =>
      rw [hsr] at ok EF
      obtain ⟨p, ep, f, m⟩ := ok
      refine ⟨fun i => match i with | 0 => fq 0 | i + 1 => (if i ∈ is then fq (is.idxOf i + 1) else fp i), EO.gr, by rw [List.length_cons, List.length_cons, EO.len], fun i s h => ?_, fun i j M' iM' N iN a' hij h1 h2 h3 => ?_⟩
      · cases i with
        | zero =>
          simp at h; subst h
          refine ⟨some v, rfl, p, ep, fun a' ha => ⟨(f a' ha).1, ?_⟩, m⟩
          by_cases hs : a' ∈ S
          · exact (own a' hs).2
          · have z1 := (f a' ha).2
            rw [cut_out hs] at z1
            exact E1.gr.hh.back z1
        | succ i =>
          obtain ⟨y', hy', ok'⟩ := EO.at_ i s (by simpa using h)
          exact ⟨y', by simpa using hy', ok'⟩
      · -- the answer's own addresses are new, or were the arguments'
        have sep : ∀ (k : Nat) (M' : Mu) (iM' : MoM M') (a' : Addr), (setAll G is (w.sl os z))[k]? = some (.ow M' iM') → a' ∈ fq 0 → a' ∉ (if k ∈ is then fq (is.idxOf k + 1) else fp k) := fun k M' iM' a' hk ha => by
          by_cases hm : k ∈ is
          · rw [if_pos hm]
            have hlt := List.idxOf_lt_length_of_mem hm
            have hl' : is.length = w.n := hi.len.trans (w.len os g0)
            obtain ⟨δ, mu, pn, d, kk⟩ := w.at_ z (is.idxOf k) (by rw [← hl']; exact hlt)
            exact EF.dj 0 (is.idxOf k + 1) M iM _ _ a' (by omega) (by simp) (by rw [List.getElem?_cons_succ]; exact kk (ps'.map some)) ha
          · rw [if_neg hm]
            rw [setAll_out _ _ _ _ hm] at hk
            intro h2
            obtain ⟨x', hx', p', e', f', m'⟩ := E1.at_ k _ hk
            have z1 := (f a' ha).2
            have nS : a' ∉ S := fun hs => by
              obtain ⟨i', hi', ha2⟩ := (hS a').mp hs
              obtain ⟨j', hj'⟩ := List.getElem?_of_mem hi'
              have hl' : is.length = w.n := hi.len.trans (w.len os g0)
              obtain ⟨δ, mu, pn, d, kk⟩ := w.at_ g0 j' (by rw [← hl']; exact (List.getElem?_eq_some_iff.mp hj').1)
              exact E1.dj i' k _ _ _ _ a' (fun e => hm (e ▸ hi')) (hi.get hj' (kk os)) hk ha2 h2
            rw [cut_out nS] at z1
            exact iM'.own m' a' h2 z1
        cases i with
        | zero =>
          cases j with
          | zero => exact absurd rfl hij
          | succ j => exact sep j N iN a' (by simpa using h2) h3
        | succ i =>
          cases j with
          | zero => exact fun h4 => sep i M' iM' a' (by simpa using h1) h4 h3
          | succ j => exact EO.dj i j M' iM' N iN a' (by omega) (by simpa using h1) (by simpa using h2) h3
  · obtain ⟨fq, EF⟩ := EE
    exact q2 er z hf cls dd F' H' ⟨_, ow_out E1 hi nd hS hat EF⟩ r
/-- x(own, .., e, ..) -/
theorem xm_call {γ α β : Type} {w : Ow γ} {P : Pt α} {fn : γ → α → R (Er × γ) (β × γ)} {sr : β → LK.Slot} {g : R Er α} {k n : Nat} {f : Addr} {fd : FuncData} {ps : List Str} (os : List (Option Addr)) (g0 : γ) (G' : γ → List LK.Slot) (Cl : Cal C.X.K C.X.mg x f fd ps) (Fo : FnOk C.X.prog C.X.w C.X.K C.X.mg C.X.base (L2.CX C.X.prog C.X.w) k f fd ps (spU C.T w P fn sr)) (hr : Room n C.X.A)
    (hi : AtAll G is (w.sl os g0)) (ha : XU C (e :: es) G is P g) (hG : ∀ z, setAll G is (w.sl os z) = G' z) (h0 : Lw G (G' g0)) (nd : is.Nodup := by decide) (hn : ∀ b, LJ.Slot.nb (sr b) := by intro; trivial) (hk : k ≤ n := by decide) (hg : Gl C.X x := by rfl) (hdb : (x == ("__debug__" : Str)) = false := by decide)
    (he : starEach (e :: es) C.X.env = (false, eval e C.X.env) :: starEach es C.X.env := by exact star_cons rfl) (hpl : (backTo pos (starEach es C.X.env)).any (·.1) = false := by rfl) :
    XM C (.Call (.Name x p0) (e :: es) [] pos) G (fun s : β × γ => sr s.1) (fun s => G' s.2) G' (g.thn (fun y => (y, g0)) fun a => fn g0 a) := ⟨fun F0 H0 => by
  have ha := ha.h F0 H0
  refine Mr.le (t := tCallS (spU C.T w P fn sr) (WE C.W) (tA C.X (e :: es))) ?_ fun _ _ _ q => tE_le (pe_callS Fo (hr.mono hk) hg Cl.mg Cl.kp Cl.bi (fun σ => passAt C.tk σ) pA hdb he hpl) q
  cases g with
  | no => trivial
  | er y => exact fun σ F H E w Q => ha σ F H E (fun F' H' cls d g r => w F' H' cls d ((E.gro g).weak h0) r) _
  | ok a =>
    show Mr C F0 H0 _ G _ _ G' (fn g0 a)
    cases hf : fn g0 a with
    | no => trivial
    | er y =>
      intro σ F H E w Q
      refine ha σ F H E _ fun ps ws F1 H1 g1 hp hw => u_call E g1 hi nd hp hw (by rw [hf]; exact fun z => nomatch z) hn (fun b z h => by rw [hf] at h; cases h) fun er z h cls dd F' H' EE r => ?_
      rw [hf] at h; cases h
      rw [hG] at EE
      exact w F' H' cls dd EE r
    | ok s =>
      intro σ F H E Q q
      refine ha σ F H E _ fun ps ws F1 H1 g1 hp hw => u_call E g1 hi nd hp hw (by rw [hf]; exact fun z => nomatch z) hn (fun b z h v F' H' ee EE => ?_) fun er z h => by rw [hf] at h; cases h
      rw [hf] at h; cases h
      rw [hG] at EE
      exact q v F' H' ee EE⟩
/-- y.m(e, ..), y an own instance -/
theorem xm_meth {γ α β : Type} {C0 : Addr} {w : Ow γ} {P : Pt α} {fn : γ → α → R (Er × γ) (β × γ)} {sr : β → LK.Slot} {g : R Er α} {k n i : Nat} {f : Addr} {fd : FuncData} {ps : List Str} {mn : Str} {M : Mu} {iM : MoM M} {pl : Sem Bool} (os : List (Option Addr)) (g0 : γ) (G' : γ → List LK.Slot) (c : Cls C.X.K C0) (Cl : CalM C.X.K C0 mn f fd ps) (Fo : FnOk C.X.prog C.X.w C.X.K C.X.mg C.X.base (L2.CX C.X.prog C.X.w) k f fd ps (spU C.T w P fn sr)) (hr : Room n C.X.A)
    (hins : ∀ F H p S, M F H p S → ∃ dx fs, H p = some (.ins C0 dx fs) ∧ fs.lookup mn = none) (hi0 : G[i]? = some (.ow M iM))
    (hi : AtAll G (i :: is) (w.sl os g0)) (ha : XU C (e :: es) G is P g) (hG : ∀ z, setAll G (i :: is) (w.sl os z) = G' z) (h0 : Lw G (G' g0)) (nd : (i :: is).Nodup := by decide) (hn : ∀ b, LJ.Slot.nb (sr b) := by intro; trivial) (hk : k ≤ n := by decide)
    (hN : C.X.N[i]? = some x := by rfl) (hv : Vis C.X.env.scope x := by first | exact Or.inl rfl | exact Or.inr (Or.inl rfl) | exact Or.inr (Or.inr rfl)) (hd : (x == ("__debug__" : Str)) = false := by decide) (hcd : (x == ("__classdict__" : Str)) = false := by decide)
    (hst : starEach (e :: es) C.X.env = (false, eval e C.X.env) :: starEach es C.X.env := by exact star_cons rfl) (hpl : (backTo pos (starEach es C.X.env)).any (·.1) = false := by rfl)
    (ht : eval (.Call (.Attribute (.Name x p0) mn apos) (e :: es) [] pos) C.X.env = (do
      let ov ← eval (.Name x p0) C.X.env
      standAt apos.atName
      let (f, first) ← holding [ov] (getMethod ov mn pl)
      callWith pos f first (backTo pos (starEach (e :: es) C.X.env)) (backToKw pos (keywordEach [] C.X.env))) := by rfl) :
    XM C (.Call (.Attribute (.Name x p0) mn apos) (e :: es) [] pos) G (fun s : β × γ => sr s.1) (fun s => G' s.2) G' (g.thn (fun y => (y, g0)) fun a => fn g0 a) := ⟨fun F0 H0 => by
  have ha := ha.h F0 H0
  refine Mr.le (t := tMethS C0 mn (spU C.T w P fn sr) [] (WE C.W) (tVar i) (tA C.X (e :: es))) ?_ fun _ _ _ q => tE_le (pe_methS (pe_var hN hv hd hcd) c Cl.mt Fo (hr.mono hk) Cl.bi .nil (fun σ => passAt C.tk σ) pA hst hpl ht) q
  cases g with
  | no => trivial
  | er y =>
    intro σ F H E w Q
    obtain ⟨p, S, hx, hS, m⟩ := E.ow_at hi0
    obtain ⟨dx, fs, h1, h2⟩ := hins _ _ _ _ m
    exact ⟨_, hx, p, dx, fs, rfl, h1, h2, ha σ F H E (fun F' H' cls d g r => w F' H' cls d ((E.gro g).weak h0) r) _⟩
  | ok a =>
    show Mr C F0 H0 _ G _ _ G' (fn g0 a)
    cases hf : fn g0 a with
    | no => trivial
    | er y =>
      intro σ F H E w Q
      obtain ⟨p, S, hx, hS, m⟩ := E.ow_at hi0
      obtain ⟨dx, fs, h1, h2⟩ := hins _ _ _ _ m
      refine ⟨_, hx, p, dx, fs, rfl, h1, h2, ha σ F H E _ fun ps ws F1 H1 g1 hp hw => ?_⟩
      rw [List.append_nil]
      refine u_call (ps := p :: ps) E g1 hi nd (by rw [List.map_cons, List.map_cons, hx, hp]) hw (by rw [hf]; exact fun z => nomatch z) hn (fun b z h => by rw [hf] at h; cases h) fun er z h cls dd F' H' EE r => ?_
      rw [hf] at h; cases h
      rw [hG] at EE
      exact w F' H' cls dd EE r
    | ok s =>
      intro σ F H E Q q
      obtain ⟨p, S, hx, hS, m⟩ := E.ow_at hi0
      obtain ⟨dx, fs, h1, h2⟩ := hins _ _ _ _ m
      refine ⟨_, hx, p, dx, fs, rfl, h1, h2, ha σ F H E _ fun ps ws F1 H1 g1 hp hw => ?_⟩
      rw [List.append_nil]
      refine u_call (ps := p :: ps) E g1 hi nd (by rw [List.map_cons, List.map_cons, hx, hp]) hw (by rw [hf]; exact fun z => nomatch z) hn (fun b z h v F' H' ee EE => ?_) fun er z h => by rw [hf] at h; cases h
      rw [hf] at h; cases h
      rw [hG] at EE
      exact q v F' H' ee EE⟩
end
end LJ

set_option Elab.async false
set_option linter.all false
set_option maxRecDepth 100000
set_option maxHeartbeats 4000000
set_option autoImplicit false
/-! LM5: texts (count, replace, sorted, str), lists turned round; a test that changes something, by values. -/
namespace LJ
open PySem L2 LK LKX LKB PyProof.Rows PySem.Spec
section
variable {C : Cn} {β ρ ε Z S S' S2 ζ : Type} {J : Jn β ρ ε Z} {G : List LK.Slot} {slk : S' → List LK.Slot} {rest : List Stmt} {pos : Pos} {tb : S → Bool} {sl : S → List LK.Slot} {sle : ζ → List LK.Slot} {f : R (Er × ζ) S}
theorem xb_ifMv {c : Expr} {a b : List Stmt} {slj : S2 → List LK.Slot} {M1 M2 : S → (S2 → R ε ρ) → R ε ρ} {M : S2 → (S' → R ε ρ) → R ε ρ} (v1 v2 : S → R ε S2) (zz : ζ → Z) (hzz : ∀ z, Lw (sle z) (J.slz (zz z))) (hc : XMQ C c G tb sl sle f) (h1 : ∀ s, XB C J a (sl s) slj (M1 s)) (h2 : ∀ s, XB C J b (sl s) slj (M2 s)) (e1 : ∀ s k, M1 s k = (v1 s).bind k) (e2 : ∀ s k, M2 s k = (v2 s).bind k) (hr : ∀ s, XB C J rest (slj s) slk (M s)) :
    XB C J (.If c a b pos :: rest) G slk (fun k => (f.thn (fun y => J.em y.1 (zz y.2)) fun s => cond (tb s) (v1 s) (v2 s)).bind fun s => M s k) := ⟨fun F0 H0 A D an k hk hA => by
  refine (xb_ifM zz hzz hc h1 h2 hr).h F0 H0 A D an k hk ?_
  have e : (fun s => cond (tb s) (M1 s fun s => M s k) (M2 s fun s => M s k)) = fun s => (cond (tb s) (v1 s) (v2 s)).bind fun s => M s k := by
    funext s; rw [e1, e2, R.cond_bind]
  show A (f.thn _ fun s => cond (tb s) (M1 s fun s => M s k) (M2 s fun s => M s k))
  rw [e, ← R.thn_bind]; exact hA⟩
end
/-! ### texts -/
def cntTR (x y : List Nat) : R Er Int := match y with
  | [c] => .ok ((x.count c : Nat) : Int)
  | _ => .no
theorem cnt_nat (c : Nat) : ∀ l : List Nat, cnt c l = ((l.count c : Nat) : Int)
  | [] => rfl
  | n :: r => by
    rw [cnt_cons, cnt_nat c r, List.count_cons]
    by_cases h : n = c
    · subst h; simp; omega
    · simp [h]
theorem txt_count (x : List Nat) (c : Nat) : Txt.count ⟨x.toArray⟩ ⟨#[c]⟩ = ((x.count c : Nat) : Int) := by rw [count_cnt, cnt_nat]
section
variable {C : Cn} {G : List LK.Slot} {m m1 m2 : Md} {o a : Expr} {pos apos p : Pos}
theorem xcntT {f g : R Er (List Nat)} (ho : XE C o G m rTx f) (ha : XE C a G m1 rTx g) (hbase : attributeBase o "count" C.X.env (eval o C.X.env) = eval o C.X.env := by rfl)
    (hfew : ((backTo pos (starEach [a] C.X.env)).all (fun x => !x.1) && (backToKw pos (keywordEach [] C.X.env)).all (fun x => x.1.isSome) && decide ([a].length + ([] : List Keyword).length + (if ([] : List Keyword).isEmpty then 0 else 1) < 30)) = true := by rfl)
    (hline : (apos.endLine == pos.line) = true := by rfl) (hs : starEach [a] C.X.env = (false, eval a C.X.env) :: starEach [] C.X.env := by exact star_cons rfl) (hplain : (backTo pos (starEach [] C.X.env)).any (·.1) = false := by rfl) :
    XE C (.Call (.Attribute o "count" apos) [a] [] pos) G .sh rInt (f.bind fun x => g.bind fun y => cntTR x y) := ⟨fun F0 H0 => by
  have ho := ho.h F0 H0; have ha := ha.h F0 H0
  refine Dr.le (t := tBM C.X.K "str" (fun x xs H Q => ∃ a b, x = .str a ∧ xs = [.str b] ∧ Q (.int (Txt.count a b)) H) (tE C.X o) (tCons (tE C.X a) tNil)) ?_ fun _ _ _ q => tE_le (pe_bm PySem.F.plainAttrs_str PySem.F.slot_str_count PySem.F.type_str_count mt_count pE (pa_cons pE pa_nil hs) hbase hfew hline hs hplain) q
  cases f with
  | no => trivial
  | er y => exact fun σ F H E w Q => ho σ F H E w _
  | ok x =>
    have tv : ∀ {v : V} {H : Hp} {F : Hp}, rTx F v x → tyV C.X.K "str" v H := fun h => by rw [h.1]; exact rfl
    cases g with
    | no => trivial
    | er y => exact fun σ F H E w Q => ho σ F H E _ fun v F1 H1 g1 hv => ⟨tv hv, ha σ F1 H1 (E.gro g1) (fun F' H' cls d g z => w F' H' cls d (g1.trans g) z) _⟩
    | ok y =>
      match y with
      | [] => trivial
      | _ :: _ :: _ => trivial
      | [c] =>
        intro σ F H E Q q
        refine ho σ F H E _ fun v F1 H1 g1 hv => ⟨tv hv, ha σ F1 H1 (E.gro g1) _ fun w F2 H2 g2 hw => ⟨⟨x.toArray⟩, ⟨#[c]⟩, hv.1, congrArg (fun z => [z]) hw.1, ?_⟩⟩
        refine q _ F2 H2 (g1.trans g2) ?_
        rw [txt_count]
        exact rfl⟩
theorem xstrT {f : R Er (List Nat)} (ha : XE C a G m1 rTx f) (hm : C.X.mg "str" = none) (hg : Gl C.X "str" := by rfl) (he : starEach [a] C.X.env = (false, eval a C.X.env) :: starEach [] C.X.env := by exact star_cons rfl) (hpl : (backTo pos (starEach [] C.X.env)).any (·.1) = false := by rfl) :
    XE C (.Call (.Name "str" p) [a] [] pos) G .sh rTx (f.bind fun x => .ok x) := xcb1 ha (pTy SkE.call_str_str hm rfl hg (by decide) (by decide) he hpl) fun F0 H0 x h1 => ed_c1 h1 fun v F H g0 hv Q q => ⟨_, by rw [hv.1], q _ F H (Gr.refl g0.fh) ⟨rfl, hv.2⟩⟩
end
/-! ### sorted texts -/
def leT (a b : List Nat) : Bool := !decide (b < a)
def sortT (xs : List (List Nat)) : List (List Nat) := xs.mergeSort leT
def sortTR (xs : List (List Nat)) : R Er (List (List Nat)) := R.iff (xs.length < 64) (.ok (sortT xs))
theorem leT_trans (a b c : List Nat) : leT a b = true → leT b c = true → leT a c = true := by
  unfold leT
  simp only [Bool.not_eq_true', decide_eq_false_iff_not]
  intro h1 h2
  exact List.le_trans (α := Nat) h1 h2
theorem leT_total (a b : List Nat) : (leT a b || leT b a) = true := by
  unfold leT
  simp only [Bool.or_eq_true, Bool.not_eq_true', decide_eq_false_iff_not]
  exact List.le_total a b
theorem leT_anti (a b : List Nat) : leT a b = true → leT b a = true → a = b := by
  unfold leT
  simp only [Bool.not_eq_true', decide_eq_false_iff_not]
  intro h1 h2
  exact List.le_antisymm (α := Nat) h1 h2
theorem rising_leT : ∀ (p : Str) (l : List Str), risingS p l = true → (p :: l).Pairwise fun a b => leT a.cps.toList b.cps.toList = true
  | p, [], _ => List.pairwise_singleton _ _
  | p, x :: r, h => by
    unfold risingS at h
    rw [Bool.and_eq_true] at h
    have h2 := rising_leT x r h.2
    refine List.pairwise_cons.mpr ⟨fun y hy => ?_, h2⟩
    have h1 : leT p.cps.toList x.cps.toList = true := by
      unfold leT
      rw [← ltCps_eq]; exact h.1
    rcases List.mem_cons.mp hy with e | hy
    · rw [e]; exact h1
    · exact leT_trans _ _ _ h1 ((List.pairwise_cons.mp h2).1 y hy)
theorem sorted_leT : ∀ (l : List Str), sortedS l = true → l.Pairwise fun a b => leT a.cps.toList b.cps.toList = true
  | [], _ => .nil
  | p :: l, h => rising_leT p l h
theorem sortT_of {xs ys : List (List Nat)} {zs : List Str} (hz : zs.Perm (ys.map fun y => ⟨y.toArray⟩)) (hs : sortedS zs = true) : zs = (sortT ys).map fun y => ⟨y.toArray⟩ := by
  have h1 : (zs.map fun z => z.cps.toList).Perm ys := by
    have := hz.map (fun z : Str => z.cps.toList)
    rw [List.map_map] at this
    have e : ((fun z : Str => z.cps.toList) ∘ fun y : List Nat => (⟨y.toArray⟩ : Str)) = id := by funext z; simp
    rwa [e, List.map_id] at this
  have h2 : (zs.map fun z => z.cps.toList).Pairwise fun a b => leT a b = true := List.pairwise_map.mpr (sorted_leT zs hs)
  have h3 : zs.map (fun z => z.cps.toList) = sortT ys := List.Perm.eq_of_pairwise (fun a b _ _ => leT_anti a b) h2 (List.pairwise_mergeSort leT_trans leT_total ys) (h1.trans (List.mergeSort_perm ys leT).symm)
  rw [← h3, List.map_map]
  have : ((fun y : List Nat => (⟨y.toArray⟩ : Str)) ∘ fun z : Str => z.cps.toList) = id := by funext z; simp
  rw [this, List.map_id]
section
variable {C : Cn} {G : List LK.Slot} {m m1 m2 : Md} {o a : Expr} {pos apos p p1 p2 p3 : Pos}
theorem prev {α β : Type} {R' : α → β → Prop} : ∀ {xs : List α} {ys : List β}, Paired R' xs ys → Paired R' xs.reverse ys.reverse
  | [], [], _ => .nil
  | x :: xs, y :: ys, .cons h t => by
    rw [List.reverse_cons, List.reverse_cons]
    exact papp (prev t) (.cons h .nil)
theorem ptx {F : Hp} : ∀ {vs : List V} {xs : List (List Nat)}, Paired (rTx F) vs xs → vs = (xs.map fun y => (⟨y.toArray⟩ : Str)).map V.str
  | [], [], _ => rfl
  | v :: vs, x :: xs, .cons h t => by rw [List.map_cons, List.map_cons, ← ptx t, h.1]
theorem txp {F : Hp} : ∀ {xs : List (List Nat)}, (∀ x ∈ xs, x.length ≤ 16777216 ∧ ∀ c ∈ x, c < 1114112) → Paired (rTx F) ((xs.map fun y => (⟨y.toArray⟩ : Str)).map V.str) xs
  | [], _ => .nil
  | x :: xs, h => .cons ⟨rfl, h x (by simp)⟩ (txp fun y hy => h y (by simp [hy]))
theorem ptx_all {F : Hp} : ∀ {vs : List V} {xs : List (List Nat)}, Paired (rTx F) vs xs → ∀ x ∈ xs, x.length ≤ 16777216 ∧ ∀ c ∈ x, c < 1114112
  | [], [], _ => fun _ h => by cases h
  | v :: vs, x :: xs, .cons h t => fun y hy => by
    rcases List.mem_cons.mp hy with e | hy
    · rw [e]; exact h.2
    · exact ptx_all t y hy
theorem xsortT {f : R Er (List (List Nat))} (ha : XE C a G m1 (rLst rTx) f) (hm : C.X.mg "sorted" = none) (hg : Gl C.X "sorted" := by rfl) (he : starEach [a] C.X.env = (false, eval a C.X.env) :: starEach [] C.X.env := by exact star_cons rfl) (hpl : (backTo pos (starEach [] C.X.env)).any (·.1) = false := by rfl) :
    XN C (.Call (.Name "sorted" p) [a] [] pos) G (fun xs => sL rTx xs) (f.bind sortTR) := x1n ha (pB cr_sortedS hm rfl hg (by decide) (by decide) he hpl) (fun _ _ _ z σ F H E w Q => z σ F H E w _) fun F0 H0 x h1 => ds_iff fun hl => by
  refine dv_en fun σ F H E Q q => h1 σ F H E _ fun v F1 H1 g1 hv => ?_
  obtain ⟨a', vs, rfl, k1, k2, k3⟩ := hv
  have g0 := E.gr.trans g1
  have k4 := pk_now g0 _ _ k1
  have e1 := ptx k3
  subst e1
  refine ⟨a', _, rfl, SqL.of k4, by rw [List.length_map]; exact hl, fun zs p' hz hs hp => ?_⟩
  have e2 := sortT_of (xs := x) hz hs
  subst e2
  have hp1 : F1 p' = none := g1.fh.back hp
  have hlen : (sortT x).length = x.length := by unfold sortT; exact (List.mergeSort_perm x leT).length_eq
  have hp0 : H p' = none := g1.hh.back hp
  exact q p' _ F1 _ (g1.trans (Gr.wild g1.fh hp)) hp0 hp1 upd_same (by omega) (txp fun y hy => ptx_all k3 y ((List.mergeSort_perm x leT).mem_iff.mp hy))
/-- e[::-1] -/
theorem xrevL {α : Type} {r : Rp α} [Mo r] [Kp m1 r] {k : Nat} {f : R Er (List α)} (ha : XE C a G m1 (rLst r) f) : XN C (.Subscript a (.Slice none none (some (.UnaryOp .USub (.Constant (.int 1) k p1) p2)) p3) pos) G (fun xs => sL r xs) (f.bind fun xs => .ok xs.reverse) :=
  x1n ha (pe_revL pE) (fun _ _ _ z σ F H E w Q => z σ F H E w _) fun F0 H0 x h1 => dv_en fun σ F H E Q q => h1 σ F H E _ fun v F1 H1 g1 hv => by
    obtain ⟨p, vs, rfl, e1, e2, e3⟩ := hv
    have g0 := E.gr.trans g1
    exact ⟨p, vs, rfl, SqL.of (pk_now g0 _ _ e1), fun l hl' => q l _ F1 _ (g1.trans (Gr.wild g1.fh hl')) (g1.hh.back hl') (g1.fh.back hl') upd_same (by rw [List.length_reverse]; exact e2) (prev (pmap (fun _ _ z => Kp.kp g0 z) e3))⟩
/-- if c in x: return x.replace(y, z) -/
def tIR (i : Nat) (c0 : Nat) (y z : Str) : TS := fun D σ H => ∃ l : Str, σ[i]? = some (some (.str l)) ∧ l.length + (l.length + 1) * z.length ≤ 16777216 ∧ (if c0 ∈ l.cps.toList then D.rt (.str (Txt.replace l y z)) H else D.nx σ H)
theorem ps_ifRepl {X : Cx} {x y z : Str} {i c0 n j k : Nat} {q q1 q2 pos1 pos2 pos3 cc0 cc1 : Pos} (hN : X.N[i]? = some x) (hv : Vis X.env.scope x) (hd : (x == ("__debug__" : Str)) = false) (hcd : (x == ("__classdict__" : Str)) = false) (hyz : (y == z) = false) (hm : behindInMarks .In (.Name x q1) = false)
    (hst : starEach [.Constant (.str y) j cc0, .Constant (.str z) k cc1] X.env = [(false, eval (.Constant (.str y) j cc0) X.env), (false, eval (.Constant (.str z) k cc1) X.env)])
    (hbase : attributeBase (.Name x p1) "replace" X.env (eval (.Name x p1) X.env) = eval (.Name x p1) X.env) (hline : (apos.endLine == pos1.line) = true) :
    PS X (.If (.Compare (.Constant (.str ⟨#[c0]⟩) n q) [.In] [.Name x q1] q2) [.Return (some (.Call (.Attribute (.Name x p1) "replace" apos) [.Constant (.str y) j cc0, .Constant (.str z) k cc1] [] pos1)) pos2] [] pos3) (tIR i c0 y z) := by
  refine ⟨fun pins s σ H D I h => ?_⟩
  obtain ⟨l, hl, hb, hq⟩ := h
  refine wpAny_If (wpAny_isTrue_Compare1 (Calls.Constant_str ?_) hm)
  refine wpAny_mono (PySem.wpAny_toks ((pe_var hN hv hd hcd).run pins _ σ H (fun v H1 => v = .str l ∧ H1 = H) (I.tok (s.toks + 1)) ⟨_, hl, rfl, rfl⟩)) (fun u s2 w => ?_) fun _ _ z => z.2
  obtain ⟨t2, v2, H2, I2, r2, rfl, rfl⟩ := w
  refine wpAny_mono (PySem.wpAny_toks (op_in_sign pins s2 σ H2 (.str ⟨#[c0]⟩) (.str l) _ u (fun v H1 => v = .bl (decide (c0 ∈ l.cps.toList)) ∧ H1 = H2) I2 ⟨_, rfl⟩ r2 ⟨c0, l, rfl, rfl, rfl, rfl⟩)) (fun c s3 w => ?_) fun _ _ z => z.2
  obtain ⟨t3, v3, H3, I3, r3, rfl, rfl⟩ := w
  cases r3
  refine wpAny_truthy_bool ?_
  have t1 : 1 ≤ s3.toks := by have : s.toks + 1 ≤ s2.toks := t2; omega
  by_cases hc : c0 ∈ l.cps.toList
  · rw [if_pos hc] at hq
    rw [decide_eq_true hc]
    exact CwR.psst_one (CwR.pst_ret (CwR.pet_replC (pe_var hN hv hd hcd) hyz hst hbase hline)) pins s3 σ H3 D t1 I3 ⟨_, hl, l, rfl, hb, hq⟩
  · rw [if_neg hc] at hq
    rw [decide_eq_false hc]
    exact pss_nil.run pins s3 σ H3 D I3 hq
theorem replL_one (c d : Nat) : ∀ l : List Nat, StrLaws.replL [c] [d] l = l.map fun n => if n = c then d else n
  | [] => StrLaws.replL_nil
  | n :: r => by
    have ih := replL_one c d r
    unfold StrLaws.replL at ih ⊢
    unfold StrLaws.replS
    by_cases h : n = c
    · subst h; simp [ih]
    · simp [h, ih]
def replT (c d : Nat) (l : List Nat) : List Nat := l.map fun n => if n = c then d else n
theorem txt_replace (l : List Nat) (c d : Nat) : Txt.replace ⟨l.toArray⟩ ⟨#[c]⟩ ⟨#[d]⟩ = ⟨(replT c d l).toArray⟩ := by
  have h := StrLaws.replace_list (x := ⟨l.toArray⟩) (y := ⟨#[c]⟩) (z := ⟨#[d]⟩) (Nat.le_refl 1)
  have h2 : (Txt.replace ⟨l.toArray⟩ ⟨#[c]⟩ ⟨#[d]⟩).cps.toList = replT c d l := by
    rw [h]; exact replL_one c d l
  rw [← h2]
end
section
variable {C : Cn} {β ρ ε Z S S' S2 ζ : Type} {J : Jn β ρ ε Z} {G : List LK.Slot} {slk : S' → List LK.Slot} {rest : List Stmt} {pos : Pos}
theorem xb_ifRepl {im : Mo rTx} {x : Str} {g : List Nat} {i n j k : Nat} {q q1 q2 p1 apos pos1 pos2 pos3 cc0 cc1 : Pos} {M : (S' → R ε ρ) → R ε ρ} (c0 c d : Nat) (b : List Nat → β) (z : Z) (hz : Lw G (J.slz z)) (hb : ∀ a, J.rs (b a) = .fz rTx im a) (hi : G[i]? = some (.fz rTx im g)) (hr : XB C J rest G slk M) (hcd2 : c ≠ d := by decide) (hdl : d < 1114112 := by decide)
    (hN : C.X.N[i]? = some x := by rfl) (hv : Vis C.X.env.scope x := by first | exact Or.inl rfl | exact Or.inr (Or.inl rfl) | exact Or.inr (Or.inr rfl)) (hd : (x == ("__debug__" : Str)) = false := by decide) (hcd : (x == ("__classdict__" : Str)) = false := by decide) (hyz : ((⟨#[c]⟩ : Str) == ⟨#[d]⟩) = false := by decide) (hm : behindInMarks .In (.Name x q1) = false := by rfl)
    (hst : starEach [.Constant (.str ⟨#[c]⟩) j cc0, .Constant (.str ⟨#[d]⟩) k cc1] C.X.env = [(false, eval (.Constant (.str ⟨#[c]⟩) j cc0) C.X.env), (false, eval (.Constant (.str ⟨#[d]⟩) k cc1) C.X.env)] := by rfl)
    (hbase : attributeBase (.Name x p1) "replace" C.X.env (eval (.Name x p1) C.X.env) = eval (.Name x p1) C.X.env := by rfl) (hline : (apos.endLine == pos1.line) = true := by rfl) :
    XB C J (.If (.Compare (.Constant (.str ⟨#[c0]⟩) n q) [.In] [.Name x q1] q2) [.Return (some (.Call (.Attribute (.Name x p1) "replace" apos) [.Constant (.str ⟨#[c]⟩) j cc0, .Constant (.str ⟨#[d]⟩) k cc1] [] pos1)) pos2] [] pos3 :: rest) G slk
      (fun k => R.iff (g.length ≤ 1000000) (cond (decide (c0 ∈ g)) (.ok (J.ret (b (replT c d g)) z)) (M k))) := ⟨fun F0 H0 A D an k hk hA σ F H E => by
  refine tS_le (pss_cons (ps_ifRepl hN hv hd hcd hyz hm hst hbase hline) pS) ?_
  obtain ⟨v, hx, hvt⟩ := E.fz_at hi
  have e : v = .str ⟨g.toArray⟩ := hvt.1
  subst e
  have hA : A (R.iff (g.length ≤ 1000000) (cond (decide (c0 ∈ g)) (.ok (J.ret (b (replT c d g)) z)) (M k))) := hA
  unfold R.iff at hA
  by_cases hl : g.length ≤ 1000000
  · rw [if_pos hl] at hA
    refine ⟨_, hx, by rw [tx_len]; show g.length + (g.length + 1) * 1 ≤ 16777216; omega, ?_⟩
    by_cases hc : c0 ∈ g
    · rw [if_pos (by simpa using hc)]
      rw [decide_eq_true hc] at hA
      have hA : A (.ok (J.ret (b (replT c d g)) z)) := hA
      refine an.ret _ z hA σ F H _ ?_
      refine EnvOk.weak (EnvOk.push (s := .fz rTx im (replT c d g)) (v := .str (Txt.replace ⟨g.toArray⟩ ⟨#[c]⟩ ⟨#[d]⟩)) E ⟨_, rfl, ?_⟩ fun _ _ z => nomatch z) ⟨.inr (hb _).symm, hz⟩
      refine ⟨by rw [txt_replace], by unfold replT; rw [List.length_map]; omega, fun n hn => ?_⟩
      unfold replT at hn
      obtain ⟨n0, h0, rfl⟩ := List.mem_map.mp hn
      split
      · exact hdl
      · exact hvt.2.2 n0 h0
    · rw [if_neg (by simpa using hc)]
      rw [decide_eq_false hc] at hA
      exact hr.h F0 H0 A D an k hk hA σ F H E
  · rw [if_neg hl] at hA
    exact (an.no hA).elim⟩
end
end LJ

set_option Elab.async false
set_option linter.all false
set_option maxRecDepth 100000
set_option maxHeartbeats 4000000
set_option autoImplicit false
/-! LM6: comparisons whose left operand changes something. -/
namespace R
variable {ε δ α β : Type}
@[simp] theorem ok_noer (a : α) : (R.ok a : R ε α).noer = (R.ok a : R δ α) := rfl
theorem bind_thn {γ ζ : Type} (x : R ε α) (k : α → R ε β) (g : ε → ζ) (l : β → R ζ γ) : (x.bind k).thn g l = x.thn g fun a => (k a).thn g l := by cases x <;> rfl
theorem thn_thn {γ ζ : Type} (x : R ε α) (g : ε → δ) (k : α → R δ β) (h : δ → ζ) (l : β → R ζ γ) : (x.thn g k).thn h l = x.thn (fun e => h (g e)) fun a => (k a).thn h l := by cases x <;> rfl
end R
namespace LJ
open PySem L2 LK LKX LKB PyProof.Rows PySem.Spec
/-- membership, by the equality that the rules name -/
abbrev memD {α : Type} [DecidableEq α] (x : α) (y : List α) : Bool := decide (x ∈ y)
section
variable {C : Cn} {S ζ : Type} {G : List LK.Slot} {a b : Expr} {pos : Pos} {sl : S → List LK.Slot} {sle : ζ → List LK.Slot} {f : R (Er × ζ) S} {m2 : Md}
theorem xmq_lt {im : Mo rInt} {va : S → Int} {g : S → R Er Int} (zs : S → ζ) (hzs : ∀ s, Lw (sl s) (sle (zs s))) (ha : XM C a G (fun s => .fz rInt im (va s)) sl sle f) (hb : ∀ s, XE C b (sl s) m2 rInt (g s)) :
    XMQ C (.Compare a [.Lt] [b] pos) G (fun s : S × Bool => s.2) (fun s => sl s.1) sle (f.bind fun s => (g s).thn (fun e => (e, zs s)) fun y => (R.ok (decide (va s < y)) : R Er Bool).noer.bind fun c => .ok (s, c)) :=
  xmqc2 (o := fun x y => .ok (decide (x < y))) zs hzs ha hb op_lt fun G ta tb F0 H0 x y h1 h2 => ed_lt h1 h2
theorem xmq_eq {α : Type} {r : Rp α} [DecidableEq α] [Sc r] [im : Mo r] {va : S → α} {g : S → R Er α} (zs : S → ζ) (hzs : ∀ s, Lw (sl s) (sle (zs s))) (ha : XM C a G (fun s => .fz r im (va s)) sl sle f) (hb : ∀ s, XE C b (sl s) m2 r (g s)) :
    XMQ C (.Compare a [.Eq] [b] pos) G (fun s : S × Bool => s.2) (fun s => sl s.1) sle (f.bind fun s => (g s).thn (fun e => (e, zs s)) fun y => (R.ok (decide (va s = y)) : R Er Bool).noer.bind fun c => .ok (s, c)) :=
  xmqc2 (o := fun x y => .ok (decide (x = y))) zs hzs ha hb op_eq fun G ta tb F0 H0 x y h1 h2 => ed_eq h1 h2
theorem xmq_ne {α : Type} {r : Rp α} [DecidableEq α] [Sc r] [im : Mo r] {va : S → α} {g : S → R Er α} (zs : S → ζ) (hzs : ∀ s, Lw (sl s) (sle (zs s))) (ha : XM C a G (fun s => .fz r im (va s)) sl sle f) (hb : ∀ s, XE C b (sl s) m2 r (g s)) :
    XMQ C (.Compare a [.NotEq] [b] pos) G (fun s : S × Bool => s.2) (fun s => sl s.1) sle (f.bind fun s => (g s).thn (fun e => (e, zs s)) fun y => (R.ok (!decide (va s = y)) : R Er Bool).noer.bind fun c => .ok (s, c)) :=
  xmqc2 (o := fun x y => .ok (!decide (x = y))) zs hzs ha hb op_ne fun G ta tb F0 H0 x y h1 h2 => ed_ne h1 h2
theorem xmq_eqD {im : Mo rDt} {va : S → Dt} {g : S → R Er Dt} {k : Nat} (hr : Room k C.X.A) (zs : S → ζ) (hzs : ∀ s, Lw (sl s) (sle (zs s))) (ha : XM C a G (fun s => .fz rDt im (va s)) sl sle f) (hb : ∀ s, XE C b (sl s) m2 rDt (g s)) :
    XMQ C (.Compare a [.Eq] [b] pos) G (fun s : S × Bool => s.2) (fun s => sl s.1) sle (f.bind fun s => (g s).thn (fun e => (e, zs s)) fun y => (eqDR (va s) y).noer.bind fun c => .ok (s, c)) :=
  xmqc2 (o := eqDR) zs hzs ha hb (op_eqD hr.units) fun G ta tb F0 H0 x y h1 h2 => dr_iff fun hc => LK.ed_bin h1 h2 fun v w F H g0 hv hw Q q => ⟨_, _, dt_dp (pk_now g0) x v hv, dt_dp (pk_now g0) y w hw, dt_shaped hv hc.1, dt_shaped hw hc.2, q _ F H (Gr.refl g0.fh) rfl⟩
theorem xmq_neD {im : Mo rDt} {va : S → Dt} {g : S → R Er Dt} {k : Nat} (hr : Room k C.X.A) (zs : S → ζ) (hzs : ∀ s, Lw (sl s) (sle (zs s))) (ha : XM C a G (fun s => .fz rDt im (va s)) sl sle f) (hb : ∀ s, XE C b (sl s) m2 rDt (g s)) :
    XMQ C (.Compare a [.NotEq] [b] pos) G (fun s : S × Bool => s.2) (fun s => sl s.1) sle (f.bind fun s => (g s).thn (fun e => (e, zs s)) fun y => (neDR (va s) y).noer.bind fun c => .ok (s, c)) :=
  xmqc2 (o := neDR) zs hzs ha hb (op_neD hr.units) fun G ta tb F0 H0 x y h1 h2 => dr_iff fun hc => LK.ed_bin h1 h2 fun v w F H g0 hv hw Q q => ⟨_, _, dt_dp (pk_now g0) x v hv, dt_dp (pk_now g0) y w hw, dt_shaped hv hc.1, dt_shaped hw hc.2, q _ F H (Gr.refl g0.fh) rfl⟩
end
section
variable {C : Cn} {β ρ ε Z S' : Type} {J : Jn β ρ ε Z} {G : List LK.Slot} {slk : S' → List LK.Slot}
/-- from now on it stays as it is -/
theorem xb_fzG {δ : Type} {mu : δ → Mu} {r : Rp δ} [fz : Fzz mu r] [im : Mo r] {d : δ} {iM : MoM (mu d)} {M : (S' → R ε ρ) → R ε ρ} {st : List Stmt} (i : Nat) (G' : List LK.Slot) (hi : G[i]? = some (.ow (mu d) iM)) (hG : G.set i (sF r d) = G') (h : XB C J st G' slk M) : XB C J st G slk M := ⟨fun F0 H0 A D an k hk hA σ F H E => by
  subst hG
  obtain ⟨F2, E2, g2, _⟩ := E.freeze (i := i) (s := sF r d) hi (fun p S F' m hp ee _ => ⟨.ref p, rfl, Fzz.fz m hp ee⟩) (fun _ _ z => nomatch z)
  exact h.h F0 H0 A D an k hk hA σ F2 H E2⟩
end
end LJ

set_option Elab.async false
set_option linter.all false
set_option maxRecDepth 100000
set_option maxHeartbeats 4000000
set_option autoImplicit false
/-! LM7: properties; methods without further arguments. -/
namespace LJ
open PySem L2 LK LKX LKB PyProof.Rows PySem.Spec
structure CalP (K : PySem.W.Frag) (C : Addr) (m : Str) (f : Addr) (fd : FuncData) (ps : List Str) : Prop where
  at_ : ∃ p, PropOf K C m p f
  bi : Binds K fd ps []
theorem mB_meth {α : Type} {C : Addr} {f mn : Str} {r : Rp α} {o : Option Addr} {xs : List α} (h : (mn == f) = false) : ∀ (F H : Hp) (p : Addr) (S : List Addr), mB C f r o xs F H p S → ∃ dx fs, H p = some (.ins C dx fs) ∧ fs.lookup mn = none := fun _ _ _ _ ⟨_, dx, q, vs, _, h2, _⟩ => ⟨dx, _, h2, by simp [List.lookup, h]⟩
section
variable {C : Cn} {G : List LK.Slot} {m m1 : Md} {a e : Expr} {es : List Expr} {pos p0 apos : Pos} {x mn : Str}
/-- e.f, a property that raises nothing -/
theorem xprop {α β : Type} {C0 : Addr} {rb : Rp α} [ib : Mo rb] {fn : α × Unit → R Er β} {rs : β → LK.Slot} {f : R Er α} {k n : Nat} {fa : Addr} {fd : FuncData} {ps : List Str} (ha : XE C a G m1 rb f) (hins : ∀ F v y, rb F v y → ∃ p dx fs, v = .ref p ∧ F p = some (.ins C0 dx fs)) (c : Cls C.X.K C0) (I : CalP C.X.K C0 mn fa fd ps)
    (Fo : FnOk C.X.prog C.X.w C.X.K C.X.mg C.X.base (L2.CX C.X.prog C.X.w) k fa fd ps (spR C.T (.cons m1 rb ib .nil) fn rs)) (hr : Room n C.X.A) (hn : ∀ b, Slot.nb (rs b) := by intro; trivial) (hk : k + 1 ≤ n := by decide) (hab : attributeBase a mn C.X.env (eval a C.X.env) = eval a C.X.env := by rfl) :
    XN C (.Attribute a mn pos) G rs (f.bind fun x => (fn (x, ())).noer) := ⟨fun F0 H0 => by
  have ha := ha.h F0 H0
  obtain ⟨p, hp⟩ := I.at_
  refine Ds.le (t := tPropS C0 (spR C.T (.cons m1 rb ib .nil) fn rs) (WE fun _ _ _ _ => False) (tE C.X a)) ?_ fun _ _ _ q => tE_le (pe_propS pE c hp Fo (hr.mono hk) I.bi (fun σ => passAt takes0 σ) hab) q
  cases f with
  | no => trivial
  | er y => exact fun σ F H E w Q => ha σ F H E w _
  | ok x0 =>
    show Ds C F0 H0 _ G rs (fn (x0, ())).noer
    cases hf : fn (x0, ()) with
    | no => trivial
    | er y => trivial
    | ok b0 =>
      intro σ F H E Q q
      refine ha σ F H E _ fun v F1 H1 g1 k1 => ?_
      obtain ⟨p', dx, fs, e1, e2⟩ := hins _ _ _ k1
      subst e1
      refine ⟨p', dx, fs, rfl, pk_now (E.gr.trans g1) _ _ e2, ?_⟩
      refine spR_at (E.gr.trans g1) (Pt.now (Pt.cons m1 rb ib .nil) (E.gr.trans g1) ⟨_, _, rfl, k1, rfl⟩) (by rw [hf]; exact fun z => nomatch z) (fun b hb v F3 H3 E3 => ?_) fun er he => by rw [hf] at he; cases he
      rw [hf] at hb; cases hb
      exact q v F3 H3 (g1.trans E3.gr) (envRebase g1 E3 (hn _))⟩
/-- y.m(), y an own instance -/
theorem xm_meth0 {γ β : Type} {C0 : Addr} {w : Ow γ} {fn : γ → Unit → R (Er × γ) (β × γ)} {sr : β → LK.Slot} {k n i : Nat} {f : Addr} {fd : FuncData} {ps : List Str} {M : Mu} {iM : MoM M} {pl : Sem Bool} (os : List (Option Addr)) (g0 : γ) (G' : γ → List LK.Slot) (c : Cls C.X.K C0) (Cl : CalM C.X.K C0 mn f fd ps) (Fo : FnOk C.X.prog C.X.w C.X.K C.X.mg C.X.base (L2.CX C.X.prog C.X.w) k f fd ps (spU C.T w .nil fn sr)) (hr : Room n C.X.A)
    (hins : ∀ F H p S, M F H p S → ∃ dx fs, H p = some (.ins C0 dx fs) ∧ fs.lookup mn = none) (hi0 : G[i]? = some (.ow M iM))
    (hi : AtAll G [i] (w.sl os g0)) (ha : XU C [] G [] .nil (.ok ())) (hG : ∀ z, setAll G [i] (w.sl os z) = G' z) (h0 : Lw G (G' g0)) (hn : ∀ b, LJ.Slot.nb (sr b) := by intro; trivial) (hk : k ≤ n := by decide)
    (hN : C.X.N[i]? = some x := by rfl) (hv : Vis C.X.env.scope x := by first | exact Or.inl rfl | exact Or.inr (Or.inl rfl) | exact Or.inr (Or.inr rfl)) (hd : (x == ("__debug__" : Str)) = false := by decide) (hcd : (x == ("__classdict__" : Str)) = false := by decide)
    (ht : eval (.Call (.Attribute (.Name x p0) mn apos) [] [] pos) C.X.env = (do
      let ov ← eval (.Name x p0) C.X.env
      standAt apos.atName
      let (f, first) ← holding [ov] (getMethod ov mn pl)
      callWith pos f first (backTo pos (starEach [] C.X.env)) (backToKw pos (keywordEach [] C.X.env))) := by rfl) :
    XM C (.Call (.Attribute (.Name x p0) mn apos) [] [] pos) G (fun s : β × γ => sr s.1) (fun s => G' s.2) G' (fn g0 ()) := ⟨fun F0 H0 => by
  refine Mr.le (t := tMethS C0 mn (spU C.T w .nil fn sr) [] (WE C.W) (tVar i) tNil) ?_ fun _ _ _ q => tE_le (pe_methS0 (pe_var hN hv hd hcd) c Cl.mt Fo (hr.mono hk) Cl.bi .nil (fun σ => passAt C.tk σ) ht) q
  cases hf : fn g0 () with
  | no => trivial
  | er y =>
    intro σ F H E w Q
    obtain ⟨p, S, hx, hS, m⟩ := E.ow_at hi0
    obtain ⟨dx, fs, h1, h2⟩ := hins _ _ _ _ m
    refine ⟨_, hx, p, dx, fs, rfl, h1, h2, ?_⟩
    refine u_call (ps := [p]) (ws := []) (a := ()) E (Gr.refl E.gr.fh) hi (by simp) (by rw [List.map_cons, List.map_cons, hx]; rfl) (fun _ _ _ _ _ => rfl) (by rw [hf]; exact fun z => nomatch z) hn (fun b z h => by rw [hf] at h; cases h) fun er z h cls dd F' H' EE r => ?_
    rw [hf] at h; cases h
    rw [hG] at EE
    exact w F' H' cls dd EE r
  | ok s =>
    intro σ F H E Q q
    obtain ⟨p, S, hx, hS, m⟩ := E.ow_at hi0
    obtain ⟨dx, fs, h1, h2⟩ := hins _ _ _ _ m
    refine ⟨_, hx, p, dx, fs, rfl, h1, h2, ?_⟩
    refine u_call (ps := [p]) (ws := []) (a := ()) E (Gr.refl E.gr.fh) hi (by simp) (by rw [List.map_cons, List.map_cons, hx]; rfl) (fun _ _ _ _ _ => rfl) (by rw [hf]; exact fun z => nomatch z) hn (fun b z h v F' H' ee EE => ?_) fun er z h => by rw [hf] at h; cases h
    rw [hf] at h; cases h
    rw [hG] at EE
    exact q v F' H' ee EE⟩
end
section
variable {C : Cn} {G : List LK.Slot} {m : Md} {b : Expr} {pos p0 : Pos} {x : Str}
/-- an item of an own list stays as it is -/
theorem xixO {α : Type} {mk : List α → Mu} {r : Rp α} [ol : OwnL mk r] [ir : Mo r] [Inhabited α] {xs : List α} {iM : MoM (mk xs)} {g : R Er Int} (i : Nat) (hb : XE C b G m rInt g) (hi : G[i]? = some (.ow (mk xs) iM) := by rfl)
    (hN : C.X.N[i]? = some x := by rfl) (hv : Vis C.X.env.scope x := by first | exact Or.inl rfl | exact Or.inr (Or.inl rfl) | exact Or.inr (Or.inr rfl)) (hd : (x == ("__debug__" : Str)) = false := by decide) (hcd : (x == ("__classdict__" : Str)) = false := by decide) (hp : PlainIx b := by exact fun _ _ => rfl) :
    XE C (.Subscript (.Name x p0) b pos) G .sh r (g.bind fun y => ixR xs y) := ⟨fun F0 H0 => by
  have hb := hb.h F0 H0
  refine Dr.le (t := tOp (rIxL C.X.K) (tVar i) (tE C.X b)) ?_ fun _ _ _ q => tE_le (pe_ix ix_list (pe_var hN hv hd hcd) pE hp) q
  cases g with
  | no => trivial
  | er y =>
    intro σ F H E w Q
    obtain ⟨p, vs, hx, _⟩ := E.lstO hi
    exact ⟨_, hx, hb σ F H E w _⟩
  | ok j =>
    refine dr_iff fun hj => ?_
    intro σ F H E Q q
    obtain ⟨p, vs, hx, h1, h2, h3, h4, h5⟩ := E.lstO hi
    refine ⟨_, hx, hb σ F H E _ fun w F1 H1 g1 hw => ?_⟩
    obtain ⟨v, e, rx⟩ := pat h5 (atI_ok hj)
    exact ⟨p, vs, j, v, rfl, hw, SqL.of (g1.hh _ _ h3), e, q v F1 H1 g1 (mox g1.ff rx)⟩⟩
end
end LJ

set_option Elab.async false
set_option linter.all false
set_option maxRecDepth 100000
set_option maxHeartbeats 4000000
set_option autoImplicit false
/-! LN1: data in order; a dict display of one pair; isinstance. -/
namespace LK
open PySem L2 PyProof.Rows PySem.W
/-- data that are compared by < -/
class Lo {α : Type} (r : Rp α) [A : Da r] where
  lt : α → α → Bool
  alike : ∀ a b, PySem.W.alike (A.d a) (A.d b) = true
  nn : ∀ a, A.d a ≠ .none
  lt_eq : ∀ a b, dataLt (A.d a) (A.d b) = lt a b
instance : Lo rInt where
  lt a b := decide (a < b)
  alike a b := by show PySem.W.alike (.int a) (.int b) = true; simp only [PySem.W.alike]
  nn a := fun e => by cases e
  lt_eq a b := dataLt_int a b
instance : Lo rTx where
  lt a b := decide (a < b)
  alike a b := by show PySem.W.alike (.str _) (.str _) = true; simp only [PySem.W.alike]
  nn a := fun e => by cases e
  lt_eq a b := dataLt_str _ _
section
variable {α β : Type} [DecidableEq α] [DecidableEq β] {r : Rp α} {s : Rp β} [A : Da r] [B : Da s] [L : Lo r] [M : Lo s]
/-- the first difference decides, else the shorter is the less -/
def lsLt {α : Type} [DecidableEq α] (lt : α → α → Bool) : List α → List α → Bool
  | [], [] => false
  | [], _ :: _ => true
  | _ :: _, [] => false
  | x :: xs, y :: ys => if x = y then lsLt lt xs ys else lt x y
theorem alikeAll_lo : ∀ xs ys : List α, alikeAll (xs.map A.d) (ys.map A.d) = true
  | [], _ => by rw [List.map_nil, alikeAll]
  | _ :: _, [] => by rw [List.map_nil, List.map_cons, alikeAll]
  | x :: xs, y :: ys => by
    rw [List.map_cons, List.map_cons, alikeAll, L.alike x y, alikeAll_lo xs ys]
    rfl
theorem lexAll_lo : ∀ xs ys : List α, PyProof.Rows.lexLt itemOrd (keyToksAll (xs.map A.d)) (keyToksAll (ys.map A.d)) = lsLt L.lt xs ys
  | [], [] => lex_irrefl _
  | [], y :: ys => by
    rw [List.map_nil, List.map_cons, toks_all_cons]
    simp only [keyToksAll]
    rw [lex_diff (O := itemOrd) (by simp)]
    rfl
  | x :: xs, [] => by
    rw [List.map_nil, List.map_cons, toks_all_cons]
    simp only [keyToksAll]
    rw [lex_diff (O := itemOrd) (by simp)]
    rfl
  | x :: xs, y :: ys => by
    rw [List.map_cons, List.map_cons, lsLt]
    by_cases h : x = y
    · rw [if_pos h, dataLt_all_yes (L.alike x y) ((A.eqv x y).mpr h), lexAll_lo xs ys]
    · rw [if_neg h, dataLt_all_no (L.alike x y) (by rw [← Bool.not_eq_true, A.eqv]; exact h)]
      exact L.lt_eq x y
instance : Lo (rLst r) where
  lt := lsLt L.lt
  alike xs ys := by show PySem.W.alike (.list _) (.list _) = true; simp only [PySem.W.alike]; exact alikeAll_lo xs ys
  nn a := fun e => by cases e
  lt_eq xs ys := (dataLt_list _ _).trans (lexAll_lo xs ys)
instance : Lo (rTup r) where
  lt := lsLt L.lt
  alike xs ys := by show PySem.W.alike (.tuple _) (.tuple _) = true; simp only [PySem.W.alike]; exact alikeAll_lo xs ys
  nn a := fun e => by cases e
  lt_eq xs ys := (dataLt_tuple _ _).trans (lexAll_lo xs ys)
def prLt (lt : α → α → Bool) (lt' : β → β → Bool) (p q : α × β) : Bool := if p.1 = q.1 then lt' p.2 q.2 else lt p.1 q.1
instance : Lo (rPr r s) where
  lt := prLt L.lt M.lt
  alike p q := by
    show PySem.W.alike (.tuple [_, _]) (.tuple [_, _]) = true
    simp only [PySem.W.alike, alikeAll, L.alike, M.alike, Bool.and_self]
  nn a := fun e => by cases e
  lt_eq p q := by
    refine (dataLt_tuple _ _).trans ?_
    unfold prLt
    by_cases h : p.1 = q.1
    · rw [if_pos h, dataLt_all_yes (L.alike p.1 q.1) ((A.eqv _ _).mpr h)]
      by_cases h2 : p.2 = q.2
      · rw [dataLt_all_yes (M.alike p.2 q.2) ((B.eqv _ _).mpr h2), lex_irrefl, h2]
        exact ((dataLt_self _).symm.trans (M.lt_eq q.2 q.2))
      · rw [dataLt_all_no (M.alike p.2 q.2) (by rw [← Bool.not_eq_true, B.eqv]; exact h2)]
        exact M.lt_eq p.2 q.2
    · rw [if_neg h, dataLt_all_no (L.alike p.1 q.1) (by rw [← Bool.not_eq_true, A.eqv]; exact h)]
      exact L.lt_eq p.1 q.1
end
def rLtD (K : PySem.W.Frag) : R2 := fun x y H Q => ∃ d e, Dp K H x d ∧ Dp K H y e ∧ PySem.W.alike d e = true ∧ d ≠ .none ∧ d.depth ≤ 64 ∧ Q (.bl (dataLt d e)) H
theorem op_ltD {X : Cx} (hu : X.A.units + 64 < cLine) : OpR X (compareOp .Lt) (rLtD X.K) := by
  intro pins s σ H x y v u Q I rx ry h
  obtain ⟨d, e, hd, he, al, nn, dp, q⟩ := h
  obtain ⟨as, r1⟩ := Dp.reads I d x v hd rx
  obtain ⟨bs, r2⟩ := Dp.reads I e y u he ry
  exact lt_data r1 r2 al nn (by omega) ⟨.bl _, H, I, rfl, q⟩
end LK
namespace LJ
open PySem L2 LK LKX LKB PyProof.Rows PySem.Spec
abbrev ltD {α : Type} (r : Rp α) [Da r] [L : Lo r] (x y : α) : Bool := L.lt x y
section
variable {C : Cn} {G : List LK.Slot} {m m1 m2 : Md} {a b e : Expr} {pos p p2 : Pos} {y : Str}
/-- a < b of lists, tuples, pairs -/
theorem xltD {α : Type} {r : Rp α} [DecidableEq α] [Mo r] [A : Da r] [L : Lo r] {f g : R Er α} {k : Nat} (hr : Room k C.X.A) (ha : XE C a G m1 r f) (hb : XE C b G m2 r g) (hd : A.dep ≤ 64 := by decide) : XC C .Lt a b G (f.bind fun x => g.bind fun y => .ok (ltD r x y)) :=
  xc2 (o := fun x y => .ok (ltD r x y)) ha hb (op_ltD hr.units) fun F0 H0 x y h1 h2 => by
    have h : Ed F0 H0 (tOp (rLtD C.X.K) (tE C.X a) (tE C.X b)) G .sh rBl (PySem.W.dataLt (A.d x) (A.d y)) := LK.ed_bin h1 h2 fun v w F H g0 hv hw Q q => ⟨_, _, A.dp hv (pk_now g0), A.dp hw (pk_now g0), L.alike x y, L.nn x, Nat.le_trans (A.dep_le x) hd, q _ F H (Gr.refl g0.fh) rfl⟩
    rw [L.lt_eq] at h
    exact h
/-- {k: v} -/
theorem xdisp1 {κ β : Type} [DecidableEq κ] {rk : Rp κ} [ke : Ke rk] [mk : Mo rk] [fk : Fl rk] {rv : Rp β} [mv : Mo rv] {f : R Er κ} {g : R Er β} (ha : XE C a G m1 rk f) (hb : XE C b G .sh rv g) : XN C (.Dict [some a] [b] pos) G (fun d => sD rk rv d) (f.bind fun k => g.bind fun v => .ok [(k, v)]) := ⟨fun F0 H0 => by
  have ha := ha.h F0 H0; have hb := hb.h F0 H0
  refine Ds.le (t := tDisp [(tE C.X a, tE C.X b)]) ?_ fun _ _ _ q => tE_le (pe_disp (pps_cons pE pE pps_nil) rfl rfl (by simp) (by simp)) q
  cases f with
  | no => trivial
  | er y => exact fun σ F H E w Q p hp => ha σ F _ (E.gro (Gr.wild E.gr.fh hp)) (fun F' H' cls d g z => w F' H' cls d ((Gr.wild E.gr.fh hp).trans g) z) _
  | ok k =>
    cases g with
    | no => trivial
    | er y =>
      intro σ F H E w Q p hp
      have g0 : Gr F H F (upd H p (.dK [])) := Gr.wild E.gr.fh hp
      exact ha σ F _ (E.gro g0) _ fun v F1 H1 g1 _ => hb σ F1 H1 ((E.gro g0).gro g1) (fun F' H' cls d g z => w F' H' cls d ((g0.trans g1).trans g) z) _
    | ok v =>
      refine dv_end fun σ F H E Q q p hp => ?_
      have g0 : Gr F H F (upd H p (.dK [])) := Gr.wild E.gr.fh hp
      refine ha σ F _ (E.gro g0) _ fun x F1 H1 g1 hx => hb σ F1 H1 ((E.gro g0).gro g1) _ fun y F2 H2 g2 hy => ?_
      have hF : F p = none := E.gr.fh.back hp
      have h1 : H1 p = some (.dK []) := g1.hh _ _ upd_same
      have h2 : H2 p = some (.dK []) := g2.hh _ _ h1
      have n1 : F1 p = none := by
        cases w : F1 p with
        | none => rfl
        | some u => exact absurd (g1.nw p u w hF) (by rw [upd_same]; exact fun z => nomatch z)
      have n2 : F2 p = none := by
        cases w : F2 p with
        | none => rfl
        | some u => exact absurd (g2.nw p u w n1) (by rw [h1]; exact fun z => nomatch z)
      have hk : rk F2 x k := Fl.fl hx
      refine ⟨h2, [(Ke.key rk k, y)], ?_, by simp, ?_⟩
      · rw [List.map_cons, List.map_nil, ← ke.of hk]
      · refine q p [(Ke.key rk k, y)] F2 _ ⟨g1.ff.trans g2.ff, fun a o h => ?_, fun a o h => ?_, fun a o h1' h2' => ?_⟩ hp n2 (by rw [upd_same]; rfl) (.cons ⟨rfl, ?_, hy⟩ .nil)
        · have ha : a ≠ p := fun z => by rw [z, n2] at h; cases h
          rw [upd_ne ha]; exact g2.fh a o h
        · have ha : a ≠ p := fun z => by rw [z, hp] at h; cases h
          rw [upd_ne ha]
          exact g2.hh _ _ (g1.hh _ _ (by rw [upd_ne ha]; exact h))
        · cases q1 : F1 a with
          | none =>
            have z := g2.nw a o h1' q1
            cases q0 : H a with
            | none => rfl
            | some u =>
              have hap : a ≠ p := fun z => by rw [z, hp] at q0; cases q0
              have := g1.hh a u (by rw [upd_ne hap]; exact q0)
              rw [z] at this; cases this
          | some u =>
            have z := g1.nw a u q1 h2'
            by_cases hap : a = p
            · rw [hap]; exact hp
            · rw [upd_ne hap] at z; exact z
        · rw [← ke.of hk]; exact hk⟩
/-- isinstance(e, T), e of this type -/
theorem xisi {α : Type} {r : Rp α} [Tod r] {f : R Er α} {T : String} (ha : XE C a G m1 r f) (gD : C.X.mg y = none) (hb : C.X.mg "isinstance" = none) (ht : ∀ a, (Tod.d r a).ty = T) (hk : PySem.W.kitOne C.X.K (.type T) (.type T) = some true := by rfl) (hbt : bootBuiltins y = some (.type T) := by rfl)
    (hg : Gl C.X y := by rfl) (hdy : (y == ("__debug__" : Str)) = false := by decide) (hny : y ≠ "__name__" := by decide) (hgi : Gl C.X "isinstance" := by rfl) (h1 : starEach [a, .Name y p2] C.X.env = (false, eval a C.X.env) :: starEach [.Name y p2] C.X.env := by exact star_cons rfl) (h2 : starEach [.Name y p2] C.X.env = (false, eval (.Name y p2) C.X.env) :: starEach [] C.X.env := by exact star_cons rfl) (hpl : (backTo pos (starEach [.Name y p2] C.X.env)).any (·.1) = false := by rfl) :
    XE C (.Call (.Name "isinstance" p) [a, .Name y p2] [] pos) G .sh rBl (f.bind fun _ => .ok true) := ⟨fun F0 H0 => by
  have ha := ha.h F0 H0
  refine Dr.le (t := tCB (rIsi C.X.K) (tCons (tE C.X a) (tCons (tC (.ty T)) tNil))) ?_ fun _ _ _ q => tE_le (pe_callB call_isi hgi hb boot_isinstance (pa_cons pE (pa_cons (pe_bltn (v := .ty T) hg gD hbt rfl hny hdy) pa_nil h2) h1) (by decide) (by decide) h1 hpl) q
  cases f with
  | no => trivial
  | er y => exact fun σ F H E w Q => ha σ F H E w _
  | ok x => exact fun σ F H E Q q => ha σ F H E _ fun v F1 H1 g1 hv => ⟨v, .ty T, .type T, .type T, true, rfl, .ty T, by rw [← ht x]; exact dt_ty (Tod.to hv) (pk_now (E.gr.trans g1)), hk, q _ F1 H1 g1 rfl⟩⟩
end
end LJ

set_option Elab.async false
set_option linter.all false
set_option maxRecDepth 100000
set_option maxHeartbeats 4000000
set_option autoImplicit false
/-! LO1: an own list of own things: made by a comprehension, read. -/
namespace LK
open PySem L2 PyProof.Rows
/-- the list at p, its items at ps, their own addresses by place -/
structure LsAt {α : Type} (me : α → Mu) (xs : List α) (F H : Hp) (p : Addr) (ps : List Addr) (Sf : Nat → List Addr) : Prop where
  len : ps.length = xs.length
  sz : xs.length ≤ 16777216
  lst : H p = some (.lst (ps.map V.ref))
  el : ∀ i x q, xs[i]? = some x → ps[i]? = some q → me x F H q (Sf i)
  dj : ∀ i j a, i ≠ j → i < xs.length → j < xs.length → a ∈ Sf i → a ∉ Sf j
  out : ∀ i, i < xs.length → p ∉ Sf i
def lsFp (p : Addr) (n : Nat) (Sf : Nat → List Addr) : List Addr := p :: ((List.range n).map Sf).flatten
theorem mem_lsFp {p a : Addr} {n : Nat} {Sf : Nat → List Addr} : a ∈ lsFp p n Sf ↔ a = p ∨ ∃ i, i < n ∧ a ∈ Sf i := by
  unfold lsFp
  rw [List.mem_cons, List.mem_flatten]
  constructor
  · rintro (h | ⟨l, hl, ha⟩)
    · exact .inl h
    · obtain ⟨i, hi, rfl⟩ := List.mem_map.mp hl
      exact .inr ⟨i, List.mem_range.mp hi, ha⟩
  · rintro (h | ⟨i, hi, ha⟩)
    · exact .inl h
    · exact .inr ⟨_, List.mem_map.mpr ⟨i, List.mem_range.mpr hi, rfl⟩, ha⟩
def mLs {α : Type} (me : α → Mu) (xs : List α) : Mu := fun F H p S => ∃ ps Sf, LsAt me xs F H p ps Sf ∧ ∀ a, a ∈ S ↔ a = p ∨ ∃ i, i < xs.length ∧ a ∈ Sf i
theorem LsAt.get {α : Type} {me : α → Mu} {xs : List α} {F H : Hp} {p : Addr} {ps : List Addr} {Sf : Nat → List Addr} (h : LsAt me xs F H p ps Sf) {i : Nat} (hi : i < xs.length) : ∃ q, ps[i]? = some q ∧ me xs[i] F H q (Sf i) := by
  have hq : ps[i]? = some (ps[i]'(by rw [h.len]; exact hi)) := List.getElem?_eq_getElem _
  exact ⟨_, hq, h.el i _ _ (List.getElem?_eq_getElem hi) hq⟩
theorem LsAt.mo {α : Type} {me : α → Mu} [im : ∀ x, MoM (me x)] {xs : List α} {F F' H H' : Hp} {p : Addr} {ps : List Addr} {Sf : Nat → List Addr} (h : LsAt me xs F H p ps Sf) (e : Exs F F') (k0 : H' p = H p) (k : ∀ i, i < xs.length → ∀ a ∈ Sf i, H' a = H a) : LsAt me xs F' H' p ps Sf :=
  ⟨h.len, h.sz, by rw [k0]; exact h.lst, fun i x q hx hq => (im x).mo e (k i (List.getElem?_eq_some_iff.mp hx).1) (h.el i x q hx hq), h.dj, h.out⟩
instance {α : Type} (me : α → Mu) [im : ∀ x, MoM (me x)] (xs : List α) : MoM (mLs me xs) := ⟨fun {F F' H H' p S} e k ⟨ps, Sf, h, hS⟩ => ⟨ps, Sf, h.mo e (k p ((hS p).mpr (.inl rfl))) (fun i hi a ha => k a ((hS a).mpr (.inr ⟨i, hi, ha⟩))), hS⟩, fun {F H p S} ⟨ps, Sf, h, hS⟩ a ha => by
  rcases (hS a).mp ha with e | ⟨i, hi, ha⟩
  · rw [e, h.lst]; exact fun z => nomatch z
  · obtain ⟨q, _, m⟩ := h.get hi
    exact (im _).own m a ha⟩
instance {α : Type} (me : α → Mu) (r : Rp α) [fz : LJ.Fzz me r] [mr : Mo r] : LJ.Fzz (mLs me) (rLst r) := ⟨fun {F F' H p S xs} ⟨ps, Sf, h, hS⟩ hp ee => by
  refine ⟨p, ps.map V.ref, rfl, by rw [hp p ((hS p).mpr (.inl rfl))]; exact h.lst, h.sz, ?_⟩
  have go : ∀ (ys : List α) (qs : List Addr) (n : Nat), qs.length = ys.length → (∀ i y, ys[i]? = some y → xs[n + i]? = some y) → (∀ i q, qs[i]? = some q → ps[n + i]? = some q) → Paired (r F') (qs.map V.ref) ys := by
    intro ys
    induction ys with
    | nil =>
      intro qs n hl _ _
      cases qs with
      | nil => exact .nil
      | cons => simp at hl
    | cons y ys ih =>
      intro qs n hl hy hq
      cases qs with
      | nil => simp at hl
      | cons q qs =>
        have hx := hy 0 y rfl
        have hlt := (List.getElem?_eq_some_iff.mp hx).1
        refine .cons (fz.fz (h.el _ y q hx (hq 0 q rfl)) (fun a ha => hp a ((hS a).mpr (.inr ⟨_, hlt, ha⟩))) ee) (ih qs (n + 1) (by simpa using hl) (fun i z hz => ?_) fun i z hz => ?_)
        · rw [show n + 1 + i = n + (i + 1) by omega]; exact hy (i + 1) z (by simpa using hz)
        · rw [show n + 1 + i = n + (i + 1) by omega]; exact hq (i + 1) z (by simpa using hz)
  exact go xs ps 0 h.len (fun i y hy => by rw [Nat.zero_add]; exact hy) (fun i q hq => by rw [Nat.zero_add]; exact hq)⟩
/-- one more item behind the others -/
theorem LsAt.snoc {α : Type} {me : α → Mu} [im : ∀ x, MoM (me x)] {xs : List α} {F F' H H' : Hp} {p : Addr} {ps : List Addr} {Sf : Nat → List Addr} (h : LsAt me xs F H p ps Sf) (e : Exs F F') (k : ∀ i, i < xs.length → ∀ a ∈ Sf i, H' a = H a) {y : α} {q : Addr} {S : List Addr} (m : me y F' H' q S) (hS : ∀ i, i < xs.length → ∀ a ∈ Sf i, a ∉ S) (hp : p ∉ S) (hl : xs.length < 16777216) (hH : H' p = some (.lst ((ps ++ [q]).map V.ref))) :
    LsAt me (xs ++ [y]) F' H' p (ps ++ [q]) (fun i => if i < xs.length then Sf i else S) := by
  refine ⟨by rw [List.length_append, List.length_append, h.len]; rfl, by rw [List.length_append, List.length_singleton]; omega, hH, fun i x z hx hz => ?_, fun i j a hij hi hj ha => ?_, fun i hi => ?_⟩
  · by_cases hil : i < xs.length
    · rw [if_pos hil]
      rw [List.getElem?_append_left hil] at hx
      rw [List.getElem?_append_left (by rw [h.len]; exact hil)] at hz
      exact (im x).mo e (k i hil) (h.el i x z hx hz)
    · rw [if_neg hil]
      have hie : i = xs.length := by
        have := (List.getElem?_eq_some_iff.mp hx).1
        rw [List.length_append, List.length_singleton] at this
        omega
      subst hie
      rw [List.getElem?_append_right (Nat.le_refl _), Nat.sub_self] at hx
      rw [← h.len, List.getElem?_append_right (Nat.le_refl _), Nat.sub_self] at hz
      cases hx
      cases hz
      exact m
  · rw [List.length_append, List.length_singleton] at hi hj
    by_cases hil : i < xs.length <;> by_cases hjl : j < xs.length
    · rw [if_pos hil] at ha
      rw [if_pos hjl]
      exact h.dj i j a hij hil hjl ha
    · rw [if_pos hil] at ha
      rw [if_neg hjl]
      exact hS i hil a ha
    · rw [if_neg hil] at ha
      rw [if_pos hjl]
      exact fun z => hS j hjl a z ha
    · exact absurd (show i = j by omega) hij
  · by_cases hil : i < xs.length
    · rw [if_pos hil]; exact h.out i hil
    · rw [if_neg hil]; exact hp
section
variable {F0 H0 : Hp} {G : List Slot} {wi : TI} {g : TG} {tt : TT} {te : TE} {m : Md}
/-- a new own list of own things -/
def EnO {α : Type} (F0 H0 : Hp) (t : TE) (G : List Slot) (me : α → Mu) (xs : List α) : Prop := ∀ σ F H, EnvOk F0 H0 G σ F H → ∀ Q : VK, (∀ p ps Sf F' H', Gr F H F' H' → H p = none → F' p = none → (∀ i, i < xs.length → ∀ a ∈ Sf i, H a = none ∧ F' a = none) → LsAt me xs F' H' p ps Sf → Q (.ref p) H') → t σ H Q
theorem en_lcO {α β : Type} {r : Rp α} {me : β → Mu} [im : ∀ x, MoM (me x)] {xs : List α} {up : α → List Slot → List Slot} {tg vs : List Nat} (p : α → Bool) (f : α → β) (hi : Ei F0 H0 wi G m r xs) (hg : Eg H0 g m r up tg) (hv : ∀ j ∈ tg, j ∈ vs)
    (ht : ∀ F1, Bs F0 H0 F1 → ∀ x ∈ xs, Et F1 H0 tt (up x (wipeG G vs)) (p x)) (he : ∀ F1, Bs F0 H0 F1 → ∀ x ∈ xs, p x = true → LJ.Dv F1 H0 te (up x (wipeG G vs)) (.ow (me (f x)) (im _))) :
    EnO F0 H0 (tLc wi g tt te vs) G me ((xs.filter p).map f) := fun σ F H E Q q => hi σ F H E _ fun J F1 H1 g1 w hxl D hD => by
  have E1 := (E.gro g1).here
  have b1 : Bs F0 H0 F1 := (E.gr.trans g1).bs
  have nF1 : F1 D = none := g1.fh.back hD
  -- the state behind i turns; D stands aside
  let Pv : Nat → Hp → Prop := fun i H' => ∃ F' Hm ps Sf, EnvOk F1 H0 (wipeG G vs) (wipe σ vs) F' Hm ∧ Gr F1 H1 F' Hm ∧ Hm D = none ∧ H' = upd Hm D (.lst (ps.map V.ref)) ∧ (∀ j, j < (((xs.take i).filter p).map f).length → ∀ a ∈ Sf j, H1 a = none ∧ F' a = none) ∧ LsAt me (((xs.take i).filter p).map f) F' H' D ps Sf
  have take_s : ∀ i x, xs[i]? = some x → xs.take (i + 1) = xs.take i ++ [x] := fun i x hx => by
    rw [List.take_add_one, hx]; rfl
  refine ⟨fun i k H' => k = xs.length - i ∧ i ≤ xs.length ∧ Pv i H', ⟨xs.length, by simp, Nat.zero_le _, F1, H1, [], fun _ => [], E1.wipeA vs, Gr.refl g1.fh, hD, rfl, fun j hj => by simp at hj, ⟨by simp, by simp, upd_same, fun i x q hx => by simp at hx, fun i j a _ hi => by simp at hi, fun i hi => by simp at hi⟩⟩, ?_⟩
  rintro i k H' ⟨rfl, hi', F', Hm, ps, Sf, E2, g2, nD, rfl, nw2, ls⟩
  have gw := Gr.wild (p := D) (o := .lst (ps.map V.ref)) g2.fh nD
  have E3 := E2.gro gw
  have nF' : F' D = none := g2.fh.back nD
  have eH0 : Ex H0 (upd Hm D (.lst (ps.map V.ref))) := E3.gr.hh
  by_cases hlt : i < xs.length
  · refine .inr ⟨w.go i F' _ g2.ff E3.gr.fh eH0 hlt, Pv (i + 1), fun H'' p' => ⟨xs.length - (i + 1), by omega, rfl, hlt, p'⟩, fun v H'' y => ?_⟩
    obtain ⟨x, F3, hx, g3, rx⟩ := w.yld i F' _ v H'' g2.ff E3.gr.fh eH0 hlt y
    have hmem : x ∈ xs := List.mem_of_getElem? hx
    refine hg F1 _ _ F3 H'' v x (E3.gro g3) rx _ fun σ2 E4 hw2 => ⟨?_, ?_⟩
    · rw [hw2 vs hv, wipe_wipe fun _ z => z]
    refine ht F1 b1 x hmem σ2 F3 H'' E4 _ fun F4 H4 g4 => ?_
    -- what stands but for the new list
    have slim : ∀ {Fx Hx : Hp}, Gr F' (upd Hm D (.lst (ps.map V.ref))) Fx Hx → EnvOk F1 H0 (wipeG G vs) (wipe σ vs) Fx (fun a => if a = D then none else Hx a) ∧ Gr F1 H1 Fx (fun a => if a = D then none else Hx a) ∧ Fx D = none := fun {Fx Hx} gx => by
      have nx : Fx D = none := by
        cases e : Fx D with
        | none => rfl
        | some o => have z := gx.nw D o e nF'; rw [upd_same] at z; cases z
      have gs : Gr F' Hm Fx (fun a => if a = D then none else Hx a) := ⟨gx.ff, fun a o e => by
          have ha : a ≠ D := fun z => by rw [z, nx] at e; cases e
          show (if a = D then none else Hx a) = some o
          rw [if_neg ha]; exact gx.fh a o e, fun a o e => by
          have ha : a ≠ D := fun z => by rw [z, nD] at e; cases e
          show (if a = D then none else Hx a) = some o
          rw [if_neg ha]; exact gx.hh a o (by rw [upd_ne ha]; exact e), fun a o e n => by
          have ha : a ≠ D := fun z => by rw [z, nx] at e; cases e
          have z := gx.nw a o e n
          rw [upd_ne ha] at z; exact z⟩
      exact ⟨E2.gro gs, g2.trans gs, nx⟩
    have back : ∀ {Hx : Hp} {o : HO}, Hx D = some o → Hx = upd (fun a => if a = D then none else Hx a) D o := fun {Hx o} e => by
      funext a
      unfold upd
      by_cases ha : a = D
      · rw [if_pos ha, ha]; exact e
      · rw [if_neg ha]
        show Hx a = if a = D then none else Hx a
        rw [if_neg ha]
    -- the items made before stand
    have stay : ∀ {Fx Hx : Hp}, Gr F' (upd Hm D (.lst (ps.map V.ref))) Fx Hx → ∀ j, j < (((xs.take i).filter p).map f).length → ∀ a ∈ Sf j, Hx a = upd Hm D (.lst (ps.map V.ref)) a ∧ Fx a = none ∧ a ≠ D := fun {Fx Hx} gx j hj a ha => by
      obtain ⟨q', _, mm⟩ := ls.get hj
      have hn := (im _).own mm a ha
      have haD : a ≠ D := fun z => ls.out j hj (z ▸ ha)
      refine ⟨?_, ?_, haD⟩
      · cases h : upd Hm D (.lst (ps.map V.ref)) a with
        | none => exact absurd h hn
        | some o => exact gx.hh a o h
      · cases h : Fx a with
        | none => rfl
        | some o => exact absurd (gx.nw a o h (nw2 j hj a ha).2) hn
    have gx := g3.trans g4
    have hD4 : H4 D = some (.lst (ps.map V.ref)) := gx.hh D _ upd_same
    cases hp : p x with
    | false =>
      obtain ⟨z1, z2, z3⟩ := slim gx
      have et : ((xs.take (i + 1)).filter p).map f = ((xs.take i).filter p).map f := by
        rw [take_s i x hx, List.filter_append, List.filter_cons, if_neg (by rw [hp]; decide)]; simp
      refine ⟨F4, _, ps, Sf, z1, z2, by simp, back hD4, fun j hj a ha => ?_, ?_⟩
      · rw [et] at hj
        exact ⟨(nw2 j hj a ha).1, (stay gx j hj a ha).2.1⟩
      · rw [et]
        exact ls.mo gx.ff.s (by rw [hD4, upd_same]) fun j hj a ha => (stay gx j hj a ha).1
    | true =>
      refine he F1 b1 x hmem hp σ2 F4 H4 (E4.gro g4) _ fun y5 F5 H5 g5 E5 => ?_
      have gy := gx.trans g5
      obtain ⟨z1, z2, z3⟩ := slim gy
      have hD5 : H5 D = some (.lst (ps.map V.ref)) := gy.hh D _ upd_same
      obtain ⟨q5, S5, hq5, hS5, m5⟩ := E5.ow_at (i := 0) rfl
      cases Option.some.inj (Option.some.inj hq5)
      have hll : (((xs.take i).filter p).map f).length < 16777216 := by
        rw [List.length_map]
        have := List.length_filter_le p (xs.take i)
        rw [List.length_take] at this
        omega
      have et : ((xs.take (i + 1)).filter p).map f = ((xs.take i).filter p).map f ++ [f x] := by
        rw [take_s i x hx, List.filter_append, List.filter_cons, if_pos hp, List.map_append]; rfl
      have nDS : D ∉ S5 := fun z => by have := (hS5 D z).2; rw [hD4] at this; cases this
      have djS : ∀ j, j < (((xs.take i).filter p).map f).length → ∀ a ∈ Sf j, a ∉ S5 := fun j hj a ha z => by
        obtain ⟨e1, _, haD⟩ := stay gx j hj a ha
        obtain ⟨q', _, mm⟩ := ls.get hj
        have := (hS5 a z).2
        rw [e1] at this
        exact (im _).own mm a ha this
      refine ⟨ps.map V.ref, hD5, sz_lt (by rw [List.length_map, ls.len]; exact hll), F5, _, ps ++ [q5], (fun j => if j < (((xs.take i).filter p).map f).length then Sf j else S5), z1, z2, by simp, ?_, fun j hj a ha => ?_, ?_⟩
      · funext a
        unfold upd
        by_cases ha : a = D
        · rw [if_pos ha, if_pos ha, List.map_append]; rfl
        · rw [if_neg ha, if_neg ha]
          show H5 a = if a = D then none else H5 a
          rw [if_neg ha]
      · have ha : a ∈ (if j < (((xs.take i).filter p).map f).length then Sf j else S5) := ha
        by_cases hjl : j < (((xs.take i).filter p).map f).length
        · rw [if_pos hjl] at ha
          exact ⟨(nw2 j hjl a ha).1, (stay gy j hjl a ha).2.1⟩
        · rw [if_neg hjl] at ha
          refine ⟨?_, (hS5 a ha).1⟩
          have h4 := (hS5 a ha).2
          have h3 : upd Hm D (.lst (ps.map V.ref)) a = none := gx.hh.back h4
          have haD : a ≠ D := fun z => nDS (z ▸ ha)
          rw [upd_ne haD] at h3
          exact g2.hh.back h3
      · rw [et]
        refine ls.snoc gy.ff.s (fun j hj a ha => ?_) ((im _).mo (Ex.refl F5).s (fun a ha => ?_) m5) djS nDS hll ?_
        · obtain ⟨e1, _, haD⟩ := stay gy j hj a ha
          rw [upd_ne haD, e1]
        · have haD : a ≠ D := fun z => nDS (z ▸ ha)
          rw [upd_ne haD]
        · rw [upd_same, List.map_append]; rfl
  · have e : i = xs.length := by omega
    subst e
    rw [List.take_length] at ls nw2
    exact .inl ⟨w.stop F' _ g2.ff E3.gr.fh eH0, q D ps Sf F' _ (g1.trans (g2.trans gw)) (g1.hh.back hD) nF' (fun j hj a ha => ⟨g1.hh.back (nw2 j hj a ha).1, (nw2 j hj a ha).2⟩) ls⟩
end
end LK
namespace LJ
open PySem L2 LK LKX LKB PyProof.Rows PySem.Spec
theorem dv_enO {α : Type} {me : α → Mu} [im : ∀ x, MoM (me x)] {xs : List α} {F0 H0 : Hp} {t : TE} {G : List LK.Slot} (h : EnO F0 H0 t G me xs) : Dv F0 H0 t G (.ow (mLs me xs) inferInstance) := fun σ F H E Q q => h σ F H E Q fun p ps Sf F' H' g h1 h2 h3 h4 =>
  q _ F' H' g (env1o (S := lsFp p xs.length Sf) E.gr.fh g (fun a ha => by
    rcases mem_lsFp.mp ha with e | ⟨i, hi, ha⟩
    · rw [e]; exact ⟨h1, h2⟩
    · exact h3 i hi a ha) ⟨ps, Sf, h4, fun a => mem_lsFp⟩)
theorem ds_noer {α : Type} {sb : α → LK.Slot} {F0 H0 : Hp} {G : List LK.Slot} {f : R Er α} {a : α} {X : Cx} {T : XT} {tk nd} {e : Expr} (h : Ds ⟨X, T, fun _ _ _ _ => False, tk, nd⟩ F0 H0 (tE X e) G sb f) (hf : (f.noer : R Er α) = .ok a) : Dv F0 H0 (tE X e) G (sb a) := by
  cases f with
  | ok b => cases hf; exact h
  | er y => cases hf
  | no => cases hf
section
variable {C : Cn} {G : List LK.Slot} {m : Md} {tg it elt : Expr} {ifs : List Expr} {scope : Scope} {pos : Pos}
theorem xlcO {α β : Type} [Inhabited β] {r : Rp α} {me : β → Mu} [im : ∀ x, MoM (me x)] {fx : R Er (List α)} {up : α → List LK.Slot → List LK.Slot} {tl : List Nat} {pf : α → R Er Bool} {ff : α → R Er β} (own : List (Str × Nat)) (G' : α → List LK.Slot)
    (hi : XI C tg it G m r fx) (hg : ∀ s H Cc cl fp, XG (cnB C s H scope Cc cl fp) tg m r up tl) (hG : ∀ x, up x (wipeG G (own.map (·.2))) = G' x)
    (ht : ∀ s H Cc cl fp x, XQs (cnB C s H scope Cc cl fp) ifs (G' x) (pf x)) (he : ∀ s H Cc cl fp x, XN (cnB C s H scope Cc cl fp) elt (G' x) (fun y => .ow (me y) (im y)) (ff x)) (hc : C.X.calm = true := by rfl) (hv : tl.all (fun j => decide (j ∈ own.map (·.2))) = true := by decide) (ok : blkC C.X.N C.X.env.scope scope own = true := by decide +kernel) (hs : ∀ x, foldedSetIterable it C.X.env x = pure x := by intro _; rfl) :
    XLc C (.ListComp elt [⟨tg, it, ifs, 0⟩] scope pos) G (fun xs => .ow (mLs me xs) inferInstance) (fx.bind fun xs => R.mapR pf ff xs) := by
  have a1 : ∀ (s : Shared) (H : Hp) (Cc : Addr) (cl : List (Str × Addr)) (fp : List Addr), PG (C.X.blk s H scope (compEnvC scope cl Cc C.X.env) fp) tg (bG C.X scope tg) := fun s H Cc cl fp => ⟨fun pins s' σ H' v u Q I r h => h s H Cc cl fp pins s' u I r⟩
  have a2 : ∀ (s : Shared) (H : Hp) (Cc : Addr) (cl : List (Str × Addr)) (fp : List Addr), PTs (C.X.blk s H scope (compEnvC scope cl Cc C.X.env) fp) ifs (bTs C.X scope ifs) := fun s H Cc cl fp => ⟨fun pins s' σ H' Q I h => h s H Cc cl fp pins s' I⟩
  have a3 : ∀ (s : Shared) (H : Hp) (Cc : Addr) (cl : List (Str × Addr)) (fp : List Addr), PE (C.X.blk s H scope (compEnvC scope cl Cc C.X.env) fp) elt (bE C.X scope elt) := fun s H Cc cl fp => ⟨fun pins s' σ H' Q I h => h s H Cc cl fp pins s' I⟩
  refine ⟨tLc (tI C.X tg it) (bG C.X scope tg) (bTs C.X scope ifs) (bE C.X scope elt) (own.map (·.2)), ⟨pe_lc hc C.nd pI (blkOk_by ok) a1 a2 a3 hs, fun hy hyl hsw => ps_setLc hc C.nd hy hyl hsw pI (blkOk_by ok) a1 a2 a3 hs⟩, fun F0 H0 => ?_⟩
  have hi := hi.h F0 H0
  cases fx with
  | no => trivial
  | er y => exact fun σ F H E w Q => hi σ F H E w _
  | ok xs =>
    show Ds C F0 H0 _ G _ (R.mapR pf ff xs)
    cases hm : (R.mapR pf ff xs : R Er (List β)) with
    | no => trivial
    | er y => exact absurd hm (mapR_ner xs)
    | ok ys =>
      obtain ⟨p', f', h1, rfl⟩ := map_ok hm
      refine dv_enO (en_lcO p' f' hi (m := m) (r := r) (up := up) (tg := tl) (fun F0 G σ F H v x E hv Q q s H1 Cc cl fp => ((hg s H1 Cc cl fp).h H0).eg F0 G σ F H v x E hv Q q) (fun j hj => of_decide_eq_true (List.all_eq_true.mp hv j hj)) (fun F1 b x hx => ?_) (fun F1 b x hx hp => ?_))
      · rw [hG]
        exact fun σ F H E Q q s H1 Cc cl fp => tr_noers rfl ((ht s H1 Cc cl fp x).h F1 H0) (h1 x hx).1 σ F H E Q q
      · rw [hG]
        exact fun σ F H E Q q s H1 Cc cl fp => ds_noer ((he s H1 Cc cl fp x).h F1 H0) ((h1 x hx).2 hp) σ F H E Q q
end
end LJ

set_option Elab.async false
set_option linter.all false
set_option maxRecDepth 100000
set_option maxHeartbeats 4000000
set_option autoImplicit false
/-! LO2: an own list of own things: its elements change in place. -/
namespace LK
open PySem L2 PyProof.Rows
theorem lw_set_no : ∀ {G : List Slot} (i : Nat), Lw G (G.set i .no)
  | [], _ => trivial
  | s :: G, 0 => ⟨.inl rfl, Lw.refl G⟩
  | s :: G, i + 1 => ⟨.inr rfl, lw_set_no i⟩
theorem set_same' {γ : Type _} : ∀ {l : List γ} {i : Nat} {s : γ}, l[i]? = some s → l.set i s = l
  | [], _, _, h => rfl
  | a :: l, 0, s, h => by cases h; rfl
  | a :: l, i + 1, s, h => by
    have h : l[i]? = some s := h
    rw [List.set_cons_succ, set_same' h]
theorem LsAt.setEl {α : Type} {me : α → Mu} [im : ∀ x, MoM (me x)] {xs : List α} {F H H' : Hp} {p : Addr} {ps : List Addr} {Sf : Nat → List Addr} (h : LsAt me xs F H p ps Sf) {j : Nat} {q : Addr} {y : α} (hj : j < xs.length) (hq : ps[j]? = some q) (k : ∀ a, a ∉ Sf j → H' a = H a) (m : me y F H' q (Sf j)) : LsAt me (xs.set j y) F H' p ps Sf := by
  refine ⟨by rw [List.length_set]; exact h.len, by rw [List.length_set]; exact h.sz, by rw [k p (h.out j hj)]; exact h.lst, fun i x z hx hz => ?_, fun i l a hil hi hl => ?_, fun i hi => ?_⟩
  · by_cases e : i = j
    · subst e
      rw [List.getElem?_set_self hj] at hx
      cases hx
      rw [hq] at hz
      cases hz
      exact m
    · rw [List.getElem?_set_ne (fun z => e z.symm)] at hx
      have hi := (List.getElem?_eq_some_iff.mp hx).1
      exact (im x).mo (Ex.refl F).s (fun a ha => k a (h.dj i j a e hi hj ha)) (h.el i x z hx hz)
  · rw [List.length_set] at hi hl
    exact h.dj i l a hil hi hl
  · rw [List.length_set] at hi
    exact h.out i hi
section
variable {F0 H0 F H H' : Hp} {G : List Slot} {σ : L2.St}
/-- the list and its elements as they stand -/
theorem EnvOk.lsO {α : Type} {me : α → Mu} {xs : List α} {iM : MoM (mLs me xs)} {i : Nat} (E : EnvOk F0 H0 G σ F H) (h : G[i]? = some (.ow (mLs me xs) iM)) : ∃ p ps Sf, σ[i]? = some (some (.ref p)) ∧ LsAt me xs F H p ps Sf ∧ F p = none ∧ (∀ j, j < xs.length → ∀ a ∈ Sf j, F a = none ∧ H0 a = none) := by
  obtain ⟨p, S, e, h1, ps, Sf, h2, h3⟩ := E.ow_at h
  exact ⟨p, ps, Sf, e, h2, (h1 p ((h3 p).mpr (.inl rfl))).1, fun j hj a ha => h1 a ((h3 a).mpr (.inr ⟨j, hj, ha⟩))⟩
/-- element j changes in place -/
theorem EnvOk.mutEl {α : Type} {me : α → Mu} [im : ∀ x, MoM (me x)] {xs : List α} {iM : MoM (mLs me xs)} {i j : Nat} {y : α} {iN : MoM (mLs me (xs.set j y))} {p q : Addr} {vs : List V} (E : EnvOk F0 H0 G σ F H) (hi : G[i]? = some (.ow (mLs me xs) iM)) (hp : σ[i]? = some (some (.ref p))) (hj : j < xs.length) (hv : H p = some (.lst vs)) (hq : vs[j]? = some (.ref q))
    (k : ∀ S, me xs[j] F H q S → (∀ a ∈ S, F a = none) → me y F H' q S ∧ (∀ a, a ∉ S → H' a = H a)) : EnvOk F0 H0 (G.set i (.ow (mLs me (xs.set j y)) iN)) σ F H' := by
  have gr := E.gr
  refine E.mut (p := p) (S := []) (S' := []) hi fun p' S hp' hS hm => ?_
  rw [hp] at hp'
  cases Option.some.inj (Option.some.inj hp')
  obtain ⟨ps, Sf, h1, h2⟩ := hm
  rw [h1.lst] at hv
  cases hv
  obtain ⟨q', hq', m⟩ := h1.get hj
  rw [List.getElem?_map, hq'] at hq
  cases hq
  obtain ⟨m', hk⟩ := k (Sf j) m fun a ha => (hS a ((h2 a).mpr (.inr ⟨j, hj, ha⟩))).1
  refine ⟨S, Ex.refl F, fun a u w n => (by rw [n] at w; cases w), fun a ha _ _ => hk a fun z => ha ((h2 a).mpr (.inr ⟨j, hj, z⟩)), fun a u w => ?_, fun a ha => ⟨.inl ha, (hS a ha).1⟩, ps, Sf, h1.setEl hj hq' hk m', fun a => ?_⟩
  · rw [hk a fun z => by rw [(hS a ((h2 a).mpr (.inr ⟨j, hj, z⟩))).1] at w; cases w]
    exact gr.fh a u w
  · rw [List.length_set]; exact h2 a
end
end LK
namespace LJ
open PySem L2 LK LKX LKB PyProof.Rows PySem.Spec
section
variable {C : Cn} {β ρ ε Z S S' ζ : Type} {J : Jn β ρ ε Z} {G : List LK.Slot} {slk : S' → List LK.Slot} {e ie : Expr} {rest : List Stmt} {pos p1 p2 p3 p4 : Pos} {x y : Str} {m : Md} {α : Type} {r : Rp α}
/-- x[j].append(e) -/
theorem xb_elApp [ir : Mo r] {xss : List (List α)} {im : ∀ xs, MoM (mLs (mL r) xs)} {g : R Er Int} {f : R Er α} {M : List (List α) → (S' → R ε ρ) → R ε ρ} (i : Nat) (G' : List (List α) → List LK.Slot) (z : Z) (hz : Lw G (J.slz z)) (hi : G[i]? = some (.ow (mLs (mL r) xss) (im xss))) (hj : XE C ie G m rInt g) (he : XE C e G .sh r f) (hG : ∀ a, G.set i (.ow (mLs (mL r) a) (im a)) = G' a) (hr : ∀ a, XB C J rest (G' a) slk (M a))
    (hN : C.X.N[i]? = some x := by rfl) (hv : Vis C.X.env.scope x := by first | exact Or.inl rfl | exact Or.inr (Or.inl rfl) | exact Or.inr (Or.inr rfl)) (hd : (x == ("__debug__" : Str)) = false := by decide) (hcd : (x == ("__classdict__" : Str)) = false := by decide) (hpi : PlainIx ie := by exact fun _ _ => rfl)
    (hbase : attributeBase (.Subscript (.Name x p1) ie p4) "append" C.X.env (eval (.Subscript (.Name x p1) ie p4) C.X.env) = eval (.Subscript (.Name x p1) ie p4) C.X.env := by rfl)
    (hfew : ((backTo p3 (starEach [e] C.X.env)).all (fun x => !x.1) && (backToKw p3 (keywordEach [] C.X.env)).all (fun x => x.1.isSome) && decide ([e].length + ([] : List Keyword).length + (if ([] : List Keyword).isEmpty then 0 else 1) < 30)) = true := by rfl)
    (hline : (p2.endLine == p3.line) = true := by rfl) (hs : starEach [e] C.X.env = (false, eval e C.X.env) :: starEach [] C.X.env := by exact star_cons rfl) (hplain : (backTo p3 (starEach [] C.X.env)).any (·.1) = false := by rfl)
    (hsw : swapsWith (.Call (.Attribute (.Subscript (.Name x p1) ie p4) "append" p2) [e] [] p3) none pos.line C.X.env = pure false := by rfl) :
    XB C J (.Expr (.Call (.Attribute (.Subscript (.Name x p1) ie p4) "append" p2) [e] [] p3) pos :: rest) G slk (fun k => g.thn (fun y => J.em y z) fun j => (R.iff (0 ≤ j ∧ j < xss.length) (.ok (ixD xss j))).bind fun xs => f.thn (fun y => J.em y z) fun a => (appR xs a).bind fun ys => M (xss.set j.toNat ys) k) := ⟨fun F0 H0 A D an k hk hA σ F H E => by
  have he := he.h F0 H0; have hj := hj.h F0 H0
  refine tS_le (pss_cons (ps_expr (pe_bm PySem.F.plainAttrs_list PySem.F.slot_list_append PySem.F.type_list_append mt_append (pe_ix ix_list (pe_var hN hv hd hcd) pE hpi) (pa_cons pE pa_nil hs) hbase hfew hline hs hplain) hsw) pS) ?_
  obtain ⟨p, ps, Sf, hx, hl, _, _⟩ := E.lsO hi
  refine ⟨_, hx, ?_⟩
  cases g with
  | no => exact (an.no hA).elim
  | er y => exact hj σ F H E (an.air hz hA E) _
  | ok j =>
    have hA : A ((R.iff (0 ≤ j ∧ j < xss.length) (.ok (ixD xss j))).bind fun xs => f.thn (fun y => J.em y z) fun a => (appR xs a).bind fun ys => M (xss.set j.toNat ys) k) := hA
    unfold R.iff at hA
    by_cases hjl : 0 ≤ j ∧ j < xss.length
    · rw [if_pos hjl] at hA
      have hA : A (f.thn (fun y => J.em y z) fun a => (appR (ixD xss j) a).bind fun ys => M (xss.set j.toNat ys) k) := hA
      have hjn : j.toNat < xss.length := by omega
      have hxj : xss[j.toNat] = ixD xss j := by
        have e := atI_ok (xs := xss) (i := j) ⟨by omega, hjl.2⟩
        unfold atI ixN at e
        rw [if_pos hjl.1, if_pos hjl.2] at e
        have e : xss[j.toNat]? = some (ixD xss j) := e
        rw [List.getElem?_eq_getElem hjn] at e
        exact Option.some.inj e
      refine hj σ F H E _ fun w F1 H1 g1 hw => ?_
      have E1 := E.gro g1
      have lst1 := g1.hh _ _ hl.lst
      obtain ⟨q, hq, hm⟩ := hl.get hjn
      have hqm : (ps.map V.ref)[j.toNat]? = some (.ref q) := by rw [List.getElem?_map, hq]; rfl
      obtain ⟨hS, vs, h2, h3, h4⟩ := hm
      refine ⟨p, ps.map V.ref, j, .ref q, rfl, hw, SqL.of lst1, ?_, .inl ⟨rfl, vs, SqL.of (g1.hh _ _ h2)⟩, ?_⟩
      · unfold atI ixN
        rw [List.length_map, hl.len, if_pos hjl.1, if_pos (by omega)]
        exact hqm
      cases f with
      | no => exact (an.no hA).elim
      | er y => exact he σ F1 H1 E1 (an.air hz hA E1) _
      | ok a =>
        have hA : A ((appR (ixD xss j) a).bind fun ys => M (xss.set j.toNat ys) k) := hA
        unfold appR R.iff at hA
        by_cases hll : (ixD xss j).length < 16777216
        · rw [if_pos hll] at hA
          have hA : A (M (xss.set j.toNat (ixD xss j ++ [a])) k) := hA
          refine he σ F1 H1 E1 _ fun v F2 H2 g2 hv => ?_
          have g := g1.trans g2
          have E2 := E.gro g
          refine ⟨q, vs, v, rfl, rfl, g.hh _ _ h2, by rw [plen h4, hxj]; exact sz_lt hll, ?_⟩
          refine (hr _).h F0 H0 A D an k hk hA σ F2 _ ?_
          rw [← hG]
          refine E2.mutEl (iN := im (xss.set j.toNat (ixD xss j ++ [a]))) (j := j.toNat) (y := ixD xss j ++ [a]) hi hx hjn (g.hh _ _ hl.lst) hqm fun S hm hF => ?_
          obtain ⟨hS', vs', k2, k3, k4⟩ := hm
          subst hS'
          rw [g.hh _ _ h2] at k2
          cases k2
          rw [hxj] at k4
          exact ⟨⟨rfl, _, upd_same, by simp; omega, papp k4 (.cons hv .nil)⟩, fun b hb => upd_ne fun z => hb (by simp [z])⟩
        · rw [if_neg hll] at hA; exact (an.no hA).elim
    · rw [if_neg hjl] at hA; exact (an.no hA).elim⟩
/-- for x in y: x.append(c) -/
theorem xb_forApp [ir : Mo r] {xss : List (List α)} {im : ∀ xs, MoM (mLs (mL r) xs)} {c : α} {M : List (List α) → (S' → R ε ρ) → R ε ρ} (i ix : Nat) (G' : List (List α) → List LK.Slot) (hi : G[i]? = some (.ow (mLs (mL r) xss) (im xss))) (hix : ix < G.length) (hne : ix ≠ i) (he : ∀ G, XE C e G .sh r (.ok c)) (hG : ∀ a, (G.set i (.ow (mLs (mL r) a) (im a))).set ix .no = G' a) (hr : ∀ a, XB C J rest (G' a) slk (M a))
    (po : PassesOwn (model C.X.prog C.X.w) C.X.A C.X.env C.X.xe)
    (hN : C.X.N[i]? = some y := by rfl) (hv : Vis C.X.env.scope y := by first | exact Or.inl rfl | exact Or.inr (Or.inl rfl) | exact Or.inr (Or.inr rfl)) (hd : (y == ("__debug__" : Str)) = false := by decide) (hcd : (y == ("__classdict__" : Str)) = false := by decide)
    (hN' : C.X.N[ix]? = some x := by rfl) (hv' : Vis C.X.env.scope x := by first | exact Or.inl rfl | exact Or.inr (Or.inl rfl) | exact Or.inr (Or.inr rfl)) (hd' : (x == ("__debug__" : Str)) = false := by decide) (hcd' : (x == ("__classdict__" : Str)) = false := by decide)
    (hlx : Loc C.X.env.scope x := by first | exact .inl rfl | exact .inr rfl) (hfx : C.X.fn x = true ∨ C.X.env.scope.names.lookup x = some .local := by first | exact .inl rfl | exact .inr rfl)
    (hbase : attributeBase (.Name x p1) "append" C.X.env (eval (.Name x p1) C.X.env) = eval (.Name x p1) C.X.env := by rfl)
    (hfew : ((backTo p3 (starEach [e] C.X.env)).all (fun x => !x.1) && (backToKw p3 (keywordEach [] C.X.env)).all (fun x => x.1.isSome) && decide ([e].length + ([] : List Keyword).length + (if ([] : List Keyword).isEmpty then 0 else 1) < 30)) = true := by rfl)
    (hline : (p2.endLine == p3.line) = true := by rfl) (hs : starEach [e] C.X.env = (false, eval e C.X.env) :: starEach [] C.X.env := by exact star_cons rfl) (hplain : (backTo p3 (starEach [] C.X.env)).any (·.1) = false := by rfl)
    (hsw : swapsWith (.Call (.Attribute (.Name x p1) "append" p2) [e] [] p3) none p4.line C.X.env = pure false := by rfl) 
    (hc : C.X.calm = true := by rfl) {p5 p6 : Pos} (hsi : ∀ z, foldedSetIterable (.Name y p6) C.X.env z = pure z := by intro _; rfl) :
    XB C J (.For (.Name x p5) (.Name y p6) [.Expr (.Call (.Attribute (.Name x p1) "append" p2) [e] [] p3) p4] [] pos :: rest) G slk (fun k => (R.iff (∀ xs ∈ xss, xs.length < 16777216) (.ok (xss.map (· ++ [c])))).bind fun ys => M ys k) := ⟨fun F0 H0 A D an k hk hA σ F H E => by
  refine tS_le (pss_cons (ps_for po hc (pi_list (pe_var hN hv hd hcd)) (pg_name C.nd hN' hlx hfx) (pss_one (ps_expr (pe_bm PySem.F.plainAttrs_list PySem.F.slot_list_append PySem.F.type_list_append mt_append (pe_var hN' hv' hd' hcd') (pa_cons pE pa_nil hs) hbase hfew hline hs hplain) hsw)) hsi) pS) ?_
  unfold R.iff at hA
  by_cases hln : ¬ ∀ xs ∈ xss, xs.length < 16777216
  · rw [if_neg hln] at hA; exact (an.no hA).elim
  have hll := Classical.not_not.mp hln
  rw [if_pos hll] at hA
  have hA : A (M (xss.map (· ++ [c])) k) := hA
  obtain ⟨p, ps, Sf, hx, hl, _, _⟩ := E.lsO hi
  have hil : i < G.length := (List.getElem?_eq_some_iff.mp hi).1
  refine ⟨_, hx, p, rfl, ⟨_, SqL.of hl.lst⟩, ?_⟩
  -- behind n turns
  let st : Nat → List (List α) := fun n => (xss.take n).map (· ++ [c]) ++ xss.drop n
  have st_len : ∀ n, (st n).length = xss.length := fun n => by
    show ((xss.take n).map (· ++ [c]) ++ xss.drop n).length = _
    rw [List.length_append, List.length_map, List.length_take, List.length_drop]; omega
  have st_get : ∀ n, (h : n < xss.length) → (st n)[n]'(by rw [st_len]; exact h) = xss[n] := fun n h => by
    show ((xss.take n).map (· ++ [c]) ++ xss.drop n)[n]'_ = _
    rw [List.getElem_append_right (by rw [List.length_map, List.length_take]; omega)]
    rw [List.getElem_drop]
    congr 1
    rw [List.length_map, List.length_take]; omega
  have st_set : ∀ n, (h : n < xss.length) → (st n).set n (xss[n] ++ [c]) = st (n + 1) := fun n h => by
    show ((xss.take n).map (· ++ [c]) ++ xss.drop n).set n (xss[n] ++ [c]) = (xss.take (n + 1)).map (· ++ [c]) ++ xss.drop (n + 1)
    have hlm : ((xss.take n).map (· ++ [c])).length = n := by rw [List.length_map, List.length_take]; omega
    rw [List.set_append_right _ _ (by rw [hlm]; exact Nat.le_refl _), hlm, Nat.sub_self, List.drop_eq_getElem_cons h, List.set_cons_zero, List.take_add_one, List.getElem?_eq_getElem h, List.map_append, List.append_assoc]
    rfl
  let Gn : Nat → List LK.Slot := fun n => (G.set i (.ow (mLs (mL r) (st n)) (im (st n)))).set ix .no
  have Gn_i : ∀ n, (Gn n)[i]? = some (.ow (mLs (mL r) (st n)) (im (st n))) := fun n => by
    show ((G.set i _).set ix _)[i]? = _
    rw [List.getElem?_set_ne hne, List.getElem?_set_self hil]
  refine ⟨fun n mm σ' H' => mm = xss.length - n ∧ n ≤ xss.length ∧ ∃ F', EnvOk F0 H0 (Gn n) σ' F' H' ∧ σ'[i]? = some (some (.ref p)) ∧ H' p = some (.lst (ps.map V.ref)), ⟨_, rfl, Nat.zero_le _, F, ?_, hx, hl.lst⟩, ?_⟩
  · have e0 : st 0 = xss := by show ([] : List (List α)).map _ ++ xss = xss; rfl
    have e1 : G.set i (.ow (mLs (mL r) (st 0)) (im (st 0))) = G := by
      rw [e0]; exact set_same' hi
    show EnvOk F0 H0 ((G.set i _).set ix .no) σ F H
    rw [e1]
    exact E.weak (lw_set_no ix)
  rintro n mm σ' H' ⟨rfl, hn, F', E', hx', hp'⟩
  by_cases hlt : n < xss.length
  · have hnp : n < ps.length := by rw [hl.len]; exact hlt
    have hqn : (ps.map V.ref)[n]? = some (.ref ps[n]) := by rw [List.getElem?_map, List.getElem?_eq_getElem hnp]; rfl
    refine .inr ⟨⟨_, _, SqL.of hp', hqn⟩, fun σ2 H2 => ∃ F2, EnvOk F0 H0 (Gn (n + 1)) σ2 F2 H2 ∧ σ2[i]? = some (some (.ref p)) ∧ H2 p = some (.lst (ps.map V.ref)), fun σ2 H2 ⟨F2, h1, h2, h3⟩ => ⟨_, by omega, rfl, hlt, F2, h1, h2, h3⟩, ?_⟩
    rintro v H'' ⟨rfl, hv2⟩
    have hv3 := hv2 _ (SqL.of hp')
    rw [hqn] at hv3
    cases Option.some.inj hv3
    have hixl : ix < σ'.length := by rw [E'.len]; show ix < ((G.set i _).set ix .no).length; rw [List.length_set, List.length_set]; exact hix
    have E2 : EnvOk F0 H0 (Gn n) (σ'.set ix (some (.ref ps[n]))) F' H'' := by
      have := E'.set (i := ix) (v := .ref ps[n]) (s := .no) trivial (fun _ _ z => nomatch z)
      have e : (Gn n).set ix .no = Gn n := by show ((G.set i _).set ix .no).set ix .no = _; rw [List.set_set]
      rw [e] at this; exact this
    have hxi : (σ'.set ix (some (.ref ps[n])))[i]? = some (some (.ref p)) := by rw [List.getElem?_set_ne hne]; exact hx'
    have hxx : (σ'.set ix (some (.ref ps[n])))[ix]? = some (some (.ref ps[n])) := List.getElem?_set_self hixl
    obtain ⟨p', ps', Sf', hy, hl', _, _⟩ := E2.lsO (Gn_i n)
    rw [hxi] at hy
    cases Option.some.inj (Option.some.inj hy)
    have hps : ps' = ps := by
      have z := hl'.lst
      rw [hp'] at z
      have z2 : ps.map V.ref = ps'.map V.ref := by injection z with z; injection z
      exact (map_inj (fun e => by injection e) z2).symm
    subst hps
    obtain ⟨q, hq, hS, vs, h2, h3, h4⟩ := hl'.get (i := n) (by rw [st_len]; exact hlt)
    rw [List.getElem?_eq_getElem hnp] at hq
    cases hq
    refine ⟨_, hxx, .inl ⟨rfl, vs, SqL.of h2⟩, (he (Gn n)).h F0 H0 _ F' H'' E2 _ fun v F3 H3 g3 hv => ?_⟩
    rw [st_get n hlt] at h4 h3
    have hl3 := hll _ (List.getElem_mem hlt)
    refine ⟨ps'[n], vs, v, rfl, rfl, g3.hh _ _ h2, by rw [plen h4]; exact sz_lt hl3, F3, ?_, hxi, ?_⟩
    · have E3 := (E2.gro g3).mutEl (iN := im ((st n).set n (xss[n] ++ [c]))) (H' := upd H3 ps'[n] (.lst (vs ++ [v]))) (j := n) (y := xss[n] ++ [c]) (Gn_i n) hxi (by rw [st_len]; exact hlt) (g3.hh _ _ hl'.lst) hqn fun S hm hF => by
        obtain ⟨hS', vs', k2, k3, k4⟩ := hm
        subst hS'
        rw [g3.hh _ _ h2] at k2
        cases k2
        rw [st_get n hlt] at k4
        exact ⟨⟨rfl, _, upd_same, by simp; omega, papp k4 (.cons hv .nil)⟩, fun b hb => upd_ne fun z => hb (by simp [z])⟩
      have e : (Gn n).set i (.ow (mLs (mL r) ((st n).set n (xss[n] ++ [c]))) (im _)) = Gn (n + 1) := by
        show ((G.set i _).set ix .no).set i _ = (G.set i _).set ix .no
        rw [st_set n hlt, List.set_comm _ _ hne, List.set_set]
      rw [e] at E3
      exact E3
    · have hne2 : p ≠ ps'[n] := fun z => by
        have := hl'.out n (by rw [st_len]; exact hlt)
        rw [hS] at this
        exact this (by simp [z])
      rw [upd_ne hne2]
      exact g3.hh _ _ hl'.lst
  · have e : n = xss.length := by omega
    subst e
    refine .inl ⟨⟨_, SqL.of hp', by rw [List.length_map, hl.len]; exact Nat.le_refl _⟩, ?_⟩
    have e : Gn xss.length = G' (xss.map (· ++ [c])) := by
      rw [← hG]
      show (G.set i (.ow (mLs (mL r) (st xss.length)) _)).set ix .no = _
      have e2 : st xss.length = xss.map (· ++ [c]) := by
        show (xss.take xss.length).map (· ++ [c]) ++ xss.drop xss.length = _
        rw [List.take_length, List.drop_length, List.append_nil]
      rw [e2]
    rw [e] at E'
    exact (hr _).h F0 H0 A D an k hk hA σ' F' H' E'⟩
end
end LJ

set_option Elab.async false
set_option linter.all false
set_option maxRecDepth 100000
set_option maxHeartbeats 4000000
set_option autoImplicit false
/-! LO3: data of two kinds. -/
namespace LK
open PySem L2 PyProof.Rows
def rSum {α β : Type} (r : Rp α) (s : Rp β) : Rp (α ⊕ β) := fun F v x => match x with
  | .inl a => r F v a
  | .inr b => s F v b
instance {α β : Type} (r : Rp α) (s : Rp β) [h : Mo r] [h' : Mo s] : Mo (rSum r s) := ⟨fun {F F' v x} e z => by
  cases x with
  | inl a => exact h.mo e z
  | inr b => exact h'.mo e z⟩
instance {α β : Type} [Inhabited α] : Inhabited (α ⊕ β) := ⟨.inl default⟩
end LK
namespace LJ
open PySem L2 LK LKX LKB PyProof.Rows PySem.Spec
def outlR {α β ε : Type} : α ⊕ β → R ε α
  | .inl a => .ok a
  | .inr _ => .no
def outrR {α β ε : Type} : α ⊕ β → R ε β
  | .inr b => .ok b
  | .inl _ => .no
/-- an item of a pair -/
def ixPR {α β ε : Type} (p : α × β) (i : Int) : R ε (α ⊕ β) := if i = 0 then .ok (.inl p.1) else if i = 1 then .ok (.inr p.2) else .no
section
variable {C : Cn} {G : List LK.Slot} {m m1 m2 : Md} {a b e : Expr} {pos : Pos} {α β : Type} {r : Rp α} {s : Rp β}
theorem xinl {f : R Er α} (h : XE C e G m r f) : XE C e G m (rSum r s) (f.bind fun x => .ok (.inl x)) := ⟨fun F0 H0 => by
  have h := h.h F0 H0
  cases f with
  | no => trivial
  | er y => exact h
  | ok x => exact h⟩
theorem xinr {f : R Er β} (h : XE C e G m s f) : XE C e G m (rSum r s) (f.bind fun x => .ok (.inr x)) := ⟨fun F0 H0 => by
  have h := h.h F0 H0
  cases f with
  | no => trivial
  | er y => exact h
  | ok x => exact h⟩
theorem xoutl {f : R Er (α ⊕ β)} (h : XE C e G m (rSum r s) f) : XE C e G m r (f.bind fun x => outlR x) := ⟨fun F0 H0 => by
  have h := h.h F0 H0
  cases f with
  | no => trivial
  | er y => exact h
  | ok x =>
    cases x with
    | inl a => exact h
    | inr b => trivial⟩
theorem xoutr {f : R Er (α ⊕ β)} (h : XE C e G m (rSum r s) f) : XE C e G m s (f.bind fun x => outrR x) := ⟨fun F0 H0 => by
  have h := h.h F0 H0
  cases f with
  | no => trivial
  | er y => exact h
  | ok x =>
    cases x with
    | inl a => trivial
    | inr b => exact h⟩
theorem ed_ixP [Mo r] [Mo s] {F0 H0 : Hp} {K : PySem.W.Frag} {ta tb : TE} {x : α × β} {i : Int} {y : α ⊕ β} (hx : Ed F0 H0 ta G m (rPr r s) x) (hi : Ed F0 H0 tb G m2 rInt i) (hy : ixPR (ε := Er) x i = .ok y) : Ed F0 H0 (tOp (rIxT K) ta tb) G m (rSum r s) y :=
  ed_bin hx hi fun v w F H g0 hv hw Q q => by
    obtain ⟨p, u, z, rfl, h1, h2, h3⟩ := hv
    unfold ixPR at hy
    by_cases e0 : i = 0
    · rw [if_pos e0] at hy
      cases hy
      subst e0
      exact ⟨p, _, 0, u, rfl, hw, SqT.of (pk_now g0 _ _ h1), rfl, q _ F H (Gr.refl g0.fh) h2⟩
    · rw [if_neg e0] at hy
      by_cases e1 : i = 1
      · rw [if_pos e1] at hy
        cases hy
        subst e1
        exact ⟨p, _, 1, z, rfl, hw, SqT.of (pk_now g0 _ _ h1), rfl, q _ F H (Gr.refl g0.fh) h3⟩
      · rw [if_neg e1] at hy; cases hy
theorem xixP [Mo r] [Mo s] {f : R Er (α × β)} {g : R Er Int} (ha : XE C a G m (rPr r s) f) (hb : XE C b G m2 rInt g) (hp : PlainIx b := by exact fun _ _ => rfl) : XE C (.Subscript a b pos) G m (rSum r s) (f.bind fun x => g.bind fun y => ixPR x y) :=
  x2 ha hb (pe_ix ix_tup pE pE hp) fun _ _ x i h1 h2 => by
    cases hy : (ixPR x i : R Er (α ⊕ β)) with
    | no => trivial
    | er e =>
      exfalso; unfold ixPR at hy; split at hy
      · cases hy
      · split at hy <;> cases hy
    | ok y => exact ed_ixP h1 h2 hy
end
end LJ

set_option Elab.async false
set_option linter.all false
set_option maxRecDepth 100000
set_option maxHeartbeats 4000000
set_option autoImplicit false
/-! LO4: own errors with two fields; a try whose clauses are not reached. -/
namespace LKX
open PySem PySem.W PySem.Calls PyProof.Rows PySem.HandSPX
section
variable {prog : Program} {w : World} {A : Around} {E : Value → Shared → Prop} {h : Heap} {g : Array GenState} {d : Drawn} {t : Nat} {os : OsState} {K : Frag} {mg m : Str → Option Value} {C fI cda cc e t0 L : Addr} {x qual : Str} {params : Arguments} {body : List Stmt} {scope : Scope}
variable {R : Result → Shared → Prop}
/-- the whole __init__ with two fields -/
theorem init2 {p0 p1 p2 p3 p4 p5 q1 q2 q3 q4 q5 q6 q7 q8 : Pos} {k : Nat} {c f f' xs xp xp' : Str} {ar : Arg} {pl : Sem Bool} {u u' : Value} (S : SupC prog K mg C fI x qual params [.Expr (.Call (.Attribute (.Call (.Name "super" p0) [] [] p1) "__init__" p2) [.Constant (.str c) k p3] [] p4) p5, .Assign [.Attribute (.Name xs q1) f q2] (.Name xp q4) q3, .Assign [.Attribute (.Name xs q5) f' q6] (.Name xp' q8) q7] scope cda cc) (X : K.In h) (gl : h.Ns mainGlobals mg) (bl : ∃ mb, h.Ns builtinsNs mb ∧ ∀ x : Str, x ≠ "__name__" → mb x = bootBuiltins x)
    (lim : h.NoLimit) (room : A.depth < recursionLimit) (he : h.get? e = some (excO C t0)) (hke : K.lookup e = none)
    (hbind : ∀ (kV doc pm : Value) (an : Option Addr) (ct : Value), BindsTo (⟨h, g, d, t, os⟩ : Shared) (ksFn x qual params [.Expr (.Call (.Attribute (.Call (.Name "super" p0) [] [] p1) "__init__" p2) [.Constant (.str c) k p3] [] p4) p5, .Assign [.Attribute (.Name xs q1) f q2] (.Name xp q4) q3, .Assign [.Attribute (.Name xs q5) f' q6] (.Name xp' q8) q7] scope .none kV doc pm an (.ref cda) ct cc) ⟨[.ref e, u, u'], []⟩ [(xs, .ref e), (xp, u), (xp', u')])
    (hp : (params.posonlyargs ++ params.args).head? = some ar) (har : ar.arg = xs) (hne : xs ≠ xp) (hne' : xs ≠ xp') (hne2 : xp ≠ xp')
    (hks : scope.names.lookup ("super" : Str) = some .globalImplicit) (hkc : scope.names.lookup ("__class__" : Str) = some .free) (hka : scope.names.lookup xs = some .local) (hkb : scope.names.lookup xp = some .local) (hkb' : scope.names.lookup xp' = some .local) (hk : scope.kind = .function)
    (hcell : ∀ x ∈ scope.names, x.2 ≠ .cell) (hco : scope.isCoroutine = false) (hgen : scope.isGenerator = false) (hno : findIn K (.ref C) f = some none) (hno' : findIn K (.ref C) f' = some none)
    (hev : ∀ L, eval (.Call (.Attribute (.Call (.Name "super" p0) [] [] p1) "__init__" p2) [.Constant (.str c) k p3] [] p4) (ksEnv qual scope L fI (.ref cda) cc) = (do
      let ov ← attributeBase (.Call (.Name "super" p0) [] [] p1) "__init__" (ksEnv qual scope L fI (.ref cda) cc) (eval (.Call (.Name "super" p0) [] [] p1) (ksEnv qual scope L fI (.ref cda) cc))
      standAt p2.atName
      let (f, first) ← holding [ov] (getMethod ov "__init__" pl)
      callWith p4 f first (backTo p4 (starEach [.Constant (.str c) k p3] (ksEnv qual scope L fI (.ref cda) cc))) []))
    (hi : ∀ L, interactive (ksEnv qual scope L fI (.ref cda) cc) = false) (hs : ∀ L, swapsWith (.Call (.Attribute (.Call (.Name "super" p0) [] [] p1) "__init__" p2) [.Constant (.str c) k p3] [] p4) none p5.line (ksEnv qual scope L fI (.ref cda) cc) = pure false)
    (hse : ∀ L, starEach [.Constant (.str c) k p3] (ksEnv qual scope L fI (.ref cda) cc) = (false, eval (.Constant (.str c) k p3) (ksEnv qual scope L fI (.ref cda) cc)) :: starEach [] (ksEnv qual scope L fI (.ref cda) cc))
    (hs2 : ∀ L, swapsWith (.Name xp q4) (some (.Attribute (.Name xs q1) f q2)) q3.line (ksEnv qual scope L fI (.ref cda) cc) = pure false)
    (hs3 : ∀ L, swapsWith (.Name xp' q8) (some (.Attribute (.Name xs q5) f' q6)) q7.line (ksEnv qual scope L fI (.ref cda) cc) = pure false)
    (d1 : (xs == ("__debug__" : Str)) = false) (d2 : (xp == ("__debug__" : Str)) = false) (d3 : (xp' == ("__debug__" : Str)) = false)
    (hq : ∀ h' t', Made h h' e C (fun y => if y = f' then some u' else if y = f then some u else none) → R (.ok (.ret .none)) ⟨h', g, d, t', os⟩) :
    codeAny (model prog w) A (.call (.ref fI) ⟨[.ref e, u, u'], []⟩) R ⟨h, g, d, t, os⟩ := by
  obtain ⟨oc, od, kV, doc, pm, an, ct, osl, hf⟩ := S.fn
  refine ks_codeAny_call_defAt (binds := [(xs, .ref e), (xp, u), (xp', u')]) room (X _ _ hf) rfl lim (codeRec_of X S.cod) rfl (hbind _ _ _ _ _) hcell ?_ (fun h1 hns k1 => ?_) hco hgen hk
  · intro y hy
    rcases List.mem_cons.mp hy with e1 | hy
    · subst e1; exact hka
    · rcases List.mem_cons.mp hy with e1 | hy
      · subst e1; exact hkb
      · rcases List.mem_cons.mp hy with e1 | hy
        · subst e1; exact hkb'
        · cases hy
  have X1 : K.In h1 := X.keeps k1
  have v1 : (List.lookup xs [(xs, Value.ref e), (xp, u), (xp', u')].reverse) = some (.ref e) := by
    show List.lookup xs [(xp', u'), (xp, u), (xs, Value.ref e)] = _
    rw [List.lookup_cons, show (xs == xp') = false by simpa using hne', List.lookup_cons, show (xs == xp) = false by simpa using hne, List.lookup_cons, show (xs == xs) = true by simp]
  have v2 : (List.lookup xp [(xs, Value.ref e), (xp, u), (xp', u')].reverse) = some u := by
    show List.lookup xp [(xp', u'), (xp, u), (xs, Value.ref e)] = _
    rw [List.lookup_cons, show (xp == xp') = false by simpa using hne2, List.lookup_cons, show (xp == xp) = true by simp]
  have v3 : (List.lookup xp' [(xs, Value.ref e), (xp, u), (xp', u')].reverse) = some u' := by
    show List.lookup xp' [(xp', u'), (xp, u), (xs, Value.ref e)] = _
    rw [List.lookup_cons, show (xp' == xp') = true by simp]
  obtain ⟨mb, b1, b2⟩ := bl
  refine ks_wpAt_execs_cons (super_init (m := fun y => List.lookup y [(xs, Value.ref e), (xp, u), (xp', u')].reverse) S X1 (gl.keeps k1) ⟨mb, b1.keeps k1, b2⟩ hns hp (by rw [har]; exact v1) (k1 _ _ he) hks hkc (by rw [har]; exact hka) hk (hev _) (hi _) (hs _) (hse _) (fun h2 t2 t3 k2 e2 => ?_))
  have X2 : K.In h2 := fun b o z => k2 b o (fun q => by rw [q, hke] at z; cases z) (X1 b o z)
  have hLe : h.objs.size ≠ e := fun q => absurd (Heap.lt_size he) (by rw [← q]; exact Nat.lt_irrefl _)
  have hns2 : h2.Ns h.objs.size (fun y => List.lookup y [(xs, Value.ref e), (xp, u), (xp', u')].reverse) := by
    obtain ⟨oL, es, ep, hL, r⟩ := hns
    exact ⟨oL, es, ep, k2 _ _ hLe hL, r⟩
  have sz : h.objs.size < h2.objs.size := by
    obtain ⟨oL, es, ep, hL, r⟩ := hns2
    exact Heap.lt_size hL
  refine ks_wpAt_execs_cons (wpAt_of_wpAny ?_)
  refine fld_new (m := fun y => List.lookup y [(xs, Value.ref e), (xp, u), (xp', u')].reverse) S.oex X2 hns2 hk hka v1 hkb v2 d1 d2 e2 hno (hs2 _) (fun h3 t4 dx k3 n3 ne3 e3 hd3 => ?_)
  have X3 : K.In h3 := fun b o z => k3 b o (fun q => by rw [q, hke] at z; cases z) (X2 b o z)
  have hns3 : h3.Ns h.objs.size (fun y => List.lookup y [(xs, Value.ref e), (xp, u), (xp', u')].reverse) := by
    obtain ⟨oL, es, ep, hL, r⟩ := hns2
    exact ⟨oL, es, ep, k3 _ _ hLe hL, r⟩
  refine wpAt_of_wpAny ?_
  refine wpAny_execs_cons ?_
  refine fld_old (m := fun y => List.lookup y [(xs, Value.ref e), (xp, u), (xp', u')].reverse) (nl := [f]) S.oex X3 hns3 hk hka v1 hkb' v3 d1 d3 e3 hd3 (fun y hy => ?_) (by show 1 ≤ 1000; decide) hno' (hs3 _) (fun h4 t5 k4 hd4 => ?_)
  · by_cases z : y = f
    · rw [z]; exact List.mem_singleton.mpr rfl
    · exact absurd (if_neg z) hy
  refine wpAny_pure ?_
  refine hq h4 _ ⟨dx, t3, fun b o hb z => ?_, by omega, ne3, k4 _ _ (fun q => ne3 q.symm) e3, hd4⟩
  have hlt := Heap.lt_size z
  exact k4 b o (Nat.ne_of_lt (Nat.lt_of_lt_of_le hlt (Nat.le_trans (Nat.le_of_lt sz) n3))) (k3 b o hb (k2 b o hb (k1 b o z)))
end
open L2
/-- what C(e1, e2) makes -/
def tMk2 (C : Addr) (f f' : Str) (ta : TA) : L2.St → Hp → XK → Prop := fun σ H Q => ta σ H fun vs H1 => ∃ y y', vs = [y, y'] ∧ ∀ dx, H1 dx = none → Q (.ref C) (some dx) (upd H1 dx (.xd [(f', y'), (f, y)]))
def Ini2 (prog : Program) (w : World) (K : Frag) (mg : Str → Option Value) (C fI : Addr) (f f' : Str) : Prop :=
  ∀ (A : Around) (R : Result → Shared → Prop) (h : Heap) (g : Array GenState) (d : Drawn) (t : Nat) (os : OsState) (e t0 : Addr) (u u' : Value), K.In h → h.Ns mainGlobals mg → (∃ mb, h.Ns builtinsNs mb ∧ ∀ x : Str, x ≠ "__name__" → mb x = bootBuiltins x) → h.NoLimit → A.depth < recursionLimit → h.get? e = some (excO C t0) → K.lookup e = none →
    (∀ h' t', Made h h' e C (fun y => if y = f' then some u' else if y = f then some u else none) → R (.ok (.ret .none)) ⟨h', g, d, t', os⟩) → codeAny (model prog w) A (.call (.ref fI) ⟨[.ref e, u, u'], []⟩) R ⟨h, g, d, t, os⟩
section
variable {X : Cx} {x : Str} {C fI : Addr} {f f' : Str} {e1 e2 : Expr} {ta : TA} {p pos : Pos}
theorem pmk_sup2 {k : Nat} (T : OexC X.K C) (iC : PySem.W.findIn X.K (.ref C) "__init__" = some (some (.ref fI))) (tI : PySem.W.typeIn X.K (.ref fI) = some (.type "function")) (J : Ini2 X.prog X.w X.K X.mg C fI f f')
    (hr : Room (k + 1) X.A) (hg : Gl X x) (hm : X.mg x = some (.ref C)) (ha : PA X [e1, e2] ta)
    (hdb : (x == ("__debug__" : Str)) = false := by decide) (he : starEach [e1, e2] X.env = (false, eval e1 X.env) :: starEach [e2] X.env := by rfl) (hpl : (backTo pos (starEach [e2] X.env)).any (·.1) = false := by rfl) :
    PMk X (.Call (.Name x p) [e1, e2] [] pos) (tMk2 C f f' ta) := by
  intro pins s σ H Q I h
  obtain ⟨nm, q, N, bs, bm, sn, sub, ab, col, dd, k0, k1, k2, k3, k5, hC, hbm⟩ := T.cls
  refine wpAny_Call_Name_kw (ld_glob I hg hm ?_ hdb)
  refine PySem.W.callWith_K (h₀ := X.base) I.ok.mod.kin T.kC (thn (ha.run pos pins s σ H _ I h) fun us s1 ⟨vs, H1, I1, r1, y, y', ev, q1⟩ => ⟨I1.kIn, ?_⟩) he hpl
  show wpAny _ _ (call (.ref C) us) _ _ _
  subst ev
  obtain ⟨u, u', rfl, ry, ry'⟩ := vals2 r1
  obtain ⟨hp, g, dr, tk, os⟩ := s1
  have kk : ∀ b o, hp.get? b = some o → ((hp.push (PySem.W.kdv_tup [u, u'])).push (PySem.HandSPX.excO C hp.objs.size)).get? b = some o := fun b o e => Heap.get?_push_of_some _ (Heap.get?_push_of_some _ e)
  have hget : ((hp.push (PySem.W.kdv_tup [u, u'])).push (PySem.HandSPX.excO C hp.objs.size)).get? (hp.objs.size + 1) = some (PySem.HandSPX.excO C hp.objs.size) := by heap_get
  have hno : ∀ o, hp.get? (hp.objs.size + 1) ≠ some o := fun o z => absurd (Heap.lt_size z) (Nat.not_lt_of_le (Nat.le_succ _))
  have hkn : X.K.lookup (hp.objs.size + 1) = none := by
    cases z : X.K.lookup (hp.objs.size + 1) with
    | none => rfl
    | some o => exact absurd (I1.kIn _ _ z) (hno o)
  have hn : H1 (hp.objs.size + 1) = none := I1.hok.fresh (Nat.le_succ _)
  obtain ⟨mb, b1, b2⟩ := I1.mod.blt
  refine wpAny_call (PySem.HandSPX.call_own F.excBase_ValueError (fun Y => PySem.HandSPX.refsVE_contains Y bm hbm) (I1.kIn _ _ hC) (PySem.W.looks_findIn I1.kIn iC) (fun self => PySem.W.bind_fn I1.kIn self tI) (by show 2 ≤ sizeLine; decide)
    (J _ _ _ _ _ _ _ (hp.objs.size + 1) hp.objs.size u u' (I1.kIn.keeps kk) ((I1.mod.glob.keeps I1.bk).keeps kk) ⟨mb, (b1.keeps I1.bk).keeps kk, b2⟩ ((I1.mod.nolimit.keeps I1.bk).keeps kk) (hr.make C [u, u'] []).depth hget hkn (fun h' t' M => ?_)))
  obtain ⟨dx, t1, m1, m2, m3, m4, m5⟩ := M
  have hsz : hp.objs.size ≤ dx := Nat.le_trans (by rw [Heap.size_push, Heap.size_push]; omega) m2
  obtain ⟨G, g1', g2'⟩ := restrict h' fun b => decide (b ≠ hp.objs.size + 1)
  have gk : ∀ b, b ≠ hp.objs.size + 1 → G.get? b = h'.get? b := fun b hb => g1' b (decide_eq_true hb)
  have ge : G.get? (hp.objs.size + 1) = none := g2' _ (by simp)
  have nha : ∀ {b : Addr} {o : Obj}, hp.get? b = some o → b ≠ hp.objs.size + 1 := fun {b o} z e => hno o (e ▸ z)
  have kG : ∀ b o, hp.get? b = some o → G.get? b = some o := fun b o z => by rw [gk b (nha z)]; exact m1 b o (nha z) (kk b o z)
  have rel : ∀ g, RelO ([(f', y'), (f, y)].lookup g) (if g = f' then some u' else if g = f then some u else none) := relO_put (fs := [(f, y)]) (mA := fun g => if g = f then some u else none) ry' (relO_put (fs := []) (mA := fun _ => none) ry fun _ => True.intro)
  have I2 : Inv X pins σ (upd H1 dx (.xd [(f', y'), (f, y)])) ⟨G, g, dr, t', os⟩ := I1.laid (t' := t') kG hsz (show ObjOk X.prog X.w _ _ _ (.xd [(f', y'), (f, y)]) from ⟨_, m5.at fun o z => (gk dx m3).trans z, rel⟩)
  refine ⟨rfl, hp.objs.size + 1, _, _, ⟨G, g, dr, t', os⟩, _, .ref C, some dx, rfl, I2, fun b o z => ?_, ge, m4, ⟨rfl, rfl⟩, rfl, rfl, ?_, rfl, I1.bare, raises_own T.exC T.tyC, q1 dx (I1.hok.fresh hsz)⟩
  · by_cases hb : b = hp.objs.size + 1
    · rw [hb, ge] at z; cases z
    · exact (gk b hb).symm.trans z
  · rw [upd_ne (Ne.symm m3)]; exact hn
end
open LK
/-- what a law knows of an error's class with two fields -/
structure Xk2 (P : Program) (w : World) (K : PySem.W.Frag) (mg : Str → Option Value) (xt : XT) (x : Str) (k : Nat) (f f' : Str) : Prop where
  gC : mg x = some (.ref (xt.cls k))
  T : OexC K (xt.cls k)
  ini : ∃ fI, PySem.W.findIn K (.ref (xt.cls k)) "__init__" = some (some (.ref fI)) ∧ PySem.W.typeIn K (.ref fI) = some (.type "function") ∧ Ini2 P w K mg (xt.cls k) fI f f'
  flds : xt.flds k = [f, f']
  ne : f ≠ f'
end LKX
namespace LK
open PySem L2 LKX PyProof.Rows
theorem gk_raise2 {F0 H0 : Hp} {G : List Slot} {te te' : TE} {T : XT} {α β : Type} {r : Rp α} {r' : Rp β} [Mo r] [Tod r] [Mo r'] [Tod r'] {a : α} {b : β} {C : Addr} {f f' : Str} {W : WX} {D : Ends} {k : Nat} (h : Ed F0 H0 te G .sh r a) (h' : Ed F0 H0 te' G .sh r' b) (hC : T.cls k = C) (hf : T.flds k = [f, f']) (hne : f ≠ f')
    (hx : ∀ σ F H, EnvOk F0 H0 G σ F H → ∀ cls d, rEr T F cls d (k, [Tod.d r a, Tod.d r' b]) → W cls d σ H) : Gk F0 H0 (fun σ H => tMk2 C f f' (tCons te (tCons te' tNil)) σ H fun cls d H' => W cls d σ H') G := fun σ F H E =>
  h σ F H E _ fun v F1 H1 g1 hv => h' σ F1 H1 (E.gro g1) _ fun v' F2 H2 g2 hv' => ⟨v, v', rfl, fun dx hd => by
    have n := Ex.new (o := .xd [(f', v'), (f, v)]) (g2.fh.back hd)
    have hv2 : r F2 v a := mox g2.ff hv
    refine hx σ (upd F2 dx (.xd [(f', v'), (f, v)])) _ (E.gro ((g1.trans g2).trans (Gr.new g2.fh hd))) _ _ ⟨by rw [← hC], dx, _, rfl, upd_same, fun i g x e1 e2 => ?_⟩
    rw [hf] at e1
    match i, e1, e2 with
    | 0, e1, e2 =>
      have e1 : f = g := Option.some.inj e1
      have e2 : Tod.d r a = x := Option.some.inj e2
      subst e1; subst e2
      exact ⟨v, by rw [List.lookup_cons, show (f == f') = false by simpa using hne]; simp [List.lookup], Tod.to (mox n hv2)⟩
    | 1, e1, e2 =>
      have e1 : f' = g := Option.some.inj e1
      have e2 : Tod.d r' b = x := Option.some.inj e2
      subst e1; subst e2
      exact ⟨v', by simp [List.lookup], Tod.to (mox n hv')⟩
    | i + 2, e1, e2 => simp at e1⟩
end LK
namespace LJ
open PySem L2 LK LKX LKB PyProof.Rows PySem.Spec
structure XK2 (P : Program) (w : World) (K : PySem.W.Frag) (mg : Str → Option Value) (xt : XT) (x : Str) (k : Nat) (f f' : Str) : Prop extends Xk2 P w K mg xt x k f f' where
  xf : XfC K (xt.cls k)
  hno : PySem.W.findIn K (.ref (xt.cls k)) f = some none
  hno1 : PySem.W.findIn K (.ref (xt.cls k)) f' = some none
  ex : ExcC K (xt.cls k)
section
variable {C : Cn} {β ρ ε Z S' S1 Zx : Type} {J : Jn β ρ ε Z} {G : List LK.Slot} {slk : S' → List LK.Slot} {rest body suite : List Stmt} {e e' : Expr} {pos p pos2 : Pos} {m : Md}
theorem xb_raise2 {α γ : Type} {r : Rp α} {r' : Rp γ} [Mo r] [t : Tod r] [Mo r'] [t' : Tod r'] {f : R Er α} {f' : R Er γ} {x fl fl' : Str} {k j : Nat} (z : Z) (hz : Lw G (J.slz z)) (X1 : Xk2 C.X.prog C.X.w C.X.K C.X.mg C.T x k fl fl') (hr : Room (j + 1) C.X.A) (he : XE C e G .sh r f) (he' : XE C e' G .sh r' f') (hc : C.X.calm = true := by rfl) (hg : Gl C.X x := by rfl)
    (hdb : (x == ("__debug__" : Str)) = false := by decide) (hs : starEach [e, e'] C.X.env = (false, eval e C.X.env) :: starEach [e'] C.X.env := by exact star_cons rfl) (hs' : starEach [e'] C.X.env = (false, eval e' C.X.env) :: starEach [] C.X.env := by exact star_cons rfl) (hpl : (backTo pos (starEach [e'] C.X.env)).any (·.1) = false := by rfl) :
    XB C J (.Raise (some (.Call (.Name x p) [e, e'] [] pos)) none pos2 :: rest) G slk (fun _ => f.thn (fun y => J.em y z) fun a => f'.thn (fun y => J.em y z) fun b => .er (J.em (k, [t.d a, t'.d b]) z)) := ⟨fun F0 H0 A D an k' hk hA σ F H E => by
  have he := he.h F0 H0; have he' := he'.h F0 H0
  obtain ⟨fI, i1, i2, i3⟩ := X1.ini
  refine tS_le (pss_cons (ps_raise hc C.tk (pmk_sup2 X1.T i1 i2 i3 hr hg X1.gC (pa_cons pE (pa_cons pE pa_nil hs') hs) hdb hs hpl)) pS) ?_
  cases f with
  | no => exact (an.no hA).elim
  | er y => exact he σ F H E (an.air hz hA E) _
  | ok a =>
    cases f' with
    | no => exact (an.no hA).elim
    | er y => exact he σ F H E _ fun v F1 H1 g1 hv => he' σ F1 H1 (E.gro g1) (an.air hz hA (E.gro g1)) _
    | ok b => exact gk_raise2 (T := C.T) (r := r) (r' := r') (k := k) (W := C.W) (D := D) he he' rfl X1.flds X1.ne (fun σ F H E' cls d r => an.er _ z hA σ F H cls d (E'.weak hz) r) σ F H E⟩
end
end LJ
namespace LKX
open PySem PySem.W PySem.Calls PyProof.Rows PySem.HandSPX L2
/-- a try whose body does not raise -/
theorem ps_tryNo {X : Cx} {body : List Stmt} {h₀ : ExceptHandler} {hds : List ExceptHandler} {pos : Pos} {tb : TS} (hb : ∀ pn : List (Addr × Obj), PSs (X.tr pn fun _ _ => False) body tb) : PS X (.Try body (h₀ :: hds) [] [] pos) tb := by
  refine ⟨fun pins s σ H D I h => ?_⟩
  have ok := I.ok
  have land : ∀ {f : Flow} {s1 : Shared}, SP (X.tr (X.pn ++ pins) (fun _ _ => False)) [] D f s1 → SP X pins D f s1 := fun {f s1} hsp => by
    cases f with
    | ret u => obtain ⟨v, σ', H', J, r, q⟩ := hsp; exact ⟨v, σ', H', J.ofTry ok, r, q⟩
    | next => obtain ⟨σ', H', J, q⟩ := hsp; exact ⟨σ', H', J.ofTry ok, q⟩
    | brk => obtain ⟨σ', H', J, q⟩ := hsp; exact ⟨σ', H', J.ofTry ok, q⟩
    | cont => obtain ⟨σ', H', J, q⟩ := hsp; exact ⟨σ', H', J.ofTry ok, q⟩
  refine wpAny_Try_except (wpAny_mono ((hb (X.pn ++ pins)).run [] s σ H D (I.toTry _) h) (fun f s1 hsp => ?_) (fun e s1 he => he.elim))
  have q := land hsp
  cases f with
  | next => exact wpAny_execs_nil q
  | ret u => exact q
  | brk => exact q
  | cont => exact q
end LKX
namespace LJ
open PySem L2 LK LKX LKB PyProof.Rows PySem.Spec
theorem xb_tryNo {C : Cn} {β ρ ε Z S' S1 Zx : Type} {J : Jn β ρ ε Z} {G : List LK.Slot} {slk : S' → List LK.Slot} {rest body : List Stmt} {pos : Pos} {slx : Zx → List LK.Slot} {slj : S1 → List LK.Slot} {h₀ : ExceptHandler} {hds : List ExceptHandler} {Mb : (S1 → R (Er × Zx) ((β × Zx) ⊕ S1)) → R (Er × Zx) ((β × Zx) ⊕ S1)} {M : S1 → (S' → R ε ρ) → R ε ρ}
    (zz : Zx → Z) (hzz : ∀ z, Lw (slx z) (J.slz (zz z)))
    (hb : ∀ pn xe W (tk : Takes (C.X.tr pn xe) W), PassesOwn (model C.X.prog C.X.w) C.X.A C.X.env xe → XB (cnT C pn xe W tk) (jnT J slx S1) body G slj Mb) (hr : ∀ s, XB C J rest (slj s) slk (M s)) :
    XB C J (.Try body (h₀ :: hds) [] [] pos :: rest) G slk (fun k => tryR (Mb fun s => .ok (.inr s)) (fun b z => .ok (J.ret b (zz z))) (fun s => M s k) (fun _ => .no)) := ⟨fun F0 H0 A D an k hk hA σ F H E => by
  refine tS_le (pss_cons (ps_tryNo (tb := fun D σ H => ∀ pn, tS (C.X.tr pn fun _ _ => False) body D σ H) (fun pn => ⟨fun pins s σ H D I h => pS.run pins s σ H D I (h pn)⟩)) pS) ?_
  intro pn
  exact (hb pn (fun _ _ => False) (fun _ _ _ _ => False) takes0 PassesOwn.never).h F0 H0 (fun r => A (tryR r (fun b z => .ok (J.ret b (zz z))) (fun s => M s k) (fun _ => .no))) { D with nx := tS C.X rest D } ⟨fun h => an.no h, fun b z h σ F H v E => an.ret b (zz z) h σ F H v (E.weak ⟨.inr rfl, hzz z⟩), fun e z h σ F H cls d E r => (an.no h).elim⟩ (fun s => .ok (.inr s)) (fun s h => (hr s).h F0 H0 A D an k hk h) hA σ F H E⟩
end LJ

set_option Elab.async false
set_option linter.all false
set_option maxRecDepth 100000
set_option maxHeartbeats 4000000
set_option autoImplicit false
/-! LO5: a dict is walked (locked meanwhile), d.pop(k), tuple + tuple, x[i] += e. -/
namespace LK
open PySem L2 PyProof.Rows
/-! ### a lock -/
def lkd (p : Addr) (od : Obj) (u : HO) (H : Hp) : Hp := fun a => if a = p then (match H p with
  | some _ => some (.frz od u)
  | none => none) else H a
theorem lkd_eq {p : Addr} {od : Obj} {u o : HO} {H : Hp} (h : H p = some o) : lkd p od u H = upd H p (.frz od u) := by
  funext a
  unfold lkd upd
  by_cases e : a = p
  · rw [if_pos e, if_pos e, h]
  · rw [if_neg e, if_neg e]
theorem exs_upd {p : Addr} {u u' : HO} {F : Hp} (h : F p = some u) (hc : core u = core u') (hd : isD (core u) = true) : Exs F (upd F p u') := fun a o e => by
  by_cases ha : a = p
  · subst ha
    rw [h] at e; cases e
    exact ⟨_, upd_same, .inr ⟨hc, hd⟩⟩
  · exact ⟨o, by rw [upd_ne ha]; exact e, .inl rfl⟩
section
variable {F0 H0 F H : Hp} {G : List Slot} {σ : L2.St} {p : Addr} {kvs : List (Key × V)} {od : Obj}
theorem EnvOk.locked (E : EnvOk F0 H0 G σ F H) (hF : F p = some (.dK kvs)) : EnvOk (upd F p (.frz od (.dK kvs))) (lkd p od (.dK kvs) H0) G σ (upd F p (.frz od (.dK kvs))) (upd H p (.frz od (.dK kvs))) := by
  obtain ⟨fp, E⟩ := E
  have hH := E.gr.fh _ _ hF
  have e1 : Exs F (upd F p (.frz od (.dK kvs))) := exs_upd hF rfl rfl
  have e0 : Exs H0 (lkd p od (.dK kvs) H0) := fun a o e => by
    by_cases ha : a = p
    · subst ha
      have z := E.gr.hh a o e
      rw [hH] at z
      cases z
      exact ⟨.frz od (.dK kvs), by rw [lkd_eq e]; exact upd_same, .inr ⟨rfl, rfl⟩⟩
    · refine ⟨o, ?_, .inl rfl⟩
      show (if a = p then _ else H0 a) = some o
      rw [if_neg ha]; exact e
  refine ⟨fp, ⟨Ex.refl _, fun a o e => ?_, fun a o e => ?_, fun a o h1 h2 => by rw [h1] at h2; cases h2⟩, E.len, fun i s h => ?_, E.dj⟩
  · by_cases ha : a = p
    · subst ha; rw [upd_same] at e ⊢; exact e
    · rw [upd_ne ha] at e ⊢; exact E.gr.fh a o e
  · by_cases ha : a = p
    · subst ha
      have e : (if a = a then (match H0 a with
        | some _ => some (HO.frz od (.dK kvs))
        | none => none) else H0 a) = some o := e
      rw [if_pos rfl] at e
      rw [upd_same]
      cases z : H0 a with
      | none => rw [z] at e; cases e
      | some _ => rw [z] at e; exact e
    · have e : (if a = p then _ else H0 a) = some o := e
      rw [if_neg ha] at e
      rw [upd_ne ha]; exact E.gr.hh a o e
  · obtain ⟨x, hx, ok⟩ := E.at_ i s h
    refine ⟨x, hx, ?_⟩
    cases s with
    | no => trivial
    | fz r im a => obtain ⟨v, e, q⟩ := ok; exact ⟨v, e, im.mo e1 q⟩
    | bw r im a => obtain ⟨v, e, q⟩ := ok; exact ⟨v, e, im.mo e0 q⟩
    | ow M im =>
      obtain ⟨q, e, g1, g2⟩ := ok
      have np : ∀ a ∈ fp i, a ≠ p := fun a ha z => by
        have := (g1 a ha).1
        rw [z, hF] at this; cases this
      refine ⟨q, e, fun a ha => ⟨by rw [upd_ne (np a ha)]; exact (g1 a ha).1, ?_⟩, im.mo e1 (fun a ha => upd_ne (np a ha)) g2⟩
      show (if a = p then _ else H0 a) = none
      rw [if_neg (np a ha)]; exact (g1 a ha).2
end
/-- a thing at a known address -/
def rA {α : Type} (r : Rp α) (p : Addr) : Rp α := fun F v a => v = .ref p ∧ r F v a
instance {α : Type} (r : Rp α) [im : Mo r] (p : Addr) : Mo (rA r p) := ⟨fun e h => ⟨h.1, im.mo e h.2⟩⟩
section
variable {F0 H0 F H : Hp} {G : List Slot} {σ : L2.St} {p : Addr} {α : Type} {r : Rp α} [im : Mo r] {a : α} {i : Nat}
theorem EnvOk.toA {iM : Mo r} (E : EnvOk F0 H0 G σ F H) (hi : G[i]? = some (.fz r iM a)) (hx : σ[i]? = some (some (.ref p))) : EnvOk F0 H0 (G.set i (sF (rA r p) a)) σ F H := by
  obtain ⟨v, hv, h⟩ := E.fz_at hi
  rw [hx] at hv
  cases Option.some.inj (Option.some.inj hv)
  have := E.set (i := i) (v := .ref p) (s := sF (rA r p) a) ⟨_, rfl, rfl, h⟩ (fun _ _ z => nomatch z)
  rw [set_same' hx] at this
  exact this
theorem EnvOk.unA {iM : Mo r} (E : EnvOk F0 H0 (G.set i (sF (rA r p) a)) σ F H) (hi : G[i]? = some (.fz r iM a)) : EnvOk F0 H0 G σ F H := by
  have hil := (List.getElem?_eq_some_iff.mp hi).1
  obtain ⟨v, hv, hv2, h⟩ := E.fz_at (i := i) (List.getElem?_set_self hil)
  have := E.set (i := i) (v := v) (s := .fz r iM a) ⟨_, rfl, h⟩ (fun _ _ z => nomatch z)
  rw [set_same' hv, List.set_set, set_same' hi] at this
  exact this
end
theorem ei_keysA {κ β : Type} {rk : Rp κ} [ke : Ke rk] {rv : Rp β} [Mo rk] [Mo rv] {F0 H0 : Hp} {G : List Slot} {p : Addr} {o : Obj} {kvs : List (Key × V)} {d : List (κ × β)} {i : Nat} (hi : G[i]? = some (sF (rA (rDk rk rv) p) d)) (hF : F0 p = some (.frz o (.dK kvs))) (hp : Paired (PK rk rv F0) kvs d) (hl : d.length ≤ 16777216) :
    Ei F0 H0 (iKeys (tVar i)) G .sh rk (d.map (·.1)) := fun σ F H E R q => by
  obtain ⟨v, hx, rfl, _⟩ := E.fz_at hi
  have hlen := plen hp
  have at_ : ∀ F' H', Ex F F' → Ex F' H' → H' p = some (.frz o (.dK kvs)) := fun F' H' e1 e2 => e2 _ _ (e1 _ _ (E.gr.ff _ _ hF))
  refine ⟨_, hx, p, o, rfl, .inl ⟨kvs, E.gr.fh _ _ (E.gr.ff _ _ hF), q _ F H (Gr.refl E.gr.fh) ⟨fun j F' H' e1 e2 e3 hj => ⟨at_ F' H' e1 e2, by rw [List.length_map] at hj; omega⟩, fun F' H' e1 e2 e3 => ⟨at_ F' H' e1 e2, by rw [List.length_map]; omega⟩, fun j F' H' v H'' e1 e2 e3 hj y => ?_⟩ (by rw [List.length_map]; exact hl)⟩⟩
  obtain ⟨rfl, k, w, hk, rfl⟩ := y
  rw [List.length_map] at hj
  obtain ⟨x, hx1, hx2⟩ : ∃ x, d[j]? = some x ∧ PK rk rv F0 (k, w) x := by
    obtain ⟨u, hu, hpk⟩ := pget hp (List.getElem?_eq_getElem hj)
    rw [hk] at hu
    cases hu
    exact ⟨_, List.getElem?_eq_getElem hj, hpk⟩
  exact ⟨x.1, F', by rw [List.getElem?_map, hx1]; rfl, Gr.refl e2, mox (E.gr.ff.trans e1) hx2.2.1⟩
/-! ### t + u -/
theorem ed_catU {α : Type} {r : Rp α} [Mo r] {F0 H0 : Hp} {G : List Slot} {K : PySem.W.Frag} {ta tb : TE} {x y : List α} (hx : Ed F0 H0 ta G .sh (rTup r) x) (hy : Ed F0 H0 tb G .sh (rTup r) y) (hl : x.length + y.length ≤ 16777216) : Ed F0 H0 (tOp (rCatA K) ta tb) G .sh (rTup r) (x ++ y) :=
  ed_bin hx hy fun v w F H g0 hv hw Q q => by
    obtain ⟨a, xs, rfl, h1, h2, h3⟩ := hv
    obtain ⟨b, ys, rfl, k1, k2, k3⟩ := hw
    have fh := g0.fh
    refine ⟨a, b, xs, ys, rfl, rfl, SqT.of (fh _ _ h1), SqT.of (fh _ _ k1), by rw [plen h3, plen k3]; exact sz_le hl, fun e => ?_, fun _ e => ?_, fun _ _ p hp => ?_⟩
    · subst e
      cases h3
      exact q _ F H (Gr.refl fh) ⟨b, ys, rfl, k1, k2, k3⟩
    · subst e
      cases k3
      exact q _ F H (Gr.refl fh) ⟨a, xs, rfl, h1, by rw [List.append_nil]; exact h2, by rw [List.append_nil]; exact h3⟩
    · have n := Ex.new (o := .tup (xs ++ ys)) (fh.back hp)
      exact q _ _ _ (Gr.new fh hp) ⟨p, _, rfl, upd_same, by rw [List.length_append]; exact hl, papp (pmap (fun _ _ z => mox n z) h3) (pmap (fun _ _ z => mox n z) k3)⟩
end LK
namespace LJ
open PySem L2 LK LKX LKB PyProof.Rows PySem.Spec
theorem xcatU {C : Cn} {G : List LK.Slot} {a b : Expr} {pos : Pos} {α : Type} {r : Rp α} [Mo r] {f g : R Er (List α)} (ha : XE C a G .sh (rTup r) f) (hb : XE C b G .sh (rTup r) g) : XE C (.BinOp a .Add b pos) G .sh (rTup r) (f.bind fun x => g.bind fun y => catLR x y) := x2 ha hb (pe_op op_catA pE pE) fun _ _ _ _ h1 h2 => dr_iff fun c => ed_catU h1 h2 c
section
variable {C : Cn} {G : List LK.Slot} {tg elt : Expr} {ifs : List Expr} {scope : Scope} {pos px : Pos} {x : Str}
/-- [elt for tg in d if ..], d a dict -/
theorem xlcK {κ γ β : Type} [Inhabited β] {rk : Rp κ} [ke : Ke rk] {rv : Rp γ} [Mo rk] [Mo rv] {r' : Rp β} [Mo r'] {d : List (κ × γ)} {iM : Mo (rDk rk rv)} {up : κ → List LK.Slot → List LK.Slot} {tl : List Nat} {pf : κ → R Er Bool} {ff : κ → R Er β} (i : Nat) (own : List (Str × Nat)) (G' : κ → List LK.Slot)
    (hi : G[i]? = some (.fz (rDk rk rv) iM d)) (hg : ∀ s H Cc cl fp, XG (cnB C s H scope Cc cl fp) tg .sh rk up tl) (hG : ∀ x p, up x (wipeG (G.set i (sF (rA (rDk rk rv) p) d)) (own.map (·.2))) = (G' x).set i (sF (rA (rDk rk rv) p) d)) (hGi : ∀ x, (G' x)[i]? = some (.fz (rDk rk rv) iM d))
    (ht : ∀ s H Cc cl fp x, XQs (cnB C s H scope Cc cl fp) ifs (G' x) (pf x)) (he : ∀ s H Cc cl fp x, XE (cnB C s H scope Cc cl fp) elt (G' x) .sh r' (ff x)) (hc : C.X.calm = true := by rfl) (hv : tl.all (fun j => decide (j ∈ own.map (·.2))) = true := by decide) (ok : blkC C.X.N C.X.env.scope scope own = true := by decide +kernel)
    (hN : C.X.N[i]? = some x := by rfl) (hvi : Vis C.X.env.scope x := by first | exact Or.inl rfl | exact Or.inr (Or.inl rfl) | exact Or.inr (Or.inr rfl)) (hd : (x == ("__debug__" : Str)) = false := by decide) (hcd : (x == ("__classdict__" : Str)) = false := by decide) (hs : ∀ z, foldedSetIterable (.Name x px) C.X.env z = pure z := by intro _; rfl) :
    XN C (.ListComp elt [⟨tg, .Name x px, ifs, 0⟩] scope pos) G (fun xs => sL r' xs) ((R.iff (d.length ≤ 16777216) (.ok (d.map (·.1)))).bind fun xs => R.mapR pf ff xs) := ⟨fun F0 H0 => by
  have a1 : ∀ (s : Shared) (H : Hp) (Cc : Addr) (cl : List (Str × Addr)) (fp : List Addr), PG (C.X.blk s H scope (compEnvC scope cl Cc C.X.env) fp) tg (bG C.X scope tg) := fun s H Cc cl fp => ⟨fun pins s' σ H' v u Q I r h => h s H Cc cl fp pins s' u I r⟩
  have a2 : ∀ (s : Shared) (H : Hp) (Cc : Addr) (cl : List (Str × Addr)) (fp : List Addr), PTs (C.X.blk s H scope (compEnvC scope cl Cc C.X.env) fp) ifs (bTs C.X scope ifs) := fun s H Cc cl fp => ⟨fun pins s' σ H' Q I h => h s H Cc cl fp pins s' I⟩
  have a3 : ∀ (s : Shared) (H : Hp) (Cc : Addr) (cl : List (Str × Addr)) (fp : List Addr), PE (C.X.blk s H scope (compEnvC scope cl Cc C.X.env) fp) elt (bE C.X scope elt) := fun s H Cc cl fp => ⟨fun pins s' σ H' Q I h => h s H Cc cl fp pins s' I⟩
  have pe : PE C.X (.ListComp elt [⟨tg, .Name x px, ifs, 0⟩] scope pos) (tLc (iKeys (tVar i)) (bG C.X scope tg) (bTs C.X scope ifs) (bE C.X scope elt) (own.map (·.2))) := pe_lc hc C.nd (pi_keys (pe_var hN hvi hd hcd)) (blkOk_by ok) a1 a2 a3 hs
  show Ds C F0 H0 _ G _ ((R.iff (d.length ≤ 16777216) (.ok (d.map (·.1)))).bind fun xs => R.mapR pf ff xs)
  unfold R.iff
  by_cases hln : ¬ d.length ≤ 16777216
  · rw [if_neg hln]; trivial
  have hl := Classical.not_not.mp hln
  rw [if_pos hl]
  show Ds C F0 H0 _ G _ (R.mapR pf ff (d.map (·.1)))
  cases hm : (R.mapR pf ff (d.map (·.1)) : R Er (List β)) with
  | no => trivial
  | er y => exact absurd hm (mapR_ner _)
  | ok ys =>
    obtain ⟨p', f', h1, rfl⟩ := map_ok hm
    have inner : ∀ (F1 H1 : Hp) (p : Addr) (o : Obj) (kvs : List (Key × V)), F1 p = some (.frz o (.dK kvs)) → Paired (PK rk rv F1) kvs d → En F1 H1 (tLc (iKeys (tVar i)) (bG C.X scope tg) (bTs C.X scope ifs) (bE C.X scope elt) (own.map (·.2))) (G.set i (sF (rA (rDk rk rv) p) d)) r' (((d.map (·.1)).filter p').map f') := fun F1 H1 p o kvs hF hp => by
      have hil := (List.getElem?_eq_some_iff.mp hi).1
      refine en_lc p' f' (ei_keysA (List.getElem?_set_self hil) hF hp hl) (m := .sh) (r := rk) (up := up) (tg := tl) (fun F0 G σ F H v x E hv Q q s H2 Cc cl fp => ((hg s H2 Cc cl fp).h H1).eg F0 G σ F H v x E hv Q q) (fun j hj => of_decide_eq_true (List.all_eq_true.mp hv j hj)) (fun F2 b x hx => ?_) (fun F2 b x hx hp => ?_)
      · rw [hG]
        exact fun σ F H E Q q s H2 Cc cl fp => tr_noers rfl ((ht s H2 Cc cl fp x).h F2 H1) (h1 x hx).1 σ F H (E.unA (hGi x)) Q q
      · rw [hG]
        exact fun σ F H E Q q s H2 Cc cl fp => dr_noer ((he s H2 Cc cl fp x).h F2 H1) ((h1 x hx).2 hp) σ F H (E.unA (hGi x)) Q q
    refine dv_en fun σ F H E Q q => ?_
    obtain ⟨v, hx, p, kvs, rfl, hrd, hpp⟩ := E.fz_at hi
    rcases hrd with hF | ⟨o, hF⟩
    · have hH := E.gr.fh _ _ hF
      refine tE_le (pe_lock pe) ⟨p, .dK kvs, hH, trivial, fun od => ?_⟩
      have E2 := (E.locked (od := od) hF).toA hi hx
      refine inner _ _ p od kvs upd_same (pmap (fun _ _ z => PK.mo (exs_upd (u' := .frz od (.dK kvs)) hF rfl rfl) z) hpp) σ _ _ E2 _ fun l vs F' H' g n1 n2 n3 n4 n5 => ?_
      have hF' : F' p = some (.frz od (.dK kvs)) := g.ff _ _ upd_same
      have hH' : H' p = some (.frz od (.dK kvs)) := g.hh _ _ upd_same
      have hlp : l ≠ p := fun z => by rw [z, upd_same] at n1; cases n1
      refine ⟨hH', q l vs (upd F' p (.dK kvs)) _ ⟨fun a u e => ?_, fun a u e => ?_, fun a u e => ?_, fun a u e n => ?_⟩ (by rw [upd_ne hlp] at n1; exact n1) (by rw [upd_ne hlp]; exact n2) (by rw [upd_ne hlp]; exact n3) n4 (pmap (fun _ _ z => Mo.mo (exs_upd (u' := .dK kvs) hF' rfl rfl) z) n5)⟩
      · by_cases ha : a = p
        · subst ha; rw [upd_same]; rw [hF] at e; exact e
        · rw [upd_ne ha]; exact g.ff a u (by rw [upd_ne ha]; exact e)
      · by_cases ha : a = p
        · subst ha; rw [upd_same] at e ⊢; exact e
        · rw [upd_ne ha] at e ⊢; exact g.fh a u e
      · by_cases ha : a = p
        · subst ha; rw [upd_same]; rw [hH] at e; exact e
        · rw [upd_ne ha]; exact g.hh a u (by rw [upd_ne ha]; exact e)
      · have ha : a ≠ p := fun z => by rw [z, hF] at n; cases n
        rw [upd_ne ha] at e
        have := g.nw a u e (by rw [upd_ne ha]; exact n)
        rw [upd_ne ha] at this; exact this
    · exact tE_le pe (inner F H0 p o kvs hF hpp σ F H (E.here.toA hi hx) Q q)⟩
end
section
variable {C : Cn} {β ρ ε Z S S' : Type} {J : Jn β ρ ε Z} {G : List LK.Slot} {slk : S' → List LK.Slot} {e ie : Expr} {rest : List Stmt} {pos p1 p2 p3 : Pos} {x : Str} {m : Md}
/-- d.pop(k) -/
theorem xb_dpop {κ γ : Type} {rk : Rp κ} [ke : Ke rk] {rv : Rp γ} [dk : DecidableEq κ] [mk : Mo rk] [mv : Mo rv] {g : R Er κ} {d : List (κ × γ)} {iM : MoM (mD rk rv d)} {M : List (κ × γ) → (S' → R ε ρ) → R ε ρ} (i : Nat) (G' : List (κ × γ) → List LK.Slot) (z : Z) (hz : Lw G (J.slz z)) (hi : G[i]? = some (.ow (mD rk rv d) iM))
    (hk : XE C ie G m rk g) (hG : ∀ a, G.set i (sD rk rv a) = G' a) (hr : ∀ a, XB C J rest (G' a) slk (M a))
    (hN : C.X.N[i]? = some x := by rfl) (hv : Vis C.X.env.scope x := by first | exact Or.inl rfl | exact Or.inr (Or.inl rfl) | exact Or.inr (Or.inr rfl)) (hd : (x == ("__debug__" : Str)) = false := by decide) (hcd : (x == ("__classdict__" : Str)) = false := by decide)
    (hm : M1 C.X (.Name x p1) "pop" p2 ie p3 := by exact ⟨rfl, rfl, rfl, rfl⟩)
    (hsw : swapsWith (.Call (.Attribute (.Name x p1) "pop" p2) [ie] [] p3) none pos.line C.X.env = pure false := by rfl) :
    XB C J (.Expr (.Call (.Attribute (.Name x p1) "pop" p2) [ie] [] p3) pos :: rest) G slk (fun k => g.thn (fun y => J.em y z) fun j => (R.iff ((getA d j).isSome = true) (.ok (dropA d j))).bind fun ys => M ys k) := ⟨fun F0 H0 A D an k hkk hA σ F H E => by
  have hk := hk.h F0 H0
  refine tS_le (pss_cons (ps_expr (pe_dpop1 (pe_var hN hv hd hcd) pE hm) hsw) pS) ?_
  obtain ⟨p, kvs, hx, h1, h2, h3, h4⟩ := E.d_at hi
  refine ⟨_, hx, p, rfl, .inl ⟨kvs, .inl h3⟩, ?_⟩
  cases g with
  | no => exact (an.no hA).elim
  | er y => exact hk σ F H E (an.air hz hA E) _
  | ok j =>
    have hA : A ((R.iff ((getA d j).isSome = true) (.ok (dropA d j))).bind fun ys => M ys k) := hA
    unfold R.iff at hA
    by_cases hs : (getA d j).isSome = true
    · rw [if_pos hs] at hA
      have hA : A (M (dropA d j) k) := hA
      refine hk σ F H E _ fun w F1 H1 g1 hw => ?_
      have E1 := E.gro g1
      obtain ⟨p', kvs', hx', k1, k2, k3, k4⟩ := E1.d_at hi
      rw [hx] at hx'
      cases Option.some.inj (Option.some.inj hx')
      rcases pk_get (k := j) k4 with ⟨_, z2⟩ | ⟨v, b, z1, z2, z3⟩
      · rw [z2] at hs; cases hs
      · refine ⟨kvs', ke.key j, v, k3, ke.of hw, z1, ?_⟩
        refine (hr _).h F0 H0 A D an k hkk hA σ F1 _ ?_
        rw [← hG]
        exact E1.mutD hi hx (pk_drop k4)
    · rw [if_neg hs] at hA; exact (an.no hA).elim⟩
end
end LJ

set_option Elab.async false
set_option linter.all false
set_option maxRecDepth 100000
set_option maxHeartbeats 4000000
set_option autoImplicit false
/-! LO6: x[i] += e, isinstance(d, dict). -/
namespace LK
open PySem PySem.Spec L2 PyProof.Rows
def rGetL (K : PySem.W.Frag) : V → V → Hp → VK → Prop := fun x y H Q => ∃ p xs i v, x = .ref p ∧ y = .int i ∧ 0 ≤ i ∧ SqL K H p xs ∧ xs[i.toNat]? = some v ∧ Q v H
theorem get_listN {X : Cx} : PGet X (rGetL X.K) := by
  intro pins s σ H x y v u Q I rx ry h
  obtain ⟨p, xs, i, z, rfl, rfl, h0, hq, he, q⟩ := h
  cases rx
  obtain ⟨t, rfl⟩ := ry
  obtain ⟨its, r, pl, hz⟩ := I.list hq
  obtain ⟨w, ew, rw'⟩ := r.get he
  have hl := r.length
  have hn := line63
  have hlt := (List.getElem?_eq_some_iff.mp he).1
  exact wpAny_getItem_list pl.isList h0 (by omega) (by simpa using ew) ⟨z, H, I, rw', q⟩
/-- isinstance(d, dict) -/
theorem call_isiD {X : Cx} : CallR X (.builtin "isinstance") (fun xs H Q => ∃ (a : Addr) (kvs : List (Key × V)), xs = [.ref a, .ty "dict"] ∧ Rd H a (.dK kvs) ∧ Q (.bl true) H) := by
  intro pins s σ H xs us Q I r h
  obtain ⟨a, kvs, rfl, hd, q⟩ := h
  obtain ⟨u1, u2, rfl, r1, r2⟩ := vals2 r
  cases (show u1 = Value.ref a from r1)
  have e2 := ClsV.eq (.ty "dict") r2
  subst e2
  obtain ⟨_, _, vs, _, p⟩ := (show ObjOk X.prog X.w H s.heap a (.dK kvs) from hd.ok I.hok)
  obtain ⟨o, es, ep, h1, h2, _⟩ := p
  exact PySem.W.kia_one PySem.W.kitx_dict I.kIn ⟨o, h1, h2.1⟩ (by rfl) (fun z => nomatch z) fun tk => ⟨.bl true, H, I.tok tk, rfl, q⟩
end LK
namespace LJ
open PySem L2 LK LKX LKB PyProof.Rows PySem.Spec
section
variable {C : Cn} {G : List LK.Slot} {a : Expr} {y : Str} {p p2 pos : Pos} {m1 : Md}
theorem xisiD {κ γ : Type} {rk : Rp κ} [ke : Ke rk] {rv : Rp γ} {f : R Er (List (κ × γ))} (ha : XE C a G m1 (rDk rk rv) f) (gD : C.X.mg y = none) (hb : C.X.mg "isinstance" = none) (hbt : bootBuiltins y = some (.type "dict") := by rfl)
    (hg : Gl C.X y := by rfl) (hdy : (y == ("__debug__" : Str)) = false := by decide) (hny : y ≠ "__name__" := by decide) (hgi : Gl C.X "isinstance" := by rfl) (h1 : starEach [a, .Name y p2] C.X.env = (false, eval a C.X.env) :: starEach [.Name y p2] C.X.env := by exact star_cons rfl) (h2 : starEach [.Name y p2] C.X.env = (false, eval (.Name y p2) C.X.env) :: starEach [] C.X.env := by exact star_cons rfl) (hpl : (backTo pos (starEach [.Name y p2] C.X.env)).any (·.1) = false := by rfl) :
    XE C (.Call (.Name "isinstance" p) [a, .Name y p2] [] pos) G .sh rBl (f.bind fun _ => .ok true) := ⟨fun F0 H0 => by
  have ha := ha.h F0 H0
  refine Dr.le (t := tCB (fun xs H Q => ∃ (a : Addr) (kvs : List (Key × V)), xs = [.ref a, .ty "dict"] ∧ Rd H a (.dK kvs) ∧ Q (.bl true) H) (tCons (tE C.X a) (tCons (tC (.ty "dict")) tNil))) ?_ fun _ _ _ q => tE_le (pe_callB call_isiD hgi hb boot_isinstance (pa_cons pE (pa_cons (pe_bltn (v := .ty "dict") hg gD hbt rfl hny hdy) pa_nil h2) h1) (by decide) (by decide) h1 hpl) q
  cases f with
  | no => trivial
  | er y => exact fun σ F H E w Q => ha σ F H E w _
  | ok x =>
    exact fun σ F H E Q q => ha σ F H E _ fun v F1 H1 g1 hv => by
      obtain ⟨q0, kvs, rfl, hd, _⟩ := hv
      exact ⟨q0, kvs, rfl, rd_now (E.gr.trans g1) rfl hd, q _ F1 H1 g1 rfl⟩⟩
end
section
variable {C : Cn} {β ρ ε Z S S' : Type} {J : Jn β ρ ε Z} {G : List LK.Slot} {slk : S' → List LK.Slot} {e ie : Expr} {rest : List Stmt} {pos p1 p2 p3 : Pos} {x : Str} {m m2 : Md}
/-- x[j] += e, ints -/
theorem xb_augI {mk : List Int → Mu} [ol : OwnL mk rInt] [im : ∀ xs, MoM (mk xs)] {xs : List Int} {g : R Er Int} {gi : R Er Int} {M : List Int → (S' → R ε ρ) → R ε ρ} (i : Nat) (G' : List Int → List LK.Slot) (z : Z) (hz : Lw G (J.slz z)) (hi : G[i]? = some (.ow (mk xs) (im xs))) (hj : XE C ie G m rInt gi) (he : XE C e G m2 rInt g)
    (hG : ∀ xs, G.set i (.ow (mk xs) (im xs)) = G' xs) (hr : ∀ xs, XB C J rest (G' xs) slk (M xs))
    (hN : C.X.N[i]? = some x := by rfl) (hv : Vis C.X.env.scope x := by first | exact Or.inl rfl | exact Or.inr (Or.inl rfl) | exact Or.inr (Or.inr rfl)) (hd : (x == ("__debug__" : Str)) = false := by decide) (hcd : (x == ("__classdict__" : Str)) = false := by decide)
    (ha : ∀ ov iv new, augStore ie ov iv new = (do holding [new, ov, iv] (setItem ov iv new); release [new, ov, iv] []; pure .next) := by intros; rfl) :
    XB C J (.AugAssign (.Subscript (.Name x p1) ie p3) .Add e pos :: rest) G slk (fun k => gi.thn (fun y => J.em y z) fun j => (R.iff (0 ≤ j ∧ j < xs.length) (.ok (ixD xs j))).bind fun v => g.thn (fun y => J.em y z) fun w => M (xs.set j.toNat (v + w)) k) := ⟨fun F0 H0 A D an k hk hA σ F H E => by
  have he := he.h F0 H0; have hj := hj.h F0 H0
  refine tS_le (pss_cons (ps_augS (pe_var hN hv hd hcd) pE get_listN pE ip_add set_list ha) pS) ?_
  obtain ⟨p, vs, hx, h1, h2, h3, h4, h5⟩ := E.lstO hi
  refine ⟨_, hx, ?_⟩
  cases gi with
  | no => exact (an.no hA).elim
  | er y => exact hj σ F H E (an.air hz hA E) _
  | ok j =>
    have hA : A ((R.iff (0 ≤ j ∧ j < xs.length) (.ok (ixD xs j))).bind fun v => g.thn (fun y => J.em y z) fun w => M (xs.set j.toNat (v + w)) k) := hA
    unfold R.iff at hA
    by_cases hjl : 0 ≤ j ∧ j < xs.length
    · rw [if_pos hjl] at hA
      have hA : A (g.thn (fun y => J.em y z) fun w => M (xs.set j.toNat (ixD xs j + w)) k) := hA
      refine hj σ F H E _ fun w F1 H1 g1 hw => ?_
      have E1 := E.gro g1
      obtain ⟨p', vs', hx', k1, k2, k3, k4, k5⟩ := E1.lstO hi
      rw [hx] at hx'
      cases Option.some.inj (Option.some.inj hx')
      have hl := plen k5
      obtain ⟨v, ev, rv⟩ := pat k5 (atI_ok (xs := xs) (i := j) ⟨by omega, hjl.2⟩)
      have ev2 : vs'[j.toNat]? = some v := by
        unfold atI ixN at ev
        rw [if_pos hjl.1, if_pos (by omega)] at ev
        exact ev
      refine ⟨p, vs', j, v, rfl, hw, hjl.1, SqL.of k3, ev2, ?_⟩
      cases g with
      | no => exact (an.no hA).elim
      | er y => exact he σ F1 H1 E1 (an.air hz hA E1) _
      | ok b =>
        have hA : A (M (xs.set j.toNat (ixD xs j + b)) k) := hA
        refine he σ F1 H1 E1 _ fun u F2 H2 g2 hu => ?_
        have E2 := E1.gro g2
        obtain ⟨p'', vs'', hx'', l1, l2, l3, l4, l5⟩ := E2.lstO hi
        rw [hx] at hx''
        cases Option.some.inj (Option.some.inj hx'')
        refine ⟨ixD xs j, b, rv, hu, p, vs'', j, j.toNat, rfl, hw, l3, ?_, ?_⟩
        · have hl2 := plen l5
          unfold ixN; rw [if_pos hjl.1, if_pos (by omega)]
        · refine (hr _).h F0 H0 A D an k hk hA σ F2 _ ?_
          rw [← hG]
          exact E2.mutO hi hx (by rw [List.length_set]; exact l4) (pset (show rInt F2 (.int (ixD xs j + b)) (ixD xs j + b) from rfl) _ l5)
    · rw [if_neg hjl] at hA; exact (an.no hA).elim⟩
end
end LJ

set_option Elab.async false
set_option linter.all false
set_option maxRecDepth 100000
set_option maxHeartbeats 4000000
set_option autoImplicit false
/-! LO7: what an own dict holds stays as it is. -/
namespace LJ
open PySem L2 LK LKX LKB PyProof.Rows PySem.Spec
section
variable {C : Cn} {G : List LK.Slot} {m2 : Md} {b c : Expr} {x : Str} {p1 apos pos : Pos} {κ β : Type} {rk : Rp κ} [ke : Ke rk] {rv : Rp β} [dk : DecidableEq κ] [mk : Mo rk] [mv : Mo rv]
theorem xdgetO {g : R Er κ} {d : List (κ × β)} {iM : MoM (mD rk rv d)} {n : Nat} (hr : Room n C.X.A) (i : Nat) (hb : XE C b G m2 rk g) (hi : G[i]? = some (.ow (mD rk rv d) iM) := by rfl)
    (hN : C.X.N[i]? = some x := by rfl) (hv : Vis C.X.env.scope x := by first | exact Or.inl rfl | exact Or.inr (Or.inl rfl) | exact Or.inr (Or.inr rfl)) (hd : (x == ("__debug__" : Str)) = false := by decide) (hcd : (x == ("__classdict__" : Str)) = false := by decide) (hs : NoSl b := by exact fun _ _ => rfl) :
    XE C (.Subscript (.Name x p1) b pos) G .sh rv (g.bind fun k => getR d k) := ⟨fun F0 H0 => by
  have hb := hb.h F0 H0
  refine Dr.le (t := tDGet (tVar i) (tE C.X b)) ?_ fun _ _ _ q => tE_le (pe_dget (by have := hr.units; omega) (pe_var hN hv hd hcd) pE hs) q
  cases g with
  | no => trivial
  | er y =>
    intro σ F H E w Q
    obtain ⟨p, kvs, hx, _⟩ := E.d_at hi
    exact ⟨_, hx, hb σ F H E w _⟩
  | ok k =>
    show Dr C F0 H0 _ G .sh rv (getR d k)
    unfold getR
    cases h : getA d k with
    | none => trivial
    | some v =>
      intro σ F H E Q q
      obtain ⟨p, kvs, hx, h1, h2, h3, h4⟩ := E.d_at hi
      refine ⟨_, hx, hb σ F H E _ fun w F1 H1 g1 hw => ?_⟩
      obtain ⟨u, e, ru⟩ := pk_some h4 h
      exact ⟨p, u, rfl, .inl ⟨kvs, _, .inl (g1.hh _ _ h3), ke.of hw, e.symm⟩, q u F1 H1 g1 (mox g1.ff ru)⟩⟩
theorem xdget2O {g : R Er κ} {h : R Er β} {d : List (κ × β)} {iM : MoM (mD rk rv d)} {n : Nat} (hr : Room n C.X.A) (i : Nat) (hb : XE C b G m2 rk g) (hc : XE C c G .sh rv h) (hi : G[i]? = some (.ow (mD rk rv d) iM) := by rfl)
    (hN : C.X.N[i]? = some x := by rfl) (hv : Vis C.X.env.scope x := by first | exact Or.inl rfl | exact Or.inr (Or.inl rfl) | exact Or.inr (Or.inr rfl)) (hd : (x == ("__debug__" : Str)) = false := by decide) (hcd : (x == ("__classdict__" : Str)) = false := by decide) (hm : M2 C.X (.Name x p1) "get" apos b c pos := by exact ⟨rfl, rfl, rfl, rfl⟩) :
    XE C (.Call (.Attribute (.Name x p1) "get" apos) [b, c] [] pos) G .sh rv (g.bind fun k => h.bind fun u => .ok ((getA d k).getD u)) := ⟨fun F0 H0 => by
  have hb := hb.h F0 H0; have hc := hc.h F0 H0
  refine Dr.le (t := tDGet2 (tVar i) (tE C.X b) (tE C.X c)) ?_ fun _ _ _ q => tE_le (pe_dget2 (by have := hr.units; omega) (pe_var hN hv hd hcd) pE pE hm) q
  cases g with
  | no => trivial
  | er y =>
    intro σ F H E w Q
    obtain ⟨p, kvs, hx, h1, h2, h3, h4⟩ := E.d_at hi
    exact ⟨_, hx, p, rfl, .inl ⟨kvs, .inl h3⟩, hb σ F H E w _⟩
  | ok k =>
    cases h with
    | no => trivial
    | er y =>
      intro σ F H E w Q
      obtain ⟨p, kvs, hx, h1, h2, h3, h4⟩ := E.d_at hi
      exact ⟨_, hx, p, rfl, .inl ⟨kvs, .inl h3⟩, hb σ F H E _ fun u F2 H2 g2 h2 => hc σ F2 H2 (E.gro g2) (fun F' H' cls d g z => w F' H' cls d (g2.trans g) z) _⟩
    | ok u =>
      intro σ F H E Q q
      obtain ⟨p, kvs, hx, h1, h2, h3, h4⟩ := E.d_at hi
      refine ⟨_, hx, p, rfl, .inl ⟨kvs, .inl h3⟩, hb σ F H E _ fun w F2 H2 g2 hw => hc σ F2 H2 (E.gro g2) _ fun u' F3 H3 g3 hu => ?_⟩
      have g := g2.trans g3
      refine ⟨_, .inl ⟨kvs, _, .inl (g.hh _ _ h3), ke.of hw, rfl⟩, q _ F3 H3 g ?_⟩
      rcases pk_get (k := k) h4 with ⟨e1, e2⟩ | ⟨v, b, e1, e2, r⟩
      · rw [e1, e2]; exact hu
      · rw [e1, e2]; exact mox g.ff r⟩
end
end LJ

set_option Elab.async false
set_option linter.all false
set_option maxRecDepth 100000
set_option maxHeartbeats 4000000
set_option autoImplicit false
/-! PL1: plain facts: lists by place, states, rules, dicts. -/
namespace R
variable {ε δ α β γ S : Type}
theorem foldR_unit {f : Unit → α → R ε Unit} : ∀ {xs : List α}, (∀ x ∈ xs, f () x = .ok ()) → R.foldR f () xs = .ok ()
  | [], _ => rfl
  | x :: xs, h => by
    show (f () x).bind _ = _
    rw [h x List.mem_cons_self]
    exact foldR_unit fun y hy => h y (List.mem_cons_of_mem _ hy)
/-- the first that ends it -/
theorem foldR_first {f : Unit → α → R ε Unit} {b : α} {c : List α} {e : ε} : ∀ {a : List α}, (∀ x ∈ a, f () x = .ok ()) → f () b = .er e → R.foldR f () (a ++ b :: c) = .er e
  | [], _, h => by
    show (f () b).bind _ = _
    rw [h]; rfl
  | x :: a, h, hb => by
    show (f () x).bind _ = _
    rw [h x List.mem_cons_self]
    exact foldR_first (fun y hy => h y (List.mem_cons_of_mem _ hy)) hb
/-- a walk that changes nothing and goes on each time -/
theorem runC_unit {B : Unit → α → (Unit → R ε β) → R ε β} {k : Unit → R ε β} : ∀ {xs : List α}, (∀ x ∈ xs, ∀ k, B () x k = k ()) → LK.runC B () xs k = k ()
  | [], _ => rfl
  | x :: xs, h => by
    show B () x _ = _
    rw [h x List.mem_cons_self]
    exact runC_unit fun y hy => h y (List.mem_cons_of_mem _ hy)
theorem runC_exit {B : Unit → α → (Unit → R ε β) → R ε β} {k : Unit → R ε β} {b : α} {c : List α} {r : R ε β} : ∀ {a : List α}, (∀ x ∈ a, ∀ k, B () x k = k ()) → (∀ k, B () b k = r) → LK.runC B () (a ++ b :: c) k = r
  | [], _, h => h _
  | x :: a, h, hb => by
    show B () x _ = _
    rw [h x List.mem_cons_self]
    exact runC_exit (fun y hy => h y (List.mem_cons_of_mem _ hy)) hb
/-- with an invariant, by place -/
theorem runC_inv (B : S → α → (S → R ε β) → R ε β) (P : Nat → S → Prop) (k : S → R ε β) (r : R ε β) : ∀ (xs : List α) (j : Nat) (s : S), P j s → (∀ i s x, xs[i]? = some x → P (j + i) s → ∃ s', (∀ k, B s x k = k s') ∧ P (j + i + 1) s') → (∀ s, P (j + xs.length) s → k s = r) → LK.runC B s xs k = r
  | [], j, s, h, _, hk => hk s h
  | x :: xs, j, s, h, hs, hk => by
    obtain ⟨s1, e1, h1⟩ := hs 0 s x rfl h
    show B s x _ = _
    rw [e1]
    exact runC_inv B P k r xs (j + 1) s1 h1 (fun i s y hy hp => by
      have := hs (i + 1) s y (by simpa using hy) (by rw [show j + (i + 1) = j + 1 + i by omega]; exact hp)
      rw [show j + (i + 1) + 1 = j + 1 + i + 1 by omega] at this
      exact this) (fun s hp => hk s (by rw [show j + (x :: xs).length = j + 1 + xs.length by simp; omega]; exact hp))
theorem mapR_flt {p : α → R ε Bool} {f : α → R ε α} (p' : α → Bool) (xs : List α) (hp : ∀ x ∈ xs, p x = .ok (p' x)) (hf : ∀ x ∈ xs, p' x = true → f x = .ok x) : (R.mapR p f xs : R δ (List α)) = .ok (xs.filter p') := by
  rw [mapR_ok p' id xs hp hf, List.map_id]
end R
namespace PL
open PySem L2 LK LKX LKB LJ PyProof.Rows PySem.Spec
/-! ### by place -/
section
variable {α : Type} [Inhabited α]
theorem ixD_get {x : List α} {i : Nat} (h : i < x.length) : ixD x (i : Int) = x[i] := by
  rw [ixD_nat, List.getD_eq_getElem?_getD, List.getElem?_eq_getElem h]; rfl
theorem ixR_nat {x : List α} {i : Nat} (h : i < x.length) : ixR x (i : Int) = .ok x[i] := by rw [ixR_ok ⟨by omega, by omega⟩, ixD_get h]
end
theorem ixTR_nat {x : List Nat} {i : Nat} (h : i < x.length) : ixTR x (i : Int) = .ok [x[i]] := by rw [ixTR_ok ⟨by omega, by omega⟩, ixD_get h]
theorem rng_nat (n : Nat) : rng (n : Int) = (List.range n).map fun (k : Nat) => (k : Int) := by
  unfold rng rng2
  rw [Int.sub_zero, Int.toNat_natCast]
  exact List.map_congr_left fun k _ => by omega
theorem rngR_nat {n : Nat} (h : n ≤ 16777216) : rngR (n : Int) = .ok ((List.range n).map fun (k : Nat) => (k : Int)) := by rw [rngR_ok ⟨by omega, by omega⟩, rng_nat]
theorem mem_rng {n : Nat} {x : Int} : x ∈ (List.range n).map (fun (k : Nat) => (k : Int)) ↔ ∃ k : Nat, k < n ∧ x = (k : Int) := by
  constructor
  · intro h
    obtain ⟨k, h1, h2⟩ := List.mem_map.mp h
    exact ⟨k, List.mem_range.mp h1, h2.symm⟩
  · rintro ⟨k, h, rfl⟩
    exact List.mem_map.mpr ⟨k, List.mem_range.mpr h, rfl⟩
theorem rng_at {n i : Nat} {x : Int} (h : ((List.range n).map fun (k : Nat) => (k : Int))[i]? = some x) : i < n ∧ x = (i : Int) := by
  rw [List.getElem?_map] at h
  cases hr : (List.range n)[i]? with
  | none => rw [hr] at h; cases h
  | some k =>
    rw [hr] at h
    have hl := (List.getElem?_eq_some_iff.mp hr)
    obtain ⟨hl1, hl2⟩ := hl
    simp at hl1 hl2
    subst hl2
    exact ⟨hl1, (Option.some.inj h).symm⟩
theorem erase_perm {α : Type} : ∀ (l : List α) (i : Nat) (h : i < l.length), (l[i] :: l.eraseIdx i).Perm l
  | x :: l, 0, _ => List.Perm.refl _
  | x :: l, i + 1, h => (List.Perm.swap x _ _).trans (List.Perm.cons x (erase_perm l i (by simpa using h)))
/-! ### states -/
def IsSt (s : List Nat) : Prop := ∀ c ∈ s, c = 46 ∨ c = 104 ∨ c = 114
instance (s : List Nat) : Decidable (IsSt s) := inferInstanceAs (Decidable (∀ c ∈ s, c = 46 ∨ c = 104 ∨ c = 114))
def sts : Nat → List (List Nat)
  | 0 => [[]]
  | n + 1 => (sts n).flatMap fun s => [s ++ [46], s ++ [104], s ++ [114]]
theorem mem_sts : ∀ {n : Nat} {s : List Nat}, s ∈ sts n ↔ s.length = n ∧ IsSt s
  | 0, s => by
    unfold sts
    rw [List.mem_singleton]
    constructor
    · rintro rfl; exact ⟨rfl, fun _ z => nomatch z⟩
    · rintro ⟨h, _⟩; exact List.length_eq_zero_iff.mp h
  | n + 1, s => by
    unfold sts
    rw [List.mem_flatMap]
    constructor
    · rintro ⟨t, ht, hs⟩
      obtain ⟨h1, h2⟩ := mem_sts.mp ht
      have : ∃ c, (c = 46 ∨ c = 104 ∨ c = 114) ∧ s = t ++ [c] := by
        simp only [List.mem_cons, List.not_mem_nil, or_false] at hs
        rcases hs with h | h | h
        · exact ⟨_, .inl rfl, h⟩
        · exact ⟨_, .inr (.inl rfl), h⟩
        · exact ⟨_, .inr (.inr rfl), h⟩
      obtain ⟨c, hc, rfl⟩ := this
      refine ⟨by simp [h1], fun d hd => ?_⟩
      rcases List.mem_append.mp hd with hd | hd
      · exact h2 d hd
      · rw [List.mem_singleton.mp hd]; exact hc
    · rintro ⟨h1, h2⟩
      have hne : s ≠ [] := fun e => by subst e; cases h1
      have es := List.dropLast_concat_getLast hne
      refine ⟨s.dropLast, mem_sts.mpr ⟨by simp [h1], fun c hc => h2 c (List.dropLast_subset s hc)⟩, ?_⟩
      have hl := h2 _ (List.getLast_mem hne)
      simp only [List.mem_cons, List.not_mem_nil, or_false]
      rcases hl with h | h | h
      · exact .inl (by rw [h] at es; exact es.symm)
      · exact .inr (.inl (by rw [h] at es; exact es.symm))
      · exact .inr (.inr (by rw [h] at es; exact es.symm))
theorem lt_app {x y : Nat} : ∀ {a b : List Nat}, a.length = b.length → a < b → a ++ [x] < b ++ [y]
  | [], [], _, h => absurd h (List.lt_irrefl _)
  | c :: a, d :: b, hl, h => by
    rw [List.cons_append, List.cons_append]
    rw [List.cons_lt_cons_iff] at h ⊢
    rcases h with h | ⟨h1, h2⟩
    · exact .inl h
    · exact .inr ⟨h1, lt_app (by simpa using hl) h2⟩
theorem lt_last {x y : Nat} (h : x < y) : ∀ (a : List Nat), a ++ [x] < a ++ [y]
  | [] => by
    rw [List.nil_append, List.nil_append, List.cons_lt_cons_iff]; exact .inl h
  | c :: a => by
    rw [List.cons_append, List.cons_append, List.cons_lt_cons_iff]; exact .inr ⟨rfl, lt_last h a⟩
theorem sts_sorted : ∀ n, (sts n).Pairwise (· < ·)
  | 0 => List.pairwise_singleton _ _
  | n + 1 => by
    unfold sts
    have ih := sts_sorted n
    have hm : ∀ s ∈ sts n, s.length = n := fun s h => (mem_sts.mp h).1
    generalize sts n = l at ih hm
    induction l with
    | nil => exact .nil
    | cons s l il =>
      rw [List.flatMap_cons]
      obtain ⟨h1, h2⟩ := List.pairwise_cons.mp ih
      refine List.pairwise_append.mpr ⟨?_, il h2 fun t ht => hm t (List.mem_cons_of_mem _ ht), fun a ha b hb => ?_⟩
      · simp only [List.pairwise_cons, List.mem_cons, List.not_mem_nil, or_false, forall_eq_or_imp, forall_eq, List.Pairwise.nil, and_true]
        exact ⟨⟨lt_last (by decide) s, lt_last (by decide) s⟩, lt_last (by decide) s, fun _ z => z.elim⟩
      · obtain ⟨t, ht, hb⟩ := List.mem_flatMap.mp hb
        have hst := h1 t ht
        have hl : s.length = t.length := by rw [hm s List.mem_cons_self, hm t (List.mem_cons_of_mem _ ht)]
        simp only [List.mem_cons, List.not_mem_nil, or_false] at ha hb
        rcases ha with rfl | rfl | rfl <;> rcases hb with rfl | rfl | rfl <;> exact lt_app hl hst
theorem sts_nodup (n : Nat) : (sts n).Nodup := (sts_sorted n).imp fun h e => by subst e; exact List.lt_irrefl _ h
theorem sts_len : ∀ n, (sts n).length = 3 ^ n
  | 0 => rfl
  | n + 1 => by
    unfold sts
    rw [List.length_flatMap]
    have : (sts n).map (fun s => [s ++ [46], s ++ [104], s ++ [114]].length) = (sts n).map fun _ => 3 := rfl
    have sr : ∀ m : Nat, (List.replicate m 3).sum = m * 3 := fun m => by
      induction m with
      | zero => rfl
      | succ m ih => rw [List.replicate_succ, List.sum_cons, ih]; omega
    rw [this, List.map_const', sr, sts_len n, Nat.pow_succ]
theorem sts_small {n : Nat} (h : n ≤ 6) : (sts n).length ≤ 729 := by
  rw [sts_len]
  exact Nat.pow_le_pow_right (n := 3) (by decide) h
/-! ### dicts -/
section
variable {κ β : Type} [DecidableEq κ]
theorem find_put (k k' : κ) (v : β) : ∀ (d : List (κ × β)), (putA d k v).find? (fun kv => decide (kv.1 = k')) = if k = k' then some (k, v) else d.find? fun kv => decide (kv.1 = k') := by
  intro d
  unfold putA
  split
  · rename_i h
    induction d with
    | nil => cases h
    | cons a d ih =>
      rw [List.map_cons]
      by_cases ha : a.1 = k
      · rw [if_pos ha]
        by_cases hk : k = k'
        · rw [if_pos hk]
          simp [List.find?, ha, hk]
        · rw [if_neg hk]
          have hk2 : ¬ a.1 = k' := fun e => hk (ha.symm.trans e)
          simp only [List.find?, hk2, ha, hk, decide_false]
          by_cases hd : d.any (fun kv => decide (kv.1 = k)) = true
          · rw [ih hd, if_neg hk]
          · have hnone : ∀ x ∈ d, ¬ x.1 = k := fun x hx e => hd (List.any_eq_true.mpr ⟨x, hx, decide_eq_true e⟩)
            have : d.map (fun kv => if kv.1 = k then (kv.1, v) else kv) = d := by
              conv => rhs; rw [← List.map_id d]
              exact List.map_congr_left fun x hx => by rw [if_neg (hnone x hx)]; rfl
            rw [this]
      · rw [if_neg ha]
        have hd : d.any (fun kv => decide (kv.1 = k)) = true := by simpa [ha] using h
        by_cases hk' : a.1 = k'
        · have : ¬ k = k' := fun e => ha (hk'.trans e.symm)
          simp [List.find?, hk', this]
        · simp only [List.find?, hk', decide_false]
          rw [ih hd]
  · rename_i h
    have hnone : ∀ x ∈ d, ¬ x.1 = k := fun x hx e => h (List.any_eq_true.mpr ⟨x, hx, decide_eq_true e⟩)
    rw [List.find?_append]
    by_cases hk : k = k'
    · rw [if_pos hk]
      subst hk
      have : d.find? (fun kv => decide (kv.1 = k)) = none := List.find?_eq_none.mpr fun x hx => by simp [hnone x hx]
      rw [this]; simp
    · rw [if_neg hk]
      cases hf : d.find? (fun kv => decide (kv.1 = k')) with
      | some x => rfl
      | none => simp [hk]
theorem getA_put (d : List (κ × β)) (k k' : κ) (v : β) : getA (putA d k v) k' = if k = k' then some v else getA d k' := by
  unfold getA
  rw [find_put]
  by_cases h : k = k'
  · rw [if_pos h, if_pos h]; rfl
  · rw [if_neg h, if_neg h]
theorem getA_foldl (k' : κ) : ∀ (l : List (κ × β)) (d : List (κ × β)), (getA (l.foldl (fun d kv => putA d kv.1 kv.2) d) k').isSome = ((getA d k').isSome || memD k' (l.map (·.1)))
  | [], d => by rw [List.foldl_nil, List.map_nil]; simp
  | x :: l, d => by
    rw [List.foldl_cons, getA_foldl k' l, getA_put]
    by_cases h : x.1 = k'
    · rw [if_pos h]; simp [h]
    · rw [if_neg h]
      have : ¬ k' = x.1 := fun e => h e.symm
      congr 1
      rw [Bool.eq_iff_iff, decide_eq_true_iff, decide_eq_true_iff, List.map_cons, List.mem_cons]
      exact ⟨.inr, fun z => z.resolve_left this⟩
theorem getA_of (l : List (κ × β)) (k : κ) : (getA (ofA l) k).isSome = memD k (l.map (·.1)) := by
  unfold ofA
  rw [getA_foldl]; simp [getA]
end
theorem memD_iff {α : Type} [DecidableEq α] {x : α} {y : List α} : memD x y = true ↔ x ∈ y := decide_eq_true_iff
theorem memD_congr {α : Type} [DecidableEq α] {x : α} {y z : List α} (h : x ∈ y ↔ x ∈ z) : memD x y = memD x z := by
  rw [Bool.eq_iff_iff, memD_iff, memD_iff]; exact h
/-! ### rules -/
def at_ {α : Type} (r : List (List α)) (i : Nat) : List α := r.getD i []
theorem at_app_lt {α : Type} {r : List (List α)} {x : List α} {i : Nat} (h : i < r.length) : at_ (r ++ [x]) i = at_ r i := by
  unfold at_
  rw [List.getD_eq_getElem?_getD, List.getD_eq_getElem?_getD, List.getElem?_append_left h]
theorem at_app_eq {α : Type} {r : List (List α)} {x : List α} : at_ (r ++ [x]) r.length = x := by
  unfold at_
  rw [List.getD_eq_getElem?_getD, List.getElem?_append_right (Nat.le_refl _), Nat.sub_self]; rfl
structure RulesOk (n : Nat) (r : List (List (List Nat))) : Prop where
  len : r.length = n
  flt : ∀ i, i < n → (sts n).filter (fun s => memD s (at_ r i)) = at_ r i
  free : ∀ i, i < n → ∀ s ∈ at_ r i, s[i]? = some 46
theorem RulesOk.sub {n : Nat} {r : List (List (List Nat))} (h : RulesOk n r) {i : Nat} (hi : i < n) {s : List Nat} (hs : s ∈ at_ r i) : s ∈ sts n := by
  rw [← h.flt i hi] at hs
  exact (List.mem_filter.mp hs).1
theorem flt_eq {n : Nat} {p : List Nat → Bool} : (sts n).filter (fun s => memD s ((sts n).filter p)) = (sts n).filter p := by
  refine List.filter_congr fun s hs => ?_
  rw [Bool.eq_iff_iff, memD_iff, List.mem_filter]
  exact ⟨fun h => h.2, fun h => ⟨hs, h⟩⟩
theorem at_set {α : Type} {r : List (List α)} {i j : Nat} {x : List α} (h : i < r.length) : at_ (r.set i x) j = if i = j then x else at_ r j := by
  unfold at_
  rw [List.getD_eq_getElem?_getD, List.getD_eq_getElem?_getD]
  by_cases e : i = j
  · subst e; rw [if_pos rfl, List.getElem?_set_self h]; rfl
  · rw [if_neg e, List.getElem?_set_ne e]
theorem RulesOk.set {n : Nat} {r : List (List (List Nat))} (h : RulesOk n r) {i : Nat} (hi : i < n) {x : List (List Nat)} (h1 : (sts n).filter (fun s => memD s x) = x) (h2 : ∀ s ∈ x, s[i]? = some 46) : RulesOk n (r.set i x) := by
  have hl := h.len
  refine ⟨by rw [List.length_set]; exact hl, fun j hj => ?_, fun j hj s hs => ?_⟩
  · rw [at_set (by omega)]
    by_cases e : i = j
    · rw [if_pos e]; exact h1
    · rw [if_neg e]; exact h.flt j hj
  · rw [at_set (by omega)] at hs
    by_cases e : i = j
    · rw [if_pos e] at hs; subst e; exact h2 s hs
    · rw [if_neg e] at hs; exact h.free j hj s hs
theorem at_get {α : Type} {r : List (List α)} {i : Nat} (h : i < r.length) : r[i] = at_ r i := by
  unfold at_
  rw [List.getD_eq_getElem?_getD, List.getElem?_eq_getElem h]; rfl
theorem ixR_at {α : Type} {r : List (List α)} {i : Nat} (h : i < r.length) : ixR r (i : Int) = .ok (at_ r i) := by rw [ixR_nat h, at_get h]
/-- a book's dicts hold these rules -/
structure BookIs (d : List (List (List Nat × Bool))) (r : List (List (List Nat))) : Prop where
  len : d.length = r.length
  keys : ∀ i, i < r.length → ∀ s, (getA (at_ d i) s).isSome = memD s (at_ r i)
theorem BookIs.set {d : List (List (List Nat × Bool))} {r : List (List (List Nat))} (h : BookIs d r) {i : Nat} (hi : i < r.length) {l x : List (List Nat)} (hx : ∀ s, s ∈ x ↔ s ∈ l) : BookIs (d.set i (ofA (l.map fun s => (s, true)))) (r.set i x) := by
  refine ⟨by rw [List.length_set, List.length_set]; exact h.len, fun j hj s => ?_⟩
  rw [List.length_set] at hj
  rw [at_set (by rw [h.len]; exact hi), at_set hi]
  by_cases e : i = j
  · rw [if_pos e, if_pos e, getA_of, List.map_map]
    have : l.map ((fun x : List Nat × Bool => x.1) ∘ fun s => (s, true)) = l := by
      conv => rhs; rw [← List.map_id l]
      rfl
    rw [this]
    rw [Bool.eq_iff_iff, memD_iff, memD_iff]; exact (hx s).symm
  · rw [if_neg e, if_neg e]; exact h.keys j hj s
/-- sorted texts without repeats, all of them states -/
theorem sort_flt {n : Nat} {l : List (List Nat)} (nd : l.Nodup) (hs : ∀ s ∈ l, s ∈ sts n) : sortT l = (sts n).filter fun s => memD s l := by
  have p1 : (sortT l).Perm l := List.mergeSort_perm l leT
  have p2 : ((sts n).filter fun s => memD s l).Perm l := by
    refine (List.perm_ext_iff_of_nodup ((sts_nodup n).filter _) nd).mpr fun s => ?_
    rw [List.mem_filter, memD_iff]
    exact ⟨fun h => h.2, fun h => ⟨hs s h, h⟩⟩
  refine List.Perm.eq_of_pairwise (le := fun a b => leT a b = true) (fun a b _ _ => leT_anti a b) (List.pairwise_mergeSort leT_trans leT_total l) ?_ (p1.trans p2.symm)
  refine List.Pairwise.filter _ ((sts_sorted n).imp fun {a b} h => ?_)
  unfold leT
  rw [decide_eq_false (fun h2 => List.lt_irrefl _ (List.lt_trans h h2))]; rfl
theorem flat1 : ∀ s : List Nat, (s.map fun c => [c]).flatten = s
  | [] => rfl
  | c :: s => by rw [List.map_cons, List.flatten_cons, flat1 s]; rfl
/-- a walk that draws numbers and may add something -/
theorem draw_fold {ε α β : Type} {f : List Int × List β → α → R ε (List Int × List β)} (g : α → List β) (k : α → Nat) : ∀ (xs : List α), (∀ x ∈ xs, (g x).length ≤ k x ∧ ∀ nums row, k x ≤ nums.length → row.length + nums.length < 1000000 → ∃ nums' z, f (nums, row) x = .ok (nums', row ++ z) ∧ z.Sublist (g x) ∧ nums'.length + k x = nums.length) →
    ∀ nums row, (xs.map k).sum ≤ nums.length → row.length + nums.length < 1000000 → ∃ nums' z, R.foldR f (nums, row) xs = .ok (nums', row ++ z) ∧ z.Sublist (xs.flatMap g) ∧ nums'.length + (xs.map k).sum = nums.length
  | [], _, nums, row, _, _ => ⟨nums, [], by simp [R.foldR], by simp, by simp⟩
  | x :: xs, h, nums, row, hn, hb => by
    rw [List.map_cons, List.sum_cons] at hn
    obtain ⟨hg, hx⟩ := h x List.mem_cons_self
    obtain ⟨n1, z1, e1, s1, l1⟩ := hx nums row (by omega) hb
    have := s1.length_le
    obtain ⟨n2, z2, e2, s2, l2⟩ := draw_fold g k xs (fun y hy => h y (List.mem_cons_of_mem _ hy)) n1 (row ++ z1) (by omega) (by rw [List.length_append]; omega)
    refine ⟨n2, z1 ++ z2, ?_, ?_, ?_⟩
    · show (f (nums, row) x).bind _ = _
      rw [e1]
      show R.foldR f _ xs = _
      rw [e2, List.append_assoc]
    · rw [List.flatMap_cons]; exact s1.append s2
    · rw [List.map_cons, List.sum_cons]; omega
def sgl (n one two : Nat) : List Nat := ((List.replicate n 46).set two 114).set one 104
def g3 (n item one two : Nat) : List (List Nat) := if one ≠ item ∧ two ≠ item then [sgl n one two] else []
def g2 (n item one : Nat) : List (List Nat) := (List.range n).flatMap (g3 n item one)
def g1 (n item : Nat) : List (List Nat) := List.replicate n 46 :: (List.range n).flatMap (g2 n item)
def g1ok (n item : Nat) : Bool := decide ((g1 n item).Nodup) && (g1 n item).all fun s => decide (s.length = n) && decide (IsSt s) && decide (s[item]? = some 46)
theorem g1_all : ([5, 6] : List Nat).all (fun n => (List.range n).all (g1ok n)) = true := by decide +kernel
theorem g1_of {n item : Nat} (h : n = 5 ∨ n = 6) (hi : item < n) : (g1 n item).Nodup ∧ ∀ s ∈ g1 n item, s ∈ sts n ∧ s[item]? = some 46 := by
  have := List.all_eq_true.mp (List.all_eq_true.mp g1_all n (by rcases h with rfl | rfl <;> simp)) item (List.mem_range.mpr hi)
  unfold g1ok at this
  obtain ⟨h1, h2⟩ := Bool.and_eq_true_iff.mp this
  refine ⟨of_decide_eq_true h1, fun s hs => ?_⟩
  have h3 := List.all_eq_true.mp h2 s hs
  obtain ⟨h4, h5⟩ := Bool.and_eq_true_iff.mp h3
  obtain ⟨h6, h7⟩ := Bool.and_eq_true_iff.mp h4
  exact ⟨mem_sts.mpr ⟨of_decide_eq_true h6, of_decide_eq_true h7⟩, of_decide_eq_true h5⟩
def goodE (n i : Nat) (s : List Nat) : Bool := decide (s ∈ sts n) && decide (s[i]? = some 46)
end PL

set_option Elab.async false
set_option linter.all false
set_option maxRecDepth 100000
set_option maxHeartbeats 4000000
set_option autoImplicit false
/-! PL2: steps, moves, what is reached. -/
namespace PL
open PySem L2 LK LKX LKB LJ PyProof.Rows PySem.Spec
theorem cut_put {s : List Nat} (hs : s.length ≤ 1000) {i : Nat} (hi : i < s.length) (c : Nat) : ((catR (cutL s none (some (i : Int))) [c]).bind fun y => catR y (cutL s (some ((i : Int) + 1)) none)) = .ok (s.set i c) := by
  rw [show ((i : Int) + 1) = ((i + 1 : Nat) : Int) by omega, cutL_pre, cutL_suf]
  rw [catR_ok (by simp; omega), R.ok_bind, catR_ok (by simp; omega), List.set_eq_take_append_cons_drop, if_pos hi, List.append_assoc]; rfl
theorem digits_take {n : Nat} (h : n ≤ 6) {b : Nat} : b ∈ cutL ([48, 49, 50, 51, 52, 53] : List Nat) none (some (n : Int)) ↔ 48 ≤ b ∧ b < 48 + n := by
  rw [cutL_pre]
  have : n = 0 ∨ n = 1 ∨ n = 2 ∨ n = 3 ∨ n = 4 ∨ n = 5 ∨ n = 6 := by omega
  rcases this with rfl | rfl | rfl | rfl | rfl | rfl | rfl <;> simp <;> omega
def lk (i : Nat) : List Nat := [43, 48 + i]
def rl (i : Nat) : List Nat := [45, 48 + i]
theorem lk_text {i : Nat} (h : i < 10) : ((strR (i : Int)).bind fun y => catR ([43] : List Nat) y) = .ok (lk i) := by
  rw [strR_ok ⟨by omega, by omega⟩, R.ok_bind, catR_ok (by simp), Int.toNat_natCast]; rfl
theorem rl_text {i : Nat} (h : i < 10) : ((strR (i : Int)).bind fun y => catR ([45] : List Nat) y) = .ok (rl i) := by
  rw [strR_ok ⟨by omega, by omega⟩, R.ok_bind, catR_ok (by simp), Int.toNat_natCast]; rfl
/-- the items whose sign is c -/
def its (s : List Nat) (c : Nat) : List Nat := (List.range s.length).filter fun i => decide (s[i]? = some c)
def locks (r : List (List (List Nat))) (s : List Nat) : List Nat := (List.range s.length).filter fun i => decide (s[i]? = some 46) && memD s (at_ r i)
/-- the steps that the rules allow -/
def moves (r : List (List (List Nat))) (s : List Nat) : List (List Nat) := (locks r s).map lk ++ (its s 104).map rl
def mv (s t : List Nat) : List Nat := match t with
  | [43, d] => s.set (d - 48) 104
  | [_, d] => s.set (d - 48) 114
  | _ => s
theorem mv_lk (s : List Nat) (i : Nat) : mv s (lk i) = s.set i 104 := by
  show s.set (48 + i - 48) 104 = _
  rw [Nat.add_sub_cancel_left]
theorem mv_rl (s : List Nat) (i : Nat) : mv s (rl i) = s.set i 114 := by
  show s.set (48 + i - 48) 114 = _
  rw [Nat.add_sub_cancel_left]
theorem mem_its {s : List Nat} {c i : Nat} : i ∈ its s c ↔ s[i]? = some c := by
  unfold its
  rw [List.mem_filter, List.mem_range, decide_eq_true_iff]
  exact ⟨fun h => h.2, fun h => ⟨(List.getElem?_eq_some_iff.mp h).1, h⟩⟩
theorem mem_locks {r : List (List (List Nat))} {s : List Nat} {i : Nat} : i ∈ locks r s ↔ s[i]? = some 46 ∧ s ∈ at_ r i := by
  unfold locks
  rw [List.mem_filter, List.mem_range, Bool.and_eq_true, decide_eq_true_iff, memD_iff]
  exact ⟨fun h => h.2, fun h => ⟨(List.getElem?_eq_some_iff.mp h.1).1, h⟩⟩
theorem mem_moves {r : List (List (List Nat))} {s t : List Nat} : t ∈ moves r s ↔ (∃ i, t = lk i ∧ s[i]? = some 46 ∧ s ∈ at_ r i) ∨ (∃ i, t = rl i ∧ s[i]? = some 104) := by
  unfold moves
  rw [List.mem_append, List.mem_map, List.mem_map]
  constructor
  · rintro (⟨i, h, rfl⟩ | ⟨i, h, rfl⟩)
    · exact .inl ⟨i, rfl, mem_locks.mp h⟩
    · exact .inr ⟨i, rfl, mem_its.mp h⟩
  · rintro (⟨i, rfl, h⟩ | ⟨i, rfl, h⟩)
    · exact .inl ⟨i, mem_locks.mpr h, rfl⟩
    · exact .inr ⟨i, mem_its.mpr h, rfl⟩
theorem moves_len {r : List (List (List Nat))} {s : List Nat} : (moves r s).length ≤ s.length + s.length := by
  unfold moves locks its
  rw [List.length_append, List.length_map, List.length_map]
  have h1 := List.length_filter_le (fun i => decide (s[i]? = some 46) && memD s (at_ r i)) (List.range s.length)
  have h2 := List.length_filter_le (fun i => decide (s[i]? = some 104)) (List.range s.length)
  rw [List.length_range] at h1 h2
  omega
theorem st_set {n : Nat} {s : List Nat} (h : s ∈ sts n) (i : Nat) {c : Nat} (hc : c = 46 ∨ c = 104 ∨ c = 114) : s.set i c ∈ sts n := by
  obtain ⟨h1, h2⟩ := mem_sts.mp h
  refine mem_sts.mpr ⟨by rw [List.length_set]; exact h1, fun d hd => ?_⟩
  rcases List.mem_or_eq_of_mem_set hd with h | h
  · exact h2 d h
  · rw [h]; exact hc
theorem mv_sts {n : Nat} {r : List (List (List Nat))} {s t : List Nat} (h : s ∈ sts n) (ht : t ∈ moves r s) : mv s t ∈ sts n := by
  rcases mem_moves.mp ht with ⟨i, rfl, _⟩ | ⟨i, rfl, _⟩
  · rw [mv_lk]; exact st_set h i (.inr (.inl rfl))
  · rw [mv_rl]; exact st_set h i (.inr (.inr rfl))
theorem lt_set : ∀ {s : List Nat} {i c d : Nat}, s[i]? = some c → c < d → s < s.set i d
  | [], i, c, d, h, _ => by simp at h
  | x :: s, 0, c, d, h, hd => by
    simp at h
    subst h
    rw [List.set_cons_zero, List.cons_lt_cons_iff]; exact .inl hd
  | x :: s, i + 1, c, d, h, hd => by
    rw [List.set_cons_succ, List.cons_lt_cons_iff]; exact .inr ⟨rfl, lt_set (by simpa using h) hd⟩
theorem mv_lt {r : List (List (List Nat))} {s t : List Nat} (ht : t ∈ moves r s) : s < mv s t := by
  rcases mem_moves.mp ht with ⟨i, rfl, h, _⟩ | ⟨i, rfl, h⟩
  · rw [mv_lk]; exact lt_set h (by decide)
  · rw [mv_rl]; exact lt_set h (by decide)
/-- how many steps lead to a state -/
def mu : List Nat → Nat
  | [] => 0
  | c :: s => (if c = 46 then 0 else if c = 104 then 1 else 2) + mu s
theorem mu_set : ∀ {s : List Nat} {i c d : Nat}, s[i]? = some c → (c = 46 ∧ d = 104) ∨ (c = 104 ∧ d = 114) → mu (s.set i d) = mu s + 1
  | [], i, c, d, h, _ => by simp at h
  | x :: s, 0, c, d, h, hd => by
    simp at h
    subst h
    rw [List.set_cons_zero]
    unfold mu
    rcases hd with ⟨rfl, rfl⟩ | ⟨rfl, rfl⟩
    · show 1 + mu s = 0 + mu s + 1; omega
    · show 2 + mu s = 1 + mu s + 1; omega
  | x :: s, i + 1, c, d, h, hd => by
    rw [List.set_cons_succ]
    unfold mu
    rw [mu_set (by simpa using h) hd]; omega
theorem mu_mv {r : List (List (List Nat))} {s t : List Nat} (ht : t ∈ moves r s) : mu (mv s t) = mu s + 1 := by
  rcases mem_moves.mp ht with ⟨i, rfl, h, _⟩ | ⟨i, rfl, h⟩
  · rw [mv_lk]; exact mu_set h (.inl ⟨rfl, rfl⟩)
  · rw [mv_rl]; exact mu_set h (.inr ⟨rfl, rfl⟩)
theorem mu_le : ∀ s : List Nat, mu s ≤ 2 * s.length
  | [] => Nat.le_refl _
  | c :: s => by
    unfold mu
    have := mu_le s
    rw [List.length_cons]
    split
    · omega
    · split <;> omega
theorem start_sts (n : Nat) : List.replicate n 46 ∈ sts n := mem_sts.mpr ⟨by simp, fun c hc => .inl (List.eq_of_mem_replicate hc)⟩
theorem mu_start : ∀ n, mu (List.replicate n 46) = 0
  | 0 => rfl
  | n + 1 => by
    rw [List.replicate_succ]
    unfold mu
    rw [mu_start n]; rfl
/-- what is found: the start, and where a step leads from what is found -/
structure Reach (n : Nat) (r : List (List (List Nat))) (K : List Nat → Bool) : Prop where
  sub : ∀ s, K s = true → s ∈ sts n
  start : K (List.replicate n 46) = true
  step : ∀ s, K s = true → ∀ t ∈ moves r s, K (mv s t) = true
  from_ : ∀ u, K u = true → u = List.replicate n 46 ∨ ∃ s t, K s = true ∧ t ∈ moves r s ∧ u = mv s t
theorem flt_sub {n : Nat} {x : List (List Nat)} (h : x.Sublist (sts n)) : (sts n).filter (fun s => memD s x) = x := by
  have nd : x.Nodup := (sts_nodup n).sublist h
  have p2 : ((sts n).filter fun s => memD s x).Perm x := by
    refine (List.perm_ext_iff_of_nodup ((sts_nodup n).filter _) nd).mpr fun s => ?_
    rw [List.mem_filter, memD_iff]
    exact ⟨fun h => h.2, fun hs => ⟨h.subset hs, hs⟩⟩
  refine List.Perm.eq_of_pairwise (le := fun a b => a < b) (fun a b _ _ h1 h2 => absurd h2 fun h2 => List.lt_irrefl _ (List.lt_trans h1 h2)) ?_ ?_ p2
  · exact List.Pairwise.filter _ (sts_sorted n)
  · exact List.Pairwise.sublist h (sts_sorted n)
theorem fold_fm {ε α β : Type} {f : List β → α → R ε (List β)} {p : α → Bool} {g : α → β} : ∀ (l : List α) (t : List β), (∀ s ∈ l, ∀ t : List β, t.length < 1000000 → f t s = .ok (if p s = true then t ++ [g s] else t)) → t.length + l.length < 1000000 → R.foldR f t l = .ok (t ++ (l.filter p).map g)
  | [], t, _, _ => by simp [R.foldR]
  | s :: l, t, h, hl => by
    rw [List.length_cons] at hl
    show (f t s).bind _ = _
    rw [h s List.mem_cons_self t (by omega)]
    show R.foldR f (if p s = true then t ++ [g s] else t) l = _
    by_cases hp : p s = true
    · rw [if_pos hp, fold_fm l _ (fun x hx => h x (List.mem_cons_of_mem _ hx)) (by rw [List.length_append, List.length_singleton]; omega), List.filter_cons_of_pos hp, List.append_assoc]; rfl
    · rw [if_neg hp, fold_fm l _ (fun x hx => h x (List.mem_cons_of_mem _ hx)) (by omega), List.filter_cons_of_neg hp]
theorem good_of {n i : Nat} {r : List (List (List Nat))} (hr : RulesOk n r) (hi : i < n) {s : List Nat} (h : s ∈ at_ r i) : goodE n i s = true := by
  unfold goodE
  rw [decide_eq_true (hr.sub hi h), decide_eq_true (hr.free i hi s h)]; rfl
theorem set_ok {n i : Nat} {d : List (List (List Nat × Bool))} {r : List (List (List Nat))} (hb : BookIs d r) (hr : RulesOk n r) (hi : i < n) {l x : List (List Nat)} (hg : ∀ s ∈ l, goodE n i s = true) (hx : x = (sts n).filter fun s => memD s l) : BookIs (d.set i (ofA (l.map fun s => (s, true)))) (r.set i x) ∧ RulesOk n (r.set i x) := by
  have hgood : ∀ s ∈ l, s ∈ sts n ∧ s[i]? = some 46 := fun s hs => by
    have := hg s hs
    unfold goodE at this
    obtain ⟨h1, h2⟩ := Bool.and_eq_true_iff.mp this
    exact ⟨of_decide_eq_true h1, of_decide_eq_true h2⟩
  have hm : ∀ s, s ∈ x ↔ s ∈ l := fun s => by
    rw [hx, List.mem_filter, memD_iff]
    exact ⟨fun h => h.2, fun h => ⟨(hgood s h).1, h⟩⟩
  refine ⟨hb.set (by rw [hr.len]; exact hi) hm, hr.set hi (by rw [hx]; exact flt_eq) fun s hs => (hgood s ((hm s).mp hs)).2⟩
theorem size_ok {p : Int} (h : 0 ≤ p ∧ p < 12) : ∃ n : Nat, ixR [(1 : Int), 2, 3, 4, 2, 3, 4, 3, 6, 3, 3, 5] p = .ok (n : Int) ∧ 1 ≤ n ∧ n ≤ 6 := by
  obtain ⟨a, ha, e⟩ := ixR_mem (x := [(1 : Int), 2, 3, 4, 2, 3, 4, 3, 6, 3, 3, 5]) (i := p) ⟨h.1, by simp; omega⟩
  simp only [List.mem_cons, List.not_mem_nil, or_false] at ha
  exact ⟨a.toNat, by rw [e]; congr 1; omega, by omega, by omega⟩
theorem cutL_nn {α : Type} (x : List α) {k : Int} (h : 0 ≤ k) : cutL x none (some k) = x.take k.toNat := by
  rw [← cutL_pre, Int.toNat_of_nonneg h]
theorem cutL_dd {α : Type} (x : List α) {k : Int} (h : 0 ≤ k) : cutL x (some k) none = x.drop k.toNat := by
  rw [← cutL_suf, Int.toNat_of_nonneg h]
theorem at_len {n i : Nat} {r : List (List (List Nat))} (h6 : n ≤ 6) (hr : RulesOk n r) (hi : i < n) : (at_ r i).length ≤ 729 := by
  rw [← hr.flt i hi]
  exact Nat.le_trans (List.length_filter_le _ _) (sts_small h6)
/-- the dicts of the items before j are those of the rules -/
def Pj (n : Nat) (r : List (List (List Nat))) (j : Nat) (d : List (List (List Nat × Bool))) : Prop := d.length = n ∧ ∀ k, k < n → ∀ s, (getA (at_ d k) s).isSome = if k < j then memD s (at_ r k) else false
theorem Pj.nil {n : Nat} {r : List (List (List Nat))} : Pj n r 0 (List.replicate n []) := ⟨by simp, fun k hk s => by
  have e : at_ (List.replicate n ([] : List (List Nat × Bool))) k = [] := by
    unfold at_
    rw [List.getD_eq_getElem?_getD, List.getElem?_replicate]
    split <;> rfl
  rw [e, if_neg (by omega)]; rfl⟩
theorem Pj.step {n j : Nat} {r : List (List (List Nat))} {d : List (List (List Nat × Bool))} (hp : Pj n r j d) (hj : j < n) {l : List (List Nat)} (hm : ∀ s, s ∈ l ↔ s ∈ at_ r j) : Pj n r (j + 1) (d.set j (ofA (l.map fun s => (s, true)))) := by
  refine ⟨by rw [List.length_set]; exact hp.1, fun k hk s => ?_⟩
  rw [at_set (by rw [hp.1]; exact hj)]
  by_cases e : j = k
  · subst e
    rw [if_pos rfl, if_pos (by omega), getA_of, List.map_map]
    have : l.map ((fun x : List Nat × Bool => x.1) ∘ fun s => (s, true)) = l := by
      conv => rhs; rw [← List.map_id l]
      rfl
    rw [this]
    exact memD_congr (hm s)
  · rw [if_neg e, hp.2 k hk s]
    by_cases h : k < j
    · rw [if_pos h, if_pos (by omega)]
    · rw [if_neg h, if_neg (by omega)]
theorem Pj.done {n : Nat} {r : List (List (List Nat))} {d : List (List (List Nat × Bool))} (hr : r.length = n) (hp : Pj n r n d) : BookIs d r := ⟨by rw [hp.1, hr], fun k hk s => by rw [hr] at hk; rw [hp.2 k hk s, if_pos hk]⟩
end PL

set_option Elab.async false
set_option linter.all false
set_option maxRecDepth 100000
set_option maxHeartbeats 4000000
set_option autoImplicit false
/-! PL3: programs: steps that fit one after the other; several of them interleaved. -/
namespace PL
open PySem LK LJ
/-- a step that fits -/
def Lg (s t : List Nat) : Prop := (∃ i, t = lk i ∧ s[i]? = some 46) ∨ ∃ i, t = rl i ∧ s[i]? = some 104
def Legal : List Nat → List (List Nat) → Prop
  | _, [] => True
  | s, t :: l => Lg s t ∧ Legal (mv s t) l
def run (s : List Nat) (l : List (List Nat)) : List Nat := l.foldl mv s
theorem lk_inj {i j : Nat} (h : lk i = lk j) : i = j := by
  unfold lk at h
  simp at h
  omega
theorem rl_inj {i j : Nat} (h : rl i = rl j) : i = j := by
  unfold rl at h
  simp at h
  omega
theorem lk_rl {i j : Nat} : lk i ≠ rl j := by
  unfold lk rl
  simp
theorem Lg.lt {s t : List Nat} (h : Lg s t) : ∃ i, i < s.length ∧ (t = lk i ∧ s[i]? = some 46 ∨ t = rl i ∧ s[i]? = some 104) := by
  rcases h with ⟨i, h1, h2⟩ | ⟨i, h1, h2⟩
  · exact ⟨i, (List.getElem?_eq_some_iff.mp h2).1, .inl ⟨h1, h2⟩⟩
  · exact ⟨i, (List.getElem?_eq_some_iff.mp h2).1, .inr ⟨h1, h2⟩⟩
theorem Lg.len {s t : List Nat} (h : Lg s t) : (mv s t).length = s.length := by
  rcases h with ⟨i, rfl, _⟩ | ⟨i, rfl, _⟩
  · rw [mv_lk, List.length_set]
  · rw [mv_rl, List.length_set]
theorem run_len : ∀ {l : List (List Nat)} {s : List Nat}, Legal s l → (run s l).length = s.length
  | [], _, _ => rfl
  | t :: l, s, h => by
    show (run (mv s t) l).length = _
    rw [run_len h.2, h.1.len]
theorem run_app (s : List Nat) (a b : List (List Nat)) : run s (a ++ b) = run (run s a) b := List.foldl_append
theorem legal_app : ∀ {a b : List (List Nat)} {s : List Nat}, Legal s (a ++ b) ↔ Legal s a ∧ Legal (run s a) b
  | [], b, s => ⟨fun h => ⟨trivial, h⟩, fun h => h.2⟩
  | t :: a, b, s => by
    show Lg s t ∧ Legal (mv s t) (a ++ b) ↔ (Lg s t ∧ Legal (mv s t) a) ∧ Legal (run (mv s t) a) b
    rw [legal_app]
    exact ⟨fun h => ⟨⟨h.1, h.2.1⟩, h.2.2⟩, fun h => ⟨h.1.1, h.1.2, h.2⟩⟩
theorem Legal.take {l : List (List Nat)} {s : List Nat} (h : Legal s l) (c : Nat) : Legal s (l.take c) := by
  rw [← List.take_append_drop c l] at h
  exact (legal_app.mp h).1
theorem Legal.at_ {l : List (List Nat)} {s : List Nat} (h : Legal s l) {c : Nat} (hc : c < l.length) : Lg (run s (l.take c)) l[c] := by
  rw [← List.take_append_drop c l] at h
  have := (legal_app.mp h).2
  rw [List.drop_eq_getElem_cons hc] at this
  exact this.1
theorem run_succ {l : List (List Nat)} (s : List Nat) {c : Nat} (hc : c < l.length) : run s (l.take (c + 1)) = mv (run s (l.take c)) l[c] := by
  rw [List.take_add_one, List.getElem?_eq_getElem hc, run_app]; rfl
/-- held: locked and not released -/
theorem run_held (d : Nat) : ∀ {l : List (List Nat)} {s : List Nat}, Legal s l → ((run s l)[d]? = some 104 ↔ (s[d]? = some 104 ∨ s[d]? = some 46 ∧ lk d ∈ l) ∧ rl d ∉ l)
  | [], s, _ => by simp [run]
  | t :: l, s, h => by
    have ih := run_held d h.2
    show (run (mv s t) l)[d]? = some 104 ↔ _
    rw [ih]
    rcases h.1 with ⟨i, rfl, hi⟩ | ⟨i, rfl, hi⟩
    · have hlt := (List.getElem?_eq_some_iff.mp hi).1
      have e1 : rl d ∉ lk i :: l ↔ rl d ∉ l := by rw [List.mem_cons]; exact ⟨fun z h => z (.inr h), fun z h => h.elim (fun q => lk_rl q.symm) z⟩
      rw [mv_lk, e1]
      by_cases e : i = d
      · subst e
        rw [List.getElem?_set_self hlt]
        simp [hi]
      · rw [List.getElem?_set_ne e]
        have e2 : lk d ∈ lk i :: l ↔ lk d ∈ l := by rw [List.mem_cons]; exact ⟨fun z => z.elim (fun q => absurd (lk_inj q).symm e) id, .inr⟩
        rw [e2]
    · have hlt := (List.getElem?_eq_some_iff.mp hi).1
      have e2 : lk d ∈ rl i :: l ↔ lk d ∈ l := by rw [List.mem_cons]; exact ⟨fun z => z.elim (fun q => absurd q lk_rl) id, .inr⟩
      rw [mv_rl, e2]
      by_cases e : i = d
      · subst e
        rw [List.getElem?_set_self hlt]
        simp
      · rw [List.getElem?_set_ne e]
        have e1 : rl d ∉ rl i :: l ↔ rl d ∉ l := by rw [List.mem_cons]; exact ⟨fun z h => z (.inr h), fun z h => h.elim (fun q => e (rl_inj q).symm) z⟩
        rw [e1]
/-- more items behind -/
theorem legal_pad (u : List Nat) : ∀ {l : List (List Nat)} {s : List Nat}, Legal s l → Legal (s ++ u) l ∧ run (s ++ u) l = run s l ++ u
  | [], s, _ => ⟨trivial, rfl⟩
  | t :: l, s, h => by
    have e : mv (s ++ u) t = mv s t ++ u ∧ Lg (s ++ u) t := by
      rcases h.1 with ⟨i, rfl, hi⟩ | ⟨i, rfl, hi⟩
      · have hlt := (List.getElem?_eq_some_iff.mp hi).1
        rw [mv_lk, mv_lk, List.set_append_left _ _ hlt]
        exact ⟨rfl, .inl ⟨i, rfl, by rw [List.getElem?_append_left hlt]; exact hi⟩⟩
      · have hlt := (List.getElem?_eq_some_iff.mp hi).1
        rw [mv_rl, mv_rl, List.set_append_left _ _ hlt]
        exact ⟨rfl, .inr ⟨i, rfl, by rw [List.getElem?_append_left hlt]; exact hi⟩⟩
    obtain ⟨a, b⟩ := legal_pad u h.2
    refine ⟨⟨e.2, by rw [e.1]; exact a⟩, ?_⟩
    show run (mv (s ++ u) t) l = run (mv s t) l ++ u
    rw [e.1, b]
/-- the ends of a program -/
theorem ends_ok : ∀ {l : List Nat} {s : List Nat}, l.Nodup → (∀ i ∈ l, s[i]? = some 104) → Legal s (l.map rl) ∧ ∀ i, (run s (l.map rl))[i]? = if i ∈ l then some 114 else s[i]?
  | [], s, _, _ => ⟨trivial, fun i => by simp [run]⟩
  | j :: l, s, nd, h => by
    obtain ⟨n1, n2⟩ := List.nodup_cons.mp nd
    have hj := h j List.mem_cons_self
    have hlt := (List.getElem?_eq_some_iff.mp hj).1
    obtain ⟨a, b⟩ := ends_ok (s := mv s (rl j)) n2 (fun i hi => by
      rw [mv_rl, List.getElem?_set_ne (fun (z : j = i) => n1 (z ▸ hi))]
      exact h i (List.mem_cons_of_mem _ hi))
    refine ⟨⟨.inr ⟨j, rfl, hj⟩, a⟩, fun i => ?_⟩
    show (run (mv s (rl j)) (l.map rl))[i]? = _
    rw [b, mv_rl]
    by_cases e : i ∈ l
    · rw [if_pos e, if_pos (List.mem_cons_of_mem _ e)]
    · rw [if_neg e]
      by_cases e2 : j = i
      · subst e2
        rw [List.getElem?_set_self hlt, if_pos List.mem_cons_self]
      · rw [List.getElem?_set_ne e2, if_neg (fun z => (List.mem_cons.mp z).elim (fun q => e2 q.symm) e)]
theorem its_nodup (s : List Nat) (c : Nat) : (its s c).Nodup := List.Pairwise.filter _ List.nodup_range
theorem ends_all (s : List Nat) : Legal s ((its s 104).map rl) ∧ 104 ∉ run s ((its s 104).map rl) := by
  obtain ⟨a, b⟩ := ends_ok (l := its s 104) (s := s) (its_nodup s 104) fun i hi => mem_its.mp hi
  refine ⟨a, fun h => ?_⟩
  obtain ⟨i, hi⟩ := List.mem_iff_getElem?.mp h
  rw [b] at hi
  by_cases e : i ∈ its s 104
  · rw [if_pos e] at hi; cases hi
  · rw [if_neg e] at hi; exact e (mem_its.mpr hi)
/-- a whole program over six items -/
def st6 : List Nat := [46, 46, 46, 46, 46, 46]
structure Prog (p : List (List Nat)) : Prop where
  leg : Legal st6 p
  fin : 104 ∉ run st6 p
  len : p.length ≤ 1000
theorem st6_at {d : Nat} : st6[d]? = some 46 ↔ d < 6 := by
  constructor
  · intro h
    exact (List.getElem?_eq_some_iff.mp h).1
  · intro h
    have : d = 0 ∨ d = 1 ∨ d = 2 ∨ d = 3 ∨ d = 4 ∨ d = 5 := by omega
    rcases this with rfl | rfl | rfl | rfl | rfl | rfl <;> rfl
theorem st6_no {d : Nat} : st6[d]? ≠ some 104 := fun h => by
  have := st6_at.mpr (List.getElem?_eq_some_iff.mp h).1
  rw [h] at this; cases this
/-- p holds d behind its first c steps -/
def Hd (p : List (List Nat)) (c d : Nat) : Prop := (run st6 (p.take c))[d]? = some 104
theorem hd_iff {p : List (List Nat)} (h : Prog p) (c d : Nat) : Hd p c d ↔ lk d ∈ p.take c ∧ rl d ∉ p.take c := by
  unfold Hd
  rw [run_held d (h.leg.take c)]
  constructor
  · rintro ⟨h1 | h1, h2⟩
    · exact absurd h1 st6_no
    · exact ⟨h1.2, h2⟩
  · rintro ⟨h1, h2⟩
    refine ⟨.inr ⟨?_, h1⟩, h2⟩
    -- a step of p is one of the six items
    have : ∃ k, k < (p.take c).length ∧ (p.take c)[k]? = some (lk d) := by
      obtain ⟨k, hk⟩ := List.mem_iff_getElem?.mp h1
      exact ⟨k, (List.getElem?_eq_some_iff.mp hk).1, hk⟩
    obtain ⟨k, hk, e⟩ := this
    obtain ⟨i, hi, hh⟩ := ((h.leg.take c).at_ hk).lt
    rw [run_len ((h.leg.take c).take k)] at hi
    have e2 : (p.take c)[k] = lk d := by
      rw [List.getElem?_eq_getElem hk] at e; exact Option.some.inj e
    rcases hh with ⟨q, _⟩ | ⟨q, _⟩
    · rw [e2] at q
      have := lk_inj q
      subst this
      exact st6_at.mpr hi
    · rw [e2] at q
      exact absurd q lk_rl
theorem hd_lt {p : List (List Nat)} (h : Prog p) {c d : Nat} (hd : Hd p c d) : d < 6 := by
  have := (List.getElem?_eq_some_iff.mp hd).1
  rw [run_len (h.leg.take c)] at this
  exact this
theorem Prog.step {p : List (List Nat)} (h : Prog p) {c : Nat} (hc : c < p.length) : ∃ i, i < 6 ∧ ((p[c] = lk i ∧ ∀ d, Hd p (c + 1) d ↔ d = i ∨ Hd p c d) ∨ (p[c] = rl i ∧ Hd p c i ∧ ∀ d, Hd p (c + 1) d ↔ d ≠ i ∧ Hd p c d)) := by
  obtain ⟨i, hi, hh⟩ := (h.leg.at_ hc).lt
  have hi' := hi
  rw [run_len (h.leg.take c)] at hi
  refine ⟨i, hi, ?_⟩
  unfold Hd
  rw [run_succ st6 hc]
  rcases hh with ⟨q, hq⟩ | ⟨q, hq⟩
  · refine .inl ⟨q, fun d => ?_⟩
    rw [q, mv_lk]
    by_cases e : i = d
    · subst e
      rw [List.getElem?_set_self hi']; simp
    · rw [List.getElem?_set_ne e]
      exact ⟨.inr, fun z => z.elim (fun q => absurd q.symm e) id⟩
  · refine .inr ⟨q, hq, fun d => ?_⟩
    rw [q, mv_rl]
    by_cases e : i = d
    · subst e
      rw [List.getElem?_set_self hi']; simp
    · rw [List.getElem?_set_ne e]
      exact ⟨fun z => ⟨fun q => e q.symm, z⟩, fun z => z.2⟩
/-! ### several programs -/
theorem getA_drop {κ β : Type} [DecidableEq κ] (d : List (κ × β)) (k k' : κ) : getA (dropA d k) k' = if k = k' then none else getA d k' := by
  unfold getA dropA
  rw [List.find?_filter]
  by_cases e : k = k'
  · subst e
    rw [if_pos rfl]
    have : d.find? (fun a => decide (decide (a.1 ≠ k) = true ∧ decide (a.1 = k) = true)) = none := by
      rw [List.find?_eq_none]
      intro x _ hx
      have := of_decide_eq_true hx
      exact (of_decide_eq_true this.1) (of_decide_eq_true this.2)
    rw [this]; rfl
  · rw [if_neg e]
    congr 2
    funext a
    by_cases h : a.1 = k'
    · have : a.1 ≠ k := fun q => e (q.symm.trans h)
      simp [h, show ¬ k' = k from fun q => e (Eq.symm q)]
    · simp [h]
/-- who holds what, behind the first cs k steps of each program k -/
structure Held (ps : List (List (List Nat))) (cs : List Nat) (h : List (List Nat × Int)) : Prop where
  len : cs.length = ps.length
  le : ∀ (k : Nat) (p : List (List Nat)) (c : Nat), ps[k]? = some p → cs[k]? = some c → c ≤ p.length
  key : ∀ d : Nat, (getA h [48 + d]).isSome = true ↔ ∃ (k : Nat) (p : List (List Nat)) (c : Nat), ps[k]? = some p ∧ cs[k]? = some c ∧ Hd p c d
  one : ∀ (d k k' : Nat) (p p' : List (List Nat)) (c c' : Nat), ps[k]? = some p → cs[k]? = some c → ps[k']? = some p' → cs[k']? = some c' → Hd p c d → Hd p' c' d → k = k'
theorem Hd_zero (p : List (List Nat)) (d : Nat) : ¬ Hd p 0 d := fun h => by
  unfold Hd at h
  rw [List.take_zero] at h
  exact st6_no h
theorem Held.nil {ps : List (List (List Nat))} : Held ps (ps.map fun _ => 0) [] := by
  have z : ∀ (k c : Nat), (ps.map fun _ => 0)[k]? = some c → c = 0 := fun k c h => by
    rw [List.getElem?_map] at h
    cases e : ps[k]? with
    | none => rw [e] at h; cases h
    | some p => rw [e] at h; exact (Option.some.inj h).symm
  refine ⟨by simp, fun k p c _ hc => by rw [z k c hc]; exact Nat.zero_le _, fun d => ⟨fun h => (by cases h), ?_⟩, fun d k k' p p' c c' _ hc _ _ h _ => ?_⟩
  · rintro ⟨k, p, c, _, hc, h⟩
    rw [z k c hc] at h
    exact absurd h (Hd_zero _ _)
  · rw [z k c hc] at h
    exact absurd h (Hd_zero _ _)
theorem key_inj {a b : Nat} : ([48 + a] : List Nat) = [48 + b] ↔ a = b := by
  constructor
  · intro h
    have : 48 + a = 48 + b := by simpa using h
    omega
  · intro h; rw [h]
section
variable {ps : List (List (List Nat))} {cs : List Nat} {h : List (List Nat × Int)} {k c i : Nat} {p : List (List Nat)}
theorem Held.set_at (hh : Held ps cs h) (hk : k < ps.length) (x : Nat) (k' c' : Nat) : (cs.set k x)[k']? = some c' ↔ (k' = k ∧ c' = x) ∨ (k' ≠ k ∧ cs[k']? = some c') := by
  by_cases e : k = k'
  · subst e
    rw [List.getElem?_set_self (by rw [hh.len]; exact hk)]
    simp [eq_comm]
  · rw [List.getElem?_set_ne e]
    simp [show ¬ k' = k from fun q => e (Eq.symm q)]
/-- a lock -/
theorem Held.lock (hp : ∀ p ∈ ps, Prog p) (hh : Held ps cs h) (e1 : ps[k]? = some p) (e2 : cs[k]? = some c) (hc : c < p.length) (hs : ∀ d, Hd p (c + 1) d ↔ d = i ∨ Hd p c d) (hn : getA h [48 + i] = none) (v : Int) : Held ps (cs.set k (c + 1)) (putA h [48 + i] v) := by
  have hk := (List.getElem?_eq_some_iff.mp e1).1
  have free : ∀ (k : Nat) (p : List (List Nat)) (c : Nat), ps[k]? = some p → cs[k]? = some c → ¬ Hd p c i := fun k p c a b z => by
    have := (hh.key i).mpr ⟨k, p, c, a, b, z⟩
    rw [hn] at this; cases this
  refine ⟨by rw [List.length_set]; exact hh.len, fun k' p' c' a b => ?_, fun d => ?_, fun d k1 k2 p1 p2 c1 c2 a1 b1 a2 b2 h1 h2 => ?_⟩
  · rcases (hh.set_at hk _ _ _).mp b with ⟨rfl, rfl⟩ | ⟨_, b⟩
    · rw [e1] at a; cases a; exact hc
    · exact hh.le k' p' c' a b
  · rw [getA_put]
    by_cases e : i = d
    · subst e
      rw [if_pos rfl]
      exact ⟨fun _ => ⟨k, p, c + 1, e1, (hh.set_at hk _ _ _).mpr (.inl ⟨rfl, rfl⟩), (hs i).mpr (.inl rfl)⟩, fun _ => rfl⟩
    · rw [if_neg (fun q => e (key_inj.mp q)), hh.key]
      constructor
      · rintro ⟨k', p', c', a, b, z⟩
        by_cases ek : k' = k
        · subst ek
          rw [e1] at a; cases a
          rw [e2] at b; cases b
          exact ⟨k', p, c + 1, e1, (hh.set_at hk _ _ _).mpr (.inl ⟨rfl, rfl⟩), (hs d).mpr (.inr z)⟩
        · exact ⟨k', p', c', a, (hh.set_at hk _ _ _).mpr (.inr ⟨ek, b⟩), z⟩
      · rintro ⟨k', p', c', a, b, z⟩
        rcases (hh.set_at hk _ _ _).mp b with ⟨rfl, rfl⟩ | ⟨_, b⟩
        · rw [e1] at a; cases a
          rcases (hs d).mp z with q | q
          · exact absurd q.symm e
          · exact ⟨k', p, c, e1, e2, q⟩
        · exact ⟨k', p', c', a, b, z⟩
  · rcases (hh.set_at hk _ _ _).mp b1 with ⟨q1, q2⟩ | ⟨n1, b1'⟩ <;> rcases (hh.set_at hk _ _ _).mp b2 with ⟨q3, q4⟩ | ⟨n2, b2'⟩
    · rw [q1, q3]
    · subst q1 q2
      rw [e1] at a1; cases a1
      rcases (hs d).mp h1 with q | q
      · subst q; exact absurd h2 (free _ _ _ a2 b2')
      · exact hh.one d _ _ _ _ _ _ e1 e2 a2 b2' q h2
    · subst q3 q4
      rw [e1] at a2; cases a2
      rcases (hs d).mp h2 with q | q
      · subst q; exact absurd h1 (free _ _ _ a1 b1')
      · exact hh.one d _ _ _ _ _ _ a1 b1' e1 e2 h1 q
    · exact hh.one d _ _ _ _ _ _ a1 b1' a2 b2' h1 h2
/-- a release -/
theorem Held.rel (hp : ∀ p ∈ ps, Prog p) (hh : Held ps cs h) (e1 : ps[k]? = some p) (e2 : cs[k]? = some c) (hc : c < p.length) (hi : Hd p c i) (hs : ∀ d, Hd p (c + 1) d ↔ d ≠ i ∧ Hd p c d) : (getA h [48 + i]).isSome = true ∧ Held ps (cs.set k (c + 1)) (dropA h [48 + i]) := by
  have hk := (List.getElem?_eq_some_iff.mp e1).1
  refine ⟨(hh.key i).mpr ⟨k, p, c, e1, e2, hi⟩, by rw [List.length_set]; exact hh.len, fun k' p' c' a b => ?_, fun d => ?_, fun d k1 k2 p1 p2 c1 c2 a1 b1 a2 b2 h1 h2 => ?_⟩
  · rcases (hh.set_at hk _ _ _).mp b with ⟨rfl, rfl⟩ | ⟨_, b⟩
    · rw [e1] at a; cases a; exact hc
    · exact hh.le k' p' c' a b
  · rw [getA_drop]
    by_cases e : i = d
    · subst e
      rw [if_pos rfl]
      refine ⟨fun z => (by cases z), ?_⟩
      rintro ⟨k', p', c', a, b, z⟩
      rcases (hh.set_at hk _ _ _).mp b with ⟨rfl, rfl⟩ | ⟨nk, b⟩
      · rw [e1] at a; cases a
        exact absurd rfl ((hs i).mp z).1
      · exact absurd (hh.one i _ _ _ _ _ _ a b e1 e2 z hi) nk
    · rw [if_neg (fun q => e (key_inj.mp q)), hh.key]
      constructor
      · rintro ⟨k', p', c', a, b, z⟩
        by_cases ek : k' = k
        · subst ek
          rw [e1] at a; cases a
          rw [e2] at b; cases b
          exact ⟨k', p, c + 1, e1, (hh.set_at hk _ _ _).mpr (.inl ⟨rfl, rfl⟩), (hs d).mpr ⟨fun q => e q.symm, z⟩⟩
        · exact ⟨k', p', c', a, (hh.set_at hk _ _ _).mpr (.inr ⟨ek, b⟩), z⟩
      · rintro ⟨k', p', c', a, b, z⟩
        rcases (hh.set_at hk _ _ _).mp b with ⟨rfl, rfl⟩ | ⟨_, b⟩
        · rw [e1] at a; cases a
          exact ⟨k', p, c, e1, e2, ((hs d).mp z).2⟩
        · exact ⟨k', p', c', a, b, z⟩
  · have back : ∀ {k' : Nat} {p' : List (List Nat)} {c' : Nat}, ps[k']? = some p' → (cs.set k (c + 1))[k']? = some c' → Hd p' c' d → ∃ c'', cs[k']? = some c'' ∧ Hd p' c'' d := fun {k' p' c'} a b z => by
      rcases (hh.set_at hk _ _ _).mp b with ⟨rfl, rfl⟩ | ⟨_, b⟩
      · rw [e1] at a; cases a
        exact ⟨c, e2, ((hs d).mp z).2⟩
      · exact ⟨c', b, z⟩
    obtain ⟨c1', b1', h1'⟩ := back a1 b1 h1
    obtain ⟨c2', b2', h2'⟩ := back a2 b2 h2
    exact hh.one d _ _ _ _ _ _ a1 b1' a2 b2' h1' h2'
end
end PL


set_option maxHeartbeats 4000000
namespace Zk21
open PySem L2 LK LKX LKB LJ PyProof.Rows PySem.Spec
def h_Blocked (k : Nat) : Option Bool := if k = 1 then some false else if k = 2 then some false else if k = 3 then some false else if k = 4 then some false else if k = 5 then some false else if k = 6 then some false else if k = 7 then some true else none
theorem h_Blocked_k {k : Nat} (h : h_Blocked k = some true) : k = 7 := by
  unfold h_Blocked at h
  repeat' (split at h)
  all_goals (first | assumption | (cases h; done))
def h_BadOrder (k : Nat) : Option Bool := if k = 1 then some false else if k = 2 then some false else if k = 3 then some false else if k = 4 then some false else if k = 5 then some false else if k = 6 then some true else if k = 7 then some false else none
theorem h_BadOrder_k {k : Nat} (h : h_BadOrder k = some true) : k = 6 := by
  unfold h_BadOrder at h
  repeat' (split at h)
  all_goals (first | assumption | (cases h; done))
def m_start (v_size : Int) : R Er (List Nat) :=
  (cond (cond (decide (v_size < (1 : Int))) true (decide ((6 : Int) < v_size))) ((let y1 := v_size
(R.er (4, [Tod.d rInt y1]))))
((repR ([46] : List Nat) v_size)))
def m_is_step (v_size : Int) (v_step : (List Nat)) : R Er Bool :=
  (cond (decide ((v_step.length : Int) = (2 : Int))) (((((ixTR v_step (0 : Int))).bind fun y1 => (inTR y1 ([43, 45] : List Nat)))).bind fun y3 => (cond y3 (((ixTR v_step (1 : Int))).bind fun y2 => (inTR y2 (cutL ([48, 49, 50, 51, 52, 53] : List Nat) (none : Option Int) (some v_size)))) (R.ok false))) (R.ok false))
def m_after (v_state : (List Nat)) (v_step : (List Nat)) : R Er (List Nat) :=
  (((((m_is_step (v_state.length : Int) v_step)).bind fun y1 => R.ok (!y1))).bind fun y14 => cond y14 ((let y2 := v_step
(R.er (1, [Tod.d rTx y2]))))
(((((ixTR v_step (1 : Int))).bind fun y3 => (intTR y3))).bind fun v_item1 =>
(((((ixTR v_step (0 : Int))).bind fun y4 => R.ok (decide (y4 = ([43] : List Nat))))).bind fun y13 => cond y13 ((((((ixTR v_state v_item1)).bind fun y5 => R.ok (!decide (y5 = ([46] : List Nat))))).bind fun y8 => cond y8 ((let y6 := v_item1
(R.er (2, [Tod.d rInt y6]))))
((((catR (cutL v_state (none : Option Int) (some v_item1)) ([104] : List Nat))).bind fun y7 => (catR y7 (cutL v_state (some (v_item1 + (1 : Int))) (none : Option Int)))))))
((((((ixTR v_state v_item1)).bind fun y9 => R.ok (!decide (y9 = ([104] : List Nat))))).bind fun y12 => cond y12 ((let y10 := v_item1
(R.er (3, [Tod.d rInt y10]))))
((((catR (cutL v_state (none : Option Int) (some v_item1)) ([114] : List Nat))).bind fun y11 => (catR y11 (cutL v_state (some (v_item1 + (1 : Int))) (none : Option Int))))))))))
def m_replay_s1 (t1 : (List Nat)) (x1 : (List Nat)) : R Er (List Nat) :=
let v_state2 := t1
let v_step1 := x1
((m_after v_state2 v_step1)).bind fun v_state3 =>
(R.ok v_state3)
def m_replay (v_size : Int) (v_steps : (List (List Nat))) : R Er (List Nat) :=
  ((m_start v_size)).bind fun v_state1 =>
(R.foldR (m_replay_s1) v_state1 v_steps).bind fun t2 =>
let v_state4 := t2
(R.ok v_state4)
def m_check_programs_b1 (v_size : Int) (t1 : Unit) (x1 : (Int × (List (List Nat)))) (k : Unit → R Er Unit) : R Er Unit :=
let v_index1 := x1.1
let v_steps1 := x1.2
(let k := fun (s1 : (List Nat)) =>
let v_state1 := s1
(((inTR ([104] : List Nat) v_state1)).bind fun y2 => cond y2 ((let y1 := v_index1
(R.er (5, [Tod.d rInt y1]))))
((k ())))
tryR (let k := fun (s : (List Nat)) => (R.ok (.inr s) : R (Er × Unit) ((Unit × Unit) ⊕ (List Nat)))
((m_replay v_size v_steps1)).thn (fun y => (y, ())) fun v_state2 =>
(k v_state2)) (fun b z => R.ok b) k (fun _ => R.no))
def m_check_programs (v_size : Int) (v_programs : (List (List (List Nat)))) : R Er Unit :=
  LK.runC (m_check_programs_b1 v_size) () (enumL v_programs) fun t2 =>
(R.ok ())
def m_holds (v_steps : (List (List Nat))) (v_many : Int) (v_digit : (List Nat)) : R Er Bool :=
  let v_made1 := (cutL v_steps (none : Option Int) (some v_many))
(((((catR ([43] : List Nat) v_digit)).bind fun y1 => R.ok (memD y1 v_made1))).bind fun y3 => (cond y3 (((catR ([45] : List Nat) v_digit)).bind fun y2 => R.ok (!memD y2 v_made1)) (R.ok false)))
def m_is_free (v_programs : (List (List (List Nat)))) (v_places : (List Int)) (v_index : Int) : R Er Bool :=
  ((((ixR v_programs v_index)).bind fun y1 => ((ixR v_places v_index)).bind fun y2 => (ixR y1 y2))).bind fun v_step1 =>
(((((ixTR v_step1 (0 : Int))).bind fun y3 => R.ok (decide (y3 = ([45] : List Nat))))).bind fun y10 => cond y10 ((R.ok true))
((((((((rngR (v_programs.length : Int))).bind fun y7 => (R.mapR (fun _ => (R.ok true : R Er Bool)) (fun x1 => ((((ixR v_programs x1)).bind fun y4 => ((ixR v_places x1)).bind fun y5 => ((ixTR v_step1 (1 : Int))).bind fun y6 => (m_holds y4 y5 y6)) : R Er Bool)) y7))).bind fun y8 => R.ok (y8.any id))).bind fun y9 => R.ok (!y9))))
def m_outcome_b1 (v_programs : (List (List (List Nat)))) (t1 : ((List (Int × (List Int))) × (List Int))) (x2 : (Int × Int)) (k : ((List (Int × (List Int))) × (List Int)) → R Er (List (Int × (List Int)))) : R Er (List (Int × (List Int))) :=
let v_found2 := t1.1
let v_places2 := t1.2
let v_place1 := x2.1
let v_index1 := x2.2
(((cond (decide (v_index1 < (0 : Int))) (R.ok true) (cond (decide ((v_programs.length : Int) ≤ v_index1)) (R.ok true) (((ixR v_places2 v_index1)).bind fun y2 => ((((ixR v_programs v_index1)).bind fun y1 => R.ok (y1.length : Int))).bind fun y3 => R.ok (decide (y2 = y3)))))).bind fun y19 => cond y19 ((let y4 := v_place1
(R.er (6, [Tod.d rInt y4]))))
(((((ixR v_programs v_index1)).bind fun y5 => ((ixR v_places2 v_index1)).bind fun y6 => (ixR y5 y6))).bind fun v_step1 =>
(((((m_is_free v_programs v_places2 v_index1)).bind fun y7 => R.ok (!y7))).bind fun y18 => cond y18 ((let y9 := v_place1
((((ixTR v_step1 (1 : Int))).bind fun y8 => (intTR y8))).bind fun y10 =>
(R.er (7, [Tod.d rInt y9, Tod.d rInt y10]))))
(((((((ixTR v_step1 (0 : Int))).bind fun y11 => R.ok (decide (y11 = ([43] : List Nat))))).bind fun y17 => cond y17 (((((ixTR v_step1 (1 : Int))).bind fun y12 => (intTR y12))).bind fun v_item1 =>
((((((lenR ([] : List Int))).bind fun y13 => R.ok ((getA v_found2 v_item1).getD y13))).bind fun y14 => ((lenR ([v_index1] : List Int))).bind fun y15 => (catLR y14 y15))).bind fun y16 =>
(putR v_found2 v_item1 y16).bind fun v_found4 =>
(R.ok v_found4))
((R.ok v_found2)))).bind fun s3 =>
let v_found3 := s3
(R.iff (0 ≤ v_index1 ∧ v_index1 < v_places2.length) (.ok (ixD v_places2 v_index1))).bind fun q1 =>
let v_places3 := v_places2.set (v_index1).toNat (q1 + (1 : Int))
(k (v_found3, v_places3))))))
def m_outcome (v_programs : (List (List (List Nat)))) (v_order : (List Int)) : R Er (List (Int × (List Int))) :=
  ((m_check_programs (6 : Int) v_programs)).bind fun _ =>
((R.mapR (fun _ => (R.ok true : R Er Bool)) (fun x1 => ((R.ok (0 : Int)) : R Er Int)) v_programs)).bind fun v_places1 =>
let v_found1 := ([] : List (Int × (List Int)))
LK.runC (m_outcome_b1 v_programs) (v_found1, v_places1) (enumL v_order) fun t2 =>
let v_found5 := t2.1
let v_places4 := t2.2
(((((((rngR (v_programs.length : Int))).bind fun y23 => (R.mapR (fun _ => (R.ok true : R Er Bool)) (fun x3 => ((((ixR v_places4 x3)).bind fun y21 => ((((ixR v_programs x3)).bind fun y20 => R.ok (y20.length : Int))).bind fun y22 => R.ok (decide (y21 < y22))) : R Er Bool)) y23))).bind fun y24 => R.ok (y24.any id))).bind fun y27 => cond y27 ((let y25 := (v_order.length : Int)
(R.er (6, [Tod.d rInt y25]))))
((((rngR (6 : Int))).bind fun y26 => ((R.mapR (fun x4 => ((R.ok ((getA v_found5 x4).isSome)) : R Er Bool)) (fun x4 => ((R.ok x4)).bind fun dk => ((getR v_found5 x4)).bind fun dv => (R.ok (dk, dv) : R Er (Int × (List Int)))) y26).bind fun dl => R.ok (ofA dl)))))
def m_law_cell (v_law_script : (List Int)) (v_law_k : Int) : R Er Int :=
  (cond (decide (v_law_k < (v_law_script.length : Int))) ((ixR v_law_script v_law_k))
((R.ok (0 : Int))))
def m_law_numbers_s1 (v_law_limit : Int) (t1 : (Int × (List Int) × Int)) (x1 : Int) : R Er (Int × (List Int) × Int) :=
let v_law_mixed2 := t1.1
let v_law_row2 := t1.2.1
let v_law_left4 := t1.2.2
let v_law_k1 := x1
((((((((((mulR v_law_mixed2 (48271 : Int))).bind fun y3 => ((mulR (10007 : Int) v_law_k1)).bind fun y4 => R.ok (y3 + y4))).bind fun y5 => R.ok (y5 + (12345 : Int)))).bind fun y6 => R.ok y6)).bind fun y7 => (modR y7 (2147483647 : Int)))).bind fun v_law_mixed3 =>
((cond (decide ((0 : Int) < v_law_left4)) (((modR v_law_left4 v_law_limit)).bind fun y8 =>
(appR v_law_row2 y8).bind fun v_law_row4 =>
((divR v_law_left4 v_law_limit)).bind fun v_law_left6 =>
(R.ok (v_law_row4, v_law_left6)))
(((((divR v_law_mixed3 (1021 : Int))).bind fun y9 => (modR y9 v_law_limit))).bind fun y10 =>
(appR v_law_row2 y10).bind fun v_law_row5 =>
(R.ok (v_law_row5, v_law_left4))))).bind fun s2 =>
let v_law_row3 := s2.1
let v_law_left5 := s2.2
(R.ok (v_law_mixed3, v_law_row3, v_law_left5))
def m_law_numbers (v_law_cell_here : Int) (v_law_many : Int) (v_law_limit : Int) : R Er (List Int) :=
  let v_law_left1 := (0 : Int)
((((((powR (10 : Int) (18 : Int))).bind fun y1 => R.ok (decide (y1 ≤ v_law_cell_here)))).bind fun y12 => cond y12 (((((powR (10 : Int) (18 : Int))).bind fun y2 => R.ok (v_law_cell_here - y2))).bind fun v_law_left3 =>
(R.ok v_law_left3))
((R.ok v_law_left1)))).bind fun s1 =>
let v_law_left2 := s1
((modR v_law_cell_here (2147483647 : Int))).bind fun v_law_mixed1 =>
let v_law_row1 := ([] : List Int)
((rngR v_law_many)).bind fun y11 =>
(R.foldR (m_law_numbers_s1 v_law_limit) (v_law_mixed1, v_law_row1, v_law_left2) y11).bind fun t2 =>
let v_law_mixed4 := t2.1
let v_law_row6 := t2.2.1
let v_law_left7 := t2.2.2
(R.ok v_law_row6)
def m_law_moved (v_law_state : (List Nat)) (v_law_step : (List Nat)) : R Er (List Nat) :=
  ((((ixTR v_law_step (1 : Int))).bind fun y1 => (intTR y1))).bind fun v_law_item1 =>
let v_law_sign1 := ([104] : List Nat)
((((((ixTR v_law_step (0 : Int))).bind fun y2 => R.ok (decide (y2 = ([45] : List Nat))))).bind fun y4 => cond y4 (let v_law_sign3 := ([114] : List Nat)
(R.ok v_law_sign3))
((R.ok v_law_sign1)))).bind fun s1 =>
let v_law_sign2 := s1
(((catR (cutL v_law_state (none : Option Int) (some v_law_item1)) v_law_sign2)).bind fun y3 => (catR y3 (cutL v_law_state (some (v_law_item1 + (1 : Int))) (none : Option Int))))
def m_law_ends (v_law_state : (List Nat)) : R Er (List (List Nat)) :=
  (((rngR (v_law_state.length : Int))).bind fun y3 => (R.mapR (fun x1 => ((((ixTR v_law_state x1)).bind fun y1 => R.ok (decide (y1 = ([104] : List Nat)))) : R Er Bool)) (fun x1 => ((((strR x1)).bind fun y2 => (catR ([45] : List Nat) y2)) : R Er (List Nat))) y3))
def m_law_order_s2 (v_law_programs : (List (List (List Nat)))) (v_law_places2 : (List Int)) (v_law_holders2 : (List ((List Nat) × Int))) (t2 : (List Int)) (x3 : Int) : R Er (List Int) :=
let v_law_ready2 := t2
let v_law_index1 := x3
((((((ixR v_law_places2 v_law_index1)).bind fun y2 => ((((ixR v_law_programs v_law_index1)).bind fun y1 => R.ok (y1.length : Int))).bind fun y3 => R.ok (decide (y2 < y3)))).bind fun y10 => cond y10 (((((ixR v_law_programs v_law_index1)).bind fun y4 => ((ixR v_law_places2 v_law_index1)).bind fun y5 => (ixR y4 y5))).bind fun v_law_step1 =>
((((((((ixTR v_law_step1 (0 : Int))).bind fun y6 => R.ok (decide (y6 = ([45] : List Nat))))).bind fun y8 => (cond y8 (R.ok true) (((ixTR v_law_step1 (1 : Int))).bind fun y7 => R.ok (!(getA v_law_holders2 y7).isSome))))).bind fun y9 => cond y9 ((appR v_law_ready2 v_law_index1).bind fun v_law_ready5 =>
(R.ok v_law_ready5))
((R.ok v_law_ready2)))).bind fun s2 =>
let v_law_ready4 := s2
(R.ok v_law_ready4))
((R.ok v_law_ready2)))).bind fun s1 =>
let v_law_ready3 := s1
(R.ok v_law_ready3)
def m_law_order_s1 (v_law_programs : (List (List (List Nat)))) (t1 : ((List Int) × (List Int) × (List ((List Nat) × Int)))) (x2 : Int) : R Er ((List Int) × (List Int) × (List ((List Nat) × Int))) :=
let v_law_places2 := t1.1
let v_law_order_here2 := t1.2.1
let v_law_holders2 := t1.2.2
let v_law_number1 := x2
let v_law_ready1 := ([] : List Int)
((rngR (v_law_programs.length : Int))).bind fun y20 =>
(R.foldR (m_law_order_s2 v_law_programs v_law_places2 v_law_holders2) v_law_ready1 y20).bind fun t3 =>
let v_law_ready6 := t3
((cond (!decide (v_law_ready6 = ([] : List Int))) (((((modR v_law_number1 (v_law_ready6.length : Int))).bind fun y11 => (ixR v_law_ready6 y11))).bind fun v_law_index2 =>
((((ixR v_law_programs v_law_index2)).bind fun y12 => ((ixR v_law_places2 v_law_index2)).bind fun y13 => (ixR y12 y13))).bind fun v_law_step2 =>
((((ixR v_law_places2 v_law_index2)).bind fun y14 => R.ok (y14 + (1 : Int)))).bind fun y19 =>
(R.iff (0 ≤ v_law_index2 ∧ v_law_index2 < v_law_places2.length) (.ok (v_law_places2.set (v_law_index2).toNat y19))).bind fun v_law_places4 =>
(appR v_law_order_here2 v_law_index2).bind fun v_law_order_here4 =>
((((((ixTR v_law_step2 (0 : Int))).bind fun y15 => R.ok (decide (y15 = ([45] : List Nat))))).bind fun y18 => cond y18 (((ixTR v_law_step2 (1 : Int))).bind fun y16 =>
(R.iff ((getA v_law_holders2 y16).isSome = true) (.ok (dropA v_law_holders2 y16))).bind fun v_law_holders5 =>
(R.ok v_law_holders5))
(((ixTR v_law_step2 (1 : Int))).bind fun y17 =>
(putR v_law_holders2 y17 v_law_index2).bind fun v_law_holders6 =>
(R.ok v_law_holders6)))).bind fun s4 =>
let v_law_holders4 := s4
(R.ok (v_law_places4, v_law_order_here4, v_law_holders4)))
((R.ok (v_law_places2, v_law_order_here2, v_law_holders2))))).bind fun s3 =>
let v_law_places3 := s3.1
let v_law_order_here3 := s3.2.1
let v_law_holders3 := s3.2.2
(R.ok (v_law_places3, v_law_order_here3, v_law_holders3))
def m_law_order (v_law_programs : (List (List (List Nat)))) (v_law_numbers_here : (List Int)) : R Er (List Int) :=
  ((R.mapR (fun _ => (R.ok true : R Er Bool)) (fun x1 => ((R.ok (0 : Int)) : R Er Int)) v_law_programs)).bind fun v_law_places1 =>
let v_law_holders1 := ([] : List ((List Nat) × Int))
let v_law_order_here1 := ([] : List Int)
(R.foldR (m_law_order_s1 v_law_programs) (v_law_places1, v_law_order_here1, v_law_holders1) v_law_numbers_here).bind fun t4 =>
let v_law_places5 := t4.1
let v_law_order_here5 := t4.2.1
let v_law_holders7 := t4.2.2
(R.ok v_law_order_here5)
def m_law_free_s1 (v_law_size : Int) (t1 : ((List (List Nat)) × (List Nat))) (x1 : Int) : R Er ((List (List Nat)) × (List Nat)) :=
let v_law_steps2 := t1.1
let v_law_state2 := t1.2
let v_law_number1 := x1
((((rngR v_law_size)).bind fun y3 => (R.mapR (fun x2 => ((((ixTR v_law_state2 x2)).bind fun y1 => R.ok (decide (y1 = ([46] : List Nat)))) : R Er Bool)) (fun x2 => ((((strR x2)).bind fun y2 => (catR ([43] : List Nat) y2)) : R Er (List Nat))) y3))).bind fun v_law_moves1 =>
((((((rngR v_law_size)).bind fun y6 => (R.mapR (fun x3 => ((((ixTR v_law_state2 x3)).bind fun y4 => R.ok (decide (y4 = ([104] : List Nat)))) : R Er Bool)) (fun x3 => ((((strR x3)).bind fun y5 => (catR ([45] : List Nat) y5)) : R Er (List Nat))) y6))).bind fun y7 => (catLR v_law_moves1 y7))).bind fun v_law_moves2 =>
((cond (!decide (v_law_moves2 = ([] : List (List Nat)))) (((((modR v_law_number1 (v_law_moves2.length : Int))).bind fun y8 => (ixR v_law_moves2 y8))).bind fun y10 =>
(appR v_law_steps2 y10).bind fun v_law_steps4 =>
((((ixR v_law_steps4 (-(1 : Int)))).bind fun y9 => (m_law_moved v_law_state2 y9))).bind fun v_law_state4 =>
(R.ok (v_law_steps4, v_law_state4)))
((R.ok (v_law_steps2, v_law_state2))))).bind fun s1 =>
let v_law_steps3 := s1.1
let v_law_state3 := s1.2
(R.ok (v_law_steps3, v_law_state3))
def m_law_free (v_law_size : Int) (v_law_numbers_here : (List Int)) : R Er (List (List Nat)) :=
  ((repR ([46] : List Nat) v_law_size)).bind fun v_law_state1 =>
let v_law_steps1 := ([] : List (List Nat))
(R.foldR (m_law_free_s1 v_law_size) (v_law_steps1, v_law_state1) v_law_numbers_here).bind fun t2 =>
let v_law_steps5 := t2.1
let v_law_state5 := t2.2
(((m_law_ends v_law_state5)).bind fun y11 => (catLR v_law_steps5 y11))
def m_law_due_b1 (v_law_programs : (List (List (List Nat)))) (v_law_order_here : (List Int)) (t1 : ((List Int) × (List ((List Nat) × Int)) × (List (List Int)))) (x3 : Int) (k : ((List Int) × (List ((List Nat) × Int)) × (List (List Int))) → R Er Dt) : R Er Dt :=
let v_law_places2 := t1.1
let v_law_holders2 := t1.2.1
let v_law_rows2 := t1.2.2
let v_law_place1 := x3
((ixR v_law_order_here v_law_place1)).bind fun v_law_index1 =>
(((cond (decide (v_law_index1 < (0 : Int))) (R.ok true) (cond (decide ((v_law_programs.length : Int) ≤ v_law_index1)) (R.ok true) (((ixR v_law_places2 v_law_index1)).bind fun y3 => ((((ixR v_law_programs v_law_index1)).bind fun y2 => R.ok (y2.length : Int))).bind fun y4 => R.ok (decide (y3 = y4)))))).bind fun y22 => cond y22 ((R.ok (Tod.d (rPr rTx rInt) (([111, 114, 100, 101, 114] : List Nat), v_law_place1))))
(((((ixR v_law_programs v_law_index1)).bind fun y5 => ((ixR v_law_places2 v_law_index1)).bind fun y6 => (ixR y5 y6))).bind fun v_law_step1 =>
(((((((ixTR v_law_step1 (0 : Int))).bind fun y7 => R.ok (decide (y7 = ([43] : List Nat))))).bind fun y9 => (cond y9 (((ixTR v_law_step1 (1 : Int))).bind fun y8 => R.ok ((getA v_law_holders2 y8).isSome)) (R.ok false)))).bind fun y21 => cond y21 ((((((((ixTR v_law_step1 (1 : Int))).bind fun y10 => (intTR y10))).bind fun y11 => R.ok (([98, 108, 111, 99, 107, 101, 100] : List Nat), v_law_place1, y11))).bind fun y12 => R.ok (Tod.d (rP3 rTx rInt rInt) y12)))
(((((ixR v_law_places2 v_law_index1)).bind fun y13 => R.ok (y13 + (1 : Int)))).bind fun y20 =>
(R.iff (0 ≤ v_law_index1 ∧ v_law_index1 < v_law_places2.length) (.ok (v_law_places2.set (v_law_index1).toNat y20))).bind fun v_law_places3 =>
(((((ixTR v_law_step1 (0 : Int))).bind fun y14 => R.ok (decide (y14 = ([43] : List Nat))))).bind fun y19 => cond y19 (((ixTR v_law_step1 (1 : Int))).bind fun y17 =>
(putR v_law_holders2 y17 v_law_index1).bind fun v_law_holders3 =>
((((ixTR v_law_step1 (1 : Int))).bind fun y15 => (intTR y15))).bind fun y16 =>
(R.iff (0 ≤ y16 ∧ y16 < v_law_rows2.length) (.ok (ixD v_law_rows2 y16))).bind fun q1 =>
(appR q1 v_law_index1).bind fun q2 =>
let v_law_rows3 := v_law_rows2.set (y16).toNat q2
(k (v_law_places3, v_law_holders3, v_law_rows3)))
(((ixTR v_law_step1 (1 : Int))).bind fun y18 =>
(R.iff ((getA v_law_holders2 y18).isSome = true) (.ok (dropA v_law_holders2 y18))).bind fun v_law_holders4 =>
(k (v_law_places3, v_law_holders4, v_law_rows2))))))))
def m_law_due_b2 (v_law_programs : (List (List (List Nat)))) (v_law_order_here : (List Int)) (v_law_places4 : (List Int)) (t3 : Unit) (x4 : Int) (k : Unit → R Er Dt) : R Er Dt :=
let v_law_index2 := x4
(((((ixR v_law_places4 v_law_index2)).bind fun y24 => ((((ixR v_law_programs v_law_index2)).bind fun y23 => R.ok (y23.length : Int))).bind fun y25 => R.ok (decide (y24 < y25)))).bind fun y26 => cond y26 ((R.ok (Tod.d (rPr rTx rInt) (([111, 114, 100, 101, 114] : List Nat), (v_law_order_here.length : Int)))))
((k ())))
def m_law_due (v_law_programs : (List (List (List Nat)))) (v_law_order_here : (List Int)) : R Er Dt :=
  ((R.mapR (fun _ => (R.ok true : R Er Bool)) (fun x1 => ((R.ok (0 : Int)) : R Er Int)) v_law_programs)).bind fun v_law_places1 =>
let v_law_holders1 := ([] : List ((List Nat) × Int))
((((rngR (6 : Int))).bind fun y1 => (R.mapR (fun _ => (R.ok true : R Er Bool)) (fun x2 => ((R.ok ([] : List Int)) : R Er (List Int))) y1))).bind fun v_law_rows1 =>
((rngR (v_law_order_here.length : Int))).bind fun y33 =>
LK.runC (m_law_due_b1 v_law_programs v_law_order_here) (v_law_places1, v_law_holders1, v_law_rows1) y33 fun t2 =>
let v_law_places4 := t2.1
let v_law_holders5 := t2.2.1
let v_law_rows4 := t2.2.2
((rngR (v_law_programs.length : Int))).bind fun y32 =>
LK.runC (m_law_due_b2 v_law_programs v_law_order_here v_law_places4) () y32 fun t4 =>
(((((((rngR (6 : Int))).bind fun y29 => (R.mapR (fun x5 => ((((ixR v_law_rows4 x5)).bind fun y27 => R.ok (!decide (y27 = ([] : List Int)))) : R Er Bool)) (fun x5 => ((((ixR v_law_rows4 x5)).bind fun y28 => R.ok (x5, y28)) : R Er (Int × (List Int)))) y29))).bind fun y30 => R.ok (([102, 105, 110, 101] : List Nat), y30))).bind fun y31 => R.ok (Tod.d (rPr rTx (rLst (rPr rInt (rTup rInt)))) y31))
def m_law_told_h1 (er1 : Er) (z1 : Unit) (k : (List (Int × (List Int))) → R (Er × Unit) ((Dt × Unit) ⊕ (List (Int × (List Int))))) : R (Er × Unit) ((Dt × Unit) ⊕ (List (Int × (List Int)))) :=
(((((((((fldR er1 0)).bind fun y1 => (dIR y1))).bind fun y3 => ((((fldR er1 1)).bind fun y2 => (dIR y2))).bind fun y4 => R.ok (([98, 108, 111, 99, 107, 101, 100] : List Nat), y3, y4))).bind fun y5 => R.ok (Tod.d (rP3 rTx rInt rInt) y5))).thn (fun y => (y, ())) fun y => R.ok (.inl (y, ())))
def m_law_told_h2 (er2 : Er) (z1 : Unit) (k : (List (Int × (List Int))) → R (Er × Unit) ((Dt × Unit) ⊕ (List (Int × (List Int))))) : R (Er × Unit) ((Dt × Unit) ⊕ (List (Int × (List Int)))) :=
(((((((((fldR er2 0)).bind fun y6 => (dIR y6))).bind fun y7 => R.ok (([111, 114, 100, 101, 114] : List Nat), y7))).bind fun y8 => R.ok (Tod.d (rPr rTx rInt) y8))).thn (fun y => (y, ())) fun y => R.ok (.inl (y, ())))
def m_law_told (v_law_programs : (List (List (List Nat)))) (v_law_order_here : (List Int)) : R Er Dt :=
  (let k := fun (s1 : (List (Int × (List Int)))) =>
let v_law_found1 := s1
(cond (!true) ((((lenR ([] : List Int))).bind fun y9 => R.ok (Tod.d (rTup rInt) y9)))
((((((((R.iff (v_law_found1.length ≤ 16777216) (.ok (v_law_found1.map (·.1))))).bind fun y11 => (R.mapR (fun _ => (R.ok true : R Er Bool)) (fun x1 => ((((getR v_law_found1 x1)).bind fun y10 => R.ok (x1, y10)) : R Er (Int × (List Int)))) y11))).bind fun y12 => R.ok (([102, 105, 110, 101] : List Nat), y12))).bind fun y13 => R.ok (Tod.d (rPr rTx (rLst (rPr rInt (rTup rInt)))) y13))))
tryR (let k := fun (s : (List (Int × (List Int)))) => (R.ok (.inr s) : R (Er × Unit) ((Dt × Unit) ⊕ (List (Int × (List Int)))))
((m_outcome v_law_programs v_law_order_here)).thn (fun y => (y, ())) fun v_law_found2 =>
(k v_law_found2)) (fun b z => R.ok b) k (fun ez => clsR h_BadOrder ez.1.1 (tryR (m_law_told_h2 ez.1 ez.2 fun s => R.ok (.inr s)) (fun b z => R.ok b) k (fun _ => R.no)) ((fun ez => clsR h_Blocked ez.1.1 (tryR (m_law_told_h1 ez.1 ez.2 fun s => R.ok (.inr s)) (fun b z => R.ok b) k (fun _ => R.no)) ((fun ez => R.er ez.1) ez)) ez)))
def m_law_fine (v_law_programs : (List (List (List Nat)))) (v_law_order_here : (List Int)) : R Er Bool :=
  ((R.mapR (fun _ => (R.ok true : R Er Bool)) (fun x1 => ((R.ok x1) : R Er (List (List Nat)))) v_law_programs)).bind fun v_law_given1 =>
let v_law_turns1 := v_law_order_here
(((((((m_law_told v_law_given1 v_law_turns1)).bind fun y1 => ((m_law_due v_law_programs v_law_order_here)).bind fun y2 => (sameR 4 y1 y2))).bind fun y3 => R.ok (!y3))).bind fun y4 => cond y4 ((R.ok false))
((R.ok (cond (decide (v_law_given1 = v_law_programs)) (decide (v_law_turns1 = v_law_order_here)) false))))
def m_law_s1 (v_law_script : (List Int)) (v_law_size1 : Int) (t1 : (List (List (List Nat)))) (x1 : Int) : R Er (List (List (List Nat))) :=
let v_law_programs2 := t1
let v_law_k1 := x1
((((m_law_cell v_law_script ((2 : Int) + v_law_k1))).bind fun y7 => (m_law_numbers y7 (13 : Int) (12 : Int)))).bind fun v_law_numbers_here1 =>
((((((((((ixR v_law_numbers_here1 (12 : Int))).bind fun y9 => ((((mulR (2 : Int) v_law_size1)).bind fun y8 => R.ok (y8 + (1 : Int)))).bind fun y10 => (modR y9 y10))).bind fun y11 => R.ok (some y11))).bind fun y12 => R.ok (cutL v_law_numbers_here1 (none : Option Int) y12))).bind fun y13 => (m_law_free v_law_size1 y13))).bind fun y14 =>
(appR v_law_programs2 y14).bind fun v_law_programs3 =>
(R.ok v_law_programs3)
def m_law (v_law_script : (List Int)) : R Er Bool :=
  ((((m_law_cell v_law_script (0 : Int))).bind fun y1 => (m_law_numbers y1 (6 : Int) (12 : Int)))).bind fun v_law_plan1 =>
((((lenR ([(1 : Int), (2 : Int), (3 : Int), (4 : Int), (2 : Int), (3 : Int), (6 : Int), (3 : Int), (2 : Int), (4 : Int), (3 : Int), (5 : Int)] : List Int))).bind fun y2 => ((ixR v_law_plan1 (0 : Int))).bind fun y3 => (ixR y2 y3))).bind fun v_law_size1 =>
let v_law_programs1 := ([] : List (List (List Nat)))
((((((lenR ([(2 : Int), (3 : Int), (2 : Int), (1 : Int), (3 : Int), (4 : Int), (2 : Int), (0 : Int), (5 : Int), (2 : Int), (6 : Int), (3 : Int)] : List Int))).bind fun y4 => ((ixR v_law_plan1 (1 : Int))).bind fun y5 => (ixR y4 y5))).bind fun y6 => (rngR y6))).bind fun y36 =>
(R.foldR (m_law_s1 v_law_script v_law_size1) v_law_programs1 y36).bind fun t2 =>
let v_law_programs4 := t2
((((((m_law_cell v_law_script (1 : Int))).bind fun y15 => (m_law_numbers y15 (72 : Int) (60 : Int)))).bind fun y16 => (m_law_order v_law_programs4 y16))).bind fun v_law_order_here1 =>
(((((m_law_fine v_law_programs4 v_law_order_here1)).bind fun y17 => R.ok (!y17))).bind fun y35 => cond y35 ((R.ok false))
(((((((ixR v_law_plan1 (2 : Int))).bind fun y18 => (mulR (7 : Int) y18))).bind fun y19 => ((ixR v_law_plan1 (3 : Int))).bind fun y20 => R.ok (y19 + y20))).bind fun v_law_place1 =>
let v_law_turns1 := v_law_order_here1
((((((ixR v_law_plan1 (4 : Int))).bind fun y21 => R.ok (decide (y21 < (6 : Int))))).bind fun y34 => cond y34 (((modR v_law_place1 ((v_law_order_here1.length : Int) + (1 : Int)))).bind fun v_law_place3 =>
((((lenR ([(0 : Int), (1 : Int), (2 : Int), (3 : Int), (-(1 : Int)), (v_law_programs4.length : Int)] : List Int))).bind fun y22 => ((ixR v_law_plan1 (4 : Int))).bind fun y23 => (ixR y22 y23))).bind fun v_law_index1 =>
((((((lenR ([v_law_index1] : List Int))).bind fun y24 => (catLR (cutL v_law_order_here1 (none : Option Int) (some v_law_place3)) y24))).bind fun y29 => ((((((((((ixR v_law_plan1 (5 : Int))).bind fun y25 => (modR y25 (2 : Int)))).bind fun y26 => R.ok (v_law_place3 + y26))).bind fun y27 => R.ok (some y27))).bind fun y28 => R.ok (cutL v_law_order_here1 y28 (none : Option Int)))).bind fun y30 => (catLR y29 y30))).bind fun v_law_turns3 =>
(R.ok (v_law_place3, v_law_turns3)))
(((((((ixR v_law_plan1 (4 : Int))).bind fun y31 => R.ok (decide (y31 < (9 : Int))))).bind fun y32 => cond y32 (let v_law_turns5 := (cutL v_law_order_here1 (none : Option Int) (some v_law_place1))
(R.ok v_law_turns5))
((R.ok v_law_turns1)))).bind fun s3 =>
let v_law_turns4 := s3
(R.ok (v_law_place1, v_law_turns4))))).bind fun s2 =>
let v_law_place2 := s2.1
let v_law_turns2 := s2.2
(((m_law_fine v_law_programs4 v_law_turns2)).bind fun y33 => (cond y33 (m_law_fine v_law_programs4 v_law_order_here1) (R.ok false)))))
end Zk21
namespace Zk21
open PySem L2 LK LKX LKB LJ PL PyProof.Rows PySem.Spec
theorem start_ok {n : Nat} (h1 : 1 ≤ n) (h6 : n ≤ 6) : m_start (n : Int) = .ok (List.replicate n 46) := by
  have : n = 1 ∨ n = 2 ∨ n = 3 ∨ n = 4 ∨ n = 5 ∨ n = 6 := by omega
  rcases this with rfl | rfl | rfl | rfl | rfl | rfl <;> rfl
theorem is_step_lk {n i : Nat} (h6 : n ≤ 6) (hi : i < n) : m_is_step (n : Int) (lk i) = .ok true := by
  unfold m_is_step
  show cond true _ _ = _
  rw [cond_true]
  show ((ixTR (lk i) 0).bind fun y1 => inTR y1 ([43, 45] : List Nat)).bind _ = _
  unfold lk
  rw [ixTR_0, R.ok_bind, inTR_1]
  rw [R.ok_bind, decide_eq_true (by decide), cond_true, ixTR_1, R.ok_bind, inTR_1, decide_eq_true ((digits_take h6).mpr ⟨by omega, by omega⟩)]
theorem is_step_rl {n i : Nat} (h6 : n ≤ 6) (hi : i < n) : m_is_step (n : Int) (rl i) = .ok true := by
  unfold m_is_step
  show cond true _ _ = _
  rw [cond_true]
  show ((ixTR (rl i) 0).bind fun y1 => inTR y1 ([43, 45] : List Nat)).bind _ = _
  unfold rl
  rw [ixTR_0, R.ok_bind, inTR_1]
  rw [R.ok_bind, decide_eq_true (by decide), cond_true, ixTR_1, R.ok_bind, inTR_1, decide_eq_true ((digits_take h6).mpr ⟨by omega, by omega⟩)]
theorem item_lk {i : Nat} (h : i < 10) : ((ixTR (lk i) 1).bind fun y => intTR y) = .ok (i : Int) := by
  unfold lk
  rw [ixTR_1, R.ok_bind, intTR_ok ⟨by omega, by omega⟩]
  congr 1
  omega
theorem item_rl {i : Nat} (h : i < 10) : ((ixTR (rl i) 1).bind fun y => intTR y) = .ok (i : Int) := by
  unfold rl
  rw [ixTR_1, R.ok_bind, intTR_ok ⟨by omega, by omega⟩]
  congr 1
  omega
theorem sign_lk (i : Nat) : ixTR (lk i) 0 = .ok [43] := ixTR_0 _ _
theorem sign_rl (i : Nat) : ixTR (rl i) 0 = .ok [45] := ixTR_0 _ _
theorem after_ok {r : List (List (List Nat))} {s t : List Nat} (h6 : s.length ≤ 6) (ht : t ∈ moves r s) : m_after s t = .ok (mv s t) := by
  unfold m_after
  rcases mem_moves.mp ht with ⟨i, rfl, h, _⟩ | ⟨i, rfl, h⟩
  · obtain ⟨hi, he⟩ := List.getElem?_eq_some_iff.mp h
    rw [is_step_lk h6 hi, R.ok_bind, R.ok_bind, Bool.not_true, cond_false, item_lk (by omega), R.ok_bind, sign_lk, R.ok_bind, R.ok_bind, decide_eq_true rfl, cond_true, ixTR_nat hi, R.ok_bind, R.ok_bind, he, decide_eq_true rfl, Bool.not_true, cond_false, cut_put (by omega) hi, mv_lk]
  · obtain ⟨hi, he⟩ := List.getElem?_eq_some_iff.mp h
    rw [is_step_rl h6 hi, R.ok_bind, R.ok_bind, Bool.not_true, cond_false, item_rl (by omega), R.ok_bind, sign_rl, R.ok_bind, R.ok_bind, decide_eq_false (by decide), cond_false, ixTR_nat hi, R.ok_bind, R.ok_bind, he, decide_eq_true rfl, Bool.not_true, cond_false, cut_put (by omega) hi, mv_rl]
theorem cell_ok (ns : List Int) {k : Int} (h : 0 ≤ k) : ∃ c, m_law_cell ns k = .ok c := by
  unfold m_law_cell
  by_cases hk : k < (ns.length : Int)
  · simp only [hk, decide_true, cond_true]
    exact ⟨_, ixR_ok ⟨by omega, hk⟩⟩
  · simp only [hk, decide_false, cond_false]
    exact ⟨_, rfl⟩
theorem numbers_step (l : Int) (hl : 0 < l ∧ l < 1073741824) (s : Int × List Int × Int) (x : Int) (hs : s.2.1.length < 16777216) : ∃ a y b, 0 ≤ y ∧ y < l ∧ m_law_numbers_s1 l s x = .ok (a, s.2.1 ++ [y], b) := by
  obtain ⟨m, row, left⟩ := s
  have e1 : ∀ a : Int, 0 ≤ a % l ∧ a % l < l := fun a => ⟨Int.emod_nonneg _ (by omega), Int.emod_lt_of_pos _ hl.1⟩
  unfold m_law_numbers_s1
  simp only [mulR_r (x := m) (y := 48271) (by decide), mulR_l (x := 10007) (y := x) (by decide), modR_ok (y := 2147483647) (by decide), R.ok_bind, modR_ok hl.1, divR_ok hl, divR_ok (y := 1021) (by decide), appR_ok (show row.length < 16777216 from hs)]
  by_cases h : 0 < left
  · simp only [h, decide_true, cond_true, R.ok_bind]
    exact ⟨_, _, _, (e1 _).1, (e1 _).2, rfl⟩
  · simp only [h, decide_false, cond_false, R.ok_bind]
    exact ⟨_, _, _, (e1 _).1, (e1 _).2, rfl⟩
theorem numbers_ok (c : Int) {n l : Int} (h0 : 0 ≤ n) (hn : n ≤ 10000) (hl : 0 < l ∧ l < 1073741824) : ∃ row, m_law_numbers c n l = .ok row ∧ row.length = n.toNat ∧ ∀ y ∈ row, 0 ≤ y ∧ y < l := by
  have e : powR 10 18 = .ok ((10 : Int) ^ (18 : Int).toNat) := R.iff_of ⟨by decide, by decide, by decide⟩ _
  unfold m_law_numbers
  obtain ⟨s1, h1⟩ : ∃ s1, (cond (decide ((10 : Int) ^ (18 : Int).toNat ≤ c)) (R.ok (c - (10 : Int) ^ (18 : Int).toNat)) (R.ok 0) : R Er Int) = .ok s1 := by
    cases decide ((10 : Int) ^ (18 : Int).toNat ≤ c) <;> exact ⟨_, rfl⟩
  simp only [e, R.ok_bind, h1, modR_ok (y := 2147483647) (by decide), rngR_ok (n := n) ⟨by omega, by omega⟩]
  obtain ⟨s', e2, p⟩ := R.foldR_inv (m_law_numbers_s1 l) (fun k s => s.2.1.length = k ∧ ∀ y ∈ s.2.1, 0 ≤ y ∧ y < l) (rng n) 0 (c % 2147483647, [], s1) ⟨rfl, fun _ z => nomatch z⟩ (fun j s x hx hp => by
    have hj : j < (rng n).length := (List.getElem?_eq_some_iff.mp hx).1
    rw [rng_len] at hj
    obtain ⟨a, y, b, y0, y1, e⟩ := numbers_step l hl s x (by rw [hp.1]; omega)
    refine ⟨_, e, by simp [hp.1], fun z hz => ?_⟩
    rcases List.mem_append.mp hz with hz | hz
    · exact hp.2 z hz
    · rw [List.mem_singleton.mp hz]; exact ⟨y0, y1⟩)
  rw [rng_len, Nat.zero_add] at p
  exact ⟨s'.2.1, by rw [e2]; rfl, p.1, p.2⟩
theorem moved_ok {r : List (List (List Nat))} {s t : List Nat} (h6 : s.length ≤ 6) (ht : t ∈ moves r s) : m_law_moved s t = .ok (mv s t) := by
  unfold m_law_moved
  rcases mem_moves.mp ht with ⟨i, rfl, h, _⟩ | ⟨i, rfl, h⟩
  · obtain ⟨hi, he⟩ := List.getElem?_eq_some_iff.mp h
    have e1 : ((ixTR (lk i) 1).bind fun y => intTR y) = .ok (i : Int) := by
      unfold lk
      rw [ixTR_1, R.ok_bind, intTR_ok ⟨by omega, by omega⟩]
      congr 1
      omega
    have e2 : ixTR (lk i) 0 = .ok [43] := ixTR_0 _ _
    rw [e1, R.ok_bind]
    dsimp only
    rw [e2, R.ok_bind, R.ok_bind, decide_eq_false (by decide), cond_false, R.ok_bind, cut_put (by omega) hi, mv_lk]
  · obtain ⟨hi, he⟩ := List.getElem?_eq_some_iff.mp h
    have e1 : ((ixTR (rl i) 1).bind fun y => intTR y) = .ok (i : Int) := by
      unfold rl
      rw [ixTR_1, R.ok_bind, intTR_ok ⟨by omega, by omega⟩]
      congr 1
      omega
    have e2 : ixTR (rl i) 0 = .ok [45] := ixTR_0 _ _
    rw [e1, R.ok_bind]
    dsimp only
    rw [e2, R.ok_bind, R.ok_bind, decide_eq_true rfl, cond_true, R.ok_bind, cut_put (by omega) hi, mv_rl]
end Zk21
namespace Zk21
open PySem L2 LK LKX LKB LJ PL PyProof.Rows PySem.Spec
def allR (s : List Nat) : List (List (List Nat)) := List.replicate 6 [s]
theorem lg_moves {s t : List Nat} (h6 : s.length ≤ 6) (h : Lg s t) : t ∈ moves (allR s) s := by
  rcases h with ⟨i, rfl, hi⟩ | ⟨i, rfl, hi⟩
  · refine mem_moves.mpr (.inl ⟨i, rfl, hi, ?_⟩)
    have : i < 6 := Nat.lt_of_lt_of_le (List.getElem?_eq_some_iff.mp hi).1 h6
    unfold at_ allR
    rw [List.getD_eq_getElem?_getD, List.getElem?_replicate, if_pos this]
    exact List.mem_singleton.mpr rfl
  · exact mem_moves.mpr (.inr ⟨i, rfl, hi⟩)
theorem replay_run : ∀ {l : List (List Nat)} {s : List Nat}, s.length ≤ 6 → Legal s l → R.foldR m_replay_s1 s l = .ok (run s l)
  | [], _, _, _ => rfl
  | t :: l, s, h6, h => by
    show (m_replay_s1 s t).bind _ = _
    unfold m_replay_s1
    dsimp only
    rw [after_ok h6 (lg_moves h6 h.1), R.ok_bind, R.ok_bind]
    exact replay_run (by rw [h.1.len]; exact h6) h.2
theorem replay_ok {p : List (List Nat)} (h : Prog p) : m_replay 6 p = .ok (run st6 p) := by
  unfold m_replay
  rw [show m_start (6 : Int) = .ok st6 from rfl, R.ok_bind, replay_run (by decide) h.leg]
  rfl
theorem check_ok {ps : List (List (List Nat))} (h : ∀ p ∈ ps, Prog p) : m_check_programs 6 ps = .ok () := by
  unfold m_check_programs
  rw [R.runC_unit fun x hx k => ?_]
  have hp := h x.2 (List.of_mem_zip (show (x.1, x.2) ∈ _ from hx)).2
  unfold m_check_programs_b1
  dsimp only
  rw [replay_ok hp, R.ok_thn]
  unfold tryR
  dsimp only
  rw [inTR_1, decide_eq_false hp.fin]
  rfl
/-! ### programs by free choices -/
theorem dec1 {a b : Nat} : decide (([a] : List Nat) = [b]) = decide (a = b) := by
  by_cases h : a = b
  · rw [decide_eq_true h, decide_eq_true (by rw [h])]
  · rw [decide_eq_false h, decide_eq_false (fun z => h (by simpa using z))]
theorem at46 {s : List Nat} {i c : Nat} (h : i < s.length) : decide (s[i] = c) = decide (s[i]? = some c) := by
  rw [List.getElem?_eq_getElem h]
  by_cases e : s[i] = c
  · rw [decide_eq_true e, decide_eq_true (by rw [e])]
  · rw [decide_eq_false e, decide_eq_false (fun z => e (Option.some.inj z))]
theorem its_map {s : List Nat} (h6 : s.length ≤ 6) (c sg : Nat) : (R.mapR (fun x2 => ((((ixTR s x2)).bind fun y1 => R.ok (decide (y1 = ([c] : List Nat)))) : R Er Bool)) (fun x2 => ((((strR x2)).bind fun y2 => (catR ([sg] : List Nat) y2)) : R Er (List Nat))) ((List.range s.length).map fun (k : Nat) => (k : Int)) : R Er (List (List Nat))) = .ok ((its s c).map fun i => [sg, 48 + i]) := by
  rw [R.mapR_ok (fun x : Int => decide (s[x.toNat]? = some c)) (fun x : Int => [sg, 48 + x.toNat]) _ (fun x hx => ?_) (fun x hx _ => ?_)]
  · unfold its
    rw [List.filter_map, List.map_map]
    rfl
  · obtain ⟨k, hk, rfl⟩ := mem_rng.mp hx
    rw [ixTR_nat hk, R.ok_bind, dec1, at46 hk]
    rfl
  · obtain ⟨k, hk, rfl⟩ := mem_rng.mp hx
    rw [strR_ok ⟨by omega, by omega⟩, R.ok_bind, catR_ok (by simp)]
    rfl
theorem its_le (s : List Nat) (c : Nat) : (its s c).length ≤ s.length := by
  unfold its
  exact Nat.le_trans (List.length_filter_le _ _) (by rw [List.length_range]; exact Nat.le_refl _)
theorem ix_last {α : Type} [Inhabited α] (xs : List α) (x : α) : ixR (xs ++ [x]) (-1 : Int) = .ok x := by
  rw [ixR_ok ⟨by rw [List.length_append, List.length_singleton]; omega, by omega⟩]
  congr 1
  unfold ixD atI ixN
  rw [List.length_append, List.length_singleton, if_neg (by omega), if_pos (by omega)]
  show ((xs ++ [x])[((-1 : Int) + ((xs.length + 1 : Nat) : Int)).toNat]?).getD default = x
  have : ((-1 : Int) + ((xs.length + 1 : Nat) : Int)).toNat = xs.length := by omega
  rw [this, List.getElem?_append_right (Nat.le_refl _), Nat.sub_self]
  rfl
theorem free_ok {n : Nat} (h1 : 1 ≤ n) (h6 : n ≤ 6) {nums : List Int} (hn : nums.length ≤ 100) : ∃ p, m_law_free (n : Int) nums = .ok p ∧ Prog p := by
  have e : repR ([46] : List Nat) (n : Int) = .ok (List.replicate n 46) := by
    have : n = 1 ∨ n = 2 ∨ n = 3 ∨ n = 4 ∨ n = 5 ∨ n = 6 := by omega
    rcases this with rfl | rfl | rfl | rfl | rfl | rfl <;> rfl
  obtain ⟨st, ef, hst⟩ := R.foldR_inv (m_law_free_s1 (n : Int)) (fun j (st : List (List Nat) × List Nat) => Legal (List.replicate n 46) st.1 ∧ st.2 = run (List.replicate n 46) st.1 ∧ st.1.length ≤ j) nums 0 ([], List.replicate n 46) ⟨trivial, rfl, Nat.le_refl _⟩ (fun j st x hx hp => by
    obtain ⟨steps, s⟩ := st
    obtain ⟨h1', h2, h3⟩ := hp
    have h2 : s = run (List.replicate n 46) steps := h2
    have h1' : Legal (List.replicate n 46) steps := h1'
    have h3 : steps.length ≤ 0 + j := h3
    have hj := (List.getElem?_eq_some_iff.mp hx).1
    have hs : s.length = n := by rw [h2, run_len h1', List.length_replicate]
    have l1 := its_le s 46
    have l2 := its_le s 104
    have hr : rngR (n : Int) = .ok ((List.range s.length).map fun (k : Nat) => (k : Int)) := by rw [hs]; exact rngR_nat (Nat.le_trans h6 (by decide))
    unfold m_law_free_s1
    dsimp only
    rw [hr, R.ok_bind, its_map (by omega), R.ok_bind, R.ok_bind, its_map (by omega), R.ok_bind, catLR_ok (by simp; omega), R.ok_bind]
    by_cases hm : ((its s 46).map (fun i => [43, 48 + i]) ++ (its s 104).map (fun i => [45, 48 + i]) : List (List Nat)) = []
    · rw [decide_eq_true hm]
      exact ⟨_, rfl, h1', h2, Nat.le_trans h3 (Nat.le_succ _)⟩
    · rw [decide_eq_false hm, Bool.not_false, cond_true]
      have hlen : 0 < ((its s 46).map (fun i => [43, 48 + i]) ++ (its s 104).map (fun i => [45, 48 + i]) : List (List Nat)).length := List.length_pos_iff.mpr hm
      obtain ⟨t, ht, et⟩ := ixR_mem (x := ((its s 46).map (fun i => [43, 48 + i]) ++ (its s 104).map (fun i => [45, 48 + i]) : List (List Nat))) (i := x % ((((its s 46).map (fun i => [43, 48 + i]) ++ (its s 104).map (fun i => [45, 48 + i]) : List (List Nat)).length : Nat) : Int)) ⟨Int.emod_nonneg _ (by omega), Int.emod_lt_of_pos _ (by omega)⟩
      have hlg : Lg s t := by
        rcases List.mem_append.mp ht with q | q
        · obtain ⟨i, hi, rfl⟩ := List.mem_map.mp q
          exact .inl ⟨i, rfl, mem_its.mp hi⟩
        · obtain ⟨i, hi, rfl⟩ := List.mem_map.mp q
          exact .inr ⟨i, rfl, mem_its.mp hi⟩
      rw [modR_ok (by omega), R.ok_bind, et, R.ok_bind, appR_ok (by omega), R.ok_bind, ix_last, R.ok_bind, moved_ok (by omega) (lg_moves (by omega) hlg), R.ok_bind, R.ok_bind]
      refine ⟨_, rfl, legal_app.mpr ⟨h1', ?_, trivial⟩, ?_, by rw [List.length_append, List.length_singleton]; omega⟩
      · rw [← h2]; exact hlg
      · rw [run_app, ← h2]; rfl)
  obtain ⟨steps, s⟩ := st
  obtain ⟨a, b, c⟩ := hst
  have b : s = run (List.replicate n 46) steps := b
  have a : Legal (List.replicate n 46) steps := a
  have c : steps.length ≤ 0 + nums.length := c
  have hs : s.length = n := by rw [b, run_len a, List.length_replicate]
  have l2 := its_le s 104
  unfold m_law_free
  rw [e, R.ok_bind]
  dsimp only
  rw [ef, R.ok_bind]
  dsimp only
  unfold m_law_ends
  rw [hs, rngR_nat (Nat.le_trans h6 (by decide)), R.ok_bind]
  have em := its_map (s := s) (by omega) 104 45
  rw [hs] at em
  rw [em, R.ok_bind, catLR_ok (by simp; omega)]
  obtain ⟨z1, z2⟩ := ends_all s
  have hleg : Legal (List.replicate n 46) (steps ++ (its s 104).map rl) := legal_app.mpr ⟨a, by rw [← b]; exact z1⟩
  have hpad : List.replicate n 46 ++ List.replicate (6 - n) 46 = st6 := by
    rw [List.replicate_append_replicate, show n + (6 - n) = 6 by omega]; rfl
  obtain ⟨y1, y2⟩ := legal_pad (List.replicate (6 - n) 46) hleg
  rw [hpad] at y1 y2
  refine ⟨_, rfl, y1, ?_, by simp; omega⟩
  show 104 ∉ run st6 (steps ++ (its s 104).map rl)
  rw [y2, run_app, ← b]
  intro h
  rcases List.mem_append.mp h with q | q
  · exact z2 q
  · have := List.eq_of_mem_replicate q
    omega
/-! ### an order -/
def Pl (cs : List Nat) : List Int := cs.map fun (c : Nat) => (c : Int)
theorem pl_at {cs : List Nat} {k : Nat} (h : k < cs.length) : ixR (Pl cs) (k : Int) = .ok (cs[k] : Int) := by
  have : k < (Pl cs).length := by unfold Pl; rw [List.length_map]; exact h
  rw [ixR_nat this]
  congr 1
  exact List.getElem_map _
theorem pl_set (cs : List Nat) (k : Nat) : (Pl cs).set k ((cs.getD k 0 : Int) + 1) = Pl (cs.set k (cs.getD k 0 + 1)) := by
  unfold Pl
  rw [List.map_set]
  rfl
/-- the step that program k makes next -/
theorem step_at {ps : List (List (List Nat))} {cs : List Nat} {h : List (List Nat × Int)} (hh : Held ps cs h) {k : Nat} (hk : k < ps.length) (hc : cs[k]'(by rw [hh.len]; exact hk) < (ps[k]).length) : (((ixR ps (k : Int)).bind fun y5 => (ixR (Pl cs) (k : Int)).bind fun y6 => ixR y5 y6) : R Er (List Nat)) = .ok ((ps[k])[cs[k]'(by rw [hh.len]; exact hk)]) := by
  rw [ixR_nat hk, R.ok_bind, pl_at (by rw [hh.len]; exact hk), R.ok_bind, ixR_nat hc]
theorem key_of {i : Nat} : ixTR (lk i) (1 : Int) = .ok [48 + i] ∧ ixTR (rl i) (1 : Int) = .ok [48 + i] ∧ ixTR (lk i) (0 : Int) = .ok [43] ∧ ixTR (rl i) (0 : Int) = .ok [45] := ⟨ixTR_1 _ _ _, ixTR_1 _ _ _, ixTR_0 _ _, ixTR_0 _ _⟩
/-- a step of program k that may be made: it is a release, or nobody holds its item -/
def May (ps : List (List (List Nat))) (cs : List Nat) (h : List (List Nat × Int)) (x : Int) : Prop := ∃ (k : Nat) (p : List (List Nat)) (c : Nat), x = (k : Int) ∧ ps[k]? = some p ∧ cs[k]? = some c ∧ ∃ hc : c < p.length, ∀ i, p[c] = lk i → getA h [48 + i] = none
theorem len_drop {κ β : Type} [DecidableEq κ] (d : List (κ × β)) (k : κ) : (dropA d k).length ≤ d.length := List.length_filter_le _ _
theorem ready_step {ps : List (List (List Nat))} (hp : ∀ p ∈ ps, Prog p) {cs : List Nat} {h : List (List Nat × Int)} (hh : Held ps cs h) {k : Nat} (hk : k < ps.length) {t : List Int} (ht : t.length < 1000) : ∃ t', m_law_order_s2 ps (Pl cs) h t (k : Int) = .ok t' ∧ t'.length ≤ t.length + 1 ∧ ∀ x ∈ t', x ∈ t ∨ May ps cs h x := by
  have hkc : k < cs.length := by rw [hh.len]; exact hk
  have e1 := List.getElem?_eq_getElem hk
  have e2 := List.getElem?_eq_getElem hkc
  unfold m_law_order_s2
  dsimp only
  rw [pl_at hkc, R.ok_bind, ixR_nat hk, R.ok_bind, R.ok_bind, R.ok_bind]
  by_cases hc : cs[k] < (ps[k]).length
  · rw [decide_eq_true (by omega), cond_true, R.ok_bind, R.ok_bind, ixR_nat hc, R.ok_bind]
    obtain ⟨i, hi, hs⟩ := (hp _ (List.getElem_mem hk)).step hc
    rcases hs with ⟨q, _⟩ | ⟨q, _⟩
    · rw [q, key_of.2.2.1, R.ok_bind, R.ok_bind, decide_eq_false (by decide), cond_false, key_of.1, R.ok_bind, R.ok_bind, appR_ok (by omega)]
      cases hg : (getA h [48 + i]).isSome with
      | true => exact ⟨t, rfl, Nat.le_succ _, fun x hx => .inl hx⟩
      | false =>
        refine ⟨t ++ [(k : Int)], rfl, by rw [List.length_append]; exact Nat.le_refl _, fun x hx => ?_⟩
        rcases List.mem_append.mp hx with z | z
        · exact .inl z
        · refine .inr ⟨k, _, _, List.mem_singleton.mp z, e1, e2, hc, fun j hj => ?_⟩
          rw [q] at hj
          rw [← lk_inj hj]
          cases z2 : getA h [48 + i] with
          | none => rfl
          | some v => rw [z2] at hg; cases hg
    · rw [q, key_of.2.2.2, R.ok_bind, R.ok_bind, decide_eq_true rfl, cond_true, R.ok_bind, appR_ok (by omega)]
      refine ⟨t ++ [(k : Int)], rfl, by rw [List.length_append]; exact Nat.le_refl _, fun x hx => ?_⟩
      rcases List.mem_append.mp hx with z | z
      · exact .inl z
      · exact .inr ⟨k, _, _, List.mem_singleton.mp z, e1, e2, hc, fun j hj => absurd (hj.symm.trans q) lk_rl⟩
  · rw [decide_eq_false (by omega)]
    exact ⟨t, rfl, Nat.le_succ _, fun x hx => .inl hx⟩
theorem ready_ok {ps : List (List (List Nat))} (hp : ∀ p ∈ ps, Prog p) (hl : ps.length ≤ 6) {cs : List Nat} {h : List (List Nat × Int)} (hh : Held ps cs h) : ∃ t, R.foldR (m_law_order_s2 ps (Pl cs) h) [] ((List.range ps.length).map fun (k : Nat) => (k : Int)) = .ok t ∧ t.length ≤ ps.length ∧ ∀ x ∈ t, May ps cs h x := by
  obtain ⟨t, e, a, b⟩ := R.foldR_inv (m_law_order_s2 ps (Pl cs) h) (fun j (t : List Int) => t.length ≤ j ∧ ∀ x ∈ t, May ps cs h x) ((List.range ps.length).map fun (k : Nat) => (k : Int)) 0 [] ⟨Nat.le_refl _, fun _ z => nomatch z⟩ (fun j t x hx ht => by
    obtain ⟨hj, rfl⟩ := rng_at hx
    rw [Nat.zero_add] at ht
    obtain ⟨t', e, a, b⟩ := ready_step hp hh hj (t := t) (by omega)
    exact ⟨t', e, by omega, fun x hx => (b x hx).elim (ht.2 x) id⟩)
  rw [List.length_map, List.length_range, Nat.zero_add] at a
  exact ⟨t, e, a, b⟩
def OrdP (ps : List (List (List Nat))) (j : Nat) (s : List Int × List Int × List (List Nat × Int)) : Prop := ∃ cs, s.1 = Pl cs ∧ Held ps cs s.2.2 ∧ s.2.1.length ≤ j ∧ s.2.2.length ≤ j
theorem order_step {ps : List (List (List Nat))} (hp : ∀ p ∈ ps, Prog p) (hl : ps.length ≤ 6) {j : Nat} (hj : j ≤ 1000) {s : List Int × List Int × List (List Nat × Int)} (x : Int) (h : OrdP ps j s) : ∃ s', m_law_order_s1 ps s x = .ok s' ∧ OrdP ps (j + 1) s' := by
  obtain ⟨pl, ord, hd⟩ := s
  obtain ⟨cs, h1, h2, h3, h4⟩ := h
  have h1 : pl = Pl cs := h1
  subst h1
  have h2 : Held ps cs hd := h2
  have h3 : ord.length ≤ j := h3
  have h4 : hd.length ≤ j := h4
  obtain ⟨t, et, tl, tm⟩ := ready_ok hp hl h2
  unfold m_law_order_s1
  dsimp only
  rw [rngR_nat (by omega), R.ok_bind, et, R.ok_bind]
  by_cases ht : t = []
  · rw [decide_eq_true ht]
    exact ⟨_, rfl, cs, rfl, h2, Nat.le_trans h3 (Nat.le_succ _), Nat.le_trans h4 (Nat.le_succ _)⟩
  · have hpos : 0 < t.length := List.length_pos_iff.mpr ht
    obtain ⟨y, hy, ey⟩ := ixR_mem (x := t) (i := x % (t.length : Int)) ⟨Int.emod_nonneg _ (by omega), Int.emod_lt_of_pos _ (by omega)⟩
    obtain ⟨k, p, c, rfl, e1, e2, hc, hm⟩ := tm y hy
    have hk := (List.getElem?_eq_some_iff.mp e1).1
    have hkc := (List.getElem?_eq_some_iff.mp e2).1
    have ep : ps[k] = p := by rw [List.getElem?_eq_getElem hk] at e1; exact Option.some.inj e1
    have ec : cs[k] = c := by rw [List.getElem?_eq_getElem hkc] at e2; exact Option.some.inj e2
    have egd : cs.getD k 0 = c := by rw [List.getD_eq_getElem?_getD, e2]; rfl
    have hpk : Prog p := hp p (List.mem_of_getElem? e1)
    have eset : (R.iff (0 ≤ (k : Int) ∧ (k : Int) < (Pl cs).length) (.ok ((Pl cs).set (k : Int).toNat ((c : Int) + 1))) : R Er (List Int)) = .ok (Pl (cs.set k (c + 1))) := by
      rw [R.iff_of ⟨by omega, by unfold Pl; rw [List.length_map]; omega⟩, Int.toNat_natCast]
      have := pl_set cs k
      rw [egd] at this
      rw [this]
    rw [decide_eq_false ht, Bool.not_false, cond_true, modR_ok (by omega), R.ok_bind, ey, R.ok_bind, ixR_nat hk, R.ok_bind, pl_at hkc, R.ok_bind, ep, ec, ixR_nat hc, R.ok_bind, R.ok_bind, R.ok_bind, eset, R.ok_bind, appR_ok (by omega), R.ok_bind]
    obtain ⟨i, hi, hs⟩ := hpk.step hc
    rcases hs with ⟨q, hs⟩ | ⟨q, hi2, hs⟩
    · have hlen := len_putA hd [48 + i] (k : Int)
      rw [q, key_of.2.2.1, R.ok_bind, R.ok_bind, decide_eq_false (by decide), cond_false, key_of.1, R.ok_bind]
      have epu : (putR hd [48 + i] (k : Int) : R Er _) = .ok (putA hd [48 + i] (k : Int)) := R.iff_of (by omega) _
      rw [epu, R.ok_bind, R.ok_bind, R.ok_bind]
      exact ⟨_, rfl, _, rfl, h2.lock hp e1 e2 hc hs (hm i q) _, by rw [List.length_append, List.length_singleton]; omega, by show (putA hd [48 + i] (k : Int)).length ≤ j + 1; omega⟩
    · obtain ⟨r1, r2⟩ := h2.rel hp e1 e2 hc hi2 hs
      have hlen := len_drop hd [48 + i]
      rw [q, key_of.2.2.2, R.ok_bind, R.ok_bind, decide_eq_true rfl, cond_true, key_of.2.1, R.ok_bind, R.iff_of r1, R.ok_bind, R.ok_bind, R.ok_bind]
      exact ⟨_, rfl, _, rfl, r2, by rw [List.length_append, List.length_singleton]; omega, by show (dropA hd [48 + i]).length ≤ j + 1; omega⟩
theorem zero_pl (ps : List (List (List Nat))) : (R.mapR (fun _ => (R.ok true : R Er Bool)) (fun x1 => ((R.ok (0 : Int)) : R Er Int)) ps : R Er (List Int)) = .ok (Pl (ps.map fun _ => 0)) := by
  rw [R.mapR_all (fun _ => (0 : Int)) _ (fun _ _ => rfl)]
  unfold Pl
  rw [List.map_map]; rfl
theorem order_ok {ps : List (List (List Nat))} (hp : ∀ p ∈ ps, Prog p) (hl : ps.length ≤ 6) {nums : List Int} (hn : nums.length ≤ 100) : ∃ o, m_law_order ps nums = .ok o ∧ o.length ≤ 100 := by
  obtain ⟨s, e, cs, _, _, h3, _⟩ := R.foldR_inv (m_law_order_s1 ps) (OrdP ps) nums 0 (Pl (ps.map fun _ => 0), [], []) ⟨_, rfl, Held.nil, Nat.le_refl _, Nat.le_refl _⟩ (fun j s x hx h => by
    rw [Nat.zero_add] at h ⊢
    have := (List.getElem?_eq_some_iff.mp hx).1
    exact order_step hp hl (by omega) x h)
  unfold m_law_order
  rw [zero_pl, R.ok_bind]
  dsimp only
  rw [e, R.ok_bind]
  exact ⟨_, rfl, by omega⟩
/-! ### the outcome and what is due -/
def dOrder (p : Int) : Dt := Tod.d (rPr rTx rInt) (([111, 114, 100, 101, 114] : List Nat), p)
def dBlk (p i : Int) : Dt := Tod.d (rP3 rTx rInt rInt) (([98, 108, 111, 99, 107, 101, 100] : List Nat), p, i)
def dFine (L : List (Int × List Int)) : Dt := Tod.d (rPr rTx (rLst (rPr rInt (rTup rInt)))) (([102, 105, 110, 101] : List Nat), L)
theorem holds_ok {p : List (List Nat)} (h : Prog p) (c d : Nat) : m_holds p (c : Int) [48 + d] = .ok (decide (lk d ∈ p.take c ∧ rl d ∉ p.take c)) := by
  unfold m_holds
  rw [cutL_pre]
  dsimp only
  rw [catR_ok (by simp), R.ok_bind, R.ok_bind, catR_ok (by simp), R.ok_bind]
  have e1 : memD ([43] ++ [48 + d]) (p.take c) = decide (lk d ∈ p.take c) := Bool.eq_iff_iff.mpr (memD_iff.trans decide_eq_true_iff.symm)
  have e2 : memD ([45] ++ [48 + d]) (p.take c) = decide (rl d ∈ p.take c) := Bool.eq_iff_iff.mpr (memD_iff.trans decide_eq_true_iff.symm)
  rw [e1, e2]
  by_cases a : lk d ∈ p.take c
  · rw [decide_eq_true a]
    by_cases b : rl d ∈ p.take c
    · rw [decide_eq_true b, decide_eq_false (fun (z : lk d ∈ p.take c ∧ rl d ∉ p.take c) => z.2 b)]; rfl
    · rw [decide_eq_false b, decide_eq_true ⟨a, b⟩]; rfl
  · rw [decide_eq_false a, decide_eq_false (fun (z : lk d ∈ p.take c ∧ rl d ∉ p.take c) => a z.1)]; rfl
section
variable {ps : List (List (List Nat))} (hp : ∀ p ∈ ps, Prog p) (hl : ps.length ≤ 6)
include hp hl
theorem free_lk {cs : List Nat} {h : List (List Nat × Int)} (hh : Held ps cs h) {k : Nat} (hk : k < ps.length) (hc : cs[k]'(by rw [hh.len]; exact hk) < (ps[k]).length) {i : Nat} (q : (ps[k])[cs[k]'(by rw [hh.len]; exact hk)] = lk i) : m_is_free ps (Pl cs) (k : Int) = .ok (!(getA h [48 + i]).isSome) := by
  unfold m_is_free
  rw [step_at hh hk hc, q, R.ok_bind, key_of.2.2.1, R.ok_bind, R.ok_bind, decide_eq_false (by decide), cond_false, rngR_nat (by omega), R.ok_bind, R.mapR_all (fun x : Int => decide (lk i ∈ (ps.getD x.toNat []).take (cs.getD x.toNat 0) ∧ rl i ∉ (ps.getD x.toNat []).take (cs.getD x.toNat 0))) _ (fun x hx => ?_), R.ok_bind, R.ok_bind]
  · congr 2
    rw [Bool.eq_iff_iff, hh.key, List.any_map, List.any_eq_true]
    constructor
    · rintro ⟨x, hx, hd⟩
      obtain ⟨j, hj, rfl⟩ := mem_rng.mp hx
      have hjc : j < cs.length := by rw [hh.len]; exact hj
      have e1 := List.getElem?_eq_getElem hj
      have e2 := List.getElem?_eq_getElem hjc
      have hd := of_decide_eq_true hd
      rw [Int.toNat_natCast, List.getD_eq_getElem?_getD, List.getD_eq_getElem?_getD, e1, e2] at hd
      exact ⟨j, _, _, e1, e2, (hd_iff (hp _ (List.getElem_mem hj)) _ _).mpr hd⟩
    · rintro ⟨j, p, c, e1, e2, hd⟩
      have hj := (List.getElem?_eq_some_iff.mp e1).1
      refine ⟨(j : Int), mem_rng.mpr ⟨j, hj, rfl⟩, ?_⟩
      show decide _ = true
      rw [Int.toNat_natCast, List.getD_eq_getElem?_getD, List.getD_eq_getElem?_getD, e1, e2]
      exact decide_eq_true ((hd_iff (hp p (List.mem_of_getElem? e1)) _ _).mp hd)
  · obtain ⟨j, hj, rfl⟩ := mem_rng.mp hx
    have hjc : j < cs.length := by rw [hh.len]; exact hj
    rw [ixR_nat hj, R.ok_bind, pl_at hjc, R.ok_bind, key_of.1, R.ok_bind, holds_ok (hp _ (List.getElem_mem hj)), Int.toNat_natCast, List.getD_eq_getElem?_getD, List.getD_eq_getElem?_getD, List.getElem?_eq_getElem hj, List.getElem?_eq_getElem hjc]
    rfl
theorem free_rl {cs : List Nat} {h : List (List Nat × Int)} (hh : Held ps cs h) {k : Nat} (hk : k < ps.length) (hc : cs[k]'(by rw [hh.len]; exact hk) < (ps[k]).length) {i : Nat} (q : (ps[k])[cs[k]'(by rw [hh.len]; exact hk)] = rl i) : m_is_free ps (Pl cs) (k : Int) = .ok true := by
  unfold m_is_free
  rw [step_at hh hk hc, q, R.ok_bind, key_of.2.2.2, R.ok_bind, R.ok_bind, decide_eq_true rfl, cond_true]
omit hl in
theorem bad_eq {cs : List Nat} {h : List (List Nat × Int)} (hh : Held ps cs h) (x : Int) : (cond (decide (x < (0 : Int))) (R.ok true) (cond (decide ((ps.length : Int) ≤ x)) (R.ok true) (((ixR (Pl cs) x)).bind fun y2 => ((((ixR ps x)).bind fun y1 => R.ok (y1.length : Int))).bind fun y3 => R.ok (decide (y2 = y3)))) : R Er Bool) = .ok true ∨ ((cond (decide (x < (0 : Int))) (R.ok true) (cond (decide ((ps.length : Int) ≤ x)) (R.ok true) (((ixR (Pl cs) x)).bind fun y2 => ((((ixR ps x)).bind fun y1 => R.ok (y1.length : Int))).bind fun y3 => R.ok (decide (y2 = y3)))) : R Er Bool) = .ok false ∧ ∃ (k : Nat) (hk : k < ps.length), x = (k : Int) ∧ cs[k]'(by rw [hh.len]; exact hk) < (ps[k]).length) := by
  by_cases a : x < 0
  · rw [decide_eq_true a]; exact .inl rfl
  · rw [decide_eq_false a, cond_false]
    by_cases b : (ps.length : Int) ≤ x
    · rw [decide_eq_true b]; exact .inl rfl
    · rw [decide_eq_false b, cond_false]
      obtain ⟨k, rfl⟩ : ∃ k : Nat, x = (k : Int) := ⟨x.toNat, by omega⟩
      have hk : k < ps.length := by omega
      have hkc : k < cs.length := by rw [hh.len]; exact hk
      rw [pl_at hkc, R.ok_bind, ixR_nat hk, R.ok_bind, R.ok_bind]
      have hle := hh.le k _ _ (List.getElem?_eq_getElem hk) (List.getElem?_eq_getElem hkc)
      by_cases e : cs[k] = (ps[k]).length
      · rw [decide_eq_true (by omega)]; exact .inl rfl
      · rw [decide_eq_false (by omega)]
        exact .inr ⟨rfl, k, hk, rfl, by omega⟩
end
def Out (O : R Er (List (Int × List Int))) (d : Dt) : Prop := (∃ p, O = .er (6, [.int p]) ∧ d = dOrder p) ∨ (∃ p i, O = .er (7, [.int p, .int i]) ∧ d = dBlk p i) ∨ ∃ L : List (Int × List Int), O = .ok L ∧ (L.map (·.1)).Nodup ∧ L.length ≤ 6 ∧ d = dFine L
structure Sim (ps : List (List (List Nat))) (j : Nat) (found : List (Int × List Int)) (cs : List Nat) (hd : List (List Nat × Int)) (rows : List (List Int)) : Prop where
  held : Held ps cs hd
  len : rows.length = 6
  val : ∀ d : Nat, d < 6 → (getA found (d : Int)).getD [] = rows.getD d []
  key : ∀ d : Nat, d < 6 → ((getA found (d : Int)).isSome = true ↔ rows.getD d [] ≠ [])
  fl : found.length ≤ j
  hl : hd.length ≤ j
  rl : ∀ r ∈ rows, r.length ≤ j
theorem Sim.up {ps : List (List (List Nat))} {j : Nat} {found : List (Int × List Int)} {cs cs' : List Nat} {hd hd' : List (List Nat × Int)} {rows : List (List Int)} (s : Sim ps j found cs hd rows) (h : Held ps cs' hd') (hl : hd'.length ≤ j + 1) : Sim ps (j + 1) found cs' hd' rows := ⟨h, s.len, s.val, s.key, Nat.le_succ_of_le s.fl, hl, fun r hr => Nat.le_succ_of_le (s.rl r hr)⟩
theorem enum_drop {α : Type} {xs : List α} {j : Nat} (h : j < xs.length) : (enumL xs).drop j = ((j : Int), xs[j]) :: (enumL xs).drop (j + 1) := by
  have hl : j < (enumL xs).length := by rw [enumL_len]; exact h
  rw [List.drop_eq_getElem_cons hl]
  congr 1
  have := enumL_get (List.getElem?_eq_getElem h)
  rw [List.getElem?_eq_getElem hl] at this
  exact Option.some.inj this
theorem rng_drop {n j : Nat} (h : j < n) : ((List.range n).map fun (k : Nat) => (k : Int)).drop j = (j : Int) :: ((List.range n).map fun (k : Nat) => (k : Int)).drop (j + 1) := by
  have hl : j < ((List.range n).map fun (k : Nat) => (k : Int)).length := by simpa using h
  rw [List.drop_eq_getElem_cons hl]
  congr 1
  simp
theorem sim {ps : List (List (List Nat))} (hp : ∀ p ∈ ps, Prog p) (hl : ps.length ≤ 6) {o : List Int} (ho : o.length ≤ 1000) (kO : List (Int × List Int) × List Int → R Er (List (Int × List Int))) (kD : List Int × List (List Nat × Int) × List (List Int) → R Er Dt)
    (hk : ∀ found cs hd rows, Sim ps o.length found cs hd rows → ∃ d, kD (Pl cs, hd, rows) = .ok d ∧ Out (kO (found, Pl cs)) d) : ∀ (m j : Nat), j + m = o.length → ∀ found cs hd rows, Sim ps j found cs hd rows → ∃ d, LK.runC (m_law_due_b1 ps o) (Pl cs, hd, rows) (((List.range o.length).map fun (k : Nat) => (k : Int)).drop j) kD = .ok d ∧ Out (LK.runC (m_outcome_b1 ps) (found, Pl cs) ((enumL o).drop j) kO) d
  | 0, j, hj, found, cs, hd, rows, S => by
    have e : j = o.length := by omega
    subst e
    rw [List.drop_of_length_le (by simp), List.drop_of_length_le (by rw [enumL_len]; exact Nat.le_refl _)]
    exact hk found cs hd rows S
  | m + 1, j, hj, found, cs, hd, rows, S => by
    have hjo : j < o.length := by omega
    have ih := sim hp hl ho kO kD hk m (j + 1) (by omega)
    rw [rng_drop hjo, enum_drop hjo]
    show ∃ d, m_law_due_b1 ps o (Pl cs, hd, rows) (j : Int) (fun s => LK.runC (m_law_due_b1 ps o) s (((List.range o.length).map fun (k : Nat) => (k : Int)).drop (j + 1)) kD) = .ok d ∧ Out (m_outcome_b1 ps (found, Pl cs) ((j : Int), o[j]) fun s => LK.runC (m_outcome_b1 ps) s ((enumL o).drop (j + 1)) kO) d
    generalize hKD : (fun s => LK.runC (m_law_due_b1 ps o) s (((List.range o.length).map fun (k : Nat) => (k : Int)).drop (j + 1)) kD) = KD
    generalize hKO : (fun s => LK.runC (m_outcome_b1 ps) s ((enumL o).drop (j + 1)) kO) = KO
    have ih : ∀ found cs hd rows, Sim ps (j + 1) found cs hd rows → ∃ d, KD (Pl cs, hd, rows) = .ok d ∧ Out (KO (found, Pl cs)) d := by
      rw [← hKD, ← hKO]; exact ih
    unfold m_law_due_b1 m_outcome_b1
    dsimp only
    rw [ixR_nat hjo, R.ok_bind]
    rcases bad_eq hp S.held (o[j]) with e | ⟨e, k, hk', ek, hc⟩
    · rw [e, R.ok_bind, R.ok_bind]
      exact ⟨_, rfl, .inl ⟨_, rfl, rfl⟩⟩
    · rw [e, R.ok_bind, R.ok_bind, cond_false, cond_false, ek]
      have hkc : k < cs.length := by rw [S.held.len]; exact hk'
      have e1 := List.getElem?_eq_getElem hk'
      have e2 := List.getElem?_eq_getElem hkc
      have egd : cs.getD k 0 = cs[k] := by rw [List.getD_eq_getElem?_getD, e2]; rfl
      have hpk := hp _ (List.getElem_mem hk')
      have epl : (Pl cs).set k ((cs[k] : Int) + 1) = Pl (cs.set k (cs[k] + 1)) := by
        have := pl_set cs k
        rw [egd] at this; exact this
      have eset : (R.iff (0 ≤ (k : Int) ∧ (k : Int) < (Pl cs).length) (.ok ((Pl cs).set (k : Int).toNat ((cs[k] : Int) + 1))) : R Er (List Int)) = .ok (Pl (cs.set k (cs[k] + 1))) := by
        rw [R.iff_of ⟨by omega, by unfold Pl; rw [List.length_map]; omega⟩, Int.toNat_natCast, epl]
      have eget : (R.iff (0 ≤ (k : Int) ∧ (k : Int) < (Pl cs).length) (.ok (ixD (Pl cs) (k : Int))) : R Er Int) = .ok (cs[k] : Int) := by
        rw [R.iff_of ⟨by omega, by unfold Pl; rw [List.length_map]; omega⟩]
        congr 1
        have := ixD_get (x := Pl cs) (i := k) (by unfold Pl; rw [List.length_map]; exact hkc)
        rw [this]
        exact List.getElem_map _
      have est := step_at S.held hk' hc
      obtain ⟨i, hi, hs⟩ := hpk.step hc
      rw [est, R.ok_bind, R.ok_bind, pl_at hkc]
      rcases hs with ⟨q, hs⟩ | ⟨q, hi2, hs⟩
      · rw [free_lk hp hl S.held hk' hc q, q, key_of.2.2.1, key_of.1]
        have hi3 : ((48 + i : Nat) : Int) - 48 = (i : Int) := by omega
        have eint : intTR [48 + i] = .ok (i : Int) := by rw [intTR_ok ⟨by omega, by omega⟩, hi3]
        simp only [R.ok_bind, decide_true, cond_true, eint, Bool.not_not]
        cases hg : (getA hd [48 + i]).isSome with
        | true => exact ⟨_, rfl, .inr (.inl ⟨_, _, rfl, rfl⟩)⟩
        | false =>
          have hn : getA hd [48 + i] = none := by
            cases z : getA hd [48 + i] with
            | none => rfl
            | some v => rw [z] at hg; cases hg
          have hlen := len_putA hd [48 + i] (k : Int)
          have hflen := len_putA found (i : Int) (rows.getD i [] ++ [(k : Int)])
          have s1 := S.hl
          have s2 := S.fl
          have hir : i < rows.length := by rw [S.len]; exact hi
          have hrl := S.rl _ (List.getElem_mem hir)
          have erow : rows.getD i [] = rows[i] := by rw [List.getD_eq_getElem?_getD, List.getElem?_eq_getElem hir]; rfl
          have epu : (putR hd [48 + i] (k : Int) : R Er _) = .ok (putA hd [48 + i] (k : Int)) := R.iff_of (by omega) _
          have erw : (R.iff (0 ≤ (i : Int) ∧ (i : Int) < rows.length) (.ok (ixD rows (i : Int))) : R Er (List Int)) = .ok rows[i] := by
            rw [R.iff_of ⟨by omega, by omega⟩, ixD_get hir]
          have ecat : (catLR (rows.getD i []) [(k : Int)] : R Er (List Int)) = .ok (rows.getD i [] ++ [(k : Int)]) := catLR_ok (by rw [erow]; simp; omega)
          have epf : (putR found (i : Int) (rows.getD i [] ++ [(k : Int)]) : R Er _) = .ok (putA found (i : Int) (rows.getD i [] ++ [(k : Int)])) := R.iff_of (by omega) _
          rw [cond_false, cond_false, eset, R.ok_bind, epu, R.ok_bind, erw, R.ok_bind, appR_ok (by omega), R.ok_bind, show (lenR ([] : List Int) : R Er _) = .ok [] from rfl, R.ok_bind, R.ok_bind, show (lenR [(k : Int)] : R Er _) = .ok [(k : Int)] from rfl, R.ok_bind, S.val i hi, ecat, R.ok_bind, epf, R.ok_bind, R.ok_bind, eget, R.ok_bind, Int.toNat_natCast, Int.toNat_natCast, epl]
          refine ih _ _ _ _ ⟨S.held.lock hp e1 e2 hc hs hn _, by rw [List.length_set]; exact S.len, fun d hd6 => ?_, fun d hd6 => ?_, by omega, by omega, fun r hr => ?_⟩
          · rw [getA_put]
            show _ = at_ (rows.set i (rows[i] ++ [(k : Int)])) d
            rw [at_set hir]
            by_cases z : i = d
            · subst z
              rw [if_pos rfl, if_pos rfl, erow]; rfl
            · rw [if_neg (by omega), if_neg z]
              exact S.val d hd6
          · rw [getA_put]
            show _ ↔ at_ (rows.set i (rows[i] ++ [(k : Int)])) d ≠ []
            rw [at_set hir]
            by_cases z : i = d
            · subst z
              rw [if_pos rfl, if_pos rfl]
              exact ⟨fun _ => by simp, fun _ => rfl⟩
            · rw [if_neg (by omega), if_neg z]
              exact S.key d hd6
          · rcases List.mem_or_eq_of_mem_set hr with z | z
            · exact Nat.le_succ_of_le (S.rl r z)
            · rw [z, List.length_append, List.length_singleton]; omega
      · obtain ⟨r1, r2⟩ := S.held.rel hp e1 e2 hc hi2 hs
        have hlen := len_drop hd [48 + i]
        have s1 := S.hl
        rw [free_rl hp hl S.held hk' hc q, q, key_of.2.2.2, key_of.2.1]
        have e43 : decide (([45] : List Nat) = [43]) = false := by decide
        simp only [R.ok_bind, e43, cond_false, Bool.not_true]
        rw [eset, R.ok_bind, R.iff_of r1, R.ok_bind, eget, R.ok_bind, Int.toNat_natCast, epl]
        exact ih _ _ _ _ (S.up r2 (by omega))
/-! ### the ends -/
theorem runC_any {β : Type} {B : Unit → Int → (Unit → R Er β) → R Er β} {k : Unit → R Er β} {q : Int → Bool} {r : R Er β} : ∀ {xs : List Int}, (∀ x ∈ xs, ∀ k, B () x k = if q x = true then r else k ()) → LK.runC B () xs k = if xs.any q = true then r else k ()
  | [], _ => rfl
  | x :: xs, h => by
    show B () x _ = _
    rw [h x List.mem_cons_self, List.any_cons]
    cases hq : q x with
    | true => rfl
    | false =>
      rw [if_neg (by decide), runC_any fun y hy k => h y (List.mem_cons_of_mem _ hy) k, Bool.false_or]
theorem ofA_nodup {κ β : Type} [DecidableEq κ] : ∀ (l d : List (κ × β)), ((d ++ l).map (·.1)).Nodup → l.foldl (fun d kv => putA d kv.1 kv.2) d = d ++ l
  | [], d, _ => by simp
  | x :: l, d, h => by
    rw [List.foldl_cons]
    have hx : putA d x.1 x.2 = d ++ [x] := by
      unfold putA
      rw [if_neg]
      rw [List.any_eq_true]
      rintro ⟨y, hy, e⟩
      have e := of_decide_eq_true e
      rw [List.map_append, List.map_cons] at h
      have := (List.nodup_append.mp h).2.2 _ (List.mem_map.mpr ⟨y, hy, rfl⟩) _ List.mem_cons_self
      exact this e
    rw [hx, ofA_nodup l (d ++ [x]) (by rw [List.append_assoc]; exact h), List.append_assoc]
    rfl
theorem getA_mem {κ β : Type} [DecidableEq κ] : ∀ {l : List (κ × β)}, (l.map (·.1)).Nodup → ∀ x ∈ l, getA l x.1 = some x.2
  | [], _, x, h => by cases h
  | y :: l, nd, x, h => by
    unfold getA
    rw [List.find?_cons]
    rw [List.map_cons] at nd
    obtain ⟨n1, n2⟩ := List.nodup_cons.mp nd
    rcases List.mem_cons.mp h with e | e
    · subst e
      rw [decide_eq_true rfl]; rfl
    · rw [decide_eq_false fun (z : y.1 = x.1) => n1 (by rw [z]; exact List.mem_map.mpr ⟨x, e, rfl⟩)]
      exact getA_mem n2 x e
theorem told_fine {ps : List (List (List Nat))} {o : List Int} {L : List (Int × List Int)} (h : m_outcome ps o = .ok L) (nd : (L.map (·.1)).Nodup) (hl : L.length ≤ 6) : m_law_told ps o = .ok (dFine L) := by
  have e : (R.mapR (fun _ => (R.ok true : R Er Bool)) (fun x1 => ((((getR L x1)).bind fun y10 => R.ok (x1, y10)) : R Er (Int × (List Int)))) (L.map (·.1)) : R Er (List (Int × List Int))) = .ok L := by
    rw [R.mapR_all (fun x => (x, (getA L x).getD [])) _ (fun x hx => ?_), List.map_map]
    · congr 1
      conv => rhs; rw [← List.map_id L]
      refine List.map_congr_left fun x hx => ?_
      show (x.1, (getA L x.1).getD []) = x
      rw [getA_mem nd x hx]; rfl
    · obtain ⟨y, hy, rfl⟩ := List.mem_map.mp hx
      unfold getR
      rw [getA_mem nd y hy]; rfl
  unfold m_law_told
  rw [h, R.ok_thn]
  unfold tryR
  dsimp only
  rw [Bool.not_true, cond_false, R.iff_of (by omega), R.ok_bind, e]
  rfl
theorem told_out {ps : List (List (List Nat))} {o : List Int} {d : Dt} (h : Out (m_outcome ps o) d) : m_law_told ps o = .ok d := by
  rcases h with ⟨p, e, rfl⟩ | ⟨p, i, e, rfl⟩ | ⟨L, e, nd, hl, rfl⟩
  · unfold m_law_told
    rw [e]; rfl
  · unfold m_law_told
    rw [e]; rfl
  · exact told_fine e nd hl
theorem fin_ok {ps : List (List (List Nat))} (hl : ps.length ≤ 6) {o : List Int} {found : List (Int × List Int)} {cs : List Nat} {hd : List (List Nat × Int)} {rows : List (List Int)} (S : Sim ps o.length found cs hd rows) : ∃ d, ((rngR (ps.length : Int)).bind fun y32 => LK.runC (m_law_due_b2 ps o (Pl cs)) () y32 fun t4 =>
      (((((((rngR (6 : Int))).bind fun y29 => (R.mapR (fun x5 => ((((ixR rows x5)).bind fun y27 => R.ok (!decide (y27 = ([] : List Int)))) : R Er Bool)) (fun x5 => ((((ixR rows x5)).bind fun y28 => R.ok (x5, y28)) : R Er (Int × (List Int)))) y29))).bind fun y30 => R.ok (([102, 105, 110, 101] : List Nat), y30))).bind fun y31 => R.ok (Tod.d (rPr rTx (rLst (rPr rInt (rTup rInt)))) y31)) : R Er Dt) = .ok d ∧
    Out (((((((rngR (ps.length : Int))).bind fun y23 => (R.mapR (fun _ => (R.ok true : R Er Bool)) (fun x3 => ((((ixR (Pl cs) x3)).bind fun y21 => ((((ixR ps x3)).bind fun y20 => R.ok (y20.length : Int))).bind fun y22 => R.ok (decide (y21 < y22))) : R Er Bool)) y23))).bind fun y24 => R.ok (y24.any id))).bind fun y27 => cond y27 ((let y25 := (o.length : Int)
      (R.er (6, [Tod.d rInt y25]))))
      ((((rngR (6 : Int))).bind fun y26 => ((R.mapR (fun x4 => ((R.ok ((getA found x4).isSome)) : R Er Bool)) (fun x4 => ((R.ok x4)).bind fun dk => ((getR found x4)).bind fun dv => (R.ok (dk, dv) : R Er (Int × (List Int)))) y26).bind fun dl => R.ok (ofA dl))))) d := by
  let q : Int → Bool := fun x => decide ((cs.getD x.toNat 0 : Int) < ((ps.getD x.toNat []).length : Int))
  have hq : ∀ x ∈ (List.range ps.length).map (fun (k : Nat) => (k : Int)), ∃ (k : Nat) (hk : k < ps.length), x = (k : Int) ∧ ixR (Pl cs) (k : Int) = .ok (cs.getD k 0 : Int) ∧ ixR ps (k : Int) = .ok (ps.getD k []) := fun x hx => by
    obtain ⟨k, hk, rfl⟩ := mem_rng.mp hx
    have hkc : k < cs.length := by rw [S.held.len]; exact hk
    exact ⟨k, hk, rfl, by rw [pl_at hkc, List.getD_eq_getElem?_getD, List.getElem?_eq_getElem hkc]; rfl, by rw [ixR_nat hk, List.getD_eq_getElem?_getD, List.getElem?_eq_getElem hk]; rfl⟩
  have e1 : (R.mapR (fun _ => (R.ok true : R Er Bool)) (fun x3 => ((((ixR (Pl cs) x3)).bind fun y21 => ((((ixR ps x3)).bind fun y20 => R.ok (y20.length : Int))).bind fun y22 => R.ok (decide (y21 < y22))) : R Er Bool)) ((List.range ps.length).map fun (k : Nat) => (k : Int)) : R Er (List Bool)) = .ok (((List.range ps.length).map fun (k : Nat) => (k : Int)).map q) := R.mapR_all q _ fun x hx => by
    obtain ⟨k, hk, rfl, a, b⟩ := hq x hx
    rw [a, R.ok_bind, b, R.ok_bind, R.ok_bind]
    rfl
  have e2 : ∀ K, LK.runC (m_law_due_b2 ps o (Pl cs)) () ((List.range ps.length).map fun (k : Nat) => (k : Int)) K = if ((List.range ps.length).map fun (k : Nat) => (k : Int)).any q = true then .ok (dOrder (o.length : Int)) else K () := fun K => runC_any fun x hx k => by
    obtain ⟨j, hj, rfl, a, b⟩ := hq x hx
    unfold m_law_due_b2
    dsimp only
    rw [a, R.ok_bind, b, R.ok_bind, R.ok_bind, R.ok_bind]
    show cond (q (j : Int)) _ _ = _
    cases q (j : Int) <;> rfl
  rw [rngR_nat (by omega), R.ok_bind, R.ok_bind, e1, R.ok_bind, R.ok_bind, e2, show ∀ l : List Int, (l.map q).any id = l.any q from fun l => by rw [List.any_map]; rfl]
  cases hany : ((List.range ps.length).map fun (k : Nat) => (k : Int)).any q with
  | true => exact ⟨_, rfl, .inl ⟨_, rfl, rfl⟩⟩
  | false =>
    rw [if_neg (by decide), cond_false]
    show ∃ d, (((((rngR ((6 : Nat) : Int)).bind _).bind _).bind _) : R Er Dt) = .ok d ∧ Out ((rngR ((6 : Nat) : Int)).bind _) d
    rw [rngR_nat (by decide)]
    let p' : Int → Bool := fun x => !decide (rows.getD x.toNat [] = [])
    let g : Int → Int × List Int := fun x => (x, rows.getD x.toNat [])
    have hx6 : ∀ x ∈ (List.range 6).map (fun (k : Nat) => (k : Int)), ∃ k : Nat, k < 6 ∧ x = (k : Int) := fun x hx => mem_rng.mp hx
    have f1 : (R.mapR (fun x5 => ((((ixR rows x5)).bind fun y27 => R.ok (!decide (y27 = ([] : List Int)))) : R Er Bool)) (fun x5 => ((((ixR rows x5)).bind fun y28 => R.ok (x5, y28)) : R Er (Int × (List Int)))) ((List.range 6).map fun (k : Nat) => (k : Int)) : R Er (List (Int × List Int))) = .ok ((((List.range 6).map fun (k : Nat) => (k : Int)).filter p').map g) := by
      refine R.mapR_ok p' g _ (fun x hx => ?_) (fun x hx _ => ?_)
      · obtain ⟨k, hk, rfl⟩ := hx6 x hx
        have : k < rows.length := by rw [S.len]; exact hk
        rw [ixR_at this, R.ok_bind]; rfl
      · obtain ⟨k, hk, rfl⟩ := hx6 x hx
        have : k < rows.length := by rw [S.len]; exact hk
        rw [ixR_at this, R.ok_bind]; rfl
    have hsome : ∀ k : Nat, k < 6 → (getA found (k : Int)).isSome = p' (k : Int) := fun k hk => by
      rw [Bool.eq_iff_iff, S.key k hk]
      show _ ↔ (!decide (rows.getD k [] = [])) = true
      simp
    have f2 : (R.mapR (fun x4 => ((R.ok ((getA found x4).isSome)) : R Er Bool)) (fun x4 => ((R.ok x4)).bind fun dk => ((getR found x4)).bind fun dv => (R.ok (dk, dv) : R Er (Int × (List Int)))) ((List.range 6).map fun (k : Nat) => (k : Int)) : R Er (List (Int × List Int))) = .ok ((((List.range 6).map fun (k : Nat) => (k : Int)).filter p').map g) := by
      refine R.mapR_ok p' g _ (fun x hx => ?_) (fun x hx h => ?_)
      · obtain ⟨k, hk, rfl⟩ := hx6 x hx
        rw [hsome k hk]
      · obtain ⟨k, hk, rfl⟩ := hx6 x hx
        rw [← hsome k hk] at h
        have hv := S.val k hk
        unfold getR
        cases z : getA found (k : Int) with
        | none => rw [z] at h; cases h
        | some v =>
          rw [z] at hv
          have hv : v = rows.getD k [] := hv
          rw [hv]; rfl
    rw [R.ok_bind, R.ok_bind, f1, f2, R.ok_bind, R.ok_bind, R.ok_bind]
    have nd : (((((List.range 6).map fun (k : Nat) => (k : Int)).filter p').map g).map (·.1)).Nodup := by
      rw [List.map_map, show ((·.1) ∘ g) = id from rfl, List.map_id]
      exact List.Pairwise.filter _ (by decide)
    refine ⟨_, rfl, .inr (.inr ⟨_, ?_, nd, ?_, rfl⟩)⟩
    · have := ofA_nodup ((((List.range 6).map fun (k : Nat) => (k : Int)).filter p').map g) [] (by rw [List.nil_append]; exact nd)
      unfold ofA
      rw [this, List.nil_append]
    · rw [List.length_map]
      exact Nat.le_trans (List.length_filter_le _ _) (by simp)
theorem depAll_map {α : Type} {f : α → Dt} {n : Nat} (h : ∀ x, (f x).dep ≤ n) : ∀ l : List α, depAll (l.map f) ≤ n
  | [] => by rw [List.map_nil]; unfold depAll; exact Nat.zero_le _
  | x :: l => by
    rw [List.map_cons]
    unfold depAll
    exact Nat.max_le.mpr ⟨h x, depAll_map h l⟩
theorem out_dep {O : R Er (List (Int × List Int))} {d : Dt} (h : Out O d) : d.dep ≤ 4 := by
  rcases h with ⟨p, e, rfl⟩ | ⟨p, i, e, rfl⟩ | ⟨L, e, nd, hl, rfl⟩
  · have : (dOrder p).dep = 1 := rfl
    omega
  · have : (dBlk p i).dep = 1 := rfl
    omega
  · have e1 : ∀ r : List Int, (Dt.tup (r.map fun x => Dt.int x)).dep ≤ 1 := fun r => by
      unfold Dt.dep
      have := depAll_map (f := fun x => Dt.int x) (n := 0) (fun x => Nat.le_refl _) r
      omega
    have e2 : ∀ x : Int × List Int, (Dt.tup [.int x.1, .tup (x.2.map fun x => Dt.int x)]).dep ≤ 2 := fun x => by
      have h1 := e1 x.2
      have : (Dt.tup [.int x.1, .tup (x.2.map fun x => Dt.int x)]).dep = max 0 (max (Dt.tup (x.2.map fun x => Dt.int x)).dep 0) + 1 := rfl
      omega
    have h1 := depAll_map (f := fun x : Int × List Int => Dt.tup [.int x.1, .tup (x.2.map fun x => Dt.int x)]) e2 L
    have : (dFine L).dep = max 0 (max (depAll (L.map fun x : Int × List Int => Dt.tup [.int x.1, .tup (x.2.map fun x => Dt.int x)]) + 1) 0) + 1 := rfl
    omega
theorem same_out {ps : List (List (List Nat))} (hp : ∀ p ∈ ps, Prog p) (hl : ps.length ≤ 6) {o : List Int} (ho : o.length ≤ 1000) : ∃ d, m_law_due ps o = .ok d ∧ m_law_told ps o = .ok d ∧ d.dep ≤ 4 := by
  have S0 : Sim ps 0 [] (ps.map fun _ => 0) [] (List.replicate 6 []) := by
    refine ⟨Held.nil, by simp, fun d hd => ?_, fun d hd => ?_, Nat.le_refl _, Nat.le_refl _, fun r hr => by rw [List.eq_of_mem_replicate hr]; exact Nat.le_refl _⟩
    · rw [List.getD_eq_getElem?_getD, List.getElem?_replicate, if_pos hd]; rfl
    · rw [List.getD_eq_getElem?_getD, List.getElem?_replicate, if_pos hd]
      exact ⟨fun z => (by cases z), fun z => absurd rfl z⟩
  have key := sim hp hl ho (fun t => (((((((rngR (ps.length : Int))).bind fun y23 => (R.mapR (fun _ => (R.ok true : R Er Bool)) (fun x3 => ((((ixR t.2 x3)).bind fun y21 => ((((ixR ps x3)).bind fun y20 => R.ok (y20.length : Int))).bind fun y22 => R.ok (decide (y21 < y22))) : R Er Bool)) y23))).bind fun y24 => R.ok (y24.any id))).bind fun y27 => cond y27 ((let y25 := (o.length : Int)
      (R.er (6, [Tod.d rInt y25]))))
      ((((rngR (6 : Int))).bind fun y26 => ((R.mapR (fun x4 => ((R.ok ((getA t.1 x4).isSome)) : R Er Bool)) (fun x4 => ((R.ok x4)).bind fun dk => ((getR t.1 x4)).bind fun dv => (R.ok (dk, dv) : R Er (Int × (List Int)))) y26).bind fun dl => R.ok (ofA dl))))))
    (fun t => ((rngR (ps.length : Int)).bind fun y32 => LK.runC (m_law_due_b2 ps o t.1) () y32 fun t4 =>
      (((((((rngR (6 : Int))).bind fun y29 => (R.mapR (fun x5 => ((((ixR t.2.2 x5)).bind fun y27 => R.ok (!decide (y27 = ([] : List Int)))) : R Er Bool)) (fun x5 => ((((ixR t.2.2 x5)).bind fun y28 => R.ok (x5, y28)) : R Er (Int × (List Int)))) y29))).bind fun y30 => R.ok (([102, 105, 110, 101] : List Nat), y30))).bind fun y31 => R.ok (Tod.d (rPr rTx (rLst (rPr rInt (rTup rInt)))) y31)) : R Er Dt)) (fun found cs hd rows S => fin_ok hl S) o.length 0 (by omega) _ _ _ _ S0
  rw [List.drop_zero, List.drop_zero] at key
  obtain ⟨d, k1, k2⟩ := key
  have k3 : Out (m_outcome ps o) d := by
    unfold m_outcome
    rw [check_ok hp, R.ok_bind, zero_pl, R.ok_bind]
    exact k2
  refine ⟨d, ?_, told_out k3, out_dep k3⟩
  · unfold m_law_due
    rw [zero_pl, R.ok_bind]
    dsimp only
    rw [show (((rngR (6 : Int))).bind fun y1 => (R.mapR (fun _ => (R.ok true : R Er Bool)) (fun x2 => ((R.ok ([] : List Int)) : R Er (List Int))) y1) : R Er (List (List Int))) = .ok (List.replicate 6 []) from rfl, R.ok_bind, rngR_nat (by omega), R.ok_bind]
    exact k1
theorem fine_ok {ps : List (List (List Nat))} (hp : ∀ p ∈ ps, Prog p) (hl : ps.length ≤ 6) {o : List Int} (ho : o.length ≤ 1000) : m_law_fine ps o = .ok true := by
  obtain ⟨d, e1, e2, e3⟩ := same_out hp hl ho
  unfold m_law_fine
  rw [R.mapR_all (fun x => x) _ (fun _ _ => rfl), List.map_id', R.ok_bind]
  dsimp only
  rw [e2, R.ok_bind, e1, R.ok_bind]
  have es : sameR 4 d d = .ok true := by
    unfold sameR
    rw [R.iff_of e3]
    exact congrArg _ (decide_eq_true rfl)
  rw [es, R.ok_bind, R.ok_bind, Bool.not_true, cond_false, decide_eq_true rfl, cond_true, decide_eq_true rfl]
theorem size3_ok {p : Int} (h : 0 ≤ p ∧ p < 12) : ∃ n : Nat, ixR [(1 : Int), 2, 3, 4, 2, 3, 6, 3, 2, 4, 3, 5] p = .ok (n : Int) ∧ 1 ≤ n ∧ n ≤ 6 := by
  obtain ⟨a, ha, e⟩ := ixR_mem (x := [(1 : Int), 2, 3, 4, 2, 3, 6, 3, 2, 4, 3, 5]) (i := p) ⟨h.1, by simp; omega⟩
  simp only [List.mem_cons, List.not_mem_nil, or_false] at ha
  exact ⟨a.toNat, by rw [e]; congr 1; omega, by omega, by omega⟩
theorem many_ok {p : Int} (h : 0 ≤ p ∧ p < 12) : ∃ n : Nat, ixR [(2 : Int), 3, 2, 1, 3, 4, 2, 0, 5, 2, 6, 3] p = .ok (n : Int) ∧ n ≤ 6 := by
  obtain ⟨a, ha, e⟩ := ixR_mem (x := [(2 : Int), 3, 2, 1, 3, 4, 2, 0, 5, 2, 6, 3]) (i := p) ⟨h.1, by simp; omega⟩
  simp only [List.mem_cons, List.not_mem_nil, or_false] at ha
  exact ⟨a.toNat, by rw [e]; congr 1; omega, by omega⟩
theorem row6 {row : List Int} (h : row.length = 6) : ∃ a b c d e f, row = [a, b, c, d, e, f] := by
  match row, h with
  | [a, b, c, d, e, f], _ => exact ⟨a, b, c, d, e, f, rfl⟩
theorem prog_step (ns : List Int) {n : Nat} (h1 : 1 ≤ n) (h6 : n ≤ 6) {k : Nat} {t : List (List (List Nat))} (ht : t.length < 1000) : ∃ p, m_law_s1 ns (n : Int) t (k : Int) = .ok (t ++ [p]) ∧ Prog p := by
  obtain ⟨c, ec⟩ := cell_ok ns (k := 2 + (k : Int)) (by omega)
  obtain ⟨nums, en, hnl, hnn⟩ := numbers_ok c (n := 13) (l := 12) (by omega) (by omega) (by omega)
  have hnl : nums.length = 13 := hnl
  obtain ⟨y, hy, ey⟩ := ixR_mem (x := nums) (i := 12) ⟨by omega, by omega⟩
  have hm : 0 ≤ y % (2 * (n : Int) + 1) := Int.emod_nonneg _ (by omega)
  obtain ⟨p, ep, hp⟩ := free_ok h1 h6 (nums := nums.take (y % (2 * (n : Int) + 1)).toNat) (by rw [List.length_take]; omega)
  unfold m_law_s1
  dsimp only
  rw [ec, R.ok_bind, en, R.ok_bind, ey, R.ok_bind, mulR_l (by decide), R.ok_bind, R.ok_bind, modR_ok (by omega), R.ok_bind, R.ok_bind, R.ok_bind, cutL_nn _ hm, ep, R.ok_bind, appR_ok (by omega)]
  exact ⟨p, rfl, hp⟩
theorem law_true (ns : List Int) (hl : ns.length ≤ 63) : m_law ns = .ok true := by
  obtain ⟨c0, e0⟩ := cell_ok ns (k := 0) (by omega)
  obtain ⟨c1, e1⟩ := cell_ok ns (k := 1) (by omega)
  obtain ⟨plan, er, hpl, hpn⟩ := numbers_ok c0 (n := 6) (l := 12) (by omega) (by omega) (by omega)
  obtain ⟨p0, p1, p2, p3, p4, p5, rfl⟩ := row6 hpl
  obtain ⟨nums, en, hnl, hnn⟩ := numbers_ok c1 (n := 72) (l := 60) (by omega) (by omega) (by omega)
  have hnl : nums.length = 72 := hnl
  obtain ⟨n, es, h1, h6⟩ := size3_ok (hpn p0 (by simp))
  obtain ⟨m, em, hm⟩ := many_ok (hpn p1 (by simp))
  obtain ⟨ps, eps, hps⟩ : ∃ ps, R.foldR (m_law_s1 ns (n : Int)) [] ((List.range m).map fun (k : Nat) => (k : Int)) = .ok ps ∧ ps.length = m ∧ ∀ p ∈ ps, Prog p := by
    obtain ⟨t, e, a, b⟩ := R.foldR_inv (m_law_s1 ns (n : Int)) (fun j (t : List (List (List Nat))) => t.length = j ∧ ∀ p ∈ t, Prog p) ((List.range m).map fun (k : Nat) => (k : Int)) 0 [] ⟨rfl, fun _ z => nomatch z⟩ (fun j t x hx ht => by
      obtain ⟨hj, rfl⟩ := rng_at hx
      rw [Nat.zero_add] at ht ⊢
      obtain ⟨p, e, hp⟩ := prog_step ns h1 h6 (k := j) (t := t) (by omega)
      refine ⟨_, e, by rw [List.length_append, ht.1]; rfl, fun q hq => ?_⟩
      rcases List.mem_append.mp hq with z | z
      · exact ht.2 q z
      · rw [List.mem_singleton.mp z]; exact hp)
    rw [List.length_map, List.length_range, Nat.zero_add] at a
    exact ⟨t, e, a, b⟩
  obtain ⟨hlen, hp⟩ := hps
  obtain ⟨o, eo, ho⟩ := order_ok hp (by omega) (nums := nums) (by omega)
  have q0 : ixR [p0, p1, p2, p3, p4, p5] (0 : Int) = .ok p0 := rfl
  have q1 : ixR [p0, p1, p2, p3, p4, p5] (1 : Int) = .ok p1 := rfl
  have q2 : ixR [p0, p1, p2, p3, p4, p5] (2 : Int) = .ok p2 := rfl
  have q3 : ixR [p0, p1, p2, p3, p4, p5] (3 : Int) = .ok p3 := rfl
  have q4 : ixR [p0, p1, p2, p3, p4, p5] (4 : Int) = .ok p4 := rfl
  have q5 : ixR [p0, p1, p2, p3, p4, p5] (5 : Int) = .ok p5 := rfl
  have lr : (lenR [(1 : Int), 2, 3, 4, 2, 3, 6, 3, 2, 4, 3, 5] : R Er (List Int)) = .ok [1, 2, 3, 4, 2, 3, 6, 3, 2, 4, 3, 5] := rfl
  have lm : (lenR [(2 : Int), 3, 2, 1, 3, 4, 2, 0, 5, 2, 6, 3] : R Er (List Int)) = .ok [2, 3, 2, 1, 3, 4, 2, 0, 5, 2, 6, 3] := rfl
  have b2 := hpn p2 (by simp)
  have b3 := hpn p3 (by simp)
  have b4 := hpn p4 (by simp)
  have b5 := hpn p5 (by simp)
  unfold m_law
  rw [e0, R.ok_bind, er, R.ok_bind, lr, R.ok_bind, q0, R.ok_bind, es, R.ok_bind]
  dsimp only
  rw [lm, R.ok_bind, q1, R.ok_bind, em, R.ok_bind, rngR_nat (by omega), R.ok_bind, eps, R.ok_bind, e1, R.ok_bind, en, R.ok_bind, eo, R.ok_bind, fine_ok hp (by omega) (by omega), R.ok_bind, R.ok_bind, Bool.not_true, cond_false, q2, R.ok_bind, mulR_l (by decide), R.ok_bind, q3, R.ok_bind, R.ok_bind, q4, R.ok_bind, R.ok_bind]
  have hfo := fine_ok hp (by omega) (o := o) (by omega)
  by_cases h4 : p4 < 6
  · have hmod : 0 ≤ (7 * p2 + p3) % ((o.length : Int) + 1) := Int.emod_nonneg _ (by omega)
    have h5 : 0 ≤ p5 % 2 := Int.emod_nonneg _ (by omega)
    obtain ⟨x, hx, ex⟩ := ixR_mem (x := [(0 : Int), 1, 2, 3, -1, (ps.length : Int)]) (i := p4) ⟨b4.1, by simp; omega⟩
    have l1 : (o.take ((7 * p2 + p3) % ((o.length : Int) + 1)).toNat).length ≤ o.length := by rw [List.length_take]; omega
    have l2 : (o.drop ((7 * p2 + p3) % ((o.length : Int) + 1) + p5 % 2).toNat).length ≤ o.length := by rw [List.length_drop]; omega
    generalize hA : o.take ((7 * p2 + p3) % ((o.length : Int) + 1)).toNat = A at l1
    generalize hB : o.drop ((7 * p2 + p3) % ((o.length : Int) + 1) + p5 % 2).toNat = B at l2
    have l3 : (A ++ [x]).length = A.length + 1 := by rw [List.length_append]; rfl
    have ht := fine_ok hp (by omega) (o := A ++ [x] ++ B) (by rw [List.length_append, l3]; omega)
    rw [decide_eq_true h4, cond_true, modR_ok (by omega), R.ok_bind, show (lenR [(0 : Int), 1, 2, 3, -1, (ps.length : Int)] : R Er _) = .ok [0, 1, 2, 3, -1, (ps.length : Int)] from rfl, R.ok_bind, R.ok_bind, ex, R.ok_bind, show (lenR [x] : R Er _) = .ok [x] from rfl, R.ok_bind, cutL_nn _ hmod, hA, catLR_ok (by rw [List.length_singleton]; omega), R.ok_bind, q5, R.ok_bind, modR_ok (by decide), R.ok_bind, R.ok_bind, R.ok_bind, cutL_dd _ (by omega), hB, R.ok_bind, catLR_ok (by rw [l3]; omega)]
    simp only [R.ok_bind, ht, hfo, cond_true]
  · rw [decide_eq_false h4, cond_false]
    by_cases h9 : p4 < 9
    · have ht := fine_ok hp (by omega) (o := o.take (7 * p2 + p3).toNat) (by rw [List.length_take]; omega)
      simp only [R.ok_bind, decide_eq_true h9, cond_true, cutL_nn o (show 0 ≤ 7 * p2 + p3 by omega), ht, hfo]
    · simp only [R.ok_bind, decide_eq_false h9, cond_false, cond_true, hfo]
end Zk21
namespace Zk21
open PySem L2 LK LKX LKB LJ PyProof.Rows PySem.Spec
local macro_rules | `(tactic| walk_at "lw") => `(tactic| (repeat (first | exact lw_nil | refine lw_no ?_ | refine lw_eq rfl ?_)))
def top (i : Nat) : Stmt := PySem.Challenge.pw_lockrules_k21_outcomes_of_interleavings.main.body.getD i (.Pass ⟨0, 0, 0, 0⟩)
structure Bt (P : Program) (w : World) (K : PySem.W.Frag) (mg : Str → Option Value) (xt : XT) : Prop where
  z_len : mg "len" = none
  z_int : mg "int" = none
  z_enumerate : mg "enumerate" = none
  z_any : mg "any" = none
  z_range : mg "range" = none
  z_isinstance : mg "isinstance" = none
  z_bool : mg "bool" = none
  z_str : mg "str" = none
  z_list : mg "list" = none
  z_tuple : mg "tuple" = none
  z_dict : mg "dict" = none
  c_LARGEST : ∃ u, mg "LARGEST" = some u ∧ RelV (.int 6) u
  c_DIGITS : ∃ u, mg "DIGITS" = some u ∧ RelV (.str "012345") u
  x_BadStep : XK1 P w K mg xt "BadStep" 1 "step"
  x_TakenTwice : XK1 P w K mg xt "TakenTwice" 2 "item"
  x_NotHeld : XK1 P w K mg xt "NotHeld" 3 "item"
  x_BadSize : XK1 P w K mg xt "BadSize" 4 "count"
  x_BadProgram : XK1 P w K mg xt "BadProgram" 5 "index"
  x_BadOrder : XK1 P w K mg xt "BadOrder" 6 "place"
  x_Blocked : XK2 P w K mg xt "Blocked" 7 "place" "item"
  g_BadStep : mg "BadStep" = some (.ref (xt.cls 1))
  g_TakenTwice : mg "TakenTwice" = some (.ref (xt.cls 2))
  g_NotHeld : mg "NotHeld" = some (.ref (xt.cls 3))
  g_BadSize : mg "BadSize" = some (.ref (xt.cls 4))
  g_BadProgram : mg "BadProgram" = some (.ref (xt.cls 5))
  g_BadOrder : mg "BadOrder" = some (.ref (xt.cls 6))
  g_Blocked : mg "Blocked" = some (.ref (xt.cls 7))
  h_Blocked : ∀ k b, h_Blocked k = some b → PySem.W.exmOne K (.ref (xt.cls k)) (.ref (xt.cls 7)) = some b
  h_BadOrder : ∀ k b, h_BadOrder k = some b → PySem.W.exmOne K (.ref (xt.cls k)) (.ref (xt.cls 6)) = some b
section
variable {P : Program} {w : World} {K : PySem.W.Frag} {mg : Str → Option Value} {base : Heap} {xt : XT}
abbrev st_m_start : Stmt := top 12
theorem sc_m_start : FnScope ["size"] ["size"] (defScope st_m_start) := ⟨rfl, rfl, rfl, by decide +kernel, rfl, by decide +kernel, by decide +kernel⟩
set_option maxHeartbeats 4000000 in
theorem ok_m_start (B : Bt P w K mg xt) {fa : Addr} {fd : FuncData} (Fn : Fun K "start" "start" st_m_start fa fd) : FnOk P w K mg base (L2.CX P w) 2 fa fd ["size"] (spR xt (Pt.cons .sh rInt inferInstance Pt.nil) (fun (a : (Int × Unit)) => m_start a.1) (fun b => sF rTx b)) := by
  refine ok_R (S' := Unit) 0 Fn sc_m_start rfl rfl (fun _ => .no) (fun _ _ h => nomatch h) (fun _ _ h => nomatch h) (fun cdv A outer s0 H E0_ hr a => ?_)
  obtain ⟨v_size, ⟨⟩⟩ := a
  refine ⟨fun _ => List.replicate 1 .no, _, (xb_if (S := Unit) (slj := (fun s1 => [sF rInt v_size])) () (lw_nos rfl) (xqw (xqor (xqc (xlt (xv 0) xint)) (xqor1 (xqc (xgt (xv 0) (xglob (r := rInt) B.c_LARGEST (fun _ => rfl)))))))
(xb_raise1 () (lw_nos rfl) B.x_BadSize.toXk hr (xv 0))
(xb_nil () (by walk_at "lw")) (fun s1 =>
(xb_ret () (lw_nos rfl) (fun a => a) (fun _ => rfl) (xn (xrep (xtx [46]) (xv 0)))))), ?_⟩
  all_goals (show _ = m_start v_size; unfold m_start; first | (simp only [R.ok_bind, R.er_bind, R.no_bind, R.ok_thn, R.er_thn, R.no_thn, R.thn_id, R.bind_bind, R.thn_bind, R.bind_ok, R.cond_ok, R.ok_noer, R.bind_thn, R.thn_thn, cond_true, cond_false]; done) | rfl)
abbrev st_m_is_step : Stmt := top 13
theorem sc_m_is_step : FnScope ["size", "step"] ["size", "step"] (defScope st_m_is_step) := ⟨rfl, rfl, rfl, by decide +kernel, rfl, by decide +kernel, by decide +kernel⟩
set_option maxHeartbeats 4000000 in
theorem ok_m_is_step (B : Bt P w K mg xt) {fa : Addr} {fd : FuncData} (Fn : Fun K "is_step" "is_step" st_m_is_step fa fd) : FnOk P w K mg base (L2.CX P w) 1 fa fd ["size", "step"] (spR xt (Pt.cons .sh rInt inferInstance (Pt.cons .sh rTx inferInstance Pt.nil)) (fun (a : (Int × (List Nat) × Unit)) => m_is_step a.1 a.2.1) (fun b => sF rBl b)) := by
  refine ok_R (S' := Unit) 0 Fn sc_m_is_step rfl rfl (fun _ => .no) (fun _ _ h => nomatch h) (fun _ _ h => nomatch h) (fun cdv A outer s0 H E0_ hr a => ?_)
  obtain ⟨v_size, v_step, ⟨⟩⟩ := a
  refine ⟨fun _ => List.replicate 2 .no, _, (xb_ret () (lw_nos rfl) (fun a => a) (fun _ => rfl) (xn (xand (xcv (xeq (xlenT (xv 1) B.z_len) xint)) (xand (xcv (xinT (xixT (xv 1) xint) (xtx [43, 45]))) (xone (xcv (xinT (xixT (xv 1) xint) (xslT (xglob (a := [48, 49, 50, 51, 52, 53]) B.c_DIGITS (fun _ => ⟨rfl, by decide, by decide⟩)) xo_none (xo_some (xv 0)))))))))), ?_⟩
  all_goals (show _ = m_is_step v_size v_step; unfold m_is_step; first | (simp only [R.ok_bind, R.er_bind, R.no_bind, R.ok_thn, R.er_thn, R.no_thn, R.thn_id, R.bind_bind, R.thn_bind, R.bind_ok, R.cond_ok, R.ok_noer, R.bind_thn, R.thn_thn, cond_true, cond_false]; done) | rfl)
abbrev st_m_after : Stmt := top 14
theorem sc_m_after : FnScope ["state", "step", "item"] ["state", "step"] (defScope st_m_after) := ⟨rfl, rfl, rfl, by decide +kernel, rfl, by decide +kernel, by decide +kernel⟩
set_option maxHeartbeats 4000000 in
theorem ok_m_after (B : Bt P w K mg xt) {fa : Addr} {fd : FuncData} (Fn : Fun K "after" "after" st_m_after fa fd) {a_is_step : Addr} {d_is_step : FuncData} (C_is_step : Cal K mg "is_step" a_is_step d_is_step ["size", "step"]) (G_is_step : FnOk P w K mg base (L2.CX P w) 1 a_is_step d_is_step ["size", "step"] (spR xt (Pt.cons .sh rInt inferInstance (Pt.cons .sh rTx inferInstance Pt.nil)) (fun (a : (Int × (List Nat) × Unit)) => m_is_step a.1 a.2.1) (fun b => sF rBl b))) : FnOk P w K mg base (L2.CX P w) 2 fa fd ["state", "step"] (spR xt (Pt.cons .sh rTx inferInstance (Pt.cons .sh rTx inferInstance Pt.nil)) (fun (a : ((List Nat) × (List Nat) × Unit)) => m_after a.1 a.2.1) (fun b => sF rTx b)) := by
  refine ok_R (S' := Unit) 1 Fn sc_m_after rfl rfl (fun _ => .no) (fun _ _ h => nomatch h) (fun _ _ h => nomatch h) (fun cdv A outer s0 H E0_ hr a => ?_)
  obtain ⟨v_state, v_step, ⟨⟩⟩ := a
  refine ⟨fun _ => List.replicate 3 .no, _, (xb_if (S := Unit) (slj := (fun s1 => [sF rTx v_state, sF rTx v_step, .no])) () (lw_nos rfl) (xqnot (xqv (xsh (xcall C_is_step G_is_step hr (xa_cons (xlenT (xv 0) B.z_len) (xa_cons (xv 1) xa_nil))))))
(xb_raise1 () (lw_nos rfl) B.x_BadStep.toXk hr (xv 1))
(xb_nil () (by walk_at "lw")) (fun s1 =>
(xb_set 2 (fun v_item1 => [sF rTx v_state, sF rTx v_step, sF rInt v_item1]) () (lw_nos rfl) (xn (xintT (xixT (xv 1) xint) B.z_int)) (fun _ => rfl) (fun v_item1 =>
(xb_if (S := Unit) (slj := (fun s2 => [sF rTx v_state, sF rTx v_step, sF rInt v_item1])) () (lw_nos rfl) (xqc (xeq (xixT (xv 1) xint) (xtx [43])))
(xb_if (S := Unit) (slj := (fun s3 => [sF rTx v_state, sF rTx v_step, sF rInt v_item1])) () (lw_nos rfl) (xqc (xne (xixT (xv 0) (xv 2)) (xtx [46])))
(xb_raise1 () (lw_nos rfl) B.x_TakenTwice.toXk hr (xv 2))
(xb_nil () (by walk_at "lw")) (fun s3 =>
(xb_ret () (lw_nos rfl) (fun a => a) (fun _ => rfl) (xn (xcat (xcat (xslT (xv 0) xo_none (xo_some (xv 2))) (xtx [104])) (xslT (xv 0) (xo_some (xadd (xv 2) xint)) xo_none))))))
(xb_nil () (by walk_at "lw")) (fun s2 =>
(xb_if (S := Unit) (slj := (fun s4 => [sF rTx v_state, sF rTx v_step, sF rInt v_item1])) () (lw_nos rfl) (xqc (xne (xixT (xv 0) (xv 2)) (xtx [104])))
(xb_raise1 () (lw_nos rfl) B.x_NotHeld.toXk hr (xv 2))
(xb_nil () (by walk_at "lw")) (fun s4 =>
(xb_ret () (lw_nos rfl) (fun a => a) (fun _ => rfl) (xn (xcat (xcat (xslT (xv 0) xo_none (xo_some (xv 2))) (xtx [114])) (xslT (xv 0) (xo_some (xadd (xv 2) xint)) xo_none)))))))))))), ?_⟩
  all_goals (show _ = m_after v_state v_step; unfold m_after; first | (simp only [R.ok_bind, R.er_bind, R.no_bind, R.ok_thn, R.er_thn, R.no_thn, R.thn_id, R.bind_bind, R.thn_bind, R.bind_ok, R.cond_ok, R.ok_noer, R.bind_thn, R.thn_thn, cond_true, cond_false]; done) | rfl)
abbrev st_m_replay : Stmt := top 15
theorem sc_m_replay : FnScope ["size", "steps", "state", "step"] ["size", "steps"] (defScope st_m_replay) := ⟨rfl, rfl, rfl, by decide +kernel, rfl, by decide +kernel, by decide +kernel⟩
set_option maxHeartbeats 4000000 in
theorem ok_m_replay (B : Bt P w K mg xt) {fa : Addr} {fd : FuncData} (Fn : Fun K "replay" "replay" st_m_replay fa fd) {a_start : Addr} {d_start : FuncData} (C_start : Cal K mg "start" a_start d_start ["size"]) (G_start : FnOk P w K mg base (L2.CX P w) 2 a_start d_start ["size"] (spR xt (Pt.cons .sh rInt inferInstance Pt.nil) (fun (a : (Int × Unit)) => m_start a.1) (fun b => sF rTx b))) {a_after : Addr} {d_after : FuncData} (C_after : Cal K mg "after" a_after d_after ["state", "step"]) (G_after : FnOk P w K mg base (L2.CX P w) 2 a_after d_after ["state", "step"] (spR xt (Pt.cons .sh rTx inferInstance (Pt.cons .sh rTx inferInstance Pt.nil)) (fun (a : ((List Nat) × (List Nat) × Unit)) => m_after a.1 a.2.1) (fun b => sF rTx b))) : FnOk P w K mg base (L2.CX P w) 3 fa fd ["size", "steps"] (spR xt (Pt.cons .sh rInt inferInstance (Pt.cons .sh (rLst rTx) inferInstance Pt.nil)) (fun (a : (Int × (List (List Nat)) × Unit)) => m_replay a.1 a.2.1) (fun b => sF rTx b)) := by
  refine ok_R (S' := Unit) 2 Fn sc_m_replay rfl rfl (fun _ => .no) (fun _ _ h => nomatch h) (fun _ _ h => nomatch h) (fun cdv A outer s0 H E0_ hr a => ?_)
  obtain ⟨v_size, v_steps, ⟨⟩⟩ := a
  refine ⟨fun _ => List.replicate 4 .no, _, (xb_set 2 (fun v_state1 => [sF rInt v_size, sF (rLst rTx) v_steps, sF rTx v_state1, .no]) () (lw_nos rfl) (xn (xsh (xcall C_start G_start hr (xa_cons (xv 0) xa_nil)))) (fun _ => rfl) (fun v_state1 =>
(xb_forv (T := (List Nat)) (m_replay_s1) (fun t1 => [sF rInt v_size, sF (rLst rTx) v_steps, sF rTx t1, .no]) v_state1 () (lw_nos rfl) (by walk_at "lw") cnD_po (xi_list (xv 1)) (xg_name 3) (fun t1 x1 => [sF rInt v_size, sF (rLst rTx) v_steps, sF rTx t1, sF rTx x1]) (fun _ _ => rfl) (fun t1 x1 => XB.cast
(xb_set 2 (fun v_state3 => [sF rInt v_size, sF (rLst rTx) v_steps, sF rTx v_state3, sF rTx x1]) () (lw_nos rfl) (xn (xsh (xcall C_after G_after hr (xa_cons (xv 2) (xa_cons (xv 3) xa_nil))))) (fun _ => rfl) (fun v_state3 =>
(xb_nil v_state3 (by walk_at "lw")))) (fun k => by unfold m_replay_s1; first | (simp only [R.ok_bind, R.er_bind, R.no_bind, R.ok_thn, R.er_thn, R.no_thn, R.thn_id, R.bind_bind, R.thn_bind, R.bind_ok, R.cond_ok, R.ok_noer, R.bind_thn, R.thn_thn, cond_true, cond_false]; done) | rfl)) (fun t2 =>
(xb_ret () (lw_nos rfl) (fun a => a) (fun _ => rfl) (xn (xv 2))))))), ?_⟩
  all_goals (show _ = m_replay v_size v_steps; unfold m_replay; first | (simp only [R.ok_bind, R.er_bind, R.no_bind, R.ok_thn, R.er_thn, R.no_thn, R.thn_id, R.bind_bind, R.thn_bind, R.bind_ok, R.cond_ok, R.ok_noer, R.bind_thn, R.thn_thn, cond_true, cond_false]; done) | rfl)
abbrev st_m_check_programs : Stmt := top 17
theorem sc_m_check_programs : FnScope ["size", "programs", "index", "steps", "e", "state"] ["size", "programs"] (defScope st_m_check_programs) := ⟨rfl, rfl, rfl, by decide +kernel, rfl, by decide +kernel, by decide +kernel⟩
set_option maxHeartbeats 4000000 in
theorem ok_m_check_programs (B : Bt P w K mg xt) {fa : Addr} {fd : FuncData} (Fn : Fun K "check_programs" "check_programs" st_m_check_programs fa fd) {a_replay : Addr} {d_replay : FuncData} (C_replay : Cal K mg "replay" a_replay d_replay ["size", "steps"]) (G_replay : FnOk P w K mg base (L2.CX P w) 3 a_replay d_replay ["size", "steps"] (spR xt (Pt.cons .sh rInt inferInstance (Pt.cons .sh (rLst rTx) inferInstance Pt.nil)) (fun (a : (Int × (List (List Nat)) × Unit)) => m_replay a.1 a.2.1) (fun b => sF rTx b))) : FnOk P w K mg base (L2.CX P w) 4 fa fd ["size", "programs"] (spR xt (Pt.cons .sh rInt inferInstance (Pt.cons .sh (rLst (rLst rTx)) inferInstance Pt.nil)) (fun (a : (Int × (List (List (List Nat))) × Unit)) => m_check_programs a.1 a.2.1) (fun b => sF rNon b)) := by
  refine ok_R (S' := Unit) 4 Fn sc_m_check_programs rfl rfl (fun _ => .ok ()) (fun _ b h F H F1 H1 g => by cases h; exact env1 g ⟨.non, rfl, rfl⟩ fun _ _ z => nomatch z) (fun _ _ h => nomatch h) (fun cdv A outer s0 H E0_ hr a => ?_)
  obtain ⟨v_size, v_programs, ⟨⟩⟩ := a
  refine ⟨fun _ => List.replicate 6 .no, _, (xb_for (T := Unit) (m_check_programs_b1 v_size) (fun t1 => [sF rInt v_size, sF (rLst (rLst rTx)) v_programs, .no, .no, .no, .no]) () () (lw_nos rfl) (by walk_at "lw") cnD_po (xi_enum (xv 1) B.z_enumerate) (xg_pr 2 3) (fun t1 x1 => [sF rInt v_size, sF (rLst (rLst rTx)) v_programs, sF rInt x1.1, sF (rLst rTx) x1.2, .no, .no]) (fun _ _ => rfl) (fun t1 x1 => XB.cast
(xb_tryNo (S1 := (List Nat)) (slx := (fun z1 => [sF rInt v_size, sF (rLst (rLst rTx)) v_programs, sF rInt x1.1, sF (rLst rTx) x1.2, .no, .no])) (slj := (fun s1 => [sF rInt v_size, sF (rLst (rLst rTx)) v_programs, sF rInt x1.1, sF (rLst rTx) x1.2, .no, sF rTx s1])) (fun _ => ()) (fun _ => lw_nos rfl) (fun pn_ xe_ W_ tk_ po_ =>
(xb_set 5 (fun v_state2 => [sF rInt v_size, sF (rLst (rLst rTx)) v_programs, sF rInt x1.1, sF (rLst rTx) x1.2, .no, sF rTx v_state2]) () (by walk_at "lw") (xn (xsh (xcall C_replay G_replay hr (xa_cons (xv 0) (xa_cons (xv 3) xa_nil))))) (fun _ => rfl) (fun v_state2 =>
(xb_nil v_state2 (by walk_at "lw"))))) (fun s1 =>
(xb_if () (lw_nos rfl) (xqc (xinT (xtx [104]) (xv 5)))
(xb_raise1 () (lw_nos rfl) B.x_BadProgram.toXk hr (xv 2))
(xb_nil () (by walk_at "lw")) (fun s => xb_nil s (Lw.refl _))))) (fun k => by unfold m_check_programs_b1; first | (simp only [R.ok_bind, R.er_bind, R.no_bind, R.ok_thn, R.er_thn, R.no_thn, R.thn_id, R.bind_bind, R.thn_bind, R.bind_ok, R.cond_ok, R.ok_noer, R.bind_thn, R.thn_thn, cond_true, cond_false]; done) | rfl)) (fun t2 =>
(xb_nil () (lw_nos rfl)))), ?_⟩
  all_goals (show _ = m_check_programs v_size v_programs; unfold m_check_programs; first | (simp only [R.ok_bind, R.er_bind, R.no_bind, R.ok_thn, R.er_thn, R.no_thn, R.thn_id, R.bind_bind, R.thn_bind, R.bind_ok, R.cond_ok, R.ok_noer, R.bind_thn, R.thn_thn, cond_true, cond_false]; done) | rfl)
abbrev st_m_holds : Stmt := top 18
theorem sc_m_holds : FnScope ["steps", "many", "digit", "made"] ["steps", "many", "digit"] (defScope st_m_holds) := ⟨rfl, rfl, rfl, by decide +kernel, rfl, by decide +kernel, by decide +kernel⟩
set_option maxHeartbeats 4000000 in
theorem ok_m_holds (B : Bt P w K mg xt) {fa : Addr} {fd : FuncData} (Fn : Fun K "holds" "holds" st_m_holds fa fd) : FnOk P w K mg base (L2.CX P w) 1 fa fd ["steps", "many", "digit"] (spR xt (Pt.cons .sh (rLst rTx) inferInstance (Pt.cons .sh rInt inferInstance (Pt.cons .sh rTx inferInstance Pt.nil))) (fun (a : ((List (List Nat)) × Int × (List Nat) × Unit)) => m_holds a.1 a.2.1 a.2.2.1) (fun b => sF rBl b)) := by
  refine ok_R (S' := Unit) 1 Fn sc_m_holds rfl rfl (fun _ => .no) (fun _ _ h => nomatch h) (fun _ _ h => nomatch h) (fun cdv A outer s0 H E0_ hr a => ?_)
  obtain ⟨v_steps, v_many, v_digit, ⟨⟩⟩ := a
  refine ⟨fun _ => List.replicate 4 .no, _, (xb_set 3 (fun v_made1 => [sF (rLst rTx) v_steps, sF rInt v_many, sF rTx v_digit, sF (rLst rTx) v_made1]) () (lw_nos rfl) (xn (xfz (xslL (xv 0) xo_none (xo_some (xv 1))))) (fun _ => rfl) (fun v_made1 =>
(xb_ret () (lw_nos rfl) (fun a => a) (fun _ => rfl) (xn (xand (xcv (xinL (xcat (xtx [43]) (xv 2)) (xv 3))) (xone (xcv (xniL (xcat (xtx [45]) (xv 2)) (xv 3))))))))), ?_⟩
  all_goals (show _ = m_holds v_steps v_many v_digit; unfold m_holds; first | (simp only [R.ok_bind, R.er_bind, R.no_bind, R.ok_thn, R.er_thn, R.no_thn, R.thn_id, R.bind_bind, R.thn_bind, R.bind_ok, R.cond_ok, R.ok_noer, R.bind_thn, R.thn_thn, cond_true, cond_false]; done) | rfl)
abbrev st_m_is_free : Stmt := top 19
theorem sc_m_is_free : FnScope ["programs", "places", "index", "step", "k"] ["programs", "places", "index"] (defScope st_m_is_free) := ⟨rfl, rfl, rfl, by decide +kernel, rfl, by decide +kernel, by decide +kernel⟩
set_option maxHeartbeats 4000000 in
theorem ok_m_is_free (B : Bt P w K mg xt) {fa : Addr} {fd : FuncData} (Fn : Fun K "is_free" "is_free" st_m_is_free fa fd) {a_holds : Addr} {d_holds : FuncData} (C_holds : Cal K mg "holds" a_holds d_holds ["steps", "many", "digit"]) (G_holds : FnOk P w K mg base (L2.CX P w) 1 a_holds d_holds ["steps", "many", "digit"] (spR xt (Pt.cons .sh (rLst rTx) inferInstance (Pt.cons .sh rInt inferInstance (Pt.cons .sh rTx inferInstance Pt.nil))) (fun (a : ((List (List Nat)) × Int × (List Nat) × Unit)) => m_holds a.1 a.2.1 a.2.2.1) (fun b => sF rBl b))) : FnOk P w K mg base (L2.CX P w) 2 fa fd ["programs", "places", "index"] (spR xt (Pt.cons .sh (rLst (rLst rTx)) inferInstance (Pt.cons .bo (rLst rInt) inferInstance (Pt.cons .sh rInt inferInstance Pt.nil))) (fun (a : ((List (List (List Nat))) × (List Int) × Int × Unit)) => m_is_free a.1 a.2.1 a.2.2.1) (fun b => sF rBl b)) := by
  refine ok_R (S' := Unit) 2 Fn sc_m_is_free rfl rfl (fun _ => .no) (fun _ _ h => nomatch h) (fun _ _ h => nomatch h) (fun cdv A outer s0 H E0_ hr a => ?_)
  obtain ⟨v_programs, v_places, v_index, ⟨⟩⟩ := a
  refine ⟨fun _ => List.replicate 5 .no, _, (xb_set 3 (fun v_step1 => [sF (rLst (rLst rTx)) v_programs, sB (rLst rInt) v_places, sF rInt v_index, sF rTx v_step1, .no]) () (lw_nos rfl) (xn (xixL (xixL (xv 0) (xv 2)) (xixL (xvb 1) (xv 2)))) (fun _ => rfl) (fun v_step1 =>
(xb_if (S := Unit) (slj := (fun s1 => [sF (rLst (rLst rTx)) v_programs, sB (rLst rInt) v_places, sF rInt v_index, sF rTx v_step1, .no])) () (lw_nos rfl) (xqc (xeq (xixT (xv 3) xint) (xtx [45])))
(xb_ret () (lw_nos rfl) (fun a => a) (fun _ => rfl) (xn xbl))
(xb_nil () (by walk_at "lw")) (fun s1 =>
(xb_ret () (lw_nos rfl) (fun a => a) (fun _ => rfl) (xn (xnot (xany (xfz (xnlc (xlc [("k", 4)] (fun x1 => [sF (rLst (rLst rTx)) v_programs, sB (rLst rInt) v_places, sF rInt v_index, sF rTx v_step1, sF rInt x1]) (xi_rng (xlenL (xv 0) B.z_len) B.z_range) (fun _ _ _ _ _ => (xg_name 4)) (fun _ => rfl) (fun _ _ _ _ _ x1 => xqs0) (fun _ _ _ _ _ x1 => (xsh (xcall C_holds G_holds hr (xa_cons (xixL (xv 0) (xv 4)) (xa_cons (xfl (xixL (xvb 1) (xv 4))) (xa_cons (xixT (xv 3) xint) xa_nil)))))) (ok := (by decide +kernel : blkC ["programs", "places", "index", "step", "k"] (defScope st_m_is_free) _ [("k", 4)] = true))))) B.z_any)))))))), ?_⟩
  all_goals (show _ = m_is_free v_programs v_places v_index; unfold m_is_free; first | (simp only [R.ok_bind, R.er_bind, R.no_bind, R.ok_thn, R.er_thn, R.no_thn, R.thn_id, R.bind_bind, R.thn_bind, R.bind_ok, R.cond_ok, R.ok_noer, R.bind_thn, R.thn_thn, cond_true, cond_false]; done) | rfl)
abbrev st_m_outcome : Stmt := top 20
theorem sc_m_outcome : FnScope ["programs", "order", "places", "found", "place", "index", "step", "item", "steps", "k"] ["programs", "order"] (defScope st_m_outcome) := ⟨rfl, rfl, rfl, by decide +kernel, rfl, by decide +kernel, by decide +kernel⟩
set_option maxHeartbeats 4000000 in
theorem ok_m_outcome (B : Bt P w K mg xt) {fa : Addr} {fd : FuncData} (Fn : Fun K "outcome" "outcome" st_m_outcome fa fd) {a_check_programs : Addr} {d_check_programs : FuncData} (C_check_programs : Cal K mg "check_programs" a_check_programs d_check_programs ["size", "programs"]) (G_check_programs : FnOk P w K mg base (L2.CX P w) 4 a_check_programs d_check_programs ["size", "programs"] (spR xt (Pt.cons .sh rInt inferInstance (Pt.cons .sh (rLst (rLst rTx)) inferInstance Pt.nil)) (fun (a : (Int × (List (List (List Nat))) × Unit)) => m_check_programs a.1 a.2.1) (fun b => sF rNon b))) {a_is_free : Addr} {d_is_free : FuncData} (C_is_free : Cal K mg "is_free" a_is_free d_is_free ["programs", "places", "index"]) (G_is_free : FnOk P w K mg base (L2.CX P w) 2 a_is_free d_is_free ["programs", "places", "index"] (spR xt (Pt.cons .sh (rLst (rLst rTx)) inferInstance (Pt.cons .bo (rLst rInt) inferInstance (Pt.cons .sh rInt inferInstance Pt.nil))) (fun (a : ((List (List (List Nat))) × (List Int) × Int × Unit)) => m_is_free a.1 a.2.1 a.2.2.1) (fun b => sF rBl b))) : FnOk P w K mg base (L2.CX P w) 5 fa fd ["programs", "order"] (spR xt (Pt.cons .sh (rLst (rLst rTx)) inferInstance (Pt.cons .sh (rLst rInt) inferInstance Pt.nil)) (fun (a : ((List (List (List Nat))) × (List Int) × Unit)) => m_outcome a.1 a.2.1) (fun b => sD rInt (rTup rInt) b)) := by
  refine ok_R (S' := Unit) 8 Fn sc_m_outcome rfl rfl (fun _ => .no) (fun _ _ h => nomatch h) (fun _ _ h => nomatch h) (fun cdv A outer s0 H E0_ hr a => ?_)
  obtain ⟨v_programs, v_order, ⟨⟩⟩ := a
  refine ⟨fun _ => List.replicate 10 .no, _, (xb_expr () (lw_nos rfl) (xsh (xcall C_check_programs G_check_programs hr (xa_cons (xglob (r := rInt) B.c_LARGEST (fun _ => rfl)) (xa_cons (xv 0) xa_nil))))
(xb_set 2 (fun v_places1 => [sF (rLst (rLst rTx)) v_programs, sF (rLst rInt) v_order, sL rInt v_places1, .no, .no, .no, .no, .no, .no, .no]) () (lw_nos rfl) (xnlc (xlc [("steps", 8)] (fun x1 => [sF (rLst (rLst rTx)) v_programs, sF (rLst rInt) v_order, .no, .no, .no, .no, .no, .no, sF (rLst rTx) x1, .no]) (xi_list (xv 0)) (fun _ _ _ _ _ => (xg_name 8)) (fun _ => rfl) (fun _ _ _ _ _ x1 => xqs0) (fun _ _ _ _ _ x1 => xint) (ok := (by decide +kernel : blkC ["programs", "order", "places", "found", "place", "index", "step", "item", "steps", "k"] (defScope st_m_outcome) _ [("steps", 8)] = true)))) (fun _ => rfl) (fun v_places1 =>
(xb_set 3 (fun v_found1 => [sF (rLst (rLst rTx)) v_programs, sF (rLst rInt) v_order, sL rInt v_places1, sD rInt (rTup rInt) v_found1, .no, .no, .no, .no, .no, .no]) () (lw_nos rfl) (xn_dnil (rk := rInt) (rv := (rTup rInt))) (fun _ => rfl) (fun v_found1 =>
(xb_for (T := ((List (Int × (List Int))) × (List Int))) (m_outcome_b1 v_programs) (fun t1 => [sF (rLst (rLst rTx)) v_programs, sF (rLst rInt) v_order, sL rInt t1.2, sD rInt (rTup rInt) t1.1, .no, .no, .no, .no, .no, .no]) (v_found1, v_places1) () (lw_nos rfl) (by walk_at "lw") cnD_po (xi_enum (xv 1) B.z_enumerate) (xg_pr 4 5) (fun t1 x2 => [sF (rLst (rLst rTx)) v_programs, sF (rLst rInt) v_order, sL rInt t1.2, sD rInt (rTup rInt) t1.1, sF rInt x2.1, sF rInt x2.2, .no, .no, .no, .no]) (fun _ _ => rfl) (fun t1 x2 => XB.cast
(xb_if (S := Unit) (slj := (fun s1 => [sF (rLst (rLst rTx)) v_programs, sF (rLst rInt) v_order, sL rInt t1.2, sD rInt (rTup rInt) t1.1, sF rInt x2.1, sF rInt x2.2, .no, .no, .no, .no])) () (lw_nos rfl) (xqw (xqor (xqc (xlt (xv 5) xint)) (xqor (xqc (xge (xv 5) (xlenL (xv 0) B.z_len))) (xqor1 (xqc (xeq (xixL (xvm (mu := mL rInt) 2) (xv 5)) (xlenL (xixL (xv 0) (xv 5)) B.z_len)))))))
(xb_raise1 () (lw_nos rfl) B.x_BadOrder.toXk hr (xv 4))
(xb_nil () (by walk_at "lw")) (fun s1 =>
(xb_set 6 (fun v_step1 => [sF (rLst (rLst rTx)) v_programs, sF (rLst rInt) v_order, sL rInt t1.2, sD rInt (rTup rInt) t1.1, sF rInt x2.1, sF rInt x2.2, sF rTx v_step1, .no, .no, .no]) () (lw_nos rfl) (xn (xixL (xixL (xv 0) (xv 5)) (xixL (xvm (mu := mL rInt) 2) (xv 5)))) (fun _ => rfl) (fun v_step1 =>
(xb_if (S := Unit) (slj := (fun s2 => [sF (rLst (rLst rTx)) v_programs, sF (rLst rInt) v_order, sL rInt t1.2, sD rInt (rTup rInt) t1.1, sF rInt x2.1, sF rInt x2.2, sF rTx v_step1, .no, .no, .no])) () (lw_nos rfl) (xqnot (xqv (xsh (xcall C_is_free G_is_free hr (xa_cons (xv 0) (xa_cons (xvm (mu := mL rInt) 2) (xa_cons (xv 5) xa_nil)))))))
(xb_raise2 () (lw_nos rfl) B.x_Blocked.toXk2 hr (xv 4) (xintT (xixT (xv 6) xint) B.z_int))
(xb_nil () (by walk_at "lw")) (fun s2 =>
(xb_ifv (S := (List (Int × (List Int)))) (slj := (fun s3 => [sF (rLst (rLst rTx)) v_programs, sF (rLst rInt) v_order, sL rInt t1.2, sD rInt (rTup rInt) s3, sF rInt x2.1, sF rInt x2.2, sF rTx v_step1, .no, .no, .no])) () (((((ixTR v_step1 (1 : Int))).bind fun y12 => (intTR y12))).bind fun v_item1 =>
((((((lenR ([] : List Int))).bind fun y13 => R.ok ((getA t1.1 v_item1).getD y13))).bind fun y14 => ((lenR ([x2.2] : List Int))).bind fun y15 => (catLR y14 y15))).bind fun y16 =>
(putR t1.1 v_item1 y16).bind fun v_found4 =>
(R.ok v_found4)) ((R.ok t1.1)) (lw_nos rfl) (xqc (xeq (xixT (xv 6) xint) (xtx [43])))
(xb_set 7 (fun v_item1 => [sF (rLst (rLst rTx)) v_programs, sF (rLst rInt) v_order, sL rInt t1.2, sD rInt (rTup rInt) t1.1, sF rInt x2.1, sF rInt x2.2, sF rTx v_step1, sF rInt v_item1, .no, .no]) () (lw_nos rfl) (xn (xintT (xixT (xv 6) xint) B.z_int)) (fun _ => rfl) (fun v_item1 =>
(xb_dput 3 (fun v_found4 => [sF (rLst (rLst rTx)) v_programs, sF (rLst rInt) v_order, sL rInt t1.2, sD rInt (rTup rInt) v_found4, sF rInt x2.1, sF rInt x2.2, sF rTx v_step1, sF rInt v_item1, .no, .no]) () (lw_nos rfl) rfl hr (xcatU (xdget2O (rk := rInt) (rv := (rTup rInt)) hr 3 (xv 7) (xtup (r := rInt) xl_nil)) (xtup (r := rInt) (xl_cons (xv 5) xl_nil))) (xv 7) (fun _ => rfl) (fun v_found4 =>
(xb_nil v_found4 (by walk_at "lw"))))))
(xb_nil t1.1 (by walk_at "lw")) (fun k => by first | (simp only [R.ok_bind, R.er_bind, R.no_bind, R.ok_thn, R.er_thn, R.no_thn, R.thn_id, R.bind_bind, R.thn_bind, R.bind_ok, R.cond_ok, R.ok_noer, R.bind_thn, R.thn_thn, cond_true, cond_false]; done) | rfl) (fun k => by first | (simp only [R.ok_bind, R.er_bind, R.no_bind, R.ok_thn, R.er_thn, R.no_thn, R.thn_id, R.bind_bind, R.thn_bind, R.bind_ok, R.cond_ok, R.ok_noer, R.bind_thn, R.thn_thn, cond_true, cond_false]; done) | rfl) (fun s3 =>
(xb_augI (mk := mL rInt) 2 (fun v_places3 => [sF (rLst (rLst rTx)) v_programs, sF (rLst rInt) v_order, sL rInt v_places3, sD rInt (rTup rInt) s3, sF rInt x2.1, sF rInt x2.2, sF rTx v_step1, .no, .no, .no]) () (lw_nos rfl) rfl (xv 5) xint (fun _ => rfl) (fun v_places3 =>
(xb_nil (s3, v_places3) (by walk_at "lw")))))))))))) (fun k => by unfold m_outcome_b1; first | (simp only [R.ok_bind, R.er_bind, R.no_bind, R.ok_thn, R.er_thn, R.no_thn, R.thn_id, R.bind_bind, R.thn_bind, R.bind_ok, R.cond_ok, R.ok_noer, R.bind_thn, R.thn_thn, cond_true, cond_false]; done) | rfl)) (fun t2 =>
(xb_if (S := Unit) (slj := (fun s4 => [sF (rLst (rLst rTx)) v_programs, sF (rLst rInt) v_order, sL rInt t2.2, sD rInt (rTup rInt) t2.1, .no, .no, .no, .no, .no, .no])) () (lw_nos rfl) (xqv (xany (xfz (xnlc (xlc [("k", 9)] (fun x3 => [sF (rLst (rLst rTx)) v_programs, sF (rLst rInt) v_order, sL rInt t2.2, sD rInt (rTup rInt) t2.1, .no, .no, .no, .no, .no, sF rInt x3]) (xi_rng (xlenL (xv 0) B.z_len) B.z_range) (fun _ _ _ _ _ => (xg_name 9)) (fun _ => rfl) (fun _ _ _ _ _ x3 => xqs0) (fun _ _ _ _ _ x3 => (xcv (xlt (xixL (xvm (mu := mL rInt) 2) (xv 9)) (xlenL (xixL (xv 0) (xv 9)) B.z_len)))) (ok := (by decide +kernel : blkC ["programs", "order", "places", "found", "place", "index", "step", "item", "steps", "k"] (defScope st_m_outcome) _ [("k", 9)] = true))))) B.z_any))
(xb_raise1 () (lw_nos rfl) B.x_BadOrder.toXk hr (xlenL (xv 1) B.z_len))
(xb_nil () (by walk_at "lw")) (fun s4 =>
(xb_ret () (lw_nos rfl) (fun a => a) (fun _ => rfl) (xdc [("item", 7)] (fun x4 => [sF (rLst (rLst rTx)) v_programs, sF (rLst rInt) v_order, sL rInt t2.2, sD rInt (rTup rInt) t2.1, .no, .no, .no, sF rInt x4, .no, .no]) (xi_rng (xglob (r := rInt) B.c_LARGEST (fun _ => rfl)) B.z_range) (fun _ _ _ _ _ => (xg_name 7)) (fun _ => rfl) (fun _ _ _ _ _ x4 => (xqs1 (xqc (xdin hr (xv 7) (xvd 3))))) (fun _ _ _ _ _ x4 => (xv 7)) (fun _ _ _ _ _ x4 => (xdgetO (rk := rInt) (rv := (rTup rInt)) hr 3 (xv 7))) (ok := (by decide +kernel : blkC ["programs", "order", "places", "found", "place", "index", "step", "item", "steps", "k"] (defScope st_m_outcome) _ [("item", 7)] = true))))))))))))), ?_⟩
  all_goals (show _ = m_outcome v_programs v_order; unfold m_outcome; first | (simp only [R.ok_bind, R.er_bind, R.no_bind, R.ok_thn, R.er_thn, R.no_thn, R.thn_id, R.bind_bind, R.thn_bind, R.bind_ok, R.cond_ok, R.ok_noer, R.bind_thn, R.thn_thn, cond_true, cond_false]; done) | rfl)
abbrev st_m_law_cell : Stmt := top 22
theorem sc_m_law_cell : FnScope ["_law_script", "_law_k"] ["_law_script", "_law_k"] (defScope st_m_law_cell) := ⟨rfl, rfl, rfl, by decide +kernel, rfl, by decide +kernel, by decide +kernel⟩
set_option maxHeartbeats 4000000 in
theorem ok_m_law_cell (B : Bt P w K mg xt) {fa : Addr} {fd : FuncData} (Fn : Fun K "_law_cell" "_law_cell" st_m_law_cell fa fd) : FnOk P w K mg base (L2.CX P w) 1 fa fd ["_law_script", "_law_k"] (spR xt (Pt.cons .bo (rScr K) inferInstance (Pt.cons .sh rInt inferInstance Pt.nil)) (fun (a : ((List Int) × Int × Unit)) => m_law_cell a.1 a.2.1) (fun b => sF rInt b)) := by
  refine ok_R (S' := Unit) 0 Fn sc_m_law_cell rfl rfl (fun _ => .no) (fun _ _ h => nomatch h) (fun _ _ h => nomatch h) (fun cdv A outer s0 H E0_ hr a => ?_)
  obtain ⟨v_law_script, v_law_k, ⟨⟩⟩ := a
  refine ⟨fun _ => List.replicate 2 .no, _, (xb_if (S := Unit) (slj := (fun s1 => [sB (rScr K) v_law_script, sF rInt v_law_k])) () (lw_nos rfl) (xqc (xlt (xv 1) (xlenS (xvb 0) B.z_len)))
(xb_ret () (lw_nos rfl) (fun a => a) (fun _ => rfl) (xn (xixS (xvb 0) (xv 1))))
(xb_nil () (by walk_at "lw")) (fun s1 =>
(xb_ret () (lw_nos rfl) (fun a => a) (fun _ => rfl) (xn xint)))), ?_⟩
  all_goals (show _ = m_law_cell v_law_script v_law_k; unfold m_law_cell; first | (simp only [R.ok_bind, R.er_bind, R.no_bind, R.ok_thn, R.er_thn, R.no_thn, R.thn_id, R.bind_bind, R.thn_bind, R.bind_ok, R.cond_ok, R.ok_noer, R.bind_thn, R.thn_thn, cond_true, cond_false]; done) | rfl)
abbrev st_m_law_numbers : Stmt := top 23
theorem sc_m_law_numbers : FnScope ["_law_cell_here", "_law_many", "_law_limit", "_law_left", "_law_mixed", "_law_row", "_law_k"] ["_law_cell_here", "_law_many", "_law_limit"] (defScope st_m_law_numbers) := ⟨rfl, rfl, rfl, by decide +kernel, rfl, by decide +kernel, by decide +kernel⟩
set_option maxHeartbeats 4000000 in
theorem ok_m_law_numbers (B : Bt P w K mg xt) {fa : Addr} {fd : FuncData} (Fn : Fun K "_law_numbers" "_law_numbers" st_m_law_numbers fa fd) : FnOk P w K mg base (L2.CX P w) 1 fa fd ["_law_cell_here", "_law_many", "_law_limit"] (spR xt (Pt.cons .sh rInt inferInstance (Pt.cons .sh rInt inferInstance (Pt.cons .sh rInt inferInstance Pt.nil))) (fun (a : (Int × Int × Int × Unit)) => m_law_numbers a.1 a.2.1 a.2.2.1) (fun b => sL rInt b)) := by
  refine ok_R (S' := Unit) 4 Fn sc_m_law_numbers rfl rfl (fun _ => .no) (fun _ _ h => nomatch h) (fun _ _ h => nomatch h) (fun cdv A outer s0 H E0_ hr a => ?_)
  obtain ⟨v_law_cell_here, v_law_many, v_law_limit, ⟨⟩⟩ := a
  refine ⟨fun _ => List.replicate 7 .no, _, (xb_set 3 (fun v_law_left1 => [sF rInt v_law_cell_here, sF rInt v_law_many, sF rInt v_law_limit, sF rInt v_law_left1, .no, .no, .no]) () (lw_nos rfl) (xn xint) (fun _ => rfl) (fun v_law_left1 =>
(xb_ifv (S := Int) (slj := (fun s1 => [sF rInt v_law_cell_here, sF rInt v_law_many, sF rInt v_law_limit, sF rInt s1, .no, .no, .no])) () (((((powR (10 : Int) (18 : Int))).bind fun y2 => R.ok (v_law_cell_here - y2))).bind fun v_law_left3 =>
(R.ok v_law_left3)) ((R.ok v_law_left1)) (lw_nos rfl) (xqc (xge (xv 0) (xpow xint xint)))
(xb_set 3 (fun v_law_left3 => [sF rInt v_law_cell_here, sF rInt v_law_many, sF rInt v_law_limit, sF rInt v_law_left3, .no, .no, .no]) () (lw_nos rfl) (xn (xsub (xv 0) (xpow xint xint))) (fun _ => rfl) (fun v_law_left3 =>
(xb_nil v_law_left3 (by walk_at "lw"))))
(xb_nil v_law_left1 (by walk_at "lw")) (fun k => by first | (simp only [R.ok_bind, R.er_bind, R.no_bind, R.ok_thn, R.er_thn, R.no_thn, R.thn_id, R.bind_bind, R.thn_bind, R.bind_ok, R.cond_ok, R.ok_noer, R.bind_thn, R.thn_thn, cond_true, cond_false]; done) | rfl) (fun k => by first | (simp only [R.ok_bind, R.er_bind, R.no_bind, R.ok_thn, R.er_thn, R.no_thn, R.thn_id, R.bind_bind, R.thn_bind, R.bind_ok, R.cond_ok, R.ok_noer, R.bind_thn, R.thn_thn, cond_true, cond_false]; done) | rfl) (fun s1 =>
(xb_set 4 (fun v_law_mixed1 => [sF rInt v_law_cell_here, sF rInt v_law_many, sF rInt v_law_limit, sF rInt s1, sF rInt v_law_mixed1, .no, .no]) () (lw_nos rfl) (xn (xmod (xintI (xv 0) B.z_int) xint)) (fun _ => rfl) (fun v_law_mixed1 =>
(xb_set 5 (fun v_law_row1 => [sF rInt v_law_cell_here, sF rInt v_law_many, sF rInt v_law_limit, sF rInt s1, sF rInt v_law_mixed1, sL rInt v_law_row1, .no]) () (lw_nos rfl) (xn_nil (r := rInt)) (fun _ => rfl) (fun v_law_row1 =>
(xb_forv (T := (Int × (List Int) × Int)) (m_law_numbers_s1 v_law_limit) (fun t1 => [sF rInt v_law_cell_here, sF rInt v_law_many, sF rInt v_law_limit, sF rInt t1.2.2, sF rInt t1.1, sL rInt t1.2.1, .no]) (v_law_mixed1, v_law_row1, s1) () (lw_nos rfl) (by walk_at "lw") cnD_po (xi_rng (xv 1) B.z_range) (xg_name 6) (fun t1 x1 => [sF rInt v_law_cell_here, sF rInt v_law_many, sF rInt v_law_limit, sF rInt t1.2.2, sF rInt t1.1, sL rInt t1.2.1, sF rInt x1]) (fun _ _ => rfl) (fun t1 x1 => XB.cast
(xb_set 4 (fun v_law_mixed3 => [sF rInt v_law_cell_here, sF rInt v_law_many, sF rInt v_law_limit, sF rInt t1.2.2, sF rInt v_law_mixed3, sL rInt t1.2.1, sF rInt x1]) () (lw_nos rfl) (xn (xmod (xintI (xadd (xadd (xmul (xv 4) xint) (xmul xint (xv 6))) xint) B.z_int) xint)) (fun _ => rfl) (fun v_law_mixed3 =>
(xb_ifv (S := ((List Int) × Int)) (slj := (fun s2 => [sF rInt v_law_cell_here, sF rInt v_law_many, sF rInt v_law_limit, sF rInt s2.2, sF rInt v_law_mixed3, sL rInt s2.1, sF rInt x1])) () (((modR t1.2.2 v_law_limit)).bind fun y8 =>
(appR t1.2.1 y8).bind fun v_law_row4 =>
((divR t1.2.2 v_law_limit)).bind fun v_law_left6 =>
(R.ok (v_law_row4, v_law_left6))) (((((divR v_law_mixed3 (1021 : Int))).bind fun y9 => (modR y9 v_law_limit))).bind fun y10 =>
(appR t1.2.1 y10).bind fun v_law_row5 =>
(R.ok (v_law_row5, t1.2.2))) (lw_nos rfl) (xqc (xgt (xv 3) xint))
(xb_app 5 (fun v_law_row4 => [sF rInt v_law_cell_here, sF rInt v_law_many, sF rInt v_law_limit, sF rInt t1.2.2, sF rInt v_law_mixed3, sL rInt v_law_row4, sF rInt x1]) () (lw_nos rfl) rfl (xmod (xintI (xv 3) B.z_int) (xv 2)) (fun _ => rfl) (fun v_law_row4 =>
(xb_set 3 (fun v_law_left6 => [sF rInt v_law_cell_here, sF rInt v_law_many, sF rInt v_law_limit, sF rInt v_law_left6, sF rInt v_law_mixed3, sL rInt v_law_row4, sF rInt x1]) () (lw_nos rfl) (xn (xdiv (xv 3) (xv 2))) (fun _ => rfl) (fun v_law_left6 =>
(xb_nil (v_law_row4, v_law_left6) (by walk_at "lw"))))))
(xb_app 5 (fun v_law_row5 => [sF rInt v_law_cell_here, sF rInt v_law_many, sF rInt v_law_limit, sF rInt t1.2.2, sF rInt v_law_mixed3, sL rInt v_law_row5, sF rInt x1]) () (lw_nos rfl) rfl (xmod (xdiv (xv 4) xint) (xv 2)) (fun _ => rfl) (fun v_law_row5 =>
(xb_nil (v_law_row5, t1.2.2) (by walk_at "lw")))) (fun k => by first | (simp only [R.ok_bind, R.er_bind, R.no_bind, R.ok_thn, R.er_thn, R.no_thn, R.thn_id, R.bind_bind, R.thn_bind, R.bind_ok, R.cond_ok, R.ok_noer, R.bind_thn, R.thn_thn, cond_true, cond_false]; done) | rfl) (fun k => by first | (simp only [R.ok_bind, R.er_bind, R.no_bind, R.ok_thn, R.er_thn, R.no_thn, R.thn_id, R.bind_bind, R.thn_bind, R.bind_ok, R.cond_ok, R.ok_noer, R.bind_thn, R.thn_thn, cond_true, cond_false]; done) | rfl) (fun s2 =>
(xb_nil (v_law_mixed3, s2.1, s2.2) (by walk_at "lw")))))) (fun k => by unfold m_law_numbers_s1; first | (simp only [R.ok_bind, R.er_bind, R.no_bind, R.ok_thn, R.er_thn, R.no_thn, R.thn_id, R.bind_bind, R.thn_bind, R.bind_ok, R.cond_ok, R.ok_noer, R.bind_thn, R.thn_thn, cond_true, cond_false]; done) | rfl)) (fun t2 =>
(xb_retO 5 () rfl t2.2.1 rfl (lw_nos rfl)))))))))))), ?_⟩
  all_goals (show _ = m_law_numbers v_law_cell_here v_law_many v_law_limit; unfold m_law_numbers; first | (simp only [R.ok_bind, R.er_bind, R.no_bind, R.ok_thn, R.er_thn, R.no_thn, R.thn_id, R.bind_bind, R.thn_bind, R.bind_ok, R.cond_ok, R.ok_noer, R.bind_thn, R.thn_thn, cond_true, cond_false]; done) | rfl)
abbrev st_same : Stmt := top 24
theorem sc_same : FnScope ["_law_actual", "_law_due_here", "_law_k"] ["_law_actual", "_law_due_here"] (defScope st_same) := ⟨rfl, rfl, rfl, by decide +kernel, rfl, by decide +kernel, by decide +kernel⟩
theorem ok_same0 (B : Bt P w K mg xt) {fa : Addr} {fd : FuncData} (Fn : Fun K "_law_same" "_law_same" st_same fa fd) : FnOk P w K mg base CX0 1 fa fd ["_law_actual", "_law_due_here"] (spSame 0) := by
  refine ok_V 1 Fn sc_same rfl rfl (fun cdv A outer s0 H E0_ hr => ⟨_, (pss_cons (ps_if (pt_cmp (pc_isN (pv 1)) rfl) (pss_one (ps_ret (pe_cmp (pc_isN (pv 0)) rfl))) pss_nil) (pss_cons (ps_if (pt_val (pe_callB call_isi (by rfl) B.z_isinstance boot_isinstance (pa_cons (pv 1) (pa_cons (pe_bltn (v := .ty "bool") (by rfl) B.z_bool PyProof.Rows.boot_bool rfl) pa_nil)))) (pss_one (ps_ret (pe_and (pe_callB call_isi (by rfl) B.z_isinstance boot_isinstance (pa_cons (pv 0) (pa_cons (pe_bltn (v := .ty "bool") (by rfl) B.z_bool PyProof.Rows.boot_bool rfl) pa_nil))) (pe_one (pe_cmpR op_eq (pv 0) (pv 1) (nomark _)))))) pss_nil) (pss_cons (ps_if (pt_val (pe_callB call_isi (by rfl) B.z_isinstance boot_isinstance (pa_cons (pv 1) (pa_cons (pe_bltn (v := .ty "int") (by rfl) B.z_int PyProof.Rows.boot_int rfl) pa_nil)))) (pss_one (ps_ret (pe_and (pe_callB call_isi (by rfl) B.z_isinstance boot_isinstance (pa_cons (pv 0) (pa_cons (pe_bltn (v := .ty "int") (by rfl) B.z_int PyProof.Rows.boot_int rfl) pa_nil))) (pe_and (pe_not (pe_callB call_isi (by rfl) B.z_isinstance boot_isinstance (pa_cons (pv 0) (pa_cons (pe_bltn (v := .ty "bool") (by rfl) B.z_bool PyProof.Rows.boot_bool rfl) pa_nil)))) (pe_one (pe_cmpR op_eq (pv 0) (pv 1) (nomark _))))))) pss_nil) (pss_cons (ps_if (pt_val (pe_callB call_isi (by rfl) B.z_isinstance boot_isinstance (pa_cons (pv 1) (pa_cons (pe_bltn (v := .ty "str") (by rfl) B.z_str PyProof.Rows.boot_str rfl) pa_nil)))) (pss_one (ps_ret (pe_and (pe_callB call_isi (by rfl) B.z_isinstance boot_isinstance (pa_cons (pv 0) (pa_cons (pe_bltn (v := .ty "str") (by rfl) B.z_str PyProof.Rows.boot_str rfl) pa_nil))) (pe_one (pe_cmpR op_eq (pv 0) (pv 1) (nomark _)))))) pss_nil) (pss_cons (ps_if (PW.pt (pw_and (pt_val (pe_callB call_isi (by rfl) B.z_isinstance boot_isinstance (pa_cons (pv 1) (pa_cons (pe_bltn (v := .ty "list") (by rfl) B.z_list PyProof.Rows.boot_list rfl) pa_nil)))) (pw_and1 (pt_not (pt_val (pe_callB call_isi (by rfl) B.z_isinstance boot_isinstance (pa_cons (pv 0) (pa_cons (pe_bltn (v := .ty "list") (by rfl) B.z_list PyProof.Rows.boot_list rfl) pa_nil)))))))) (pss_one (ps_ret pe_bl)) pss_nil) (pss_cons (ps_if (PW.pt (pw_and (pt_val (pe_callB call_isi (by rfl) B.z_isinstance boot_isinstance (pa_cons (pv 1) (pa_cons (pe_bltn (v := .ty "tuple") (by rfl) B.z_tuple PyProof.Rows.boot_tuple rfl) pa_nil)))) (pw_and1 (pt_not (pt_val (pe_callB call_isi (by rfl) B.z_isinstance boot_isinstance (pa_cons (pv 0) (pa_cons (pe_bltn (v := .ty "tuple") (by rfl) B.z_tuple PyProof.Rows.boot_tuple rfl) pa_nil)))))))) (pss_one (ps_ret pe_bl)) pss_nil) pss_never)))))), fun F a nx rt bk ct_ hp hq hnx => ?_⟩)
  obtain ⟨a, d, ⟨⟩⟩ := a
  have hp : d.dep ≤ 0 := hp
  refine gk_cast (G' := [.bw rDt inferInstance a, .bw rDt inferInstance d, .no]) rfl (same_lead (K := K) hq (fun h1 h2 _ => ?_))
  cases d <;> first | (simp only [Dt.dep] at hp; omega) | (cases h2)
theorem ok_sameS {n : Nat} (B : Bt P w K mg xt) {fa : Addr} {fd : FuncData} (Fn : Fun K "_law_same" "_law_same" st_same fa fd) (C : Cal K mg "_law_same" fa fd ["_law_actual", "_law_due_here"]) (G : FnOk P w K mg base CX0 (n + 1) fa fd ["_law_actual", "_law_due_here"] (spSame n)) : FnOk P w K mg base CX0 (n + 2) fa fd ["_law_actual", "_law_due_here"] (spSame (n + 1)) := by
  refine ok_V 1 Fn sc_same rfl rfl (fun cdv A outer s0 H E0_ hr => ⟨_, (pss_cons (ps_if (pt_cmp (pc_isN (pv 1)) rfl) (pss_one (ps_ret (pe_cmp (pc_isN (pv 0)) rfl))) pss_nil) (pss_cons (ps_if (pt_val (pe_callB call_isi (by rfl) B.z_isinstance boot_isinstance (pa_cons (pv 1) (pa_cons (pe_bltn (v := .ty "bool") (by rfl) B.z_bool PyProof.Rows.boot_bool rfl) pa_nil)))) (pss_one (ps_ret (pe_and (pe_callB call_isi (by rfl) B.z_isinstance boot_isinstance (pa_cons (pv 0) (pa_cons (pe_bltn (v := .ty "bool") (by rfl) B.z_bool PyProof.Rows.boot_bool rfl) pa_nil))) (pe_one (pe_cmpR op_eq (pv 0) (pv 1) (nomark _)))))) pss_nil) (pss_cons (ps_if (pt_val (pe_callB call_isi (by rfl) B.z_isinstance boot_isinstance (pa_cons (pv 1) (pa_cons (pe_bltn (v := .ty "int") (by rfl) B.z_int PyProof.Rows.boot_int rfl) pa_nil)))) (pss_one (ps_ret (pe_and (pe_callB call_isi (by rfl) B.z_isinstance boot_isinstance (pa_cons (pv 0) (pa_cons (pe_bltn (v := .ty "int") (by rfl) B.z_int PyProof.Rows.boot_int rfl) pa_nil))) (pe_and (pe_not (pe_callB call_isi (by rfl) B.z_isinstance boot_isinstance (pa_cons (pv 0) (pa_cons (pe_bltn (v := .ty "bool") (by rfl) B.z_bool PyProof.Rows.boot_bool rfl) pa_nil)))) (pe_one (pe_cmpR op_eq (pv 0) (pv 1) (nomark _))))))) pss_nil) (pss_cons (ps_if (pt_val (pe_callB call_isi (by rfl) B.z_isinstance boot_isinstance (pa_cons (pv 1) (pa_cons (pe_bltn (v := .ty "str") (by rfl) B.z_str PyProof.Rows.boot_str rfl) pa_nil)))) (pss_one (ps_ret (pe_and (pe_callB call_isi (by rfl) B.z_isinstance boot_isinstance (pa_cons (pv 0) (pa_cons (pe_bltn (v := .ty "str") (by rfl) B.z_str PyProof.Rows.boot_str rfl) pa_nil))) (pe_one (pe_cmpR op_eq (pv 0) (pv 1) (nomark _)))))) pss_nil) (pss_cons (ps_if (PW.pt (pw_and (pt_val (pe_callB call_isi (by rfl) B.z_isinstance boot_isinstance (pa_cons (pv 1) (pa_cons (pe_bltn (v := .ty "list") (by rfl) B.z_list PyProof.Rows.boot_list rfl) pa_nil)))) (pw_and1 (pt_not (pt_val (pe_callB call_isi (by rfl) B.z_isinstance boot_isinstance (pa_cons (pv 0) (pa_cons (pe_bltn (v := .ty "list") (by rfl) B.z_list PyProof.Rows.boot_list rfl) pa_nil)))))))) (pss_one (ps_ret pe_bl)) pss_nil) (pss_cons (ps_if (PW.pt (pw_and (pt_val (pe_callB call_isi (by rfl) B.z_isinstance boot_isinstance (pa_cons (pv 1) (pa_cons (pe_bltn (v := .ty "tuple") (by rfl) B.z_tuple PyProof.Rows.boot_tuple rfl) pa_nil)))) (pw_and1 (pt_not (pt_val (pe_callB call_isi (by rfl) B.z_isinstance boot_isinstance (pa_cons (pv 0) (pa_cons (pe_bltn (v := .ty "tuple") (by rfl) B.z_tuple PyProof.Rows.boot_tuple rfl) pa_nil)))))))) (pss_one (ps_ret pe_bl)) pss_nil) (pss_cons (ps_if (pt_cmpR op_ne (pe_callB call_len_seq (by rfl) B.z_len PySem.boot_len (pa_cons (pv 0) pa_nil)) (pe_callB call_len_seq (by rfl) B.z_len PySem.boot_len (pa_cons (pv 1) pa_nil)) (nomark _)) (pss_one (ps_ret pe_bl)) pss_nil) (pss_cons (ps_for PassesOwn.never rfl (pi_range1 (by rfl) B.z_range (pa_cons (pe_callB call_len_seq (by rfl) B.z_len PySem.boot_len (pa_cons (pv 1) pa_nil)) pa_nil)) (pg_name (i := 2) sc_same.nd rfl (.inl rfl)) (pss_one (ps_if (pt_not (pt_val (w_call C G (hr) (pa_cons (pe_ix ix_seq (pv 0) (pv 2) (fun _ _ => rfl)) (pa_cons (pe_ix ix_seq (pv 1) (pv 2) (fun _ _ => rfl)) pa_nil))))) (pss_one (ps_ret pe_bl)) pss_nil))) (pss_one (ps_ret pe_bl)))))))))), fun F a nx rt bk ct_ hp hq hnx => ?_⟩)
  obtain ⟨a, d, ⟨⟩⟩ := a
  have hp : d.dep ≤ n + 1 := hp
  refine gk_cast (G' := [.bw rDt inferInstance a, .bw rDt inferInstance d, .no]) rfl (same_lead (K := K) hq (fun h1 h2 he => ?_))
  exact gk_sameR (K := K) hq h1 h2 he hp
theorem ok_same (B : Bt P w K mg xt) {fa : Addr} {fd : FuncData} (Fn : Fun K "_law_same" "_law_same" st_same fa fd) (C : Cal K mg "_law_same" fa fd ["_law_actual", "_law_due_here"]) : ∀ n : Nat, FnOk P w K mg base CX0 (n + 1) fa fd ["_law_actual", "_law_due_here"] (spSame n)
  | 0 => ok_same0 B Fn
  | n + 1 => ok_sameS B Fn C (ok_same B Fn C n)

abbrev st_m_law_moved : Stmt := top 25
theorem sc_m_law_moved : FnScope ["_law_state", "_law_step", "_law_item", "_law_sign"] ["_law_state", "_law_step"] (defScope st_m_law_moved) := ⟨rfl, rfl, rfl, by decide +kernel, rfl, by decide +kernel, by decide +kernel⟩
set_option maxHeartbeats 4000000 in
theorem ok_m_law_moved (B : Bt P w K mg xt) {fa : Addr} {fd : FuncData} (Fn : Fun K "_law_moved" "_law_moved" st_m_law_moved fa fd) : FnOk P w K mg base (L2.CX P w) 1 fa fd ["_law_state", "_law_step"] (spR xt (Pt.cons .sh rTx inferInstance (Pt.cons .sh rTx inferInstance Pt.nil)) (fun (a : ((List Nat) × (List Nat) × Unit)) => m_law_moved a.1 a.2.1) (fun b => sF rTx b)) := by
  refine ok_R (S' := Unit) 2 Fn sc_m_law_moved rfl rfl (fun _ => .no) (fun _ _ h => nomatch h) (fun _ _ h => nomatch h) (fun cdv A outer s0 H E0_ hr a => ?_)
  obtain ⟨v_law_state, v_law_step, ⟨⟩⟩ := a
  refine ⟨fun _ => List.replicate 4 .no, _, (xb_set 2 (fun v_law_item1 => [sF rTx v_law_state, sF rTx v_law_step, sF rInt v_law_item1, .no]) () (lw_nos rfl) (xn (xintT (xixT (xv 1) xint) B.z_int)) (fun _ => rfl) (fun v_law_item1 =>
(xb_set 3 (fun v_law_sign1 => [sF rTx v_law_state, sF rTx v_law_step, sF rInt v_law_item1, sF rTx v_law_sign1]) () (lw_nos rfl) (xn (xtx [104])) (fun _ => rfl) (fun v_law_sign1 =>
(xb_ifv (S := (List Nat)) (slj := (fun s1 => [sF rTx v_law_state, sF rTx v_law_step, sF rInt v_law_item1, sF rTx s1])) () (let v_law_sign3 := ([114] : List Nat)
(R.ok v_law_sign3)) ((R.ok v_law_sign1)) (lw_nos rfl) (xqc (xeq (xixT (xv 1) xint) (xtx [45])))
(xb_set 3 (fun v_law_sign3 => [sF rTx v_law_state, sF rTx v_law_step, sF rInt v_law_item1, sF rTx v_law_sign3]) () (lw_nos rfl) (xn (xtx [114])) (fun _ => rfl) (fun v_law_sign3 =>
(xb_nil v_law_sign3 (by walk_at "lw"))))
(xb_nil v_law_sign1 (by walk_at "lw")) (fun k => by first | (simp only [R.ok_bind, R.er_bind, R.no_bind, R.ok_thn, R.er_thn, R.no_thn, R.thn_id, R.bind_bind, R.thn_bind, R.bind_ok, R.cond_ok, R.ok_noer, R.bind_thn, R.thn_thn, cond_true, cond_false]; done) | rfl) (fun k => by first | (simp only [R.ok_bind, R.er_bind, R.no_bind, R.ok_thn, R.er_thn, R.no_thn, R.thn_id, R.bind_bind, R.thn_bind, R.bind_ok, R.cond_ok, R.ok_noer, R.bind_thn, R.thn_thn, cond_true, cond_false]; done) | rfl) (fun s1 =>
(xb_ret () (lw_nos rfl) (fun a => a) (fun _ => rfl) (xn (xcat (xcat (xslT (xv 0) xo_none (xo_some (xv 2))) (xv 3)) (xslT (xv 0) (xo_some (xadd (xv 2) xint)) xo_none)))))))))), ?_⟩
  all_goals (show _ = m_law_moved v_law_state v_law_step; unfold m_law_moved; first | (simp only [R.ok_bind, R.er_bind, R.no_bind, R.ok_thn, R.er_thn, R.no_thn, R.thn_id, R.bind_bind, R.thn_bind, R.bind_ok, R.cond_ok, R.ok_noer, R.bind_thn, R.thn_thn, cond_true, cond_false]; done) | rfl)
abbrev st_m_law_ends : Stmt := top 26
theorem sc_m_law_ends : FnScope ["_law_state", "_law_item"] ["_law_state"] (defScope st_m_law_ends) := ⟨rfl, rfl, rfl, by decide +kernel, rfl, by decide +kernel, by decide +kernel⟩
set_option maxHeartbeats 4000000 in
theorem ok_m_law_ends (B : Bt P w K mg xt) {fa : Addr} {fd : FuncData} (Fn : Fun K "_law_ends" "_law_ends" st_m_law_ends fa fd) : FnOk P w K mg base (L2.CX P w) 1 fa fd ["_law_state"] (spR xt (Pt.cons .sh rTx inferInstance Pt.nil) (fun (a : ((List Nat) × Unit)) => m_law_ends a.1) (fun b => sL rTx b)) := by
  refine ok_R (S' := Unit) 1 Fn sc_m_law_ends rfl rfl (fun _ => .no) (fun _ _ h => nomatch h) (fun _ _ h => nomatch h) (fun cdv A outer s0 H E0_ hr a => ?_)
  obtain ⟨v_law_state, ⟨⟩⟩ := a
  refine ⟨fun _ => List.replicate 2 .no, _, (xb_ret () (lw_nos rfl) (fun a => a) (fun _ => rfl) (xnlc (xlc [("_law_item", 1)] (fun x1 => [sF rTx v_law_state, sF rInt x1]) (xi_rng (xlenT (xv 0) B.z_len) B.z_range) (fun _ _ _ _ _ => (xg_name 1)) (fun _ => rfl) (fun _ _ _ _ _ x1 => (xqs1 (xqc (xeq (xixT (xv 0) (xv 1)) (xtx [104]))))) (fun _ _ _ _ _ x1 => (xcat (xtx [45]) (xstrI (xv 1) B.z_str))) (ok := (by decide +kernel : blkC ["_law_state", "_law_item"] (defScope st_m_law_ends) _ [("_law_item", 1)] = true))))), ?_⟩
  all_goals (show _ = m_law_ends v_law_state; unfold m_law_ends; first | (simp only [R.ok_bind, R.er_bind, R.no_bind, R.ok_thn, R.er_thn, R.no_thn, R.thn_id, R.bind_bind, R.thn_bind, R.bind_ok, R.cond_ok, R.ok_noer, R.bind_thn, R.thn_thn, cond_true, cond_false]; done) | rfl)
abbrev st_m_law_order : Stmt := top 27
theorem sc_m_law_order : FnScope ["_law_programs", "_law_numbers_here", "_law_places", "_law_holders", "_law_order_here", "_law_number", "_law_ready", "_law_index", "_law_step", "_law_steps"] ["_law_programs", "_law_numbers_here"] (defScope st_m_law_order) := ⟨rfl, rfl, rfl, by decide +kernel, rfl, by decide +kernel, by decide +kernel⟩
set_option maxHeartbeats 4000000 in
theorem ok_m_law_order (B : Bt P w K mg xt) {fa : Addr} {fd : FuncData} (Fn : Fun K "_law_order" "_law_order" st_m_law_order fa fd) : FnOk P w K mg base (L2.CX P w) 1 fa fd ["_law_programs", "_law_numbers_here"] (spR xt (Pt.cons .sh (rLst (rLst rTx)) inferInstance (Pt.cons .sh (rLst rInt) inferInstance Pt.nil)) (fun (a : ((List (List (List Nat))) × (List Int) × Unit)) => m_law_order a.1 a.2.1) (fun b => sL rInt b)) := by
  refine ok_R (S' := Unit) 8 Fn sc_m_law_order rfl rfl (fun _ => .no) (fun _ _ h => nomatch h) (fun _ _ h => nomatch h) (fun cdv A outer s0 H E0_ hr a => ?_)
  obtain ⟨v_law_programs, v_law_numbers_here, ⟨⟩⟩ := a
  refine ⟨fun _ => List.replicate 10 .no, _, (xb_setLc 2 (fun v_law_places1 => [sF (rLst (rLst rTx)) v_law_programs, sF (rLst rInt) v_law_numbers_here, sL rInt v_law_places1, .no, .no, .no, .no, .no, .no, .no]) () (lw_nos rfl) (xlc [("_law_steps", 9)] (fun x1 => [sF (rLst (rLst rTx)) v_law_programs, sF (rLst rInt) v_law_numbers_here, .no, .no, .no, .no, .no, .no, .no, sF (rLst rTx) x1]) (xi_list (xv 0)) (fun _ _ _ _ _ => (xg_name 9)) (fun _ => rfl) (fun _ _ _ _ _ x1 => xqs0) (fun _ _ _ _ _ x1 => xint) (ok := (by decide +kernel : blkC ["_law_programs", "_law_numbers_here", "_law_places", "_law_holders", "_law_order_here", "_law_number", "_law_ready", "_law_index", "_law_step", "_law_steps"] (defScope st_m_law_order) _ [("_law_steps", 9)] = true))) (fun _ => rfl) (fun v_law_places1 =>
(xb_set 3 (fun v_law_holders1 => [sF (rLst (rLst rTx)) v_law_programs, sF (rLst rInt) v_law_numbers_here, sL rInt v_law_places1, sD rTx rInt v_law_holders1, .no, .no, .no, .no, .no, .no]) () (lw_nos rfl) (xn_dnil (rk := rTx) (rv := rInt)) (fun _ => rfl) (fun v_law_holders1 =>
(xb_set 4 (fun v_law_order_here1 => [sF (rLst (rLst rTx)) v_law_programs, sF (rLst rInt) v_law_numbers_here, sL rInt v_law_places1, sD rTx rInt v_law_holders1, sL rInt v_law_order_here1, .no, .no, .no, .no, .no]) () (lw_nos rfl) (xn_nil (r := rInt)) (fun _ => rfl) (fun v_law_order_here1 =>
(xb_forv (T := ((List Int) × (List Int) × (List ((List Nat) × Int)))) (m_law_order_s1 v_law_programs) (fun t1 => [sF (rLst (rLst rTx)) v_law_programs, sF (rLst rInt) v_law_numbers_here, sL rInt t1.1, sD rTx rInt t1.2.2, sL rInt t1.2.1, .no, .no, .no, .no, .no]) (v_law_places1, v_law_order_here1, v_law_holders1) () (lw_nos rfl) (by walk_at "lw") cnD_po (xi_list (xv 1)) (xg_name 5) (fun t1 x2 => [sF (rLst (rLst rTx)) v_law_programs, sF (rLst rInt) v_law_numbers_here, sL rInt t1.1, sD rTx rInt t1.2.2, sL rInt t1.2.1, sF rInt x2, .no, .no, .no, .no]) (fun _ _ => rfl) (fun t1 x2 => XB.cast
(xb_set 6 (fun v_law_ready1 => [sF (rLst (rLst rTx)) v_law_programs, sF (rLst rInt) v_law_numbers_here, sL rInt t1.1, sD rTx rInt t1.2.2, sL rInt t1.2.1, sF rInt x2, sL rInt v_law_ready1, .no, .no, .no]) () (lw_nos rfl) (xn_nil (r := rInt)) (fun _ => rfl) (fun v_law_ready1 =>
(xb_forv (T := (List Int)) (m_law_order_s2 v_law_programs t1.1 t1.2.2) (fun t2 => [sF (rLst (rLst rTx)) v_law_programs, sF (rLst rInt) v_law_numbers_here, sL rInt t1.1, sD rTx rInt t1.2.2, sL rInt t1.2.1, sF rInt x2, sL rInt t2, .no, .no, .no]) v_law_ready1 () (lw_nos rfl) (by walk_at "lw") cnD_po (xi_rng (xlenL (xv 0) B.z_len) B.z_range) (xg_name 7) (fun t2 x3 => [sF (rLst (rLst rTx)) v_law_programs, sF (rLst rInt) v_law_numbers_here, sL rInt t1.1, sD rTx rInt t1.2.2, sL rInt t1.2.1, sF rInt x2, sL rInt t2, sF rInt x3, .no, .no]) (fun _ _ => rfl) (fun t2 x3 => XB.cast
(xb_ifv (S := (List Int)) (slj := (fun s1 => [sF (rLst (rLst rTx)) v_law_programs, sF (rLst rInt) v_law_numbers_here, sL rInt t1.1, sD rTx rInt t1.2.2, sL rInt t1.2.1, sF rInt x2, sL rInt s1, sF rInt x3, .no, .no])) () (((((ixR v_law_programs x3)).bind fun y4 => ((ixR t1.1 x3)).bind fun y5 => (ixR y4 y5))).bind fun v_law_step1 =>
((((((((ixTR v_law_step1 (0 : Int))).bind fun y6 => R.ok (decide (y6 = ([45] : List Nat))))).bind fun y8 => (cond y8 (R.ok true) (((ixTR v_law_step1 (1 : Int))).bind fun y7 => R.ok (!(getA t1.2.2 y7).isSome))))).bind fun y9 => cond y9 ((appR t2 x3).bind fun v_law_ready5 =>
(R.ok v_law_ready5))
((R.ok t2)))).bind fun s2 =>
let v_law_ready4 := s2
(R.ok s2)) ((R.ok t2)) (lw_nos rfl) (xqc (xlt (xixL (xvm (mu := mL rInt) 2) (xv 7)) (xlenL (xixL (xv 0) (xv 7)) B.z_len)))
(xb_set 8 (fun v_law_step1 => [sF (rLst (rLst rTx)) v_law_programs, sF (rLst rInt) v_law_numbers_here, sL rInt t1.1, sD rTx rInt t1.2.2, sL rInt t1.2.1, sF rInt x2, sL rInt t2, sF rInt x3, sF rTx v_law_step1, .no]) () (lw_nos rfl) (xn (xixL (xixL (xv 0) (xv 7)) (xixL (xvm (mu := mL rInt) 2) (xv 7)))) (fun _ => rfl) (fun v_law_step1 =>
(xb_ifv (S := (List Int)) (slj := (fun s2 => [sF (rLst (rLst rTx)) v_law_programs, sF (rLst rInt) v_law_numbers_here, sL rInt t1.1, sD rTx rInt t1.2.2, sL rInt t1.2.1, sF rInt x2, sL rInt s2, sF rInt x3, sF rTx v_law_step1, .no])) () ((appR t2 x3).bind fun v_law_ready5 =>
(R.ok v_law_ready5)) ((R.ok t2)) (lw_nos rfl) (xqw (xqor (xqc (xeq (xixT (xv 8) xint) (xtx [45]))) (xqor1 (xqc (xdni hr (xixT (xv 8) xint) (xvd 3))))))
(xb_app 6 (fun v_law_ready5 => [sF (rLst (rLst rTx)) v_law_programs, sF (rLst rInt) v_law_numbers_here, sL rInt t1.1, sD rTx rInt t1.2.2, sL rInt t1.2.1, sF rInt x2, sL rInt v_law_ready5, sF rInt x3, sF rTx v_law_step1, .no]) () (lw_nos rfl) rfl (xv 7) (fun _ => rfl) (fun v_law_ready5 =>
(xb_nil v_law_ready5 (by walk_at "lw"))))
(xb_nil t2 (by walk_at "lw")) (fun k => by first | (simp only [R.ok_bind, R.er_bind, R.no_bind, R.ok_thn, R.er_thn, R.no_thn, R.thn_id, R.bind_bind, R.thn_bind, R.bind_ok, R.cond_ok, R.ok_noer, R.bind_thn, R.thn_thn, cond_true, cond_false]; done) | rfl) (fun k => by first | (simp only [R.ok_bind, R.er_bind, R.no_bind, R.ok_thn, R.er_thn, R.no_thn, R.thn_id, R.bind_bind, R.thn_bind, R.bind_ok, R.cond_ok, R.ok_noer, R.bind_thn, R.thn_thn, cond_true, cond_false]; done) | rfl) (fun s2 =>
(xb_nil s2 (by walk_at "lw"))))))
(xb_nil t2 (by walk_at "lw")) (fun k => by first | (simp only [R.ok_bind, R.er_bind, R.no_bind, R.ok_thn, R.er_thn, R.no_thn, R.thn_id, R.bind_bind, R.thn_bind, R.bind_ok, R.cond_ok, R.ok_noer, R.bind_thn, R.thn_thn, cond_true, cond_false]; done) | rfl) (fun k => by first | (simp only [R.ok_bind, R.er_bind, R.no_bind, R.ok_thn, R.er_thn, R.no_thn, R.thn_id, R.bind_bind, R.thn_bind, R.bind_ok, R.cond_ok, R.ok_noer, R.bind_thn, R.thn_thn, cond_true, cond_false]; done) | rfl) (fun s1 =>
(xb_nil s1 (by walk_at "lw")))) (fun k => by unfold m_law_order_s2; first | (simp only [R.ok_bind, R.er_bind, R.no_bind, R.ok_thn, R.er_thn, R.no_thn, R.thn_id, R.bind_bind, R.thn_bind, R.bind_ok, R.cond_ok, R.ok_noer, R.bind_thn, R.thn_thn, cond_true, cond_false]; done) | rfl)) (fun t3 =>
(xb_ifv (S := ((List Int) × (List Int) × (List ((List Nat) × Int)))) (slj := (fun s3 => [sF (rLst (rLst rTx)) v_law_programs, sF (rLst rInt) v_law_numbers_here, sL rInt s3.1, sD rTx rInt s3.2.2, sL rInt s3.2.1, sF rInt x2, sL rInt t3, .no, .no, .no])) () (((((modR x2 (t3.length : Int))).bind fun y11 => (ixR t3 y11))).bind fun v_law_index2 =>
((((ixR v_law_programs v_law_index2)).bind fun y12 => ((ixR t1.1 v_law_index2)).bind fun y13 => (ixR y12 y13))).bind fun v_law_step2 =>
((((ixR t1.1 v_law_index2)).bind fun y14 => R.ok (y14 + (1 : Int)))).bind fun y19 =>
(R.iff (0 ≤ v_law_index2 ∧ v_law_index2 < t1.1.length) (.ok (t1.1.set (v_law_index2).toNat y19))).bind fun v_law_places4 =>
(appR t1.2.1 v_law_index2).bind fun v_law_order_here4 =>
((((((ixTR v_law_step2 (0 : Int))).bind fun y15 => R.ok (decide (y15 = ([45] : List Nat))))).bind fun y18 => cond y18 (((ixTR v_law_step2 (1 : Int))).bind fun y16 =>
(R.iff ((getA t1.2.2 y16).isSome = true) (.ok (dropA t1.2.2 y16))).bind fun v_law_holders5 =>
(R.ok v_law_holders5))
(((ixTR v_law_step2 (1 : Int))).bind fun y17 =>
(putR t1.2.2 y17 v_law_index2).bind fun v_law_holders6 =>
(R.ok v_law_holders6)))).bind fun s4 =>
let v_law_holders4 := s4
(R.ok (v_law_places4, v_law_order_here4, s4))) ((R.ok (t1.1, t1.2.1, t1.2.2))) (lw_nos rfl) (xqc (xned (r := (rLst rInt)) (xvm (mu := mL rInt) 6) hr (xfz (xn_nil (r := rInt)))))
(xb_set 7 (fun v_law_index2 => [sF (rLst (rLst rTx)) v_law_programs, sF (rLst rInt) v_law_numbers_here, sL rInt t1.1, sD rTx rInt t1.2.2, sL rInt t1.2.1, sF rInt x2, sL rInt t3, sF rInt v_law_index2, .no, .no]) () (lw_nos rfl) (xn (xfl (xixL (xvm (mu := mL rInt) 6) (xmod (xintI (xv 5) B.z_int) (xlenL (xvm (mu := mL rInt) 6) B.z_len))))) (fun _ => rfl) (fun v_law_index2 =>
(xb_set 8 (fun v_law_step2 => [sF (rLst (rLst rTx)) v_law_programs, sF (rLst rInt) v_law_numbers_here, sL rInt t1.1, sD rTx rInt t1.2.2, sL rInt t1.2.1, sF rInt x2, sL rInt t3, sF rInt v_law_index2, sF rTx v_law_step2, .no]) () (lw_nos rfl) (xn (xixL (xixL (xv 0) (xv 7)) (xixL (xvm (mu := mL rInt) 2) (xv 7)))) (fun _ => rfl) (fun v_law_step2 =>
(xb_itemO (mk := mL rInt) 2 (fun v_law_places4 => [sF (rLst (rLst rTx)) v_law_programs, sF (rLst rInt) v_law_numbers_here, sL rInt v_law_places4, sD rTx rInt t1.2.2, sL rInt t1.2.1, sF rInt x2, sL rInt t3, sF rInt v_law_index2, sF rTx v_law_step2, .no]) () (lw_nos rfl) rfl (xadd (xixL (xvm (mu := mL rInt) 2) (xv 7)) xint) (xv 7) (fun _ => rfl) (fun v_law_places4 =>
(xb_app 4 (fun v_law_order_here4 => [sF (rLst (rLst rTx)) v_law_programs, sF (rLst rInt) v_law_numbers_here, sL rInt v_law_places4, sD rTx rInt t1.2.2, sL rInt v_law_order_here4, sF rInt x2, sL rInt t3, sF rInt v_law_index2, sF rTx v_law_step2, .no]) () (lw_nos rfl) rfl (xv 7) (fun _ => rfl) (fun v_law_order_here4 =>
(xb_ifv (S := (List ((List Nat) × Int))) (slj := (fun s4 => [sF (rLst (rLst rTx)) v_law_programs, sF (rLst rInt) v_law_numbers_here, sL rInt v_law_places4, sD rTx rInt s4, sL rInt v_law_order_here4, sF rInt x2, sL rInt t3, sF rInt v_law_index2, sF rTx v_law_step2, .no])) () (((ixTR v_law_step2 (1 : Int))).bind fun y16 =>
(R.iff ((getA t1.2.2 y16).isSome = true) (.ok (dropA t1.2.2 y16))).bind fun v_law_holders5 =>
(R.ok v_law_holders5)) (((ixTR v_law_step2 (1 : Int))).bind fun y17 =>
(putR t1.2.2 y17 v_law_index2).bind fun v_law_holders6 =>
(R.ok v_law_holders6)) (lw_nos rfl) (xqc (xeq (xixT (xv 8) xint) (xtx [45])))
(xb_dpop 3 (fun v_law_holders5 => [sF (rLst (rLst rTx)) v_law_programs, sF (rLst rInt) v_law_numbers_here, sL rInt v_law_places4, sD rTx rInt v_law_holders5, sL rInt v_law_order_here4, sF rInt x2, sL rInt t3, sF rInt v_law_index2, sF rTx v_law_step2, .no]) () (lw_nos rfl) rfl (xixT (xv 8) xint) (fun _ => rfl) (fun v_law_holders5 =>
(xb_nil v_law_holders5 (by walk_at "lw"))))
(xb_dput 3 (fun v_law_holders6 => [sF (rLst (rLst rTx)) v_law_programs, sF (rLst rInt) v_law_numbers_here, sL rInt v_law_places4, sD rTx rInt v_law_holders6, sL rInt v_law_order_here4, sF rInt x2, sL rInt t3, sF rInt v_law_index2, sF rTx v_law_step2, .no]) () (lw_nos rfl) rfl hr (xv 7) (xixT (xv 8) xint) (fun _ => rfl) (fun v_law_holders6 =>
(xb_nil v_law_holders6 (by walk_at "lw")))) (fun k => by first | (simp only [R.ok_bind, R.er_bind, R.no_bind, R.ok_thn, R.er_thn, R.no_thn, R.thn_id, R.bind_bind, R.thn_bind, R.bind_ok, R.cond_ok, R.ok_noer, R.bind_thn, R.thn_thn, cond_true, cond_false]; done) | rfl) (fun k => by first | (simp only [R.ok_bind, R.er_bind, R.no_bind, R.ok_thn, R.er_thn, R.no_thn, R.thn_id, R.bind_bind, R.thn_bind, R.bind_ok, R.cond_ok, R.ok_noer, R.bind_thn, R.thn_thn, cond_true, cond_false]; done) | rfl) (fun s4 =>
(xb_nil (v_law_places4, v_law_order_here4, s4) (by walk_at "lw"))))))))))))
(xb_nil (t1.1, t1.2.1, t1.2.2) (by walk_at "lw")) (fun k => by first | (simp only [R.ok_bind, R.er_bind, R.no_bind, R.ok_thn, R.er_thn, R.no_thn, R.thn_id, R.bind_bind, R.thn_bind, R.bind_ok, R.cond_ok, R.ok_noer, R.bind_thn, R.thn_thn, cond_true, cond_false]; done) | rfl) (fun k => by first | (simp only [R.ok_bind, R.er_bind, R.no_bind, R.ok_thn, R.er_thn, R.no_thn, R.thn_id, R.bind_bind, R.thn_bind, R.bind_ok, R.cond_ok, R.ok_noer, R.bind_thn, R.thn_thn, cond_true, cond_false]; done) | rfl) (fun s3 =>
(xb_nil (s3.1, s3.2.1, s3.2.2) (by walk_at "lw")))))))) (fun k => by unfold m_law_order_s1; first | (simp only [R.ok_bind, R.er_bind, R.no_bind, R.ok_thn, R.er_thn, R.no_thn, R.thn_id, R.bind_bind, R.thn_bind, R.bind_ok, R.cond_ok, R.ok_noer, R.bind_thn, R.thn_thn, cond_true, cond_false]; done) | rfl)) (fun t4 =>
(xb_retO 4 () rfl t4.2.1 rfl (lw_nos rfl)))))))))), ?_⟩
  all_goals (show _ = m_law_order v_law_programs v_law_numbers_here; unfold m_law_order; first | (simp only [R.ok_bind, R.er_bind, R.no_bind, R.ok_thn, R.er_thn, R.no_thn, R.thn_id, R.bind_bind, R.thn_bind, R.bind_ok, R.cond_ok, R.ok_noer, R.bind_thn, R.thn_thn, cond_true, cond_false]; done) | rfl)
abbrev st_m_law_free : Stmt := top 28
theorem sc_m_law_free : FnScope ["_law_size", "_law_numbers_here", "_law_state", "_law_steps", "_law_number", "_law_moves", "_law_item"] ["_law_size", "_law_numbers_here"] (defScope st_m_law_free) := ⟨rfl, rfl, rfl, by decide +kernel, rfl, by decide +kernel, by decide +kernel⟩
set_option maxHeartbeats 4000000 in
theorem ok_m_law_free (B : Bt P w K mg xt) {fa : Addr} {fd : FuncData} (Fn : Fun K "_law_free" "_law_free" st_m_law_free fa fd) {a__law_moved : Addr} {d__law_moved : FuncData} (C__law_moved : Cal K mg "_law_moved" a__law_moved d__law_moved ["_law_state", "_law_step"]) (G__law_moved : FnOk P w K mg base (L2.CX P w) 1 a__law_moved d__law_moved ["_law_state", "_law_step"] (spR xt (Pt.cons .sh rTx inferInstance (Pt.cons .sh rTx inferInstance Pt.nil)) (fun (a : ((List Nat) × (List Nat) × Unit)) => m_law_moved a.1 a.2.1) (fun b => sF rTx b))) {a__law_ends : Addr} {d__law_ends : FuncData} (C__law_ends : Cal K mg "_law_ends" a__law_ends d__law_ends ["_law_state"]) (G__law_ends : FnOk P w K mg base (L2.CX P w) 1 a__law_ends d__law_ends ["_law_state"] (spR xt (Pt.cons .sh rTx inferInstance Pt.nil) (fun (a : ((List Nat) × Unit)) => m_law_ends a.1) (fun b => sL rTx b))) : FnOk P w K mg base (L2.CX P w) 2 fa fd ["_law_size", "_law_numbers_here"] (spR xt (Pt.cons .sh rInt inferInstance (Pt.cons .sh (rLst rInt) inferInstance Pt.nil)) (fun (a : (Int × (List Int) × Unit)) => m_law_free a.1 a.2.1) (fun b => sL rTx b)) := by
  refine ok_R (S' := Unit) 5 Fn sc_m_law_free rfl rfl (fun _ => .no) (fun _ _ h => nomatch h) (fun _ _ h => nomatch h) (fun cdv A outer s0 H E0_ hr a => ?_)
  obtain ⟨v_law_size, v_law_numbers_here, ⟨⟩⟩ := a
  refine ⟨fun _ => List.replicate 7 .no, _, (xb_set 2 (fun v_law_state1 => [sF rInt v_law_size, sF (rLst rInt) v_law_numbers_here, sF rTx v_law_state1, .no, .no, .no, .no]) () (lw_nos rfl) (xn (xrep (xtx [46]) (xv 0))) (fun _ => rfl) (fun v_law_state1 =>
(xb_set 3 (fun v_law_steps1 => [sF rInt v_law_size, sF (rLst rInt) v_law_numbers_here, sF rTx v_law_state1, sL rTx v_law_steps1, .no, .no, .no]) () (lw_nos rfl) (xn_nil (r := rTx)) (fun _ => rfl) (fun v_law_steps1 =>
(xb_forv (T := ((List (List Nat)) × (List Nat))) (m_law_free_s1 v_law_size) (fun t1 => [sF rInt v_law_size, sF (rLst rInt) v_law_numbers_here, sF rTx t1.2, sL rTx t1.1, .no, .no, .no]) (v_law_steps1, v_law_state1) () (lw_nos rfl) (by walk_at "lw") cnD_po (xi_list (xv 1)) (xg_name 4) (fun t1 x1 => [sF rInt v_law_size, sF (rLst rInt) v_law_numbers_here, sF rTx t1.2, sL rTx t1.1, sF rInt x1, .no, .no]) (fun _ _ => rfl) (fun t1 x1 => XB.cast
(xb_setLc 5 (fun v_law_moves1 => [sF rInt v_law_size, sF (rLst rInt) v_law_numbers_here, sF rTx t1.2, sL rTx t1.1, sF rInt x1, sL rTx v_law_moves1, .no]) () (lw_nos rfl) (xlc [("_law_item", 6)] (fun x2 => [sF rInt v_law_size, sF (rLst rInt) v_law_numbers_here, sF rTx t1.2, sL rTx t1.1, sF rInt x1, .no, sF rInt x2]) (xi_rng (xv 0) B.z_range) (fun _ _ _ _ _ => (xg_name 6)) (fun _ => rfl) (fun _ _ _ _ _ x2 => (xqs1 (xqc (xeq (xixT (xv 2) (xv 6)) (xtx [46]))))) (fun _ _ _ _ _ x2 => (xcat (xtx [43]) (xstrI (xv 6) B.z_str))) (ok := (by decide +kernel : blkC ["_law_size", "_law_numbers_here", "_law_state", "_law_steps", "_law_number", "_law_moves", "_law_item"] (defScope st_m_law_free) _ [("_law_item", 6)] = true))) (fun _ => rfl) (fun v_law_moves1 =>
(xb_fz 5 [sF rInt v_law_size, sF (rLst rInt) v_law_numbers_here, sF rTx t1.2, sL rTx t1.1, sF rInt x1, sF (rLst rTx) v_law_moves1, .no] rfl rfl (xb_set 5 (fun v_law_moves2 => [sF rInt v_law_size, sF (rLst rInt) v_law_numbers_here, sF rTx t1.2, sL rTx t1.1, sF rInt x1, sF (rLst rTx) v_law_moves2, .no]) () (lw_nos rfl) (xn (xfz (xcatL (xv 5) (xfz (xnlc (xlc [("_law_item", 6)] (fun x3 => [sF rInt v_law_size, sF (rLst rInt) v_law_numbers_here, sF rTx t1.2, sL rTx t1.1, sF rInt x1, sF (rLst rTx) v_law_moves1, sF rInt x3]) (xi_rng (xv 0) B.z_range) (fun _ _ _ _ _ => (xg_name 6)) (fun _ => rfl) (fun _ _ _ _ _ x3 => (xqs1 (xqc (xeq (xixT (xv 2) (xv 6)) (xtx [104]))))) (fun _ _ _ _ _ x3 => (xcat (xtx [45]) (xstrI (xv 6) B.z_str))) (ok := (by decide +kernel : blkC ["_law_size", "_law_numbers_here", "_law_state", "_law_steps", "_law_number", "_law_moves", "_law_item"] (defScope st_m_law_free) _ [("_law_item", 6)] = true)))))))) (fun _ => rfl) (fun v_law_moves2 =>
(xb_ifv (S := ((List (List Nat)) × (List Nat))) (slj := (fun s1 => [sF rInt v_law_size, sF (rLst rInt) v_law_numbers_here, sF rTx s1.2, sL rTx s1.1, sF rInt x1, sF (rLst rTx) v_law_moves2, .no])) () (((((modR x1 (v_law_moves2.length : Int))).bind fun y8 => (ixR v_law_moves2 y8))).bind fun y10 =>
(appR t1.1 y10).bind fun v_law_steps4 =>
((((ixR v_law_steps4 (-(1 : Int)))).bind fun y9 => (m_law_moved t1.2 y9))).bind fun v_law_state4 =>
(R.ok (v_law_steps4, v_law_state4))) ((R.ok (t1.1, t1.2))) (lw_nos rfl) (xqc (xned (r := (rLst rTx)) (xv 5) hr (xfz (xn_nil (r := rTx)))))
(xb_app 3 (fun v_law_steps4 => [sF rInt v_law_size, sF (rLst rInt) v_law_numbers_here, sF rTx t1.2, sL rTx v_law_steps4, sF rInt x1, sF (rLst rTx) v_law_moves2, .no]) () (lw_nos rfl) rfl (xixL (xv 5) (xmod (xintI (xv 4) B.z_int) (xlenL (xv 5) B.z_len))) (fun _ => rfl) (fun v_law_steps4 =>
(xb_set 2 (fun v_law_state4 => [sF rInt v_law_size, sF (rLst rInt) v_law_numbers_here, sF rTx v_law_state4, sL rTx v_law_steps4, sF rInt x1, sF (rLst rTx) v_law_moves2, .no]) () (lw_nos rfl) (xn (xsh (xcall C__law_moved G__law_moved hr (xa_cons (xv 2) (xa_cons (xfl (xixL (xvm (mu := mL rTx) 3) (xneg xint))) xa_nil))))) (fun _ => rfl) (fun v_law_state4 =>
(xb_nil (v_law_steps4, v_law_state4) (by walk_at "lw"))))))
(xb_nil (t1.1, t1.2) (by walk_at "lw")) (fun k => by first | (simp only [R.ok_bind, R.er_bind, R.no_bind, R.ok_thn, R.er_thn, R.no_thn, R.thn_id, R.bind_bind, R.thn_bind, R.bind_ok, R.cond_ok, R.ok_noer, R.bind_thn, R.thn_thn, cond_true, cond_false]; done) | rfl) (fun k => by first | (simp only [R.ok_bind, R.er_bind, R.no_bind, R.ok_thn, R.er_thn, R.no_thn, R.thn_id, R.bind_bind, R.thn_bind, R.bind_ok, R.cond_ok, R.ok_noer, R.bind_thn, R.thn_thn, cond_true, cond_false]; done) | rfl) (fun s1 =>
(xb_nil (s1.1, s1.2) (by walk_at "lw"))))))))) (fun k => by unfold m_law_free_s1; first | (simp only [R.ok_bind, R.er_bind, R.no_bind, R.ok_thn, R.er_thn, R.no_thn, R.thn_id, R.bind_bind, R.thn_bind, R.bind_ok, R.cond_ok, R.ok_noer, R.bind_thn, R.thn_thn, cond_true, cond_false]; done) | rfl)) (fun t2 =>
(xb_ret () (lw_nos rfl) (fun a => a) (fun _ => rfl) (xcatL (xvm (mu := mL rTx) 3) (xfz (xcall C__law_ends G__law_ends hr (xa_cons (xv 2) xa_nil))))))))))), ?_⟩
  all_goals (show _ = m_law_free v_law_size v_law_numbers_here; unfold m_law_free; first | (simp only [R.ok_bind, R.er_bind, R.no_bind, R.ok_thn, R.er_thn, R.no_thn, R.thn_id, R.bind_bind, R.thn_bind, R.bind_ok, R.cond_ok, R.ok_noer, R.bind_thn, R.thn_thn, cond_true, cond_false]; done) | rfl)
abbrev st_m_law_due : Stmt := top 29
theorem sc_m_law_due : FnScope ["_law_programs", "_law_order_here", "_law_places", "_law_holders", "_law_rows", "_law_place", "_law_index", "_law_step", "_law_steps", "_law_item"] ["_law_programs", "_law_order_here"] (defScope st_m_law_due) := ⟨rfl, rfl, rfl, by decide +kernel, rfl, by decide +kernel, by decide +kernel⟩
set_option maxHeartbeats 4000000 in
theorem ok_m_law_due (B : Bt P w K mg xt) {fa : Addr} {fd : FuncData} (Fn : Fun K "_law_due" "_law_due" st_m_law_due fa fd) : FnOk P w K mg base (L2.CX P w) 1 fa fd ["_law_programs", "_law_order_here"] (spR xt (Pt.cons .sh (rLst (rLst rTx)) inferInstance (Pt.cons .sh (rLst rInt) inferInstance Pt.nil)) (fun (a : ((List (List (List Nat))) × (List Int) × Unit)) => m_law_due a.1 a.2.1) (fun b => sF rDt b)) := by
  refine ok_R (S' := Unit) 8 Fn sc_m_law_due rfl rfl (fun _ => .no) (fun _ _ h => nomatch h) (fun _ _ h => nomatch h) (fun cdv A outer s0 H E0_ hr a => ?_)
  obtain ⟨v_law_programs, v_law_order_here, ⟨⟩⟩ := a
  refine ⟨fun _ => List.replicate 10 .no, _, (xb_setLc 2 (fun v_law_places1 => [sF (rLst (rLst rTx)) v_law_programs, sF (rLst rInt) v_law_order_here, sL rInt v_law_places1, .no, .no, .no, .no, .no, .no, .no]) () (lw_nos rfl) (xlc [("_law_steps", 8)] (fun x1 => [sF (rLst (rLst rTx)) v_law_programs, sF (rLst rInt) v_law_order_here, .no, .no, .no, .no, .no, .no, sF (rLst rTx) x1, .no]) (xi_list (xv 0)) (fun _ _ _ _ _ => (xg_name 8)) (fun _ => rfl) (fun _ _ _ _ _ x1 => xqs0) (fun _ _ _ _ _ x1 => xint) (ok := (by decide +kernel : blkC ["_law_programs", "_law_order_here", "_law_places", "_law_holders", "_law_rows", "_law_place", "_law_index", "_law_step", "_law_steps", "_law_item"] (defScope st_m_law_due) _ [("_law_steps", 8)] = true))) (fun _ => rfl) (fun v_law_places1 =>
(xb_set 3 (fun v_law_holders1 => [sF (rLst (rLst rTx)) v_law_programs, sF (rLst rInt) v_law_order_here, sL rInt v_law_places1, sD rTx rInt v_law_holders1, .no, .no, .no, .no, .no, .no]) () (lw_nos rfl) (xn_dnil (rk := rTx) (rv := rInt)) (fun _ => rfl) (fun v_law_holders1 =>
(xb_set 4 (fun v_law_rows1 => [sF (rLst (rLst rTx)) v_law_programs, sF (rLst rInt) v_law_order_here, sL rInt v_law_places1, sD rTx rInt v_law_holders1, sO (mLs (mL rInt) v_law_rows1), .no, .no, .no, .no, .no]) () (lw_nos rfl) (xnlc (xlcO (me := (mL rInt)) [("_law_item", 9)] (fun x2 => [sF (rLst (rLst rTx)) v_law_programs, sF (rLst rInt) v_law_order_here, sL rInt v_law_places1, sD rTx rInt v_law_holders1, .no, .no, .no, .no, .no, sF rInt x2]) (xi_rng xint B.z_range) (fun _ _ _ _ _ => (xg_name 9)) (fun _ => rfl) (fun _ _ _ _ _ x2 => xqs0) (fun _ _ _ _ _ x2 => (xn_nil (r := rInt))) (ok := (by decide +kernel : blkC ["_law_programs", "_law_order_here", "_law_places", "_law_holders", "_law_rows", "_law_place", "_law_index", "_law_step", "_law_steps", "_law_item"] (defScope st_m_law_due) _ [("_law_item", 9)] = true)))) (fun _ => rfl) (fun v_law_rows1 =>
(xb_for (T := ((List Int) × (List ((List Nat) × Int)) × (List (List Int)))) (m_law_due_b1 v_law_programs v_law_order_here) (fun t1 => [sF (rLst (rLst rTx)) v_law_programs, sF (rLst rInt) v_law_order_here, sL rInt t1.1, sD rTx rInt t1.2.1, sO (mLs (mL rInt) t1.2.2), .no, .no, .no, .no, .no]) (v_law_places1, v_law_holders1, v_law_rows1) () (lw_nos rfl) (by walk_at "lw") cnD_po (xi_rng (xlenL (xv 1) B.z_len) B.z_range) (xg_name 5) (fun t1 x3 => [sF (rLst (rLst rTx)) v_law_programs, sF (rLst rInt) v_law_order_here, sL rInt t1.1, sD rTx rInt t1.2.1, sO (mLs (mL rInt) t1.2.2), sF rInt x3, .no, .no, .no, .no]) (fun _ _ => rfl) (fun t1 x3 => XB.cast
(xb_set 6 (fun v_law_index1 => [sF (rLst (rLst rTx)) v_law_programs, sF (rLst rInt) v_law_order_here, sL rInt t1.1, sD rTx rInt t1.2.1, sO (mLs (mL rInt) t1.2.2), sF rInt x3, sF rInt v_law_index1, .no, .no, .no]) () (lw_nos rfl) (xn (xixL (xv 1) (xv 5))) (fun _ => rfl) (fun v_law_index1 =>
(xb_if (S := Unit) (slj := (fun s1 => [sF (rLst (rLst rTx)) v_law_programs, sF (rLst rInt) v_law_order_here, sL rInt t1.1, sD rTx rInt t1.2.1, sO (mLs (mL rInt) t1.2.2), sF rInt x3, sF rInt v_law_index1, .no, .no, .no])) () (lw_nos rfl) (xqw (xqor (xqc (xlt (xv 6) xint)) (xqor (xqc (xge (xv 6) (xlenL (xv 0) B.z_len))) (xqor1 (xqc (xeq (xixL (xvm (mu := mL rInt) 2) (xv 6)) (xlenL (xixL (xv 0) (xv 6)) B.z_len)))))))
(xb_ret () (lw_nos rfl) (fun a => a) (fun _ => rfl) (xn (xdt (xpr (xtx [111, 114, 100, 101, 114]) (xv 5)))))
(xb_nil () (by walk_at "lw")) (fun s1 =>
(xb_set 7 (fun v_law_step1 => [sF (rLst (rLst rTx)) v_law_programs, sF (rLst rInt) v_law_order_here, sL rInt t1.1, sD rTx rInt t1.2.1, sO (mLs (mL rInt) t1.2.2), sF rInt x3, sF rInt v_law_index1, sF rTx v_law_step1, .no, .no]) () (lw_nos rfl) (xn (xixL (xixL (xv 0) (xv 6)) (xixL (xvm (mu := mL rInt) 2) (xv 6)))) (fun _ => rfl) (fun v_law_step1 =>
(xb_if (S := Unit) (slj := (fun s2 => [sF (rLst (rLst rTx)) v_law_programs, sF (rLst rInt) v_law_order_here, sL rInt t1.1, sD rTx rInt t1.2.1, sO (mLs (mL rInt) t1.2.2), sF rInt x3, sF rInt v_law_index1, sF rTx v_law_step1, .no, .no])) () (lw_nos rfl) (xqw (xqand (xqc (xeq (xixT (xv 7) xint) (xtx [43]))) (xqand1 (xqc (xdin hr (xixT (xv 7) xint) (xvd 3))))))
(xb_ret () (lw_nos rfl) (fun a => a) (fun _ => rfl) (xn (xdt (xp3 (xtx [98, 108, 111, 99, 107, 101, 100]) (xv 5) (xintT (xixT (xv 7) xint) B.z_int)))))
(xb_nil () (by walk_at "lw")) (fun s2 =>
(xb_itemO (mk := mL rInt) 2 (fun v_law_places3 => [sF (rLst (rLst rTx)) v_law_programs, sF (rLst rInt) v_law_order_here, sL rInt v_law_places3, sD rTx rInt t1.2.1, sO (mLs (mL rInt) t1.2.2), sF rInt x3, sF rInt v_law_index1, sF rTx v_law_step1, .no, .no]) () (lw_nos rfl) rfl (xadd (xixL (xvm (mu := mL rInt) 2) (xv 6)) xint) (xv 6) (fun _ => rfl) (fun v_law_places3 =>
(xb_if () (lw_nos rfl) (xqc (xeq (xixT (xv 7) xint) (xtx [43])))
(xb_dput 3 (fun v_law_holders3 => [sF (rLst (rLst rTx)) v_law_programs, sF (rLst rInt) v_law_order_here, sL rInt v_law_places3, sD rTx rInt v_law_holders3, sO (mLs (mL rInt) t1.2.2), sF rInt x3, sF rInt v_law_index1, sF rTx v_law_step1, .no, .no]) () (lw_nos rfl) rfl hr (xv 6) (xixT (xv 7) xint) (fun _ => rfl) (fun v_law_holders3 =>
(xb_elApp (r := rInt) 4 (fun v_law_rows3 => [sF (rLst (rLst rTx)) v_law_programs, sF (rLst rInt) v_law_order_here, sL rInt v_law_places3, sD rTx rInt v_law_holders3, sO (mLs (mL rInt) v_law_rows3), sF rInt x3, sF rInt v_law_index1, sF rTx v_law_step1, .no, .no]) () (lw_nos rfl) rfl (xintT (xixT (xv 7) xint) B.z_int) (xv 6) (fun _ => rfl) (fun v_law_rows3 =>
(xb_nil (v_law_places3, v_law_holders3, v_law_rows3) (by walk_at "lw"))))))
(xb_dpop 3 (fun v_law_holders4 => [sF (rLst (rLst rTx)) v_law_programs, sF (rLst rInt) v_law_order_here, sL rInt v_law_places3, sD rTx rInt v_law_holders4, sO (mLs (mL rInt) t1.2.2), sF rInt x3, sF rInt v_law_index1, sF rTx v_law_step1, .no, .no]) () (lw_nos rfl) rfl (xixT (xv 7) xint) (fun _ => rfl) (fun v_law_holders4 =>
(xb_nil (v_law_places3, v_law_holders4, t1.2.2) (by walk_at "lw")))) (fun s => xb_nil s (Lw.refl _))))))))))))) (fun k => by unfold m_law_due_b1; first | (simp only [R.ok_bind, R.er_bind, R.no_bind, R.ok_thn, R.er_thn, R.no_thn, R.thn_id, R.bind_bind, R.thn_bind, R.bind_ok, R.cond_ok, R.ok_noer, R.bind_thn, R.thn_thn, cond_true, cond_false]; done) | rfl)) (fun t2 =>
(xb_for (T := Unit) (m_law_due_b2 v_law_programs v_law_order_here t2.1) (fun t3 => [sF (rLst (rLst rTx)) v_law_programs, sF (rLst rInt) v_law_order_here, sL rInt t2.1, sD rTx rInt t2.2.1, sO (mLs (mL rInt) t2.2.2), .no, .no, .no, .no, .no]) () () (lw_nos rfl) (by walk_at "lw") cnD_po (xi_rng (xlenL (xv 0) B.z_len) B.z_range) (xg_name 6) (fun t3 x4 => [sF (rLst (rLst rTx)) v_law_programs, sF (rLst rInt) v_law_order_here, sL rInt t2.1, sD rTx rInt t2.2.1, sO (mLs (mL rInt) t2.2.2), .no, sF rInt x4, .no, .no, .no]) (fun _ _ => rfl) (fun t3 x4 => XB.cast
(xb_if () (lw_nos rfl) (xqc (xlt (xixL (xvm (mu := mL rInt) 2) (xv 6)) (xlenL (xixL (xv 0) (xv 6)) B.z_len)))
(xb_ret () (lw_nos rfl) (fun a => a) (fun _ => rfl) (xn (xdt (xpr (xtx [111, 114, 100, 101, 114]) (xlenL (xv 1) B.z_len)))))
(xb_nil () (by walk_at "lw")) (fun s => xb_nil s (Lw.refl _))) (fun k => by unfold m_law_due_b2; first | (simp only [R.ok_bind, R.er_bind, R.no_bind, R.ok_thn, R.er_thn, R.no_thn, R.thn_id, R.bind_bind, R.thn_bind, R.bind_ok, R.cond_ok, R.ok_noer, R.bind_thn, R.thn_thn, cond_true, cond_false]; done) | rfl)) (fun t4 =>
(xb_ret () (lw_nos rfl) (fun a => a) (fun _ => rfl) (xn (xdt (xpr (xtx [102, 105, 110, 101]) (xfz (xnlc (xlc [("_law_item", 9)] (fun x5 => [sF (rLst (rLst rTx)) v_law_programs, sF (rLst rInt) v_law_order_here, sL rInt t2.1, sD rTx rInt t2.2.1, sO (mLs (mL rInt) t2.2.2), .no, .no, .no, .no, sF rInt x5]) (xi_rng xint B.z_range) (fun _ _ _ _ _ => (xg_name 9)) (fun _ => rfl) (fun _ _ _ _ _ x5 => (xqs1 (xqc (xned (r := (rLst rInt)) (xixL (xvm (mu := mLs (mL rInt)) 4) (xv 9)) hr (xfz (xn_nil (r := rInt))))))) (fun _ _ _ _ _ x5 => (xpr (xv 9) (xtupL (xixL (xvm (mu := mLs (mL rInt)) 4) (xv 9)) B.z_tuple))) (ok := (by decide +kernel : blkC ["_law_programs", "_law_order_here", "_law_places", "_law_holders", "_law_rows", "_law_place", "_law_index", "_law_step", "_law_steps", "_law_item"] (defScope st_m_law_due) _ [("_law_item", 9)] = true))))))))))))))))))), ?_⟩
  all_goals (show _ = m_law_due v_law_programs v_law_order_here; unfold m_law_due; first | (simp only [R.ok_bind, R.er_bind, R.no_bind, R.ok_thn, R.er_thn, R.no_thn, R.thn_id, R.bind_bind, R.thn_bind, R.bind_ok, R.cond_ok, R.ok_noer, R.bind_thn, R.thn_thn, cond_true, cond_false]; done) | rfl)
abbrev st_m_law_told : Stmt := top 30
theorem sc_m_law_told : FnScope ["_law_programs", "_law_order_here", "e", "_law_found", "_law_item"] ["_law_programs", "_law_order_here"] (defScope st_m_law_told) := ⟨rfl, rfl, rfl, by decide +kernel, rfl, by decide +kernel, by decide +kernel⟩
set_option maxHeartbeats 4000000 in
theorem ok_m_law_told (B : Bt P w K mg xt) {fa : Addr} {fd : FuncData} (Fn : Fun K "_law_told" "_law_told" st_m_law_told fa fd) {a_outcome : Addr} {d_outcome : FuncData} (C_outcome : Cal K mg "outcome" a_outcome d_outcome ["programs", "order"]) (G_outcome : FnOk P w K mg base (L2.CX P w) 5 a_outcome d_outcome ["programs", "order"] (spR xt (Pt.cons .sh (rLst (rLst rTx)) inferInstance (Pt.cons .sh (rLst rInt) inferInstance Pt.nil)) (fun (a : ((List (List (List Nat))) × (List Int) × Unit)) => m_outcome a.1 a.2.1) (fun b => sD rInt (rTup rInt) b))) : FnOk P w K mg base (L2.CX P w) 6 fa fd ["_law_programs", "_law_order_here"] (spR xt (Pt.cons .sh (rLst (rLst rTx)) inferInstance (Pt.cons .sh (rLst rInt) inferInstance Pt.nil)) (fun (a : ((List (List (List Nat))) × (List Int) × Unit)) => m_law_told a.1 a.2.1) (fun b => sF rDt b)) := by
  refine ok_R (S' := Unit) 3 Fn sc_m_law_told rfl rfl (fun _ => .no) (fun _ _ h => nomatch h) (fun _ _ h => nomatch h) (fun cdv A outer s0 H E0_ hr a => ?_)
  obtain ⟨v_law_programs, v_law_order_here, ⟨⟩⟩ := a
  refine ⟨fun _ => List.replicate 5 .no, _, (xb_try (S1 := (List (Int × (List Int)))) (slx := (fun z1 => [.no, .no, .no, .no, .no])) (slj := (fun s1 => [.no, .no, .no, sF (rDk rInt (rTup rInt)) s1, .no])) (fun _ => ()) (fun _ => lw_nos rfl) (fun pn_ xe_ W_ tk_ po_ =>
(xb_set 3 (fun v_law_found2 => [sF (rLst (rLst rTx)) v_law_programs, sF (rLst rInt) v_law_order_here, .no, sF (rDk rInt (rTup rInt)) v_law_found2, .no]) () (by walk_at "lw") (xn (xfz (xcall C_outcome G_outcome hr (xa_cons (xv 0) (xa_cons (xv 1) xa_nil))))) (fun _ => rfl) (fun v_law_found2 =>
(xb_nil v_law_found2 (by walk_at "lw")))))
(xh_as 2 h_BadOrder (M := m_law_told_h2) (fun _ => ()) (fun _ => lw_nos rfl) ⟨rfl, rfl, .inl B.g_BadOrder⟩ B.h_BadOrder (fun _ => rfl) (fun a_ oe_ cls_ d_ pn_ hz_ hv_ er0_ z1 he_ => by
 obtain ⟨kk_, er2⟩ := er0_
 have hk_ : kk_ = 6 := h_BadOrder_k he_
 subst hk_
 exact XB.cast (xb_ret () (by walk_at "lw") (fun a => a) (fun _ => rfl) (xn (xdt (xpr (xtx [111, 114, 100, 101, 114]) (xdI (xxf 2 0 hz_ hv_ B.x_BadOrder.xf B.x_BadOrder.hno ((congrArg (fun l => l[0]?) B.x_BadOrder.flds).trans rfl))))))) (fun k => by unfold m_law_told_h2; first | (simp only [R.ok_bind, R.er_bind, R.no_bind, R.ok_thn, R.er_thn, R.no_thn, R.thn_id, R.bind_bind, R.thn_bind, R.bind_ok, R.cond_ok, R.ok_noer, R.bind_thn, R.thn_thn, cond_true, cond_false]; done) | rfl))
(xh_as 2 h_Blocked (M := m_law_told_h1) (fun _ => ()) (fun _ => lw_nos rfl) ⟨rfl, rfl, .inl B.g_Blocked⟩ B.h_Blocked (fun _ => rfl) (fun a_ oe_ cls_ d_ pn_ hz_ hv_ er0_ z1 he_ => by
 obtain ⟨kk_, er1⟩ := er0_
 have hk_ : kk_ = 7 := h_Blocked_k he_
 subst hk_
 exact XB.cast (xb_ret () (by walk_at "lw") (fun a => a) (fun _ => rfl) (xn (xdt (xp3 (xtx [98, 108, 111, 99, 107, 101, 100]) (xdI (xxf 2 0 hz_ hv_ B.x_Blocked.xf B.x_Blocked.hno ((congrArg (fun l => l[0]?) B.x_Blocked.flds).trans rfl))) (xdI (xxf 2 1 hz_ hv_ B.x_Blocked.xf B.x_Blocked.hno1 ((congrArg (fun l => l[1]?) B.x_Blocked.flds).trans rfl))))))) (fun k => by unfold m_law_told_h1; first | (simp only [R.ok_bind, R.er_bind, R.no_bind, R.ok_thn, R.er_thn, R.no_thn, R.thn_id, R.bind_bind, R.thn_bind, R.bind_ok, R.cond_ok, R.ok_noer, R.bind_thn, R.thn_thn, cond_true, cond_false]; done) | rfl))
(xh_nil (fun _ => ()) (fun _ => lw_nos rfl)))) (fun s1 =>
(xb_if (S := Unit) (slj := (fun s2 => [.no, .no, .no, sF (rDk rInt (rTup rInt)) s1, .no])) () (lw_nos rfl) (xqnot (xqv (xisiD (xv 3) B.z_dict B.z_isinstance)))
(xb_ret () (lw_nos rfl) (fun a => a) (fun _ => rfl) (xn (xdt (xtup (r := rInt) xl_nil))))
(xb_nil () (by walk_at "lw")) (fun s2 =>
(xb_ret () (lw_nos rfl) (fun a => a) (fun _ => rfl) (xn (xdt (xpr (xtx [102, 105, 110, 101]) (xfz (xlcK 3 [("_law_item", 4)] (fun x1 => [.no, .no, .no, sF (rDk rInt (rTup rInt)) s1, sF rInt x1]) rfl (fun _ _ _ _ _ => (xg_name 4)) (fun _ _ => rfl) (fun _ => rfl) (fun _ _ _ _ _ x1 => xqs0) (fun _ _ _ _ _ x1 => (xpr (xv 4) (xdget hr (xv 3) (xv 4)))) (ok := (by decide +kernel : blkC ["_law_programs", "_law_order_here", "e", "_law_found", "_law_item"] (defScope st_m_law_told) _ [("_law_item", 4)] = true)))))))))))), ?_⟩
  all_goals (show _ = m_law_told v_law_programs v_law_order_here; unfold m_law_told; first | (simp only [R.ok_bind, R.er_bind, R.no_bind, R.ok_thn, R.er_thn, R.no_thn, R.thn_id, R.bind_bind, R.thn_bind, R.bind_ok, R.cond_ok, R.ok_noer, R.bind_thn, R.thn_thn, cond_true, cond_false]; done) | rfl)
abbrev st_m_law_fine : Stmt := top 31
theorem sc_m_law_fine : FnScope ["_law_programs", "_law_order_here", "_law_given", "_law_turns", "_law_steps"] ["_law_programs", "_law_order_here"] (defScope st_m_law_fine) := ⟨rfl, rfl, rfl, by decide +kernel, rfl, by decide +kernel, by decide +kernel⟩
set_option maxHeartbeats 4000000 in
theorem ok_m_law_fine (B : Bt P w K mg xt) {fa : Addr} {fd : FuncData} (Fn : Fun K "_law_fine" "_law_fine" st_m_law_fine fa fd) {a__law_same : Addr} {d__law_same : FuncData} (C__law_same : Cal K mg "_law_same" a__law_same d__law_same ["_law_actual", "_law_due_here"]) (G__law_same : FnOk P w K mg base CX0 5 a__law_same d__law_same ["_law_actual", "_law_due_here"] (spSame 4)) {a__law_told : Addr} {d__law_told : FuncData} (C__law_told : Cal K mg "_law_told" a__law_told d__law_told ["_law_programs", "_law_order_here"]) (G__law_told : FnOk P w K mg base (L2.CX P w) 6 a__law_told d__law_told ["_law_programs", "_law_order_here"] (spR xt (Pt.cons .sh (rLst (rLst rTx)) inferInstance (Pt.cons .sh (rLst rInt) inferInstance Pt.nil)) (fun (a : ((List (List (List Nat))) × (List Int) × Unit)) => m_law_told a.1 a.2.1) (fun b => sF rDt b))) {a__law_due : Addr} {d__law_due : FuncData} (C__law_due : Cal K mg "_law_due" a__law_due d__law_due ["_law_programs", "_law_order_here"]) (G__law_due : FnOk P w K mg base (L2.CX P w) 1 a__law_due d__law_due ["_law_programs", "_law_order_here"] (spR xt (Pt.cons .sh (rLst (rLst rTx)) inferInstance (Pt.cons .sh (rLst rInt) inferInstance Pt.nil)) (fun (a : ((List (List (List Nat))) × (List Int) × Unit)) => m_law_due a.1 a.2.1) (fun b => sF rDt b))) : FnOk P w K mg base (L2.CX P w) 7 fa fd ["_law_programs", "_law_order_here"] (spR xt (Pt.cons .sh (rLst (rLst rTx)) inferInstance (Pt.cons .sh (rLst rInt) inferInstance Pt.nil)) (fun (a : ((List (List (List Nat))) × (List Int) × Unit)) => m_law_fine a.1 a.2.1) (fun b => sF rBl b)) := by
  refine ok_R (S' := Unit) 3 Fn sc_m_law_fine rfl rfl (fun _ => .no) (fun _ _ h => nomatch h) (fun _ _ h => nomatch h) (fun cdv A outer s0 H E0_ hr a => ?_)
  obtain ⟨v_law_programs, v_law_order_here, ⟨⟩⟩ := a
  refine ⟨fun _ => List.replicate 5 .no, _, (xb_setLc 2 (fun v_law_given1 => [sF (rLst (rLst rTx)) v_law_programs, sF (rLst rInt) v_law_order_here, sL (rLst rTx) v_law_given1, .no, .no]) () (lw_nos rfl) (xlc [("_law_steps", 4)] (fun x1 => [sF (rLst (rLst rTx)) v_law_programs, sF (rLst rInt) v_law_order_here, .no, .no, sF (rLst rTx) x1]) (xi_list (xv 0)) (fun _ _ _ _ _ => (xg_name 4)) (fun _ => rfl) (fun _ _ _ _ _ x1 => xqs0) (fun _ _ _ _ _ x1 => (xfz (xlistL (xv 4) B.z_list))) (ok := (by decide +kernel : blkC ["_law_programs", "_law_order_here", "_law_given", "_law_turns", "_law_steps"] (defScope st_m_law_fine) _ [("_law_steps", 4)] = true))) (fun _ => rfl) (fun v_law_given1 =>
(xb_fz 2 [sF (rLst (rLst rTx)) v_law_programs, sF (rLst rInt) v_law_order_here, sF (rLst (rLst rTx)) v_law_given1, .no, .no] rfl rfl (xb_set 3 (fun v_law_turns1 => [sF (rLst (rLst rTx)) v_law_programs, sF (rLst rInt) v_law_order_here, sF (rLst (rLst rTx)) v_law_given1, sF (rLst rInt) v_law_turns1, .no]) () (lw_nos rfl) (xn (xfz (xlistL (xv 1) B.z_list))) (fun _ => rfl) (fun v_law_turns1 =>
(xb_if (S := Unit) (slj := (fun s1 => [sF (rLst (rLst rTx)) v_law_programs, sF (rLst rInt) v_law_order_here, sF (rLst (rLst rTx)) v_law_given1, sF (rLst rInt) v_law_turns1, .no])) () (lw_nos rfl) (xqnot (xqv (xsameD C__law_same G__law_same hr (xsh (xcall C__law_told G__law_told hr (xa_cons (xv 2) (xa_cons (xv 3) xa_nil)))) (xsh (xcall C__law_due G__law_due hr (xa_cons (xv 0) (xa_cons (xv 1) xa_nil)))))))
(xb_ret () (lw_nos rfl) (fun a => a) (fun _ => rfl) (xn xbl))
(xb_nil () (by walk_at "lw")) (fun s1 =>
(xb_ret () (lw_nos rfl) (fun a => a) (fun _ => rfl) (xn (xand (xcv (xeqd (r := (rLst (rLst rTx))) (xv 2) hr (xv 0))) (xone (xcv (xeqd (r := (rLst rInt)) (xv 3) hr (xv 1)))))))))))))), ?_⟩
  all_goals (show _ = m_law_fine v_law_programs v_law_order_here; unfold m_law_fine; first | (simp only [R.ok_bind, R.er_bind, R.no_bind, R.ok_thn, R.er_thn, R.no_thn, R.thn_id, R.bind_bind, R.thn_bind, R.bind_ok, R.cond_ok, R.ok_noer, R.bind_thn, R.thn_thn, cond_true, cond_false]; done) | rfl)
abbrev st_m_law : Stmt := top 32
theorem sc_m_law : FnScope ["_law_script", "_law_plan", "_law_size", "_law_programs", "_law_k", "_law_order_here", "_law_place", "_law_turns", "_law_numbers_here", "_law_index"] ["_law_script"] (defScope st_m_law) := ⟨rfl, rfl, rfl, by decide +kernel, rfl, by decide +kernel, by decide +kernel⟩
set_option maxHeartbeats 4000000 in
theorem ok_m_law (B : Bt P w K mg xt) {fa : Addr} {fd : FuncData} (Fn : Fun K "law" "law" st_m_law fa fd) {a__law_numbers : Addr} {d__law_numbers : FuncData} (C__law_numbers : Cal K mg "_law_numbers" a__law_numbers d__law_numbers ["_law_cell_here", "_law_many", "_law_limit"]) (G__law_numbers : FnOk P w K mg base (L2.CX P w) 1 a__law_numbers d__law_numbers ["_law_cell_here", "_law_many", "_law_limit"] (spR xt (Pt.cons .sh rInt inferInstance (Pt.cons .sh rInt inferInstance (Pt.cons .sh rInt inferInstance Pt.nil))) (fun (a : (Int × Int × Int × Unit)) => m_law_numbers a.1 a.2.1 a.2.2.1) (fun b => sL rInt b))) {a__law_cell : Addr} {d__law_cell : FuncData} (C__law_cell : Cal K mg "_law_cell" a__law_cell d__law_cell ["_law_script", "_law_k"]) (G__law_cell : FnOk P w K mg base (L2.CX P w) 1 a__law_cell d__law_cell ["_law_script", "_law_k"] (spR xt (Pt.cons .bo (rScr K) inferInstance (Pt.cons .sh rInt inferInstance Pt.nil)) (fun (a : ((List Int) × Int × Unit)) => m_law_cell a.1 a.2.1) (fun b => sF rInt b))) {a__law_free : Addr} {d__law_free : FuncData} (C__law_free : Cal K mg "_law_free" a__law_free d__law_free ["_law_size", "_law_numbers_here"]) (G__law_free : FnOk P w K mg base (L2.CX P w) 2 a__law_free d__law_free ["_law_size", "_law_numbers_here"] (spR xt (Pt.cons .sh rInt inferInstance (Pt.cons .sh (rLst rInt) inferInstance Pt.nil)) (fun (a : (Int × (List Int) × Unit)) => m_law_free a.1 a.2.1) (fun b => sL rTx b))) {a__law_order : Addr} {d__law_order : FuncData} (C__law_order : Cal K mg "_law_order" a__law_order d__law_order ["_law_programs", "_law_numbers_here"]) (G__law_order : FnOk P w K mg base (L2.CX P w) 1 a__law_order d__law_order ["_law_programs", "_law_numbers_here"] (spR xt (Pt.cons .sh (rLst (rLst rTx)) inferInstance (Pt.cons .sh (rLst rInt) inferInstance Pt.nil)) (fun (a : ((List (List (List Nat))) × (List Int) × Unit)) => m_law_order a.1 a.2.1) (fun b => sL rInt b))) {a__law_fine : Addr} {d__law_fine : FuncData} (C__law_fine : Cal K mg "_law_fine" a__law_fine d__law_fine ["_law_programs", "_law_order_here"]) (G__law_fine : FnOk P w K mg base (L2.CX P w) 7 a__law_fine d__law_fine ["_law_programs", "_law_order_here"] (spR xt (Pt.cons .sh (rLst (rLst rTx)) inferInstance (Pt.cons .sh (rLst rInt) inferInstance Pt.nil)) (fun (a : ((List (List (List Nat))) × (List Int) × Unit)) => m_law_fine a.1 a.2.1) (fun b => sF rBl b))) : FnOk P w K mg base (L2.CX P w) 8 fa fd ["_law_script"] (spR xt (Pt.cons .bo (rScr K) inferInstance Pt.nil) (fun (a : ((List Int) × Unit)) => m_law a.1) (fun b => sF rBl b)) := by
  refine ok_R (S' := Unit) 9 Fn sc_m_law rfl rfl (fun _ => .no) (fun _ _ h => nomatch h) (fun _ _ h => nomatch h) (fun cdv A outer s0 H E0_ hr a => ?_)
  obtain ⟨v_law_script, ⟨⟩⟩ := a
  refine ⟨fun _ => List.replicate 10 .no, _, (xb_set 1 (fun v_law_plan1 => [sB (rScr K) v_law_script, sF (rLst rInt) v_law_plan1, .no, .no, .no, .no, .no, .no, .no, .no]) () (lw_nos rfl) (xn (xfz (xcall C__law_numbers G__law_numbers hr (xa_cons (xsh (xcall C__law_cell G__law_cell hr (xa_cons (xbo (xvb 0)) (xa_cons xint xa_nil)))) (xa_cons xint (xa_cons xint xa_nil)))))) (fun _ => rfl) (fun v_law_plan1 =>
(xb_set 2 (fun v_law_size1 => [sB (rScr K) v_law_script, sF (rLst rInt) v_law_plan1, sF rInt v_law_size1, .no, .no, .no, .no, .no, .no, .no]) () (lw_nos rfl) (xn (xixL (xfz (xn_lst (r := rInt) (xl_cons xint (xl_cons xint (xl_cons xint (xl_cons xint (xl_cons xint (xl_cons xint (xl_cons xint (xl_cons xint (xl_cons xint (xl_cons xint (xl_cons xint (xl_cons xint xl_nil)))))))))))))) (xixL (xv 1) xint))) (fun _ => rfl) (fun v_law_size1 =>
(xb_set 3 (fun v_law_programs1 => [sB (rScr K) v_law_script, sF (rLst rInt) v_law_plan1, sF rInt v_law_size1, sL (rLst rTx) v_law_programs1, .no, .no, .no, .no, .no, .no]) () (lw_nos rfl) (xn_nil (r := (rLst rTx))) (fun _ => rfl) (fun v_law_programs1 =>
(xb_forv (T := (List (List (List Nat)))) (m_law_s1 v_law_script v_law_size1) (fun t1 => [sB (rScr K) v_law_script, sF (rLst rInt) v_law_plan1, sF rInt v_law_size1, sL (rLst rTx) t1, .no, .no, .no, .no, .no, .no]) v_law_programs1 () (lw_nos rfl) (by walk_at "lw") cnD_po (xi_rng (xixL (xfz (xn_lst (r := rInt) (xl_cons xint (xl_cons xint (xl_cons xint (xl_cons xint (xl_cons xint (xl_cons xint (xl_cons xint (xl_cons xint (xl_cons xint (xl_cons xint (xl_cons xint (xl_cons xint xl_nil)))))))))))))) (xixL (xv 1) xint)) B.z_range) (xg_name 4) (fun t1 x1 => [sB (rScr K) v_law_script, sF (rLst rInt) v_law_plan1, sF rInt v_law_size1, sL (rLst rTx) t1, sF rInt x1, .no, .no, .no, .no, .no]) (fun _ _ => rfl) (fun t1 x1 => XB.cast
(xb_set 8 (fun v_law_numbers_here1 => [sB (rScr K) v_law_script, sF (rLst rInt) v_law_plan1, sF rInt v_law_size1, sL (rLst rTx) t1, sF rInt x1, .no, .no, .no, sF (rLst rInt) v_law_numbers_here1, .no]) () (lw_nos rfl) (xn (xfz (xcall C__law_numbers G__law_numbers hr (xa_cons (xsh (xcall C__law_cell G__law_cell hr (xa_cons (xbo (xvb 0)) (xa_cons (xadd xint (xv 4)) xa_nil)))) (xa_cons xint (xa_cons xint xa_nil)))))) (fun _ => rfl) (fun v_law_numbers_here1 =>
(xb_app 3 (fun v_law_programs3 => [sB (rScr K) v_law_script, sF (rLst rInt) v_law_plan1, sF rInt v_law_size1, sL (rLst rTx) v_law_programs3, sF rInt x1, .no, .no, .no, sF (rLst rInt) v_law_numbers_here1, .no]) () (lw_nos rfl) rfl (xfz (xcall C__law_free G__law_free hr (xa_cons (xv 2) (xa_cons (xfz (xslL (xv 8) xo_none (xo_some (xmod (xixL (xv 8) xint) (xadd (xmul xint (xv 2)) xint))))) xa_nil)))) (fun _ => rfl) (fun v_law_programs3 =>
(xb_nil v_law_programs3 (by walk_at "lw")))))) (fun k => by unfold m_law_s1; first | (simp only [R.ok_bind, R.er_bind, R.no_bind, R.ok_thn, R.er_thn, R.no_thn, R.thn_id, R.bind_bind, R.thn_bind, R.bind_ok, R.cond_ok, R.ok_noer, R.bind_thn, R.thn_thn, cond_true, cond_false]; done) | rfl)) (fun t2 =>
(xb_fz 3 [sB (rScr K) v_law_script, sF (rLst rInt) v_law_plan1, sF rInt v_law_size1, sF (rLst (rLst rTx)) t2, .no, .no, .no, .no, .no, .no] rfl rfl (xb_set 5 (fun v_law_order_here1 => [sB (rScr K) v_law_script, sF (rLst rInt) v_law_plan1, sF rInt v_law_size1, sF (rLst (rLst rTx)) t2, .no, sF (rLst rInt) v_law_order_here1, .no, .no, .no, .no]) () (lw_nos rfl) (xn (xfz (xcall C__law_order G__law_order hr (xa_cons (xv 3) (xa_cons (xfz (xcall C__law_numbers G__law_numbers hr (xa_cons (xsh (xcall C__law_cell G__law_cell hr (xa_cons (xbo (xvb 0)) (xa_cons xint xa_nil)))) (xa_cons xint (xa_cons xint xa_nil))))) xa_nil))))) (fun _ => rfl) (fun v_law_order_here1 =>
(xb_if (S := Unit) (slj := (fun s1 => [sB (rScr K) v_law_script, sF (rLst rInt) v_law_plan1, sF rInt v_law_size1, sF (rLst (rLst rTx)) t2, .no, sF (rLst rInt) v_law_order_here1, .no, .no, .no, .no])) () (lw_nos rfl) (xqnot (xqv (xsh (xcall C__law_fine G__law_fine hr (xa_cons (xv 3) (xa_cons (xv 5) xa_nil))))))
(xb_ret () (lw_nos rfl) (fun a => a) (fun _ => rfl) (xn xbl))
(xb_nil () (by walk_at "lw")) (fun s1 =>
(xb_set 6 (fun v_law_place1 => [sB (rScr K) v_law_script, sF (rLst rInt) v_law_plan1, sF rInt v_law_size1, sF (rLst (rLst rTx)) t2, .no, sF (rLst rInt) v_law_order_here1, sF rInt v_law_place1, .no, .no, .no]) () (lw_nos rfl) (xn (xadd (xmul xint (xixL (xv 1) xint)) (xixL (xv 1) xint))) (fun _ => rfl) (fun v_law_place1 =>
(xb_set 7 (fun v_law_turns1 => [sB (rScr K) v_law_script, sF (rLst rInt) v_law_plan1, sF rInt v_law_size1, sF (rLst (rLst rTx)) t2, .no, sF (rLst rInt) v_law_order_here1, sF rInt v_law_place1, sF (rLst rInt) v_law_turns1, .no, .no]) () (lw_nos rfl) (xn (xv 5)) (fun _ => rfl) (fun v_law_turns1 =>
(xb_ifv (S := (Int × (List Int))) (slj := (fun s2 => [sB (rScr K) v_law_script, sF (rLst rInt) v_law_plan1, sF rInt v_law_size1, sF (rLst (rLst rTx)) t2, .no, sF (rLst rInt) v_law_order_here1, sF rInt s2.1, sF (rLst rInt) s2.2, .no, .no])) () (((modR v_law_place1 ((v_law_order_here1.length : Int) + (1 : Int)))).bind fun v_law_place3 =>
((((lenR ([(0 : Int), (1 : Int), (2 : Int), (3 : Int), (-(1 : Int)), (t2.length : Int)] : List Int))).bind fun y22 => ((ixR v_law_plan1 (4 : Int))).bind fun y23 => (ixR y22 y23))).bind fun v_law_index1 =>
((((((lenR ([v_law_index1] : List Int))).bind fun y24 => (catLR (cutL v_law_order_here1 (none : Option Int) (some v_law_place3)) y24))).bind fun y29 => ((((((((((ixR v_law_plan1 (5 : Int))).bind fun y25 => (modR y25 (2 : Int)))).bind fun y26 => R.ok (v_law_place3 + y26))).bind fun y27 => R.ok (some y27))).bind fun y28 => R.ok (cutL v_law_order_here1 y28 (none : Option Int)))).bind fun y30 => (catLR y29 y30))).bind fun v_law_turns3 =>
(R.ok (v_law_place3, v_law_turns3))) (((((((ixR v_law_plan1 (4 : Int))).bind fun y31 => R.ok (decide (y31 < (9 : Int))))).bind fun y32 => cond y32 (let v_law_turns5 := (cutL v_law_order_here1 (none : Option Int) (some v_law_place1))
(R.ok v_law_turns5))
((R.ok v_law_turns1)))).bind fun s3 =>
let v_law_turns4 := s3
(R.ok (v_law_place1, s3))) (lw_nos rfl) (xqc (xlt (xixL (xv 1) xint) xint))
(xb_set 6 (fun v_law_place3 => [sB (rScr K) v_law_script, sF (rLst rInt) v_law_plan1, sF rInt v_law_size1, sF (rLst (rLst rTx)) t2, .no, sF (rLst rInt) v_law_order_here1, sF rInt v_law_place3, sF (rLst rInt) v_law_turns1, .no, .no]) () (lw_nos rfl) (xn (xmod (xv 6) (xadd (xlenL (xv 5) B.z_len) xint))) (fun _ => rfl) (fun v_law_place3 =>
(xb_set 9 (fun v_law_index1 => [sB (rScr K) v_law_script, sF (rLst rInt) v_law_plan1, sF rInt v_law_size1, sF (rLst (rLst rTx)) t2, .no, sF (rLst rInt) v_law_order_here1, sF rInt v_law_place3, sF (rLst rInt) v_law_turns1, .no, sF rInt v_law_index1]) () (lw_nos rfl) (xn (xixL (xfz (xn_lst (r := rInt) (xl_cons xint (xl_cons xint (xl_cons xint (xl_cons xint (xl_cons (xneg xint) (xl_cons (xlenL (xv 3) B.z_len) xl_nil)))))))) (xixL (xv 1) xint))) (fun _ => rfl) (fun v_law_index1 =>
(xb_set 7 (fun v_law_turns3 => [sB (rScr K) v_law_script, sF (rLst rInt) v_law_plan1, sF rInt v_law_size1, sF (rLst (rLst rTx)) t2, .no, sF (rLst rInt) v_law_order_here1, sF rInt v_law_place3, sF (rLst rInt) v_law_turns3, .no, sF rInt v_law_index1]) () (lw_nos rfl) (xn (xfz (xcatL (xfz (xcatL (xfz (xslL (xv 5) xo_none (xo_some (xv 6)))) (xfz (xn_lst (r := rInt) (xl_cons (xv 9) xl_nil))))) (xfz (xslL (xv 5) (xo_some (xadd (xv 6) (xmod (xixL (xv 1) xint) xint))) xo_none))))) (fun _ => rfl) (fun v_law_turns3 =>
(xb_nil (v_law_place3, v_law_turns3) (by walk_at "lw"))))))))
(xb_ifv (S := (List Int)) (slj := (fun s3 => [sB (rScr K) v_law_script, sF (rLst rInt) v_law_plan1, sF rInt v_law_size1, sF (rLst (rLst rTx)) t2, .no, sF (rLst rInt) v_law_order_here1, sF rInt v_law_place1, sF (rLst rInt) s3, .no, .no])) () (let v_law_turns5 := (cutL v_law_order_here1 (none : Option Int) (some v_law_place1))
(R.ok v_law_turns5)) ((R.ok v_law_turns1)) (lw_nos rfl) (xqc (xlt (xixL (xv 1) xint) xint))
(xb_set 7 (fun v_law_turns5 => [sB (rScr K) v_law_script, sF (rLst rInt) v_law_plan1, sF rInt v_law_size1, sF (rLst (rLst rTx)) t2, .no, sF (rLst rInt) v_law_order_here1, sF rInt v_law_place1, sF (rLst rInt) v_law_turns5, .no, .no]) () (lw_nos rfl) (xn (xfz (xslL (xv 5) xo_none (xo_some (xv 6))))) (fun _ => rfl) (fun v_law_turns5 =>
(xb_nil v_law_turns5 (by walk_at "lw"))))
(xb_nil v_law_turns1 (by walk_at "lw")) (fun k => by first | (simp only [R.ok_bind, R.er_bind, R.no_bind, R.ok_thn, R.er_thn, R.no_thn, R.thn_id, R.bind_bind, R.thn_bind, R.bind_ok, R.cond_ok, R.ok_noer, R.bind_thn, R.thn_thn, cond_true, cond_false]; done) | rfl) (fun k => by first | (simp only [R.ok_bind, R.er_bind, R.no_bind, R.ok_thn, R.er_thn, R.no_thn, R.thn_id, R.bind_bind, R.thn_bind, R.bind_ok, R.cond_ok, R.ok_noer, R.bind_thn, R.thn_thn, cond_true, cond_false]; done) | rfl) (fun s3 =>
(xb_nil (v_law_place1, s3) (by walk_at "lw")))) (fun k => by first | (simp only [R.ok_bind, R.er_bind, R.no_bind, R.ok_thn, R.er_thn, R.no_thn, R.thn_id, R.bind_bind, R.thn_bind, R.bind_ok, R.cond_ok, R.ok_noer, R.bind_thn, R.thn_thn, cond_true, cond_false]; done) | rfl) (fun k => by first | (simp only [R.ok_bind, R.er_bind, R.no_bind, R.ok_thn, R.er_thn, R.no_thn, R.thn_id, R.bind_bind, R.thn_bind, R.bind_ok, R.cond_ok, R.ok_noer, R.bind_thn, R.thn_thn, cond_true, cond_false]; done) | rfl) (fun s2 =>
(xb_ret () (lw_nos rfl) (fun a => a) (fun _ => rfl) (xn (xand (xsh (xcall C__law_fine G__law_fine hr (xa_cons (xv 3) (xa_cons (xv 7) xa_nil)))) (xone (xsh (xcall C__law_fine G__law_fine hr (xa_cons (xv 3) (xa_cons (xv 5) xa_nil))))))))))))))))))))))))))), ?_⟩
  all_goals (show _ = m_law v_law_script; unfold m_law; first | (simp only [R.ok_bind, R.er_bind, R.no_bind, R.ok_thn, R.er_thn, R.no_thn, R.thn_id, R.bind_bind, R.thn_bind, R.bind_ok, R.cond_ok, R.ok_noer, R.bind_thn, R.thn_thn, cond_true, cond_false]; done) | rfl)
end
end Zk21
namespace Zk21
open PySem L2 LK LKX LKB LJ PyProof.Rows PySem.Spec
abbrev in_BadStep : Stmt := inClass (top 2) 0
set_option maxHeartbeats 4000000 in
theorem ini_BadStep {P : Program} {w : World} {K : PySem.W.Frag} {mg : Str → Option Value} {C fI cda cc : Addr} (S : SupC P K mg C fI "__init__" "BadStep.__init__" (defArgs in_BadStep) (defBody in_BadStep) (defScope in_BadStep) cda cc) (hno : PySem.W.findIn K (.ref C) "step" = some none) : Ini1 P w K mg C fI "step" :=
  fun A Rr h g d t os e t0 u X gl bl lim room he hke hq => init1 (s0 := .Pass ⟨0, 0, 0, 0⟩) S X gl bl lim room he hke (fun kV doc pm an ct => .of_eq rfl) rfl rfl (by decide) rfl rfl rfl rfl rfl (by decide +kernel) rfl rfl hno (fun L => rfl) (fun L => rfl) (fun L => rfl) (fun L => rfl) (fun L => rfl) (by decide) (by decide) hq
abbrev in_TakenTwice : Stmt := inClass (top 3) 0
set_option maxHeartbeats 4000000 in
theorem ini_TakenTwice {P : Program} {w : World} {K : PySem.W.Frag} {mg : Str → Option Value} {C fI cda cc : Addr} (S : SupC P K mg C fI "__init__" "TakenTwice.__init__" (defArgs in_TakenTwice) (defBody in_TakenTwice) (defScope in_TakenTwice) cda cc) (hno : PySem.W.findIn K (.ref C) "item" = some none) : Ini1 P w K mg C fI "item" :=
  fun A Rr h g d t os e t0 u X gl bl lim room he hke hq => init1 (s0 := .Pass ⟨0, 0, 0, 0⟩) S X gl bl lim room he hke (fun kV doc pm an ct => .of_eq rfl) rfl rfl (by decide) rfl rfl rfl rfl rfl (by decide +kernel) rfl rfl hno (fun L => rfl) (fun L => rfl) (fun L => rfl) (fun L => rfl) (fun L => rfl) (by decide) (by decide) hq
abbrev in_NotHeld : Stmt := inClass (top 4) 0
set_option maxHeartbeats 4000000 in
theorem ini_NotHeld {P : Program} {w : World} {K : PySem.W.Frag} {mg : Str → Option Value} {C fI cda cc : Addr} (S : SupC P K mg C fI "__init__" "NotHeld.__init__" (defArgs in_NotHeld) (defBody in_NotHeld) (defScope in_NotHeld) cda cc) (hno : PySem.W.findIn K (.ref C) "item" = some none) : Ini1 P w K mg C fI "item" :=
  fun A Rr h g d t os e t0 u X gl bl lim room he hke hq => init1 (s0 := .Pass ⟨0, 0, 0, 0⟩) S X gl bl lim room he hke (fun kV doc pm an ct => .of_eq rfl) rfl rfl (by decide) rfl rfl rfl rfl rfl (by decide +kernel) rfl rfl hno (fun L => rfl) (fun L => rfl) (fun L => rfl) (fun L => rfl) (fun L => rfl) (by decide) (by decide) hq
abbrev in_BadSize : Stmt := inClass (top 5) 0
set_option maxHeartbeats 4000000 in
theorem ini_BadSize {P : Program} {w : World} {K : PySem.W.Frag} {mg : Str → Option Value} {C fI cda cc : Addr} (S : SupC P K mg C fI "__init__" "BadSize.__init__" (defArgs in_BadSize) (defBody in_BadSize) (defScope in_BadSize) cda cc) (hno : PySem.W.findIn K (.ref C) "count" = some none) : Ini1 P w K mg C fI "count" :=
  fun A Rr h g d t os e t0 u X gl bl lim room he hke hq => init1 (s0 := .Pass ⟨0, 0, 0, 0⟩) S X gl bl lim room he hke (fun kV doc pm an ct => .of_eq rfl) rfl rfl (by decide) rfl rfl rfl rfl rfl (by decide +kernel) rfl rfl hno (fun L => rfl) (fun L => rfl) (fun L => rfl) (fun L => rfl) (fun L => rfl) (by decide) (by decide) hq
abbrev in_BadProgram : Stmt := inClass (top 6) 0
set_option maxHeartbeats 4000000 in
theorem ini_BadProgram {P : Program} {w : World} {K : PySem.W.Frag} {mg : Str → Option Value} {C fI cda cc : Addr} (S : SupC P K mg C fI "__init__" "BadProgram.__init__" (defArgs in_BadProgram) (defBody in_BadProgram) (defScope in_BadProgram) cda cc) (hno : PySem.W.findIn K (.ref C) "index" = some none) : Ini1 P w K mg C fI "index" :=
  fun A Rr h g d t os e t0 u X gl bl lim room he hke hq => init1 (s0 := .Pass ⟨0, 0, 0, 0⟩) S X gl bl lim room he hke (fun kV doc pm an ct => .of_eq rfl) rfl rfl (by decide) rfl rfl rfl rfl rfl (by decide +kernel) rfl rfl hno (fun L => rfl) (fun L => rfl) (fun L => rfl) (fun L => rfl) (fun L => rfl) (by decide) (by decide) hq
abbrev in_BadOrder : Stmt := inClass (top 7) 0
set_option maxHeartbeats 4000000 in
theorem ini_BadOrder {P : Program} {w : World} {K : PySem.W.Frag} {mg : Str → Option Value} {C fI cda cc : Addr} (S : SupC P K mg C fI "__init__" "BadOrder.__init__" (defArgs in_BadOrder) (defBody in_BadOrder) (defScope in_BadOrder) cda cc) (hno : PySem.W.findIn K (.ref C) "place" = some none) : Ini1 P w K mg C fI "place" :=
  fun A Rr h g d t os e t0 u X gl bl lim room he hke hq => init1 (s0 := .Pass ⟨0, 0, 0, 0⟩) S X gl bl lim room he hke (fun kV doc pm an ct => .of_eq rfl) rfl rfl (by decide) rfl rfl rfl rfl rfl (by decide +kernel) rfl rfl hno (fun L => rfl) (fun L => rfl) (fun L => rfl) (fun L => rfl) (fun L => rfl) (by decide) (by decide) hq
abbrev in_Blocked : Stmt := inClass (top 8) 0
set_option maxHeartbeats 4000000 in
theorem ini_Blocked {P : Program} {w : World} {K : PySem.W.Frag} {mg : Str → Option Value} {C fI cda cc : Addr} (S : SupC P K mg C fI "__init__" "Blocked.__init__" (defArgs in_Blocked) (defBody in_Blocked) (defScope in_Blocked) cda cc) (hno : PySem.W.findIn K (.ref C) "place" = some none) (hno' : PySem.W.findIn K (.ref C) "item" = some none) : Ini2 P w K mg C fI "place" "item" :=
  fun A Rr h g d t os e t0 u u' X gl bl lim room he hke hq => init2 S X gl bl lim room he hke (fun kV doc pm an ct => .of_eq rfl) rfl rfl (by decide) (by decide) (by decide) rfl rfl rfl rfl rfl rfl (by decide +kernel) rfl rfl hno hno' (fun L => rfl) (fun L => rfl) (fun L => rfl) (fun L => rfl) (fun L => rfl) (fun L => rfl) (by decide) (by decide) (by decide) hq
def spLaw (K : PySem.W.Frag) : Sp := fun vs H Q _ => ∃ (a : Addr) (ns : List Int), vs = [.ref a] ∧ SqL K H a (ns.map V.int) ∧ ns.length ≤ 63 ∧ ∀ H', Q (.bl true) H'
theorem law_imp {K : PySem.W.Frag} {xt : XT} (ht : ∀ ns : List Int, ns.length ≤ 63 → m_law ns = .ok true) : ∀ vs H Q E, spLaw K vs H Q E → (spR xt (Pt.cons .bo (rScr K) inferInstance Pt.nil) (fun (a : ((List Int) × Unit)) => m_law a.1) (fun b => sF rBl b)) vs H Q E := by
  rintro vs H Q E ⟨a, ns, rfl, hS, hl, q⟩
  refine ⟨H, (ns, ()), Ex.refl H, ⟨_, [], rfl, ⟨a, rfl, hS⟩, rfl⟩, ?_, fun b hb v F' H' g => ?_, fun er he => ?_⟩
  · show m_law ns ≠ _
    rw [ht ns hl]; exact fun z => nomatch z
  · have hb : m_law ns = .ok b := hb
    rw [ht ns hl] at hb; cases hb
    obtain ⟨v', e, ok⟩ := g.fz_at (i := 0) rfl
    cases Option.some.inj (Option.some.inj e)
    rw [show _ = _ from ok]; exact q H'
  · have he : m_law ns = .er er := he
    rw [ht ns hl] at he; cases he
set_option maxHeartbeats 8000000 in
theorem all_mk {l : PySem.W.OpenLaw} (hprog : l.prog = PySem.Challenge.pw_lockrules_k21_outcomes_of_interleavings) {w : World} {K : PySem.W.Frag} {h : Heap} {mg : Str → Option Value} {fa f0 f1 f2 f3 f4 f5 f6 f7 f8 f9 f10 f11 f12 f13 f14 f15 f16 f17 f18 e1 e2 e3 e4 e5 e6 e7 fi1 cda1 cc1 fi2 cda2 cc2 fi3 cda3 cc3 fi4 cda4 cc4 fi5 cda5 cc5 fi6 cda6 cc6 fi7 cda7 cc7 : Addr} (ht : ∀ ns : List Int, ns.length ≤ 63 → m_law ns = .ok true) (X : K.In h) (G : h.Ns mainGlobals mg) (hfa : mg "law" = some (.ref fa))
    {od0 an0 od1 an1 od2 an2 od3 an3 od4 an4 od5 an5 od6 an6 od7 an7 od8 an8 od9 an9 od10 an10 od11 an11 od12 an12 od13 an13 od14 an14 od15 an15 od16 an16 od17 an17 od18 an18 : Option Addr} {sl0 sl1 sl2 sl3 sl4 sl5 sl6 sl7 sl8 sl9 sl10 sl11 sl12 sl13 sl14 sl15 sl16 sl17 sl18 : Array (Option Value)} {oc0 kV0 dc0 pm0 cd0 ct0 oc1 kV1 dc1 pm1 cd1 ct1 oc2 kV2 dc2 pm2 cd2 ct2 oc3 kV3 dc3 pm3 cd3 ct3 oc4 kV4 dc4 pm4 cd4 ct4 oc5 kV5 dc5 pm5 cd5 ct5 oc6 kV6 dc6 pm6 cd6 ct6 oc7 kV7 dc7 pm7 cd7 ct7 oc8 kV8 dc8 pm8 cd8 ct8 oc9 kV9 dc9 pm9 cd9 ct9 oc10 kV10 dc10 pm10 cd10 ct10 oc11 kV11 dc11 pm11 cd11 ct11 oc12 kV12 dc12 pm12 cd12 ct12 oc13 kV13 dc13 pm13 cd13 ct13 oc14 kV14 dc14 pm14 cd14 ct14 oc15 kV15 dc15 pm15 cd15 ct15 oc16 kV16 dc16 pm16 cd16 ct16 oc17 kV17 dc17 pm17 cd17 ct17 oc18 kV18 dc18 pm18 cd18 ct18 : Value}
    {nm1 q1 : Str} {N1 : Addr} {bs1 bm1 sub1 : List Value} {sn1 : List Str} {ab1 : Bool} {col1 : Option Bool} {dd1 : Option Addr} {kq0_1 kq1_1 kq2_1 kq3_1 kq5_1 : Option Value}
    {io1 ik1 id1 ip1 it1 ic1 il1 : Value} {ia1 ib1 icd1 ild1 : Option Addr} {is1 ics1 ils1 : Array (Option Value)} {vs1 : Array Value} {file1 : Str} {tf1 : Tok}
    {nm2 q2 : Str} {N2 : Addr} {bs2 bm2 sub2 : List Value} {sn2 : List Str} {ab2 : Bool} {col2 : Option Bool} {dd2 : Option Addr} {kq0_2 kq1_2 kq2_2 kq3_2 kq5_2 : Option Value}
    {io2 ik2 id2 ip2 it2 ic2 il2 : Value} {ia2 ib2 icd2 ild2 : Option Addr} {is2 ics2 ils2 : Array (Option Value)} {vs2 : Array Value} {file2 : Str} {tf2 : Tok}
    {nm3 q3 : Str} {N3 : Addr} {bs3 bm3 sub3 : List Value} {sn3 : List Str} {ab3 : Bool} {col3 : Option Bool} {dd3 : Option Addr} {kq0_3 kq1_3 kq2_3 kq3_3 kq5_3 : Option Value}
    {io3 ik3 id3 ip3 it3 ic3 il3 : Value} {ia3 ib3 icd3 ild3 : Option Addr} {is3 ics3 ils3 : Array (Option Value)} {vs3 : Array Value} {file3 : Str} {tf3 : Tok}
    {nm4 q4 : Str} {N4 : Addr} {bs4 bm4 sub4 : List Value} {sn4 : List Str} {ab4 : Bool} {col4 : Option Bool} {dd4 : Option Addr} {kq0_4 kq1_4 kq2_4 kq3_4 kq5_4 : Option Value}
    {io4 ik4 id4 ip4 it4 ic4 il4 : Value} {ia4 ib4 icd4 ild4 : Option Addr} {is4 ics4 ils4 : Array (Option Value)} {vs4 : Array Value} {file4 : Str} {tf4 : Tok}
    {nm5 q5 : Str} {N5 : Addr} {bs5 bm5 sub5 : List Value} {sn5 : List Str} {ab5 : Bool} {col5 : Option Bool} {dd5 : Option Addr} {kq0_5 kq1_5 kq2_5 kq3_5 kq5_5 : Option Value}
    {io5 ik5 id5 ip5 it5 ic5 il5 : Value} {ia5 ib5 icd5 ild5 : Option Addr} {is5 ics5 ils5 : Array (Option Value)} {vs5 : Array Value} {file5 : Str} {tf5 : Tok}
    {nm6 q6 : Str} {N6 : Addr} {bs6 bm6 sub6 : List Value} {sn6 : List Str} {ab6 : Bool} {col6 : Option Bool} {dd6 : Option Addr} {kq0_6 kq1_6 kq2_6 kq3_6 kq5_6 : Option Value}
    {io6 ik6 id6 ip6 it6 ic6 il6 : Value} {ia6 ib6 icd6 ild6 : Option Addr} {is6 ics6 ils6 : Array (Option Value)} {vs6 : Array Value} {file6 : Str} {tf6 : Tok}
    {nm7 q7 : Str} {N7 : Addr} {bs7 bm7 sub7 : List Value} {sn7 : List Str} {ab7 : Bool} {col7 : Option Bool} {dd7 : Option Addr} {kq0_7 kq1_7 kq2_7 kq3_7 kq5_7 : Option Value}
    {io7 ik7 id7 ip7 it7 ic7 il7 : Value} {ia7 ib7 icd7 ild7 : Option Addr} {is7 ics7 ils7 : Array (Option Value)} {vs7 : Array Value} {file7 : Str} {tf7 : Tok}
    {tk_LARGEST : Tok}
    {tk_DIGITS : Tok}
    (a0 : PySem.W.nsIn K mainGlobals "start" = some (some (.ref f0)))
    (l0 : K.lookup f0 = some ⟨oc0, od0, .func (PySem.W.fnOf "start" "start" (defArgs st_m_start) (defBody st_m_start) (defScope st_m_start) .none kV0 dc0 pm0 an0 cd0 ct0), sl0⟩) (c0 : PySem.W.codeIn K cd0 "start" = true) (k0 : PySem.W.keepIn K (.ref f0) = true)
    (a1 : PySem.W.nsIn K mainGlobals "is_step" = some (some (.ref f1)))
    (l1 : K.lookup f1 = some ⟨oc1, od1, .func (PySem.W.fnOf "is_step" "is_step" (defArgs st_m_is_step) (defBody st_m_is_step) (defScope st_m_is_step) .none kV1 dc1 pm1 an1 cd1 ct1), sl1⟩) (c1 : PySem.W.codeIn K cd1 "is_step" = true) (k1 : PySem.W.keepIn K (.ref f1) = true)
    (a2 : PySem.W.nsIn K mainGlobals "after" = some (some (.ref f2)))
    (l2 : K.lookup f2 = some ⟨oc2, od2, .func (PySem.W.fnOf "after" "after" (defArgs st_m_after) (defBody st_m_after) (defScope st_m_after) .none kV2 dc2 pm2 an2 cd2 ct2), sl2⟩) (c2 : PySem.W.codeIn K cd2 "after" = true) (k2 : PySem.W.keepIn K (.ref f2) = true)
    (a3 : PySem.W.nsIn K mainGlobals "replay" = some (some (.ref f3)))
    (l3 : K.lookup f3 = some ⟨oc3, od3, .func (PySem.W.fnOf "replay" "replay" (defArgs st_m_replay) (defBody st_m_replay) (defScope st_m_replay) .none kV3 dc3 pm3 an3 cd3 ct3), sl3⟩) (c3 : PySem.W.codeIn K cd3 "replay" = true) (k3 : PySem.W.keepIn K (.ref f3) = true)
    (a4 : PySem.W.nsIn K mainGlobals "check_programs" = some (some (.ref f4)))
    (l4 : K.lookup f4 = some ⟨oc4, od4, .func (PySem.W.fnOf "check_programs" "check_programs" (defArgs st_m_check_programs) (defBody st_m_check_programs) (defScope st_m_check_programs) .none kV4 dc4 pm4 an4 cd4 ct4), sl4⟩) (c4 : PySem.W.codeIn K cd4 "check_programs" = true) (k4 : PySem.W.keepIn K (.ref f4) = true)
    (a5 : PySem.W.nsIn K mainGlobals "holds" = some (some (.ref f5)))
    (l5 : K.lookup f5 = some ⟨oc5, od5, .func (PySem.W.fnOf "holds" "holds" (defArgs st_m_holds) (defBody st_m_holds) (defScope st_m_holds) .none kV5 dc5 pm5 an5 cd5 ct5), sl5⟩) (c5 : PySem.W.codeIn K cd5 "holds" = true) (k5 : PySem.W.keepIn K (.ref f5) = true)
    (a6 : PySem.W.nsIn K mainGlobals "is_free" = some (some (.ref f6)))
    (l6 : K.lookup f6 = some ⟨oc6, od6, .func (PySem.W.fnOf "is_free" "is_free" (defArgs st_m_is_free) (defBody st_m_is_free) (defScope st_m_is_free) .none kV6 dc6 pm6 an6 cd6 ct6), sl6⟩) (c6 : PySem.W.codeIn K cd6 "is_free" = true) (k6 : PySem.W.keepIn K (.ref f6) = true)
    (a7 : PySem.W.nsIn K mainGlobals "outcome" = some (some (.ref f7)))
    (l7 : K.lookup f7 = some ⟨oc7, od7, .func (PySem.W.fnOf "outcome" "outcome" (defArgs st_m_outcome) (defBody st_m_outcome) (defScope st_m_outcome) .none kV7 dc7 pm7 an7 cd7 ct7), sl7⟩) (c7 : PySem.W.codeIn K cd7 "outcome" = true) (k7 : PySem.W.keepIn K (.ref f7) = true)
    (a8 : PySem.W.nsIn K mainGlobals "_law_cell" = some (some (.ref f8)))
    (l8 : K.lookup f8 = some ⟨oc8, od8, .func (PySem.W.fnOf "_law_cell" "_law_cell" (defArgs st_m_law_cell) (defBody st_m_law_cell) (defScope st_m_law_cell) .none kV8 dc8 pm8 an8 cd8 ct8), sl8⟩) (c8 : PySem.W.codeIn K cd8 "_law_cell" = true) (k8 : PySem.W.keepIn K (.ref f8) = true)
    (a9 : PySem.W.nsIn K mainGlobals "_law_numbers" = some (some (.ref f9)))
    (l9 : K.lookup f9 = some ⟨oc9, od9, .func (PySem.W.fnOf "_law_numbers" "_law_numbers" (defArgs st_m_law_numbers) (defBody st_m_law_numbers) (defScope st_m_law_numbers) .none kV9 dc9 pm9 an9 cd9 ct9), sl9⟩) (c9 : PySem.W.codeIn K cd9 "_law_numbers" = true) (k9 : PySem.W.keepIn K (.ref f9) = true)
    (a10 : PySem.W.nsIn K mainGlobals "_law_same" = some (some (.ref f10)))
    (l10 : K.lookup f10 = some ⟨oc10, od10, .func (PySem.W.fnOf "_law_same" "_law_same" (defArgs st_same) (defBody st_same) (defScope st_same) .none kV10 dc10 pm10 an10 cd10 ct10), sl10⟩) (c10 : PySem.W.codeIn K cd10 "_law_same" = true) (k10 : PySem.W.keepIn K (.ref f10) = true)
    (a11 : PySem.W.nsIn K mainGlobals "_law_moved" = some (some (.ref f11)))
    (l11 : K.lookup f11 = some ⟨oc11, od11, .func (PySem.W.fnOf "_law_moved" "_law_moved" (defArgs st_m_law_moved) (defBody st_m_law_moved) (defScope st_m_law_moved) .none kV11 dc11 pm11 an11 cd11 ct11), sl11⟩) (c11 : PySem.W.codeIn K cd11 "_law_moved" = true) (k11 : PySem.W.keepIn K (.ref f11) = true)
    (a12 : PySem.W.nsIn K mainGlobals "_law_ends" = some (some (.ref f12)))
    (l12 : K.lookup f12 = some ⟨oc12, od12, .func (PySem.W.fnOf "_law_ends" "_law_ends" (defArgs st_m_law_ends) (defBody st_m_law_ends) (defScope st_m_law_ends) .none kV12 dc12 pm12 an12 cd12 ct12), sl12⟩) (c12 : PySem.W.codeIn K cd12 "_law_ends" = true) (k12 : PySem.W.keepIn K (.ref f12) = true)
    (a13 : PySem.W.nsIn K mainGlobals "_law_order" = some (some (.ref f13)))
    (l13 : K.lookup f13 = some ⟨oc13, od13, .func (PySem.W.fnOf "_law_order" "_law_order" (defArgs st_m_law_order) (defBody st_m_law_order) (defScope st_m_law_order) .none kV13 dc13 pm13 an13 cd13 ct13), sl13⟩) (c13 : PySem.W.codeIn K cd13 "_law_order" = true) (k13 : PySem.W.keepIn K (.ref f13) = true)
    (a14 : PySem.W.nsIn K mainGlobals "_law_free" = some (some (.ref f14)))
    (l14 : K.lookup f14 = some ⟨oc14, od14, .func (PySem.W.fnOf "_law_free" "_law_free" (defArgs st_m_law_free) (defBody st_m_law_free) (defScope st_m_law_free) .none kV14 dc14 pm14 an14 cd14 ct14), sl14⟩) (c14 : PySem.W.codeIn K cd14 "_law_free" = true) (k14 : PySem.W.keepIn K (.ref f14) = true)
    (a15 : PySem.W.nsIn K mainGlobals "_law_due" = some (some (.ref f15)))
    (l15 : K.lookup f15 = some ⟨oc15, od15, .func (PySem.W.fnOf "_law_due" "_law_due" (defArgs st_m_law_due) (defBody st_m_law_due) (defScope st_m_law_due) .none kV15 dc15 pm15 an15 cd15 ct15), sl15⟩) (c15 : PySem.W.codeIn K cd15 "_law_due" = true) (k15 : PySem.W.keepIn K (.ref f15) = true)
    (a16 : PySem.W.nsIn K mainGlobals "_law_told" = some (some (.ref f16)))
    (l16 : K.lookup f16 = some ⟨oc16, od16, .func (PySem.W.fnOf "_law_told" "_law_told" (defArgs st_m_law_told) (defBody st_m_law_told) (defScope st_m_law_told) .none kV16 dc16 pm16 an16 cd16 ct16), sl16⟩) (c16 : PySem.W.codeIn K cd16 "_law_told" = true) (k16 : PySem.W.keepIn K (.ref f16) = true)
    (a17 : PySem.W.nsIn K mainGlobals "_law_fine" = some (some (.ref f17)))
    (l17 : K.lookup f17 = some ⟨oc17, od17, .func (PySem.W.fnOf "_law_fine" "_law_fine" (defArgs st_m_law_fine) (defBody st_m_law_fine) (defScope st_m_law_fine) .none kV17 dc17 pm17 an17 cd17 ct17), sl17⟩) (c17 : PySem.W.codeIn K cd17 "_law_fine" = true) (k17 : PySem.W.keepIn K (.ref f17) = true)
    (a18 : PySem.W.nsIn K mainGlobals "law" = some (some (.ref f18)))
    (l18 : K.lookup f18 = some ⟨oc18, od18, .func (PySem.W.fnOf "law" "law" (defArgs st_m_law) (defBody st_m_law) (defScope st_m_law) .none kV18 dc18 pm18 an18 cd18 ct18), sl18⟩) (c18 : PySem.W.codeIn K cd18 "law" = true) (k18 : PySem.W.keepIn K (.ref f18) = true)
    (ga1 : PySem.W.nsIn K mainGlobals "BadStep" = some (some (.ref e1)))
    (ga2 : PySem.W.nsIn K mainGlobals "TakenTwice" = some (some (.ref e2)))
    (ga3 : PySem.W.nsIn K mainGlobals "NotHeld" = some (some (.ref e3)))
    (ga4 : PySem.W.nsIn K mainGlobals "BadSize" = some (some (.ref e4)))
    (ga5 : PySem.W.nsIn K mainGlobals "BadProgram" = some (some (.ref e5)))
    (ga6 : PySem.W.nsIn K mainGlobals "BadOrder" = some (some (.ref e6)))
    (ga7 : PySem.W.nsIn K mainGlobals "Blocked" = some (some (.ref e7)))
    (xl1 : K.lookup e1 = some (excClassObj nm1 q1 e1 N1 bs1 bm1 true sn1 sub1 ab1 col1 dd1 kq0_1 kq1_1 kq2_1 kq3_1 kq5_1 "ValueError.__new__"))
    (xr1 : PySem.HandSPX.refsVE bm1 = true)
    (xs1 : PySem.W.findIn K (.ref e1) "__setattr__" = some (some (.builtin "object.__setattr__")))
    (xe1 : PySem.W.subIn K (.ref e1) (.type "BaseException") = some true)
    (xt1 : PySem.W.typeIn K (.ref e1) = some (.type "type"))
    (xk1 : PySem.W.keepIn K (.ref e1) = true)
    (xi1 : PySem.W.findIn K (.ref e1) "__init__" = some (some (.ref fi1)))
    (xj1 : PySem.W.typeIn K (.ref fi1) = some (.type "function"))
    (xf1 : K.lookup fi1 = some ⟨io1, ia1, .func (PySem.W.ksFn "__init__" "BadStep.__init__" (defArgs in_BadStep) (defBody in_BadStep) (defScope in_BadStep) .none ik1 id1 ip1 ib1 (.ref cda1) it1 cc1), is1⟩)
    (xc1 : PySem.W.codeIn K (.ref cda1) "BadStep.__init__" = true)
    (xm1 : K.lookup cda1 = some ⟨ic1, icd1, .fields vs1, ics1⟩)
    (xn1 : vs1[2]? = some (.str file1 tf1))
    (xo1 : ((PySem.Challenge.pw_lockrules_k21_outcomes_of_interleavings.main.file : Str) == file1) = true)
    (xp1 : K.lookup cc1 = some ⟨il1, ild1, .cell (some (.ref e1)), ils1⟩)
    (xq1 : PySem.W.ks_superIn K e1 e1 "__init__" = some (some (.builtin "ValueError.__init__")))
    (xu1 : PySem.W.mroIn K e1 (.ref e1) = some true)
    (xv1 : PySem.W.subIn K (.ref e1) (.type "ValueError") = some true)
    (xw1 : PySem.W.findIn K (.ref e1) "step" = some none)
    (xA1 : PySem.W.findIn K (.ref e1) "__getattribute__" = some (some (.builtin "BaseException.__getattribute__")))
    (xB1 : PySem.W.findIn K (.ref e1) "__getattr__" = some none)
    (xC1 : PySem.W.hasDictIn K e1 = true)
    (xD1 : PySem.W.findIn K (.ref e1) "__class__" = some (some (.builtin "object.__class__")))
    (xE1 : PySem.W.mroIn K e1 (.type "object") = some true)
    (xl2 : K.lookup e2 = some (excClassObj nm2 q2 e2 N2 bs2 bm2 true sn2 sub2 ab2 col2 dd2 kq0_2 kq1_2 kq2_2 kq3_2 kq5_2 "ValueError.__new__"))
    (xr2 : PySem.HandSPX.refsVE bm2 = true)
    (xs2 : PySem.W.findIn K (.ref e2) "__setattr__" = some (some (.builtin "object.__setattr__")))
    (xe2 : PySem.W.subIn K (.ref e2) (.type "BaseException") = some true)
    (xt2 : PySem.W.typeIn K (.ref e2) = some (.type "type"))
    (xk2 : PySem.W.keepIn K (.ref e2) = true)
    (xi2 : PySem.W.findIn K (.ref e2) "__init__" = some (some (.ref fi2)))
    (xj2 : PySem.W.typeIn K (.ref fi2) = some (.type "function"))
    (xf2 : K.lookup fi2 = some ⟨io2, ia2, .func (PySem.W.ksFn "__init__" "TakenTwice.__init__" (defArgs in_TakenTwice) (defBody in_TakenTwice) (defScope in_TakenTwice) .none ik2 id2 ip2 ib2 (.ref cda2) it2 cc2), is2⟩)
    (xc2 : PySem.W.codeIn K (.ref cda2) "TakenTwice.__init__" = true)
    (xm2 : K.lookup cda2 = some ⟨ic2, icd2, .fields vs2, ics2⟩)
    (xn2 : vs2[2]? = some (.str file2 tf2))
    (xo2 : ((PySem.Challenge.pw_lockrules_k21_outcomes_of_interleavings.main.file : Str) == file2) = true)
    (xp2 : K.lookup cc2 = some ⟨il2, ild2, .cell (some (.ref e2)), ils2⟩)
    (xq2 : PySem.W.ks_superIn K e2 e2 "__init__" = some (some (.builtin "ValueError.__init__")))
    (xu2 : PySem.W.mroIn K e2 (.ref e2) = some true)
    (xv2 : PySem.W.subIn K (.ref e2) (.type "ValueError") = some true)
    (xw2 : PySem.W.findIn K (.ref e2) "item" = some none)
    (xA2 : PySem.W.findIn K (.ref e2) "__getattribute__" = some (some (.builtin "BaseException.__getattribute__")))
    (xB2 : PySem.W.findIn K (.ref e2) "__getattr__" = some none)
    (xC2 : PySem.W.hasDictIn K e2 = true)
    (xD2 : PySem.W.findIn K (.ref e2) "__class__" = some (some (.builtin "object.__class__")))
    (xE2 : PySem.W.mroIn K e2 (.type "object") = some true)
    (xl3 : K.lookup e3 = some (excClassObj nm3 q3 e3 N3 bs3 bm3 true sn3 sub3 ab3 col3 dd3 kq0_3 kq1_3 kq2_3 kq3_3 kq5_3 "ValueError.__new__"))
    (xr3 : PySem.HandSPX.refsVE bm3 = true)
    (xs3 : PySem.W.findIn K (.ref e3) "__setattr__" = some (some (.builtin "object.__setattr__")))
    (xe3 : PySem.W.subIn K (.ref e3) (.type "BaseException") = some true)
    (xt3 : PySem.W.typeIn K (.ref e3) = some (.type "type"))
    (xk3 : PySem.W.keepIn K (.ref e3) = true)
    (xi3 : PySem.W.findIn K (.ref e3) "__init__" = some (some (.ref fi3)))
    (xj3 : PySem.W.typeIn K (.ref fi3) = some (.type "function"))
    (xf3 : K.lookup fi3 = some ⟨io3, ia3, .func (PySem.W.ksFn "__init__" "NotHeld.__init__" (defArgs in_NotHeld) (defBody in_NotHeld) (defScope in_NotHeld) .none ik3 id3 ip3 ib3 (.ref cda3) it3 cc3), is3⟩)
    (xc3 : PySem.W.codeIn K (.ref cda3) "NotHeld.__init__" = true)
    (xm3 : K.lookup cda3 = some ⟨ic3, icd3, .fields vs3, ics3⟩)
    (xn3 : vs3[2]? = some (.str file3 tf3))
    (xo3 : ((PySem.Challenge.pw_lockrules_k21_outcomes_of_interleavings.main.file : Str) == file3) = true)
    (xp3 : K.lookup cc3 = some ⟨il3, ild3, .cell (some (.ref e3)), ils3⟩)
    (xq3 : PySem.W.ks_superIn K e3 e3 "__init__" = some (some (.builtin "ValueError.__init__")))
    (xu3 : PySem.W.mroIn K e3 (.ref e3) = some true)
    (xv3 : PySem.W.subIn K (.ref e3) (.type "ValueError") = some true)
    (xw3 : PySem.W.findIn K (.ref e3) "item" = some none)
    (xA3 : PySem.W.findIn K (.ref e3) "__getattribute__" = some (some (.builtin "BaseException.__getattribute__")))
    (xB3 : PySem.W.findIn K (.ref e3) "__getattr__" = some none)
    (xC3 : PySem.W.hasDictIn K e3 = true)
    (xD3 : PySem.W.findIn K (.ref e3) "__class__" = some (some (.builtin "object.__class__")))
    (xE3 : PySem.W.mroIn K e3 (.type "object") = some true)
    (xl4 : K.lookup e4 = some (excClassObj nm4 q4 e4 N4 bs4 bm4 true sn4 sub4 ab4 col4 dd4 kq0_4 kq1_4 kq2_4 kq3_4 kq5_4 "ValueError.__new__"))
    (xr4 : PySem.HandSPX.refsVE bm4 = true)
    (xs4 : PySem.W.findIn K (.ref e4) "__setattr__" = some (some (.builtin "object.__setattr__")))
    (xe4 : PySem.W.subIn K (.ref e4) (.type "BaseException") = some true)
    (xt4 : PySem.W.typeIn K (.ref e4) = some (.type "type"))
    (xk4 : PySem.W.keepIn K (.ref e4) = true)
    (xi4 : PySem.W.findIn K (.ref e4) "__init__" = some (some (.ref fi4)))
    (xj4 : PySem.W.typeIn K (.ref fi4) = some (.type "function"))
    (xf4 : K.lookup fi4 = some ⟨io4, ia4, .func (PySem.W.ksFn "__init__" "BadSize.__init__" (defArgs in_BadSize) (defBody in_BadSize) (defScope in_BadSize) .none ik4 id4 ip4 ib4 (.ref cda4) it4 cc4), is4⟩)
    (xc4 : PySem.W.codeIn K (.ref cda4) "BadSize.__init__" = true)
    (xm4 : K.lookup cda4 = some ⟨ic4, icd4, .fields vs4, ics4⟩)
    (xn4 : vs4[2]? = some (.str file4 tf4))
    (xo4 : ((PySem.Challenge.pw_lockrules_k21_outcomes_of_interleavings.main.file : Str) == file4) = true)
    (xp4 : K.lookup cc4 = some ⟨il4, ild4, .cell (some (.ref e4)), ils4⟩)
    (xq4 : PySem.W.ks_superIn K e4 e4 "__init__" = some (some (.builtin "ValueError.__init__")))
    (xu4 : PySem.W.mroIn K e4 (.ref e4) = some true)
    (xv4 : PySem.W.subIn K (.ref e4) (.type "ValueError") = some true)
    (xw4 : PySem.W.findIn K (.ref e4) "count" = some none)
    (xA4 : PySem.W.findIn K (.ref e4) "__getattribute__" = some (some (.builtin "BaseException.__getattribute__")))
    (xB4 : PySem.W.findIn K (.ref e4) "__getattr__" = some none)
    (xC4 : PySem.W.hasDictIn K e4 = true)
    (xD4 : PySem.W.findIn K (.ref e4) "__class__" = some (some (.builtin "object.__class__")))
    (xE4 : PySem.W.mroIn K e4 (.type "object") = some true)
    (xl5 : K.lookup e5 = some (excClassObj nm5 q5 e5 N5 bs5 bm5 true sn5 sub5 ab5 col5 dd5 kq0_5 kq1_5 kq2_5 kq3_5 kq5_5 "ValueError.__new__"))
    (xr5 : PySem.HandSPX.refsVE bm5 = true)
    (xs5 : PySem.W.findIn K (.ref e5) "__setattr__" = some (some (.builtin "object.__setattr__")))
    (xe5 : PySem.W.subIn K (.ref e5) (.type "BaseException") = some true)
    (xt5 : PySem.W.typeIn K (.ref e5) = some (.type "type"))
    (xk5 : PySem.W.keepIn K (.ref e5) = true)
    (xi5 : PySem.W.findIn K (.ref e5) "__init__" = some (some (.ref fi5)))
    (xj5 : PySem.W.typeIn K (.ref fi5) = some (.type "function"))
    (xf5 : K.lookup fi5 = some ⟨io5, ia5, .func (PySem.W.ksFn "__init__" "BadProgram.__init__" (defArgs in_BadProgram) (defBody in_BadProgram) (defScope in_BadProgram) .none ik5 id5 ip5 ib5 (.ref cda5) it5 cc5), is5⟩)
    (xc5 : PySem.W.codeIn K (.ref cda5) "BadProgram.__init__" = true)
    (xm5 : K.lookup cda5 = some ⟨ic5, icd5, .fields vs5, ics5⟩)
    (xn5 : vs5[2]? = some (.str file5 tf5))
    (xo5 : ((PySem.Challenge.pw_lockrules_k21_outcomes_of_interleavings.main.file : Str) == file5) = true)
    (xp5 : K.lookup cc5 = some ⟨il5, ild5, .cell (some (.ref e5)), ils5⟩)
    (xq5 : PySem.W.ks_superIn K e5 e5 "__init__" = some (some (.builtin "ValueError.__init__")))
    (xu5 : PySem.W.mroIn K e5 (.ref e5) = some true)
    (xv5 : PySem.W.subIn K (.ref e5) (.type "ValueError") = some true)
    (xw5 : PySem.W.findIn K (.ref e5) "index" = some none)
    (xA5 : PySem.W.findIn K (.ref e5) "__getattribute__" = some (some (.builtin "BaseException.__getattribute__")))
    (xB5 : PySem.W.findIn K (.ref e5) "__getattr__" = some none)
    (xC5 : PySem.W.hasDictIn K e5 = true)
    (xD5 : PySem.W.findIn K (.ref e5) "__class__" = some (some (.builtin "object.__class__")))
    (xE5 : PySem.W.mroIn K e5 (.type "object") = some true)
    (xl6 : K.lookup e6 = some (excClassObj nm6 q6 e6 N6 bs6 bm6 true sn6 sub6 ab6 col6 dd6 kq0_6 kq1_6 kq2_6 kq3_6 kq5_6 "ValueError.__new__"))
    (xr6 : PySem.HandSPX.refsVE bm6 = true)
    (xs6 : PySem.W.findIn K (.ref e6) "__setattr__" = some (some (.builtin "object.__setattr__")))
    (xe6 : PySem.W.subIn K (.ref e6) (.type "BaseException") = some true)
    (xt6 : PySem.W.typeIn K (.ref e6) = some (.type "type"))
    (xk6 : PySem.W.keepIn K (.ref e6) = true)
    (xi6 : PySem.W.findIn K (.ref e6) "__init__" = some (some (.ref fi6)))
    (xj6 : PySem.W.typeIn K (.ref fi6) = some (.type "function"))
    (xf6 : K.lookup fi6 = some ⟨io6, ia6, .func (PySem.W.ksFn "__init__" "BadOrder.__init__" (defArgs in_BadOrder) (defBody in_BadOrder) (defScope in_BadOrder) .none ik6 id6 ip6 ib6 (.ref cda6) it6 cc6), is6⟩)
    (xc6 : PySem.W.codeIn K (.ref cda6) "BadOrder.__init__" = true)
    (xm6 : K.lookup cda6 = some ⟨ic6, icd6, .fields vs6, ics6⟩)
    (xn6 : vs6[2]? = some (.str file6 tf6))
    (xo6 : ((PySem.Challenge.pw_lockrules_k21_outcomes_of_interleavings.main.file : Str) == file6) = true)
    (xp6 : K.lookup cc6 = some ⟨il6, ild6, .cell (some (.ref e6)), ils6⟩)
    (xq6 : PySem.W.ks_superIn K e6 e6 "__init__" = some (some (.builtin "ValueError.__init__")))
    (xu6 : PySem.W.mroIn K e6 (.ref e6) = some true)
    (xv6 : PySem.W.subIn K (.ref e6) (.type "ValueError") = some true)
    (xw6 : PySem.W.findIn K (.ref e6) "place" = some none)
    (xA6 : PySem.W.findIn K (.ref e6) "__getattribute__" = some (some (.builtin "BaseException.__getattribute__")))
    (xB6 : PySem.W.findIn K (.ref e6) "__getattr__" = some none)
    (xC6 : PySem.W.hasDictIn K e6 = true)
    (xD6 : PySem.W.findIn K (.ref e6) "__class__" = some (some (.builtin "object.__class__")))
    (xE6 : PySem.W.mroIn K e6 (.type "object") = some true)
    (xl7 : K.lookup e7 = some (excClassObj nm7 q7 e7 N7 bs7 bm7 true sn7 sub7 ab7 col7 dd7 kq0_7 kq1_7 kq2_7 kq3_7 kq5_7 "ValueError.__new__"))
    (xr7 : PySem.HandSPX.refsVE bm7 = true)
    (xs7 : PySem.W.findIn K (.ref e7) "__setattr__" = some (some (.builtin "object.__setattr__")))
    (xe7 : PySem.W.subIn K (.ref e7) (.type "BaseException") = some true)
    (xt7 : PySem.W.typeIn K (.ref e7) = some (.type "type"))
    (xk7 : PySem.W.keepIn K (.ref e7) = true)
    (xi7 : PySem.W.findIn K (.ref e7) "__init__" = some (some (.ref fi7)))
    (xj7 : PySem.W.typeIn K (.ref fi7) = some (.type "function"))
    (xf7 : K.lookup fi7 = some ⟨io7, ia7, .func (PySem.W.ksFn "__init__" "Blocked.__init__" (defArgs in_Blocked) (defBody in_Blocked) (defScope in_Blocked) .none ik7 id7 ip7 ib7 (.ref cda7) it7 cc7), is7⟩)
    (xc7 : PySem.W.codeIn K (.ref cda7) "Blocked.__init__" = true)
    (xm7 : K.lookup cda7 = some ⟨ic7, icd7, .fields vs7, ics7⟩)
    (xn7 : vs7[2]? = some (.str file7 tf7))
    (xo7 : ((PySem.Challenge.pw_lockrules_k21_outcomes_of_interleavings.main.file : Str) == file7) = true)
    (xp7 : K.lookup cc7 = some ⟨il7, ild7, .cell (some (.ref e7)), ils7⟩)
    (xq7 : PySem.W.ks_superIn K e7 e7 "__init__" = some (some (.builtin "ValueError.__init__")))
    (xu7 : PySem.W.mroIn K e7 (.ref e7) = some true)
    (xv7 : PySem.W.subIn K (.ref e7) (.type "ValueError") = some true)
    (xw7 : PySem.W.findIn K (.ref e7) "place" = some none)
    (xz7 : PySem.W.findIn K (.ref e7) "item" = some none)
    (xA7 : PySem.W.findIn K (.ref e7) "__getattribute__" = some (some (.builtin "BaseException.__getattribute__")))
    (xB7 : PySem.W.findIn K (.ref e7) "__getattr__" = some none)
    (xC7 : PySem.W.hasDictIn K e7 = true)
    (xD7 : PySem.W.findIn K (.ref e7) "__class__" = some (some (.builtin "object.__class__")))
    (xE7 : PySem.W.mroIn K e7 (.type "object") = some true)
    (y0 : PySem.W.nsIn K mainGlobals "super" = some none)
    (y1 : PySem.W.nsIn K cStatics "thirdparty.any" = some none)
    (y2 : PySem.W.specialIn K (.builtin "object.__class__") "__get__" = some (some (.builtin "getset_descriptor.__get__")))
    (y3 : PySem.W.takesIn K (.builtin "object.__class__") = some true)
    (hh1_7 : PySem.W.exmOne K (.ref e1) (.ref e7) = some false)
    (hh2_7 : PySem.W.exmOne K (.ref e2) (.ref e7) = some false)
    (hh3_7 : PySem.W.exmOne K (.ref e3) (.ref e7) = some false)
    (hh4_7 : PySem.W.exmOne K (.ref e4) (.ref e7) = some false)
    (hh5_7 : PySem.W.exmOne K (.ref e5) (.ref e7) = some false)
    (hh6_7 : PySem.W.exmOne K (.ref e6) (.ref e7) = some false)
    (hh7_7 : PySem.W.exmOne K (.ref e7) (.ref e7) = some true)
    (hh1_6 : PySem.W.exmOne K (.ref e1) (.ref e6) = some false)
    (hh2_6 : PySem.W.exmOne K (.ref e2) (.ref e6) = some false)
    (hh3_6 : PySem.W.exmOne K (.ref e3) (.ref e6) = some false)
    (hh4_6 : PySem.W.exmOne K (.ref e4) (.ref e6) = some false)
    (hh5_6 : PySem.W.exmOne K (.ref e5) (.ref e6) = some false)
    (hh6_6 : PySem.W.exmOne K (.ref e6) (.ref e6) = some true)
    (hh7_6 : PySem.W.exmOne K (.ref e7) (.ref e6) = some false)
    (cc_LARGEST : PySem.W.nsIn K mainGlobals "LARGEST" = some (some (.int 6 tk_LARGEST)))
    (cc_DIGITS : PySem.W.nsIn K mainGlobals "DIGITS" = some (some (.str "012345" tk_DIGITS)))
    (z_len : PySem.W.nsIn K mainGlobals "len" = some none)
    (z_int : PySem.W.nsIn K mainGlobals "int" = some none)
    (z_enumerate : PySem.W.nsIn K mainGlobals "enumerate" = some none)
    (z_any : PySem.W.nsIn K mainGlobals "any" = some none)
    (z_range : PySem.W.nsIn K mainGlobals "range" = some none)
    (z_isinstance : PySem.W.nsIn K mainGlobals "isinstance" = some none)
    (z_bool : PySem.W.nsIn K mainGlobals "bool" = some none)
    (z_str : PySem.W.nsIn K mainGlobals "str" = some none)
    (z_list : PySem.W.nsIn K mainGlobals "list" = some none)
    (z_tuple : PySem.W.nsIn K mainGlobals "tuple" = some none)
    (z_dict : PySem.W.nsIn K mainGlobals "dict" = some none)
    :
    ∃ fd : FuncData, (∀ (s : Shared) (v : Value), BindsTo s fd ⟨[v], []⟩ [("_law_script", v)]) ∧ ∀ base : Heap, K.In base → base.Ns mainGlobals mg → FnOk l.prog w K mg base (L2.CX l.prog w) 8 fa fd ["_law_script"] (spLaw K) := by
  rw [hprog]
  have e := hfa.symm.trans (PySem.W.mg_of X G a18)
  cases e
  let xt : XT := ⟨fun k => if k = 1 then e1 else if k = 2 then e2 else if k = 3 then e3 else if k = 4 then e4 else if k = 5 then e5 else if k = 6 then e6 else if k = 7 then e7 else 0, fun k => if k = 1 then ["step"] else if k = 2 then ["item"] else if k = 3 then ["item"] else if k = 4 then ["count"] else if k = 5 then ["index"] else if k = 6 then ["place"] else if k = 7 then ["place", "item"] else []⟩
  have ox1 : OexC K e1 := ⟨⟨nm1, q1, N1, bs1, bm1, sn1, sub1, ab1, col1, dd1, kq0_1, kq1_1, kq2_1, kq3_1, kq5_1, xl1, xr1⟩, xs1, xe1, xt1, xk1⟩
  have sc1 : SupC PySem.Challenge.pw_lockrules_k21_outcomes_of_interleavings K mg e1 fi1 "__init__" "BadStep.__init__" (defArgs in_BadStep) (defBody in_BadStep) (defScope in_BadStep) cda1 cc1 := ⟨ox1, ⟨_, _, _, _, _, _, _, _, xf1⟩, xc1, ⟨_, _, _, _, _, _, xm1, xn1, xo1⟩, ⟨_, _, _, xp1⟩, xq1, xu1, xv1, PySem.W.mg_none_of X G y0, y1, by decide +kernel⟩
  have ex1 : ExcC K e1 := ⟨xA1, xB1, xe1, xC1, xD1, y2, y3, xE1⟩
  have kk1 : XK1 PySem.Challenge.pw_lockrules_k21_outcomes_of_interleavings w K mg xt "BadStep" 1 "step" := ⟨⟨PySem.W.mg_of X G ga1, ox1, ⟨fi1, xi1, xj1, ini_BadStep sc1 xw1⟩, rfl⟩, ⟨xA1, xB1, xe1, xC1⟩, xw1, ex1⟩
  have ox2 : OexC K e2 := ⟨⟨nm2, q2, N2, bs2, bm2, sn2, sub2, ab2, col2, dd2, kq0_2, kq1_2, kq2_2, kq3_2, kq5_2, xl2, xr2⟩, xs2, xe2, xt2, xk2⟩
  have sc2 : SupC PySem.Challenge.pw_lockrules_k21_outcomes_of_interleavings K mg e2 fi2 "__init__" "TakenTwice.__init__" (defArgs in_TakenTwice) (defBody in_TakenTwice) (defScope in_TakenTwice) cda2 cc2 := ⟨ox2, ⟨_, _, _, _, _, _, _, _, xf2⟩, xc2, ⟨_, _, _, _, _, _, xm2, xn2, xo2⟩, ⟨_, _, _, xp2⟩, xq2, xu2, xv2, PySem.W.mg_none_of X G y0, y1, by decide +kernel⟩
  have ex2 : ExcC K e2 := ⟨xA2, xB2, xe2, xC2, xD2, y2, y3, xE2⟩
  have kk2 : XK1 PySem.Challenge.pw_lockrules_k21_outcomes_of_interleavings w K mg xt "TakenTwice" 2 "item" := ⟨⟨PySem.W.mg_of X G ga2, ox2, ⟨fi2, xi2, xj2, ini_TakenTwice sc2 xw2⟩, rfl⟩, ⟨xA2, xB2, xe2, xC2⟩, xw2, ex2⟩
  have ox3 : OexC K e3 := ⟨⟨nm3, q3, N3, bs3, bm3, sn3, sub3, ab3, col3, dd3, kq0_3, kq1_3, kq2_3, kq3_3, kq5_3, xl3, xr3⟩, xs3, xe3, xt3, xk3⟩
  have sc3 : SupC PySem.Challenge.pw_lockrules_k21_outcomes_of_interleavings K mg e3 fi3 "__init__" "NotHeld.__init__" (defArgs in_NotHeld) (defBody in_NotHeld) (defScope in_NotHeld) cda3 cc3 := ⟨ox3, ⟨_, _, _, _, _, _, _, _, xf3⟩, xc3, ⟨_, _, _, _, _, _, xm3, xn3, xo3⟩, ⟨_, _, _, xp3⟩, xq3, xu3, xv3, PySem.W.mg_none_of X G y0, y1, by decide +kernel⟩
  have ex3 : ExcC K e3 := ⟨xA3, xB3, xe3, xC3, xD3, y2, y3, xE3⟩
  have kk3 : XK1 PySem.Challenge.pw_lockrules_k21_outcomes_of_interleavings w K mg xt "NotHeld" 3 "item" := ⟨⟨PySem.W.mg_of X G ga3, ox3, ⟨fi3, xi3, xj3, ini_NotHeld sc3 xw3⟩, rfl⟩, ⟨xA3, xB3, xe3, xC3⟩, xw3, ex3⟩
  have ox4 : OexC K e4 := ⟨⟨nm4, q4, N4, bs4, bm4, sn4, sub4, ab4, col4, dd4, kq0_4, kq1_4, kq2_4, kq3_4, kq5_4, xl4, xr4⟩, xs4, xe4, xt4, xk4⟩
  have sc4 : SupC PySem.Challenge.pw_lockrules_k21_outcomes_of_interleavings K mg e4 fi4 "__init__" "BadSize.__init__" (defArgs in_BadSize) (defBody in_BadSize) (defScope in_BadSize) cda4 cc4 := ⟨ox4, ⟨_, _, _, _, _, _, _, _, xf4⟩, xc4, ⟨_, _, _, _, _, _, xm4, xn4, xo4⟩, ⟨_, _, _, xp4⟩, xq4, xu4, xv4, PySem.W.mg_none_of X G y0, y1, by decide +kernel⟩
  have ex4 : ExcC K e4 := ⟨xA4, xB4, xe4, xC4, xD4, y2, y3, xE4⟩
  have kk4 : XK1 PySem.Challenge.pw_lockrules_k21_outcomes_of_interleavings w K mg xt "BadSize" 4 "count" := ⟨⟨PySem.W.mg_of X G ga4, ox4, ⟨fi4, xi4, xj4, ini_BadSize sc4 xw4⟩, rfl⟩, ⟨xA4, xB4, xe4, xC4⟩, xw4, ex4⟩
  have ox5 : OexC K e5 := ⟨⟨nm5, q5, N5, bs5, bm5, sn5, sub5, ab5, col5, dd5, kq0_5, kq1_5, kq2_5, kq3_5, kq5_5, xl5, xr5⟩, xs5, xe5, xt5, xk5⟩
  have sc5 : SupC PySem.Challenge.pw_lockrules_k21_outcomes_of_interleavings K mg e5 fi5 "__init__" "BadProgram.__init__" (defArgs in_BadProgram) (defBody in_BadProgram) (defScope in_BadProgram) cda5 cc5 := ⟨ox5, ⟨_, _, _, _, _, _, _, _, xf5⟩, xc5, ⟨_, _, _, _, _, _, xm5, xn5, xo5⟩, ⟨_, _, _, xp5⟩, xq5, xu5, xv5, PySem.W.mg_none_of X G y0, y1, by decide +kernel⟩
  have ex5 : ExcC K e5 := ⟨xA5, xB5, xe5, xC5, xD5, y2, y3, xE5⟩
  have kk5 : XK1 PySem.Challenge.pw_lockrules_k21_outcomes_of_interleavings w K mg xt "BadProgram" 5 "index" := ⟨⟨PySem.W.mg_of X G ga5, ox5, ⟨fi5, xi5, xj5, ini_BadProgram sc5 xw5⟩, rfl⟩, ⟨xA5, xB5, xe5, xC5⟩, xw5, ex5⟩
  have ox6 : OexC K e6 := ⟨⟨nm6, q6, N6, bs6, bm6, sn6, sub6, ab6, col6, dd6, kq0_6, kq1_6, kq2_6, kq3_6, kq5_6, xl6, xr6⟩, xs6, xe6, xt6, xk6⟩
  have sc6 : SupC PySem.Challenge.pw_lockrules_k21_outcomes_of_interleavings K mg e6 fi6 "__init__" "BadOrder.__init__" (defArgs in_BadOrder) (defBody in_BadOrder) (defScope in_BadOrder) cda6 cc6 := ⟨ox6, ⟨_, _, _, _, _, _, _, _, xf6⟩, xc6, ⟨_, _, _, _, _, _, xm6, xn6, xo6⟩, ⟨_, _, _, xp6⟩, xq6, xu6, xv6, PySem.W.mg_none_of X G y0, y1, by decide +kernel⟩
  have ex6 : ExcC K e6 := ⟨xA6, xB6, xe6, xC6, xD6, y2, y3, xE6⟩
  have kk6 : XK1 PySem.Challenge.pw_lockrules_k21_outcomes_of_interleavings w K mg xt "BadOrder" 6 "place" := ⟨⟨PySem.W.mg_of X G ga6, ox6, ⟨fi6, xi6, xj6, ini_BadOrder sc6 xw6⟩, rfl⟩, ⟨xA6, xB6, xe6, xC6⟩, xw6, ex6⟩
  have ox7 : OexC K e7 := ⟨⟨nm7, q7, N7, bs7, bm7, sn7, sub7, ab7, col7, dd7, kq0_7, kq1_7, kq2_7, kq3_7, kq5_7, xl7, xr7⟩, xs7, xe7, xt7, xk7⟩
  have sc7 : SupC PySem.Challenge.pw_lockrules_k21_outcomes_of_interleavings K mg e7 fi7 "__init__" "Blocked.__init__" (defArgs in_Blocked) (defBody in_Blocked) (defScope in_Blocked) cda7 cc7 := ⟨ox7, ⟨_, _, _, _, _, _, _, _, xf7⟩, xc7, ⟨_, _, _, _, _, _, xm7, xn7, xo7⟩, ⟨_, _, _, xp7⟩, xq7, xu7, xv7, PySem.W.mg_none_of X G y0, y1, by decide +kernel⟩
  have ex7 : ExcC K e7 := ⟨xA7, xB7, xe7, xC7, xD7, y2, y3, xE7⟩
  have kk7 : XK2 PySem.Challenge.pw_lockrules_k21_outcomes_of_interleavings w K mg xt "Blocked" 7 "place" "item" := ⟨⟨PySem.W.mg_of X G ga7, ox7, ⟨fi7, xi7, xj7, ini_Blocked sc7 xw7 xz7⟩, rfl, by decide⟩, ⟨xA7, xB7, xe7, xC7⟩, xw7, xz7, ex7⟩
  have B : Bt PySem.Challenge.pw_lockrules_k21_outcomes_of_interleavings w K mg xt := ⟨PySem.W.mg_none_of X G z_len,
    PySem.W.mg_none_of X G z_int,
    PySem.W.mg_none_of X G z_enumerate,
    PySem.W.mg_none_of X G z_any,
    PySem.W.mg_none_of X G z_range,
    PySem.W.mg_none_of X G z_isinstance,
    PySem.W.mg_none_of X G z_bool,
    PySem.W.mg_none_of X G z_str,
    PySem.W.mg_none_of X G z_list,
    PySem.W.mg_none_of X G z_tuple,
    PySem.W.mg_none_of X G z_dict,
    ⟨_, PySem.W.mg_of X G cc_LARGEST, ⟨_, rfl⟩⟩,
    ⟨_, PySem.W.mg_of X G cc_DIGITS, ⟨_, rfl⟩⟩,
    kk1,
    kk2,
    kk3,
    kk4,
    kk5,
    kk6,
    kk7,
    PySem.W.mg_of X G ga1,
    PySem.W.mg_of X G ga2,
    PySem.W.mg_of X G ga3,
    PySem.W.mg_of X G ga4,
    PySem.W.mg_of X G ga5,
    PySem.W.mg_of X G ga6,
    PySem.W.mg_of X G ga7,
    (fun k b hb => by unfold h_Blocked at hb; (by_cases q1 : k = 1; (· subst q1; cases hb; exact hh1_7); rw [if_neg q1] at hb); (by_cases q2 : k = 2; (· subst q2; cases hb; exact hh2_7); rw [if_neg q2] at hb); (by_cases q3 : k = 3; (· subst q3; cases hb; exact hh3_7); rw [if_neg q3] at hb); (by_cases q4 : k = 4; (· subst q4; cases hb; exact hh4_7); rw [if_neg q4] at hb); (by_cases q5 : k = 5; (· subst q5; cases hb; exact hh5_7); rw [if_neg q5] at hb); (by_cases q6 : k = 6; (· subst q6; cases hb; exact hh6_7); rw [if_neg q6] at hb); (by_cases q7 : k = 7; (· subst q7; cases hb; exact hh7_7); rw [if_neg q7] at hb); cases hb),
    (fun k b hb => by unfold h_BadOrder at hb; (by_cases q1 : k = 1; (· subst q1; cases hb; exact hh1_6); rw [if_neg q1] at hb); (by_cases q2 : k = 2; (· subst q2; cases hb; exact hh2_6); rw [if_neg q2] at hb); (by_cases q3 : k = 3; (· subst q3; cases hb; exact hh3_6); rw [if_neg q3] at hb); (by_cases q4 : k = 4; (· subst q4; cases hb; exact hh4_6); rw [if_neg q4] at hb); (by_cases q5 : k = 5; (· subst q5; cases hb; exact hh5_6); rw [if_neg q5] at hb); (by_cases q6 : k = 6; (· subst q6; cases hb; exact hh6_6); rw [if_neg q6] at hb); (by_cases q7 : k = 7; (· subst q7; cases hb; exact hh7_6); rw [if_neg q7] at hb); cases hb)⟩
  have F0 := fun_mk (st := st_m_start) l0 c0 k0
  have b0 := F0.binds (ps := ["size"]) fun _ _ _ _ _ _ us hl => match us, hl with | [_], _ => rfl
  have C0 : Cal K mg "start" f0 _ ["size"] := ⟨PySem.W.mg_of X G a0, k0, b0⟩
  have F1 := fun_mk (st := st_m_is_step) l1 c1 k1
  have b1 := F1.binds (ps := ["size", "step"]) fun _ _ _ _ _ _ us hl => match us, hl with | [_, _], _ => rfl
  have C1 : Cal K mg "is_step" f1 _ ["size", "step"] := ⟨PySem.W.mg_of X G a1, k1, b1⟩
  have F2 := fun_mk (st := st_m_after) l2 c2 k2
  have b2 := F2.binds (ps := ["state", "step"]) fun _ _ _ _ _ _ us hl => match us, hl with | [_, _], _ => rfl
  have C2 : Cal K mg "after" f2 _ ["state", "step"] := ⟨PySem.W.mg_of X G a2, k2, b2⟩
  have F3 := fun_mk (st := st_m_replay) l3 c3 k3
  have b3 := F3.binds (ps := ["size", "steps"]) fun _ _ _ _ _ _ us hl => match us, hl with | [_, _], _ => rfl
  have C3 : Cal K mg "replay" f3 _ ["size", "steps"] := ⟨PySem.W.mg_of X G a3, k3, b3⟩
  have F4 := fun_mk (st := st_m_check_programs) l4 c4 k4
  have b4 := F4.binds (ps := ["size", "programs"]) fun _ _ _ _ _ _ us hl => match us, hl with | [_, _], _ => rfl
  have C4 : Cal K mg "check_programs" f4 _ ["size", "programs"] := ⟨PySem.W.mg_of X G a4, k4, b4⟩
  have F5 := fun_mk (st := st_m_holds) l5 c5 k5
  have b5 := F5.binds (ps := ["steps", "many", "digit"]) fun _ _ _ _ _ _ us hl => match us, hl with | [_, _, _], _ => rfl
  have C5 : Cal K mg "holds" f5 _ ["steps", "many", "digit"] := ⟨PySem.W.mg_of X G a5, k5, b5⟩
  have F6 := fun_mk (st := st_m_is_free) l6 c6 k6
  have b6 := F6.binds (ps := ["programs", "places", "index"]) fun _ _ _ _ _ _ us hl => match us, hl with | [_, _, _], _ => rfl
  have C6 : Cal K mg "is_free" f6 _ ["programs", "places", "index"] := ⟨PySem.W.mg_of X G a6, k6, b6⟩
  have F7 := fun_mk (st := st_m_outcome) l7 c7 k7
  have b7 := F7.binds (ps := ["programs", "order"]) fun _ _ _ _ _ _ us hl => match us, hl with | [_, _], _ => rfl
  have C7 : Cal K mg "outcome" f7 _ ["programs", "order"] := ⟨PySem.W.mg_of X G a7, k7, b7⟩
  have F8 := fun_mk (st := st_m_law_cell) l8 c8 k8
  have b8 := F8.binds (ps := ["_law_script", "_law_k"]) fun _ _ _ _ _ _ us hl => match us, hl with | [_, _], _ => rfl
  have C8 : Cal K mg "_law_cell" f8 _ ["_law_script", "_law_k"] := ⟨PySem.W.mg_of X G a8, k8, b8⟩
  have F9 := fun_mk (st := st_m_law_numbers) l9 c9 k9
  have b9 := F9.binds (ps := ["_law_cell_here", "_law_many", "_law_limit"]) fun _ _ _ _ _ _ us hl => match us, hl with | [_, _, _], _ => rfl
  have C9 : Cal K mg "_law_numbers" f9 _ ["_law_cell_here", "_law_many", "_law_limit"] := ⟨PySem.W.mg_of X G a9, k9, b9⟩
  have F10 := fun_mk (st := st_same) l10 c10 k10
  have b10 := F10.binds (ps := ["_law_actual", "_law_due_here"]) fun _ _ _ _ _ _ us hl => match us, hl with | [_, _], _ => rfl
  have C10 : Cal K mg "_law_same" f10 _ ["_law_actual", "_law_due_here"] := ⟨PySem.W.mg_of X G a10, k10, b10⟩
  have F11 := fun_mk (st := st_m_law_moved) l11 c11 k11
  have b11 := F11.binds (ps := ["_law_state", "_law_step"]) fun _ _ _ _ _ _ us hl => match us, hl with | [_, _], _ => rfl
  have C11 : Cal K mg "_law_moved" f11 _ ["_law_state", "_law_step"] := ⟨PySem.W.mg_of X G a11, k11, b11⟩
  have F12 := fun_mk (st := st_m_law_ends) l12 c12 k12
  have b12 := F12.binds (ps := ["_law_state"]) fun _ _ _ _ _ _ us hl => match us, hl with | [_], _ => rfl
  have C12 : Cal K mg "_law_ends" f12 _ ["_law_state"] := ⟨PySem.W.mg_of X G a12, k12, b12⟩
  have F13 := fun_mk (st := st_m_law_order) l13 c13 k13
  have b13 := F13.binds (ps := ["_law_programs", "_law_numbers_here"]) fun _ _ _ _ _ _ us hl => match us, hl with | [_, _], _ => rfl
  have C13 : Cal K mg "_law_order" f13 _ ["_law_programs", "_law_numbers_here"] := ⟨PySem.W.mg_of X G a13, k13, b13⟩
  have F14 := fun_mk (st := st_m_law_free) l14 c14 k14
  have b14 := F14.binds (ps := ["_law_size", "_law_numbers_here"]) fun _ _ _ _ _ _ us hl => match us, hl with | [_, _], _ => rfl
  have C14 : Cal K mg "_law_free" f14 _ ["_law_size", "_law_numbers_here"] := ⟨PySem.W.mg_of X G a14, k14, b14⟩
  have F15 := fun_mk (st := st_m_law_due) l15 c15 k15
  have b15 := F15.binds (ps := ["_law_programs", "_law_order_here"]) fun _ _ _ _ _ _ us hl => match us, hl with | [_, _], _ => rfl
  have C15 : Cal K mg "_law_due" f15 _ ["_law_programs", "_law_order_here"] := ⟨PySem.W.mg_of X G a15, k15, b15⟩
  have F16 := fun_mk (st := st_m_law_told) l16 c16 k16
  have b16 := F16.binds (ps := ["_law_programs", "_law_order_here"]) fun _ _ _ _ _ _ us hl => match us, hl with | [_, _], _ => rfl
  have C16 : Cal K mg "_law_told" f16 _ ["_law_programs", "_law_order_here"] := ⟨PySem.W.mg_of X G a16, k16, b16⟩
  have F17 := fun_mk (st := st_m_law_fine) l17 c17 k17
  have b17 := F17.binds (ps := ["_law_programs", "_law_order_here"]) fun _ _ _ _ _ _ us hl => match us, hl with | [_, _], _ => rfl
  have C17 : Cal K mg "_law_fine" f17 _ ["_law_programs", "_law_order_here"] := ⟨PySem.W.mg_of X G a17, k17, b17⟩
  have F18 := fun_mk (st := st_m_law) l18 c18 k18
  have b18 := F18.binds (ps := ["_law_script"]) fun _ _ _ _ _ _ us hl => match us, hl with | [_], _ => rfl
  refine ⟨PySem.W.fnOf "law" "law" (defArgs st_m_law) (defBody st_m_law) (defScope st_m_law) .none kV18 dc18 pm18 an18 cd18 ct18, fun s v => .of_eq rfl, fun base _ _ => ?_⟩
  have G0 : FnOk PySem.Challenge.pw_lockrules_k21_outcomes_of_interleavings w K mg base (L2.CX PySem.Challenge.pw_lockrules_k21_outcomes_of_interleavings w) 2 f0 _ ["size"] (spR xt (Pt.cons .sh rInt inferInstance Pt.nil) (fun (a : (Int × Unit)) => m_start a.1) (fun b => sF rTx b)) := ok_m_start B F0 
  have G1 : FnOk PySem.Challenge.pw_lockrules_k21_outcomes_of_interleavings w K mg base (L2.CX PySem.Challenge.pw_lockrules_k21_outcomes_of_interleavings w) 1 f1 _ ["size", "step"] (spR xt (Pt.cons .sh rInt inferInstance (Pt.cons .sh rTx inferInstance Pt.nil)) (fun (a : (Int × (List Nat) × Unit)) => m_is_step a.1 a.2.1) (fun b => sF rBl b)) := ok_m_is_step B F1 
  have G2 : FnOk PySem.Challenge.pw_lockrules_k21_outcomes_of_interleavings w K mg base (L2.CX PySem.Challenge.pw_lockrules_k21_outcomes_of_interleavings w) 2 f2 _ ["state", "step"] (spR xt (Pt.cons .sh rTx inferInstance (Pt.cons .sh rTx inferInstance Pt.nil)) (fun (a : ((List Nat) × (List Nat) × Unit)) => m_after a.1 a.2.1) (fun b => sF rTx b)) := ok_m_after B F2 C1 G1
  have G3 : FnOk PySem.Challenge.pw_lockrules_k21_outcomes_of_interleavings w K mg base (L2.CX PySem.Challenge.pw_lockrules_k21_outcomes_of_interleavings w) 3 f3 _ ["size", "steps"] (spR xt (Pt.cons .sh rInt inferInstance (Pt.cons .sh (rLst rTx) inferInstance Pt.nil)) (fun (a : (Int × (List (List Nat)) × Unit)) => m_replay a.1 a.2.1) (fun b => sF rTx b)) := ok_m_replay B F3 C0 G0 C2 G2
  have G4 : FnOk PySem.Challenge.pw_lockrules_k21_outcomes_of_interleavings w K mg base (L2.CX PySem.Challenge.pw_lockrules_k21_outcomes_of_interleavings w) 4 f4 _ ["size", "programs"] (spR xt (Pt.cons .sh rInt inferInstance (Pt.cons .sh (rLst (rLst rTx)) inferInstance Pt.nil)) (fun (a : (Int × (List (List (List Nat))) × Unit)) => m_check_programs a.1 a.2.1) (fun b => sF rNon b)) := ok_m_check_programs B F4 C3 G3
  have G5 : FnOk PySem.Challenge.pw_lockrules_k21_outcomes_of_interleavings w K mg base (L2.CX PySem.Challenge.pw_lockrules_k21_outcomes_of_interleavings w) 1 f5 _ ["steps", "many", "digit"] (spR xt (Pt.cons .sh (rLst rTx) inferInstance (Pt.cons .sh rInt inferInstance (Pt.cons .sh rTx inferInstance Pt.nil))) (fun (a : ((List (List Nat)) × Int × (List Nat) × Unit)) => m_holds a.1 a.2.1 a.2.2.1) (fun b => sF rBl b)) := ok_m_holds B F5 
  have G6 : FnOk PySem.Challenge.pw_lockrules_k21_outcomes_of_interleavings w K mg base (L2.CX PySem.Challenge.pw_lockrules_k21_outcomes_of_interleavings w) 2 f6 _ ["programs", "places", "index"] (spR xt (Pt.cons .sh (rLst (rLst rTx)) inferInstance (Pt.cons .bo (rLst rInt) inferInstance (Pt.cons .sh rInt inferInstance Pt.nil))) (fun (a : ((List (List (List Nat))) × (List Int) × Int × Unit)) => m_is_free a.1 a.2.1 a.2.2.1) (fun b => sF rBl b)) := ok_m_is_free B F6 C5 G5
  have G7 : FnOk PySem.Challenge.pw_lockrules_k21_outcomes_of_interleavings w K mg base (L2.CX PySem.Challenge.pw_lockrules_k21_outcomes_of_interleavings w) 5 f7 _ ["programs", "order"] (spR xt (Pt.cons .sh (rLst (rLst rTx)) inferInstance (Pt.cons .sh (rLst rInt) inferInstance Pt.nil)) (fun (a : ((List (List (List Nat))) × (List Int) × Unit)) => m_outcome a.1 a.2.1) (fun b => sD rInt (rTup rInt) b)) := ok_m_outcome B F7 C4 G4 C6 G6
  have G8 : FnOk PySem.Challenge.pw_lockrules_k21_outcomes_of_interleavings w K mg base (L2.CX PySem.Challenge.pw_lockrules_k21_outcomes_of_interleavings w) 1 f8 _ ["_law_script", "_law_k"] (spR xt (Pt.cons .bo (rScr K) inferInstance (Pt.cons .sh rInt inferInstance Pt.nil)) (fun (a : ((List Int) × Int × Unit)) => m_law_cell a.1 a.2.1) (fun b => sF rInt b)) := ok_m_law_cell B F8 
  have G9 : FnOk PySem.Challenge.pw_lockrules_k21_outcomes_of_interleavings w K mg base (L2.CX PySem.Challenge.pw_lockrules_k21_outcomes_of_interleavings w) 1 f9 _ ["_law_cell_here", "_law_many", "_law_limit"] (spR xt (Pt.cons .sh rInt inferInstance (Pt.cons .sh rInt inferInstance (Pt.cons .sh rInt inferInstance Pt.nil))) (fun (a : (Int × Int × Int × Unit)) => m_law_numbers a.1 a.2.1 a.2.2.1) (fun b => sL rInt b)) := ok_m_law_numbers B F9 
  have G10 : FnOk PySem.Challenge.pw_lockrules_k21_outcomes_of_interleavings w K mg base CX0 5 f10 _ ["_law_actual", "_law_due_here"] (spSame 4) := ok_same B F10 C10 4
  have G11 : FnOk PySem.Challenge.pw_lockrules_k21_outcomes_of_interleavings w K mg base (L2.CX PySem.Challenge.pw_lockrules_k21_outcomes_of_interleavings w) 1 f11 _ ["_law_state", "_law_step"] (spR xt (Pt.cons .sh rTx inferInstance (Pt.cons .sh rTx inferInstance Pt.nil)) (fun (a : ((List Nat) × (List Nat) × Unit)) => m_law_moved a.1 a.2.1) (fun b => sF rTx b)) := ok_m_law_moved B F11 
  have G12 : FnOk PySem.Challenge.pw_lockrules_k21_outcomes_of_interleavings w K mg base (L2.CX PySem.Challenge.pw_lockrules_k21_outcomes_of_interleavings w) 1 f12 _ ["_law_state"] (spR xt (Pt.cons .sh rTx inferInstance Pt.nil) (fun (a : ((List Nat) × Unit)) => m_law_ends a.1) (fun b => sL rTx b)) := ok_m_law_ends B F12 
  have G13 : FnOk PySem.Challenge.pw_lockrules_k21_outcomes_of_interleavings w K mg base (L2.CX PySem.Challenge.pw_lockrules_k21_outcomes_of_interleavings w) 1 f13 _ ["_law_programs", "_law_numbers_here"] (spR xt (Pt.cons .sh (rLst (rLst rTx)) inferInstance (Pt.cons .sh (rLst rInt) inferInstance Pt.nil)) (fun (a : ((List (List (List Nat))) × (List Int) × Unit)) => m_law_order a.1 a.2.1) (fun b => sL rInt b)) := ok_m_law_order B F13 
  have G14 : FnOk PySem.Challenge.pw_lockrules_k21_outcomes_of_interleavings w K mg base (L2.CX PySem.Challenge.pw_lockrules_k21_outcomes_of_interleavings w) 2 f14 _ ["_law_size", "_law_numbers_here"] (spR xt (Pt.cons .sh rInt inferInstance (Pt.cons .sh (rLst rInt) inferInstance Pt.nil)) (fun (a : (Int × (List Int) × Unit)) => m_law_free a.1 a.2.1) (fun b => sL rTx b)) := ok_m_law_free B F14 C11 G11 C12 G12
  have G15 : FnOk PySem.Challenge.pw_lockrules_k21_outcomes_of_interleavings w K mg base (L2.CX PySem.Challenge.pw_lockrules_k21_outcomes_of_interleavings w) 1 f15 _ ["_law_programs", "_law_order_here"] (spR xt (Pt.cons .sh (rLst (rLst rTx)) inferInstance (Pt.cons .sh (rLst rInt) inferInstance Pt.nil)) (fun (a : ((List (List (List Nat))) × (List Int) × Unit)) => m_law_due a.1 a.2.1) (fun b => sF rDt b)) := ok_m_law_due B F15 
  have G16 : FnOk PySem.Challenge.pw_lockrules_k21_outcomes_of_interleavings w K mg base (L2.CX PySem.Challenge.pw_lockrules_k21_outcomes_of_interleavings w) 6 f16 _ ["_law_programs", "_law_order_here"] (spR xt (Pt.cons .sh (rLst (rLst rTx)) inferInstance (Pt.cons .sh (rLst rInt) inferInstance Pt.nil)) (fun (a : ((List (List (List Nat))) × (List Int) × Unit)) => m_law_told a.1 a.2.1) (fun b => sF rDt b)) := ok_m_law_told B F16 C7 G7
  have G17 : FnOk PySem.Challenge.pw_lockrules_k21_outcomes_of_interleavings w K mg base (L2.CX PySem.Challenge.pw_lockrules_k21_outcomes_of_interleavings w) 7 f17 _ ["_law_programs", "_law_order_here"] (spR xt (Pt.cons .sh (rLst (rLst rTx)) inferInstance (Pt.cons .sh (rLst rInt) inferInstance Pt.nil)) (fun (a : ((List (List (List Nat))) × (List Int) × Unit)) => m_law_fine a.1 a.2.1) (fun b => sF rBl b)) := ok_m_law_fine B F17 C10 G10 C16 G16 C15 G15
  exact FnOk.imp (ok_m_law B F18 C9 G9 C8 G8 C14 G14 C13 G13 C17 G17) (law_imp ht)
theorem walk {l : PySem.W.OpenLaw} {q : Program} {loose : List Str} {XP : (Str → Option Value) → Heap → Prop} {YP : World → Heap → Prop} {d : DefRec} {K : Params → PySem.W.Frag} (hn : l.most = some 63) (hdf : d.params.defaults = [])
    (hY : ∀ (w : World) (h : Heap), YP w h → (K w.params).In h)
    (F : ∀ (w : World) (mg : Str → Option Value) (fa : Addr) (h : Heap), (K w.params).In h → h.Ns mainGlobals mg → mg d.name = some (.ref fa) →
      ∃ fd : FuncData, (∀ (s : Shared) (u : Value), BindsTo s fd ⟨[u], []⟩ [("_law_script", u)]) ∧ ∀ base : Heap, (K w.params).In base → base.Ns mainGlobals mg → FnOk l.prog w (K w.params) mg base (L2.CX l.prog w) 8 fa fd ["_law_script"] (spLaw (K w.params))) :
    PySem.W.WalkO q loose XP YP l.row.toRowW d [] (fun f vs => PySem.call f vs) :=
  L2.walk_of (n := 63) (k := 8) (x := "_law_script") (CX := fun w => L2.CX l.prog w) (sp := fun w => spLaw (K w.params)) hn (by decide) hdf ⟨rfl, by decide, by decide⟩ hY F (fun _ _ a ns hl _ hS => ⟨a, ns, rfl, hS, hl, fun _ => rfl⟩) fun _ _ _ _ _ z => by
    obtain ⟨_, _, _, _, _, _, _, _, _, _, _, _, z⟩ := z
    exact z.elim
end Zk21
open PySem PySem.W PyProof.Rows
set_option maxRecDepth 100000 in
set_option maxHeartbeats 0 in
theorem PySem.Challenge.cw_lockrules_k21_outcomes_of_interleavings_holds : PySem.Challenge.rw_lockrules_k21_outcomes_of_interleavings.Holds := by
  w_on; o_law; k_head; (case hw => w_witness2)
  k_fill
  refine Zk21.walk (l := PySem.Challenge.rw_lockrules_k21_outcomes_of_interleavings) rfl rfl (fun w h Y => PySem.W.kIn_of Y) ?F
  case F =>
    intro w mg fa h KX G hmg
    refine' Zk21.all_mk rfl Zk21.law_true KX G hmg ?a0 ?l0 ?c0 ?k0 ?a1 ?l1 ?c1 ?k1 ?a2 ?l2 ?c2 ?k2 ?a3 ?l3 ?c3 ?k3 ?a4 ?l4 ?c4 ?k4 ?a5 ?l5 ?c5 ?k5 ?a6 ?l6 ?c6 ?k6 ?a7 ?l7 ?c7 ?k7 ?a8 ?l8 ?c8 ?k8 ?a9 ?l9 ?c9 ?k9 ?a10 ?l10 ?c10 ?k10 ?a11 ?l11 ?c11 ?k11 ?a12 ?l12 ?c12 ?k12 ?a13 ?l13 ?c13 ?k13 ?a14 ?l14 ?c14 ?k14 ?a15 ?l15 ?c15 ?k15 ?a16 ?l16 ?c16 ?k16 ?a17 ?l17 ?c17 ?k17 ?a18 ?l18 ?c18 ?k18 ?ga1 ?ga2 ?ga3 ?ga4 ?ga5 ?ga6 ?ga7 ?xl1 ?xr1 ?xs1 ?xe1 ?xt1 ?xk1 ?xi1 ?xj1 ?xf1 ?xc1 ?xm1 ?xn1 ?xo1 ?xp1 ?xq1 ?xu1 ?xv1 ?xw1 ?xA1 ?xB1 ?xC1 ?xD1 ?xE1 ?xl2 ?xr2 ?xs2 ?xe2 ?xt2 ?xk2 ?xi2 ?xj2 ?xf2 ?xc2 ?xm2 ?xn2 ?xo2 ?xp2 ?xq2 ?xu2 ?xv2 ?xw2 ?xA2 ?xB2 ?xC2 ?xD2 ?xE2 ?xl3 ?xr3 ?xs3 ?xe3 ?xt3 ?xk3 ?xi3 ?xj3 ?xf3 ?xc3 ?xm3 ?xn3 ?xo3 ?xp3 ?xq3 ?xu3 ?xv3 ?xw3 ?xA3 ?xB3 ?xC3 ?xD3 ?xE3 ?xl4 ?xr4 ?xs4 ?xe4 ?xt4 ?xk4 ?xi4 ?xj4 ?xf4 ?xc4 ?xm4 ?xn4 ?xo4 ?xp4 ?xq4 ?xu4 ?xv4 ?xw4 ?xA4 ?xB4 ?xC4 ?xD4 ?xE4 ?xl5 ?xr5 ?xs5 ?xe5 ?xt5 ?xk5 ?xi5 ?xj5 ?xf5 ?xc5 ?xm5 ?xn5 ?xo5 ?xp5 ?xq5 ?xu5 ?xv5 ?xw5 ?xA5 ?xB5 ?xC5 ?xD5 ?xE5 ?xl6 ?xr6 ?xs6 ?xe6 ?xt6 ?xk6 ?xi6 ?xj6 ?xf6 ?xc6 ?xm6 ?xn6 ?xo6 ?xp6 ?xq6 ?xu6 ?xv6 ?xw6 ?xA6 ?xB6 ?xC6 ?xD6 ?xE6 ?xl7 ?xr7 ?xs7 ?xe7 ?xt7 ?xk7 ?xi7 ?xj7 ?xf7 ?xc7 ?xm7 ?xn7 ?xo7 ?xp7 ?xq7 ?xu7 ?xv7 ?xw7 ?xz7 ?xA7 ?xB7 ?xC7 ?xD7 ?xE7 ?y0 ?y1 ?y2 ?y3 ?hh1_7 ?hh2_7 ?hh3_7 ?hh4_7 ?hh5_7 ?hh6_7 ?hh7_7 ?hh1_6 ?hh2_6 ?hh3_6 ?hh4_6 ?hh5_6 ?hh6_6 ?hh7_6 ?cc_LARGEST ?cc_DIGITS ?z_len ?z_int ?z_enumerate ?z_any ?z_range ?z_isinstance ?z_bool ?z_str ?z_list ?z_tuple ?z_dict
    (case a0 => k_is)
    (case l0 => k_is)
    (case c0 => k_is)
    (case k0 => k_is)
    (case a1 => k_is)
    (case l1 => k_is)
    (case c1 => k_is)
    (case k1 => k_is)
    (case a2 => k_is)
    (case l2 => k_is)
    (case c2 => k_is)
    (case k2 => k_is)
    (case a3 => k_is)
    (case l3 => k_is)
    (case c3 => k_is)
    (case k3 => k_is)
    (case a4 => k_is)
    (case l4 => k_is)
    (case c4 => k_is)
    (case k4 => k_is)
    (case a5 => k_is)
    (case l5 => k_is)
    (case c5 => k_is)
    (case k5 => k_is)
    (case a6 => k_is)
    (case l6 => k_is)
    (case c6 => k_is)
    (case k6 => k_is)
    (case a7 => k_is)
    (case l7 => k_is)
    (case c7 => k_is)
    (case k7 => k_is)
    (case a8 => k_is)
    (case l8 => k_is)
    (case c8 => k_is)
    (case k8 => k_is)
    (case a9 => k_is)
    (case l9 => k_is)
    (case c9 => k_is)
    (case k9 => k_is)
    (case a10 => k_is)
    (case l10 => k_is)
    (case c10 => k_is)
    (case k10 => k_is)
    (case a11 => k_is)
    (case l11 => k_is)
    (case c11 => k_is)
    (case k11 => k_is)
    (case a12 => k_is)
    (case l12 => k_is)
    (case c12 => k_is)
    (case k12 => k_is)
    (case a13 => k_is)
    (case l13 => k_is)
    (case c13 => k_is)
    (case k13 => k_is)
    (case a14 => k_is)
    (case l14 => k_is)
    (case c14 => k_is)
    (case k14 => k_is)
    (case a15 => k_is)
    (case l15 => k_is)
    (case c15 => k_is)
    (case k15 => k_is)
    (case a16 => k_is)
    (case l16 => k_is)
    (case c16 => k_is)
    (case k16 => k_is)
    (case a17 => k_is)
    (case l17 => k_is)
    (case c17 => k_is)
    (case k17 => k_is)
    (case a18 => k_is)
    (case l18 => k_is)
    (case c18 => k_is)
    (case k18 => k_is)
    (case ga1 => k_is)
    (case ga2 => k_is)
    (case ga3 => k_is)
    (case ga4 => k_is)
    (case ga5 => k_is)
    (case ga6 => k_is)
    (case ga7 => k_is)
    (case xl1 => k_is)
    (case xr1 => first | rfl | decide +kernel)
    (case xs1 => k_is)
    (case xe1 => k_is)
    (case xt1 => k_is)
    (case xk1 => k_is)
    (case xi1 => k_is)
    (case xj1 => k_is)
    (case xf1 => k_is)
    (case xc1 => k_is)
    (case xm1 => k_is)
    (case xn1 => first | rfl | decide +kernel)
    (case xo1 => first | rfl | decide +kernel)
    (case xp1 => k_is)
    (case xq1 => ks_is)
    (case xu1 => k_is)
    (case xv1 => k_is)
    (case xw1 => k_is)
    (case xA1 => k_is)
    (case xB1 => k_is)
    (case xC1 => k_is)
    (case xD1 => k_is)
    (case xE1 => k_is)
    (case xl2 => k_is)
    (case xr2 => first | rfl | decide +kernel)
    (case xs2 => k_is)
    (case xe2 => k_is)
    (case xt2 => k_is)
    (case xk2 => k_is)
    (case xi2 => k_is)
    (case xj2 => k_is)
    (case xf2 => k_is)
    (case xc2 => k_is)
    (case xm2 => k_is)
    (case xn2 => first | rfl | decide +kernel)
    (case xo2 => first | rfl | decide +kernel)
    (case xp2 => k_is)
    (case xq2 => ks_is)
    (case xu2 => k_is)
    (case xv2 => k_is)
    (case xw2 => k_is)
    (case xA2 => k_is)
    (case xB2 => k_is)
    (case xC2 => k_is)
    (case xD2 => k_is)
    (case xE2 => k_is)
    (case xl3 => k_is)
    (case xr3 => first | rfl | decide +kernel)
    (case xs3 => k_is)
    (case xe3 => k_is)
    (case xt3 => k_is)
    (case xk3 => k_is)
    (case xi3 => k_is)
    (case xj3 => k_is)
    (case xf3 => k_is)
    (case xc3 => k_is)
    (case xm3 => k_is)
    (case xn3 => first | rfl | decide +kernel)
    (case xo3 => first | rfl | decide +kernel)
    (case xp3 => k_is)
    (case xq3 => ks_is)
    (case xu3 => k_is)
    (case xv3 => k_is)
    (case xw3 => k_is)
    (case xA3 => k_is)
    (case xB3 => k_is)
    (case xC3 => k_is)
    (case xD3 => k_is)
    (case xE3 => k_is)
    (case xl4 => k_is)
    (case xr4 => first | rfl | decide +kernel)
    (case xs4 => k_is)
    (case xe4 => k_is)
    (case xt4 => k_is)
    (case xk4 => k_is)
    (case xi4 => k_is)
    (case xj4 => k_is)
    (case xf4 => k_is)
    (case xc4 => k_is)
    (case xm4 => k_is)
    (case xn4 => first | rfl | decide +kernel)
    (case xo4 => first | rfl | decide +kernel)
    (case xp4 => k_is)
    (case xq4 => ks_is)
    (case xu4 => k_is)
    (case xv4 => k_is)
    (case xw4 => k_is)
    (case xA4 => k_is)
    (case xB4 => k_is)
    (case xC4 => k_is)
    (case xD4 => k_is)
    (case xE4 => k_is)
    (case xl5 => k_is)
    (case xr5 => first | rfl | decide +kernel)
    (case xs5 => k_is)
    (case xe5 => k_is)
    (case xt5 => k_is)
    (case xk5 => k_is)
    (case xi5 => k_is)
    (case xj5 => k_is)
    (case xf5 => k_is)
    (case xc5 => k_is)
    (case xm5 => k_is)
    (case xn5 => first | rfl | decide +kernel)
    (case xo5 => first | rfl | decide +kernel)
    (case xp5 => k_is)
    (case xq5 => ks_is)
    (case xu5 => k_is)
    (case xv5 => k_is)
    (case xw5 => k_is)
    (case xA5 => k_is)
    (case xB5 => k_is)
    (case xC5 => k_is)
    (case xD5 => k_is)
    (case xE5 => k_is)
    (case xl6 => k_is)
    (case xr6 => first | rfl | decide +kernel)
    (case xs6 => k_is)
    (case xe6 => k_is)
    (case xt6 => k_is)
    (case xk6 => k_is)
    (case xi6 => k_is)
    (case xj6 => k_is)
    (case xf6 => k_is)
    (case xc6 => k_is)
    (case xm6 => k_is)
    (case xn6 => first | rfl | decide +kernel)
    (case xo6 => first | rfl | decide +kernel)
    (case xp6 => k_is)
    (case xq6 => ks_is)
    (case xu6 => k_is)
    (case xv6 => k_is)
    (case xw6 => k_is)
    (case xA6 => k_is)
    (case xB6 => k_is)
    (case xC6 => k_is)
    (case xD6 => k_is)
    (case xE6 => k_is)
    (case xl7 => k_is)
    (case xr7 => first | rfl | decide +kernel)
    (case xs7 => k_is)
    (case xe7 => k_is)
    (case xt7 => k_is)
    (case xk7 => k_is)
    (case xi7 => k_is)
    (case xj7 => k_is)
    (case xf7 => k_is)
    (case xc7 => k_is)
    (case xm7 => k_is)
    (case xn7 => first | rfl | decide +kernel)
    (case xo7 => first | rfl | decide +kernel)
    (case xp7 => k_is)
    (case xq7 => ks_is)
    (case xu7 => k_is)
    (case xv7 => k_is)
    (case xw7 => k_is)
    (case xz7 => k_is)
    (case xA7 => k_is)
    (case xB7 => k_is)
    (case xC7 => k_is)
    (case xD7 => k_is)
    (case xE7 => k_is)
    (case y0 => k_is)
    (case y1 => k_is)
    (case y2 => k_is)
    (case y3 => k_is)
    (case hh1_7 => kts_exm)
    (case hh2_7 => kts_exm)
    (case hh3_7 => kts_exm)
    (case hh4_7 => kts_exm)
    (case hh5_7 => kts_exm)
    (case hh6_7 => kts_exm)
    (case hh7_7 => kts_exm)
    (case hh1_6 => kts_exm)
    (case hh2_6 => kts_exm)
    (case hh3_6 => kts_exm)
    (case hh4_6 => kts_exm)
    (case hh5_6 => kts_exm)
    (case hh6_6 => kts_exm)
    (case hh7_6 => kts_exm)
    (case cc_LARGEST => k_is)
    (case cc_DIGITS => k_is)
    (case z_len => k_is)
    (case z_int => k_is)
    (case z_enumerate => k_is)
    (case z_any => k_is)
    (case z_range => k_is)
    (case z_isinstance => k_is)
    (case z_bool => k_is)
    (case z_str => k_is)
    (case z_list => k_is)
    (case z_tuple => k_is)
    (case z_dict => k_is)
#print axioms PySem.Challenge.cw_lockrules_k21_outcomes_of_interleavings_holds
