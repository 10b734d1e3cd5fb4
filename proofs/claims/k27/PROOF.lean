import PyProof.Rows.All
import Wide.All
import OpenK.AllK
import Wide.FinOn
import HandS.ForMost
import HandS.ForExc
import HandS.Flow
import HandS.IsInst
import HandS.Walk
import HandS.Conv
import PySem.Challenge.RW_lockrules_k27_programs_of_released_locks
set_option Elab.async false
set_option linter.all false
set_option maxRecDepth 100000
set_option Elab.async false
set_option linter.all false
set_option maxRecDepth 100000
set_option maxHeartbeats 4000000
set_option autoImplicit false
/-! LK1: typed readings. What a slot holds is told by a list of Slots; an expression gives a datum, told by a representation. -/
namespace LK
open PySem L2

/-! ### representations -/
abbrev Rp (α : Type) := Hp → V → α → Prop
def Ex (H H' : Hp) : Prop := ∀ a o, H a = some o → H' a = some o
theorem Ex.refl (H : Hp) : Ex H H := fun _ _ h => h
theorem Ex.trans {H H1 H2 : Hp} (a : Ex H H1) (b : Ex H1 H2) : Ex H H2 := fun x o h => b x o (a x o h)
theorem Ex.back {H H' : Hp} {p : Addr} (e : Ex H H') (h : H' p = none) : H p = none := by
  cases h1 : H p with
  | none => rfl
  | some o => rw [e p o h1] at h; cases h
theorem Ex.new {H : Hp} {p : Addr} {o : HO} (h : H p = none) : Ex H (upd H p o) := fun a u e => by
  rw [upd_ne (ne_of_none e h)]; exact e
/-- what an object is, locked or not -/
def core : HO → HO
  | .frz _ u => u
  | o => o
def isD : HO → Bool
  | .dK _ => true
  | .dT _ => true
  | _ => false
/-- the same, but for a lock of a dict -/
def Sm (o o' : HO) : Prop := o = o' ∨ (core o = core o' ∧ isD (core o) = true)
def Exs (F F' : Hp) : Prop := ∀ a o, F a = some o → ∃ o', F' a = some o' ∧ Sm o o'
theorem Ex.s {H H' : Hp} (e : Ex H H') : Exs H H' := fun a o h => ⟨o, e a o h, .inl rfl⟩
theorem Exs.at_ {F F' : Hp} {p : Addr} {o : HO} (e : Exs F F') (h : F p = some o) (hd : isD (core o) = false) : F' p = some o := by
  obtain ⟨o', h1, h2⟩ := e p o h
  rcases h2 with h2 | ⟨_, h2⟩
  · rw [h2]; exact h1
  · rw [hd] at h2; cases h2
theorem Exs.rd {F F' : Hp} {p : Addr} {u : HO} (e : Exs F F') (h : Rd F p u) (hd : isD u = true) : Rd F' p u := by
  have hc : core u = u := by cases u <;> first | rfl | cases hd
  have fin : ∀ o o', F' p = some o' → Sm o o' → core o = u → Rd F' p u := fun o o' h1 h2 hu => by
    have ho : core o' = u := by
      rcases h2 with h2 | ⟨h2, _⟩
      · rw [← h2]; exact hu
      · rw [← h2]; exact hu
    cases o' with
    | frz ob w =>
      have : w = u := ho
      subst this
      exact .inr ⟨ob, h1⟩
    | _ => exact .inl (by rw [← ho]; exact h1)
  rcases h with h | ⟨ob, h⟩
  · obtain ⟨o', h1, h2⟩ := e p _ h
    exact fin u o' h1 h2 hc
  · obtain ⟨o', h1, h2⟩ := e p _ h
    exact fin _ o' h1 h2 rfl
class Mo {α : Type} (r : Rp α) : Prop where
  mo : ∀ {F F' : Hp} {v : V} {a : α}, Exs F F' → r F v a → r F' v a
theorem Mo.ex {α : Type} {r : Rp α} (i : Mo r) {F F' : Hp} {v : V} {a : α} (e : Ex F F') (h : r F v a) : r F' v a := i.mo e.s h
theorem mox {α : Type} {r : Rp α} [i : Mo r] {F F' : Hp} {v : V} {a : α} (e : Ex F F') (h : r F v a) : r F' v a := i.mo e.s h
/-- what does not lean on the heap -/
class Fl {α : Type} (r : Rp α) : Prop where
  fl : ∀ {F F' : Hp} {v : V} {a : α}, r F v a → r F' v a
instance {α : Type} (r : Rp α) [h : Fl r] : Mo r := ⟨fun _ x => h.fl x⟩
def rInt : Rp Int := fun _ v a => v = .int a
def rBl : Rp Bool := fun _ v a => v = .bl a
def rNon : Rp Unit := fun _ v _ => v = .non
def rTx : Rp (List Nat) := fun _ v a => v = .str ⟨a.toArray⟩ ∧ a.length ≤ 16777216 ∧ ∀ c ∈ a, c < 1114112
def rRef : Rp Addr := fun _ v a => v = .ref a
instance : Fl rInt := ⟨fun h => h⟩
instance : Fl rBl := ⟨fun h => h⟩
instance : Fl rNon := ⟨fun h => h⟩
instance : Fl rTx := ⟨fun h => h⟩
instance : Fl rRef := ⟨fun h => h⟩
def rLst {α : Type} (r : Rp α) : Rp (List α) := fun F v xs => ∃ p vs, v = .ref p ∧ F p = some (.lst vs) ∧ xs.length ≤ 16777216 ∧ Paired (r F) vs xs
def rTup {α : Type} (r : Rp α) : Rp (List α) := fun F v xs => ∃ p vs, v = .ref p ∧ F p = some (.tup vs) ∧ xs.length ≤ 16777216 ∧ Paired (r F) vs xs
def rPr {α β : Type} (r : Rp α) (s : Rp β) : Rp (α × β) := fun F v x => ∃ p u w, v = .ref p ∧ F p = some (.tup [u, w]) ∧ r F u x.1 ∧ s F w x.2
def rP3 {α β γ : Type} (r : Rp α) (s : Rp β) (t : Rp γ) : Rp (α × β × γ) := fun F v x => ∃ p u w z, v = .ref p ∧ F p = some (.tup [u, w, z]) ∧ r F u x.1 ∧ s F w x.2.1 ∧ t F z x.2.2
/-- never None -/
class Nn {α : Type} (r : Rp α) : Prop where
  nn : ∀ {F : Hp} {v : V} {a : α}, r F v a → v ≠ .non
def rOpt {α : Type} (r : Rp α) : Rp (Option α) := fun F v x => match x with
  | none => v = .non
  | some a => r F v a
theorem pmap {α β : Type} {R S : α → β → Prop} : ∀ {xs : List α} {ys : List β}, (∀ a b, R a b → S a b) → Paired R xs ys → Paired S xs ys
  | _, _, _, .nil => .nil
  | _, _, f, .cons h t => .cons (f _ _ h) (pmap f t)
instance {α : Type} (r : Rp α) [h : Mo r] : Mo (rLst r) := ⟨fun e ⟨p, vs, h1, h2, h3, h4⟩ => ⟨p, vs, h1, e.at_ h2 rfl, h3, pmap (fun _ _ z => h.mo e z) h4⟩⟩
instance {α : Type} (r : Rp α) [h : Mo r] : Mo (rTup r) := ⟨fun e ⟨p, vs, h1, h2, h3, h4⟩ => ⟨p, vs, h1, e.at_ h2 rfl, h3, pmap (fun _ _ z => h.mo e z) h4⟩⟩
instance {α β : Type} (r : Rp α) (s : Rp β) [h : Mo r] [g : Mo s] : Mo (rPr r s) := ⟨fun e ⟨p, u, w, h1, h2, h3, h4⟩ => ⟨p, u, w, h1, e.at_ h2 rfl, h.mo e h3, g.mo e h4⟩⟩
instance {α β γ : Type} (r : Rp α) (s : Rp β) (t : Rp γ) [h : Mo r] [g : Mo s] [k : Mo t] : Mo (rP3 r s t) := ⟨fun e ⟨p, u, w, z, h1, h2, h3, h4, h5⟩ => ⟨p, u, w, z, h1, e.at_ h2 rfl, h.mo e h3, g.mo e h4, k.mo e h5⟩⟩
instance {α : Type} (r : Rp α) [h : Mo r] : Mo (rOpt r) := ⟨fun {F F' v a} e x => by
  cases a with
  | none => exact x
  | some b => exact h.mo e x⟩
instance {α : Type} (r : Rp α) [h : Fl r] : Fl (rOpt r) := ⟨fun {F F' v a} x => by
  cases a with
  | none => exact x
  | some b => exact h.fl x⟩
instance : Nn rInt := ⟨fun h => by rw [show _ = _ from h]; intro z; cases z⟩
instance : Nn rBl := ⟨fun h => by rw [show _ = _ from h]; intro z; cases z⟩
instance : Nn rTx := ⟨fun h => by rw [h.1]; intro z; cases z⟩
instance {α : Type} (r : Rp α) : Nn (rLst r) := ⟨fun ⟨_, _, h, _⟩ => by rw [h]; intro z; cases z⟩
instance {α : Type} (r : Rp α) : Nn (rTup r) := ⟨fun ⟨_, _, h, _⟩ => by rw [h]; intro z; cases z⟩
instance {α β : Type} (r : Rp α) (s : Rp β) : Nn (rPr r s) := ⟨fun ⟨_, _, _, h, _⟩ => by rw [h]; intro z; cases z⟩

/-! ### what grows -/
/-- F: what never changes from here on; H: all that is tracked -/
structure Gr (F H F' H' : Hp) : Prop where
  ff : Ex F F'
  fh : Ex F' H'
  hh : Ex H H'
  nw : ∀ p o, F' p = some o → F p = none → H p = none
theorem Gr.refl {F H : Hp} (e : Ex F H) : Gr F H F H := ⟨Ex.refl F, e, Ex.refl H, fun p o h1 h2 => by rw [h1] at h2; cases h2⟩
theorem Gr.trans {F H F1 H1 F2 H2 : Hp} (a : Gr F H F1 H1) (b : Gr F1 H1 F2 H2) : Gr F H F2 H2 := ⟨a.ff.trans b.ff, b.fh, a.hh.trans b.hh, fun p o h1 h2 => by
  cases e : F1 p with
  | none => exact a.hh.back (b.nw p o h1 e)
  | some u => exact a.nw p u e h2⟩
/-- a new object, frozen at once -/
theorem Gr.new {F H : Hp} {p : Addr} {o : HO} (e : Ex F H) (h : H p = none) : Gr F H (upd F p o) (upd H p o) := by
  have hF := e.back h
  refine ⟨Ex.new hF, fun a u q => ?_, Ex.new h, fun a u q n => ?_⟩
  · by_cases ha : a = p
    · subst ha; rw [upd_same] at q ⊢; exact q
    · rw [upd_ne ha] at q ⊢; exact e a u q
  · by_cases ha : a = p
    · subst ha; exact h
    · rw [upd_ne ha, n] at q; cases q
/-- a new object, not frozen -/
theorem Gr.wild {F H : Hp} {p : Addr} {o : HO} (e : Ex F H) (h : H p = none) : Gr F H F (upd H p o) :=
  ⟨Ex.refl F, e.trans (Ex.new h), Ex.new h, fun a u q n => by rw [n] at q; cases q⟩

/-! ### what the slots hold -/
/-- an own thing that may still change: over what is frozen, the heap, its root, the addresses that are its own -/
abbrev Mu := Hp → Hp → Addr → List Addr → Prop
class MoM (M : Mu) : Prop where
  mo : ∀ {F F' H H' : Hp} {p : Addr} {S : List Addr}, Exs F F' → (∀ a ∈ S, H' a = H a) → M F H p S → M F' H' p S
  own : ∀ {F H : Hp} {p : Addr} {S : List Addr}, M F H p S → ∀ a ∈ S, H a ≠ none
/-- an own list -/
def mL {α : Type} (r : Rp α) (xs : List α) : Mu := fun F H p S => S = [p] ∧ ∃ vs, H p = some (.lst vs) ∧ xs.length ≤ 16777216 ∧ Paired (r F) vs xs
instance {α : Type} (r : Rp α) [h : Mo r] (xs : List α) : MoM (mL r xs) := ⟨fun e k ⟨h0, vs, h1, h2, h3⟩ => ⟨h0, vs, by rw [k _ (by rw [h0]; exact List.mem_cons_self)]; exact h1, h2, pmap (fun _ _ z => h.mo e z) h3⟩,
  fun ⟨h0, vs, h1, _⟩ a ha => by rw [h0] at ha; rw [List.mem_singleton.mp ha, h1]; exact fun z => nomatch z⟩
inductive Slot : Type 1
  | no
  | fz {α : Type} (r : Rp α) (i : Mo r) (a : α)
  | bw {α : Type} (r : Rp α) (i : Mo r) (a : α)
  | ow (M : Mu) (i : MoM M)
abbrev sF {α : Type} (r : Rp α) [i : Mo r] (a : α) : Slot := .fz r i a
abbrev sB {α : Type} (r : Rp α) [i : Mo r] (a : α) : Slot := .bw r i a
abbrev sO (M : Mu) [i : MoM M] : Slot := .ow M i
abbrev sL {α : Type} (r : Rp α) [Mo r] (xs : List α) : Slot := sO (mL r xs)
def SlotOk (H0 F H : Hp) (s : Option V) (S : List Addr) : Slot → Prop
  | .no => True
  | .fz r _ a => ∃ v, s = some v ∧ r F v a
  | .bw r _ a => ∃ v, s = some v ∧ r H0 v a
  | .ow M _ => ∃ p, s = some (.ref p) ∧ (∀ a ∈ S, F a = none ∧ H0 a = none) ∧ M F H p S
structure EnvF (F0 H0 : Hp) (G : List Slot) (σ : L2.St) (F H : Hp) (fp : Nat → List Addr) : Prop where
  gr : Gr F0 H0 F H
  len : σ.length = G.length
  at_ : ∀ (i : Nat) (s : Slot), G[i]? = some s → ∃ x, σ[i]? = some x ∧ SlotOk H0 F H x (fp i) s
  dj : ∀ (i j : Nat) (M : Mu) (iM : MoM M) (N : Mu) (iN : MoM N) (a : Addr), i ≠ j → G[i]? = some (.ow M iM) → G[j]? = some (.ow N iN) → a ∈ fp i → a ∉ fp j
def EnvOk (F0 H0 : Hp) (G : List Slot) (σ : L2.St) (F H : Hp) : Prop := ∃ fp, EnvF F0 H0 G σ F H fp
section
variable {F0 H0 F H F' H' : Hp} {G : List Slot} {σ : L2.St}
theorem EnvOk.gr (E : EnvOk F0 H0 G σ F H) : Gr F0 H0 F H := let ⟨_, e⟩ := E; e.gr
theorem EnvOk.len (E : EnvOk F0 H0 G σ F H) : σ.length = G.length := let ⟨_, e⟩ := E; e.len
theorem EnvOk.fz_at {α : Type} {r : Rp α} {im : Mo r} {a : α} {i : Nat} (E : EnvOk F0 H0 G σ F H) (h : G[i]? = some (.fz r im a)) : ∃ v, σ[i]? = some (some v) ∧ r F v a := by
  obtain ⟨fp, e⟩ := E
  obtain ⟨x, hx, v, hv, ok⟩ := e.at_ i _ h
  exact ⟨v, by rw [hx, hv], ok⟩
theorem EnvOk.bw_at {α : Type} {r : Rp α} {im : Mo r} {a : α} {i : Nat} (E : EnvOk F0 H0 G σ F H) (h : G[i]? = some (.bw r im a)) : ∃ v, σ[i]? = some (some v) ∧ r H0 v a := by
  obtain ⟨fp, e⟩ := E
  obtain ⟨x, hx, v, hv, ok⟩ := e.at_ i _ h
  exact ⟨v, by rw [hx, hv], ok⟩
theorem EnvOk.ow_at {M : Mu} {iM : MoM M} {i : Nat} (E : EnvOk F0 H0 G σ F H) (h : G[i]? = some (.ow M iM)) : ∃ p S, σ[i]? = some (some (.ref p)) ∧ (∀ a ∈ S, F a = none ∧ H0 a = none) ∧ M F H p S := by
  obtain ⟨fp, e⟩ := E
  obtain ⟨x, hx, p, hp, ok⟩ := e.at_ i _ h
  exact ⟨p, _, by rw [hx, hp], ok⟩
theorem EnvOk.lst_at {α : Type} {r : Rp α} {xs : List α} {iM : MoM (mL r xs)} {i : Nat} (E : EnvOk F0 H0 G σ F H) (h : G[i]? = some (.ow (mL r xs) iM)) : ∃ p vs, σ[i]? = some (some (.ref p)) ∧ F p = none ∧ H0 p = none ∧ H p = some (.lst vs) ∧ xs.length ≤ 16777216 ∧ Paired (r F) vs xs := by
  obtain ⟨p, S, e, h1, rfl, vs, h2, h3, h4⟩ := E.ow_at h
  exact ⟨p, vs, e, (h1 p (by simp)).1, (h1 p (by simp)).2, h2, h3, h4⟩
theorem EnvOk.gro (E : EnvOk F0 H0 G σ F H) (g : Gr F H F' H') : EnvOk F0 H0 G σ F' H' := by
  obtain ⟨fp, E⟩ := E
  refine ⟨fp, E.gr.trans g, E.len, fun i s h => ?_, E.dj⟩
  obtain ⟨x, hx, ok⟩ := E.at_ i s h
  refine ⟨x, hx, ?_⟩
  cases s with
  | no => trivial
  | fz r im a => obtain ⟨v, e, q⟩ := ok; exact ⟨v, e, im.ex g.ff q⟩
  | bw r im a => exact ok
  | ow M im =>
    obtain ⟨p, e, h1, h2⟩ := ok
    refine ⟨p, e, fun a ha => ⟨?_, (h1 a ha).2⟩, im.mo g.ff.s (fun a ha => ?_) h2⟩
    · cases q : F' a with
      | none => rfl
      | some u => exact absurd (g.nw a u q (h1 a ha).1) (im.own h2 a ha)
    · cases q : H a with
      | none => exact absurd q (im.own h2 a ha)
      | some u => exact g.hh a u q
theorem set_get.{u} {α : Type u} {l : List α} {i j : Nat} {x y : α} (h : (l.set i x)[j]? = some y) : (i = j ∧ i < l.length ∧ x = y) ∨ (i ≠ j ∧ l[j]? = some y) := by
  by_cases e : i = j
  · subst e
    by_cases hl : i < l.length
    · rw [List.getElem?_set_self hl] at h; exact .inl ⟨rfl, hl, Option.some.inj h⟩
    · rw [List.getElem?_eq_none (by simpa using hl)] at h; cases h
  · rw [List.getElem?_set_ne e] at h; exact .inr ⟨e, h⟩
/-- a slot is stored, no own thing -/
theorem EnvOk.set {i : Nat} {s : Slot} {v : V} (E : EnvOk F0 H0 G σ F H) (ok : SlotOk H0 F H (some v) [] s) (hn : ∀ M im, s ≠ .ow M im) : EnvOk F0 H0 (G.set i s) (σ.set i (some v)) F H := by
  obtain ⟨fp, E⟩ := E
  refine ⟨fp, E.gr, by rw [List.length_set, List.length_set, E.len], fun j t h => ?_, fun j k M iM N iN a hjk h1 h2 h3 => ?_⟩
  · rcases set_get h with ⟨rfl, hl, rfl⟩ | ⟨ne, h⟩
    · refine ⟨_, by rw [List.getElem?_set_self (by rw [E.len]; exact hl)], ?_⟩
      cases s with
      | ow M im => exact absurd rfl (hn M im)
      | no => trivial
      | fz r im a => exact ok
      | bw r im a => exact ok
    · obtain ⟨x, hx, o⟩ := E.at_ j t h
      exact ⟨x, by rw [List.getElem?_set_ne ne]; exact hx, o⟩
  · rcases set_get h1 with ⟨_, _, e⟩ | ⟨n1, h1⟩
    · exact absurd e (hn M iM)
    · rcases set_get h2 with ⟨_, _, e⟩ | ⟨n2, h2⟩
      · exact absurd e (hn N iN)
      · exact E.dj j k M iM N iN a hjk h1 h2 h3
/-- a slot gets a new own thing, at addresses that were free -/
theorem EnvOk.setO {i : Nat} {M : Mu} {im : MoM M} {p : Addr} {S : List Addr} (E : EnvOk F0 H0 G σ F H) (g : Gr F H F' H') (hS : ∀ a ∈ S, H a = none ∧ F' a = none) (m : M F' H' p S) : EnvOk F0 H0 (G.set i (.ow M im)) (σ.set i (some (.ref p))) F' H' := by
  have hE := E
  obtain ⟨fp, E⟩ := E
  have old : ∀ (j : Nat) (N : Mu) (iN : MoM N) (a : Addr), G[j]? = some (.ow N iN) → a ∈ fp j → a ∉ S := fun j N iN a h1 h2 h3 => by
    obtain ⟨x, hx, q, _, _, ok⟩ := E.at_ j _ h1
    exact iN.own ok a h2 (hS a h3).1
  obtain ⟨fp', E'⟩ : ∃ fp', EnvF F0 H0 G σ F' H' fp' ∧ fp' = fp := by
    refine ⟨fp, ⟨E.gr.trans g, E.len, fun j s h => ?_, E.dj⟩, rfl⟩
    obtain ⟨x, hx, ok⟩ := E.at_ j s h
    refine ⟨x, hx, ?_⟩
    cases s with
    | no => trivial
    | fz r im a => obtain ⟨v, e, q⟩ := ok; exact ⟨v, e, im.ex g.ff q⟩
    | bw r im a => exact ok
    | ow N iN =>
      obtain ⟨q, e, h1, h2⟩ := ok
      refine ⟨q, e, fun a ha => ⟨?_, (h1 a ha).2⟩, iN.mo g.ff.s (fun a ha => ?_) h2⟩
      · cases z : F' a with
        | none => rfl
        | some u => exact absurd (g.nw a u z (h1 a ha).1) (iN.own h2 a ha)
      · cases z : H a with
        | none => exact absurd z (iN.own h2 a ha)
        | some u => exact g.hh a u z
  obtain ⟨E', rfl⟩ := E'
  refine ⟨fun j => if j = i then S else fp' j, E'.gr, by rw [List.length_set, List.length_set, E.len], fun j t h => ?_, fun j k N iN N' iN' a hjk h1 h2 h3 => ?_⟩
  · rcases set_get h with ⟨rfl, hl, rfl⟩ | ⟨ne, h⟩
    · refine ⟨_, by rw [List.getElem?_set_self (by rw [E.len]; exact hl)], p, rfl, fun a ha => ?_, ?_⟩
      · rw [if_pos rfl] at ha
        exact ⟨(hS a ha).2, E.gr.hh.back (hS a ha).1⟩
      · rw [if_pos rfl]; exact m
    · obtain ⟨x, hx, o⟩ := E'.at_ j t h
      refine ⟨x, by rw [List.getElem?_set_ne ne]; exact hx, ?_⟩
      rw [if_neg (fun e => ne e.symm)]
      exact o
  · rcases set_get h1 with ⟨rfl, _, _⟩ | ⟨n1, h1⟩
    · rw [if_pos rfl] at h3
      rw [if_neg (fun e => hjk e.symm)]
      rcases set_get h2 with ⟨e', _, _⟩ | ⟨n2, h2⟩
      · exact absurd e' hjk
      · exact fun z => old k _ _ a h2 z h3
    · rw [if_neg (fun e => n1 e.symm)] at h3
      rcases set_get h2 with ⟨rfl, _, _⟩ | ⟨n2, h2⟩
      · rw [if_pos rfl]; exact old j _ _ a h1 h3
      · rw [if_neg (fun e => n2 e.symm)]
        exact E.dj j k N iN N' iN' a hjk h1 h2 h3
/-- an own thing changes: what was its own or is new, nothing else -/
theorem EnvOk.mut {i : Nat} {M N : Mu} {im : MoM M} {iN : MoM N} {p : Addr} {S S' : List Addr} (E : EnvOk F0 H0 G σ F H) (hi : G[i]? = some (.ow M im))
    (k : ∀ p S, σ[i]? = some (some (.ref p)) → (∀ a ∈ S, F a = none ∧ H0 a = none) → M F H p S → ∃ S', Ex F F' ∧ (∀ a u, F' a = some u → F a = none → H a = none) ∧ (∀ a, a ∉ S → a ∉ S' → H a ≠ none → H' a = H a) ∧ Ex F' H' ∧ (∀ a ∈ S', (a ∈ S ∨ H a = none) ∧ F' a = none) ∧ N F' H' p S') : EnvOk F0 H0 (G.set i (.ow N iN)) σ F' H' := by
  obtain ⟨fp, E⟩ := E
  obtain ⟨x, hx, p, e1, f1, f2⟩ := E.at_ i _ hi
  subst e1
  obtain ⟨S', ff, nw, keep, fh, own, m⟩ := k p _ hx f1 f2
  have hil : i < G.length := (List.getElem?_eq_some_iff.mp hi).1
  have out : ∀ (j : Nat) (A : Mu) (iA : MoM A) (a : Addr), j ≠ i → G[j]? = some (.ow A iA) → a ∈ fp j → a ∉ fp i ∧ a ∉ S' ∧ H a ≠ none := fun j A iA a hj h1 h2 => by
    obtain ⟨y, hy, q, _, _, ok⟩ := E.at_ j _ h1
    have h3 : a ∉ fp i := E.dj j i _ _ _ _ a hj h1 hi h2
    have h4 := iA.own ok a h2
    exact ⟨h3, fun z => (own a z).1.elim h3 h4, h4⟩
  refine ⟨fun j => if j = i then S' else fp j, ⟨E.gr.ff.trans ff, fh, fun a u e => ?_, fun a u q n => ?_⟩, by rw [List.length_set, E.len], fun j t h => ?_, fun j l A iA B iB a hjk h1 h2 h3 => ?_⟩
  · have z := E.gr.hh a u e
    have nS : a ∉ fp i := fun z => by rw [(f1 a z).2] at e; cases e
    have nS' : a ∉ S' := fun y => by
      rcases (own a y).1 with y | y
      · exact nS y
      · rw [z] at y; cases y
    rw [keep a nS nS' (by rw [z]; exact fun q => nomatch q)]; exact z
  · cases q' : F a with
    | none => exact E.gr.hh.back (nw a u q q')
    | some o => exact E.gr.nw a o q' n
  · rcases set_get h with ⟨rfl, hl, rfl⟩ | ⟨ne, h⟩
    · refine ⟨_, hx, p, rfl, fun a ha => ?_, ?_⟩
      · rw [if_pos rfl] at ha
        refine ⟨(own a ha).2, ?_⟩
        rcases (own a ha).1 with y | y
        · exact (f1 a y).2
        · exact E.gr.hh.back y
      · rw [if_pos rfl]; exact m
    · obtain ⟨y, hy, ok⟩ := E.at_ j t h
      refine ⟨y, hy, ?_⟩
      rw [if_neg (fun e => ne e.symm)]
      cases t with
      | no => trivial
      | fz r im a => obtain ⟨v, e, q⟩ := ok; exact ⟨v, e, im.ex ff q⟩
      | bw r im a => exact ok
      | ow B iB =>
        obtain ⟨q, e, g1, g2⟩ := ok
        refine ⟨q, e, fun a ha => ⟨?_, (g1 a ha).2⟩, iB.mo ff.s (fun a ha => ?_) g2⟩
        · cases z : F' a with
          | none => rfl
          | some u => exact absurd (nw a u z (g1 a ha).1) (iB.own g2 a ha)
        · obtain ⟨o1, o2, o3⟩ := out j _ _ a (fun e => ne e.symm) h ha
          exact keep a o1 o2 o3
  · have old : ∀ (j : Nat) (A : Mu) (iA : MoM A), (G.set i (.ow N iN))[j]? = some (.ow A iA) → ∃ (A' : Mu) (iA' : MoM A'), G[j]? = some (.ow A' iA') := fun j A iA h => by
      rcases set_get h with ⟨rfl, _, _⟩ | ⟨_, h⟩
      · exact ⟨_, _, hi⟩
      · exact ⟨_, _, h⟩
    obtain ⟨A', iA', k1⟩ := old j _ _ h1
    obtain ⟨B', iB', k2⟩ := old l _ _ h2
    by_cases ej : j = i
    · rw [if_pos ej] at h3
      rw [if_neg (fun e => hjk (ej.trans e.symm))]
      exact fun z => (out l _ _ a (fun e => hjk (ej.trans e.symm)) k2 z).2.1 h3
    · rw [if_neg ej] at h3
      by_cases el : l = i
      · rw [if_pos el]
        exact (out j _ _ a ej k1 h3).2.1
      · rw [if_neg el]
        exact E.dj j l _ _ _ _ a hjk k1 k2 h3
/-- an own list changes -/
theorem EnvOk.mutL {α β : Type} {r : Rp α} {s : Rp β} {xs : List α} {ys : List β} {im : MoM (mL r xs)} {iN : MoM (mL s ys)} {i : Nat} {p : Addr} {vs : List V} (E : EnvOk F0 H0 G σ F H) (hi : G[i]? = some (.ow (mL r xs) im)) (hp : σ[i]? = some (some (.ref p))) (hl : ys.length ≤ 16777216) (m : Paired (s F) vs ys) :
    EnvOk F0 H0 (G.set i (.ow (mL s ys) iN)) σ F (upd H p (.lst vs)) := by
  have gr := E.gr
  refine E.mut (p := p) (S := []) (S' := []) hi fun q S hq hS ⟨hS', ws, h1, h2, h3⟩ => ?_
  rw [hp] at hq; cases hq
  subst hS'
  have hF := (hS p (by simp)).1
  refine ⟨[p], Ex.refl F, fun a u e n => (by rw [n] at e; cases e), fun a ha _ _ => upd_ne (fun e => ha (by rw [e]; simp)), fun a u e => by rw [upd_ne (ne_of_none e hF)]; exact gr.fh a u e, fun a ha => ⟨.inl ha, by rw [List.mem_singleton.mp ha]; exact hF⟩, rfl, vs, upd_same, hl, m⟩
/-- an own thing is frozen, with all that is its own -/
theorem EnvOk.freeze {i : Nat} {M : Mu} {im : MoM M} {s : Slot} (E : EnvOk F0 H0 G σ F H) (hi : G[i]? = some (.ow M im)) (hs : ∀ p S F', M F H p S → (∀ a ∈ S, F' a = H a) → Ex F F' → Ex F' H → SlotOk H0 F' H (some (.ref p)) [] s) (hn : ∀ M im, s ≠ .ow M im) :
    ∃ F', EnvOk F0 H0 (G.set i s) σ F' H ∧ Gr F0 H0 F' H ∧ Ex F F' := by
  obtain ⟨fp, E⟩ := E
  obtain ⟨x, hx, p, e1, f1, f2⟩ := E.at_ i _ hi
  subst e1
  have hil : i < G.length := (List.getElem?_eq_some_iff.mp hi).1
  let F' : Hp := fun a => if a ∈ fp i then H a else F a
  have at1 : ∀ a ∈ fp i, F' a = H a := fun a ha => if_pos ha
  have at2 : ∀ a, a ∉ fp i → F' a = F a := fun a ha => if_neg ha
  have ff : Ex F F' := fun a o e => by rw [at2 a (fun z => by rw [(f1 a z).1] at e; cases e)]; exact e
  have fh : Ex F' H := fun a o e => by
    by_cases ha : a ∈ fp i
    · rw [at1 a ha] at e; exact e
    · rw [at2 a ha] at e; exact E.gr.fh a o e
  have g : Gr F0 H0 F' H := ⟨E.gr.ff.trans ff, fh, E.gr.hh, fun a u q n => by
    by_cases ha : a ∈ fp i
    · exact (f1 a ha).2
    · rw [at2 a ha] at q; exact E.gr.nw a u q n⟩
  refine ⟨F', ⟨fp, g, by rw [List.length_set, E.len], fun j t h => ?_, fun j k A iA B iB a hjk h1 h2 h3 => ?_⟩, g, ff⟩
  · rcases set_get h with ⟨rfl, hl, rfl⟩ | ⟨ne, h⟩
    · refine ⟨_, hx, ?_⟩
      have z := hs p _ F' f2 at1 ff fh
      cases s with
      | ow M im => exact absurd rfl (hn M im)
      | no => trivial
      | fz r im a => exact z
      | bw r im a => exact z
    · obtain ⟨y, hy, ok⟩ := E.at_ j t h
      refine ⟨y, hy, ?_⟩
      cases t with
      | no => trivial
      | fz r im a => obtain ⟨v, e, q⟩ := ok; exact ⟨v, e, im.ex ff q⟩
      | bw r im a => exact ok
      | ow B iB =>
        obtain ⟨q, e, g1, g2⟩ := ok
        exact ⟨q, e, fun a ha => ⟨by rw [at2 a (E.dj j i _ _ _ _ a (fun e => ne e.symm) h hi ha)]; exact (g1 a ha).1, (g1 a ha).2⟩, iB.mo ff.s (fun _ _ => rfl) g2⟩
  · rcases set_get h1 with ⟨_, _, e⟩ | ⟨n1, h1⟩
    · exact absurd e (hn A iA)
    · rcases set_get h2 with ⟨_, _, e⟩ | ⟨n2, h2⟩
      · exact absurd e (hn B iB)
      · exact E.dj j k _ _ _ _ a hjk h1 h2 h3
/-- forgetting -/
theorem EnvOk.drop {i : Nat} (E : EnvOk F0 H0 G σ F H) : EnvOk F0 H0 (G.set i .no) σ F H := by
  obtain ⟨fp, E⟩ := E
  refine ⟨fp, E.gr, by rw [List.length_set, E.len], fun j t h => ?_, fun j k A iA B iB q hjk h1 h2 h3 => ?_⟩
  · rcases set_get h with ⟨rfl, hl, rfl⟩ | ⟨ne, h⟩
    · exact ⟨_, by rw [List.getElem?_eq_getElem (by rw [E.len]; exact hl)], trivial⟩
    · exact E.at_ j t h
  · rcases set_get h1 with ⟨_, _, e⟩ | ⟨n1, h1⟩
    · cases e
    · rcases set_get h2 with ⟨_, _, e⟩ | ⟨n2, h2⟩
      · cases e
      · exact E.dj j k _ _ _ _ q hjk h1 h2 h3
theorem EnvOk.wipe (E : EnvOk F0 H0 G σ F H) {i : Nat} : EnvOk F0 H0 (G.set i .no) (σ.set i none) F H := by
  obtain ⟨fp, E⟩ := E
  refine ⟨fp, E.gr, by rw [List.length_set, List.length_set, E.len], fun j t h => ?_, fun j k A iA B iB q hjk h1 h2 h3 => ?_⟩
  · rcases set_get h with ⟨rfl, hl, rfl⟩ | ⟨ne, h⟩
    · exact ⟨_, by rw [List.getElem?_set_self (by rw [E.len]; exact hl)], trivial⟩
    · obtain ⟨x, hx, o⟩ := E.at_ j t h
      exact ⟨x, by rw [List.getElem?_set_ne ne]; exact hx, o⟩
  · rcases set_get h1 with ⟨_, _, e⟩ | ⟨n1, h1⟩
    · cases e
    · rcases set_get h2 with ⟨_, _, e⟩ | ⟨n2, h2⟩
      · cases e
      · exact E.dj j k _ _ _ _ q hjk h1 h2 h3
end

/-! ### the judgements -/
/-- sh: the datum is frozen; b0: it stands at the entry; bo: it stands now -/
inductive Md | sh | b0 | bo
def pk : Md → Hp → Hp → Hp → Hp
  | .sh, F, _, _ => F
  | .b0, _, H0, _ => H0
  | .bo, _, _, H => H
section
variable {F0 H0 F H F' H' : Hp}
theorem pk_mono (m : Md) (g : Gr F H F' H') : Ex (pk m F H0 H) (pk m F' H0 H') := by
  cases m with
  | sh => exact g.ff
  | b0 => exact Ex.refl _
  | bo => exact g.hh
theorem pk_now {m : Md} (g : Gr F0 H0 F H) : Ex (pk m F H0 H) H := by
  cases m with
  | sh => exact g.fh
  | b0 => exact g.hh
  | bo => exact Ex.refl _
end
section
variable (F0 H0 : Hp)
def Ed {α : Type} (t : TE) (G : List Slot) (m : Md) (r : Rp α) (a : α) : Prop := ∀ σ F H, EnvOk F0 H0 G σ F H → ∀ Q : VK, (∀ v F' H', Gr F H F' H' → r (pk m F' H0 H') v a → Q v H') → t σ H Q
def Et (t : TT) (G : List Slot) (b : Bool) : Prop := ∀ σ F H, EnvOk F0 H0 G σ F H → ∀ Q : Bool → Hp → Prop, (∀ F' H', Gr F H F' H' → Q b H') → t σ H Q
def Gk (K : L2.St → Hp → Prop) (G : List Slot) : Prop := ∀ σ F H, EnvOk F0 H0 G σ F H → K σ H
/-- what is known at a place where ways meet -/
def EnvK (G : List Slot) : L2.St → Hp → Prop := fun σ H => ∃ F, EnvOk F0 H0 G σ F H
end
abbrev RA (α : Type) := Hp → Hp → Hp → List V → α → Prop
section
variable (F0 H0 : Hp)
def Ea {α : Type} (t : TA) (G : List Slot) (ra : RA α) (a : α) : Prop := ∀ σ F H, EnvOk F0 H0 G σ F H → ∀ Q : List V → Hp → Prop, (∀ vs F' H', Gr F H F' H' → ra F' H0 H' vs a → Q vs H') → t σ H Q
end
/-- the parameters of a def -/
inductive Pt : Type → Type 1
  | nil : Pt Unit
  | cons {α β : Type} (m : Md) (r : Rp α) (i : Mo r) (t : Pt β) : Pt (α × β)
def Pt.ra {α : Type} : Pt α → RA α
  | .nil => fun _ _ _ vs _ => vs = []
  | .cons m r _ t => fun F H0 H vs a => ∃ v us, vs = v :: us ∧ r (pk m F H0 H) v a.1 ∧ t.ra F H0 H us a.2
theorem Pt.mono {α : Type} : ∀ (T : Pt α) {F H F' H' H0 : Hp} {vs : List V} {a : α}, Gr F H F' H' → T.ra F H0 H vs a → T.ra F' H0 H' vs a
  | .nil, _, _, _, _, _, _, _, _, h => h
  | .cons m r i t, _, _, _, _, _, _, _, g, h => by
    obtain ⟨v, us, h1, h2, h3⟩ := h
    exact ⟨v, us, h1, i.ex (pk_mono m g) h2, t.mono g h3⟩
def Pt.count {α : Type} : Pt α → Nat
  | .nil => 0
  | .cons _ _ _ t => t.count + 1
theorem Pt.length {α : Type} : ∀ (T : Pt α) {F H H0 : Hp} {vs : List V} {a : α}, T.ra F H0 H vs a → vs.length = T.count
  | .nil, _, _, _, _, _, h => by rw [show _ = _ from h]; rfl
  | .cons m r i t, _, _, _, _, _, h => by
    obtain ⟨v, us, h1, h2, h3⟩ := h
    rw [h1, List.length_cons, t.length h3]; rfl
/-- what a parameter's slot holds at the entry -/
def pslot {α : Type} (m : Md) (r : Rp α) (i : Mo r) (a : α) : Slot := match m with
  | .sh => .fz r i a
  | _ => .bw r i a
def Pt.slots {α : Type} : Pt α → α → List Slot
  | .nil, _ => []
  | .cons m r i t, a => pslot m r i a.1 :: t.slots a.2

end LK

set_option Elab.async false
set_option linter.all false
set_option maxRecDepth 100000
set_option maxHeartbeats 4000000
set_option autoImplicit false
/-! LK2: typed readings of expressions. -/
namespace LK
open PySem L2
theorem plen {α β : Type} {R : α → β → Prop} {xs : List α} {ys : List β} (h : Paired R xs ys) : xs.length = ys.length := h.length
theorem pget {α β : Type} {R : α → β → Prop} : ∀ {xs : List α} {ys : List β} {i : Nat} {y : β}, Paired R xs ys → ys[i]? = some y → ∃ x, xs[i]? = some x ∧ R x y
  | _, _, i, y, .nil, e => by simp at e
  | _, _, 0, y, .cons h _, e => by simp at e; subst e; exact ⟨_, rfl, h⟩
  | _, _, i + 1, y, .cons _ t, e => by
    obtain ⟨x, h1, h2⟩ := pget (i := i) t (by simpa using e)
    exact ⟨x, by simpa using h1, h2⟩
theorem pgetL {α β : Type} {R : α → β → Prop} : ∀ {xs : List α} {ys : List β} {i : Nat} {x : α}, Paired R xs ys → xs[i]? = some x → ∃ y, ys[i]? = some y ∧ R x y
  | _, _, i, y, .nil, e => by simp at e
  | _, _, 0, y, .cons h _, e => by simp at e; subst e; exact ⟨_, rfl, h⟩
  | _, _, i + 1, y, .cons _ t, e => by
    obtain ⟨x, h1, h2⟩ := pgetL (i := i) t (by simpa using e)
    exact ⟨x, by simpa using h1, h2⟩
theorem papp {α β : Type} {R : α → β → Prop} {xs xs' : List α} {ys ys' : List β} (h : Paired R xs ys) (h' : Paired R xs' ys') : Paired R (xs ++ xs') (ys ++ ys') := by
  induction h with
  | nil => exact h'
  | cons a _ ih => exact .cons a ih
theorem ptake {α β : Type} {R : α → β → Prop} : ∀ (n : Nat) {xs : List α} {ys : List β}, Paired R xs ys → Paired R (xs.take n) (ys.take n)
  | 0, _, _, _ => .nil
  | _ + 1, _, _, .nil => .nil
  | n + 1, _, _, .cons a t => .cons a (ptake n t)
theorem pdrop {α β : Type} {R : α → β → Prop} : ∀ (n : Nat) {xs : List α} {ys : List β}, Paired R xs ys → Paired R (xs.drop n) (ys.drop n)
  | 0, _, _, h => h
  | _ + 1, _, _, .nil => .nil
  | n + 1, _, _, .cons _ t => pdrop n t
theorem pset {α β : Type} {R : α → β → Prop} {x : α} {y : β} (r : R x y) : ∀ {xs : List α} {ys : List β} (i : Nat), Paired R xs ys → Paired R (xs.set i x) (ys.set i y)
  | _, _, _, .nil => .nil
  | _, _, 0, .cons _ t => .cons r t
  | _, _, i + 1, .cons q t => .cons q (pset r i t)
theorem perase {α β : Type} {R : α → β → Prop} : ∀ {xs : List α} {ys : List β} (i : Nat), Paired R xs ys → Paired R (xs.eraseIdx i) (ys.eraseIdx i)
  | _, _, _, .nil => .nil
  | _, _, 0, .cons _ t => t
  | _, _, i + 1, .cons q t => .cons q (perase i t)
theorem pdl {α β : Type} {R : α → β → Prop} : ∀ {xs : List α} {ys : List β}, Paired R xs ys → Paired R xs.dropLast ys.dropLast
  | _, _, .nil => .nil
  | _, _, .cons _ .nil => .nil
  | _, _, .cons q (.cons r t) => .cons q (pdl (.cons r t))
theorem sz_le {n : Nat} (h : n ≤ 16777216) : n ≤ sizeLine := by rw [sizeLine_eq]; exact h
theorem le_sz {n : Nat} (h : n ≤ sizeLine) : n ≤ 16777216 := by rw [sizeLine_eq] at h; exact h
theorem sz_lt {n : Nat} (h : n < 16777216) : n < sizeLine := by rw [sizeLine_eq]; exact h

/-! ### items by place -/
def ixD {α : Type} [Inhabited α] (xs : List α) (i : Int) : α := (atI xs i).getD default
def ixOk (n : Nat) (i : Int) : Prop := -(n : Int) ≤ i ∧ i < n
theorem ixN_some {n : Nat} {i : Int} (h : ixOk n i) : ∃ j, ixN n i = some j ∧ j < n := by
  unfold ixN
  obtain ⟨h1, h2⟩ := h
  by_cases h0 : 0 ≤ i
  · rw [if_pos h0, if_pos h2]; exact ⟨_, rfl, by omega⟩
  · rw [if_neg h0, if_pos h1]; exact ⟨_, rfl, by omega⟩
theorem atI_ok {α : Type} [Inhabited α] {xs : List α} {i : Int} (h : ixOk xs.length i) : atI xs i = some (ixD xs i) := by
  obtain ⟨j, e, hj⟩ := ixN_some h
  unfold ixD atI
  rw [e]
  show xs[j]? = some ((xs[j]?).getD default)
  rw [List.getElem?_eq_getElem hj]; rfl
theorem pat {α β : Type} {R : α → β → Prop} {xs : List α} {ys : List β} {i : Int} {y : β} (p : Paired R xs ys) (h : atI ys i = some y) : ∃ x, atI xs i = some x ∧ R x y := by
  unfold atI at h ⊢
  rw [plen p]
  cases e : ixN ys.length i with
  | none => rw [e] at h; cases h
  | some j => rw [e] at h; exact pget p h
theorem ixD_mem {α : Type} [Inhabited α] {xs : List α} {j : Int} (h : ixOk xs.length j) : ixD xs j ∈ xs := by
  have e := atI_ok h
  unfold atI at e
  cases q : ixN xs.length j with
  | none => rw [q] at e; cases e
  | some n => rw [q] at e; exact List.mem_of_getElem? e
theorem ixD_nat {α : Type} [Inhabited α] (xs : List α) (i : Nat) : ixD xs (i : Int) = xs.getD i default := by
  unfold ixD atI ixN
  rw [if_pos (by omega)]
  by_cases h : (i : Int) < xs.length
  · rw [if_pos h]; simp [List.getD_eq_getElem?_getD]
  · rw [if_neg h]; simp [List.getD_eq_getElem?_getD]; rw [List.getElem?_eq_none (by omega)]; rfl
/-- the part of a list -/
def cutL {α : Type} (xs : List α) (lo hi : Option Int) : List α := (xs.drop (HT.sIx xs.length 0 lo)).take (HT.sIx xs.length xs.length hi - HT.sIx xs.length 0 lo)
theorem pcut {α β : Type} {R : α → β → Prop} {xs : List α} {ys : List β} (lo hi : Option Int) (p : Paired R xs ys) : Paired R (cutL xs lo hi) (cutL ys lo hi) := by
  unfold cutL
  rw [plen p]
  exact ptake _ (pdrop _ p)
theorem cutL_mem {α : Type} {xs : List α} {lo hi : Option Int} {x : α} (h : x ∈ cutL xs lo hi) : x ∈ xs := List.mem_of_mem_drop (List.mem_of_mem_take h)
theorem cutL_le {α : Type} (xs : List α) (lo hi : Option Int) : (cutL xs lo hi).length ≤ xs.length := by
  unfold cutL
  rw [List.length_take, List.length_drop]
  omega

section
variable {F0 H0 : Hp} {G : List Slot} {m m1 m2 : Md} {ta tb tc te : TE} {t u : TT} {K : PySem.W.Frag}
/-! ### new lists -/
def En {α : Type} (F0 H0 : Hp) (t : TE) (G : List Slot) (r : Rp α) (xs : List α) : Prop := ∀ σ F H, EnvOk F0 H0 G σ F H → ∀ Q : VK, (∀ p vs F' H', Gr F H F' H' → H p = none → F' p = none → H' p = some (.lst vs) → xs.length ≤ 16777216 → Paired (r F') vs xs → Q (.ref p) H') → t σ H Q
theorem En.ed {α : Type} {r : Rp α} [Mo r] {xs : List α} (h : En F0 H0 te G r xs) : Ed F0 H0 te G .sh (rLst r) xs := fun σ F H E Q q =>
  h σ F H E Q fun p vs F' H' g h1 h2 h3 h4 h5 => q _ (upd F' p (.lst vs)) H' ⟨g.ff.trans (Ex.new h2), fun a o e => by
      by_cases ha : a = p
      · subst ha; rw [upd_same] at e; cases e; exact h3
      · rw [upd_ne ha] at e; exact g.fh a o e, g.hh, fun a o e n => by
      by_cases ha : a = p
      · subst ha; exact h1
      · rw [upd_ne ha] at e; exact g.nw a o e n⟩ ⟨p, vs, rfl, upd_same, h4, pmap (fun _ _ z => mox (Ex.new h2) z) h5⟩
theorem Ed.bo {α : Type} {r : Rp α} [Mo r] {a : α} (h : Ed F0 H0 te G m r a) : Ed F0 H0 te G .bo r a := fun σ F H E Q q =>
  h σ F H E Q fun v F' H' g x => q v F' H' g (mox (pk_now (E.gr.trans g)) x)
theorem Ed.fl {α : Type} {r : Rp α} [Fl r] {a : α} (h : Ed F0 H0 te G m1 r a) : Ed F0 H0 te G m r a := fun σ F H E Q q =>
  h σ F H E Q fun v F' H' g x => q v F' H' g (Fl.fl x)
theorem Ed.cast {α : Type} {r : Rp α} {a b : α} (h : Ed F0 H0 te G m r a) (e : a = b) : Ed F0 H0 te G m r b := e ▸ h
theorem Et.cast {a b : Bool} (h : Et F0 H0 t G a) (e : a = b) : Et F0 H0 t G b := e ▸ h
theorem En.cast {α : Type} {r : Rp α} {a b : List α} (h : En F0 H0 te G r a) (e : a = b) : En F0 H0 te G r b := e ▸ h

/-! ### names, constants -/
theorem ed_v {α : Type} {r : Rp α} {im : Mo r} {a : α} {i : Nat} (h : G[i]? = some (.fz r im a)) : Ed F0 H0 (tVar i) G .sh r a := fun σ F H E Q q => by
  obtain ⟨v, hx, ok⟩ := E.fz_at h
  exact ⟨v, hx, q v F H (Gr.refl E.gr.fh) ok⟩
theorem ed_b {α : Type} {r : Rp α} {im : Mo r} {a : α} {i : Nat} (h : G[i]? = some (.bw r im a)) : Ed F0 H0 (tVar i) G .b0 r a := fun σ F H E Q q => by
  obtain ⟨v, hx, ok⟩ := E.bw_at h
  exact ⟨v, hx, q v F H (Gr.refl E.gr.fh) ok⟩
/-- an own list, read -/
theorem ed_o {α : Type} {r : Rp α} [Mo r] {xs : List α} {im : MoM (mL r xs)} {i : Nat} (h : G[i]? = some (.ow (mL r xs) im)) : Ed F0 H0 (tVar i) G .bo (rLst r) xs := fun σ F H E Q q => by
  obtain ⟨p, vs, hx, h1, h2, h3, h4, h5⟩ := E.lst_at h
  exact ⟨_, hx, q _ F H (Gr.refl E.gr.fh) ⟨p, vs, rfl, h3, h4, pmap (fun _ _ z => mox E.gr.fh z) h5⟩⟩
theorem ed_c {α : Type} {r : Rp α} {v : V} {a : α} (h : ∀ F, r F v a) : Ed F0 H0 (tC v) G m r a := fun σ F H E Q q => q v F H (Gr.refl E.gr.fh) (h _)
theorem ed_int {i : Int} : Ed F0 H0 (tC (.int i)) G m rInt i := ed_c fun _ => rfl
theorem ed_bl {b : Bool} : Ed F0 H0 (tC (.bl b)) G m rBl b := ed_c fun _ => rfl
theorem ed_tx {x : Str} {a : List Nat} (h : x = ⟨a.toArray⟩) (hl : a.length ≤ 16777216) (hc : (a.all fun c => decide (c < 1114112)) = true := by decide) : Ed F0 H0 (tC (.str x)) G m rTx a := ed_c fun _ => ⟨by rw [h], hl, fun c h => of_decide_eq_true (List.all_eq_true.mp hc c h)⟩
theorem ed_none {α : Type} {r : Rp α} : Ed F0 H0 (tC .non) G m (rOpt r) none := ed_c fun _ => rfl
theorem ed_some {α : Type} {r : Rp α} {a : α} (h : Ed F0 H0 te G m r a) : Ed F0 H0 te G m (rOpt r) (some a) := h
theorem ed_nonU : Ed F0 H0 (tC .non) G m rNon () := ed_c fun _ => rfl

/-! ### operators by values -/
theorem ed_bin {α β γ : Type} {rx : Rp α} {ry : Rp β} {rz : Rp γ} [Mo rx] {x : α} {y : β} {z : γ} {r : R2} (hx : Ed F0 H0 ta G m1 rx x) (hy : Ed F0 H0 tb G m2 ry y)
    (hr : ∀ v w F H, Gr F0 H0 F H → rx (pk m1 F H0 H) v x → ry (pk m2 F H0 H) w y → ∀ Q : VK, (∀ u F' H', Gr F H F' H' → rz (pk m F' H0 H') u z → Q u H') → r v w H Q) : Ed F0 H0 (tOp r ta tb) G m rz z := fun σ F H E Q q =>
  hx σ F H E _ fun v F1 H1 g1 h1 => hy σ F1 H1 (E.gro g1) _ fun w F2 H2 g2 h2 =>
    hr v w F2 H2 (E.gr.trans (g1.trans g2)) (mox (pk_mono m1 g2) h1) h2 Q fun u F3 H3 g3 h3 => q u F3 H3 ((g1.trans g2).trans g3) h3
theorem en_bin {α β γ : Type} {rx : Rp α} {ry : Rp β} {rz : Rp γ} [Mo rx] {x : α} {y : β} {z : List γ} {r : R2} (hx : Ed F0 H0 ta G m1 rx x) (hy : Ed F0 H0 tb G m2 ry y)
    (hr : ∀ v w F H, Gr F0 H0 F H → rx (pk m1 F H0 H) v x → ry (pk m2 F H0 H) w y → ∀ Q : VK, (∀ p vs F' H', Gr F H F' H' → H p = none → F' p = none → H' p = some (.lst vs) → z.length ≤ 16777216 → Paired (rz F') vs z → Q (.ref p) H') → r v w H Q) : En F0 H0 (tOp r ta tb) G rz z := fun σ F H E Q q =>
  hx σ F H E _ fun v F1 H1 g1 h1 => hy σ F1 H1 (E.gro g1) _ fun w F2 H2 g2 h2 =>
    hr v w F2 H2 (E.gr.trans (g1.trans g2)) (mox (pk_mono m1 g2) h1) h2 Q fun p vs F3 H3 g3 h3 h4 h5 h6 h7 => q p vs F3 H3 ((g1.trans g2).trans g3) ((g1.trans g2).hh.back h3) h4 h5 h6 h7
theorem ed_un {α β : Type} {rx : Rp α} {rz : Rp β} {x : α} {z : β} {r : V → Hp → VK → Prop} (hx : Ed F0 H0 ta G m1 rx x)
    (hr : ∀ v F H, Gr F0 H0 F H → rx (pk m1 F H0 H) v x → ∀ Q : VK, (∀ u F' H', Gr F H F' H' → rz (pk m F' H0 H') u z → Q u H') → r v H Q) : Ed F0 H0 (fun σ H Q => ta σ H fun x H1 => r x H1 Q) G m rz z := fun σ F H E Q q =>
  hx σ F H E _ fun v F1 H1 g1 h1 => hr v F1 H1 (E.gr.trans g1) h1 Q fun u F3 H3 g3 h3 => q u F3 H3 (g1.trans g3) h3
theorem ed_iop {γ : Type} {rz : Rp γ} {g : Int → Int → V} {x y : Int} {z : γ} (hx : Ed F0 H0 ta G m1 rInt x) (hy : Ed F0 H0 tb G m2 rInt y) (hz : ∀ F, rz F (g x y) z) : Ed F0 H0 (tOp (rI0 g) ta tb) G m rz z :=
  ed_bin hx hy fun v w F H g0 hv hw Q q => ⟨x, y, hv, hw, q _ F H (Gr.refl g0.fh) (hz _)⟩
theorem ed_iopC {γ : Type} {rz : Rp γ} {C : Int → Int → Prop} {g : Int → Int → V} {x y : Int} {z : γ} (hx : Ed F0 H0 ta G m1 rInt x) (hy : Ed F0 H0 tb G m2 rInt y) (hc : C x y) (hz : ∀ F, rz F (g x y) z) : Ed F0 H0 (tOp (rI C g) ta tb) G m rz z :=
  ed_bin hx hy fun v w F H g0 hv hw Q q => ⟨x, y, hv, hw, hc, q _ F H (Gr.refl g0.fh) (hz _)⟩
abbrev rAddI : R2 := rI0 fun i j => .int (i + j)
theorem ed_add {x y : Int} (hx : Ed F0 H0 ta G m1 rInt x) (hy : Ed F0 H0 tb G m2 rInt y) : Ed F0 H0 (tOp (rI0 fun i j => .int (i + j)) ta tb) G m rInt (x + y) := ed_iop hx hy fun _ => rfl
theorem ed_sub {x y : Int} (hx : Ed F0 H0 ta G m1 rInt x) (hy : Ed F0 H0 tb G m2 rInt y) : Ed F0 H0 (tOp (rI0 fun i j => .int (i - j)) ta tb) G m rInt (x - y) := ed_iop hx hy fun _ => rfl
theorem ed_mul {x y : Int} (hx : Ed F0 H0 ta G m1 rInt x) (hy : Ed F0 H0 tb G m2 rInt y) (hc : (-18446744073709551616 < x ∧ x < 18446744073709551616) ∨ (-18446744073709551616 < y ∧ y < 18446744073709551616)) : Ed F0 H0 (tOp (rI CMul fun i j => .int (i * j)) ta tb) G m rInt (x * y) := ed_iopC hx hy hc fun _ => rfl
theorem ed_mod {x y : Int} (hx : Ed F0 H0 ta G m1 rInt x) (hy : Ed F0 H0 tb G m2 rInt y) (hc : 0 < y) : Ed F0 H0 (tOp (rI (fun _ j => 0 < j) fun i j => .int (i % j)) ta tb) G m rInt (x % y) := ed_iopC hx hy hc fun _ => rfl
theorem ed_div {x y : Int} (hx : Ed F0 H0 ta G m1 rInt x) (hy : Ed F0 H0 tb G m2 rInt y) (hc : 0 < y ∧ y < 1073741824) : Ed F0 H0 (tOp (rI CDiv fun i j => .int (i / j)) ta tb) G m rInt (x / y) := ed_iopC hx hy hc fun _ => rfl
theorem ed_pow {x y : Int} (hx : Ed F0 H0 ta G m1 rInt x) (hy : Ed F0 H0 tb G m2 rInt y) (hc : 0 ≤ y ∧ y ≤ 1000000 ∧ x.natAbs < 18446744073709551616) : Ed F0 H0 (tOp (rI CPow fun i j => .int (i ^ j.toNat)) ta tb) G m rInt (x ^ y.toNat) := ed_iopC hx hy hc fun _ => rfl
theorem ed_neg {x : Int} (hx : Ed F0 H0 ta G m1 rInt x) : Ed F0 H0 (tUn (rU fun i => .int (-i)) ta) G m rInt (-x) := fun σ F H E Q q => hx σ F H E _ fun v F1 H1 g1 hv => ⟨x, hv, q _ F1 H1 g1 rfl⟩
theorem ed_lt {x y : Int} (hx : Ed F0 H0 ta G m1 rInt x) (hy : Ed F0 H0 tb G m2 rInt y) : Ed F0 H0 (tOp (rI0 fun i j => .bl (decide (i < j))) ta tb) G m rBl (decide (x < y)) := ed_iop hx hy fun _ => rfl
theorem ed_le {x y : Int} (hx : Ed F0 H0 ta G m1 rInt x) (hy : Ed F0 H0 tb G m2 rInt y) : Ed F0 H0 (tOp (rI0 fun i j => .bl (decide (i ≤ j))) ta tb) G m rBl (decide (x ≤ y)) := ed_iop hx hy fun _ => rfl
theorem ed_gt {x y : Int} (hx : Ed F0 H0 ta G m1 rInt x) (hy : Ed F0 H0 tb G m2 rInt y) : Ed F0 H0 (tOp (rI0 fun i j => .bl (decide (j < i))) ta tb) G m rBl (decide (y < x)) := ed_iop hx hy fun _ => rfl
theorem ed_ge {x y : Int} (hx : Ed F0 H0 ta G m1 rInt x) (hy : Ed F0 H0 tb G m2 rInt y) : Ed F0 H0 (tOp (rI0 fun i j => .bl (decide (j ≤ i))) ta tb) G m rBl (decide (y ≤ x)) := ed_iop hx hy fun _ => rfl
/-- what == compares by value -/
class Sc {α : Type} (r : Rp α) : Prop where
  sc : ∀ {F F' : Hp} {v w : V} {a b : α}, r F v a → r F' w b → scal v w = true ∧ (v = w ↔ a = b)
instance : Sc rInt := ⟨fun {F F' v w a b} h h' => by rw [show v = _ from h, show w = _ from h']; exact ⟨rfl, by simp⟩⟩
instance : Sc rBl := ⟨fun {F F' v w a b} h h' => by rw [show v = _ from h, show w = _ from h']; exact ⟨rfl, by simp⟩⟩
instance : Sc rTx := ⟨fun {F F' v w a b} h h' => by rw [h.1, h'.1]; exact ⟨rfl, by simp⟩⟩
theorem ed_eq {α : Type} {r : Rp α} [DecidableEq α] [Mo r] [Sc r] {x y : α} (hx : Ed F0 H0 ta G m1 r x) (hy : Ed F0 H0 tb G m2 r y) : Ed F0 H0 (tOp rEq ta tb) G m rBl (decide (x = y)) :=
  ed_bin hx hy fun v w F H g0 hv hw Q q => by
    obtain ⟨h1, h2⟩ := Sc.sc hv hw
    exact ⟨h1, q _ F H (Gr.refl g0.fh) (by show V.bl _ = V.bl _; rw [decide_eq_decide.mpr h2])⟩
theorem ed_ne {α : Type} {r : Rp α} [DecidableEq α] [Mo r] [Sc r] {x y : α} (hx : Ed F0 H0 ta G m1 r x) (hy : Ed F0 H0 tb G m2 r y) : Ed F0 H0 (tOp rNe ta tb) G m rBl (!decide (x = y)) :=
  ed_bin hx hy fun v w F H g0 hv hw Q q => by
    obtain ⟨h1, h2⟩ := Sc.sc hv hw
    exact ⟨h1, q _ F H (Gr.refl g0.fh) (by show V.bl _ = V.bl _; rw [decide_eq_decide.mpr h2])⟩
/-- an optional one: is None -/
theorem ed_isN {α : Type} {r : Rp α} [Mo r] [Nn r] {x : Option α} (hx : Ed F0 H0 ta G m1 (rOpt r) x) : Ed F0 H0 (tIsN ta) G m rBl x.isNone :=
  ed_un (r := fun x H Q => Q (.bl (decide (x = .non))) H) hx fun v F H g0 hv Q q => q _ F H (Gr.refl g0.fh) (by
    cases x with
    | none => show V.bl _ = V.bl _; rw [decide_eq_true (show v = .non from hv)]; rfl
    | some a => show V.bl _ = V.bl _; rw [decide_eq_false (Nn.nn (r := r) (a := a) hv)]; rfl)
theorem ed_notN {α : Type} {r : Rp α} [Mo r] [Nn r] {x : Option α} (hx : Ed F0 H0 ta G m1 (rOpt r) x) : Ed F0 H0 (tNotN ta) G m rBl x.isSome :=
  ed_un (r := fun x H Q => Q (.bl (!decide (x = .non))) H) hx fun v F H g0 hv Q q => q _ F H (Gr.refl g0.fh) (by
    cases x with
    | none => show V.bl _ = V.bl _; rw [decide_eq_true (show v = .non from hv)]; rfl
    | some a => show V.bl _ = V.bl _; rw [decide_eq_false (Nn.nn (r := r) (a := a) hv)]; rfl)

/-! ### texts -/
abbrev rCatS : R2 := fun x y H Q => ∃ i j, x = .str i ∧ y = .str j ∧ i.length + j.length ≤ sizeLine ∧ Q (.str (i ++ j)) H
theorem tx_cat (a b : List Nat) : (⟨a.toArray⟩ : Str) ++ (⟨b.toArray⟩ : Str) = ⟨(a ++ b).toArray⟩ := by
  show Str.mk (a.toArray ++ b.toArray) = _
  simp
theorem tx_len (a : List Nat) : (⟨a.toArray⟩ : Str).length = a.length := by simp [Str.length]
theorem ed_cat {x y : List Nat} (hx : Ed F0 H0 ta G m1 rTx x) (hy : Ed F0 H0 tb G m2 rTx y) (hl : x.length + y.length ≤ 16777216) : Ed F0 H0 (tOp rCatS ta tb) G m rTx (x ++ y) :=
  ed_bin hx hy fun v w F H g0 hv hw Q q => ⟨_, _, hv.1, hw.1, by rw [tx_len, tx_len]; exact sz_le hl, q _ F H (Gr.refl g0.fh) ⟨by rw [tx_cat], by rw [List.length_append]; exact hl, fun c hc => (List.mem_append.mp hc).elim (hv.2.2 c) (hw.2.2 c)⟩⟩
theorem ed_ixT {x : List Nat} {i : Int} (hx : Ed F0 H0 ta G m1 rTx x) (hy : Ed F0 H0 tb G m2 rInt i) (hi : ixOk x.length i) : Ed F0 H0 (tOp rIxS ta tb) G m rTx [ixD x i] :=
  ed_bin hx hy fun v w F H g0 hv hw Q q => ⟨_, i, ixD x i, hv.1, hw, by rw [tx_len]; exact sz_le hv.2.1, by simpa using atI_ok hi, q _ F H (Gr.refl g0.fh) ⟨rfl, by simp, fun c hc => by rw [List.mem_singleton.mp hc]; exact hv.2.2 _ (ixD_mem hi)⟩⟩
abbrev rInC : R2 := fun x y H Q => ∃ (c : Nat) (z : Str), x = .str ⟨#[c]⟩ ∧ y = .str z ∧ Q (.bl (decide (c ∈ z.cps.toList))) H
abbrev rNotInC : R2 := fun x y H Q => ∃ (c : Nat) (z : Str), x = .str ⟨#[c]⟩ ∧ y = .str z ∧ Q (.bl (!decide (c ∈ z.cps.toList))) H
theorem ed_inT {c : Nat} {y : List Nat} (hx : Ed F0 H0 ta G m1 rTx [c]) (hy : Ed F0 H0 tb G m2 rTx y) : Ed F0 H0 (tOp rInC ta tb) G m rBl (decide (c ∈ y)) :=
  ed_bin hx hy fun v w F H g0 hv hw Q q => ⟨c, _, hv.1, hw.1, q _ F H (Gr.refl g0.fh) (by simp [rBl])⟩
theorem ed_niT {c : Nat} {y : List Nat} (hx : Ed F0 H0 ta G m1 rTx [c]) (hy : Ed F0 H0 tb G m2 rTx y) : Ed F0 H0 (tOp rNotInC ta tb) G m rBl (!decide (c ∈ y)) :=
  ed_bin hx hy fun v w F H g0 hv hw Q q => ⟨c, _, hv.1, hw.1, q _ F H (Gr.refl g0.fh) (by simp [rBl])⟩

/-! ### lists, tuples: items, lengths -/
theorem ed_ixL {α : Type} {r : Rp α} [Mo r] [Inhabited α] {xs : List α} {i : Int} (hx : Ed F0 H0 ta G m (rLst r) xs) (hy : Ed F0 H0 tb G m2 rInt i) (hi : ixOk xs.length i) : Ed F0 H0 (tOp (rIxL K) ta tb) G m r (ixD xs i) :=
  ed_bin hx hy fun v w F H g0 hv hw Q q => by
    obtain ⟨p, vs, rfl, h1, h2, h3⟩ := hv
    obtain ⟨x, e, rx⟩ := pat h3 (atI_ok hi)
    exact ⟨p, vs, i, x, rfl, hw, SqL.of (pk_now g0 _ _ h1), e, q _ F H (Gr.refl g0.fh) rx⟩
theorem ed_ixU {α : Type} {r : Rp α} [Mo r] [Inhabited α] {xs : List α} {i : Int} (hx : Ed F0 H0 ta G m (rTup r) xs) (hy : Ed F0 H0 tb G m2 rInt i) (hi : ixOk xs.length i) : Ed F0 H0 (tOp (rIxT K) ta tb) G m r (ixD xs i) :=
  ed_bin hx hy fun v w F H g0 hv hw Q q => by
    obtain ⟨p, vs, rfl, h1, h2, h3⟩ := hv
    obtain ⟨x, e, rx⟩ := pat h3 (atI_ok hi)
    exact ⟨p, vs, i, x, rfl, hw, SqT.of (pk_now g0 _ _ h1), e, q _ F H (Gr.refl g0.fh) rx⟩
/-- a pair's parts -/
theorem ed_ix0 {α β : Type} {r : Rp α} {s : Rp β} [Mo r] [Mo s] {x : α × β} (hx : Ed F0 H0 ta G m (rPr r s) x) : Ed F0 H0 (tOp (rIxT K) ta (tC (.int 0))) G m r x.1 :=
  ed_bin hx (ed_int (m := .sh)) fun v w F H g0 hv hw Q q => by
    obtain ⟨p, u, z, rfl, h1, h2, h3⟩ := hv
    exact ⟨p, _, 0, u, rfl, hw, SqT.of (pk_now g0 _ _ h1), rfl, q _ F H (Gr.refl g0.fh) h2⟩
theorem ed_ix1 {α β : Type} {r : Rp α} {s : Rp β} [Mo r] [Mo s] {x : α × β} (hx : Ed F0 H0 ta G m (rPr r s) x) : Ed F0 H0 (tOp (rIxT K) ta (tC (.int 1))) G m s x.2 :=
  ed_bin hx (ed_int (m := .sh)) fun v w F H g0 hv hw Q q => by
    obtain ⟨p, u, z, rfl, h1, h2, h3⟩ := hv
    exact ⟨p, _, 1, z, rfl, hw, SqT.of (pk_now g0 _ _ h1), rfl, q _ F H (Gr.refl g0.fh) h3⟩
theorem ed_c1 {α β : Type} {rx : Rp α} {rz : Rp β} {x : α} {z : β} {r : List V → Hp → VK → Prop} (hx : Ed F0 H0 ta G m1 rx x)
    (hr : ∀ v F H, Gr F0 H0 F H → rx (pk m1 F H0 H) v x → ∀ Q : VK, (∀ u F' H', Gr F H F' H' → rz (pk m F' H0 H') u z → Q u H') → r [v] H Q) : Ed F0 H0 (tCB r (tCons ta tNil)) G m rz z := fun σ F H E Q q =>
  hx σ F H E _ fun v F1 H1 g1 h1 => hr v F1 H1 (E.gr.trans g1) h1 Q fun u F3 H3 g3 h3 => q u F3 H3 (g1.trans g3) h3
theorem en_c1 {α β : Type} {rx : Rp α} {rz : Rp β} {x : α} {z : List β} {r : List V → Hp → VK → Prop} (hx : Ed F0 H0 ta G m1 rx x)
    (hr : ∀ v F H, Gr F0 H0 F H → rx (pk m1 F H0 H) v x → ∀ Q : VK, (∀ p vs F' H', Gr F H F' H' → H p = none → F' p = none → H' p = some (.lst vs) → z.length ≤ 16777216 → Paired (rz F') vs z → Q (.ref p) H') → r [v] H Q) : En F0 H0 (tCB r (tCons ta tNil)) G rz z := fun σ F H E Q q =>
  hx σ F H E _ fun v F1 H1 g1 h1 => hr v F1 H1 (E.gr.trans g1) h1 Q fun p vs F3 H3 g3 h3 h4 h5 h6 h7 => q p vs F3 H3 (g1.trans g3) (g1.hh.back h3) h4 h5 h6 h7
abbrev rLenQ (K : PySem.W.Frag) : List V → Hp → VK → Prop := fun xs H Q => ∃ p ys, xs = [.ref p] ∧ (SqL K H p ys ∨ SqT K H p ys) ∧ Q (.int ys.length) H
abbrev rLenT : List V → Hp → VK → Prop := fun xs H Q => ∃ z, xs = [.str z] ∧ z.length ≤ sizeLine ∧ Q (.int z.length) H
theorem ed_lenL {α : Type} {r : Rp α} {xs : List α} (hx : Ed F0 H0 ta G m1 (rLst r) xs) : Ed F0 H0 (tCB (rLenQ K) (tCons ta tNil)) G m rInt (xs.length : Int) :=
  ed_c1 hx fun v F H g0 hv Q q => by
    obtain ⟨p, vs, rfl, h1, h2, h3⟩ := hv
    exact ⟨p, vs, rfl, .inl (SqL.of (pk_now g0 _ _ h1)), q _ F H (Gr.refl g0.fh) (by rw [plen h3]; rfl)⟩
theorem ed_lenU {α : Type} {r : Rp α} {xs : List α} (hx : Ed F0 H0 ta G m1 (rTup r) xs) : Ed F0 H0 (tCB (rLenQ K) (tCons ta tNil)) G m rInt (xs.length : Int) :=
  ed_c1 hx fun v F H g0 hv Q q => by
    obtain ⟨p, vs, rfl, h1, h2, h3⟩ := hv
    exact ⟨p, vs, rfl, .inr (SqT.of (pk_now g0 _ _ h1)), q _ F H (Gr.refl g0.fh) (by rw [plen h3]; rfl)⟩
theorem ed_lenT {x : List Nat} (hx : Ed F0 H0 ta G m1 rTx x) : Ed F0 H0 (tCB rLenT (tCons ta tNil)) G m rInt (x.length : Int) :=
  ed_c1 hx fun v F H g0 hv Q q => ⟨⟨x.toArray⟩, by rw [hv.1], by rw [tx_len]; exact sz_le hv.2.1, q _ F H (Gr.refl g0.fh) (by rw [tx_len]; rfl)⟩

/-! ### x in a list or tuple of flat things -/
class Ft {α : Type} (r : Rp α) : Prop where
  ft : ∀ {F : Hp} {v : V} {a : α}, r F v a → flatV v = true
  eq : ∀ {F F' : Hp} {v w : V} {a b : α}, r F v a → r F' w b → (eqV v w = true ↔ a = b)
instance : Ft rInt := ⟨fun {F v a} h => by rw [show v = _ from h]; rfl, fun {F F' v w a b} h h' => by rw [show v = _ from h, show w = _ from h']; simp [eqV]⟩
instance : Ft rTx := ⟨fun {F v a} h => by rw [h.1]; rfl, fun {F F' v w a b} h h' => by rw [h.1, h'.1]; simp [eqV]⟩
theorem ft_all {α : Type} {r : Rp α} [Ft r] {F : Hp} : ∀ {vs : List V} {xs : List α}, Paired (r F) vs xs → vs.all flatV = true
  | _, _, .nil => rfl
  | _, _, .cons h t => by rw [List.all_cons, Ft.ft h, ft_all t]; rfl
theorem ft_in {α : Type} {r : Rp α} [Ft r] [DecidableEq α] {F F' : Hp} {v : V} {a : α} (hv : r F' v a) : ∀ {vs : List V} {xs : List α}, Paired (r F) vs xs → inV v vs = decide (a ∈ xs)
  | _, _, .nil => by simp [inV]
  | w :: vs, x :: xs, .cons h t => by
    have ih := ft_in hv t
    unfold inV at ih ⊢
    rw [List.any_cons, ih]
    have e : eqV w v = decide (x = a) := by
      by_cases z : x = a
      · rw [decide_eq_true z]; exact (Ft.eq h hv).mpr z
      · rw [decide_eq_false z]
        cases q : eqV w v with
        | false => rfl
        | true => exact absurd ((Ft.eq h hv).mp q) z
    rw [e]
    by_cases z : x = a
    · subst z; simp
    · rw [decide_eq_false z, Bool.false_or]
      simp only [List.mem_cons, decide_eq_decide]
      exact ⟨fun q => .inr q, fun q => q.resolve_left fun y => z y.symm⟩
theorem ed_inL {α : Type} {r : Rp α} [Ft r] [Mo r] [DecidableEq α] {a : α} {xs : List α} (hx : Ed F0 H0 ta G m1 r a) (hy : Ed F0 H0 tb G m2 (rLst r) xs) : Ed F0 H0 (tOp (rIn K false) ta tb) G m rBl (decide (a ∈ xs)) :=
  ed_bin hx hy fun v w F H g0 hv hw Q q => by
    obtain ⟨p, vs, rfl, h1, h2, h3⟩ := hw
    exact ⟨p, vs, rfl, .inl (SqL.of (pk_now g0 _ _ h1)), Ft.ft hv, ft_all h3, q _ F H (Gr.refl g0.fh) (by rw [ft_in hv h3]; rfl)⟩
theorem ed_niL {α : Type} {r : Rp α} [Ft r] [Mo r] [DecidableEq α] {a : α} {xs : List α} (hx : Ed F0 H0 ta G m1 r a) (hy : Ed F0 H0 tb G m2 (rLst r) xs) : Ed F0 H0 (tOp (rIn K true) ta tb) G m rBl (!decide (a ∈ xs)) :=
  ed_bin hx hy fun v w F H g0 hv hw Q q => by
    obtain ⟨p, vs, rfl, h1, h2, h3⟩ := hw
    exact ⟨p, vs, rfl, .inl (SqL.of (pk_now g0 _ _ h1)), Ft.ft hv, ft_all h3, q _ F H (Gr.refl g0.fh) (by rw [ft_in hv h3]; rfl)⟩
theorem ed_inU {α : Type} {r : Rp α} [Ft r] [Mo r] [DecidableEq α] {a : α} {xs : List α} (hx : Ed F0 H0 ta G m1 r a) (hy : Ed F0 H0 tb G m2 (rTup r) xs) : Ed F0 H0 (tOp (rIn K false) ta tb) G m rBl (decide (a ∈ xs)) :=
  ed_bin hx hy fun v w F H g0 hv hw Q q => by
    obtain ⟨p, vs, rfl, h1, h2, h3⟩ := hw
    exact ⟨p, vs, rfl, .inr (SqT.of (pk_now g0 _ _ h1)), Ft.ft hv, ft_all h3, q _ F H (Gr.refl g0.fh) (by rw [ft_in hv h3]; rfl)⟩
theorem ed_niU {α : Type} {r : Rp α} [Ft r] [Mo r] [DecidableEq α] {a : α} {xs : List α} (hx : Ed F0 H0 ta G m1 r a) (hy : Ed F0 H0 tb G m2 (rTup r) xs) : Ed F0 H0 (tOp (rIn K true) ta tb) G m rBl (!decide (a ∈ xs)) :=
  ed_bin hx hy fun v w F H g0 hv hw Q q => by
    obtain ⟨p, vs, rfl, h1, h2, h3⟩ := hw
    exact ⟨p, vs, rfl, .inr (SqT.of (pk_now g0 _ _ h1)), Ft.ft hv, ft_all h3, q _ F H (Gr.refl g0.fh) (by rw [ft_in hv h3]; rfl)⟩

/-! ### tests -/
theorem et_B {b : Bool} (h : Ed F0 H0 te G m rBl b) : Et F0 H0 (tB te) G b := fun σ F H E Q q => h σ F H E _ fun v F' H' g hv => ⟨b, hv, q F' H' g⟩
theorem et_T {b : Bool} (h : Ed F0 H0 te G m rBl b) : Et F0 H0 (tTest te) G b := fun σ F H E Q q => h σ F H E _ fun v F' H' g hv => ⟨b, hv, q F' H' g⟩
theorem et_and {a b : Bool} (h1 : Et F0 H0 t G a) (h2 : a = true → Et F0 H0 u G b) : Et F0 H0 (tAnd t u) G (a && b) := fun σ F H E Q q => h1 σ F H E _ fun F1 H1 g1 => by
  cases a with
  | true => exact h2 rfl σ F1 H1 (E.gro g1) Q fun F2 H2 g2 => q F2 H2 (g1.trans g2)
  | false => exact q F1 H1 g1
theorem et_or {a b : Bool} (h1 : Et F0 H0 t G a) (h2 : a = false → Et F0 H0 u G b) : Et F0 H0 (tOr t u) G (a || b) := fun σ F H E Q q => h1 σ F H E _ fun F1 H1 g1 => by
  cases a with
  | true => exact q F1 H1 g1
  | false => exact h2 rfl σ F1 H1 (E.gro g1) Q fun F2 H2 g2 => q F2 H2 (g1.trans g2)
theorem et_not {a : Bool} (h1 : Et F0 H0 t G a) : Et F0 H0 (tNot t) G (!a) := fun σ F H E Q q => h1 σ F H E _ fun F1 H1 g1 => q F1 H1 g1
abbrev tTr (K : PySem.W.Frag) (ta : TE) : TT := fun σ H Q => ta σ H fun x H' => ∃ k, TruV K x H' k ∧ Q k H'
theorem et_trL {α : Type} {r : Rp α} {xs : List α} (h : Ed F0 H0 te G m (rLst r) xs) : Et F0 H0 (tTr K te) G (!xs.isEmpty) := fun σ F H E Q q => h σ F H E _ fun v F' H' g hv => by
  obtain ⟨p, vs, rfl, h1, h2, h3⟩ := hv
  refine ⟨_, .inl ⟨vs, SqL.of (pk_now (E.gr.trans g) _ _ h1), rfl⟩, ?_⟩
  have e : vs.isEmpty = xs.isEmpty := by cases h3 <;> rfl
  rw [e]; exact q F' H' g
theorem et_trU {α : Type} {r : Rp α} {xs : List α} (h : Ed F0 H0 te G m (rTup r) xs) : Et F0 H0 (tTr K te) G (!xs.isEmpty) := fun σ F H E Q q => h σ F H E _ fun v F' H' g hv => by
  obtain ⟨p, vs, rfl, h1, h2, h3⟩ := hv
  refine ⟨_, .inr (.inl ⟨vs, SqT.of (pk_now (E.gr.trans g) _ _ h1), rfl⟩), ?_⟩
  have e : vs.isEmpty = xs.isEmpty := by cases h3 <;> rfl
  rw [e]; exact q F' H' g
theorem ed_andV {a b : Bool} (h1 : Ed F0 H0 ta G m1 rBl a) (h2 : a = true → Ed F0 H0 tb G m2 rBl b) : Ed F0 H0 (tAndV ta tb) G m rBl (a && b) := fun σ F H E Q q => h1 σ F H E _ fun v F1 H1 g1 hv => ⟨a, hv, by
  cases a with
  | true => exact h2 rfl σ F1 H1 (E.gro g1) Q fun w F2 H2 g2 hw => q w F2 H2 (g1.trans g2) hw
  | false => exact q _ F1 H1 g1 rfl⟩
theorem ed_orV {a b : Bool} (h1 : Ed F0 H0 ta G m1 rBl a) (h2 : a = false → Ed F0 H0 tb G m2 rBl b) : Ed F0 H0 (tOrV ta tb) G m rBl (a || b) := fun σ F H E Q q => h1 σ F H E _ fun v F1 H1 g1 hv => ⟨a, hv, by
  cases a with
  | true => exact q _ F1 H1 g1 rfl
  | false => exact h2 rfl σ F1 H1 (E.gro g1) Q fun w F2 H2 g2 hw => q w F2 H2 (g1.trans g2) hw⟩
theorem ed_notV {a : Bool} (h1 : Ed F0 H0 ta G m1 rBl a) : Ed F0 H0 (tNotV ta) G m rBl (!a) := fun σ F H E Q q => h1 σ F H E _ fun v F1 H1 g1 hv => ⟨a, hv, q _ F1 H1 g1 rfl⟩
theorem ed_if {α : Type} {r : Rp α} {a b : α} {c : Bool} (h : Et F0 H0 t G c) (h1 : c = true → Ed F0 H0 ta G m r a) (h2 : c = false → Ed F0 H0 tb G m r b) : Ed F0 H0 (tIf t ta tb) G m r (if c = true then a else b) := fun σ F H E Q q => h σ F H E _ fun F1 H1 g1 => by
  cases c with
  | true => exact h1 rfl σ F1 H1 (E.gro g1) Q fun w F2 H2 g2 hw => q w F2 H2 (g1.trans g2) hw
  | false => exact h2 rfl σ F1 H1 (E.gro g1) Q fun w F2 H2 g2 hw => q w F2 H2 (g1.trans g2) hw

/-! ### arguments, displays -/
theorem ea_nil : Ea F0 H0 tNil G Pt.nil.ra () := fun σ F H E Q q => q [] F H (Gr.refl E.gr.fh) rfl
theorem ea_cons {α β : Type} {r : Rp α} [im : Mo r] {T : Pt β} {tr : TA} {a : α} {b : β} (h : Ed F0 H0 ta G m r a) (hr : Ea F0 H0 tr G T.ra b) : Ea F0 H0 (tCons ta tr) G (Pt.cons m r im T).ra (a, b) := fun σ F H E Q q =>
  h σ F H E _ fun v F1 H1 g1 h1 => hr σ F1 H1 (E.gro g1) _ fun vs F2 H2 g2 h2 => q _ F2 H2 (g1.trans g2) ⟨v, vs, rfl, im.ex (pk_mono m g2) h1, h2⟩
def El {α : Type} (F0 H0 : Hp) (t : TA) (G : List Slot) (r : Rp α) (xs : List α) : Prop := ∀ σ F H, EnvOk F0 H0 G σ F H → ∀ Q : List V → Hp → Prop, (∀ vs F' H', Gr F H F' H' → Paired (r F') vs xs → Q vs H') → t σ H Q
theorem el_nil {α : Type} {r : Rp α} : El F0 H0 tNil G r [] := fun σ F H E Q q => q [] F H (Gr.refl E.gr.fh) .nil
theorem el_cons {α : Type} {r : Rp α} [Mo r] {tr : TA} {a : α} {xs : List α} (h : Ed F0 H0 ta G .sh r a) (hr : El F0 H0 tr G r xs) : El F0 H0 (tCons ta tr) G r (a :: xs) := fun σ F H E Q q =>
  h σ F H E _ fun v F1 H1 g1 h1 => hr σ F1 H1 (E.gro g1) _ fun vs F2 H2 g2 h2 => q _ F2 H2 (g1.trans g2) (.cons (mox g2.ff h1) h2)
theorem en_lst {α : Type} {r : Rp α} [Mo r] {ts : TA} {xs : List α} (h : El F0 H0 ts G r xs) (hl : xs.length ≤ 16777216) : En F0 H0 (tLst ts) G r xs := fun σ F H E Q q =>
  h σ F H E _ fun vs F1 H1 g1 h1 => ⟨by rw [plen h1]; exact sz_le hl, fun p hp => q p vs F1 _ (g1.trans (Gr.wild g1.fh hp)) (g1.hh.back hp) (g1.fh.back hp) upd_same hl h1⟩
theorem ed_tup {α : Type} {r : Rp α} [Mo r] {ts : TA} {xs : List α} (h : El F0 H0 ts G r xs) (hl : xs.length ≤ 16777216) : Ed F0 H0 (tTup ts) G .sh (rTup r) xs := fun σ F H E Q q =>
  h σ F H E _ fun vs F1 H1 g1 h1 => ⟨by rw [plen h1]; exact sz_le hl, fun p hp => q _ _ _ (g1.trans (Gr.new g1.fh hp)) ⟨p, vs, rfl, upd_same, hl, pmap (fun _ _ z => mox (Ex.new (g1.fh.back hp)) z) h1⟩⟩
theorem ed_pr {α β : Type} {r : Rp α} {s : Rp β} [Mo r] [Mo s] {a : α} {b : β} (h : Ed F0 H0 ta G .sh r a) (h' : Ed F0 H0 tb G .sh s b) : Ed F0 H0 (tTup (tCons ta (tCons tb tNil))) G .sh (rPr r s) (a, b) := fun σ F H E Q q =>
  h σ F H E _ fun v F1 H1 g1 h1 => h' σ F1 H1 (E.gro g1) _ fun w F2 H2 g2 h2 => ⟨sz_le (by show 2 ≤ 16777216; decide), fun p hp => by
    have n := Ex.new (o := .tup [v, w]) (g2.fh.back hp)
    exact q _ _ _ ((g1.trans g2).trans (Gr.new g2.fh hp)) ⟨p, v, w, rfl, upd_same, mox (g2.ff.trans n) h1, mox n h2⟩⟩
theorem ed_p3 {α β γ : Type} {r : Rp α} {s : Rp β} {s3 : Rp γ} [Mo r] [Mo s] [Mo s3] {a : α} {b : β} {c : γ} (h : Ed F0 H0 ta G .sh r a) (h' : Ed F0 H0 tb G .sh s b) (h3 : Ed F0 H0 tc G .sh s3 c) : Ed F0 H0 (tTup (tCons ta (tCons tb (tCons tc tNil)))) G .sh (rP3 r s s3) (a, b, c) := fun σ F H E Q q =>
  h σ F H E _ fun v F1 H1 g1 h1 => h' σ F1 H1 (E.gro g1) _ fun w F2 H2 g2 h2 => h3 σ F2 H2 ((E.gro g1).gro g2) _ fun z F3 H3 g3 h3 => ⟨sz_le (by show 3 ≤ 16777216; decide), fun p hp => by
    have n := Ex.new (o := .tup [v, w, z]) (g3.fh.back hp)
    exact q _ _ _ (((g1.trans g2).trans g3).trans (Gr.new g3.fh hp)) ⟨p, v, w, z, rfl, upd_same, mox ((g2.ff.trans g3.ff).trans n) h1, mox (g3.ff.trans n) h2, mox n h3⟩⟩

/-! ### list(..), tuple(..), +, slices -/
abbrev rListQ (K : PySem.W.Frag) : List V → Hp → VK → Prop := fun xs H Q => ∃ p ys, xs = [.ref p] ∧ (SqL K H p ys ∨ SqT K H p ys) ∧ ∀ l, H l = none → Q (.ref l) (upd H l (.lst ys))
abbrev rTupleQ (K : PySem.W.Frag) : List V → Hp → VK → Prop := fun xs H Q => ∃ p ys, xs = [.ref p] ∧ ((SqL K H p ys ∧ ∀ l, H l = none → Q (.ref l) (upd H l (.tup ys))) ∨ (SqT K H p ys ∧ Q (.ref p) H))
/-- what may be kept: frozen, or flat -/
class Kp {α : Type} (m : Md) (r : Rp α) : Prop where
  kp : ∀ {F0 H0 F H : Hp} {v : V} {a : α}, Gr F0 H0 F H → r (pk m F H0 H) v a → r F v a
instance {α : Type} (r : Rp α) : Kp .sh r := ⟨fun _ h => h⟩
instance {α : Type} (m : Md) (r : Rp α) [Fl r] : Kp m r := ⟨fun _ h => Fl.fl h⟩
theorem en_list {α : Type} {r : Rp α} [Mo r] [Kp m1 r] {xs : List α} (hx : Ed F0 H0 ta G m1 (rLst r) xs) : En F0 H0 (tCB (rListQ K) (tCons ta tNil)) G r xs :=
  en_c1 hx fun v F H g0 hv Q q => by
    obtain ⟨p, vs, rfl, h1, h2, h3⟩ := hv
    exact ⟨p, vs, rfl, .inl (SqL.of (pk_now g0 _ _ h1)), fun l hl => q l vs F _ (Gr.wild g0.fh hl) hl (g0.fh.back hl) upd_same h2 (pmap (fun _ _ z => Kp.kp g0 z) h3)⟩
theorem en_listU {α : Type} {r : Rp α} [Mo r] [Kp m1 r] {xs : List α} (hx : Ed F0 H0 ta G m1 (rTup r) xs) : En F0 H0 (tCB (rListQ K) (tCons ta tNil)) G r xs :=
  en_c1 hx fun v F H g0 hv Q q => by
    obtain ⟨p, vs, rfl, h1, h2, h3⟩ := hv
    exact ⟨p, vs, rfl, .inr (SqT.of (pk_now g0 _ _ h1)), fun l hl => q l vs F _ (Gr.wild g0.fh hl) hl (g0.fh.back hl) upd_same h2 (pmap (fun _ _ z => Kp.kp g0 z) h3)⟩
theorem ed_tupL {α : Type} {r : Rp α} [Mo r] [Kp m1 r] {xs : List α} (hx : Ed F0 H0 ta G m1 (rLst r) xs) : Ed F0 H0 (tCB (rTupleQ K) (tCons ta tNil)) G .sh (rTup r) xs :=
  ed_c1 hx fun v F H g0 hv Q q => by
    obtain ⟨p, vs, rfl, h1, h2, h3⟩ := hv
    exact ⟨p, vs, rfl, .inl ⟨SqL.of (pk_now g0 _ _ h1), fun l hl => q _ _ _ (Gr.new g0.fh hl) ⟨l, vs, rfl, upd_same, h2, pmap (fun _ _ z => mox (Ex.new (g0.fh.back hl)) (Kp.kp (r := r) g0 z)) h3⟩⟩⟩
theorem en_catL {α : Type} {r : Rp α} [Mo r] [Kp m1 r] [Kp m2 r] {xs ys : List α} (hx : Ed F0 H0 ta G m1 (rLst r) xs) (hy : Ed F0 H0 tb G m2 (rLst r) ys) (hl : xs.length + ys.length ≤ 16777216) : En F0 H0 (tOp rCat ta tb) G r (xs ++ ys) :=
  en_bin hx hy fun v w F H g0 hv hw Q q => by
    obtain ⟨p, vs, rfl, h1, h2, h3⟩ := hv
    obtain ⟨p', vs', rfl, h1', h2', h3'⟩ := hw
    exact ⟨p, p', vs, vs', rfl, rfl, pk_now g0 _ _ h1, pk_now g0 _ _ h1', by rw [plen h3, plen h3']; exact sz_le hl, fun l hl' => q l _ F _ (Gr.wild g0.fh hl') hl' (g0.fh.back hl') upd_same (by rw [List.length_append]; exact hl) (papp (pmap (fun _ _ z => Kp.kp g0 z) h3) (pmap (fun _ _ z => Kp.kp g0 z) h3'))⟩
def Eo (F0 H0 : Hp) (t : TO) (G : List Slot) (o : Option Int) : Prop := ∀ σ F H, EnvOk F0 H0 G σ F H → ∀ Q : Option Int → Hp → Prop, (∀ F' H', Gr F H F' H' → Q o H') → t σ H Q
theorem eo_none : Eo F0 H0 tNoPart G none := fun σ F H E Q q => q F H (Gr.refl E.gr.fh)
theorem eo_some {i : Int} (h : Ed F0 H0 te G m rInt i) : Eo F0 H0 (tPart te) G (some i) := fun σ F H E Q q => h σ F H E _ fun v F' H' g hv => ⟨i, hv, q F' H' g⟩
theorem ed_sl {α γ : Type} {rx : Rp α} {rz : Rp γ} [Mo rx] {x : α} {z : γ} {lo hi : Option Int} {tl th : TO} {r : V → Option Int → Option Int → Hp → VK → Prop} (hx : Ed F0 H0 ta G m1 rx x) (hl : Eo F0 H0 tl G lo) (hh : Eo F0 H0 th G hi)
    (hr : ∀ v F H, Gr F0 H0 F H → rx (pk m1 F H0 H) v x → ∀ Q : VK, (∀ u F' H', Gr F H F' H' → rz (pk m F' H0 H') u z → Q u H') → r v lo hi H Q) : Ed F0 H0 (tSl r ta tl th) G m rz z := fun σ F H E Q q =>
  hx σ F H E _ fun v F1 H1 g1 h1 => hl σ F1 H1 (E.gro g1) _ fun F2 H2 g2 => hh σ F2 H2 ((E.gro g1).gro g2) _ fun F3 H3 g3 =>
    hr v F3 H3 (E.gr.trans ((g1.trans g2).trans g3)) (mox (pk_mono m1 (g2.trans g3)) h1) Q fun u F4 H4 g4 h4 => q u F4 H4 (((g1.trans g2).trans g3).trans g4) h4
theorem ed_slT {x : List Nat} {lo hi : Option Int} {tl th : TO} (hx : Ed F0 H0 ta G m1 rTx x) (hl : Eo F0 H0 tl G lo) (hh : Eo F0 H0 th G hi) : Ed F0 H0 (tSl rSlS ta tl th) G m rTx (cutL x lo hi) :=
  ed_sl hx hl hh fun v F H g0 hv Q q => ⟨_, hv.1, by rw [tx_len]; exact sz_le hv.2.1, q _ F H (Gr.refl g0.fh) ⟨by unfold cutS cutL; rw [tx_len], Nat.le_trans (cutL_le _ _ _) hv.2.1, fun c hc => hv.2.2 c (cutL_mem hc)⟩⟩
theorem en_slL {α : Type} {r : Rp α} [Mo r] [Kp m1 r] {xs : List α} {lo hi : Option Int} {tl th : TO} (hx : Ed F0 H0 ta G m1 (rLst r) xs) (hl : Eo F0 H0 tl G lo) (hh : Eo F0 H0 th G hi) : En F0 H0 (tSl (rSlL K) ta tl th) G r (cutL xs lo hi) := fun σ F H E Q q =>
  hx σ F H E _ fun v F1 H1 g1 h1 => hl σ F1 H1 (E.gro g1) _ fun F2 H2 g2 => hh σ F2 H2 ((E.gro g1).gro g2) _ fun F3 H3 g3 => by
    have g := (g1.trans g2).trans g3
    have g0 := E.gr.trans g
    obtain ⟨p, vs, rfl, e1, e2, e3⟩ := mox (r := rLst r) (pk_mono m1 (g2.trans g3)) h1
    exact ⟨p, vs, rfl, SqL.of (pk_now g0 _ _ e1), fun l hl' => q l _ F3 _ (g.trans (Gr.wild g.fh hl')) (g.hh.back hl') (g.fh.back hl') upd_same (Nat.le_trans (cutL_le _ _ _) e2) (pcut lo hi (pmap (fun _ _ z => Kp.kp g0 z) e3))⟩
/-- all, any of a list of bools -/
theorem pbl {F : Hp} : ∀ {vs : List V} {bs : List Bool}, Paired (rBl F) vs bs → vs = bs.map V.bl
  | _, _, .nil => rfl
  | _, _, .cons h t => by rw [List.map_cons, ← pbl t, show _ = _ from h]
theorem pints {F : Hp} : ∀ {vs : List V} {bs : List Int}, Paired (rInt F) vs bs → vs = bs.map V.int
  | _, _, .nil => rfl
  | _, _, .cons h t => by rw [List.map_cons, ← pints t, show _ = _ from h]
theorem ed_all {bs : List Bool} (hx : Ed F0 H0 ta G m1 (rLst rBl) bs) : Ed F0 H0 (tCB (rAll K) (tCons ta tNil)) G m rBl (bs.all id) :=
  ed_c1 hx fun v F H g0 hv Q q => by
    obtain ⟨p, vs, rfl, h1, h2, h3⟩ := hv
    exact ⟨p, bs, rfl, by rw [← pbl h3]; exact SqL.of (pk_now g0 _ _ h1), q _ F H (Gr.refl g0.fh) rfl⟩
theorem ed_any {bs : List Bool} (hx : Ed F0 H0 ta G m1 (rLst rBl) bs) : Ed F0 H0 (tCB (rAny K) (tCons ta tNil)) G m rBl (bs.any id) :=
  ed_c1 hx fun v F H g0 hv Q q => by
    obtain ⟨p, vs, rfl, h1, h2, h3⟩ := hv
    exact ⟨p, bs, rfl, by rw [← pbl h3]; exact SqL.of (pk_now g0 _ _ h1), q _ F H (Gr.refl g0.fh) rfl⟩
/-- int(n), int(flag), str of a digit, int of a digit -/
abbrev rInt1 : List V → Hp → VK → Prop := fun xs H Q => (∃ i, xs = [.int i] ∧ Q (.int i) H) ∨ ∃ k, xs = [.bl k] ∧ Q (.int (if k then 1 else 0)) H
theorem ed_intI {i : Int} (hx : Ed F0 H0 ta G m1 rInt i) : Ed F0 H0 (tCB rInt1 (tCons ta tNil)) G m rInt i := ed_c1 hx fun v F H g0 hv Q q => .inl ⟨i, by rw [show v = _ from hv], q _ F H (Gr.refl g0.fh) rfl⟩
theorem ed_intB {b : Bool} (hx : Ed F0 H0 ta G m1 rBl b) : Ed F0 H0 (tCB rInt1 (tCons ta tNil)) G m rInt (if b then 1 else 0) := ed_c1 hx fun v F H g0 hv Q q => .inr ⟨b, by rw [show v = _ from hv], q _ F H (Gr.refl g0.fh) rfl⟩
abbrev rStrI : List V → Hp → VK → Prop := fun xs H Q => ∃ i, xs = [.int i] ∧ i.natAbs.log2 < 1920 ∧ Q (.str (toString i)) H
theorem dig_str : ∀ n : Nat, n < 10 → (Str.ofString (toString (n : Int)) : Str) = ⟨([48 + n] : List Nat).toArray⟩ ∧ (n : Int).natAbs.log2 < 1920 := by decide +kernel
theorem ed_strI {i : Int} (hx : Ed F0 H0 ta G m1 rInt i) (h0 : 0 ≤ i) (h9 : i < 10) : Ed F0 H0 (tCB rStrI (tCons ta tNil)) G m rTx [48 + i.toNat] := ed_c1 hx fun v F H g0 hv Q q => by
  obtain ⟨e1, e2⟩ := dig_str i.toNat (by omega)
  have ei : ((i.toNat : Nat) : Int) = i := by omega
  rw [ei] at e1 e2
  exact ⟨i, by rw [show v = _ from hv], e2, q _ F H (Gr.refl g0.fh) ⟨congrArg V.str e1, by simp, fun c hc => by rw [List.mem_singleton.mp hc]; omega⟩⟩
abbrev rIntS : List V → Hp → VK → Prop := fun xs H Q => ∃ a n, xs = [.str a] ∧ PySem.intText? a = some n ∧ a.length ≤ 640 ∧ Q (.int n) H
theorem dig_int : ∀ n : Nat, n < 10 → PySem.intText? ⟨([48 + n] : List Nat).toArray⟩ = some (n : Int) := by decide +kernel
theorem ed_intS {c : Nat} (hx : Ed F0 H0 ta G m1 rTx [c]) (h0 : 48 ≤ c) (h9 : c < 58) : Ed F0 H0 (tCB rIntS (tCons ta tNil)) G m rInt ((c : Int) - 48) := ed_c1 hx fun v F H g0 hv Q q => by
  have e1 := dig_int (c - 48) (by omega)
  have ec : 48 + (c - 48) = c := by omega
  rw [ec] at e1
  exact ⟨⟨([c] : List Nat).toArray⟩, _, by rw [hv.1], e1, by rw [tx_len]; simp, q _ F H (Gr.refl g0.fh) (by show V.int _ = V.int _; congr 1; omega)⟩
end
end LK

set_option Elab.async false
set_option linter.all false
set_option maxRecDepth 100000
set_option maxHeartbeats 4000000
set_option autoImplicit false
/-! LK3: what is walked, targets, comprehensions, statements, loops, defs. -/
namespace LK
open PySem L2

/-! ### slots wiped -/
def wipeG (G : List Slot) : List Nat → List Slot
  | [] => G
  | v :: vs => (wipeG G vs).set v .no
theorem wipe_set_ne {σ : L2.St} {j : Nat} {x : Option V} : ∀ {vs : List Nat}, j ∉ vs → wipe (σ.set j x) vs = (wipe σ vs).set j x
  | [], _ => rfl
  | v :: vs, h => by
    have h1 : j ≠ v := fun e => h (by rw [e]; exact List.mem_cons_self)
    have h2 : j ∉ vs := fun m => h (List.mem_cons_of_mem _ m)
    show (wipe (σ.set j x) vs).set v none = ((wipe σ vs).set v none).set j x
    rw [wipe_set_ne h2, List.set_comm _ _ h1]
theorem wipe_set {σ : L2.St} {j : Nat} {x : Option V} : ∀ {vs : List Nat}, j ∈ vs → wipe (σ.set j x) vs = wipe σ vs
  | v :: vs, h => by
    show (wipe (σ.set j x) vs).set v none = (wipe σ vs).set v none
    by_cases h2 : j ∈ vs
    · rw [wipe_set h2]
    · have e : j = v := (List.mem_cons.mp h).resolve_right h2
      subst e
      rw [wipe_set_ne h2, List.set_set]
theorem wipe_wipe {σ : L2.St} {vs : List Nat} : ∀ {us : List Nat}, (∀ j ∈ us, j ∈ vs) → wipe (wipe σ us) vs = wipe σ vs
  | [], _ => rfl
  | u :: us, h => by
    show wipe ((wipe σ us).set u none) vs = wipe σ vs
    rw [wipe_set (h u List.mem_cons_self)]
    exact wipe_wipe fun j hj => h j (List.mem_cons_of_mem _ hj)
theorem EnvOk.wipeA {F0 H0 F H : Hp} {G : List Slot} {σ : L2.St} (E : EnvOk F0 H0 G σ F H) : ∀ vs, EnvOk F0 H0 (wipeG G vs) (L2.wipe σ vs) F H
  | [] => E
  | _ :: vs => (EnvOk.wipeA E vs).wipe

/-! ### other bases -/
/-- F1 may stand for F0 -/
def Bs (F0 H0 F1 : Hp) : Prop := Ex F0 F1 ∧ ∀ p o, F1 p = some o → F0 p = none → H0 p = none
theorem Bs.refl (F0 H0 : Hp) : Bs F0 H0 F0 := ⟨Ex.refl _, fun p o h1 h2 => by rw [h1] at h2; cases h2⟩
theorem Bs.trans {F0 H0 F1 F2 : Hp} (a : Bs F0 H0 F1) (b : Bs F1 H0 F2) : Bs F0 H0 F2 := ⟨a.1.trans b.1, fun p o h1 h2 => by
  cases e : F1 p with
  | none => exact b.2 p o h1 e
  | some u => exact a.2 p u e h2⟩
section
variable {F0 H0 F1 F H : Hp} {G : List Slot} {σ : L2.St}
theorem Gr.bs (g : Gr F0 H0 F H) : Bs F0 H0 F := ⟨g.ff, g.nw⟩
theorem Gr.down (b : Bs F0 H0 F1) (g : Gr F1 H0 F H) : Gr F0 H0 F H := ⟨b.1.trans g.ff, g.fh, g.hh, fun p o h1 h2 => (b.trans g.bs).2 p o h1 h2⟩
theorem EnvOk.down (b : Bs F0 H0 F1) (E : EnvOk F1 H0 G σ F H) : EnvOk F0 H0 G σ F H := let ⟨fp, e⟩ := E; ⟨fp, e.gr.down b, e.len, e.at_, e.dj⟩
/-- from here on -/
theorem EnvOk.here (E : EnvOk F0 H0 G σ F H) : EnvOk F H0 G σ F H := let ⟨fp, e⟩ := E; ⟨fp, ⟨Ex.refl F, e.gr.fh, e.gr.hh, fun p o h1 h2 => by rw [h1] at h2; cases h2⟩, e.len, e.at_, e.dj⟩
end

/-! ### what is walked -/
structure WalkOk {α : Type} (J : It) (F1 H0 : Hp) (m : Md) (r : Rp α) (xs : List α) : Prop where
  go : ∀ i F H, Ex F1 F → Ex F H → Ex H0 H → i < xs.length → J.go i H
  stop : ∀ F H, Ex F1 F → Ex F H → Ex H0 H → J.stop xs.length H
  yld : ∀ i F H v H', Ex F1 F → Ex F H → Ex H0 H → i < xs.length → J.yld i H v H' → ∃ x F', xs[i]? = some x ∧ Gr F H F' H' ∧ r (pk m F' H0 H') v x
section
variable (F0 H0 : Hp)
def Ei {α : Type} (wi : TI) (G : List Slot) (m : Md) (r : Rp α) (xs : List α) : Prop := ∀ σ F H, EnvOk F0 H0 G σ F H → ∀ R : It → Hp → Prop, (∀ J F1 H1, Gr F H F1 H1 → WalkOk J F1 H0 m r xs → xs.length ≤ 16777216 → R J H1) → wi σ H R
/-- a target: what it stores; tg its slots -/
def Eg {α : Type} (g : TG) (m : Md) (r : Rp α) (up : α → List Slot → List Slot) (tg : List Nat) : Prop := ∀ F0 G σ F H v x, EnvOk F0 H0 G σ F H → r (pk m F H0 H) v x → ∀ Q : L2.St → Hp → Prop,
  (∀ σ', EnvOk F0 H0 (up x G) σ' F H → (∀ vs, (∀ j ∈ tg, j ∈ vs) → wipe σ' vs = wipe σ vs) → Q σ' H) → g v σ H Q
end
/-- an element's slot: frozen, or of the entry -/
class Md.Ok (m : Md) : Prop where
  ok : m ≠ .bo
instance : Md.Ok .sh := ⟨fun h => nomatch h⟩
instance : Md.Ok .b0 := ⟨fun h => nomatch h⟩
theorem pslot_ok {α : Type} {m : Md} [h : Md.Ok m] {r : Rp α} {im : Mo r} {F H0 H : Hp} {v : V} {x : α} (hr : r (pk m F H0 H) v x) : SlotOk H0 F H (some v) [] (pslot m r im x) := by
  cases m with
  | sh => exact ⟨v, rfl, hr⟩
  | b0 => exact ⟨v, rfl, hr⟩
  | bo => exact absurd rfl h.ok
theorem pslot_no {α : Type} {m : Md} {r : Rp α} {im : Mo r} {x : α} : ∀ M iM, pslot m r im x ≠ .ow M iM := by
  intro M iM; cases m <;> exact fun h => nomatch h
section
variable {F0 H0 : Hp} {G : List Slot} {m m1 m2 : Md} {ta tb tc te tl : TE} {t u tt : TT} {K : PySem.W.Frag} {wi : TI} {g : TG}
theorem eg_name {α : Type} {r : Rp α} [im : Mo r] [Md.Ok m] {j : Nat} : Eg H0 (gName j) m r (fun x G => G.set j (pslot m r im x)) [j] := fun F0 G σ F H v x E h Q q =>
  q _ (E.set (pslot_ok h) pslot_no) fun vs hv => wipe_set (hv j List.mem_cons_self)
theorem eg_pr {α β : Type} {r : Rp α} {s : Rp β} [im : Mo r] [is : Mo s] [Md.Ok m] {i j : Nat} : Eg H0 (gTup K 2 (gCons (gName i) (gCons (gName j) gNil))) m (rPr r s) (fun x G => (G.set i (pslot m r im x.1)).set j (pslot m s is x.2)) [i, j] := fun F0 G σ F H v x E h Q q => by
  obtain ⟨p, a, b, rfl, h1, h2, h3⟩ := h
  refine ⟨p, _, rfl, SqT.of (pk_now E.gr _ _ h1), rfl, a, [b], rfl, b, [], rfl, rfl, ?_⟩
  exact q _ ((E.set (pslot_ok h2) pslot_no).set (pslot_ok h3) pslot_no) fun vs hv => by
    rw [wipe_set (hv j (by simp)), wipe_set (hv i (by simp))]
theorem eg_p3 {α β γ : Type} {r : Rp α} {s : Rp β} {t : Rp γ} [im : Mo r] [is : Mo s] [it : Mo t] [Md.Ok m] {i j k : Nat} : Eg H0 (gTup K 3 (gCons (gName i) (gCons (gName j) (gCons (gName k) gNil)))) m (rP3 r s t) (fun x G => ((G.set i (pslot m r im x.1)).set j (pslot m s is x.2.1)).set k (pslot m t it x.2.2)) [i, j, k] := fun F0 G σ F H v x E h Q q => by
  obtain ⟨p, a, b, c, rfl, h1, h2, h3, h4⟩ := h
  refine ⟨p, _, rfl, SqT.of (pk_now E.gr _ _ h1), rfl, a, [b, c], rfl, b, [c], rfl, c, [], rfl, rfl, ?_⟩
  exact q _ (((E.set (pslot_ok h2) pslot_no).set (pslot_ok h3) pslot_no).set (pslot_ok h4) pslot_no) fun vs hv => by
    rw [wipe_set (hv k (by simp)), wipe_set (hv j (by simp)), wipe_set (hv i (by simp))]

theorem pick_ok {α : Type} {r : Rp α} {R : Hp} {vs : List V} {xs : List α} {i : Nat} {v : V} (p : Paired (r R) vs xs) (h : vs[i]? = some v) : ∃ x, xs[i]? = some x ∧ r R v x := pgetL p h
theorem pk_keep (m : Md) {F1 F H0 H1 H : Hp} [h : Md.Ok m] (e1 : Ex F1 F) : Ex (pk m F1 H0 H1) (pk m F H0 H) := by
  cases m with
  | sh => exact e1
  | b0 => exact Ex.refl _
  | bo => exact absurd rfl h.ok
theorem pk_in (m : Md) {F H0 H : Hp} (e1 : Ex F H) (e2 : Ex H0 H) : Ex (pk m F H0 H) H := by
  cases m with
  | sh => exact e1
  | b0 => exact e2
  | bo => exact Ex.refl _
theorem ei_list {α : Type} {r : Rp α} [Mo r] [Md.Ok m] {xs : List α} (h : Ed F0 H0 tl G m (rLst r) xs) : Ei F0 H0 (iList K tl) G m r xs := fun σ F H E R q =>
  h σ F H E _ fun v F1 H1 g1 hv => by
    obtain ⟨p, vs, rfl, h1, h2, h3⟩ := hv
    have hl := plen h3
    have sq : ∀ F H, Ex F1 F → Ex F H → Ex H0 H → SqL K H p vs := fun F H e1 e2 e3 => SqL.of (pk_in m e2 e3 _ _ (pk_keep m (H1 := H1) e1 _ _ h1))
    refine ⟨p, rfl, ⟨vs, SqL.of (pk_now (E.gr.trans g1) _ _ h1)⟩, q _ F1 H1 g1 ⟨fun i F H e1 e2 e3 hi => ⟨vs, vs[i]'(by omega), sq F H e1 e2 e3, by simp [show i < vs.length by omega]⟩,
      fun F H e1 e2 e3 => ⟨vs, sq F H e1 e2 e3, by omega⟩, fun i F H v H' e1 e2 e3 hi y => ?_⟩ h2⟩
    obtain ⟨rfl, y⟩ := y
    obtain ⟨x, hx, rx⟩ := pick_ok h3 (y vs (sq F _ e1 e2 e3))
    exact ⟨x, F, hx, Gr.refl e2, mox (pk_keep m e1) rx⟩
theorem ei_tup {α : Type} {r : Rp α} [Mo r] [Md.Ok m] {xs : List α} (h : Ed F0 H0 tl G m (rTup r) xs) : Ei F0 H0 (iTup K tl) G m r xs := fun σ F H E R q =>
  h σ F H E _ fun v F1 H1 g1 hv => by
    obtain ⟨p, vs, rfl, h1, h2, h3⟩ := hv
    have hl := plen h3
    have sq : ∀ F H, Ex F1 F → Ex F H → Ex H0 H → SqT K H p vs := fun F H e1 e2 e3 => SqT.of (pk_in m e2 e3 _ _ (pk_keep m (H1 := H1) e1 _ _ h1))
    refine ⟨p, rfl, ⟨vs, SqT.of (pk_now (E.gr.trans g1) _ _ h1)⟩, q _ F1 H1 g1 ⟨fun i F H e1 e2 e3 hi => ⟨vs, vs[i]'(by omega), sq F H e1 e2 e3, by simp [show i < vs.length by omega]⟩,
      fun F H e1 e2 e3 => ⟨vs, sq F H e1 e2 e3, by omega⟩, fun i F H v H' e1 e2 e3 hi y => ?_⟩ h2⟩
    obtain ⟨rfl, y⟩ := y
    obtain ⟨x, hx, rx⟩ := pick_ok h3 (y vs (sq F _ e1 e2 e3))
    exact ⟨x, F, hx, Gr.refl e2, mox (pk_keep m e1) rx⟩
/-- range(n), range(a, b) as lists -/
def rng2 (a b : Int) : List Int := (List.range (b - a).toNat).map fun (k : Nat) => a + (k : Int)
def rng (n : Int) : List Int := rng2 0 n
theorem rng2_len (a b : Int) : (rng2 a b).length = (b - a).toNat := by unfold rng2; simp
theorem rng2_get {a b : Int} {i : Nat} (h : i < (b - a).toNat) : (rng2 a b)[i]? = some (a + (i : Int)) := by unfold rng2; simp [h]
theorem mem_rng2 {a b x : Int} (h : x ∈ rng2 a b) : a ≤ x ∧ x < b := by
  unfold rng2 at h
  obtain ⟨k, hk, rfl⟩ := List.mem_map.mp h
  have := List.mem_range.mp hk
  omega
theorem mem_rng {n x : Int} (h : x ∈ rng n) : 0 ≤ x ∧ x < n := mem_rng2 h
theorem ei_rng1 {n : Int} (h : Ed F0 H0 te G m1 rInt n) (hn : n ≤ 16777216) (hn0 : -16777216 ≤ n) : Ei F0 H0 (iRng1 (tCons te tNil)) G .sh rInt (rng n) := fun σ F H E R q =>
  h σ F H E _ fun v F1 H1 g1 hv => ⟨n, by rw [show v = _ from hv], by omega, by omega, q _ F1 H1 g1 ⟨fun i F H e1 e2 e3 hi => by
      unfold rng at hi; rw [rng2_len] at hi; show i < n.toNat; rw [Int.sub_zero] at hi; exact hi, fun F H e1 e2 e3 => by
      unfold rng; rw [rng2_len]; show n.toNat ≤ _; rw [Int.sub_zero]; exact Nat.le_refl _, fun i F H v H' e1 e2 e3 hi y => by
      obtain ⟨rfl, y⟩ := y
      unfold rng at hi ⊢; rw [rng2_len] at hi
      exact ⟨_, F, rng2_get hi, Gr.refl e2, y⟩⟩ (by unfold rng; rw [rng2_len]; omega)⟩
theorem ei_rng2 {a n : Int} (h : Ed F0 H0 ta G m1 rInt a) (h' : Ed F0 H0 te G m2 rInt n) (hn : n ≤ 16777216) (hn0 : -16777216 ≤ n) (ha : 0 ≤ a ∧ a ≤ 16777216) : Ei F0 H0 (iRng2 (tCons ta (tCons te tNil))) G .sh rInt (rng2 a n) := fun σ F H E R q =>
  h σ F H E _ fun v F1 H1 g1 hv => h' σ F1 H1 (E.gro g1) _ fun w F2 H2 g2 hw => ⟨a, n, by rw [show v = _ from hv, show w = _ from hw], ⟨by omega, by omega, by omega, by omega⟩, q _ F2 H2 (g1.trans g2) ⟨fun i F H e1 e2 e3 hi => by
      rw [rng2_len] at hi; exact hi, fun F H e1 e2 e3 => by
      rw [rng2_len]; exact Nat.le_refl _, fun i F H v H' e1 e2 e3 hi y => by
      obtain ⟨rfl, y⟩ := y
      rw [rng2_len] at hi
      exact ⟨_, F, rng2_get hi, Gr.refl e2, y⟩⟩ (by rw [rng2_len]; omega)⟩
/-- a text, sign by sign -/
def rCh : Rp Nat := fun _ v c => v = .str ⟨#[c]⟩
instance : Fl rCh := ⟨fun h => h⟩
theorem ei_str {x : List Nat} (h : Ed F0 H0 te G m1 rTx x) : Ei F0 H0 (iStr te) G .sh rTx (x.map fun c => [c]) := fun σ F H E R q =>
  h σ F H E _ fun v F1 H1 g1 hv => ⟨_, hv.1, q _ F1 H1 g1 ⟨fun i F H e1 e2 e3 hi => by
      rw [List.length_map] at hi; show i < x.toArray.size; simpa using hi, fun F H e1 e2 e3 => by
      rw [List.length_map]; show x.toArray.size ≤ _; simp, fun i F H v H' e1 e2 e3 hi y => by
      obtain ⟨rfl, c, hc, y⟩ := y
      have hc : x[i]? = some c := by simpa using hc
      exact ⟨[c], F, by rw [List.getElem?_map, hc]; rfl, Gr.refl e2, y, by simp, fun d hd => by rw [List.mem_singleton.mp hd]; exact hv.2.2 c (List.mem_of_getElem? hc)⟩⟩ (by rw [List.length_map]; exact hv.2.1)⟩
/-- enumerate(list) -/
def enumL {α : Type} (xs : List α) : List (Int × α) := (rng (xs.length : Int)).zip xs
theorem enumL_len {α : Type} (xs : List α) : (enumL xs).length = xs.length := by unfold enumL rng; rw [List.length_zip, rng2_len]; omega
theorem enumL_get {α : Type} {xs : List α} {i : Nat} {x : α} (h : xs[i]? = some x) : (enumL xs)[i]? = some ((i : Int), x) := by
  have hi : i < xs.length := (List.getElem?_eq_some_iff.mp h).1
  unfold enumL rng
  rw [List.getElem?_zip_eq_some]
  exact ⟨by rw [rng2_get (by omega)]; simp, h⟩
theorem ei_enum {α : Type} {r : Rp α} [Mo r] {xs : List α} (h : Ed F0 H0 tl G .sh (rLst r) xs) : Ei F0 H0 (iEnum K (tCons tl tNil)) G .sh (rPr rInt r) (enumL xs) := fun σ F H E R q =>
  h σ F H E _ fun v F1 H1 g1 hv => by
    obtain ⟨p, vs, rfl, h1, h2, h3⟩ := hv
    have hl := plen h3
    have sq : ∀ F H, Ex F1 F → Ex F H → Ex H0 H → SqL K H p vs := fun F H e1 e2 e3 => SqL.of (e2 _ _ (e1 _ _ h1))
    refine ⟨p, vs, rfl, SqL.of (g1.fh _ _ h1), q _ F1 H1 g1 ⟨fun i F H e1 e2 e3 hi => ⟨vs, vs[i]'(by rw [enumL_len] at hi; omega), sq F H e1 e2 e3, by rw [enumL_len] at hi; simp [show i < vs.length by omega]⟩,
      fun F H e1 e2 e3 => ⟨vs, sq F H e1 e2 e3, by rw [enumL_len]; omega⟩, fun i F H v H' e1 e2 e3 hi y => ?_⟩ (by rw [enumL_len]; exact h2)⟩
    obtain ⟨T, z, rfl, hT, rfl, y⟩ := y
    obtain ⟨x, hx, rx⟩ := pick_ok h3 (y vs (sq F _ e1 e2 e3))
    exact ⟨_, _, enumL_get hx, Gr.new e2 hT, T, _, _, rfl, upd_same, rfl, mox (e1.trans (Ex.new (e2.back hT))) rx⟩

/-! ### comprehensions -/
theorem en_lc {α β : Type} {r : Rp α} {r' : Rp β} [Mo r'] {xs : List α} {up : α → List Slot → List Slot} {tg vs : List Nat} (p : α → Bool) (f : α → β) (hi : Ei F0 H0 wi G m r xs) (hg : Eg H0 g m r up tg) (hv : ∀ j ∈ tg, j ∈ vs)
    (ht : ∀ F1, Bs F0 H0 F1 → ∀ x ∈ xs, Et F1 H0 tt (up x (wipeG G vs)) (p x)) (he : ∀ F1, Bs F0 H0 F1 → ∀ x ∈ xs, p x = true → Ed F1 H0 te (up x (wipeG G vs)) .sh r' (f x)) :
    En F0 H0 (tLc wi g tt te vs) G r' ((xs.filter p).map f) := fun σ F H E Q q => hi σ F H E _ fun J F1 H1 g1 w hxl D hD => by
  have E1 := (E.gro g1).here
  have b1 : Bs F0 H0 F1 := (E.gr.trans g1).bs
  have nF1 : F1 D = none := g1.fh.back hD
  -- the state behind i turns
  let Pv : Nat → Hp → Prop := fun i H' => ∃ F' Hm ws, EnvOk F1 H0 (wipeG G vs) (wipe σ vs) F' Hm ∧ Gr F1 H1 F' Hm ∧ Hm D = none ∧ H' = upd Hm D (.lst ws) ∧ Paired (r' F') ws (((xs.take i).filter p).map f)
  have take_s : ∀ i x, xs[i]? = some x → xs.take (i + 1) = xs.take i ++ [x] := fun i x hx => by
    rw [List.take_add_one, hx]; rfl
  refine ⟨fun i k H' => k = xs.length - i ∧ i ≤ xs.length ∧ Pv i H', ⟨xs.length, by simp, Nat.zero_le _, F1, H1, [], E1.wipeA vs, Gr.refl g1.fh, hD, rfl, by simp; exact .nil⟩, ?_⟩
  rintro i k H' ⟨rfl, hi', F', Hm, ws, E2, g2, nD, rfl, pw⟩
  have gw := Gr.wild (p := D) (o := .lst ws) g2.fh nD
  have E3 := E2.gro gw
  have nF' : F' D = none := g2.fh.back nD
  have eH0 : Ex H0 (upd Hm D (.lst ws)) := E3.gr.hh
  by_cases hlt : i < xs.length
  · refine .inr ⟨w.go i F' _ g2.ff E3.gr.fh eH0 hlt, Pv (i + 1), fun H'' p' => ⟨xs.length - (i + 1), by omega, rfl, hlt, p'⟩, fun v H'' y => ?_⟩
    obtain ⟨x, F3, hx, g3, rx⟩ := w.yld i F' _ v H'' g2.ff E3.gr.fh eH0 hlt y
    have hmem : x ∈ xs := List.mem_of_getElem? hx
    refine hg F1 _ _ F3 H'' v x (E3.gro g3) rx _ fun σ2 E4 hw2 => ⟨?_, ?_⟩
    · rw [hw2 vs hv, wipe_wipe fun _ z => z]
    refine ht F1 b1 x hmem σ2 F3 H'' E4 _ fun F4 H4 g4 => ?_
    -- what stands but for the new list
    have slim : ∀ {Fx Hx : Hp}, Gr F' (upd Hm D (.lst ws)) Fx Hx → EnvOk F1 H0 (wipeG G vs) (wipe σ vs) Fx (fun a => if a = D then none else Hx a) ∧ Gr F1 H1 Fx (fun a => if a = D then none else Hx a) ∧ Fx D = none := fun {Fx Hx} gx => by
      have nx : Fx D = none := by
        cases e : Fx D with
        | none => rfl
        | some o => have z := gx.nw D o e nF'; rw [upd_same] at z; cases z
      have gs : Gr F' Hm Fx (fun a => if a = D then none else Hx a) := ⟨gx.ff, fun a o e => by
          have ha : a ≠ D := fun z => by rw [z, nx] at e; cases e
          show (if a = D then none else Hx a) = some o
          rw [if_neg ha]; exact gx.fh a o e, fun a o e => by
          have ha : a ≠ D := fun z => by rw [z, nD] at e; cases e
          show (if a = D then none else Hx a) = some o
          rw [if_neg ha]; exact gx.hh a o (by rw [upd_ne ha]; exact e), fun a o e n => by
          have ha : a ≠ D := fun z => by rw [z, nx] at e; cases e
          have z := gx.nw a o e n
          rw [upd_ne ha] at z; exact z⟩
      exact ⟨E2.gro gs, g2.trans gs, nx⟩
    have back : ∀ {Hx : Hp} {o : HO}, Hx D = some o → Hx = upd (fun a => if a = D then none else Hx a) D o := fun {Hx o} e => by
      funext a
      unfold upd
      by_cases ha : a = D
      · rw [if_pos ha, ha]; exact e
      · rw [if_neg ha]
        show Hx a = if a = D then none else Hx a
        rw [if_neg ha]
    have gx := g3.trans g4
    have hD4 : H4 D = some (.lst ws) := gx.hh D _ upd_same
    cases hp : p x with
    | false =>
      obtain ⟨z1, z2, z3⟩ := slim gx
      refine ⟨F4, _, ws, z1, z2, by simp, back hD4, ?_⟩
      rw [take_s i x hx, List.filter_append, List.filter_cons, if_neg (by rw [hp]; decide)]
      simpa using pmap (fun _ _ z => mox gx.ff z) pw
    | true =>
      refine he F1 b1 x hmem hp σ2 F4 H4 (E4.gro g4) _ fun y5 F5 H5 g5 hy => ?_
      have gy := gx.trans g5
      obtain ⟨z1, z2, z3⟩ := slim gy
      have hD5 : H5 D = some (.lst ws) := gy.hh D _ upd_same
      have hl : ws.length < 16777216 := by
        rw [plen pw, List.length_map]
        have := List.length_filter_le p (xs.take i)
        rw [List.length_take] at this
        omega
      refine ⟨ws, hD5, L2LT hl, F5, _, ws ++ [y5], z1, z2, by simp, ?_, ?_⟩
      · funext a
        unfold upd
        by_cases ha : a = D
        · rw [if_pos ha, if_pos ha]
        · rw [if_neg ha, if_neg ha]
          show H5 a = if a = D then none else H5 a
          rw [if_neg ha]
      · rw [take_s i x hx, List.filter_append, List.filter_cons, if_pos hp, List.map_append]
        exact papp (pmap (fun _ _ z => mox gy.ff z) pw) (.cons hy .nil)
  · have e : i = xs.length := by omega
    subst e
    rw [List.take_length] at pw
    refine .inl ⟨w.stop F' _ g2.ff E3.gr.fh eH0, q D ws F' _ (g1.trans (g2.trans gw)) (g1.hh.back hD) nF' upd_same ?_ pw⟩
    rw [List.length_map]
    exact Nat.le_trans (List.length_filter_le _ _) hxl
where L2LT {n : Nat} (h : n < 16777216) : n < sizeLine := sz_lt h
theorem et_yes : Et F0 H0 tYes G true := fun σ F H E Q q => q F H (Gr.refl E.gr.fh)
theorem en_lc0 {α β : Type} {r : Rp α} {r' : Rp β} [Mo r'] {xs : List α} {up : α → List Slot → List Slot} {tg vs : List Nat} (f : α → β) (hi : Ei F0 H0 wi G m r xs) (hg : Eg H0 g m r up tg) (hv : ∀ j ∈ tg, j ∈ vs)
    (he : ∀ F1, Bs F0 H0 F1 → ∀ x ∈ xs, Ed F1 H0 te (up x (wipeG G vs)) .sh r' (f x)) : En F0 H0 (tLc wi g tYes te vs) G r' (xs.map f) := by
  have h := en_lc (fun _ => true) f hi hg hv (fun _ _ _ _ => et_yes) (fun F1 b x hx _ => he F1 b x hx)
  have e : xs.filter (fun _ => true) = xs := List.filter_eq_self.mpr fun _ _ => rfl
  rw [e] at h
  exact h
end
end LK

set_option Elab.async false
set_option linter.all false
set_option maxRecDepth 100000
set_option maxHeartbeats 4000000
set_option autoImplicit false
/-! LK4: statements, loops, defs. -/
namespace LK
open PySem L2 PyProof.Rows PySem.Spec
section
variable {F0 H0 : Hp} {G : List Slot} {m m1 m2 : Md} {ta tb tc te tl : TE} {tt : TT} {t u : TS} {K : PySem.W.Frag} {wi : TI} {g : TG} {nx : L2.St → Hp → Prop} {rt : VK} {bk ct : L2.St → Hp → Prop}
theorem gk_seq (h : Gk F0 H0 (t ⟨u ⟨nx, rt, bk, ct⟩, rt, bk, ct⟩) G) : Gk F0 H0 (tSeq t u ⟨nx, rt, bk, ct⟩) G := h
theorem gk_set {α : Type} {r : Rp α} [im : Mo r] {a : α} {i : Nat} (h : Ed F0 H0 te G .sh r a) (k : Gk F0 H0 nx (G.set i (.fz r im a))) : Gk F0 H0 (tAsg te (gName i) ⟨nx, rt, bk, ct⟩) G := fun σ F H E =>
  h σ F H E _ fun v F1 H1 g1 hv => k _ F1 H1 ((E.gro g1).set ⟨v, rfl, hv⟩ fun _ _ z => nomatch z)
theorem gk_setB {α : Type} {r : Rp α} [im : Mo r] {a : α} {i : Nat} (h : Ed F0 H0 te G .b0 r a) (k : Gk F0 H0 nx (G.set i (.bw r im a))) : Gk F0 H0 (tAsg te (gName i) ⟨nx, rt, bk, ct⟩) G := fun σ F H E =>
  h σ F H E _ fun v F1 H1 g1 hv => k _ F1 H1 ((E.gro g1).set ⟨v, rfl, hv⟩ fun _ _ z => nomatch z)
/-- a new list, to be changed -/
theorem gk_setN {α : Type} {r : Rp α} [im : Mo r] {xs : List α} {i : Nat} (h : En F0 H0 te G r xs) (k : Gk F0 H0 nx (G.set i (sL r xs))) : Gk F0 H0 (tAsg te (gName i) ⟨nx, rt, bk, ct⟩) G := fun σ F H E =>
  h σ F H E _ fun p vs F1 H1 g1 h1 h2 h3 h4 h5 => k _ F1 H1 (E.setO (S := [p]) g1 (fun a ha => by rw [List.mem_singleton.mp ha]; exact ⟨h1, h2⟩) ⟨rfl, vs, h3, h4, h5⟩)
/-- from now on it stays as it is -/
theorem gk_freeze {α : Type} {r : Rp α} [im : Mo r] {xs : List α} {iM : MoM (mL r xs)} {k : L2.St → Hp → Prop} (i : Nat) (hi : G[i]? = some (.ow (mL r xs) iM)) (h : Gk F0 H0 k (G.set i (sF (rLst r) xs))) : Gk F0 H0 k G := fun σ F H E => by
  obtain ⟨F', E', _⟩ := E.freeze (s := sF (rLst r) xs) hi (fun p S F' ⟨hS, vs, e, h1, h2⟩ hp ee _ => ⟨.ref p, rfl, p, vs, rfl, by rw [hp p (by rw [hS]; simp), e], h1, pmap (fun _ _ z => mox ee z) h2⟩) (fun _ _ z => nomatch z)
  exact h σ F' H E'
/-- a name forgotten -/
theorem gk_drop {k : L2.St → Hp → Prop} (i : Nat) (h : Gk F0 H0 k (G.set i .no)) : Gk F0 H0 k G := fun σ F H E => h σ F H E.drop
theorem gk_cast {G' : List Slot} {k : L2.St → Hp → Prop} (e : G = G') (h : Gk F0 H0 k G') : Gk F0 H0 k G := e ▸ h

/-! ### what is wanted at the end -/
def Rt {α : Type} (F0 H0 : Hp) (rt : VK) (r : Rp α) (a : α) : Prop := ∀ v F H, Gr F0 H0 F H → r F v a → rt v H
/-- a new list is handed back -/
def RtN {α : Type} (F0 H0 : Hp) (rt : VK) (r : Rp α) (xs : List α) : Prop := ∀ p vs F H, Gr F0 H0 F H → H0 p = none → F p = none → H p = some (.lst vs) → xs.length ≤ 16777216 → Paired (r F) vs xs → rt (.ref p) H
/-- nothing is handed back at the body's end -/
def RtU (F0 H0 : Hp) (rt : VK) : Prop := ∀ F H, Gr F0 H0 F H → rt .non H
theorem Rt.up {α : Type} {r : Rp α} {a : α} {F1 : Hp} (h : Rt F0 H0 rt r a) (b : Bs F0 H0 F1) : Rt F1 H0 rt r a := fun v F H g => h v F H (g.down b)
theorem RtN.up {α : Type} {r : Rp α} {a : List α} {F1 : Hp} (h : RtN F0 H0 rt r a) (b : Bs F0 H0 F1) : RtN F1 H0 rt r a := fun p vs F H g => h p vs F H (g.down b)
theorem RtU.up {F1 : Hp} (h : RtU F0 H0 rt) (b : Bs F0 H0 F1) : RtU F1 H0 rt := fun F H g => h F H (g.down b)
theorem RtN.ofRt {α : Type} {r : Rp α} [Mo r] {xs : List α} (h : Rt F0 H0 rt (rLst r) xs) : RtN F0 H0 rt r xs := fun p vs F H g h1 h2 h3 h4 h5 =>
  h _ (upd F p (.lst vs)) H ⟨g.ff.trans (Ex.new h2), fun a o e => by
      by_cases ha : a = p
      · subst ha; rw [upd_same] at e; cases e; exact h3
      · rw [upd_ne ha] at e; exact g.fh a o e, g.hh, fun a o e n => by
      by_cases ha : a = p
      · subst ha; exact h1
      · rw [upd_ne ha] at e; exact g.nw a o e n⟩ ⟨p, vs, rfl, upd_same, h4, pmap (fun _ _ z => mox (Ex.new h2) z) h5⟩
theorem gk_ret {α : Type} {r : Rp α} {a b : α} (hq : Rt F0 H0 rt r b) (h : Ed F0 H0 te G .sh r a) (e : a = b) : Gk F0 H0 (tRet te ⟨nx, rt, bk, ct⟩) G := fun σ F H E =>
  h σ F H E _ fun v F1 H1 g1 hv => hq v F1 H1 (E.gr.trans g1) (e ▸ hv)
theorem gk_retN {α : Type} {r : Rp α} {a b : List α} (hq : RtN F0 H0 rt r b) (h : En F0 H0 te G r a) (e : a = b) : Gk F0 H0 (tRet te ⟨nx, rt, bk, ct⟩) G := fun σ F H E =>
  h σ F H E _ fun p vs F1 H1 g1 h1 h2 h3 h4 h5 => hq p vs F1 H1 (E.gr.trans g1) (E.gr.hh.back h1) h2 h3 (e ▸ h4) (e ▸ h5)
theorem gk_retO {α : Type} {r : Rp α} {xs b : List α} {iM : MoM (mL r xs)} {i : Nat} (hq : RtN F0 H0 rt r b) (hi : G[i]? = some (.ow (mL r xs) iM)) (e : xs = b) : Gk F0 H0 (tRet (tVar i) ⟨nx, rt, bk, ct⟩) G := fun σ F H E => by
  obtain ⟨p, vs, hx, h1, h2, h3, h4, h5⟩ := E.lst_at hi
  subst e
  exact ⟨_, hx, hq p vs F H E.gr h2 h1 h3 h4 h5⟩
theorem gk_retU (hq : RtU F0 H0 rt) : Gk F0 H0 (tRetN ⟨nx, rt, bk, ct⟩) G := fun σ F H E => hq F H E.gr
/-- the body's end -/
theorem gk_end {k : L2.St → Hp → Prop} (hq : ∀ σ F H, EnvOk F0 H0 G σ F H → k σ H) : Gk F0 H0 k G := hq
theorem gk_next (h : Gk F0 H0 nx G) : Gk F0 H0 (tNext ⟨nx, rt, bk, ct⟩) G := h
theorem gk_meet {G' : List Slot} (e : G = G') : Gk F0 H0 (EnvK F0 H0 G') G := fun σ F H E => ⟨F, e ▸ E⟩

/-! ### if -/
theorem gk_if {b : Bool} (h : Et F0 H0 tt G b) (h1 : b = true → Gk F0 H0 (t ⟨nx, rt, bk, ct⟩) G) (h2 : b = false → Gk F0 H0 (u ⟨nx, rt, bk, ct⟩) G) : Gk F0 H0 (tIfS tt t u ⟨nx, rt, bk, ct⟩) G := fun σ F H E =>
  h σ F H E _ fun F1 H1 g1 => by
    cases b with
    | true => exact h1 rfl σ F1 H1 (E.gro g1)
    | false => exact h2 rfl σ F1 H1 (E.gro g1)
/-- the ways meet again -/
theorem gk_ifj {b : Bool} (G' : List Slot) (h : Et F0 H0 tt G b) (h1 : b = true → Gk F0 H0 (t ⟨EnvK F0 H0 G', rt, bk, ct⟩) G) (h2 : b = false → Gk F0 H0 (u ⟨EnvK F0 H0 G', rt, bk, ct⟩) G)
    (mt : ∀ {k k' : L2.St → Hp → Prop} σ H, (∀ σ H, k σ H → k' σ H) → t ⟨k, rt, bk, ct⟩ σ H → t ⟨k', rt, bk, ct⟩ σ H) (mu : ∀ {k k' : L2.St → Hp → Prop} σ H, (∀ σ H, k σ H → k' σ H) → u ⟨k, rt, bk, ct⟩ σ H → u ⟨k', rt, bk, ct⟩ σ H)
    (k : Gk F0 H0 nx G') : Gk F0 H0 (tIfS tt t u ⟨nx, rt, bk, ct⟩) G := fun σ F H E =>
  h σ F H E _ fun F1 H1 g1 => by
    have kk : ∀ σ H, EnvK F0 H0 G' σ H → nx σ H := fun σ H ⟨F, e⟩ => k σ F H e
    cases b with
    | true => exact mt (k' := nx) σ H1 kk (h1 rfl σ F1 H1 (E.gro g1))
    | false => exact mu (k' := nx) σ H1 kk (h2 rfl σ F1 H1 (E.gro g1))

/-! ### an own list changes -/
theorem gk_app {α : Type} {r : Rp α} [im : Mo r] {xs : List α} {iM : MoM (mL r xs)} {a : α} {i : Nat} (hi : G[i]? = some (.ow (mL r xs) iM)) (h : Ed F0 H0 te G .sh r a) (hl : xs.length < 16777216) (k : Gk F0 H0 nx (G.set i (sL r (xs ++ [a])))) :
    Gk F0 H0 (tDrop (tBM K "list" rAppend (tVar i) (tCons te tNil)) ⟨nx, rt, bk, ct⟩) G := fun σ F H E => by
  obtain ⟨p, vs, hx, h1, h2, h3, h4, h5⟩ := E.lst_at hi
  refine ⟨_, hx, .inl ⟨rfl, _, SqL.of h3⟩, h σ F H E _ fun v F1 H1 g1 hv => ⟨p, vs, v, rfl, rfl, g1.hh _ _ h3, by rw [plen h5]; exact sz_lt hl, ?_⟩⟩
  exact k σ F1 _ ((E.gro g1).mutL hi hx (by simp; omega) (papp (pmap (fun _ _ z => mox g1.ff z) h5) (.cons hv .nil)))
theorem gk_clear {α : Type} {r : Rp α} [im : Mo r] {xs : List α} {iM : MoM (mL r xs)} {i : Nat} (hi : G[i]? = some (.ow (mL r xs) iM)) (k : Gk F0 H0 nx (G.set i (sL r []))) :
    Gk F0 H0 (tDrop (tBM0 K "list" rClear (tVar i)) ⟨nx, rt, bk, ct⟩) G := fun σ F H E => by
  obtain ⟨p, vs, hx, h1, h2, h3, h4, h5⟩ := E.lst_at hi
  exact ⟨_, hx, .inl ⟨rfl, _, SqL.of h3⟩, p, vs, rfl, rfl, h3, k σ F _ (E.mutL hi hx (by simp) .nil)⟩
theorem gk_ext {α : Type} {r : Rp α} [im : Mo r] [Kp m r] {xs ys : List α} {iM : MoM (mL r xs)} {i : Nat} (hi : G[i]? = some (.ow (mL r xs) iM)) (h : Ed F0 H0 te G m (rLst r) ys) (hl : xs.length + ys.length ≤ 16777216) (k : Gk F0 H0 nx (G.set i (sL r (xs ++ ys)))) :
    Gk F0 H0 (tDrop (tBM K "list" rExtend (tVar i) (tCons te tNil)) ⟨nx, rt, bk, ct⟩) G := fun σ F H E => by
  obtain ⟨p, vs, hx, h1, h2, h3, h4, h5⟩ := E.lst_at hi
  refine ⟨_, hx, .inl ⟨rfl, _, SqL.of h3⟩, h σ F H E _ fun v F1 H1 g1 hv => ?_⟩
  obtain ⟨q, ws, rfl, a1, a2, a3⟩ := hv
  have g0 := E.gr.trans g1
  refine ⟨p, q, vs, ws, rfl, rfl, g1.hh _ _ h3, pk_now g0 _ _ a1, by rw [plen h5, plen a3]; exact sz_le hl, ?_⟩
  exact k σ F1 _ ((E.gro g1).mutL hi hx (by rw [List.length_append]; exact hl) (papp (pmap (fun _ _ z => mox g1.ff z) h5) (pmap (fun _ _ z => Kp.kp g0 z) a3)))
/-- xs[i] = e -/
theorem gk_setI {α : Type} {r : Rp α} [im : Mo r] {xs : List α} {iM : MoM (mL r xs)} {a : α} {i : Nat} {j : Int} (hi : G[i]? = some (.ow (mL r xs) iM)) (h : Ed F0 H0 te G .sh r a) (hj : Ed F0 H0 tb G m rInt j) (hk : 0 ≤ j ∧ j < xs.length) (k : Gk F0 H0 nx (G.set i (sL r (xs.set j.toNat a)))) :
    Gk F0 H0 (tAsg te (gSub (tVar i) tb rSetL) ⟨nx, rt, bk, ct⟩) G := fun σ F H E =>
  h σ F H E _ fun v F1 H1 g1 hv => by
    have E1 := E.gro g1
    obtain ⟨p, vs, hx, h1, h2, h3, h4, h5⟩ := E1.lst_at hi
    refine ⟨_, hx, hj σ F1 H1 E1 _ fun w F2 H2 g2 hw => ?_⟩
    have hl := plen h5
    refine ⟨p, vs, j, j.toNat, rfl, hw, g2.hh _ _ h3, ?_, ?_⟩
    · unfold ixN; rw [if_pos hk.1, if_pos (by omega)]
    · exact k σ F2 _ ((E1.gro g2).mutL hi hx (by rw [List.length_set]; exact h4) (pset (mox g2.ff hv) _ (pmap (fun _ _ z => mox g2.ff z) h5)))
/-- x += e, ints -/
theorem gk_aug {f : Int → Int → Int} {a b : Int} {i : Nat} {im : Mo rInt} (hi : G[i]? = some (.fz rInt im a)) (h : Ed F0 H0 te G m rInt b) (k : Gk F0 H0 nx (G.set i (sF rInt (f a b)))) : Gk F0 H0 (tAug i te (ipI f) ⟨nx, rt, bk, ct⟩) G := fun σ F H E => by
  obtain ⟨v, hx, ok⟩ := E.fz_at hi
  exact ⟨v, hx, h σ F H E _ fun w F1 H1 g1 hw => ⟨a, b, ok, hw, k _ F1 H1 ((E.gro g1).set ⟨_, rfl, rfl⟩ fun _ _ z => nomatch z)⟩⟩
theorem gk_expr {α : Type} {r : Rp α} {a : α} (h : Ed F0 H0 te G m r a) (k : Gk F0 H0 nx G) : Gk F0 H0 (tDrop te ⟨nx, rt, bk, ct⟩) G := fun σ F H E => h σ F H E _ fun v F1 H1 g1 hv => k σ F1 H1 (E.gro g1)

/-! ### loops -/
def LpK {α S : Type} (F1 H0 : Hp) (P : List α → S → Prop) (Gs : S → List Slot) (rest : List α) : L2.St → Hp → Prop := fun σ H => ∃ s F, P rest s ∧ EnvOk F1 H0 (Gs s) σ F H
theorem gk_loop {α S : Type} {F1 : Hp} {P : List α → S → Prop} {Gs : S → List Slot} {rest : List α} (s : S) (p : P rest s) (e : G = Gs s) : Gk F1 H0 (LpK F1 H0 P Gs rest) G := fun σ F H E => ⟨s, F, p, e ▸ E⟩
theorem gk_for {α S : Type} {r : Rp α} {xs : List α} {up : α → List Slot → List Slot} {tg : List Nat} (P : List α → S → Prop) (Gs : S → List Slot) (s0 : S) (hi : Ei F0 H0 wi G m r xs) (hg : Eg H0 g m r up tg) (e0 : G = Gs s0) (p0 : P xs s0)
    (hs : ∀ F1, Bs F0 H0 F1 → ∀ x rest s, x ∈ xs → P (x :: rest) s → Gk F1 H0 (t ⟨LpK F1 H0 P Gs rest, rt, nx, LpK F1 H0 P Gs rest⟩) (up x (Gs s))) (hd : ∀ s, P [] s → Gk F0 H0 nx (Gs s)) :
    Gk F0 H0 (tFor wi g t ⟨nx, rt, bk, ct⟩) G := fun σ F H E => hi σ F H E _ fun J F1 H1 g1 w hxl => by
  subst e0
  have E1 := (E.gro g1).here
  have b1 : Bs F0 H0 F1 := (E.gr.trans g1).bs
  refine ⟨fun i k σ' H' => k = xs.length - i ∧ i ≤ xs.length ∧ ∃ s F', P (xs.drop i) s ∧ EnvOk F1 H0 (Gs s) σ' F' H', ⟨xs.length, by simp, Nat.zero_le _, s0, F1, p0, E1⟩, ?_⟩
  rintro i k σ' H' ⟨rfl, hi', s, F', ps, E2⟩
  by_cases hlt : i < xs.length
  · refine .inr ⟨w.go i F' H' E2.gr.ff E2.gr.fh E2.gr.hh hlt, LpK F1 H0 P Gs (xs.drop (i + 1)), fun σ'' H'' ⟨s', F'', p', E'⟩ => ⟨xs.length - (i + 1), by omega, rfl, hlt, s', F'', p', E'⟩, fun v H'' y => ?_⟩
    obtain ⟨x, F3, hx, g3, rx⟩ := w.yld i F' H' v H'' E2.gr.ff E2.gr.fh E2.gr.hh hlt y
    have hd' : xs.drop i = x :: xs.drop (i + 1) := by
      rw [List.drop_eq_getElem_cons hlt]
      rw [List.getElem?_eq_getElem hlt] at hx
      rw [Option.some.inj hx]
    rw [hd'] at ps
    exact hg F1 _ _ F3 H'' v x (E2.gro g3) rx _ fun σ2 E4 _ => hs F1 b1 x _ s (List.mem_of_getElem? hx) ps σ2 F3 H'' E4
  · have e : i = xs.length := by omega
    subst e
    rw [List.drop_length] at ps
    exact .inl ⟨w.stop F' H' E2.gr.ff E2.gr.fh E2.gr.hh, hd s ps σ' F' H' (E2.down b1)⟩
/-- while: W by a measure -/
theorem gk_while {S : Type} (P : S → Prop) (Gs : S → List Slot) (c : S → Bool) (mu : S → Nat) (s0 : S) (e0 : G = Gs s0) (p0 : P s0) (ht : ∀ s, P s → Et F0 H0 tt (Gs s) (c s))
    (hs : ∀ s, P s → c s = true → Gk F0 H0 (t ⟨fun σ H => ∃ s' F, P s' ∧ mu s' < mu s ∧ EnvOk F0 H0 (Gs s') σ F H, rt, nx, fun σ H => ∃ s' F, P s' ∧ mu s' < mu s ∧ EnvOk F0 H0 (Gs s') σ F H⟩) (Gs s))
    (hd : ∀ s, P s → c s = false → Gk F0 H0 nx (Gs s)) : Gk F0 H0 (tWhile tt t ⟨nx, rt, bk, ct⟩) G := fun σ F H E => by
  subst e0
  refine ⟨fun k σ' H' => ∃ s F', k = mu s ∧ P s ∧ EnvOk F0 H0 (Gs s) σ' F' H', ⟨mu s0, s0, F, rfl, p0, E⟩, ?_⟩
  rintro k σ' H' ⟨s, F', rfl, ps, E2⟩
  refine ht s ps σ' F' H' E2 _ fun F3 H3 g3 => ?_
  cases hc : c s with
  | true => exact ⟨_, fun σ'' H'' ⟨s', F'', p', l, E'⟩ => ⟨mu s', l, s', F'', rfl, p', E'⟩, hs s ps hc σ' F3 H3 (E2.gro g3)⟩
  | false => exact hd s ps hc σ' F3 H3 (E2.gro g3)

/-! ### defs -/
/-- hands back a frozen datum -/
def spV {α β : Type} (T : Pt α) (pre : α → Prop) (f : α → β) (rb : Rp β) : Sp := fun vs H Q _ => ∃ F a, Ex F H ∧ T.ra F H H vs a ∧ pre a ∧ ∀ v F' H', Gr F H F' H' → rb F' v (f a) → Q v H'
/-- hands back a new list -/
def spN {α β : Type} (T : Pt α) (pre : α → Prop) (f : α → List β) (rb : Rp β) : Sp := fun vs H Q _ => ∃ F a, Ex F H ∧ T.ra F H H vs a ∧ pre a ∧ ∀ p vs F' H', Gr F H F' H' → H p = none → F' p = none → H' p = some (.lst vs) → (f a).length ≤ 16777216 → Paired (rb F') vs (f a) → Q (.ref p) H'
theorem spV_len {α β : Type} {T : Pt α} {pre : α → Prop} {f : α → β} {rb : Rp β} {vs : List V} {H : Hp} {Q : VK} {E : XK} (h : spV T pre f rb vs H Q E) : vs.length = T.count := by
  obtain ⟨F, a, _, h, _⟩ := h; exact T.length h
theorem spN_len {α β : Type} {T : Pt α} {pre : α → Prop} {f : α → List β} {rb : Rp β} {vs : List V} {H : Hp} {Q : VK} {E : XK} (h : spN T pre f rb vs H Q E) : vs.length = T.count := by
  obtain ⟨F, a, _, h, _⟩ := h; exact T.length h
theorem Pt.ra_b0 {α : Type} : ∀ (T : Pt α) {F H : Hp} {vs : List V} {a : α}, T.ra F H H vs a → ∀ {n : Nat} {G : List Slot}, ∀ (i : Nat) (s : Slot), (T.slots a)[i]? = some s → ∃ x, vs[i]? = some x ∧ SlotOk H F H (some x) [] s
  | .nil, _, _, _, _, _, _, _, i, s, h => by simp [Pt.slots] at h
  | .cons m r im t, F, H, vs, a, h, n, G, i, s, hs => by
    obtain ⟨v, us, rfl, h2, h3⟩ := h
    cases i with
    | zero =>
      have e : s = pslot m r im a.1 := (Option.some.inj hs).symm
      subst e
      refine ⟨v, rfl, ?_⟩
      cases m with
      | sh => exact ⟨v, rfl, h2⟩
      | b0 => exact ⟨v, rfl, h2⟩
      | bo => exact ⟨v, rfl, h2⟩
    | succ i => exact t.ra_b0 h3 (n := n) (G := G) i s hs
theorem slots_noM {α : Type} : ∀ (T : Pt α) (a : α) (i : Nat) (M : Mu) (iM : MoM M), (T.slots a)[i]? ≠ some (.ow M iM)
  | .nil, _, i, M, iM => by simp [Pt.slots]
  | .cons m r im t, a, 0, M, iM => by
    intro h
    have e : pslot m r im a.1 = .ow M iM := Option.some.inj h
    exact pslot_no M iM e
  | .cons m r im t, a, i + 1, M, iM => slots_noM t a.2 i M iM
theorem slots_len {α : Type} : ∀ (T : Pt α) (a : α), (T.slots a).length = T.count
  | .nil, _ => rfl
  | .cons m r im t, a => by show (t.slots a.2).length + 1 = t.count + 1; rw [slots_len t]
/-- at a def's entry -/
theorem entry {α : Type} {T : Pt α} {F H : Hp} {vs : List V} {a : α} {N : List Str} (e : Ex F H) (h : T.ra F H H vs a) (k : Nat) (hk : N.length = T.count + k) : EnvOk F H (T.slots a ++ List.replicate k .no) (L2.start N vs) F H := by
  have hl := T.length h
  have hs := slots_len T a
  refine ⟨fun _ => [], Gr.refl e, ?_, fun i s hi => ?_, fun i j M iM N' iN p hij h1 => ?_⟩
  · unfold L2.start; simp [hl, hs]; omega
  · by_cases c : i < T.count
    · rw [List.getElem?_append_left (by rw [hs]; exact c)] at hi
      obtain ⟨x, hx, ok⟩ := T.ra_b0 h (n := 0) (G := []) i s hi
      refine ⟨some x, ?_, ok⟩
      unfold L2.start
      rw [List.getElem?_append_left (by simp; omega), List.getElem?_map, hx]; rfl
    · rw [List.getElem?_append_right (by omega)] at hi
      rw [List.getElem?_replicate] at hi
      split at hi
      · cases hi
        refine ⟨none, ?_, trivial⟩
        unfold L2.start
        rw [List.getElem?_append_right (by simp; omega), List.getElem?_replicate]
        rw [if_pos (by simp; omega)]
      · cases hi
  · by_cases c : i < T.count
    · rw [List.getElem?_append_left (by rw [hs]; exact c)] at h1
      exact absurd h1 (slots_noM T a i M iM)
    · rw [List.getElem?_append_right (by omega)] at h1
      rw [List.getElem?_replicate] at h1
      split at h1 <;> cases h1
/-- a call -/
theorem ed_call {α β : Type} {T : Pt α} {pre : α → Prop} {f : α → β} {rb : Rp β} {E : XK} {t : TA} {a : α} (h : Ea F0 H0 t G T.ra a) (hT : ∀ {F H : Hp} {vs : List V}, Gr F0 H0 F H → T.ra F H0 H vs a → T.ra F H H vs a) (hp : pre a) : Ed F0 H0 (tCall (spV T pre f rb) [] E t) G .sh rb (f a) := fun σ F H EE Q q =>
  h σ F H EE _ fun vs F1 H1 g1 h1 => ⟨F1, a, g1.fh, by rw [List.append_nil]; exact hT (EE.gr.trans g1) h1, hp, fun v F2 H2 g2 h2 => q v F2 H2 (g1.trans g2) h2⟩
theorem en_call {α β : Type} {T : Pt α} {pre : α → Prop} {f : α → List β} {rb : Rp β} {E : XK} {t : TA} {a : α} (h : Ea F0 H0 t G T.ra a) (hT : ∀ {F H : Hp} {vs : List V}, Gr F0 H0 F H → T.ra F H0 H vs a → T.ra F H H vs a) (hp : pre a) : En F0 H0 (tCall (spN T pre f rb) [] E t) G rb (f a) := fun σ F H EE Q q =>
  h σ F H EE _ fun vs F1 H1 g1 h1 => ⟨F1, a, g1.fh, by rw [List.append_nil]; exact hT (EE.gr.trans g1) h1, hp, fun p vs F2 H2 g2 e1 e2 e3 e4 e5 => q p vs F2 H2 (g1.trans g2) (g1.hh.back e1) e2 e3 e4 e5⟩
theorem Pt.now {α : Type} : ∀ (T : Pt α) {F H F0 H0 : Hp} {vs : List V} {a : α}, Gr F0 H0 F H → T.ra F H0 H vs a → T.ra F H H vs a
  | .nil, _, _, _, _, _, _, _, h => h
  | .cons m r i t, F, H, F0, H0, _, _, g, h => by
    obtain ⟨v, us, h1, h2, h3⟩ := h
    refine ⟨v, us, h1, i.ex (?_ : Ex (pk m F H0 H) (pk m F H H)) h2, t.now g h3⟩
    cases m with
    | sh => exact Ex.refl _
    | b0 => exact g.hh
    | bo => exact Ex.refl _
end
section
variable {P : Program} {w : World} {K : PySem.W.Frag} {mg : Str → Option Value} {base : Heap}
/-- a def that hands back a frozen datum: its body as a term, and its reading -/
theorem ok_V {α β : Type} {T : Pt α} {pre : α → Prop} {f : α → β} {rb : Rp β} {x qual : Str} {st : Stmt} {fa : Addr} {fd : FuncData} {N ps : List Str} {k : Nat} (c : Nat) (Fn : Fun K x qual st fa fd) (S : FnScope N ps (defScope st)) (hc : N.length = T.count + c) (hps : ps.length = T.count)
    (hbody : ∀ (cdv : Value) (A : Around) (outer : List Env) (s : Shared) (H : Hp) (E : XK), Room k (A.deeper (envOfC qual (defScope st) s.heap.objs.size fa cdv)) →
      ∃ t, PSs (cxOf CX0 P w K mg base N qual (defScope st) fa cdv A outer s H E).nox (defBody st) t ∧ ∀ (F : Hp) (a : α) (nx : L2.St → Hp → Prop) (rt : VK) (bk ct : L2.St → Hp → Prop), pre a → Rt F H rt rb (f a) → (∀ σ H', nx σ H' = rt .non H') → Gk F H (t ⟨nx, rt, bk, ct⟩) (T.slots a ++ List.replicate c .no)) :
    FnOk P w K mg base CX0 (k + 1) fa fd ps (spV T pre f rb) := by
  refine Fn.ok S (fun vs H Q E h => by rw [hps]; exact spV_len h) (fun cdv A outer s H vs Q E hr h => ?_)
  obtain ⟨F, a, e, ha, hp, q⟩ := h
  obtain ⟨t, ht, hg⟩ := hbody cdv A outer s H E hr
  exact ⟨t, ht, hg F a _ _ _ _ hp (fun v F' H' g h => q v F' H' g h) (fun _ _ => rfl) _ F H (entry e ha c hc)⟩
theorem ok_N {α β : Type} {T : Pt α} {pre : α → Prop} {f : α → List β} {rb : Rp β} {x qual : Str} {st : Stmt} {fa : Addr} {fd : FuncData} {N ps : List Str} {k : Nat} (c : Nat) (Fn : Fun K x qual st fa fd) (S : FnScope N ps (defScope st)) (hc : N.length = T.count + c) (hps : ps.length = T.count)
    (hbody : ∀ (cdv : Value) (A : Around) (outer : List Env) (s : Shared) (H : Hp) (E : XK), Room k (A.deeper (envOfC qual (defScope st) s.heap.objs.size fa cdv)) →
      ∃ t, PSs (cxOf CX0 P w K mg base N qual (defScope st) fa cdv A outer s H E).nox (defBody st) t ∧ ∀ (F : Hp) (a : α) (nx : L2.St → Hp → Prop) (rt : VK) (bk ct : L2.St → Hp → Prop), pre a → RtN F H rt rb (f a) → (∀ σ H', nx σ H' = rt .non H') → Gk F H (t ⟨nx, rt, bk, ct⟩) (T.slots a ++ List.replicate c .no)) :
    FnOk P w K mg base CX0 (k + 1) fa fd ps (spN T pre f rb) := by
  refine Fn.ok S (fun vs H Q E h => by rw [hps]; exact spN_len h) (fun cdv A outer s H vs Q E hr h => ?_)
  obtain ⟨F, a, e, ha, hp, q⟩ := h
  obtain ⟨t, ht, hg⟩ := hbody cdv A outer s H E hr
  exact ⟨t, ht, hg F a _ _ _ _ hp (fun p vs F' H' g h1 h2 h3 h4 h5 => q p vs F' H' g h1 h2 h3 h4 h5) (fun _ _ => rfl) _ F H (entry e ha c hc)⟩
end
end LK

set_option Elab.async false
set_option linter.all false
set_option maxRecDepth 100000
set_option maxHeartbeats 4000000
set_option autoImplicit false
/-! LK5: short forms of the terms; loops by folds; forgetting. -/
namespace LK
open PySem L2 PyProof.Rows PySem.Spec

/-! ### terms in short -/
/-- what a caller knows of a def by its name -/
structure Cal (K : PySem.W.Frag) (mg : Str → Option Value) (x : Str) (f : Addr) (fd : FuncData) (ps : List Str) : Prop where
  mg : mg x = some (.ref f)
  kp : PySem.W.keepIn K (.ref f) = true
  bi : Binds K fd ps []
section
variable {X : Cx} {e : Expr} {es : List Expr} {te : TE} {t : TA} {x : Str} {p pos : Pos}
theorem w_call {k : Nat} {f : Addr} {fd : FuncData} {ps : List Str} {sp : Sp} (C : Cal X.K X.mg x f fd ps) (F : FnOk X.prog X.w X.K X.mg X.base CX0 k f fd ps sp) (hr : Room k X.A) (ha : PA X (e :: es) t) (hg : Gl X x := by rfl) (hdb : (x == ("__debug__" : Str)) = false := by decide)
    (he : starEach (e :: es) X.env = (false, eval e X.env) :: starEach es X.env := by rfl) (hpl : (backTo pos (starEach es X.env)).any (·.1) = false := by rfl) : PE X (.Call (.Name x p) (e :: es) [] pos) (tCall sp [] E0 t) :=
  pe_call F hr hg C.mg C.kp C.bi .nil pass0 ha hdb he hpl
theorem w_set {i : Nat} {pos' : Pos} (hN : X.N.Nodup) (hi : X.N[i]? = some x) (hx : Loc X.env.scope x) (hf : X.fn x = true ∨ X.env.scope.names.lookup x = some .local) (he : PE X e te) (hs : swapsWith e (some (.Name x pos')) pos.line X.env = pure false := by rfl) : PS X (.Assign [.Name x pos'] e pos) (tAsg te (gName i)) :=
  ps_set hN hi hx he hs hf
end

/-! ### forgetting -/
def Lw : List Slot → List Slot → Prop
  | [], [] => True
  | s :: G, t :: G' => (t = .no ∨ s = t) ∧ Lw G G'
  | _, _ => False
theorem Lw.len : ∀ {G G' : List Slot}, Lw G G' → G.length = G'.length
  | [], [], _ => rfl
  | _ :: _, _ :: _, h => by rw [List.length_cons, List.length_cons, Lw.len h.2]
  | [], _ :: _, h => h.elim
  | _ :: _, [], h => h.elim
theorem Lw.at_ : ∀ {G G' : List Slot}, Lw G G' → ∀ (i : Nat) (t : Slot), G'[i]? = some t → t = .no ∨ G[i]? = some t
  | [], [], _, i, t, h => by simp at h
  | s :: G, t :: G', l, 0, u, h => by
    have e : t = u := Option.some.inj h
    subst e
    rcases l.1 with q | q
    · exact .inl q
    · exact .inr (by rw [q]; rfl)
  | s :: G, t :: G', l, i + 1, u, h => Lw.at_ l.2 i u h
  | [], _ :: _, l, _, _, _ => l.elim
  | _ :: _, [], l, _, _, _ => l.elim
theorem Lw.refl : ∀ G : List Slot, Lw G G
  | [] => trivial
  | _ :: G => ⟨.inr rfl, Lw.refl G⟩
section
variable {F0 H0 F H : Hp} {G G' : List Slot} {σ : L2.St}
theorem EnvOk.weak (E : EnvOk F0 H0 G σ F H) (l : Lw G G') : EnvOk F0 H0 G' σ F H := by
  obtain ⟨fp, E⟩ := E
  refine ⟨fp, E.gr, E.len.trans l.len, fun i s h => ?_, fun i j M iM N iN p hij h1 h2 h3 => ?_⟩
  · rcases l.at_ i s h with e | e
    · subst e
      have hi : i < σ.length := by rw [E.len, l.len]; exact (List.getElem?_eq_some_iff.mp h).1
      exact ⟨_, List.getElem?_eq_getElem hi, trivial⟩
    · exact E.at_ i s e
  · rcases l.at_ i _ h1 with e | h1
    · cases e
    · rcases l.at_ j _ h2 with e | h2
      · cases e
      · exact E.dj i j M iM N iN p hij h1 h2 h3
theorem gk_weak {k : L2.St → Hp → Prop} (l : Lw G G') (h : Gk F0 H0 k G') : Gk F0 H0 k G := fun σ F H E => h σ F H (E.weak l)
end

/-! ### values by names -/
section
variable {F0 H0 : Hp} {G : List Slot} {m m1 m2 : Md} {ta tb tc te tl : TE} {tt : TT} {t u : TS} {K : PySem.W.Frag} {wi : TI} {g : TG} {nx : L2.St → Hp → Prop} {rt : VK} {bk ct : L2.St → Hp → Prop}
theorem gk_asg {α : Type} {r : Rp α} [im : Mo r] {a : α} {i : Nat} (h : Ed F0 H0 te G .sh r a) (k : ∀ x, x = a → Gk F0 H0 nx (G.set i (.fz r im x))) : Gk F0 H0 (tAsg te (gName i) ⟨nx, rt, bk, ct⟩) G := gk_set h (k a rfl)
theorem gk_asgB {α : Type} {r : Rp α} [im : Mo r] {a : α} {i : Nat} (h : Ed F0 H0 te G .b0 r a) (k : ∀ x, x = a → Gk F0 H0 nx (G.set i (.bw r im x))) : Gk F0 H0 (tAsg te (gName i) ⟨nx, rt, bk, ct⟩) G := gk_setB h (k a rfl)
theorem gk_asgN {α : Type} {r : Rp α} [im : Mo r] {xs : List α} {i : Nat} (h : En F0 H0 te G r xs) (k : ∀ x, x = xs → Gk F0 H0 nx (G.set i (sL r x))) : Gk F0 H0 (tAsg te (gName i) ⟨nx, rt, bk, ct⟩) G := gk_setN h (k xs rfl)
theorem gk_appv {α : Type} {r : Rp α} [im : Mo r] {xs : List α} {iM : MoM (mL r xs)} {a : α} {i : Nat} (hi : G[i]? = some (.ow (mL r xs) iM)) (h : Ed F0 H0 te G .sh r a) (hl : xs.length < 16777216) (k : ∀ x, x = xs ++ [a] → Gk F0 H0 nx (G.set i (sL r x))) :
    Gk F0 H0 (tDrop (tBM K "list" rAppend (tVar i) (tCons te tNil)) ⟨nx, rt, bk, ct⟩) G := gk_app hi h hl (k _ rfl)
/-- loops that go through, by a fold; I: what else holds -/
def FoK {α S : Type} (F1 H0 : Hp) (I : List α → S → Prop) (ups : S → List Slot → List Slot) (G : List Slot) (rest : List α) (s : S) : L2.St → Hp → Prop := fun σ H => I rest s ∧ ∃ F, EnvOk F1 H0 (ups s G) σ F H
theorem gk_fold {α S : Type} {r : Rp α} {xs : List α} {up : α → List Slot → List Slot} {tg : List Nat} (step : S → α → S) (I : List α → S → Prop) (ups : S → List Slot → List Slot) (s0 : S) (hi : Ei F0 H0 wi G m r xs) (hg : Eg H0 g m r up tg) (e0 : Lw G (ups s0 G)) (i0 : I xs s0)
    (hs : ∀ F1, Bs F0 H0 F1 → ∀ x rest s, x ∈ xs → I (x :: rest) s → Gk F1 H0 (t ⟨FoK F1 H0 I ups G rest (step s x), rt, nx, FoK F1 H0 I ups G rest (step s x)⟩) (up x (ups s G))) (hd : ∀ s, s = xs.foldl step s0 → I [] s → Gk F0 H0 nx (ups s G)) :
    Gk F0 H0 (tFor wi g t ⟨nx, rt, bk, ct⟩) G := fun σ F H E => by
  -- the iterable is evaluated in the old slots
  refine hi σ F H E _ fun J F1 H1 g1 w hxl => ?_
  have E1 := ((E.gro g1).weak e0).here
  have b1 : Bs F0 H0 F1 := (E.gr.trans g1).bs
  refine ⟨fun i k σ' H' => k = xs.length - i ∧ i ≤ xs.length ∧ ∃ s F', (xs.drop i).foldl step s = xs.foldl step s0 ∧ I (xs.drop i) s ∧ EnvOk F1 H0 (ups s G) σ' F' H', ⟨xs.length, by simp, Nat.zero_le _, s0, F1, rfl, i0, E1⟩, ?_⟩
  rintro i k σ' H' ⟨rfl, hi', s, F', fs, ps, E2⟩
  by_cases hlt : i < xs.length
  · have hx : xs[i]? = some xs[i] := List.getElem?_eq_getElem hlt
    have hd' : xs.drop i = xs[i] :: xs.drop (i + 1) := List.drop_eq_getElem_cons hlt
    rw [hd'] at ps fs
    refine .inr ⟨w.go i F' H' E2.gr.ff E2.gr.fh E2.gr.hh hlt, FoK F1 H0 I ups G (xs.drop (i + 1)) (step s xs[i]), fun σ'' H'' ⟨p', F'', E'⟩ => ⟨xs.length - (i + 1), by omega, rfl, hlt, _, F'', fs, p', E'⟩, fun v H'' y => ?_⟩
    obtain ⟨x, F3, hx', g3, rx⟩ := w.yld i F' H' v H'' E2.gr.ff E2.gr.fh E2.gr.hh hlt y
    rw [hx] at hx'
    cases hx'
    exact hg F1 _ _ F3 H'' v _ (E2.gro g3) rx _ fun σ2 E4 _ => hs F1 b1 _ _ s (List.mem_of_getElem? hx) ps σ2 F3 H'' E4
  · have e : i = xs.length := by omega
    subst e
    rw [List.drop_length] at ps fs
    exact .inl ⟨w.stop F' H' E2.gr.ff E2.gr.fh E2.gr.hh, hd s fs ps σ' F' H' (E2.down b1)⟩
theorem gk_turn {α S : Type} {F1 : Hp} {I : List α → S → Prop} {ups : S → List Slot → List Slot} {G G' : List Slot} {rest : List α} {s s' : S} (l : Lw G' (ups s' G)) (e : s = s') (i : I rest s') : Gk F1 H0 (FoK F1 H0 I ups G rest s) G' := fun σ F H E => by
  subst e
  exact ⟨i, F, E.weak l⟩
/-- loops that may hand back, by what is to be handed back -/
def runC {α S β : Type} (f : S → α → (S → β) → β) : S → List α → (S → β) → β
  | s, [], k => k s
  | s, x :: xs, k => f s x fun s' => runC f s' xs k
def CpK {α S : Type} (F1 H0 : Hp) (P : List α → S → Prop) (ups : S → List Slot → List Slot) (G : List Slot) (rest : List α) : L2.St → Hp → Prop := fun σ H => ∃ s F, P rest s ∧ EnvOk F1 H0 (ups s G) σ F H
theorem gk_run {α S : Type} {r : Rp α} {xs : List α} {up : α → List Slot → List Slot} {tg : List Nat} (P : List α → S → Prop) (ups : S → List Slot → List Slot) (s0 : S) (hi : Ei F0 H0 wi G m r xs) (hg : Eg H0 g m r up tg) (e0 : Lw G (ups s0 G)) (p0 : P xs s0)
    (hs : ∀ F1, Bs F0 H0 F1 → ∀ x rest s, x ∈ xs → P (x :: rest) s → Gk F1 H0 (t ⟨CpK F1 H0 P ups G rest, rt, nx, CpK F1 H0 P ups G rest⟩) (up x (ups s G))) (hd : ∀ s, P [] s → Gk F0 H0 nx (ups s G)) :
    Gk F0 H0 (tFor wi g t ⟨nx, rt, bk, ct⟩) G := fun σ F H E => by
  refine hi σ F H E _ fun J F1 H1 g1 w hxl => ?_
  have E1 := ((E.gro g1).weak e0).here
  have b1 : Bs F0 H0 F1 := (E.gr.trans g1).bs
  refine ⟨fun i k σ' H' => k = xs.length - i ∧ i ≤ xs.length ∧ ∃ s F', P (xs.drop i) s ∧ EnvOk F1 H0 (ups s G) σ' F' H', ⟨xs.length, by simp, Nat.zero_le _, s0, F1, p0, E1⟩, ?_⟩
  rintro i k σ' H' ⟨rfl, hi', s, F', ps, E2⟩
  by_cases hlt : i < xs.length
  · have hx : xs[i]? = some xs[i] := List.getElem?_eq_getElem hlt
    have hd' : xs.drop i = xs[i] :: xs.drop (i + 1) := List.drop_eq_getElem_cons hlt
    rw [hd'] at ps
    refine .inr ⟨w.go i F' H' E2.gr.ff E2.gr.fh E2.gr.hh hlt, CpK F1 H0 P ups G (xs.drop (i + 1)), fun σ'' H'' ⟨s', F'', p', E'⟩ => ⟨xs.length - (i + 1), by omega, rfl, hlt, s', F'', p', E'⟩, fun v H'' y => ?_⟩
    obtain ⟨x, F3, hx', g3, rx⟩ := w.yld i F' H' v H'' E2.gr.ff E2.gr.fh E2.gr.hh hlt y
    rw [hx] at hx'
    cases hx'
    exact hg F1 _ _ F3 H'' v _ (E2.gro g3) rx _ fun σ2 E4 _ => hs F1 b1 _ _ s (List.mem_of_getElem? hx) ps σ2 F3 H'' E4
  · have e : i = xs.length := by omega
    subst e
    rw [List.drop_length] at ps
    exact .inl ⟨w.stop F' H' E2.gr.ff E2.gr.fh E2.gr.hh, hd s ps σ' F' H' (E2.down b1)⟩
theorem gk_again {α S : Type} {F1 : Hp} {P : List α → S → Prop} {ups : S → List Slot → List Slot} {G G' : List Slot} {rest : List α} (s' : S) (l : Lw G' (ups s' G)) (i : P rest s') : Gk F1 H0 (CpK F1 H0 P ups G rest) G' := fun σ F H E => ⟨s', F, i, E.weak l⟩
/-- ways that meet: what follows is shown once -/
theorem gk_join {S : Type} {b : Bool} (ups : S → List Slot → List Slot) (sv : S) (h : Et F0 H0 tt G b) (k : ∀ s, s = sv → Gk F0 H0 nx (ups s G)) (h1 : b = true → (∀ s, s = sv → Gk F0 H0 nx (ups s G)) → Gk F0 H0 (t ⟨nx, rt, bk, ct⟩) G) (h2 : b = false → (∀ s, s = sv → Gk F0 H0 nx (ups s G)) → Gk F0 H0 (u ⟨nx, rt, bk, ct⟩) G) : Gk F0 H0 (tIfS tt t u ⟨nx, rt, bk, ct⟩) G :=
  gk_if h (fun e => h1 e k) (fun e => h2 e k)
end

/-! ### the script -/
def rScr (K : PySem.W.Frag) : Rp (List Int) := fun F v ns => ∃ p, v = .ref p ∧ SqL K F p (ns.map V.int)
instance (K : PySem.W.Frag) : Mo (rScr K) := ⟨fun e ⟨p, h1, h2⟩ => by
  refine ⟨p, h1, ?_⟩
  rcases h2 with (h2 | ⟨o, h2⟩) | h2
  · exact .inl (.inl (e.at_ h2 rfl))
  · exact .inl (.inr ⟨o, e.at_ h2 rfl⟩)
  · exact .inr h2⟩
theorem SqL.ex {K : PySem.W.Frag} {F F' : Hp} {p : Addr} {xs : List V} (h : SqL K F p xs) (e : Ex F F') : SqL K F' p xs := by
  rcases h with (h | ⟨o, h⟩) | h
  · exact .inl (.inl (e _ _ h))
  · exact .inl (.inr ⟨o, e _ _ h⟩)
  · exact .inr h
section
variable {F0 H0 : Hp} {G : List Slot} {m m1 m2 : Md} {ta tb : TE} {K : PySem.W.Frag}
theorem ed_lenS {ns : List Int} (hx : Ed F0 H0 ta G m1 (rScr K) ns) : Ed F0 H0 (tCB (rLenQ K) (tCons ta tNil)) G m rInt (ns.length : Int) :=
  ed_c1 hx fun v F H g0 hv Q q => by
    obtain ⟨p, rfl, h1⟩ := hv
    exact ⟨p, _, rfl, .inl (SqL.ex h1 (pk_now g0)), q _ F H (Gr.refl g0.fh) (by rw [List.length_map]; rfl)⟩
theorem ed_ixS {ns : List Int} {i : Int} (hx : Ed F0 H0 ta G m1 (rScr K) ns) (hy : Ed F0 H0 tb G m2 rInt i) (hi : ixOk ns.length i) : Ed F0 H0 (tOp (rIxL K) ta tb) G m rInt (ixD ns i) :=
  ed_bin hx hy fun v w F H g0 hv hw Q q => by
    obtain ⟨p, rfl, h1⟩ := hv
    refine ⟨p, _, i, .int (ixD ns i), rfl, hw, SqL.ex h1 (pk_now g0), ?_, q _ F H (Gr.refl g0.fh) rfl⟩
    have e := atI_ok hi
    unfold atI at e ⊢
    rw [List.length_map]
    cases q : ixN ns.length i with
    | none => rw [q] at e; cases e
    | some j =>
      rw [q] at e
      show (ns.map V.int)[j]? = _
      have e : ns[j]? = some (ixD ns i) := e
      rw [List.getElem?_map, e]; rfl
end

/-! ### data as a whole -/
inductive Dt
  | non | bl (b : Bool) | int (i : Int) | tx (s : List Nat) | lst (xs : List Dt) | tup (xs : List Dt)
mutual
def rDt (F : Hp) : V → Dt → Prop
  | v, .non => v = .non
  | v, .bl b => v = .bl b
  | v, .int i => v = .int i
  | v, .tx s => v = .str ⟨s.toArray⟩ ∧ s.length ≤ 16777216 ∧ ∀ c ∈ s, c < 1114112
  | v, .lst xs => ∃ p vs, v = .ref p ∧ F p = some (.lst vs) ∧ xs.length ≤ 16777216 ∧ rDts F vs xs
  | v, .tup xs => ∃ p vs, v = .ref p ∧ F p = some (.tup vs) ∧ xs.length ≤ 16777216 ∧ rDts F vs xs
def rDts (F : Hp) : List V → List Dt → Prop
  | vs, [] => vs = []
  | vs, x :: xs => ∃ v us, vs = v :: us ∧ rDt F v x ∧ rDts F us xs
end
theorem rDts_p {F : Hp} : ∀ {vs : List V} {xs : List Dt}, rDts F vs xs ↔ Paired (rDt F) vs xs
  | vs, [] => by
    unfold rDts
    exact ⟨fun h => by rw [h]; exact .nil, fun h => by cases h; rfl⟩
  | vs, x :: xs => by
    unfold rDts
    constructor
    · rintro ⟨v, us, rfl, h1, h2⟩; exact .cons h1 (rDts_p.mp h2)
    · intro h
      cases h with
      | cons h1 h2 => exact ⟨_, _, rfl, h1, rDts_p.mpr h2⟩
mutual
theorem rDt_mo {F F' : Hp} (e : Exs F F') : ∀ {d : Dt} {v : V}, rDt F v d → rDt F' v d
  | .non, _, h => by unfold rDt at h ⊢; exact h
  | .bl _, _, h => by unfold rDt at h ⊢; exact h
  | .int _, _, h => by unfold rDt at h ⊢; exact h
  | .tx _, _, h => by unfold rDt at h ⊢; exact h
  | .lst xs, _, h => by
    unfold rDt at h ⊢
    obtain ⟨p, vs, h1, h2, h3, h4⟩ := h
    exact ⟨p, vs, h1, e.at_ h2 rfl, h3, rDts_mo e h4⟩
  | .tup xs, _, h => by
    unfold rDt at h ⊢
    obtain ⟨p, vs, h1, h2, h3, h4⟩ := h
    exact ⟨p, vs, h1, e.at_ h2 rfl, h3, rDts_mo e h4⟩
theorem rDts_mo {F F' : Hp} (e : Exs F F') : ∀ {ds : List Dt} {vs : List V}, rDts F vs ds → rDts F' vs ds
  | [], _, h => by unfold rDts at h ⊢; exact h
  | x :: xs, _, h => by
    unfold rDts at h ⊢
    obtain ⟨v, us, h1, h2, h3⟩ := h
    exact ⟨v, us, h1, rDt_mo e h2, rDts_mo e h3⟩
end
instance : Mo rDt := ⟨fun e h => rDt_mo e h⟩
/-- a datum of a known kind as one of these -/
class Tod {α : Type} (r : Rp α) where
  d : α → Dt
  to : ∀ {F : Hp} {v : V} {a : α}, r F v a → rDt F v (d a)
  inj : ∀ {a b : α}, d a = d b → a = b
instance : Tod rInt := ⟨.int, fun h => by unfold rDt; exact h, fun e => by injection e⟩
instance : Tod rBl := ⟨.bl, fun h => by unfold rDt; exact h, fun e => by injection e⟩
instance : Tod rTx := ⟨.tx, fun h => by unfold rDt; exact h, fun e => by injection e⟩
theorem map_inj {α β : Type} {f : α → β} (h : ∀ {a b : α}, f a = f b → a = b) : ∀ {xs ys : List α}, xs.map f = ys.map f → xs = ys
  | [], [], _ => rfl
  | [], _ :: _, e => by cases e
  | _ :: _, [], e => by cases e
  | x :: xs, y :: ys, e => by
    injection e with e1 e2
    rw [h e1, map_inj h e2]
theorem pmapr {α β γ : Type} {R : α → β → Prop} {S : α → γ → Prop} {f : β → γ} (h : ∀ a b, R a b → S a (f b)) : ∀ {xs : List α} {ys : List β}, Paired R xs ys → Paired S xs (ys.map f)
  | _, _, .nil => .nil
  | _, _, .cons a t => .cons (h _ _ a) (pmapr h t)
instance {α : Type} (r : Rp α) [h : Tod r] : Tod (rLst r) := ⟨fun xs => .lst (xs.map h.d), fun ⟨p, vs, h1, h2, h3, h4⟩ => by unfold rDt; exact ⟨p, vs, h1, h2, by rw [List.length_map]; exact h3, rDts_p.mpr (pmapr (fun _ _ z => h.to z) h4)⟩, fun e => by
  injection e with e; exact map_inj (fun z => h.inj z) e⟩
instance {α : Type} (r : Rp α) [h : Tod r] : Tod (rTup r) := ⟨fun xs => .tup (xs.map h.d), fun ⟨p, vs, h1, h2, h3, h4⟩ => by unfold rDt; exact ⟨p, vs, h1, h2, by rw [List.length_map]; exact h3, rDts_p.mpr (pmapr (fun _ _ z => h.to z) h4)⟩, fun e => by
  injection e with e; exact map_inj (fun z => h.inj z) e⟩
instance {α β : Type} (r : Rp α) (s : Rp β) [h : Tod r] [g : Tod s] : Tod (rPr r s) := ⟨fun x => .tup [h.d x.1, g.d x.2], fun ⟨p, u, w, h1, h2, h3, h4⟩ => by unfold rDt; exact ⟨p, [u, w], h1, h2, by simp, rDts_p.mpr (.cons (h.to h3) (.cons (g.to h4) .nil))⟩, fun {a b} e => by
  injection e with e
  injection e with e1 e2
  injection e2 with e2 _
  exact Prod.ext (h.inj e1) (g.inj e2)⟩
end LK

set_option Elab.async false
set_option linter.all false
set_option maxRecDepth 100000
set_option maxHeartbeats 4000000
set_option autoImplicit false
/-! LK6: further rules; the law's own comparison. -/
namespace LK
open PySem L2 PyProof.Rows PySem.Spec
theorem ct {α : Type} {c : Bool} {x y z : α} (h : c = true) (e : x = z) : cond c x y = z := by rw [h]; exact e
theorem cf {α : Type} {c : Bool} {x y z : α} (h : c = false) (e : y = z) : cond c x y = z := by rw [h]; exact e
theorem lw_nil : Lw [] [] := trivial
theorem lw_no {s : Slot} {G G' : List Slot} (h : Lw G G') : Lw (s :: G) (.no :: G') := ⟨.inl rfl, h⟩
theorem lw_eq {s t : Slot} {G G' : List Slot} (e : s = t) (h : Lw G G') : Lw (s :: G) (t :: G') := ⟨.inr e, h⟩
theorem rng_len (n : Int) : (rng n).length = n.toNat := by unfold rng; rw [rng2_len, Int.sub_zero]
theorem nomark2 (b : Expr) {op : CmpOp} (h : behindInMarks op b = false := by rfl) : behindInMarks op b = false := h
section
variable {F0 H0 : Hp} {G : List Slot} {m m1 m2 : Md} {ta tb tc te tl : TE} {tt : TT} {t u : TS} {K : PySem.W.Frag} {wi : TI} {g : TG} {nx : L2.St → Hp → Prop} {rt : VK} {bk ct : L2.St → Hp → Prop}
theorem gk_ifT (h : Et F0 H0 tt G true) (k : Gk F0 H0 (t ⟨nx, rt, bk, ct⟩) G) : Gk F0 H0 (tIfS tt t u ⟨nx, rt, bk, ct⟩) G := gk_if h (fun _ => k) (fun e => nomatch e)
theorem gk_ifF (h : Et F0 H0 tt G false) (k : Gk F0 H0 (u ⟨nx, rt, bk, ct⟩) G) : Gk F0 H0 (tIfS tt t u ⟨nx, rt, bk, ct⟩) G := gk_if h (fun e => nomatch e) (fun _ => k)
theorem gk_extv {α : Type} {r : Rp α} [im : Mo r] [Kp m r] {xs ys : List α} {iM : MoM (mL r xs)} {i : Nat} (hi : G[i]? = some (.ow (mL r xs) iM)) (h : Ed F0 H0 te G m (rLst r) ys) (hl : xs.length + ys.length ≤ 16777216) (k : ∀ x, x = xs ++ ys → Gk F0 H0 nx (G.set i (sL r x))) :
    Gk F0 H0 (tDrop (tBM K "list" rExtend (tVar i) (tCons te tNil)) ⟨nx, rt, bk, ct⟩) G := gk_ext hi h hl (k _ rfl)
theorem gk_clearv {α : Type} {r : Rp α} [im : Mo r] {xs : List α} {iM : MoM (mL r xs)} {i : Nat} (hi : G[i]? = some (.ow (mL r xs) iM)) (k : ∀ x, x = [] → Gk F0 H0 nx (G.set i (sL r x))) :
    Gk F0 H0 (tDrop (tBM0 K "list" rClear (tVar i)) ⟨nx, rt, bk, ct⟩) G := gk_clear hi (k _ rfl)
theorem gk_setIv {α : Type} {r : Rp α} [im : Mo r] {xs : List α} {iM : MoM (mL r xs)} {a : α} {i : Nat} {j : Int} (hi : G[i]? = some (.ow (mL r xs) iM)) (h : Ed F0 H0 te G .sh r a) (hj : Ed F0 H0 tb G m rInt j) (hk : 0 ≤ j ∧ j < xs.length) (k : ∀ x, x = xs.set j.toNat a → Gk F0 H0 nx (G.set i (sL r x))) :
    Gk F0 H0 (tAsg te (gSub (tVar i) tb rSetL) ⟨nx, rt, bk, ct⟩) G := gk_setI hi h hj hk (k _ rfl)
theorem gk_augv {f : Int → Int → Int} {a b : Int} {i : Nat} {im : Mo rInt} (hi : G[i]? = some (.fz rInt im a)) (h : Ed F0 H0 te G m rInt b) (k : ∀ x, x = f a b → Gk F0 H0 nx (G.set i (sF rInt x))) : Gk F0 H0 (tAug i te (ipI f) ⟨nx, rt, bk, ct⟩) G := gk_aug hi h (k _ rfl)
/-- list(range(n)) -/
theorem en_c0 {α : Type} {r : Rp α} {xs : List α} (h : ∀ σ F H, EnvOk F0 H0 G σ F H → ∀ Q : VK, (∀ p vs F' H', Gr F H F' H' → H p = none → F' p = none → H' p = some (.lst vs) → xs.length ≤ 16777216 → Paired (r F') vs xs → Q (.ref p) H') → te σ H Q) : En F0 H0 te G r xs := h

class Ln {α : Type} (r : Rp (List α)) : Prop where
  ln : ∀ {F : Hp} {v : V} {x : List α}, r F v x → x.length ≤ 16777216
instance : Ln rTx := ⟨fun h => h.2.1⟩
instance {α : Type} (r : Rp α) : Ln (rLst r) := ⟨fun ⟨_, _, _, _, h, _⟩ => h⟩
instance {α : Type} (r : Rp α) : Ln (rTup r) := ⟨fun ⟨_, _, _, _, h, _⟩ => h⟩
theorem gk_lnF {α : Type} {r : Rp (List α)} [Ln r] {im : Mo r} {x : List α} {k : L2.St → Hp → Prop} (i : Nat) (hi : G[i]? = some (.fz r im x)) (h : x.length ≤ 16777216 → Gk F0 H0 k G) : Gk F0 H0 k G := fun σ F H E => by
  obtain ⟨v, _, ok⟩ := E.fz_at hi
  exact h (Ln.ln (r := r) ok) σ F H E
theorem gk_lnB {α : Type} {r : Rp (List α)} [Ln r] {im : Mo r} {x : List α} {k : L2.St → Hp → Prop} (i : Nat) (hi : G[i]? = some (.bw r im x)) (h : x.length ≤ 16777216 → Gk F0 H0 k G) : Gk F0 H0 k G := fun σ F H E => by
  obtain ⟨v, _, ok⟩ := E.bw_at hi
  exact h (Ln.ln (r := r) ok) σ F H E
theorem gk_lnO {α : Type} {r : Rp α} {x : List α} {iM : MoM (mL r x)} {k : L2.St → Hp → Prop} (i : Nat) (hi : G[i]? = some (.ow (mL r x) iM)) (h : x.length ≤ 16777216 → Gk F0 H0 k G) : Gk F0 H0 k G := fun σ F H E => by
  obtain ⟨p, vs, _, _, _, _, h4, _⟩ := E.lst_at hi
  exact h h4 σ F H E

/-! ### joins -/
theorem ptx {F : Hp} : ∀ {vs : List V} {xs : List (List Nat)}, Paired (rTx F) vs xs → vs = xs.map fun x => V.str ⟨x.toArray⟩
  | _, _, .nil => rfl
  | _, _, .cons h t => by rw [List.map_cons, ← ptx t, h.1]
theorem ptx_ok {F : Hp} : ∀ {vs : List V} {xs : List (List Nat)}, Paired (rTx F) vs xs → ∀ l ∈ xs, ∀ c ∈ l, c < 1114112
  | _, _, .cons h t, l, hl, c, hc => by
    rcases List.mem_cons.mp hl with e | e
    · subst e; exact h.2.2 c hc
    · exact ptx_ok t l e c hc
abbrev rJoin (K : PySem.W.Frag) : V → List V → Hp → VK → Prop := fun x xs H Q => ∃ a p, ∃ ys : List Str, x = .str a ∧ xs = [.ref p] ∧ (SqL K H p (ys.map V.str) ∨ SqT K H p (ys.map V.str)) ∧ (ys.map (·.length)).sum + ys.length * a.length ≤ 16777216 ∧ Q (.str (Txt.join a ys)) H
theorem joinL_nil : ∀ xs : List (List Nat), TL.joinL [] xs = xs.flatten
  | [] => rfl
  | [p] => by simp [TL.joinL]
  | p :: q :: r => by
    show p ++ ([] ++ TL.joinL [] (q :: r)) = _
    rw [joinL_nil (q :: r)]; simp
theorem sum_len : ∀ xs : List (List Nat), ((xs.map fun x => (⟨x.toArray⟩ : Str)).map (·.length)).sum = xs.flatten.length
  | [] => rfl
  | x :: xs => by
    rw [List.map_cons, List.map_cons, List.sum_cons, sum_len xs, List.flatten_cons, List.length_append, tx_len]
theorem ed_join {xs : List (List Nat)} (hx : Ed F0 H0 ta G m1 rTx []) (hy : Ed F0 H0 tb G m2 (rLst rTx) xs) (hl : xs.flatten.length ≤ 16777216) : Ed F0 H0 (tM1 (rJoin K) ta tb) G m rTx xs.flatten := fun σ F H E Q q =>
  hx σ F H E _ fun v F1 H1 g1 hv => ⟨⟨_, hv.1⟩, hy σ F1 H1 (E.gro g1) _ fun w F2 H2 g2 hw => by
    obtain ⟨p, vs, rfl, h1, h2, h3⟩ := hw
    refine ⟨_, p, xs.map fun x => (⟨x.toArray⟩ : Str), hv.1, rfl, .inl (SqL.of ?_), ?_, ?_⟩
    · have e := ptx h3
      have h := pk_now (E.gr.trans (g1.trans g2)) _ _ h1
      rw [e] at h
      rw [List.map_map]; exact h
    · rw [sum_len, tx_len, List.length_nil, Nat.mul_zero, Nat.add_zero]; exact hl
    · refine q _ F2 H2 (g1.trans g2) ⟨?_, hl, fun c hc => by obtain ⟨l, hl1, hl2⟩ := List.mem_flatten.mp hc; exact ptx_ok h3 l hl1 c hl2⟩
      have e : TL.tl (Txt.join ⟨([] : List Nat).toArray⟩ (xs.map fun x => (⟨x.toArray⟩ : Str))) = xs.flatten := by
        rw [TL.join_eq, TL.tl_join]
        have e2 : (xs.map fun x => (⟨x.toArray⟩ : Str)).map TL.tl = xs := by
          rw [List.map_map]
          exact (List.map_congr_left (fun _ _ => rfl)).trans (List.map_id xs)
        rw [e2]
        exact joinL_nil xs
      exact congrArg V.str (TL.ext_tl e)⟩
end

/-! ### the law's own comparison -/
mutual
def Dt.dep : Dt → Nat
  | .lst xs => depAll xs + 1
  | .tup xs => depAll xs + 1
  | _ => 0
def depAll : List Dt → Nat
  | [] => 0
  | x :: xs => max x.dep (depAll xs)
end
theorem dep_mem {x : Dt} : ∀ {xs : List Dt}, x ∈ xs → x.dep ≤ depAll xs
  | y :: ys, h => by
    unfold depAll
    rcases List.mem_cons.mp h with e | e
    · subst e; exact Nat.le_max_left _ _
    · exact Nat.le_trans (dep_mem e) (Nat.le_max_right _ _)
theorem depAll_le {n : Nat} : ∀ {xs : List Dt}, (∀ x ∈ xs, x.dep ≤ n) → depAll xs ≤ n
  | [], _ => Nat.zero_le _
  | x :: xs, h => by
    unfold depAll
    exact Nat.max_le.mpr ⟨h x List.mem_cons_self, depAll_le fun y hy => h y (List.mem_cons_of_mem _ hy)⟩
mutual
def same : Dt → Dt → Bool
  | .non, .non => true
  | .bl a, .bl b => decide (a = b)
  | .int a, .int b => decide (a = b)
  | .tx a, .tx b => decide (a = b)
  | .lst a, .lst b => sames a b
  | .tup a, .tup b => sames a b
  | _, _ => false
def sames : List Dt → List Dt → Bool
  | [], [] => true
  | a :: as, b :: bs => same a b && sames as bs
  | _, _ => false
end
mutual
theorem same_iff : ∀ (a b : Dt), same a b = true ↔ a = b
  | .non, b => by cases b <;> simp [same]
  | .bl x, b => by cases b <;> simp [same]
  | .int x, b => by cases b <;> simp [same]
  | .tx x, b => by cases b <;> simp [same]
  | .lst xs, b => by
    cases b with
    | lst ys => simp only [same, Dt.lst.injEq]; exact sames_iff xs ys
    | _ => simp [same]
  | .tup xs, b => by
    cases b with
    | tup ys => simp only [same, Dt.tup.injEq]; exact sames_iff xs ys
    | _ => simp [same]
theorem sames_iff : ∀ (as bs : List Dt), sames as bs = true ↔ as = bs
  | [], bs => by cases bs <;> simp [sames]
  | a :: as, [] => by simp [sames]
  | a :: as, b :: bs => by
    simp only [sames, Bool.and_eq_true, List.cons.injEq]
    rw [same_iff a b, sames_iff as bs]
end
theorem sames_len : ∀ {as bs : List Dt}, sames as bs = true → as.length = bs.length := fun {as bs} h => by rw [(sames_iff as bs).mp h]
/-- from the k-th place on -/
theorem sames_drop {as bs : List Dt} (hl : as.length = bs.length) : ∀ k, k < bs.length → sames (as.drop k) (bs.drop k) = (same (as.getD k .non) (bs.getD k .non) && sames (as.drop (k + 1)) (bs.drop (k + 1))) := fun k hk => by
  rw [List.drop_eq_getElem_cons (show k < as.length by omega), List.drop_eq_getElem_cons hk]
  simp [sames, List.getD_eq_getElem?_getD, List.getElem?_eq_getElem hk, List.getElem?_eq_getElem (show k < as.length by omega)]
class Dep {α : Type} (r : Rp α) [t : Tod r] (n : outParam Nat) : Prop where
  le : ∀ a : α, (t.d a).dep ≤ n
instance : Dep rInt 0 := ⟨fun a => Nat.le_refl _⟩
instance : Dep rBl 0 := ⟨fun a => Nat.le_refl _⟩
instance : Dep rTx 0 := ⟨fun a => Nat.le_refl _⟩
instance {α : Type} (r : Rp α) [t : Tod r] (n : Nat) [h : Dep r n] : Dep (rLst r) (n + 1) := ⟨fun a => Nat.succ_le_succ (depAll_le fun x hx => by obtain ⟨y, _, rfl⟩ := List.mem_map.mp hx; exact h.le y)⟩
instance {α : Type} (r : Rp α) [t : Tod r] (n : Nat) [h : Dep r n] : Dep (rTup r) (n + 1) := ⟨fun a => Nat.succ_le_succ (depAll_le fun x hx => by obtain ⟨y, _, rfl⟩ := List.mem_map.mp hx; exact h.le y)⟩
instance {α β : Type} (r : Rp α) (s : Rp β) [t : Tod r] [t' : Tod s] (n k : Nat) [h : Dep r n] [h' : Dep s k] : Dep (rPr r s) (max n k + 1) := ⟨fun a => by
  show Dt.dep (.tup [t.d a.1, t'.d a.2]) ≤ _
  simp only [Dt.dep, depAll]
  have := h.le a.1
  have := h'.le a.2
  omega⟩
/-- the types' names -/
def Dt.ty : Dt → String
  | .non => "NoneType" | .bl _ => "bool" | .int _ => "int" | .tx _ => "str" | .lst _ => "list" | .tup _ => "tuple"
def isi (T : String) (d : Dt) : Bool := (kitB d.ty T).getD false
def kitOk (T : String) : Bool := ["NoneType", "bool", "int", "str", "list", "tuple"].all fun s => (kitB s T).isSome
def Dt.kB : Dt → Bool
  | .bl _ => true
  | _ => false
def Dt.kI : Dt → Bool
  | .bl _ => true
  | .int _ => true
  | _ => false
def Dt.kS : Dt → Bool
  | .tx _ => true
  | _ => false
def Dt.kL : Dt → Bool
  | .lst _ => true
  | _ => false
def Dt.kU : Dt → Bool
  | .tup _ => true
  | _ => false
theorem isi_b (d : Dt) : isi "bool" d = d.kB := by unfold isi; cases d <;> simp only [Dt.ty, Dt.kB] <;> decide +kernel
theorem isi_i (d : Dt) : isi "int" d = d.kI := by unfold isi; cases d <;> simp only [Dt.ty, Dt.kI] <;> decide +kernel
theorem isi_s (d : Dt) : isi "str" d = d.kS := by unfold isi; cases d <;> simp only [Dt.ty, Dt.kS] <;> decide +kernel
theorem isi_l (d : Dt) : isi "list" d = d.kL := by unfold isi; cases d <;> simp only [Dt.ty, Dt.kL] <;> decide +kernel
theorem isi_u (d : Dt) : isi "tuple" d = d.kU := by unfold isi; cases d <;> simp only [Dt.ty, Dt.kU] <;> decide +kernel
section
variable {F0 H0 : Hp} {G : List Slot} {m m1 m2 : Md} {ta tb tc te tl : TE} {tt : TT} {t u : TS} {K : PySem.W.Frag} {nx : L2.St → Hp → Prop} {rt : VK} {bk ct : L2.St → Hp → Prop}
theorem Ed.dt {α : Type} {r : Rp α} [h : Tod r] {a : α} (x : Ed F0 H0 te G m r a) : Ed F0 H0 te G m rDt (h.d a) := fun σ F H E Q q => x σ F H E Q fun v F' H' g hv => q v F' H' g (h.to hv)
theorem dt_ty {F H : Hp} {v : V} {d : Dt} (h : rDt F v d) (e : Ex F H) : TyX K H v (.type d.ty) := by
  cases d with
  | non => unfold rDt at h; subst h; exact .base .non
  | bl b => unfold rDt at h; subst h; exact .base (.bl _)
  | int i => unfold rDt at h; subst h; exact .base (.int _)
  | tx s => unfold rDt at h; obtain ⟨h, _⟩ := h; subst h; exact .base (.str _)
  | lst xs => unfold rDt at h; obtain ⟨p, vs, rfl, h2, _⟩ := h; exact .base (.lst (e _ _ h2))
  | tup xs => unfold rDt at h; obtain ⟨p, vs, rfl, h2, _⟩ := h; exact .base (.tup (e _ _ h2))
theorem kitOk_at {T : String} (h : kitOk T = true) (d : Dt) : kitB d.ty T = some (isi T d) := by
  have h := List.all_eq_true.mp h d.ty (by cases d <;> simp [Dt.ty])
  unfold isi
  cases e : kitB d.ty T with
  | none => rw [e] at h; cases h
  | some b => rfl
theorem ed_isi {T : String} {d : Dt} (h : Ed F0 H0 ta G m1 rDt d) (hT : kitOk T = true := by decide +kernel) : Ed F0 H0 (tCB (rIsi K) (tCons ta (tCons (tC (.ty T)) tNil))) G m rBl (isi T d) := fun σ F H E Q q =>
  h σ F H E _ fun v F1 H1 g1 hv => ⟨v, .ty T, .type d.ty, .type T, _, rfl, .ty T, dt_ty hv (pk_now (E.gr.trans g1)), kit_ty (kitOk_at hT d), q _ F1 H1 g1 rfl⟩
def Dt.isN : Dt → Bool
  | .non => true
  | _ => false
theorem ed_isND {d : Dt} (h : Ed F0 H0 ta G m1 rDt d) : Ed F0 H0 (tIsN ta) G m rBl d.isN :=
  ed_un (r := fun x H Q => Q (.bl (decide (x = .non))) H) h fun v F H g0 hv Q q => q _ F H (Gr.refl g0.fh) (by
    cases d with
    | non => unfold rDt at hv; subst hv; rfl
    | bl b => unfold rDt at hv; subst hv; rfl
    | int i => unfold rDt at hv; subst hv; rfl
    | tx s => unfold rDt at hv; obtain ⟨h, _⟩ := hv; subst h; rfl
    | lst xs => unfold rDt at hv; obtain ⟨p, vs, rfl, _⟩ := hv; rfl
    | tup xs => unfold rDt at hv; obtain ⟨p, vs, rfl, _⟩ := hv; rfl)
theorem Ed.dB {b : Bool} (h : Ed F0 H0 te G m rDt (.bl b)) : Ed F0 H0 te G m rBl b := fun σ F H E Q q => h σ F H E Q fun v F' H' g hv => q v F' H' g (by unfold rDt at hv; exact hv)
theorem Ed.dI {b : Int} (h : Ed F0 H0 te G m rDt (.int b)) : Ed F0 H0 te G m rInt b := fun σ F H E Q q => h σ F H E Q fun v F' H' g hv => q v F' H' g (by unfold rDt at hv; exact hv)
theorem Ed.dT {b : List Nat} (h : Ed F0 H0 te G m rDt (.tx b)) : Ed F0 H0 te G m rTx b := fun σ F H E Q q => h σ F H E Q fun v F' H' g hv => q v F' H' g (by unfold rDt at hv; exact hv)
theorem Ed.dL {b : List Dt} (h : Ed F0 H0 te G m rDt (.lst b)) : Ed F0 H0 te G m (rLst rDt) b := fun σ F H E Q q => h σ F H E Q fun v F' H' g hv => q v F' H' g (by unfold rDt at hv; obtain ⟨p, vs, h1, h2, h3, h4⟩ := hv; exact ⟨p, vs, h1, h2, h3, rDts_p.mp h4⟩)
theorem Ed.dU {b : List Dt} (h : Ed F0 H0 te G m rDt (.tup b)) : Ed F0 H0 te G m (rTup rDt) b := fun σ F H E Q q => h σ F H E Q fun v F' H' g hv => q v F' H' g (by unfold rDt at hv; obtain ⟨p, vs, h1, h2, h3, h4⟩ := hv; exact ⟨p, vs, h1, h2, h3, rDts_p.mp h4⟩)
instance : Inhabited Dt := ⟨.non⟩
/-- a list or a tuple of these -/
def Dt.items : Dt → List Dt
  | .lst xs => xs
  | .tup xs => xs
  | _ => []
def Dt.isSeq : Dt → Bool
  | .lst _ => true
  | .tup _ => true
  | _ => false
theorem ed_lenD {d : Dt} (hs : d.isSeq = true) (h : Ed F0 H0 ta G m1 rDt d) : Ed F0 H0 (tCB (rLenQ K) (tCons ta tNil)) G m rInt (d.items.length : Int) := by
  cases d with
  | lst xs => exact ed_lenL h.dL
  | tup xs => exact ed_lenU h.dU
  | _ => cases hs
theorem ed_ixDt {d : Dt} {i : Int} (hs : d.isSeq = true) (h : Ed F0 H0 ta G m rDt d) (hy : Ed F0 H0 tb G m2 rInt i) (hi : ixOk d.items.length i) : Ed F0 H0 (tOp (rIx K) ta tb) G m rDt (ixD d.items i) := by
  cases d with
  | lst xs =>
    exact ed_bin h.dL hy fun v w F H g0 hv hw Q q => by
      obtain ⟨p, vs, rfl, h1, h2, h3⟩ := hv
      obtain ⟨x, e, rx⟩ := pat h3 (atI_ok hi)
      exact .inl ⟨p, vs, i, x, rfl, hw, SqL.of (pk_now g0 _ _ h1), e, q _ F H (Gr.refl g0.fh) rx⟩
  | tup xs =>
    exact ed_bin h.dU hy fun v w F H g0 hv hw Q q => by
      obtain ⟨p, vs, rfl, h1, h2, h3⟩ := hv
      obtain ⟨x, e, rx⟩ := pat h3 (atI_ok hi)
      exact .inr (.inl ⟨p, vs, i, x, rfl, hw, SqT.of (pk_now g0 _ _ h1), e, q _ F H (Gr.refl g0.fh) rx⟩)
  | _ => cases hs
theorem same_ll (x b : List Dt) : same (.lst x) (.lst b) = sames x b := by simp only [same]
theorem same_uu (x b : List Dt) : same (.tup x) (.tup b) = sames x b := by simp only [same]
abbrev tI (K : PySem.W.Frag) (i : Nat) (T : String) : TE := tCB (rIsi K) (tCons (tVar i) (tCons (tC (.ty T)) tNil))
abbrev tEq01 : TE := tOp rEq (tVar 0) (tVar 1)
abbrev tSameLead (K : PySem.W.Frag) (rest : TS) : TS :=
  tSeq (tIfS (tB (tIsN (tVar 1))) (tRet (tIsN (tVar 0))) tNext)
  (tSeq (tIfS (tB (tI K 1 "bool")) (tRet (tAndV (tI K 0 "bool") tEq01)) tNext)
  (tSeq (tIfS (tB (tI K 1 "int")) (tRet (tAndV (tI K 0 "int") (tAndV (tNotV (tI K 0 "bool")) tEq01))) tNext)
  (tSeq (tIfS (tB (tI K 1 "str")) (tRet (tAndV (tI K 0 "str") tEq01)) tNext)
  (tSeq (tIfS (tAnd (tB (tI K 1 "list")) (tNot (tB (tI K 0 "list")))) (tRet (tC (.bl false))) tNext)
  (tSeq (tIfS (tAnd (tB (tI K 1 "tuple")) (tNot (tB (tI K 0 "tuple")))) (tRet (tC (.bl false))) tNext) rest)))))
theorem same_lead {a d : Dt} {ia id : Mo rDt} {rest : TS} (hq : Rt F0 H0 rt rBl (same a d)) (hr : a.isSeq = true → d.isSeq = true → same a d = sames a.items d.items → Gk F0 H0 (rest ⟨nx, rt, bk, ct⟩) [.bw rDt ia a, .bw rDt id d, .no]) : Gk F0 H0 (tSameLead K rest ⟨nx, rt, bk, ct⟩) [.bw rDt ia a, .bw rDt id d, .no] := by
  have e0 : Ed F0 H0 (tVar 0) [.bw rDt ia a, .bw rDt id d, .no] .b0 rDt a := ed_b rfl
  have e1 : Ed F0 H0 (tVar 1) [.bw rDt ia a, .bw rDt id d, .no] .b0 rDt d := ed_b rfl
  have i0 : ∀ T, kitOk T = true → Ed F0 H0 (tI K 0 T) [.bw rDt ia a, .bw rDt id d, .no] .sh rBl (isi T a) := fun T h => ed_isi e0 h
  have no : ∀ {tt : TT} {t : TS} {nx : L2.St → Hp → Prop} {rt : VK} {bk ct : L2.St → Hp → Prop}, Et F0 H0 tt [.bw rDt ia a, .bw rDt id d, .no] false → Gk F0 H0 nx [.bw rDt ia a, .bw rDt id d, .no] → Gk F0 H0 (tIfS tt t tNext ⟨nx, rt, bk, ct⟩) [.bw rDt ia a, .bw rDt id d, .no] := fun h k => gk_ifF h k
  have n1 : ∀ T, kitOk T = true → isi T d = false → Et F0 H0 (tB (tI K 1 T)) [.bw rDt ia a, .bw rDt id d, .no] false := fun T h e => (et_B (ed_isi (m := .sh) e1 h)).cast e
  have y1 : ∀ T, kitOk T = true → isi T d = true → Et F0 H0 (tB (tI K 1 T)) [.bw rDt ia a, .bw rDt id d, .no] true := fun T h e => (et_B (ed_isi (m := .sh) e1 h)).cast e
  have na : ∀ T, kitOk T = true → isi T d = false → Et F0 H0 (tAnd (tB (tI K 1 T)) (tNot (tB (tI K 0 T)))) [.bw rDt ia a, .bw rDt id d, .no] false := fun T h e => et_and (b := false) (n1 T h e) (fun z => nomatch z)
  have ya : ∀ T, kitOk T = true → isi T d = true → Et F0 H0 (tAnd (tB (tI K 1 T)) (tNot (tB (tI K 0 T)))) [.bw rDt ia a, .bw rDt id d, .no] (!isi T a) := fun T h e => et_and (y1 T h e) (fun _ => et_not (et_B (i0 T h)))
  have kb : kitOk "bool" = true := by decide +kernel
  have ki : kitOk "int" = true := by decide +kernel
  have ks : kitOk "str" = true := by decide +kernel
  have kl : kitOk "list" = true := by decide +kernel
  have ku : kitOk "tuple" = true := by decide +kernel
  cases d with
  | non =>
    refine gk_seq (gk_ifT (et_B (ed_isND (m := .sh) e1)) (gk_ret hq (ed_isND (m := .sh) e0) ?_))
    cases a <;> simp [same, Dt.isN]
  | bl b =>
    refine gk_seq (no (et_B (ed_isND (m := .sh) e1)) (gk_seq (gk_ifT (y1 _ kb (isi_b _)) ?_)))
    cases a with
    | bl x => exact gk_ret hq (ed_andV (m := .sh) (i0 _ kb) (fun _ => ed_eq (m := .sh) e0.dB e1.dB)) (by simp only [isi_b, isi_i, isi_s]; simp [same, Dt.kB, Dt.kI, Dt.kS])
    | _ => exact gk_ret hq (ed_andV (m := .sh) (m2 := .sh) (b := false) (i0 _ kb) (fun z => nomatch z)) (by simp only [isi_b, isi_i, isi_s]; simp [same, Dt.kB, Dt.kI, Dt.kS])
  | int b =>
    refine gk_seq (no (et_B (ed_isND (m := .sh) e1)) (gk_seq (no (n1 _ kb (isi_b _)) (gk_seq (gk_ifT (y1 _ ki (isi_i _)) ?_)))))
    cases a with
    | int x => exact gk_ret hq (ed_andV (m := .sh) (i0 _ ki) (fun _ => ed_andV (m := .sh) (ed_notV (m := .sh) (i0 _ kb)) (fun _ => ed_eq (m := .sh) e0.dI e1.dI))) (by simp only [isi_b, isi_i, isi_s]; simp [same, Dt.kB, Dt.kI, Dt.kS])
    | bl x => exact gk_ret hq (ed_andV (m := .sh) (i0 _ ki) (fun _ => ed_andV (m := .sh) (m2 := .sh) (b := false) (ed_notV (m := .sh) (i0 _ kb)) (fun z => nomatch z))) (by simp only [isi_b, isi_i, isi_s]; simp [same, Dt.kB, Dt.kI, Dt.kS])
    | _ => exact gk_ret hq (ed_andV (m := .sh) (m2 := .sh) (b := false) (i0 _ ki) (fun z => nomatch z)) (by simp only [isi_b, isi_i, isi_s]; simp [same, Dt.kB, Dt.kI, Dt.kS])
  | tx b =>
    refine gk_seq (no (et_B (ed_isND (m := .sh) e1)) (gk_seq (no (n1 _ kb (isi_b _)) (gk_seq (no (n1 _ ki (isi_i _)) (gk_seq (gk_ifT (y1 _ ks (isi_s _)) ?_)))))))
    cases a with
    | tx x => exact gk_ret hq (ed_andV (m := .sh) (i0 _ ks) (fun _ => ed_eq (m := .sh) e0.dT e1.dT)) (by simp only [isi_b, isi_i, isi_s]; simp [same, Dt.kB, Dt.kI, Dt.kS])
    | _ => exact gk_ret hq (ed_andV (m := .sh) (m2 := .sh) (b := false) (i0 _ ks) (fun z => nomatch z)) (by simp only [isi_b, isi_i, isi_s]; simp [same, Dt.kB, Dt.kI, Dt.kS])
  | lst b =>
    refine gk_seq (no (et_B (ed_isND (m := .sh) e1)) (gk_seq (no (n1 _ kb (isi_b _)) (gk_seq (no (n1 _ ki (isi_i _)) (gk_seq (no (n1 _ ks (isi_s _)) (gk_seq ?_))))))))
    cases a with
    | lst x => exact no ((ya _ kl (isi_l _)).cast (by rw [isi_l]; rfl)) (gk_seq (no (na _ ku (isi_u _)) (hr rfl rfl (same_ll _ _))))
    | _ => exact gk_ifT ((ya _ kl (isi_l _)).cast (by rw [isi_l]; rfl)) (gk_ret hq (ed_bl (m := .sh)) (by simp only [same]))
  | tup b =>
    refine gk_seq (no (et_B (ed_isND (m := .sh) e1)) (gk_seq (no (n1 _ kb (isi_b _)) (gk_seq (no (n1 _ ki (isi_i _)) (gk_seq (no (n1 _ ks (isi_s _)) (gk_seq (no (na _ kl (isi_l _)) (gk_seq ?_))))))))))
    cases a with
    | tup x => exact no ((ya _ ku (isi_u _)).cast (by rw [isi_u]; rfl)) (hr rfl rfl (same_uu _ _))
    | _ => exact gk_ifT ((ya _ ku (isi_u _)).cast (by rw [isi_u]; rfl)) (gk_ret hq (ed_bl (m := .sh)) (by simp only [same]))
/-- what is asked of the two -/
abbrev ptSame : Pt (Dt × Dt × Unit) := .cons .bo rDt inferInstance (.cons .bo rDt inferInstance .nil)
abbrev spSame (n : Nat) : Sp := spV ptSame (fun a => a.2.1.dep ≤ n) (fun a => same a.1 a.2.1) rBl
abbrev tSameRest (K : PySem.W.Frag) (sp : Sp) : TS :=
  tSeq (tIfS (tTest (tOp rNe (tCB (rLenQ K) (tCons (tVar 0) tNil)) (tCB (rLenQ K) (tCons (tVar 1) tNil)))) (tRet (tC (.bl false))) tNext)
  (tSeq (tFor (iRng1 (tCons (tCB (rLenQ K) (tCons (tVar 1) tNil)) tNil)) (gName 2)
    (tIfS (tNot (tB (tCall sp [] E0 (tCons (tOp (rIx K) (tVar 0) (tVar 2)) (tCons (tOp (rIx K) (tVar 1) (tVar 2)) tNil))))) (tRet (tC (.bl false))) tNext))
  (tRet (tC (.bl true))))
theorem lw3 {s t u s' t' : Slot} (h1 : s = s') (h2 : t = t') : Lw [s, t, u] [s', t', .no] := ⟨.inr h1, .inr h2, .inl rfl, trivial⟩
theorem dep_items {d : Dt} {n : Nat} (hs : d.isSeq = true) (h : d.dep ≤ n + 1) : depAll d.items ≤ n := by
  cases d with
  | lst xs => simp only [Dt.dep] at h; exact Nat.le_of_succ_le_succ h
  | tup xs => simp only [Dt.dep] at h; exact Nat.le_of_succ_le_succ h
  | _ => cases hs
theorem same_rest {a d : Dt} {ia id : Mo rDt} {n : Nat} (hq : Rt F0 H0 rt rBl (same a d)) (h1 : a.isSeq = true) (h2 : d.isSeq = true) (he : same a d = sames a.items d.items) (hd : d.dep ≤ n + 1) (hz : d.items.length ≤ 16777216) : Gk F0 H0 (tSameRest K (spSame n) ⟨nx, rt, bk, ct⟩) [.bw rDt ia a, .bw rDt id d, .no] := by
  rw [he] at hq
  have e0 : ∀ F0, Ed F0 H0 (tVar 0) [.bw rDt ia a, .bw rDt id d, .no] .b0 rDt a := fun _ => ed_b rfl
  have e1 : ∀ F0, Ed F0 H0 (tVar 1) [.bw rDt ia a, .bw rDt id d, .no] .b0 rDt d := fun _ => ed_b rfl
  refine gk_seq (gk_if (et_T (ed_ne (m := .sh) (ed_lenD (m := .sh) h1 (e0 _)) (ed_lenD (m := .sh) h2 (e1 _)))) (fun h => ?_) (fun h => ?_))
  · refine gk_ret hq (ed_bl (m := .sh)) ?_
    cases hc : sames a.items d.items with
    | false => rfl
    | true => rw [sames_len hc] at h; simp at h
  have hl : a.items.length = d.items.length := by simp at h; omega
  refine gk_next (gk_seq (gk_run (S := Unit) (fun rem _ => ∃ k : Nat, rem = (rng (d.items.length : Int)).drop k ∧ k ≤ d.items.length ∧ sames a.items d.items = sames (a.items.drop k) (d.items.drop k)) (fun _ G => G.set 2 .no) () (ei_rng1 (ed_lenD (m := .sh) h2 (e1 _)) (by omega) (by omega)) eg_name (lw3 rfl rfl) ⟨0, rfl, Nat.zero_le _, rfl⟩ (fun F1 b x rest s hx hi => ?_) (fun s hi => ?_)))
  · obtain ⟨k, hk, hkl, hs⟩ := hi
    have hkk : k < d.items.length := by
      by_cases c : k < d.items.length
      · exact c
      · rw [List.drop_eq_nil_of_le (by rw [rng_len]; omega)] at hk; cases hk
    have hx' : x = (k : Int) ∧ rest = (rng (d.items.length : Int)).drop (k + 1) := by
      rw [List.drop_eq_getElem_cons (by rw [rng_len]; omega)] at hk
      injection hk with a1 a2
      refine ⟨?_, a2⟩
      have := rng2_get (a := 0) (b := (d.items.length : Int)) (i := k) (by omega)
      unfold rng at a1
      rw [List.getElem?_eq_getElem (by rw [rng2_len]; omega)] at this
      rw [a1, Option.some.inj this]; omega
    obtain ⟨rfl, rfl⟩ := hx'
    rw [sames_drop hl k hkk] at hs
    have ix0 : ixD a.items (k : Int) = a.items.getD k .non := ixD_nat _ _
    have ix1 : ixD d.items (k : Int) = d.items.getD k .non := ixD_nat _ _
    have hmem : (d.items.getD k .non).dep ≤ n := by
      refine Nat.le_trans (dep_mem ?_) (dep_items h2 hd)
      rw [List.getD_eq_getElem?_getD, List.getElem?_eq_getElem hkk]
      exact List.getElem_mem _
    refine gk_if (et_not (et_B (ed_call (ea_cons (Ed.bo (ed_ixDt h1 (ed_b (im := ia) rfl) (ed_v (i := 2) rfl) ⟨by omega, by omega⟩)) (ea_cons (Ed.bo (ed_ixDt h2 (ed_b (im := id) rfl) (ed_v (i := 2) rfl) ⟨by omega, by omega⟩)) ea_nil)) (Pt.now _) (by show (ixD d.items (k : Int)).dep ≤ n; rw [ix1]; exact hmem)))) (fun h => ?_) (fun h => ?_)
    · refine gk_ret (hq.up b) (ed_bl (m := .sh)) ?_
      simp only [Bool.not_eq_true', ix0, ix1] at h
      rw [hs, h]; rfl
    · refine gk_next (gk_again () (lw3 rfl rfl) ⟨k + 1, rfl, hkk, ?_⟩)
      simp only [Bool.not_eq_false', ix0, ix1] at h
      rw [hs, h]; rfl
  · obtain ⟨k, hk, hkl, hs⟩ := hi
    refine gk_ret hq (ed_bl (m := .sh)) ?_
    have hk' : d.items.length ≤ k := by
      have := congrArg List.length hk
      rw [List.length_drop, rng_len] at this
      simp at this; omega
    rw [hs, List.drop_eq_nil_of_le (by omega), List.drop_eq_nil_of_le (by omega)]
    simp [sames]
theorem gk_sameR {a d : Dt} {ia id : Mo rDt} {n : Nat} (hq : Rt F0 H0 rt rBl (same a d)) (h1 : a.isSeq = true) (h2 : d.isSeq = true) (he : same a d = sames a.items d.items) (hd : d.dep ≤ n + 1) : Gk F0 H0 (tSameRest K (spSame n) ⟨nx, rt, bk, ct⟩) [.bw rDt ia a, .bw rDt id d, .no] := fun σ F H E => by
  obtain ⟨v, hx, ok⟩ := E.bw_at (i := 1) rfl
  have hz : d.items.length ≤ 16777216 := by
    cases d with
    | lst xs => unfold rDt at ok; obtain ⟨p, vs, _, _, h3, _⟩ := ok; exact h3
    | tup xs => unfold rDt at ok; obtain ⟨p, vs, _, _, h3, _⟩ := ok; exact h3
    | _ => cases h2
  exact same_rest hq h1 h2 he hd hz σ F H E
theorem same_d {α : Type} {r : Rp α} [t : Tod r] [DecidableEq α] (a b : α) : same (t.d a) (t.d b) = decide (a = b) := by
  by_cases h : a = b
  · subst h; rw [decide_eq_true rfl]; exact (same_iff _ _).mpr rfl
  · rw [decide_eq_false h]
    cases e : same (t.d a) (t.d b) with
    | false => rfl
    | true => exact absurd (t.inj ((same_iff _ _).mp e)) h
/-- a call of it -/
theorem ed_same {α : Type} {r : Rp α} [ht : Tod r] [DecidableEq α] {k n : Nat} [hd : Dep r k] {a b : α} (ha : Ed F0 H0 ta G m1 r a) (hb : Ed F0 H0 tb G m2 r b) (hn : k ≤ n := by decide) : Ed F0 H0 (tCall (spSame n) [] E0 (tCons ta (tCons tb tNil))) G .sh rBl (decide (a = b)) :=
  (ed_call (ea_cons (Ed.bo ha.dt) (ea_cons (Ed.bo hb.dt) ea_nil)) (Pt.now _) (Nat.le_trans (hd.le b) hn)).cast (same_d a b)
end
end LK

set_option Elab.async false
set_option linter.all false
set_option maxRecDepth 100000
set_option maxHeartbeats 4000000
set_option autoImplicit false
/-! LK7: own lists of own lists; pop. -/
namespace LK
open PySem L2 PyProof.Rows PySem.Spec
/-- the list at q holds xs -/
def AtL {α : Type} (r : Rp α) (F H : Hp) (q : Addr) (xs : List α) : Prop := ∃ vs, H q = some (.lst vs) ∧ xs.length ≤ 16777216 ∧ Paired (r F) vs xs
theorem AtL.mo {α : Type} {r : Rp α} [h : Mo r] {F F' H H' : Hp} {q : Addr} {xs : List α} (e : Exs F F') (k : H' q = H q) (a : AtL r F H q xs) : AtL r F' H' q xs := by
  obtain ⟨vs, h1, h2, h3⟩ := a
  exact ⟨vs, by rw [k]; exact h1, h2, pmap (fun _ _ z => h.mo e z) h3⟩
theorem pmem {α β : Type} {R S : α → β → Prop} : ∀ {xs : List α} {ys : List β}, (∀ a b, a ∈ xs → R a b → S a b) → Paired R xs ys → Paired S xs ys
  | _, _, _, .nil => .nil
  | _, _, f, .cons h t => .cons (f _ _ List.mem_cons_self h) (pmem (fun a b ha hr => f a b (List.mem_cons_of_mem _ ha) hr) t)
theorem pin {α β : Type} {R : α → β → Prop} : ∀ {xs : List α} {ys : List β}, Paired R xs ys → ∀ a ∈ xs, ∃ b, R a b
  | _, _, .cons h t, a, ha => by
    rcases List.mem_cons.mp ha with e | e
    · subst e; exact ⟨_, h⟩
    · exact pin t a e
/-- an own list of own lists -/
def mLL {α : Type} (r : Rp α) (xss : List (List α)) : Mu := fun F H p S => ∃ qs, S = p :: qs ∧ (p :: qs).Nodup ∧ H p = some (.lst (qs.map V.ref)) ∧ xss.length ≤ 16777216 ∧ Paired (AtL r F H) qs xss
instance {α : Type} (r : Rp α) [h : Mo r] (xss : List (List α)) : MoM (mLL r xss) := ⟨fun e k ⟨qs, h1, h2, h3, h4, h5⟩ => ⟨qs, h1, h2, by rw [k _ (by rw [h1]; simp)]; exact h3, h4, pmem (fun q xs hq a => a.mo e (k q (by rw [h1]; simp [hq]))) h5⟩,
  fun ⟨qs, h1, h2, h3, h4, h5⟩ a ha => by
    rw [h1] at ha
    rcases List.mem_cons.mp ha with e | e
    · rw [e, h3]; exact fun z => nomatch z
    · obtain ⟨b, vs, z, _⟩ := pin h5 a e
      rw [z]; exact fun z => nomatch z⟩
abbrev sLL {α : Type} (r : Rp α) [Mo r] (xss : List (List α)) : Slot := sO (mLL r xss)
section
variable {F0 H0 : Hp} {G G' : List Slot} {m m1 m2 : Md} {ta tb tc te tl : TE} {tt : TT} {t u : TS} {K : PySem.W.Frag} {wi : TI} {g : TG} {nx : L2.St → Hp → Prop} {rt : VK} {bk ct : L2.St → Hp → Prop}
/-- several new lists -/
def Enn {α : Type} (F0 H0 : Hp) (t : TA) (G : List Slot) (r : Rp α) (xss : List (List α)) : Prop := ∀ σ F H, EnvOk F0 H0 G σ F H → ∀ Q : List V → Hp → Prop, (∀ qs F' H', Gr F H F' H' → qs.Nodup → (∀ q ∈ qs, H q = none ∧ F' q = none) → Paired (AtL r F' H') qs xss → Q (qs.map V.ref) H') → t σ H Q
theorem enn_nil {α : Type} {r : Rp α} : Enn F0 H0 tNil G r [] := fun σ F H E Q q => q [] F H (Gr.refl E.gr.fh) List.nodup_nil (fun _ z => nomatch z) .nil
theorem enn_cons {α : Type} {r : Rp α} [Mo r] {tr : TA} {xs : List α} {xss : List (List α)} (h : En F0 H0 ta G r xs) (hr : Enn F0 H0 tr G r xss) : Enn F0 H0 (tCons ta tr) G r (xs :: xss) := fun σ F H E Q q =>
  h σ F H E _ fun p vs F1 H1 g1 h1 h2 h3 h4 h5 => hr σ F1 H1 (E.gro g1) _ fun qs F2 H2 g2 n2 k2 p2 => by
    have hp : p ∉ qs := fun z => by have := (k2 p z).1; rw [h3] at this; cases this
    refine q (p :: qs) F2 H2 (g1.trans g2) (List.nodup_cons.mpr ⟨hp, n2⟩) (fun a ha => ?_) (.cons ⟨vs, g2.hh _ _ h3, h4, pmap (fun _ _ z => mox g2.ff z) h5⟩ p2)
    rcases List.mem_cons.mp ha with e | e
    · subst e
      refine ⟨h1, ?_⟩
      cases c : F2 a with
      | none => rfl
      | some o => have := g2.nw a o c h2; rw [h3] at this; cases this
    · exact ⟨g1.hh.back (k2 a e).1, (k2 a e).2⟩
theorem gk_asgNN {α : Type} {r : Rp α} [im : Mo r] {ts : TA} {xss : List (List α)} {i : Nat} (h : Enn F0 H0 ts G r xss) (hl : xss.length ≤ 16777216) (k : ∀ x, x = xss → Gk F0 H0 nx (G.set i (sLL r x))) : Gk F0 H0 (tAsg (tLst ts) (gName i) ⟨nx, rt, bk, ct⟩) G := fun σ F H E =>
  h σ F H E _ fun qs F1 H1 g1 n1 k1 p1 => ⟨by rw [List.length_map, plen p1]; exact sz_le hl, fun p hp => k _ rfl _ F1 _ (E.setO (S := p :: qs) (g1.trans (Gr.wild g1.fh hp)) (fun a ha => by
    rcases List.mem_cons.mp ha with e | e
    · subst e; exact ⟨g1.hh.back hp, g1.fh.back hp⟩
    · exact k1 a e) (by
    have np : p ∉ qs := fun z => by
      obtain ⟨b, vs, z2, _⟩ := pin p1 p z
      rw [hp] at z2; cases z2
    exact ⟨qs, rfl, List.nodup_cons.mpr ⟨np, n1⟩, upd_same, hl, pmem (fun q xs hq a => a.mo (Ex.refl F1).s (upd_ne (fun z => np (z ▸ hq)))) p1⟩))⟩
theorem at_rep {α : Type} {r : Rp α} [Mo r] {F H F' : Hp} (e : Ex F F') : ∀ {qs : List Addr} {xss : List (List α)}, (∀ q ∈ qs, ∀ o, H q = some o → F' q = some o) → Paired (AtL r F H) qs xss → Paired (rLst r F') (qs.map V.ref) xss
  | _, _, _, .nil => .nil
  | _, _, k, .cons a t => by
    obtain ⟨vs, b1, b2, b3⟩ := a
    exact .cons ⟨_, vs, rfl, k _ (by simp) _ b1, b2, pmap (fun _ _ z => mox e z) b3⟩ (at_rep e (fun q hq => k q (by simp [hq])) t)
/-- read as it stands -/
theorem ed_oo {α : Type} {r : Rp α} [Mo r] {xss : List (List α)} {im : MoM (mLL r xss)} {i : Nat} (h : G[i]? = some (.ow (mLL r xss) im)) : Ed F0 H0 (tVar i) G .bo (rLst (rLst r)) xss := fun σ F H E Q q => by
  obtain ⟨p, S, hx, h1, qs, h2, h3, h4, h5, h6⟩ := E.ow_at h
  exact ⟨_, hx, q _ F H (Gr.refl E.gr.fh) ⟨p, _, rfl, h4, h5, at_rep E.gr.fh (fun _ _ _ z => z) h6⟩⟩
theorem gk_freezeLL {α : Type} {r : Rp α} [im : Mo r] {xss : List (List α)} {iM : MoM (mLL r xss)} {k : L2.St → Hp → Prop} (i : Nat) (hi : G[i]? = some (.ow (mLL r xss) iM)) (h : Gk F0 H0 k (G.set i (sF (rLst (rLst r)) xss))) : Gk F0 H0 k G := fun σ F H E => by
  obtain ⟨F', E', _⟩ := E.freeze (s := sF (rLst (rLst r)) xss) hi (fun p S F' ⟨qs, h1, h2, h3, h4, h5⟩ hp ee _ => ⟨.ref p, rfl, p, _, rfl, by rw [hp p (by rw [h1]; simp)]; exact h3, h4, at_rep ee (fun q hq o z => by rw [hp q (by rw [h1]; simp [hq])]; exact z) h5⟩) (fun _ _ z => nomatch z)
  exact h σ F' H E'
theorem Paired.ref_at : ∀ {qs : List Addr} {i : Int} {v : V}, atI (qs.map V.ref) i = some v → ∃ j q, ixN qs.length i = some j ∧ qs[j]? = some q ∧ v = .ref q := fun {qs i v} h => by
  unfold atI at h
  rw [List.length_map] at h
  cases e : ixN qs.length i with
  | none => rw [e] at h; cases h
  | some j =>
    rw [e] at h
    have h : (qs.map V.ref)[j]? = some v := h
    rw [List.getElem?_map] at h
    cases q : qs[j]? with
    | none => rw [q] at h; cases h
    | some a => rw [q] at h; cases h; exact ⟨j, a, rfl, q, rfl⟩
theorem nodup_ix {α : Type} {l : List α} (hN : l.Nodup) {i j : Nat} {x : α} (a : l[i]? = some x) (b : l[j]? = some x) : i = j := L2.nd_ix hN a b
theorem at_set {α : Type} {r : Rp α} [h : Mo r] {F H : Hp} {q : Addr} {vs : List V} {ys : List α} (hy : ys.length ≤ 16777216) (hv : Paired (r F) vs ys) : ∀ {qs : List Addr} {xss : List (List α)} (n : Nat), qs.Nodup → qs[n]? = some q → Paired (AtL r F H) qs xss → Paired (AtL r F (upd H q (.lst vs))) qs (xss.set n ys)
  | _, _, n, _, hn, .nil => by simp at hn
  | x1 :: l1, y1 :: l2, 0, nd, hn, .cons a1 t1 => by
    have e : x1 = q := Option.some.inj hn
    subst e
    obtain ⟨d1, d2⟩ := List.nodup_cons.mp nd
    exact .cons ⟨vs, upd_same, hy, hv⟩ (pmem (fun b xs hb a => a.mo (Ex.refl F).s (upd_ne (fun z => d1 (z ▸ hb)))) t1)
  | x1 :: l1, y1 :: l2, n + 1, nd, hn, .cons a1 t1 => by
    obtain ⟨d1, d2⟩ := List.nodup_cons.mp nd
    have hn : l1[n]? = some q := hn
    have hq : q ∈ l1 := List.mem_of_getElem? hn
    exact .cons (a1.mo (Ex.refl F).s (upd_ne (fun z => d1 (z ▸ hq)))) (at_set hy hv n d2 hn t1)
/-- rows[j].append(e) -/
theorem gk_appLL {α : Type} {r : Rp α} [im : Mo r] {xss : List (List α)} {iM : MoM (mLL r xss)} {a : α} {i : Nat} {tj : TE} {j : Int} (hi : G[i]? = some (.ow (mLL r xss) iM)) (hj : Ed F0 H0 tj G m rInt j) (hk : 0 ≤ j ∧ j < xss.length) (h : Ed F0 H0 te G .sh r a) (hl : (ixD xss j).length < 16777216)
    (k : ∀ x, x = xss.set j.toNat (ixD xss j ++ [a]) → Gk F0 H0 nx (G.set i (sLL r x))) : Gk F0 H0 (tDrop (tBM K "list" rAppend (tOp (rIxL K) (tVar i) tj) (tCons te tNil)) ⟨nx, rt, bk, ct⟩) G := fun σ F H E => by
  obtain ⟨p, S, hx, h1, qs, h2, h3, h4, h5, h6⟩ := E.ow_at hi
  have hlen := plen h6
  have hjn : j.toNat < qs.length := by omega
  have hq : qs[j.toNat]? = some qs[j.toNat] := List.getElem?_eq_getElem hjn
  have hxj : xss[j.toNat]? = some (ixD xss j) := by
    have e := atI_ok (xs := xss) (i := j) ⟨by omega, hk.2⟩
    unfold atI ixN at e
    rw [if_pos hk.1, if_pos hk.2] at e
    exact e
  obtain ⟨q0, hq0, vs, b1, b2, b3⟩ := pget h6 hxj
  rw [hq] at hq0; cases hq0
  have hq' : qs[j.toNat]? = some qs[j.toNat] := hq
  generalize hqq : qs[j.toNat] = q at hq b1
  have hqm : q ∈ qs := by rw [← hqq]; exact List.getElem_mem _
  refine ⟨_, hx, hj σ F H E _ fun w F1 H1 g1 hw => ?_⟩
  refine ⟨p, qs.map V.ref, j, .ref q, rfl, hw, SqL.of (g1.hh _ _ h4), ?_, ?_⟩
  · unfold atI ixN
    rw [List.length_map, if_pos hk.1, if_pos (by omega)]
    show (qs.map V.ref)[j.toNat]? = _
    rw [List.getElem?_map, hq]; rfl
  refine ⟨.inl ⟨rfl, vs, SqL.of (g1.hh _ _ b1)⟩, h σ F1 H1 (E.gro g1) _ fun v F2 H2 g2 hv => ?_⟩
  have g := g1.trans g2
  refine ⟨q, vs, v, rfl, rfl, g.hh _ _ b1, by rw [plen b3]; exact sz_lt hl, ?_⟩
  refine k _ rfl σ F2 _ ((E.gro g).mut (p := p) (S := []) (S' := []) hi fun p' S' hp' hS' ⟨qs', c1, c2, c3, c4, c5⟩ => ?_)
  rw [hx] at hp'; cases hp'
  have eqs : qs' = qs := by
    have z := g.hh _ _ h4
    rw [z] at c3
    have z2 : qs.map V.ref = qs'.map V.ref := by injection c3 with c3; injection c3
    exact (map_inj (fun e => by injection e) z2).symm
  subst eqs
  subst c1
  have nF : ∀ a ∈ p :: qs', F2 a = none := fun a ha => (hS' a ha).1
  have npq : p ≠ q := fun z => (List.nodup_cons.mp c2).1 (z ▸ hqm)
  refine ⟨p :: qs', Ex.refl F2, fun a u e n => (by rw [n] at e; cases e), fun a ha _ _ => upd_ne (fun z => ha (by rw [z]; exact List.mem_cons_of_mem _ hqm)), fun a u e => ?_, fun a ha => ⟨.inl ha, nF a ha⟩, qs', rfl, c2, by rw [upd_ne npq]; exact c3, by rw [List.length_set]; exact h5, ?_⟩
  · rw [upd_ne (ne_of_none e (nF q (List.mem_cons_of_mem _ hqm)))]; exact g.fh a u e
  · exact at_set (by simp; omega) (papp (pmap (fun _ _ z => mox g.ff z) b3) (.cons hv .nil)) j.toNat (List.nodup_cons.mp c2).2 hq c5

/-! ### pop -/
/-- an expression that changes the slots to G' -/
def Edm {α : Type} (F0 H0 : Hp) (t : TE) (G G' : List Slot) (r : Rp α) (a : α) : Prop := ∀ σ F H, EnvOk F0 H0 G σ F H → ∀ Q : VK, (∀ v F' H', EnvOk F0 H0 G' σ F' H' → Ex F F' → r F' v a → Q v H') → t σ H Q
def Etm (F0 H0 : Hp) (t : TT) (G G' : List Slot) (b : Bool) : Prop := ∀ σ F H, EnvOk F0 H0 G σ F H → ∀ Q : Bool → Hp → Prop, (∀ F' H', EnvOk F0 H0 G' σ F' H' → Q b H') → t σ H Q
theorem edm_pop {α : Type} {r : Rp α} [im : Mo r] [Inhabited α] {xs : List α} {iM : MoM (mL r xs)} {i : Nat} (hi : G[i]? = some (.ow (mL r xs) iM)) (hl : 0 < xs.length) : Edm F0 H0 (tBM0 K "list" rPop (tVar i)) G (G.set i (sL r xs.dropLast)) r (ixD xs ((xs.length : Int) - 1)) := fun σ F H E Q q => by
  obtain ⟨p, vs, hx, h1, h2, h3, h4, h5⟩ := E.lst_at hi
  have e := atI_ok (xs := xs) (i := (xs.length : Int) - 1) ⟨by omega, by omega⟩
  have e' : xs[xs.length - 1]? = some (ixD xs ((xs.length : Int) - 1)) := by
    unfold atI ixN at e
    rw [if_pos (by omega), if_pos (by omega)] at e
    have z : ((xs.length : Int) - 1).toNat = xs.length - 1 := by omega
    rw [z] at e
    exact e
  obtain ⟨v, hv, rv⟩ := pget h5 e'
  refine ⟨_, hx, .inl ⟨rfl, _, SqL.of h3⟩, p, vs, v, rfl, rfl, h3, by rw [plen h5]; exact hv, ?_⟩
  exact q v F _ (E.mutL hi hx (by simp; omega) (pdl h5)) (Ex.refl F) rv
/-- xs.pop(k) -/
theorem edm_popAt {α : Type} {r : Rp α} [im : Mo r] [Inhabited α] {xs : List α} {iM : MoM (mL r xs)} {i : Nat} {k : Int} (hi : G[i]? = some (.ow (mL r xs) iM)) (h : Ed F0 H0 te G m rInt k) (hk : 0 ≤ k ∧ k < xs.length) : Edm F0 H0 (tBM K "list" rPopAt (tVar i) (tCons te tNil)) G (G.set i (sL r (xs.eraseIdx k.toNat))) r (ixD xs k) := fun σ F H E Q q => by
  obtain ⟨p, vs, hx, h1, h2, h3, h4, h5⟩ := E.lst_at hi
  have e := atI_ok (xs := xs) (i := k) ⟨by omega, hk.2⟩
  have e' : xs[k.toNat]? = some (ixD xs k) := by
    unfold atI ixN at e
    rw [if_pos hk.1, if_pos hk.2] at e
    exact e
  obtain ⟨v, hv, rv⟩ := pget h5 e'
  have hl := plen h5
  refine ⟨_, hx, .inl ⟨rfl, _, SqL.of h3⟩, h σ F H E _ fun w F1 H1 g1 hw => ⟨p, vs, k, k.toNat, v, rfl, by rw [show w = _ from hw], g1.hh _ _ h3, by omega, by omega, by rw [seqIndex_of hk.1 (by omega)], hv, ?_⟩⟩
  exact q v F1 _ ((E.gro g1).mutL hi hx (Nat.le_trans (List.length_eraseIdx_le _ _) h4) (perase _ (pmap (fun _ _ z => mox g1.ff z) h5))) g1.ff (mox g1.ff rv)
theorem edm_of {α : Type} {r : Rp α} {a : α} (h : Ed F0 H0 te G .sh r a) : Edm F0 H0 te G G r a := fun σ F H E Q q => h σ F H E Q fun v F' H' g hv => q v F' H' (E.gro g) g.ff hv
theorem etm_iop {x y : Int} {c : Bool} {f : Int → Int → V} (hx : Edm F0 H0 ta G G' rInt x) (hy : Ed F0 H0 tb G' m rInt y) (hf : f x y = .bl c) : Etm F0 H0 (tTest (tOp (rI0 f) ta tb)) G G' c := fun σ F H E Q q =>
  hx σ F H E _ fun v F1 H1 E1 _ hv => hy σ F1 H1 E1 _ fun w F2 H2 g2 hw => ⟨x, y, hv, hw, c, hf, q F2 H2 (E1.gro g2)⟩
theorem gk_ifm {b : Bool} (h : Etm F0 H0 tt G G' b) (h1 : b = true → Gk F0 H0 (t ⟨nx, rt, bk, ct⟩) G') (h2 : b = false → Gk F0 H0 (u ⟨nx, rt, bk, ct⟩) G') : Gk F0 H0 (tIfS tt t u ⟨nx, rt, bk, ct⟩) G := fun σ F H E =>
  h σ F H E _ fun F1 H1 E1 => by
    cases b with
    | true => exact h1 rfl σ F1 H1 E1
    | false => exact h2 rfl σ F1 H1 E1
theorem gk_asgm {α : Type} {r : Rp α} [im : Mo r] {a : α} {i : Nat} (h : Edm F0 H0 te G G' r a) (k : ∀ x, x = a → Gk F0 H0 nx (G'.set i (.fz r im x))) : Gk F0 H0 (tAsg te (gName i) ⟨nx, rt, bk, ct⟩) G := fun σ F H E =>
  h σ F H E _ fun v F1 H1 E1 _ hv => k _ rfl _ F1 H1 (E1.set ⟨v, rfl, hv⟩ fun _ _ z => nomatch z)
/-- ys.append(an expression that changes another list) -/
theorem gk_appm {α : Type} {r : Rp α} [im : Mo r] {ys : List α} {iM iM' : MoM (mL r ys)} {a : α} {i : Nat} (hi : G[i]? = some (.ow (mL r ys) iM)) (hi' : G'[i]? = some (.ow (mL r ys) iM')) (h : Edm F0 H0 te G G' r a) (hl : ys.length < 16777216) (k : ∀ x, x = ys ++ [a] → Gk F0 H0 nx (G'.set i (sL r x))) :
    Gk F0 H0 (tDrop (tBM K "list" rAppend (tVar i) (tCons te tNil)) ⟨nx, rt, bk, ct⟩) G := fun σ F H E => by
  obtain ⟨p, vs, hx, h1, h2, h3, h4, h5⟩ := E.lst_at hi
  refine ⟨_, hx, .inl ⟨rfl, _, SqL.of h3⟩, h σ F H E _ fun v F1 H1 E1 _ hv => ?_⟩
  obtain ⟨p', vs', hx', k1, k2, k3, k4, k5⟩ := E1.lst_at hi'
  rw [hx] at hx'; cases hx'
  refine ⟨p, vs', v, rfl, rfl, k3, by rw [plen k5]; exact sz_lt hl, ?_⟩
  exact k _ rfl σ F1 _ (E1.mutL hi' hx (by simp; omega) (papp k5 (.cons hv .nil)))
end
end LK

set_option Elab.async false
set_option linter.all false
set_option maxRecDepth 100000
set_option maxHeartbeats 4000000
set_option autoImplicit false
/-! LK8: == of lists and tuples; list(range). -/
namespace LK
open PySem L2 PyProof.Rows PySem.Spec

/-! ### data that == compares at any depth -/
class Da {α : Type} (r : Rp α) where
  d : α → PyData
  dp : ∀ {F H : Hp} {K : PySem.W.Frag} {v : V} {a : α}, r F v a → Ex F H → Dp K H v (d a)
  lay : ∀ {F : Hp} {v : V} {a : α}, r F v a → (d a).canLay0 = true
  dep : Nat
  dep_le : ∀ a, (d a).depth ≤ dep
  eqv : ∀ a b, PyData.eqv (d a) (d b) = true ↔ a = b
instance : Da rInt where
  d := .int
  dp h _ := by rw [show _ = _ from h]; exact .int _
  lay _ := rfl
  dep := 0
  dep_le _ := Nat.le_refl _
  eqv a b := by simp only [PyData.eqv]; exact beq_iff_eq
instance : Da rBl where
  d := .bool
  dp h _ := by rw [show _ = _ from h]; exact .bl _
  lay _ := rfl
  dep := 0
  dep_le _ := Nat.le_refl _
  eqv a b := by simp only [PyData.eqv]; exact beq_iff_eq
instance : Da rTx where
  d a := .str ⟨a.toArray⟩
  dp h _ := by rw [h.1]; exact .str _
  lay {F v a} h := by
    show PyData.strOk ⟨a.toArray⟩ = true
    unfold PyData.strOk
    simp only [List.all_toArray, List.all_eq_true, decide_eq_true_eq]
    exact h.2.2
  dep := 0
  dep_le _ := Nat.le_refl _
  eqv a b := by simp only [PyData.eqv]; rw [beq_iff_eq]; simp
section
variable {α β : Type} {r : Rp α} {s : Rp β} [A : Da r] [B : Da s]
theorem dp_all {F H : Hp} {K : PySem.W.Frag} (e : Ex F H) : ∀ {vs : List V} {xs : List α}, Paired (r F) vs xs → DpAll K H vs (xs.map A.d)
  | _, _, .nil => .nil
  | _, _, .cons h t => .cons (A.dp h e) (dp_all e t)
theorem lay_all {F : Hp} : ∀ {vs : List V} {xs : List α}, Paired (r F) vs xs → PyData.canLayAll0 (xs.map A.d) = true
  | _, _, .nil => rfl
  | _, _, .cons h t => by
    rw [List.map_cons, PyData.canLayAll0, A.lay h, lay_all t]; rfl
theorem depth_all : ∀ xs : List α, PyData.depthAll (xs.map A.d) ≤ A.dep
  | [] => Nat.zero_le _
  | x :: xs => by
    rw [List.map_cons, PyData.depthAll]
    exact Nat.max_le.mpr ⟨A.dep_le x, depth_all xs⟩
theorem eqv_all : ∀ xs ys : List α, PyData.eqvAll (xs.map A.d) (ys.map A.d) = true ↔ xs = ys
  | [], [] => by simp [PyData.eqvAll]
  | [], _ :: _ => by simp [PyData.eqvAll]
  | _ :: _, [] => by simp [PyData.eqvAll]
  | x :: xs, y :: ys => by
    rw [List.map_cons, List.map_cons, PyData.eqvAll, Bool.and_eq_true, A.eqv x y, eqv_all xs ys, List.cons.injEq]
instance : Da (rLst r) where
  d xs := .list (xs.map A.d)
  dp h e := by
    obtain ⟨p, vs, rfl, h1, h2, h3⟩ := h
    exact .lst (SqL.of (e _ _ h1)) (dp_all e h3)
  lay h := by
    obtain ⟨p, vs, rfl, h1, h2, h3⟩ := h
    exact lay_all h3
  dep := A.dep + 1
  dep_le xs := by
    show PyData.depthAll _ + 1 ≤ _
    have := depth_all (A := A) xs
    omega
  eqv a b := by simp only [PyData.eqv]; exact eqv_all a b
instance : Da (rTup r) where
  d xs := .tuple (xs.map A.d)
  dp h e := by
    obtain ⟨p, vs, rfl, h1, h2, h3⟩ := h
    exact .tup (SqT.of (e _ _ h1)) (dp_all e h3)
  lay h := by
    obtain ⟨p, vs, rfl, h1, h2, h3⟩ := h
    exact lay_all h3
  dep := A.dep + 1
  dep_le xs := by
    show PyData.depthAll _ + 1 ≤ _
    have := depth_all (A := A) xs
    omega
  eqv a b := by simp only [PyData.eqv]; exact eqv_all a b
instance : Da (rPr r s) where
  d x := .tuple [A.d x.1, B.d x.2]
  dp h e := by
    obtain ⟨p, u, w, rfl, h1, h2, h3⟩ := h
    exact .tup (SqT.of (e _ _ h1)) (.cons (A.dp h2 e) (.cons (B.dp h3 e) .nil))
  lay h := by
    obtain ⟨p, u, w, rfl, h1, h2, h3⟩ := h
    show PyData.canLayAll0 [_, _] = true
    rw [PyData.canLayAll0, PyData.canLayAll0, PyData.canLayAll0, A.lay h2, B.lay h3]; rfl
  dep := max A.dep B.dep + 1
  dep_le x := by
    show max _ (max _ 0) + 1 ≤ _
    have h1 := A.dep_le x.1
    have h2 := B.dep_le x.2
    omega
  eqv a b := by
    obtain ⟨a1, a2⟩ := a
    obtain ⟨b1, b2⟩ := b
    simp only [PyData.eqv, PyData.eqvAll, Bool.and_true, Bool.and_eq_true, A.eqv, B.eqv, Prod.mk.injEq]
end
section
variable {F0 H0 : Hp} {G : List Slot} {m m1 m2 : Md} {ta tb te : TE} {K : PySem.W.Frag}
theorem da_shaped {α : Type} {r : Rp α} [A : Da r] (hd : A.dep ≤ 64) {F : Hp} {v : V} {a : α} (h : r F v a) : SeqAt.shaped (A.d a) = true := by
  unfold SeqAt.shaped
  rw [A.lay h, decide_eq_true (Nat.le_trans (A.dep_le a) hd)]; rfl
theorem ed_eqQ {α : Type} {r : Rp α} [DecidableEq α] [Mo r] [A : Da r] {x y : α} (hx : Ed F0 H0 ta G m1 r x) (hy : Ed F0 H0 tb G m2 r y) (hd : A.dep ≤ 64 := by decide) : Ed F0 H0 (tOp (rEqD K) ta tb) G m rBl (decide (x = y)) :=
  ed_bin hx hy fun v w F H g0 hv hw Q q =>
    ⟨_, _, A.dp hv (pk_now g0), A.dp hw (pk_now g0), da_shaped hd hv, da_shaped hd hw, q _ F H (Gr.refl g0.fh) (by show V.bl _ = V.bl _; congr 1; rw [Bool.eq_iff_iff, A.eqv, decide_eq_true_eq])⟩
theorem ed_neQ {α : Type} {r : Rp α} [DecidableEq α] [Mo r] [A : Da r] {x y : α} (hx : Ed F0 H0 ta G m1 r x) (hy : Ed F0 H0 tb G m2 r y) (hd : A.dep ≤ 64 := by decide) : Ed F0 H0 (tOp (rNeD K) ta tb) G m rBl (!decide (x = y)) :=
  ed_bin hx hy fun v w F H g0 hv hw Q q =>
    ⟨_, _, A.dp hv (pk_now g0), A.dp hw (pk_now g0), da_shaped hd hv, da_shaped hd hw, q _ F H (Gr.refl g0.fh) (by show V.bl _ = V.bl _; congr 2; rw [Bool.eq_iff_iff, A.eqv, decide_eq_true_eq])⟩
/-! ### list(range(n)), list(range(a, b)) -/
theorem rgV_p {F : Hp} (a b : Int) : Paired (rInt F) (rgV a b) (rng2 a b) := by
  unfold rgV rng2
  generalize List.range (b - a).toNat = l
  induction l with
  | nil => exact .nil
  | cons x l ih => exact .cons rfl ih
theorem en_rng {n : Int} (h : Ed F0 H0 te G m1 rInt n) (hn : n ≤ 16777216) (hn0 : -16777216 ≤ n) : En F0 H0 (tLstRg (tRg1 te)) G rInt (rng n) := fun σ F H E Q q =>
  h σ F H E _ fun v F1 H1 g1 hv => ⟨n, hv, ⟨by omega, by omega, by omega, by omega, by omega⟩, fun p hp => q p _ F1 _ (g1.trans (Gr.wild g1.fh hp)) (g1.hh.back hp) (g1.fh.back hp) upd_same (by unfold rng; rw [rng2_len]; omega) (rgV_p 0 n)⟩
theorem en_rng2 {a b : Int} (h : Ed F0 H0 ta G m1 rInt a) (h' : Ed F0 H0 tb G m2 rInt b) (ha : -16777216 ≤ a ∧ a ≤ 16777216) (hb : -16777216 ≤ b ∧ b ≤ 16777216) (hab : b - a ≤ 16777216) : En F0 H0 (tLstRg (tRg2 ta tb)) G rInt (rng2 a b) := fun σ F H E Q q =>
  h σ F H E _ fun v F1 H1 g1 hv => h' σ F1 H1 (E.gro g1) _ fun w F2 H2 g2 hw => ⟨a, b, hv, hw, ⟨by omega, by omega, by omega, by omega, by omega⟩, fun p hp => q p _ F2 _ ((g1.trans g2).trans (Gr.wild g2.fh hp)) ((g1.trans g2).hh.back hp) (g2.fh.back hp) upd_same (by rw [rng2_len]; omega) (rgV_p a b)⟩
end
/-! ### rules whose terms name the fragment, for scopes of their own -/
section
variable {X : Cx} (K : PySem.W.Frag)
theorem kIxL (h : X.K = K := by rfl) : IxR X (rIxL K) := by subst h; exact ix_list
theorem kIxU (h : X.K = K := by rfl) : IxR X (rIxT K) := by subst h; exact ix_tup
theorem kInQ (h : X.K = K := by rfl) : OpR X (compareOp .In) (rIn K false) := by subst h; exact op_in_seq
theorem kNiQ (h : X.K = K := by rfl) : OpR X (compareOp .NotIn) (rIn K true) := by subst h; exact op_notIn_seq
theorem kEqD (hu : X.A.units + 64 < cLine) (h : X.K = K := by rfl) : OpR X (compareOp .Eq) (rEqD K) := by subst h; exact op_eqD hu
theorem kNeD (hu : X.A.units + 64 < cLine) (h : X.K = K := by rfl) : OpR X (compareOp .NotEq) (rNeD K) := by subst h; exact op_neD hu
theorem kLen (h : X.K = K := by rfl) : CallR X (.builtin "len") (rLenQ K) := by subst h; exact call_len_seq
theorem kList (h : X.K = K := by rfl) : CallR X (.type "list") (rListQ K) := by subst h; exact call_list_of
theorem kTuple (h : X.K = K := by rfl) : CallR X (.type "tuple") (rTupleQ K) := by subst h; exact call_tuple_of
theorem kAll (hc : X.calm = true := by rfl) (h : X.K = K := by rfl) : CallR X (.builtin "all") (rAll K) := by subst h; exact cr_all hc
theorem kAny (hc : X.calm = true := by rfl) (h : X.K = K := by rfl) : CallR X (.builtin "any") (rAny K) := by subst h; exact cr_any hc
theorem kSlL (h : X.K = K := by rfl) : SlR X (rSlL K) := by subst h; exact sl_list
theorem kJoin {o e : Expr} {to te : TE} {apos pos : Pos} (ho : PE X o to) (he : PE X e te) (h : X.K = K := by rfl) (hs : starEach [e] X.env = [(false, eval e X.env)] := by rfl) (hbase : attributeBase o "join" X.env (eval o X.env) = eval o X.env := by rfl) (hline : (apos.endLine == pos.line) = true := by rfl) :
    PE X (.Call (.Attribute o "join" apos) [e] [] pos) (tM1 (rJoin K) to te) := by subst h; exact pe_join ho he hs hbase hline
theorem kTruth {a : Expr} {ta : TE} (ha : PE X a ta) (he : ∀ whole, isTrue a X.env whole = (do let v ← whole; standAt a.pos; holding [v] (truthy v))) (h : X.K = K := by rfl) : PT X a (tTr K ta) := by subst h; exact pt_truth ha he
end
end LK
namespace LK
open PySem L2
theorem gk_turnL {H0 : Hp} {α S : Type} {F1 : Hp} {I : List α → S → Prop} {ups : S → List Slot → List Slot} {G G' : List Slot} {rest : List α} {s s' : S} (l : Lw G' (ups s' G)) (e : s = s') (i : I rest s) : Gk F1 H0 (FoK F1 H0 I ups G rest s) G' := gk_turn l e (e ▸ i)
end LK


set_option maxHeartbeats 4000000
namespace Zk27
open PySem L2 LK PyProof.Rows PySem.Spec
theorem ixb {xs : List Int} {a b j : Int} (h : ∀ x ∈ xs, a ≤ x ∧ x < b) (k : ixOk xs.length j) : a ≤ ixD xs j ∧ ixD xs j < b := h _ (ixD_mem k)
def m_with_releases_s1 (v_locks : (List Int)) (v_places : (List Int)) (s : (List (List Nat))) (x : Int) : (List (List Nat)) :=
  let v_steps2 : (List (List Nat)) := s
  let v_many1 : Int := x
  let v_steps3 : (List (List Nat)) := (v_steps2 ++ [(([43] : List Nat) ++ [48 + (ixD v_locks (v_many1 - (1 : Int))).toNat])])
  let v_steps4 : (List (List Nat)) := (v_steps3 ++ (((rng v_many1).filter (fun x2 => (decide ((ixD v_places x2) = v_many1)))).map (fun x2 => (([45] : List Nat) ++ [48 + (ixD v_locks x2).toNat]))))
  v_steps4
def m_with_releases (v_locks : (List Int)) (v_places : (List Int)) : (List (List Nat)) :=
  let v_steps1 : (List (List Nat)) := ([] : (List (List Nat)))
  let s_2 : (List (List Nat)) := (rng2 (1 : Int) ((v_locks.length : Int) + (1 : Int))).foldl (m_with_releases_s1 v_locks v_places) v_steps1
  s_2
def pre_m_with_releases (v_locks : (List Int)) (v_places : (List Int)) : Prop := v_locks.length ≤ 6 ∧ v_places.length = v_locks.length ∧ ∀ x ∈ v_locks, 0 ≤ x ∧ x < 10
theorem wr_len (l p s : _) (x : Int) : (m_with_releases_s1 l p s x).length ≤ s.length + 1 + x.toNat := by
  have hf := List.length_filter_le (fun x2 => decide (ixD p x2 = x)) (rng x)
  rw [rng_len] at hf
  simp only [m_with_releases_s1, List.length_append, List.length_map, List.length_cons, List.length_nil]
  omega
theorem wr_inv (l p : List Int) (s : List (List Nat)) (x : Int) (n : Nat) (hx : x ≤ 6) (h : s.length + 7 * (n + 1) ≤ 42) : (m_with_releases_s1 l p s x).length + 7 * n ≤ 42 := by
  have := wr_len l p s x
  omega
def m_law_cell (v_law_script : (List Int)) (v_law_k : Int) : Int :=
  cond (decide (v_law_k < (v_law_script.length : Int)))
    ((ixD v_law_script v_law_k))
    ((0 : Int))
def pre_m_law_cell (v_law_script : (List Int)) (v_law_k : Int) : Prop := 0 ≤ v_law_k
def m_law_numbers_s1 (v_law_limit : Int) (s : (Int × (List Int) × Int)) (x : Int) : (Int × (List Int) × Int) :=
  let v_law_mixed2 : Int := s.1
  let v_law_row2 : (List Int) := s.2.1
  let v_law_left3 : Int := s.2.2
  let v_law_k1 : Int := x
  let v_law_mixed3 : Int := ((((v_law_mixed2 * (48271 : Int)) + ((10007 : Int) * v_law_k1)) + (12345 : Int)) % (2147483647 : Int))
  cond (decide ((0 : Int) < v_law_left3))
    (let v_law_row3 : (List Int) := (v_law_row2 ++ [(v_law_left3 % v_law_limit)])
    let v_law_left4 : Int := (v_law_left3 / v_law_limit)
    (v_law_mixed3, v_law_row3, v_law_left4))
    (let v_law_row4 : (List Int) := (v_law_row2 ++ [((v_law_mixed3 / (1021 : Int)) % v_law_limit)])
    (v_law_mixed3, v_law_row4, v_law_left3))
def m_law_numbers (v_law_cell_here : Int) (v_law_many : Int) (v_law_limit : Int) : (List Int) :=
  let v_law_left1 : Int := (0 : Int)
  let s_1 : Int := cond (decide (((10 : Int) ^ (18 : Int).toNat) ≤ v_law_cell_here))
    (let v_law_left2 : Int := (v_law_cell_here - ((10 : Int) ^ (18 : Int).toNat))
    v_law_left2)
    (v_law_left1)
  let v_law_mixed1 : Int := (v_law_cell_here % (2147483647 : Int))
  let v_law_row1 : (List Int) := ([] : (List Int))
  let s_3 : (Int × (List Int) × Int) := (rng v_law_many).foldl (m_law_numbers_s1 v_law_limit) (v_law_mixed1, v_law_row1, s_1)
  s_3.2.1
def pre_m_law_numbers (v_law_cell_here : Int) (v_law_many : Int) (v_law_limit : Int) : Prop := 0 ≤ v_law_many ∧ v_law_many ≤ 10000 ∧ 0 < v_law_limit ∧ v_law_limit < 1073741824
theorem numbers_len (c n l : Int) : (m_law_numbers c n l).length = n.toNat := by
  have h : ∀ (xs : List Int) (s : Int × List Int × Int), (xs.foldl (m_law_numbers_s1 l) s).2.1.length = s.2.1.length + xs.length := by
    intro xs
    induction xs with
    | nil => intro s; rfl
    | cons x xs ih =>
      intro s
      rw [List.foldl_cons, ih, List.length_cons]
      have e : (m_law_numbers_s1 l s x).2.1.length = s.2.1.length + 1 := by
        by_cases c : (0 : Int) < s.2.2 <;> simp [m_law_numbers_s1, c]
      omega
  unfold m_law_numbers
  simp only [h, rng_len, List.length_nil]
  omega
theorem numbers_mem {c n l x : Int} (hl : 0 < l) (hx : x ∈ m_law_numbers c n l) : 0 ≤ x ∧ x < l := by
  have h : ∀ (xs : List Int) (s : Int × List Int × Int), (∀ y ∈ s.2.1, 0 ≤ y ∧ y < l) → ∀ y ∈ (xs.foldl (m_law_numbers_s1 l) s).2.1, 0 ≤ y ∧ y < l := by
    intro xs
    induction xs with
    | nil => intro s hs; exact hs
    | cons x xs ih =>
      intro s hs
      rw [List.foldl_cons]
      refine ih _ ?_
      have e : ∀ a : Int, 0 ≤ a % l ∧ a % l < l := fun a => ⟨Int.emod_nonneg _ (by omega), Int.emod_lt_of_pos _ hl⟩
      intro y hy
      by_cases c : (0 : Int) < s.2.2
      all_goals
        simp only [m_law_numbers_s1, c, decide_true, decide_false, cond_true, cond_false, List.mem_append, List.mem_singleton] at hy
        rcases hy with hy | hy
        · exact hs y hy
        · subst hy; exact e _
  unfold m_law_numbers at hx
  exact h _ _ (by simp) x hx
theorem numbers_ix (c n l j : Int) (hl : 0 < l) (h0 : 0 ≤ j) (hj : j < n) : 0 ≤ ixD (m_law_numbers c n l) j ∧ ixD (m_law_numbers c n l) j < l :=
  numbers_mem hl (ixD_mem ⟨by omega, by rw [numbers_len]; omega⟩)
def m_law_shuffled_s1  (s : ((List Int) × (List Int))) (x : Int) : ((List Int) × (List Int)) :=
  let v_law_rows2 : (List Int) := s.1
  let v_law_left2 : (List Int) := s.2
  let v_law_number1 : Int := x
  cond (!decide (v_law_left2 = ([] : (List Int))))
    (let v_law_rows3 : (List Int) := (v_law_rows2 ++ [(ixD v_law_left2 (v_law_number1 % (v_law_left2.length : Int)))])
    let v_law_left3 : (List Int) := (v_law_left2.eraseIdx (v_law_number1 % (v_law_left2.length : Int)).toNat)
    (v_law_rows3, v_law_left3))
    ((v_law_rows2, v_law_left2))
def m_law_shuffled (v_law_row : (List Int)) (v_law_numbers_here : (List Int)) : (List Int) :=
  let v_law_left1 : (List Int) := v_law_row
  let v_law_rows1 : (List Int) := ([] : (List Int))
  let s_2 : ((List Int) × (List Int)) := v_law_numbers_here.foldl m_law_shuffled_s1 (v_law_rows1, v_law_left1)
  (s_2.1 ++ s_2.2)
def pre_m_law_shuffled (v_law_row : (List Int)) (v_law_numbers_here : (List Int)) : Prop := v_law_row.length ≤ 6
theorem shuffled_inv (s : List Int × List Int) (x : Int) : (m_law_shuffled_s1 s x).1.length + (m_law_shuffled_s1 s x).2.length = s.1.length + s.2.length ∧ ∀ y, (y ∈ (m_law_shuffled_s1 s x).1 ∨ y ∈ (m_law_shuffled_s1 s x).2) → y ∈ s.1 ∨ y ∈ s.2 := by
  obtain ⟨a, b⟩ := s
  by_cases h : b = []
  · subst h; simp [m_law_shuffled_s1]
  · have hl := List.length_pos_iff.mpr h
    have h1 := Int.emod_nonneg x (show (b.length : Int) ≠ 0 by omega)
    have h2 := Int.emod_lt_of_pos x (show (0 : Int) < (b.length : Int) by omega)
    simp only [m_law_shuffled_s1, h, decide_false, Bool.not_false, cond_true]
    refine ⟨by rw [List.length_append, List.length_eraseIdx_of_lt (by omega)]; simp; omega, fun y hy => ?_⟩
    rcases hy with hy | hy
    · rcases List.mem_append.mp hy with hy | hy
      · exact .inl hy
      · rw [List.mem_singleton.mp hy]; exact .inr (ixD_mem ⟨by omega, h2⟩)
    · exact .inr (List.mem_of_mem_eraseIdx hy)
theorem shuffled_all : ∀ (xs : List Int) (s : List Int × List Int), (xs.foldl m_law_shuffled_s1 s).1.length + (xs.foldl m_law_shuffled_s1 s).2.length = s.1.length + s.2.length ∧ ∀ y, (y ∈ (xs.foldl m_law_shuffled_s1 s).1 ∨ y ∈ (xs.foldl m_law_shuffled_s1 s).2) → y ∈ s.1 ∨ y ∈ s.2
  | [], s => ⟨rfl, fun _ h => h⟩
  | x :: xs, s => by
    obtain ⟨h1, h2⟩ := shuffled_all xs (m_law_shuffled_s1 s x)
    obtain ⟨h3, h4⟩ := shuffled_inv s x
    rw [List.foldl_cons]
    exact ⟨h1.trans h3, fun y hy => h4 y (h2 y hy)⟩
theorem shuffled_len (r n : List Int) : (m_law_shuffled r n).length = r.length := by
  have h := (shuffled_all n ([], r)).1
  unfold m_law_shuffled
  simp only [List.length_append] at h ⊢
  simpa using h
theorem shuffled_mem (r n : List Int) (y : Int) (hy : y ∈ m_law_shuffled r n) : y ∈ r := by
  have h := (shuffled_all n ([], r)).2 y
  unfold m_law_shuffled at hy
  rcases h (List.mem_append.mp hy) with h | h
  · cases h
  · exact h
theorem h_pos {b : List Int} (h : (!decide (b = [])) = true) : (0 : Int) < (b.length : Int) := by
  have := List.length_pos_iff.mpr (show b ≠ [] by simpa using h); omega
def m_law_due_s2 (v_law_locks : (List Int)) (v_law_places : (List Int)) (v_law_many3 : Int) (s : (List (List Nat))) (x : Int) : (List (List Nat)) :=
  let v_law_steps4 : (List (List Nat)) := s
  let v_law_k1 : Int := x
  cond (decide ((ixD v_law_places v_law_k1) = v_law_many3))
    (let v_law_steps5 : (List (List Nat)) := (v_law_steps4 ++ [(([45] : List Nat) ++ [48 + (ixD v_law_locks v_law_k1).toNat])])
    v_law_steps5)
    (v_law_steps4)
def m_law_due_s1 (v_law_locks : (List Int)) (v_law_places : (List Int)) (s : ((List (List Nat)) × Int)) (x : Int) : ((List (List Nat)) × Int) :=
  let v_law_steps2 : (List (List Nat)) := s.1
  let v_law_many2 : Int := s.2
  let v_law_item1 : Int := x
  let v_law_steps3 : (List (List Nat)) := (v_law_steps2 ++ [(([43] : List Nat) ++ [48 + v_law_item1.toNat])])
  let v_law_many3 : Int := (v_law_many2 + (1 : Int))
  let s_3 : (List (List Nat)) := (rng (v_law_locks.length : Int)).foldl (m_law_due_s2 v_law_locks v_law_places v_law_many3) v_law_steps3
  (s_3, v_law_many3)
def m_law_due (v_law_locks : (List Int)) (v_law_places : (List Int)) : (List (List Nat)) :=
  let v_law_steps1 : (List (List Nat)) := ([] : (List (List Nat)))
  let v_law_many1 : Int := (0 : Int)
  let s_4 : ((List (List Nat)) × Int) := v_law_locks.foldl (m_law_due_s1 v_law_locks v_law_places) (v_law_steps1, v_law_many1)
  s_4.1
def pre_m_law_due (v_law_locks : (List Int)) (v_law_places : (List Int)) : Prop := v_law_locks.length ≤ 6 ∧ v_law_places.length = v_law_locks.length ∧ ∀ x ∈ v_law_locks, 0 ≤ x ∧ x < 10
theorem due2_len (l p : List Int) (m : Int) : ∀ (xs : List Int) (s : List (List Nat)), (xs.foldl (m_law_due_s2 l p m) s).length ≤ s.length + xs.length
  | [], s => Nat.le_refl _
  | x :: xs, s => by
    have h := due2_len l p m xs (m_law_due_s2 l p m s x)
    have h2 : (m_law_due_s2 l p m s x).length ≤ s.length + 1 := by
      by_cases c : ixD p x = m <;> simp [m_law_due_s2, c]
    rw [List.foldl_cons, List.length_cons]; omega
theorem due1_inv (l p : List Int) (s : List (List Nat) × Int) (x : Int) (n : Nat) (hl : l.length ≤ 6) (h : s.1.length + 7 * (n + 1) ≤ 42) : (m_law_due_s1 l p s x).1.length + 7 * n ≤ 42 := by
  have h2 := due2_len l p (s.2 + 1) (rng (l.length : Int)) (s.1 ++ [[43] ++ [48 + x.toNat]])
  simp only [m_law_due_s1]
  rw [rng_len] at h2
  simp only [List.length_append, List.length_cons, List.length_nil] at h2
  refine Nat.le_trans (Nat.add_le_add_right h2 _) ?_
  omega
def m_law_s1 (v_law_locks1 : (List Int)) (v_law_numbers_here1 : (List Int)) (s : (List Int)) (x : Int) : (List Int) :=
  let v_law_places2 : (List Int) := s
  let v_law_k1 : Int := x
  let v_law_places3 : (List Int) := (v_law_places2 ++ [((v_law_k1 + (1 : Int)) + ((ixD v_law_numbers_here1 v_law_k1) % ((v_law_locks1.length : Int) - v_law_k1)))])
  v_law_places3
def m_law (v_law_script : (List Int)) : Bool :=
  let v_law_plan1 : (List Int) := (m_law_numbers (m_law_cell v_law_script (0 : Int)) (1 : Int) (7 : Int))
  let v_law_locks1 : (List Int) := (cutL (m_law_shuffled (rng (6 : Int)) (m_law_numbers (m_law_cell v_law_script (1 : Int)) (6 : Int) (60 : Int))) none (some (ixD v_law_plan1 (0 : Int))))
  let v_law_numbers_here1 : (List Int) := (m_law_numbers (m_law_cell v_law_script (2 : Int)) (6 : Int) (60 : Int))
  let v_law_places1 : (List Int) := ([] : (List Int))
  let s_2 : (List Int) := (rng (v_law_locks1.length : Int)).foldl (m_law_s1 v_law_locks1 v_law_numbers_here1) v_law_places1
  let v_law_given1 : (List Int) := v_law_locks1
  let v_law_told1 : (List (List Nat)) := (m_with_releases v_law_given1 s_2)
  cond ((!decide (v_law_given1 = v_law_locks1)) || (!(decide (v_law_told1 = (m_law_due v_law_locks1 s_2)))))
    (false)
    (let v_law_told2 : (List (List Nat)) := ([] : (List (List Nat)))
    (decide ((m_with_releases v_law_given1 s_2) = (m_law_due v_law_locks1 s_2))))
def pre_m_law (v_law_script : (List Int)) : Prop := v_law_script.length ≤ 63
end Zk27
namespace Zk27
open PySem L2 LK PyProof.Rows PySem.Spec
/-- what is released behind the lock of the number n -/
def rel (l p : List Int) (n : Int) (xs : List Int) : List (List Nat) := (xs.filter fun k => decide (ixD p k = n)).map fun k => ([45] : List Nat) ++ [48 + (ixD l k).toNat]
theorem due2_eq (l p : List Int) (n : Int) : ∀ (xs : List Int) (s : List (List Nat)), xs.foldl (m_law_due_s2 l p n) s = s ++ rel l p n xs
  | [], s => by simp [rel]
  | x :: xs, s => by
    rw [List.foldl_cons, due2_eq l p n xs]
    by_cases h : ixD p x = n <;> simp [m_law_due_s2, rel, h]
theorem rel_none (l p : List Int) (n : Int) (xs : List Int) (h : ∀ k ∈ xs, ixD p k ≠ n) : rel l p n xs = [] := by
  unfold rel
  rw [List.filter_eq_nil_iff.mpr (fun k hk => by simp [h k hk])]; rfl
theorem rng_split (a b : Int) (h0 : 0 ≤ a) (h : a ≤ b) : rng b = rng a ++ rng2 a b := by
  unfold rng rng2
  obtain ⟨m, rfl⟩ : ∃ m : Nat, a = m := ⟨a.toNat, by omega⟩
  obtain ⟨n, rfl⟩ : ∃ n : Nat, b = (m : Int) + n := ⟨(b - m).toNat, by omega⟩
  have e1 : (((m : Int) + n) - 0).toNat = m + n := by omega
  have e2 : ((m : Int) - 0).toNat = m := by omega
  have e3 : (((m : Int) + n) - m).toNat = n := by omega
  rw [e1, e2, e3, List.range_add, List.map_append, List.map_map]
  congr 1
  refine List.map_congr_left fun k _ => ?_
  simp
theorem rel_cut (l p : List Int) (n N : Int) (hn : 0 ≤ n) (h : n ≤ N) (hp : ∀ k, 0 ≤ k → k < N → k + 1 ≤ ixD p k) : rel l p n (rng N) = rel l p n (rng n) := by
  rw [rng_split n N hn h]
  have e : rel l p n (rng2 n N) = [] := rel_none l p n _ fun k hk => by
    have := mem_rng2 hk
    have := hp k (by omega) (by omega)
    omega
  unfold rel at e ⊢
  rw [List.filter_append, List.map_append, e, List.append_nil]
theorem due_eq (l p : List Int) (hp : ∀ k, 0 ≤ k → k < (l.length : Int) → k + 1 ≤ ixD p k) : ∀ (ys done : List Int) (s : List (List Nat)), done ++ ys = l →
    (ys.foldl (m_law_due_s1 l p) (s, (done.length : Int))).1 = ((rng2 ((done.length : Int) + 1) ((l.length : Int) + 1)).foldl (m_with_releases_s1 l p) s)
  | [], done, s, e => by
    rw [List.append_nil] at e; subst e
    have : rng2 ((done.length : Int) + 1) ((done.length : Int) + 1) = [] := by unfold rng2; simp
    rw [this]; rfl
  | y :: ys, done, s, e => by
    have hl : l.length = done.length + (ys.length + 1) := by rw [← e]; simp
    have e2 : rng2 ((done.length : Int) + 1) ((l.length : Int) + 1) = ((done.length : Int) + 1) :: rng2 (((done ++ [y]).length : Int) + 1) ((l.length : Int) + 1) := by
      unfold rng2
      have a1 : (((l.length : Int) + 1) - ((done.length : Int) + 1)).toNat = ys.length + 1 := by omega
      have a2 : (((l.length : Int) + 1) - (((done ++ [y]).length : Int) + 1)).toNat = ys.length := by rw [List.length_append, List.length_singleton]; omega
      rw [a1, a2, List.range_succ_eq_map, List.map_cons, List.map_map]
      congr 1
      refine List.map_congr_left fun k _ => ?_
      rw [List.length_append, List.length_singleton]
      show _ + 1 + ((k + 1 : Nat) : Int) = _
      omega
    have e3 : ixD l (((done.length : Int) + 1) - 1) = y := by
      have : ((done.length : Int) + 1) - 1 = (done.length : Nat) := by omega
      rw [this, ixD_nat, ← e]
      simp
    have e4 : m_law_due_s1 l p (s, (done.length : Int)) y = (m_with_releases_s1 l p s ((done.length : Int) + 1), ((done ++ [y]).length : Int)) := by
      unfold m_law_due_s1
      simp only [due2_eq]
      rw [rel_cut l p ((done.length : Int) + 1) (l.length : Int) (by omega) (by omega) hp]
      unfold m_with_releases_s1
      simp only [e3]
      rw [List.length_append, List.length_singleton]
      rfl
    rw [e2, List.foldl_cons, List.foldl_cons, e4]
    exact due_eq l p hp ys (done ++ [y]) _ (by rw [List.append_assoc]; exact e)
theorem same_steps (l p : List Int) (hp : ∀ k, 0 ≤ k → k < (l.length : Int) → k + 1 ≤ ixD p k) : m_with_releases l p = m_law_due l p := by
  have h := due_eq l p hp l [] [] rfl
  unfold m_with_releases m_law_due
  simp only
  rw [show ((0 : Int)) = (([] : List Int).length : Int) from rfl, h]
  rfl
theorem places_eq (l n : List Int) : ∀ (xs : List Int) (s : List Int), xs.foldl (m_law_s1 l n) s = s ++ xs.map fun k => (k + 1) + (ixD n k % ((l.length : Int) - k))
  | [], s => by simp
  | x :: xs, s => by
    rw [List.foldl_cons, places_eq l n xs]
    simp [m_law_s1]
theorem places_ok (l n : List Int) (k : Int) (h0 : 0 ≤ k) (h : k < (l.length : Int)) : k + 1 ≤ ixD ((rng (l.length : Int)).foldl (m_law_s1 l n) []) k := by
  rw [places_eq, List.nil_append]
  obtain ⟨j, rfl⟩ : ∃ j : Nat, k = j := ⟨k.toNat, by omega⟩
  have e : ixD ((rng (l.length : Int)).map fun k => (k + 1) + (ixD n k % ((l.length : Int) - k))) (j : Int) = ((j : Int) + 1) + (ixD n j % ((l.length : Int) - j)) := by
    rw [ixD_nat, List.getD_eq_getElem?_getD, List.getElem?_map]
    unfold rng
    rw [rng2_get (by omega)]
    simp
  rw [e]
  have := Int.emod_nonneg (ixD n j) (show (l.length : Int) - j ≠ 0 by omega)
  omega
theorem law_true : ∀ ns : List Int, ns.length ≤ 63 → m_law ns = true := by
  intro ns _
  unfold m_law
  simp only [same_steps _ _ (places_ok _ _)]
  simp
end Zk27
namespace Zk27
open PySem L2 LK PyProof.Rows PySem.Spec
local macro_rules | `(tactic| walk_at "ob") => `(tactic| (first | assumption | omega | (dsimp only; omega) | (simp only [ixOk, rng_len, rng2_len, enumL_len, List.length_map, List.length_append, List.length_cons, List.length_nil, List.length_set, List.length_replicate, Int.toNat_natCast] <;> omega) | ((try dsimp only at *); (try simp only [ixOk, rng_len, rng2_len, enumL_len, List.length_map, List.length_append, List.length_cons, List.length_nil, List.length_set, List.length_replicate, Int.toNat_natCast] at *) <;> omega) | (subst_vars; (try simp only [ixOk, rng_len, rng2_len, enumL_len, List.length_map, List.length_append, List.length_cons, List.length_nil, List.length_set, List.length_replicate, Int.toNat_natCast] at *) <;> omega) | (subst_vars; simp [ixOk, rng_len] at *; omega) | decide))
local macro_rules | `(tactic| walk_at "lw") => `(tactic| (repeat (first | exact lw_nil | refine lw_no ?_ | refine lw_eq rfl ?_)))
def top (i : Nat) : Stmt := PySem.Challenge.pw_lockrules_k27_programs_of_released_locks.main.body.getD i (.Pass ⟨0, 0, 0, 0⟩)
structure Bt (mg : Str → Option Value) : Prop where
  z_range : mg "range" = none
  z_len : mg "len" = none
  z_str : mg "str" = none
  z_int : mg "int" = none
  z_isinstance : mg "isinstance" = none
  z_bool : mg "bool" = none
  z_list : mg "list" = none
  z_tuple : mg "tuple" = none
section
variable {P : Program} {w : World} {K : PySem.W.Frag} {mg : Str → Option Value} {base : Heap}
abbrev st_m_with_releases : Stmt := top 1
theorem sc_m_with_releases : FnScope ["locks", "places", "steps", "many", "index"] ["locks", "places"] (defScope st_m_with_releases) := ⟨rfl, rfl, rfl, by decide +kernel, rfl, by decide +kernel, by decide +kernel⟩
set_option maxHeartbeats 4000000 in
theorem ok_m_with_releases (B : Bt mg) {fa : Addr} {fd : FuncData} (Fn : Fun K "with_releases" "with_releases" st_m_with_releases fa fd) : FnOk P w K mg base CX0 1 fa fd ["locks", "places"] (spN (Pt.cons .sh (rLst rInt) inferInstance (Pt.cons .sh (rTup rInt) inferInstance Pt.nil)) (fun (a : ((List Int) × (List Int) × Unit)) => pre_m_with_releases a.1 a.2.1) (fun (a : ((List Int) × (List Int) × Unit)) => m_with_releases a.1 a.2.1) rTx) := by
  refine ok_N 3 Fn sc_m_with_releases rfl rfl (fun cdv A outer s0 H E0_ hr => ⟨_, (pss_cons (ps_set (i := 2) sc_m_with_releases.nd rfl (.inl rfl) (pe_lst pa_nil)) (pss_cons (ps_for PassesOwn.never rfl (pi_range2 (by rfl) B.z_range (pa_cons pe_int (pa_cons (pe_op op_add (pe_callB (kLen K) (by rfl) B.z_len PySem.boot_len (pa_cons (pv 0) pa_nil)) pe_int) pa_nil))) (pg_name (i := 3) sc_m_with_releases.nd rfl (.inr rfl)) (pss_cons (ps_expr (pe_bm PySem.F.plainAttrs_list PySem.F.slot_list_append PySem.F.type_list_append mt_append (pv 2) (pa_cons (pe_op op_add_str pe_str (pe_callTy call_str_int (by rfl) B.z_str (by decide +kernel) (pa_cons (pe_ix (kIxL K) (pv 0) (pe_op op_sub (pv 3) pe_int) (fun _ _ => rfl)) pa_nil))) pa_nil))) (pss_one (ps_expr (pe_bm PySem.F.plainAttrs_list PySem.F.slot_list_extend PySem.F.type_list_extend mt_extend (pv 2) (pa_cons (pe_lc (own := [("index", 4)]) rfl sc_m_with_releases.nd (pi_range1 (by rfl) B.z_range (pa_cons (pv 3) pa_nil)) (blkOk_by (own := [("index", 4)]) (N := ["locks", "places", "steps", "many", "index"]) (sc := defScope st_m_with_releases) (by decide +kernel)) (fun _ _ _ _ _ => (pg_name (i := 4) sc_m_with_releases.nd rfl (.inl rfl))) (fun _ _ _ _ _ => pts_one (pt_cmpR op_eq (pe_ix (kIxU K) (pv 1) (pv 4) (fun _ _ => rfl)) (pv 3) (nomark _))) (fun _ _ _ _ _ => (pe_op op_add_str pe_str (pe_callTy call_str_int (by rfl) B.z_str (by decide +kernel) (pa_cons (pe_ix (kIxL K) (pv 0) (pv 4) (fun _ _ => rfl)) pa_nil))))) pa_nil)))))) (pss_one (ps_ret (pv 2))))), fun F a nx rt bk ct_ hp hq hnx => ?_⟩)
  obtain ⟨v_locks, v_places, ⟨⟩⟩ := a
  have hp : pre_m_with_releases v_locks v_places := hp
  unfold pre_m_with_releases at hp
  refine gk_cast (G' := [(sF (rLst rInt) v_locks), (sF (rTup rInt) v_places), .no, .no, .no]) rfl ?_
  refine gk_lnF 0 rfl (fun hl1 => ?_)
  refine gk_lnF 1 rfl (fun hl2 => ?_)
  refine gk_seq (gk_asgN (i := 2) (en_lst (r := rTx) el_nil (by decide)) (fun v_steps1 h_v_steps1 => ?_))
  replace h_v_steps1 : v_steps1 = ([] : (List (List Nat))) := h_v_steps1
  refine gk_lnO 2 rfl (fun hl3 => ?_)
  refine gk_seq (gk_fold (S := (List (List Nat))) (m_with_releases_s1 v_locks v_places) (fun rest s => s.length + 7 * rest.length ≤ 42) (fun s G => ((G.set 3 .no).set 2 (sL rTx s))) v_steps1 (ei_rng2 (ed_int (m := .sh)) (ed_add (m := .sh) (ed_lenL (m := .sh) (ed_v (i := 0) rfl)) (ed_int (m := .sh))) (by walk_at "ob" /- 1 -/) (by walk_at "ob" /- 2 -/) (by walk_at "ob" /- 3 -/)) eg_name (by walk_at "lw") (by walk_at "ob") (fun F1 b1 v_many1 rest1 v_steps2 hx1 hi1 => ?_) (fun s_2 hs1 hs1I => ?_))
  · have hx1 : v_many1 ∈ (rng2 (1 : Int) ((v_locks.length : Int) + (1 : Int))) := hx1
    have hx1m := mem_rng2 hx1
    refine gk_lnO 2 rfl (fun hl4 => ?_)
    refine gk_seq (gk_appv (i := 2) rfl (ed_cat (m := .sh) (ed_tx (m := .sh) (a := [43]) (by decide +kernel) (by decide)) (ed_strI (m := .sh) (ed_ixL (ed_v (i := 0) rfl) (ed_sub (m := .sh) (ed_v (i := 3) rfl) (ed_int (m := .sh))) (by walk_at "ob" /- 4 -/)) (by exact (ixb hp.2.2 ⟨by omega, by omega⟩).1) (by exact (ixb hp.2.2 ⟨by omega, by omega⟩).2)) (by walk_at "ob" /- 7 -/)) (by have h := hi1; simp only [List.length_cons] at h; omega) (fun v_steps3 h_v_steps3 => ?_))
    refine (gk_extv (i := 2) rfl (En.ed (en_lc (vs := [4]) (fun x2 => (decide ((ixD v_places x2) = v_many1))) (fun x2 => (([45] : List Nat) ++ [48 + (ixD v_locks x2).toNat])) (ei_rng1 (ed_v (i := 3) rfl) (by walk_at "ob" /- 9 -/) (by walk_at "ob" /- 10 -/)) eg_name (by decide) (fun _ _ x2 hx2 => have hx2 : x2 ∈ (rng v_many1) := hx2; have hx2m := mem_rng hx2; (et_T (ed_eq (m := .sh) (ed_ixU (ed_v (i := 1) rfl) (ed_v (i := 4) rfl) (by walk_at "ob" /- 11 -/)) (ed_v (i := 3) rfl)))) (fun _ _ x2 hx2 hp1 => have hx2 : x2 ∈ (rng v_many1) := hx2; have hx2m := mem_rng hx2; (ed_cat (m := .sh) (ed_tx (m := .sh) (a := [45]) (by decide +kernel) (by decide)) (ed_strI (m := .sh) (ed_ixL (ed_v (i := 0) rfl) (ed_v (i := 4) rfl) (by walk_at "ob" /- 12 -/)) (by exact (ixb hp.2.2 ⟨by omega, by omega⟩).1) (by exact (ixb hp.2.2 ⟨by omega, by omega⟩).2)) (by walk_at "ob" /- 15 -/))))) (by have h := wr_inv v_locks v_places v_steps2 v_many1 _ (by omega) hi1; simp only [m_with_releases_s1, List.length_append, List.length_map, List.length_cons, List.length_nil] at h; rw [h_v_steps3]; simp only [List.length_append, List.length_map, List.length_cons, List.length_nil]; omega) (fun v_steps4 h_v_steps4 => ?_))
    exact gk_turnL (s' := v_steps4) (by walk_at "lw") (by subst_vars; exact rfl) (wr_inv _ _ _ _ _ (by omega) hi1)
  · refine gk_lnO 2 rfl (fun hl5 => ?_)
    exact gk_retO (i := 2) hq rfl (by subst_vars; exact ((rfl).symm.trans rfl))
abbrev st_m_law_cell : Stmt := top 3
theorem sc_m_law_cell : FnScope ["_law_script", "_law_k"] ["_law_script", "_law_k"] (defScope st_m_law_cell) := ⟨rfl, rfl, rfl, by decide +kernel, rfl, by decide +kernel, by decide +kernel⟩
set_option maxHeartbeats 4000000 in
theorem ok_m_law_cell (B : Bt mg) {fa : Addr} {fd : FuncData} (Fn : Fun K "_law_cell" "_law_cell" st_m_law_cell fa fd) : FnOk P w K mg base CX0 1 fa fd ["_law_script", "_law_k"] (spV (Pt.cons .bo (rScr K) inferInstance (Pt.cons .sh rInt inferInstance Pt.nil)) (fun (a : ((List Int) × Int × Unit)) => pre_m_law_cell a.1 a.2.1) (fun (a : ((List Int) × Int × Unit)) => m_law_cell a.1 a.2.1) rInt) := by
  refine ok_V 0 Fn sc_m_law_cell rfl rfl (fun cdv A outer s0 H E0_ hr => ⟨_, (pss_cons (ps_if (pt_cmpR op_lt (pv 1) (pe_callB (kLen K) (by rfl) B.z_len PySem.boot_len (pa_cons (pv 0) pa_nil)) (nomark _)) (pss_one (ps_ret (pe_ix (kIxL K) (pv 0) (pv 1) (fun _ _ => rfl)))) pss_nil) (pss_one (ps_ret pe_int))), fun F a nx rt bk ct_ hp hq hnx => ?_⟩)
  obtain ⟨v_law_script, v_law_k, ⟨⟩⟩ := a
  have hp : pre_m_law_cell v_law_script v_law_k := hp
  unfold pre_m_law_cell at hp
  refine gk_cast (G' := [(sB (rScr K) v_law_script), (sF rInt v_law_k)]) rfl ?_
  refine gk_seq (gk_if (et_T (ed_lt (m := .sh) (ed_v (i := 1) rfl) (ed_lenS (m := .sh) (ed_b (i := 0) rfl)))) (fun h_t1 => ?_) (fun h_t1 => ?_))
  · exact gk_ret hq (ed_ixS (m := .sh) (ed_b (i := 0) rfl) (ed_v (i := 1) rfl) (by walk_at "ob" /- 1 -/)) (by subst_vars; exact (((ct h_t1 rfl)).symm.trans rfl))
  · refine gk_next ?_
    exact gk_ret hq (ed_int (m := .sh)) (by subst_vars; exact (((cf h_t1 rfl)).symm.trans rfl))
abbrev st_m_law_numbers : Stmt := top 4
theorem sc_m_law_numbers : FnScope ["_law_cell_here", "_law_many", "_law_limit", "_law_left", "_law_mixed", "_law_row", "_law_k"] ["_law_cell_here", "_law_many", "_law_limit"] (defScope st_m_law_numbers) := ⟨rfl, rfl, rfl, by decide +kernel, rfl, by decide +kernel, by decide +kernel⟩
set_option maxHeartbeats 4000000 in
theorem ok_m_law_numbers (B : Bt mg) {fa : Addr} {fd : FuncData} (Fn : Fun K "_law_numbers" "_law_numbers" st_m_law_numbers fa fd) : FnOk P w K mg base CX0 1 fa fd ["_law_cell_here", "_law_many", "_law_limit"] (spN (Pt.cons .sh rInt inferInstance (Pt.cons .sh rInt inferInstance (Pt.cons .sh rInt inferInstance Pt.nil))) (fun (a : (Int × Int × Int × Unit)) => pre_m_law_numbers a.1 a.2.1 a.2.2.1) (fun (a : (Int × Int × Int × Unit)) => m_law_numbers a.1 a.2.1 a.2.2.1) rInt) := by
  refine ok_N 4 Fn sc_m_law_numbers rfl rfl (fun cdv A outer s0 H E0_ hr => ⟨_, (pss_cons (ps_set (i := 3) sc_m_law_numbers.nd rfl (.inl rfl) pe_int) (pss_cons (ps_if (pt_cmpR op_ge (pv 0) (pe_op op_pow pe_int pe_int) (nomark _)) (pss_one (ps_set (i := 3) sc_m_law_numbers.nd rfl (.inl rfl) (pe_op op_sub (pv 0) (pe_op op_pow pe_int pe_int)))) pss_nil) (pss_cons (ps_set (i := 4) sc_m_law_numbers.nd rfl (.inl rfl) (pe_op op_mod (pe_callTy call_int1 (by rfl) B.z_int (by decide +kernel) (pa_cons (pv 0) pa_nil)) pe_int)) (pss_cons (ps_set (i := 5) sc_m_law_numbers.nd rfl (.inl rfl) (pe_lst pa_nil)) (pss_cons (ps_for PassesOwn.never rfl (pi_range1 (by rfl) B.z_range (pa_cons (pv 1) pa_nil)) (pg_name (i := 6) sc_m_law_numbers.nd rfl (.inl rfl)) (pss_cons (ps_set (i := 4) sc_m_law_numbers.nd rfl (.inl rfl) (pe_op op_mod (pe_callTy call_int1 (by rfl) B.z_int (by decide +kernel) (pa_cons (pe_op op_add (pe_op op_add (pe_op op_mul (pv 4) pe_int) (pe_op op_mul pe_int (pv 6))) pe_int) pa_nil)) pe_int)) (pss_one (ps_if (pt_cmpR op_gt (pv 3) pe_int (nomark _)) (pss_cons (ps_expr (pe_bm PySem.F.plainAttrs_list PySem.F.slot_list_append PySem.F.type_list_append mt_append (pv 5) (pa_cons (pe_op op_mod (pe_callTy call_int1 (by rfl) B.z_int (by decide +kernel) (pa_cons (pv 3) pa_nil)) (pv 2)) pa_nil))) (pss_one (ps_set (i := 3) sc_m_law_numbers.nd rfl (.inl rfl) (pe_op op_fdiv (pv 3) (pv 2))))) (pss_one (ps_expr (pe_bm PySem.F.plainAttrs_list PySem.F.slot_list_append PySem.F.type_list_append mt_append (pv 5) (pa_cons (pe_op op_mod (pe_op op_fdiv (pv 4) pe_int) (pv 2)) pa_nil)))))))) (pss_one (ps_ret (pv 5)))))))), fun F a nx rt bk ct_ hp hq hnx => ?_⟩)
  obtain ⟨v_law_cell_here, v_law_many, v_law_limit, ⟨⟩⟩ := a
  have hp : pre_m_law_numbers v_law_cell_here v_law_many v_law_limit := hp
  unfold pre_m_law_numbers at hp
  refine gk_cast (G' := [(sF rInt v_law_cell_here), (sF rInt v_law_many), (sF rInt v_law_limit), .no, .no, .no, .no]) rfl ?_
  refine gk_seq (gk_asg (i := 3) (ed_int (m := .sh)) (fun v_law_left1 h_v_law_left1 => ?_))
  replace h_v_law_left1 : v_law_left1 = (0 : Int) := h_v_law_left1
  refine gk_seq (gk_join (S := Int) (fun s G => (G.set 3 (sF rInt s))) (cond (decide (((10 : Int) ^ (18 : Int).toNat) ≤ v_law_cell_here))
    (let v_law_left2 : Int := (v_law_cell_here - ((10 : Int) ^ (18 : Int).toNat))
    v_law_left2)
    (v_law_left1)) (et_T (ed_ge (m := .sh) (ed_v (i := 0) rfl) (ed_pow (m := .sh) (ed_int (m := .sh)) (ed_int (m := .sh)) (by walk_at "ob" /- 1 -/)))) (fun s_1 h_s_1 => ?_) (fun h_t1 kj1 => ?_) (fun h_t1 kj1 => ?_))
  · refine gk_seq (gk_asg (i := 4) (ed_mod (m := .sh) (ed_intI (m := .sh) (ed_v (i := 0) rfl)) (ed_int (m := .sh)) (by walk_at "ob" /- 3 -/)) (fun v_law_mixed1 h_v_law_mixed1 => ?_))
    replace h_v_law_mixed1 : v_law_mixed1 = (v_law_cell_here % (2147483647 : Int)) := h_v_law_mixed1
    refine gk_seq (gk_asgN (i := 5) (en_lst (r := rInt) el_nil (by decide)) (fun v_law_row1 h_v_law_row1 => ?_))
    replace h_v_law_row1 : v_law_row1 = ([] : (List Int)) := h_v_law_row1
    refine gk_lnO 5 rfl (fun hl1 => ?_)
    refine gk_seq (gk_fold (S := (Int × (List Int) × Int)) (m_law_numbers_s1 v_law_limit) (fun rest s => s.2.1.length + 2 * rest.length ≤ 1000000) (fun s G => ((((G.set 6 .no).set 4 (sF rInt s.1)).set 5 (sL rInt s.2.1)).set 3 (sF rInt s.2.2))) (v_law_mixed1, v_law_row1, s_1) (ei_rng1 (ed_v (i := 1) rfl) (by walk_at "ob" /- 4 -/) (by walk_at "ob" /- 5 -/)) eg_name (by walk_at "lw") (by walk_at "ob") (fun F1 b1 v_law_k1 rest1 s_2 hx1 hi1 => ?_) (fun s_3 hs1 hs1I => ?_))
    · obtain ⟨v_law_mixed2, v_law_row2, v_law_left3⟩ := s_2
      have hx1 : v_law_k1 ∈ (rng v_law_many) := hx1
      have hx1m := mem_rng hx1
      refine gk_lnO 5 rfl (fun hl2 => ?_)
      refine gk_seq (gk_asg (i := 4) (ed_mod (m := .sh) (ed_intI (m := .sh) (ed_add (m := .sh) (ed_add (m := .sh) (ed_mul (m := .sh) (ed_v (i := 4) rfl) (ed_int (m := .sh)) (by walk_at "ob" /- 6 -/)) (ed_mul (m := .sh) (ed_int (m := .sh)) (ed_v (i := 6) rfl) (by walk_at "ob" /- 7 -/))) (ed_int (m := .sh)))) (ed_int (m := .sh)) (by walk_at "ob" /- 8 -/)) (fun v_law_mixed3 h_v_law_mixed3 => ?_))
      replace h_v_law_mixed3 : v_law_mixed3 = ((((v_law_mixed2 * (48271 : Int)) + ((10007 : Int) * v_law_k1)) + (12345 : Int)) % (2147483647 : Int)) := h_v_law_mixed3
      refine (gk_if (et_T (ed_gt (m := .sh) (ed_v (i := 3) rfl) (ed_int (m := .sh)))) (fun h_t2 => ?_) (fun h_t2 => ?_))
      · refine gk_seq (gk_appv (i := 5) rfl (ed_mod (m := .sh) (ed_intI (m := .sh) (ed_v (i := 3) rfl)) (ed_v (i := 2) rfl) (by walk_at "ob" /- 9 -/)) (by walk_at "ob" /- 10 -/) (fun v_law_row3 h_v_law_row3 => ?_))
        refine (gk_asg (i := 3) (ed_div (m := .sh) (ed_v (i := 3) rfl) (ed_v (i := 2) rfl) (by walk_at "ob" /- 11 -/)) (fun v_law_left4 h_v_law_left4 => ?_))
        replace h_v_law_left4 : v_law_left4 = (v_law_left3 / v_law_limit) := h_v_law_left4
        exact gk_turn (s' := (v_law_mixed3, v_law_row3, v_law_left4)) (by walk_at "lw") (by subst_vars; exact (ct h_t2 rfl)) (by walk_at "ob")
      · refine (gk_appv (i := 5) rfl (ed_mod (m := .sh) (ed_div (m := .sh) (ed_v (i := 4) rfl) (ed_int (m := .sh)) (by walk_at "ob" /- 12 -/)) (ed_v (i := 2) rfl) (by walk_at "ob" /- 13 -/)) (by walk_at "ob" /- 14 -/) (fun v_law_row4 h_v_law_row4 => ?_))
        exact gk_turn (s' := (v_law_mixed3, v_law_row4, v_law_left3)) (by walk_at "lw") (by subst_vars; exact (cf h_t2 rfl)) (by walk_at "ob")
    · refine gk_lnO 5 rfl (fun hl3 => ?_)
      exact gk_retO (i := 5) hq rfl (by subst_vars; exact ((rfl).symm.trans rfl))
  · refine (gk_asg (i := 3) (ed_sub (m := .sh) (ed_v (i := 0) rfl) (ed_pow (m := .sh) (ed_int (m := .sh)) (ed_int (m := .sh)) (by walk_at "ob" /- 2 -/))) (fun v_law_left2 h_v_law_left2 => ?_))
    replace h_v_law_left2 : v_law_left2 = (v_law_cell_here - ((10 : Int) ^ (18 : Int).toNat)) := h_v_law_left2
    exact gk_weak (by walk_at "lw") (kj1 v_law_left2 (by subst_vars; exact ((ct h_t1 rfl)).symm))
  · refine gk_next ?_
    exact gk_weak (by walk_at "lw") (kj1 v_law_left1 (by subst_vars; exact ((cf h_t1 rfl)).symm))
abbrev st_same : Stmt := top 5
theorem sc_same : FnScope ["_law_actual", "_law_due_here", "_law_k"] ["_law_actual", "_law_due_here"] (defScope st_same) := ⟨rfl, rfl, rfl, by decide +kernel, rfl, by decide +kernel, by decide +kernel⟩
theorem ok_same0 (B : Bt mg) {fa : Addr} {fd : FuncData} (Fn : Fun K "_law_same" "_law_same" st_same fa fd) : FnOk P w K mg base CX0 1 fa fd ["_law_actual", "_law_due_here"] (spSame 0) := by
  refine ok_V 1 Fn sc_same rfl rfl (fun cdv A outer s0 H E0_ hr => ⟨_, (pss_cons (ps_if (pt_cmp (pc_isN (pv 1)) rfl) (pss_one (ps_ret (pe_cmp (pc_isN (pv 0)) rfl))) pss_nil) (pss_cons (ps_if (pt_val (pe_callB call_isi (by rfl) B.z_isinstance boot_isinstance (pa_cons (pv 1) (pa_cons (pe_bltn (v := .ty "bool") (by rfl) B.z_bool PyProof.Rows.boot_bool rfl) pa_nil)))) (pss_one (ps_ret (pe_and (pe_callB call_isi (by rfl) B.z_isinstance boot_isinstance (pa_cons (pv 0) (pa_cons (pe_bltn (v := .ty "bool") (by rfl) B.z_bool PyProof.Rows.boot_bool rfl) pa_nil))) (pe_one (pe_cmpR op_eq (pv 0) (pv 1) (nomark _)))))) pss_nil) (pss_cons (ps_if (pt_val (pe_callB call_isi (by rfl) B.z_isinstance boot_isinstance (pa_cons (pv 1) (pa_cons (pe_bltn (v := .ty "int") (by rfl) B.z_int PyProof.Rows.boot_int rfl) pa_nil)))) (pss_one (ps_ret (pe_and (pe_callB call_isi (by rfl) B.z_isinstance boot_isinstance (pa_cons (pv 0) (pa_cons (pe_bltn (v := .ty "int") (by rfl) B.z_int PyProof.Rows.boot_int rfl) pa_nil))) (pe_and (pe_not (pe_callB call_isi (by rfl) B.z_isinstance boot_isinstance (pa_cons (pv 0) (pa_cons (pe_bltn (v := .ty "bool") (by rfl) B.z_bool PyProof.Rows.boot_bool rfl) pa_nil)))) (pe_one (pe_cmpR op_eq (pv 0) (pv 1) (nomark _))))))) pss_nil) (pss_cons (ps_if (pt_val (pe_callB call_isi (by rfl) B.z_isinstance boot_isinstance (pa_cons (pv 1) (pa_cons (pe_bltn (v := .ty "str") (by rfl) B.z_str PyProof.Rows.boot_str rfl) pa_nil)))) (pss_one (ps_ret (pe_and (pe_callB call_isi (by rfl) B.z_isinstance boot_isinstance (pa_cons (pv 0) (pa_cons (pe_bltn (v := .ty "str") (by rfl) B.z_str PyProof.Rows.boot_str rfl) pa_nil))) (pe_one (pe_cmpR op_eq (pv 0) (pv 1) (nomark _)))))) pss_nil) (pss_cons (ps_if (PW.pt (pw_and (pt_val (pe_callB call_isi (by rfl) B.z_isinstance boot_isinstance (pa_cons (pv 1) (pa_cons (pe_bltn (v := .ty "list") (by rfl) B.z_list PyProof.Rows.boot_list rfl) pa_nil)))) (pw_and1 (pt_not (pt_val (pe_callB call_isi (by rfl) B.z_isinstance boot_isinstance (pa_cons (pv 0) (pa_cons (pe_bltn (v := .ty "list") (by rfl) B.z_list PyProof.Rows.boot_list rfl) pa_nil)))))))) (pss_one (ps_ret pe_bl)) pss_nil) (pss_cons (ps_if (PW.pt (pw_and (pt_val (pe_callB call_isi (by rfl) B.z_isinstance boot_isinstance (pa_cons (pv 1) (pa_cons (pe_bltn (v := .ty "tuple") (by rfl) B.z_tuple PyProof.Rows.boot_tuple rfl) pa_nil)))) (pw_and1 (pt_not (pt_val (pe_callB call_isi (by rfl) B.z_isinstance boot_isinstance (pa_cons (pv 0) (pa_cons (pe_bltn (v := .ty "tuple") (by rfl) B.z_tuple PyProof.Rows.boot_tuple rfl) pa_nil)))))))) (pss_one (ps_ret pe_bl)) pss_nil) pss_never)))))), fun F a nx rt bk ct_ hp hq hnx => ?_⟩)
  obtain ⟨a, d, ⟨⟩⟩ := a
  have hp : d.dep ≤ 0 := hp
  refine gk_cast (G' := [.bw rDt inferInstance a, .bw rDt inferInstance d, .no]) rfl (same_lead (K := K) hq (fun h1 h2 _ => ?_))
  cases d <;> first | (simp only [Dt.dep] at hp; omega) | (cases h2)
theorem ok_sameS {n : Nat} (B : Bt mg) {fa : Addr} {fd : FuncData} (Fn : Fun K "_law_same" "_law_same" st_same fa fd) (C : Cal K mg "_law_same" fa fd ["_law_actual", "_law_due_here"]) (G : FnOk P w K mg base CX0 (n + 1) fa fd ["_law_actual", "_law_due_here"] (spSame n)) : FnOk P w K mg base CX0 (n + 2) fa fd ["_law_actual", "_law_due_here"] (spSame (n + 1)) := by
  refine ok_V 1 Fn sc_same rfl rfl (fun cdv A outer s0 H E0_ hr => ⟨_, (pss_cons (ps_if (pt_cmp (pc_isN (pv 1)) rfl) (pss_one (ps_ret (pe_cmp (pc_isN (pv 0)) rfl))) pss_nil) (pss_cons (ps_if (pt_val (pe_callB call_isi (by rfl) B.z_isinstance boot_isinstance (pa_cons (pv 1) (pa_cons (pe_bltn (v := .ty "bool") (by rfl) B.z_bool PyProof.Rows.boot_bool rfl) pa_nil)))) (pss_one (ps_ret (pe_and (pe_callB call_isi (by rfl) B.z_isinstance boot_isinstance (pa_cons (pv 0) (pa_cons (pe_bltn (v := .ty "bool") (by rfl) B.z_bool PyProof.Rows.boot_bool rfl) pa_nil))) (pe_one (pe_cmpR op_eq (pv 0) (pv 1) (nomark _)))))) pss_nil) (pss_cons (ps_if (pt_val (pe_callB call_isi (by rfl) B.z_isinstance boot_isinstance (pa_cons (pv 1) (pa_cons (pe_bltn (v := .ty "int") (by rfl) B.z_int PyProof.Rows.boot_int rfl) pa_nil)))) (pss_one (ps_ret (pe_and (pe_callB call_isi (by rfl) B.z_isinstance boot_isinstance (pa_cons (pv 0) (pa_cons (pe_bltn (v := .ty "int") (by rfl) B.z_int PyProof.Rows.boot_int rfl) pa_nil))) (pe_and (pe_not (pe_callB call_isi (by rfl) B.z_isinstance boot_isinstance (pa_cons (pv 0) (pa_cons (pe_bltn (v := .ty "bool") (by rfl) B.z_bool PyProof.Rows.boot_bool rfl) pa_nil)))) (pe_one (pe_cmpR op_eq (pv 0) (pv 1) (nomark _))))))) pss_nil) (pss_cons (ps_if (pt_val (pe_callB call_isi (by rfl) B.z_isinstance boot_isinstance (pa_cons (pv 1) (pa_cons (pe_bltn (v := .ty "str") (by rfl) B.z_str PyProof.Rows.boot_str rfl) pa_nil)))) (pss_one (ps_ret (pe_and (pe_callB call_isi (by rfl) B.z_isinstance boot_isinstance (pa_cons (pv 0) (pa_cons (pe_bltn (v := .ty "str") (by rfl) B.z_str PyProof.Rows.boot_str rfl) pa_nil))) (pe_one (pe_cmpR op_eq (pv 0) (pv 1) (nomark _)))))) pss_nil) (pss_cons (ps_if (PW.pt (pw_and (pt_val (pe_callB call_isi (by rfl) B.z_isinstance boot_isinstance (pa_cons (pv 1) (pa_cons (pe_bltn (v := .ty "list") (by rfl) B.z_list PyProof.Rows.boot_list rfl) pa_nil)))) (pw_and1 (pt_not (pt_val (pe_callB call_isi (by rfl) B.z_isinstance boot_isinstance (pa_cons (pv 0) (pa_cons (pe_bltn (v := .ty "list") (by rfl) B.z_list PyProof.Rows.boot_list rfl) pa_nil)))))))) (pss_one (ps_ret pe_bl)) pss_nil) (pss_cons (ps_if (PW.pt (pw_and (pt_val (pe_callB call_isi (by rfl) B.z_isinstance boot_isinstance (pa_cons (pv 1) (pa_cons (pe_bltn (v := .ty "tuple") (by rfl) B.z_tuple PyProof.Rows.boot_tuple rfl) pa_nil)))) (pw_and1 (pt_not (pt_val (pe_callB call_isi (by rfl) B.z_isinstance boot_isinstance (pa_cons (pv 0) (pa_cons (pe_bltn (v := .ty "tuple") (by rfl) B.z_tuple PyProof.Rows.boot_tuple rfl) pa_nil)))))))) (pss_one (ps_ret pe_bl)) pss_nil) (pss_cons (ps_if (pt_cmpR op_ne (pe_callB call_len_seq (by rfl) B.z_len PySem.boot_len (pa_cons (pv 0) pa_nil)) (pe_callB call_len_seq (by rfl) B.z_len PySem.boot_len (pa_cons (pv 1) pa_nil)) (nomark _)) (pss_one (ps_ret pe_bl)) pss_nil) (pss_cons (ps_for PassesOwn.never rfl (pi_range1 (by rfl) B.z_range (pa_cons (pe_callB call_len_seq (by rfl) B.z_len PySem.boot_len (pa_cons (pv 1) pa_nil)) pa_nil)) (pg_name (i := 2) sc_same.nd rfl (.inl rfl)) (pss_one (ps_if (pt_not (pt_val (w_call C G (hr) (pa_cons (pe_ix ix_seq (pv 0) (pv 2) (fun _ _ => rfl)) (pa_cons (pe_ix ix_seq (pv 1) (pv 2) (fun _ _ => rfl)) pa_nil))))) (pss_one (ps_ret pe_bl)) pss_nil))) (pss_one (ps_ret pe_bl)))))))))), fun F a nx rt bk ct_ hp hq hnx => ?_⟩)
  obtain ⟨a, d, ⟨⟩⟩ := a
  have hp : d.dep ≤ n + 1 := hp
  refine gk_cast (G' := [.bw rDt inferInstance a, .bw rDt inferInstance d, .no]) rfl (same_lead (K := K) hq (fun h1 h2 he => ?_))
  exact gk_sameR (K := K) hq h1 h2 he hp
theorem ok_same (B : Bt mg) {fa : Addr} {fd : FuncData} (Fn : Fun K "_law_same" "_law_same" st_same fa fd) (C : Cal K mg "_law_same" fa fd ["_law_actual", "_law_due_here"]) : ∀ n : Nat, FnOk P w K mg base CX0 (n + 1) fa fd ["_law_actual", "_law_due_here"] (spSame n)
  | 0 => ok_same0 B Fn
  | n + 1 => ok_sameS B Fn C (ok_same B Fn C n)

abbrev st_m_law_shuffled : Stmt := top 6
theorem sc_m_law_shuffled : FnScope ["_law_row", "_law_numbers_here", "_law_left", "_law_rows", "_law_number"] ["_law_row", "_law_numbers_here"] (defScope st_m_law_shuffled) := ⟨rfl, rfl, rfl, by decide +kernel, rfl, by decide +kernel, by decide +kernel⟩
set_option maxHeartbeats 4000000 in
theorem ok_m_law_shuffled (B : Bt mg) {fa : Addr} {fd : FuncData} (Fn : Fun K "_law_shuffled" "_law_shuffled" st_m_law_shuffled fa fd) : FnOk P w K mg base CX0 1 fa fd ["_law_row", "_law_numbers_here"] (spN (Pt.cons .sh (rLst rInt) inferInstance (Pt.cons .sh (rLst rInt) inferInstance Pt.nil)) (fun (a : ((List Int) × (List Int) × Unit)) => pre_m_law_shuffled a.1 a.2.1) (fun (a : ((List Int) × (List Int) × Unit)) => m_law_shuffled a.1 a.2.1) rInt) := by
  refine ok_N 3 Fn sc_m_law_shuffled rfl rfl (fun cdv A outer s0 H E0_ hr => ⟨_, (pss_cons (ps_set (i := 2) sc_m_law_shuffled.nd rfl (.inl rfl) (pe_callTy (kList K) (by rfl) B.z_list (by decide +kernel) (pa_cons (pv 0) pa_nil))) (pss_cons (ps_set (i := 3) sc_m_law_shuffled.nd rfl (.inl rfl) (pe_lst pa_nil)) (pss_cons (ps_for PassesOwn.never rfl (pi_list (pv 1)) (pg_name (i := 4) sc_m_law_shuffled.nd rfl (.inl rfl)) (pss_one (ps_if (pt_cmpR (kNeD K hr.units) (pv 2) (pe_lst pa_nil) (nomark _)) (pss_one (ps_expr (pe_bm PySem.F.plainAttrs_list PySem.F.slot_list_append PySem.F.type_list_append mt_append (pv 3) (pa_cons (pe_bm PySem.F.plainAttrs_list PySem.F.slot_list_pop PySem.F.type_list_pop mt_popAt (pv 2) (pa_cons (pe_op op_mod (pe_callTy call_int1 (by rfl) B.z_int (by decide +kernel) (pa_cons (pv 4) pa_nil)) (pe_callB (kLen K) (by rfl) B.z_len PySem.boot_len (pa_cons (pv 2) pa_nil))) pa_nil)) pa_nil)))) pss_nil))) (pss_one (ps_ret (pe_op op_cat (pv 3) (pv 2))))))), fun F a nx rt bk ct_ hp hq hnx => ?_⟩)
  obtain ⟨v_law_row, v_law_numbers_here, ⟨⟩⟩ := a
  have hp : pre_m_law_shuffled v_law_row v_law_numbers_here := hp
  unfold pre_m_law_shuffled at hp
  refine gk_cast (G' := [(sF (rLst rInt) v_law_row), (sF (rLst rInt) v_law_numbers_here), .no, .no, .no]) rfl ?_
  refine gk_lnF 0 rfl (fun hl1 => ?_)
  refine gk_lnF 1 rfl (fun hl2 => ?_)
  refine gk_seq (gk_asgN (i := 2) (en_list (ed_v (i := 0) rfl)) (fun v_law_left1 h_v_law_left1 => ?_))
  replace h_v_law_left1 : v_law_left1 = v_law_row := h_v_law_left1
  refine gk_lnO 2 rfl (fun hl3 => ?_)
  refine gk_seq (gk_asgN (i := 3) (en_lst (r := rInt) el_nil (by decide)) (fun v_law_rows1 h_v_law_rows1 => ?_))
  replace h_v_law_rows1 : v_law_rows1 = ([] : (List Int)) := h_v_law_rows1
  refine gk_lnO 3 rfl (fun hl4 => ?_)
  refine gk_seq (gk_fold (S := ((List Int) × (List Int))) m_law_shuffled_s1 (fun rest s => s.1.length + s.2.length = v_law_row.length) (fun s G => (((G.set 4 .no).set 3 (sL rInt s.1)).set 2 (sL rInt s.2))) (v_law_rows1, v_law_left1) (ei_list (ed_v (i := 1) rfl)) eg_name (by walk_at "lw") (by walk_at "ob") (fun F1 b1 v_law_number1 rest1 s_1 hx1 hi1 => ?_) (fun s_2 hs1 hs1I => ?_))
  · obtain ⟨v_law_rows2, v_law_left2⟩ := s_1
    have hx1 : v_law_number1 ∈ v_law_numbers_here := hx1
    refine gk_lnO 3 rfl (fun hl5 => ?_)
    refine gk_lnO 2 rfl (fun hl6 => ?_)
    refine (gk_if (et_T (ed_neQ (m := .sh) (ed_o (i := 2) rfl) (En.ed (en_lst (r := rInt) el_nil (by decide))))) (fun h_t1 => ?_) (fun h_t1 => ?_))
    · refine (gk_appm (i := 3) rfl rfl (edm_popAt (i := 2) rfl (ed_mod (m := .sh) (ed_intI (m := .sh) (ed_v (i := 4) rfl)) (ed_lenL (m := .sh) (ed_o (i := 2) rfl)) (by exact h_pos h_t1)) (by exact ⟨Int.emod_nonneg _ (Int.ne_of_gt (h_pos h_t1)), Int.emod_lt_of_pos _ (h_pos h_t1)⟩)) (by have h : v_law_rows2.length + v_law_left2.length = v_law_row.length := hi1; show v_law_rows2.length < _; omega) (fun v_law_rows3 h_v_law_rows3 => ?_))
      obtain ⟨v_law_left3, h_v_law_left3⟩ : ∃ z, z = (v_law_left2.eraseIdx (v_law_number1 % (v_law_left2.length : Int)).toNat) := ⟨_, rfl⟩
      rw [← h_v_law_left3]
      exact gk_turnL (s' := (v_law_rows3, v_law_left3)) (by walk_at "lw") (by subst_vars; exact (ct h_t1 rfl)) ((shuffled_inv _ _).1.trans hi1)
    · refine gk_next ?_
      exact gk_turnL (s' := (v_law_rows2, v_law_left2)) (by walk_at "lw") (by subst_vars; exact (cf h_t1 rfl)) ((shuffled_inv _ _).1.trans hi1)
  · refine gk_lnO 3 rfl (fun hl7 => ?_)
    refine gk_lnO 2 rfl (fun hl8 => ?_)
    refine gk_freeze 2 rfl ?_
    refine gk_freeze 3 rfl ?_
    exact gk_retN hq (en_catL (ed_v (i := 3) rfl) (ed_v (i := 2) rfl) (by walk_at "ob" /- 4 -/)) (by subst_vars; exact ((rfl).symm.trans rfl))
abbrev st_m_law_due : Stmt := top 7
theorem sc_m_law_due : FnScope ["_law_locks", "_law_places", "_law_steps", "_law_many", "_law_item", "_law_k"] ["_law_locks", "_law_places"] (defScope st_m_law_due) := ⟨rfl, rfl, rfl, by decide +kernel, rfl, by decide +kernel, by decide +kernel⟩
set_option maxHeartbeats 4000000 in
theorem ok_m_law_due (B : Bt mg) {fa : Addr} {fd : FuncData} (Fn : Fun K "_law_due" "_law_due" st_m_law_due fa fd) : FnOk P w K mg base CX0 1 fa fd ["_law_locks", "_law_places"] (spN (Pt.cons .sh (rLst rInt) inferInstance (Pt.cons .sh (rLst rInt) inferInstance Pt.nil)) (fun (a : ((List Int) × (List Int) × Unit)) => pre_m_law_due a.1 a.2.1) (fun (a : ((List Int) × (List Int) × Unit)) => m_law_due a.1 a.2.1) rTx) := by
  refine ok_N 4 Fn sc_m_law_due rfl rfl (fun cdv A outer s0 H E0_ hr => ⟨_, (pss_cons (ps_set (i := 2) sc_m_law_due.nd rfl (.inl rfl) (pe_lst pa_nil)) (pss_cons (ps_set (i := 3) sc_m_law_due.nd rfl (.inl rfl) pe_int) (pss_cons (ps_for PassesOwn.never rfl (pi_list (pv 0)) (pg_name (i := 4) sc_m_law_due.nd rfl (.inl rfl)) (pss_cons (ps_expr (pe_bm PySem.F.plainAttrs_list PySem.F.slot_list_append PySem.F.type_list_append mt_append (pv 2) (pa_cons (pe_op op_add_str pe_str (pe_callTy call_str_int (by rfl) B.z_str (by decide +kernel) (pa_cons (pv 4) pa_nil))) pa_nil))) (pss_cons (ps_set (i := 3) sc_m_law_due.nd rfl (.inl rfl) (pe_op op_add (pv 3) pe_int)) (pss_one (ps_for PassesOwn.never rfl (pi_range1 (by rfl) B.z_range (pa_cons (pe_callB (kLen K) (by rfl) B.z_len PySem.boot_len (pa_cons (pv 0) pa_nil)) pa_nil)) (pg_name (i := 5) sc_m_law_due.nd rfl (.inl rfl)) (pss_one (ps_if (pt_cmpR op_eq (pe_ix (kIxL K) (pv 1) (pv 5) (fun _ _ => rfl)) (pv 3) (nomark _)) (pss_one (ps_expr (pe_bm PySem.F.plainAttrs_list PySem.F.slot_list_append PySem.F.type_list_append mt_append (pv 2) (pa_cons (pe_op op_add_str pe_str (pe_callTy call_str_int (by rfl) B.z_str (by decide +kernel) (pa_cons (pe_ix (kIxL K) (pv 0) (pv 5) (fun _ _ => rfl)) pa_nil))) pa_nil)))) pss_nil))))))) (pss_one (ps_ret (pv 2)))))), fun F a nx rt bk ct_ hp hq hnx => ?_⟩)
  obtain ⟨v_law_locks, v_law_places, ⟨⟩⟩ := a
  have hp : pre_m_law_due v_law_locks v_law_places := hp
  unfold pre_m_law_due at hp
  refine gk_cast (G' := [(sF (rLst rInt) v_law_locks), (sF (rLst rInt) v_law_places), .no, .no, .no, .no]) rfl ?_
  refine gk_lnF 0 rfl (fun hl1 => ?_)
  refine gk_lnF 1 rfl (fun hl2 => ?_)
  refine gk_seq (gk_asgN (i := 2) (en_lst (r := rTx) el_nil (by decide)) (fun v_law_steps1 h_v_law_steps1 => ?_))
  replace h_v_law_steps1 : v_law_steps1 = ([] : (List (List Nat))) := h_v_law_steps1
  refine gk_lnO 2 rfl (fun hl3 => ?_)
  refine gk_seq (gk_asg (i := 3) (ed_int (m := .sh)) (fun v_law_many1 h_v_law_many1 => ?_))
  replace h_v_law_many1 : v_law_many1 = (0 : Int) := h_v_law_many1
  refine gk_seq (gk_fold (S := ((List (List Nat)) × Int)) (m_law_due_s1 v_law_locks v_law_places) (fun rest s => s.1.length + 7 * rest.length ≤ 42) (fun s G => ((((G.set 4 .no).set 5 .no).set 2 (sL rTx s.1)).set 3 (sF rInt s.2))) (v_law_steps1, v_law_many1) (ei_list (ed_v (i := 0) rfl)) eg_name (by walk_at "lw") (by walk_at "ob") (fun F1 b1 v_law_item1 rest1 s_1 hx1 hi1 => ?_) (fun s_4 hs2 hs2I => ?_))
  · obtain ⟨v_law_steps2, v_law_many2⟩ := s_1
    have hx1 : v_law_item1 ∈ v_law_locks := hx1
    refine gk_lnO 2 rfl (fun hl4 => ?_)
    refine gk_seq (gk_appv (i := 2) rfl (ed_cat (m := .sh) (ed_tx (m := .sh) (a := [43]) (by decide +kernel) (by decide)) (ed_strI (m := .sh) (ed_v (i := 4) rfl) (by exact (hp.2.2 _ hx1).1) (by exact (hp.2.2 _ hx1).2)) (by walk_at "ob" /- 3 -/)) (by walk_at "ob" /- 4 -/) (fun v_law_steps3 h_v_law_steps3 => ?_))
    refine gk_seq (gk_asg (i := 3) (ed_add (m := .sh) (ed_v (i := 3) rfl) (ed_int (m := .sh))) (fun v_law_many3 h_v_law_many3 => ?_))
    replace h_v_law_many3 : v_law_many3 = (v_law_many2 + (1 : Int)) := h_v_law_many3
    refine (gk_fold (S := (List (List Nat))) (m_law_due_s2 v_law_locks v_law_places v_law_many3) (fun rest s => s.length + 1 * rest.length ≤ 1000000) (fun s G => ((G.set 5 .no).set 2 (sL rTx s))) v_law_steps3 (ei_rng1 (ed_lenL (m := .sh) (ed_v (i := 0) rfl)) (by walk_at "ob" /- 5 -/) (by walk_at "ob" /- 6 -/)) eg_name (by walk_at "lw") (by walk_at "ob") (fun F2 b2 v_law_k1 rest2 v_law_steps4 hx2 hi2 => ?_) (fun s_3 hs1 hs1I => ?_))
    · have hx2 : v_law_k1 ∈ (rng (v_law_locks.length : Int)) := hx2
      have hx2m := mem_rng hx2
      refine gk_lnO 2 rfl (fun hl5 => ?_)
      refine (gk_if (et_T (ed_eq (m := .sh) (ed_ixL (ed_v (i := 1) rfl) (ed_v (i := 5) rfl) (by walk_at "ob" /- 7 -/)) (ed_v (i := 3) rfl))) (fun h_t1 => ?_) (fun h_t1 => ?_))
      · refine (gk_appv (i := 2) rfl (ed_cat (m := .sh) (ed_tx (m := .sh) (a := [45]) (by decide +kernel) (by decide)) (ed_strI (m := .sh) (ed_ixL (ed_v (i := 0) rfl) (ed_v (i := 5) rfl) (by walk_at "ob" /- 8 -/)) (by exact (ixb hp.2.2 ⟨by omega, by omega⟩).1) (by exact (ixb hp.2.2 ⟨by omega, by omega⟩).2)) (by walk_at "ob" /- 11 -/)) (by walk_at "ob" /- 12 -/) (fun v_law_steps5 h_v_law_steps5 => ?_))
        exact gk_turn (s' := v_law_steps5) (by walk_at "lw") (by subst_vars; exact (ct h_t1 rfl)) (by walk_at "ob")
      · refine gk_next ?_
        exact gk_turn (s' := v_law_steps4) (by walk_at "lw") (by subst_vars; exact (cf h_t1 rfl)) (by walk_at "ob")
    · refine gk_lnO 2 rfl (fun hl6 => ?_)
      exact gk_turnL (s' := (s_3, v_law_many3)) (by walk_at "lw") (by subst_vars; exact rfl) (due1_inv _ _ _ _ _ hp.1 hi1)
  · refine gk_lnO 2 rfl (fun hl7 => ?_)
    exact gk_retO (i := 2) hq rfl (by subst_vars; exact ((rfl).symm.trans rfl))
abbrev st_m_law : Stmt := top 8
theorem sc_m_law : FnScope ["_law_script", "_law_plan", "_law_locks", "_law_numbers_here", "_law_places", "_law_k", "_law_given", "_law_told"] ["_law_script"] (defScope st_m_law) := ⟨rfl, rfl, rfl, by decide +kernel, rfl, by decide +kernel, by decide +kernel⟩
set_option maxHeartbeats 4000000 in
theorem ok_m_law (B : Bt mg) {fa : Addr} {fd : FuncData} (Fn : Fun K "law" "law" st_m_law fa fd) {a__law_numbers : Addr} {d__law_numbers : FuncData} (C__law_numbers : Cal K mg "_law_numbers" a__law_numbers d__law_numbers ["_law_cell_here", "_law_many", "_law_limit"]) (G__law_numbers : FnOk P w K mg base CX0 1 a__law_numbers d__law_numbers ["_law_cell_here", "_law_many", "_law_limit"] (spN (Pt.cons .sh rInt inferInstance (Pt.cons .sh rInt inferInstance (Pt.cons .sh rInt inferInstance Pt.nil))) (fun (a : (Int × Int × Int × Unit)) => pre_m_law_numbers a.1 a.2.1 a.2.2.1) (fun (a : (Int × Int × Int × Unit)) => m_law_numbers a.1 a.2.1 a.2.2.1) rInt)) {a__law_cell : Addr} {d__law_cell : FuncData} (C__law_cell : Cal K mg "_law_cell" a__law_cell d__law_cell ["_law_script", "_law_k"]) (G__law_cell : FnOk P w K mg base CX0 1 a__law_cell d__law_cell ["_law_script", "_law_k"] (spV (Pt.cons .bo (rScr K) inferInstance (Pt.cons .sh rInt inferInstance Pt.nil)) (fun (a : ((List Int) × Int × Unit)) => pre_m_law_cell a.1 a.2.1) (fun (a : ((List Int) × Int × Unit)) => m_law_cell a.1 a.2.1) rInt)) {a__law_shuffled : Addr} {d__law_shuffled : FuncData} (C__law_shuffled : Cal K mg "_law_shuffled" a__law_shuffled d__law_shuffled ["_law_row", "_law_numbers_here"]) (G__law_shuffled : FnOk P w K mg base CX0 1 a__law_shuffled d__law_shuffled ["_law_row", "_law_numbers_here"] (spN (Pt.cons .sh (rLst rInt) inferInstance (Pt.cons .sh (rLst rInt) inferInstance Pt.nil)) (fun (a : ((List Int) × (List Int) × Unit)) => pre_m_law_shuffled a.1 a.2.1) (fun (a : ((List Int) × (List Int) × Unit)) => m_law_shuffled a.1 a.2.1) rInt)) {a_with_releases : Addr} {d_with_releases : FuncData} (C_with_releases : Cal K mg "with_releases" a_with_releases d_with_releases ["locks", "places"]) (G_with_releases : FnOk P w K mg base CX0 1 a_with_releases d_with_releases ["locks", "places"] (spN (Pt.cons .sh (rLst rInt) inferInstance (Pt.cons .sh (rTup rInt) inferInstance Pt.nil)) (fun (a : ((List Int) × (List Int) × Unit)) => pre_m_with_releases a.1 a.2.1) (fun (a : ((List Int) × (List Int) × Unit)) => m_with_releases a.1 a.2.1) rTx)) {a__law_same : Addr} {d__law_same : FuncData} (C__law_same : Cal K mg "_law_same" a__law_same d__law_same ["_law_actual", "_law_due_here"]) (G__law_same : FnOk P w K mg base CX0 5 a__law_same d__law_same ["_law_actual", "_law_due_here"] (spSame 4)) {a__law_due : Addr} {d__law_due : FuncData} (C__law_due : Cal K mg "_law_due" a__law_due d__law_due ["_law_locks", "_law_places"]) (G__law_due : FnOk P w K mg base CX0 1 a__law_due d__law_due ["_law_locks", "_law_places"] (spN (Pt.cons .sh (rLst rInt) inferInstance (Pt.cons .sh (rLst rInt) inferInstance Pt.nil)) (fun (a : ((List Int) × (List Int) × Unit)) => pre_m_law_due a.1 a.2.1) (fun (a : ((List Int) × (List Int) × Unit)) => m_law_due a.1 a.2.1) rTx)) : FnOk P w K mg base CX0 6 fa fd ["_law_script"] (spV (Pt.cons .bo (rScr K) inferInstance Pt.nil) (fun (a : ((List Int) × Unit)) => pre_m_law a.1) (fun (a : ((List Int) × Unit)) => m_law a.1) rBl) := by
  refine ok_V 7 Fn sc_m_law rfl rfl (fun cdv A outer s0 H E0_ hr => ⟨_, (pss_cons (ps_set (i := 1) sc_m_law.nd rfl (.inl rfl) (w_call C__law_numbers G__law_numbers (hr.mono (by decide)) (pa_cons (w_call C__law_cell G__law_cell (hr.mono (by decide)) (pa_cons (pv 0) (pa_cons pe_int pa_nil))) (pa_cons pe_int (pa_cons pe_int pa_nil))))) (pss_cons (ps_set (i := 2) sc_m_law.nd rfl (.inl rfl) (pe_slice (kSlL K) (w_call C__law_shuffled G__law_shuffled (hr.mono (by decide)) (pa_cons (pe_listRg (by rfl) (by rfl) B.z_list (prg_1 (by rfl) B.z_range pe_int)) (pa_cons (w_call C__law_numbers G__law_numbers (hr.mono (by decide)) (pa_cons (w_call C__law_cell G__law_cell (hr.mono (by decide)) (pa_cons (pv 0) (pa_cons pe_int pa_nil))) (pa_cons pe_int (pa_cons pe_int pa_nil)))) pa_nil))) po_none (po_some (pe_ix (kIxL K) (pv 1) pe_int (fun _ _ => rfl))))) (pss_cons (ps_set (i := 3) sc_m_law.nd rfl (.inl rfl) (w_call C__law_numbers G__law_numbers (hr.mono (by decide)) (pa_cons (w_call C__law_cell G__law_cell (hr.mono (by decide)) (pa_cons (pv 0) (pa_cons pe_int pa_nil))) (pa_cons pe_int (pa_cons pe_int pa_nil))))) (pss_cons (ps_set (i := 4) sc_m_law.nd rfl (.inl rfl) (pe_lst pa_nil)) (pss_cons (ps_for PassesOwn.never rfl (pi_range1 (by rfl) B.z_range (pa_cons (pe_callB (kLen K) (by rfl) B.z_len PySem.boot_len (pa_cons (pv 2) pa_nil)) pa_nil)) (pg_name (i := 5) sc_m_law.nd rfl (.inl rfl)) (pss_one (ps_expr (pe_bm PySem.F.plainAttrs_list PySem.F.slot_list_append PySem.F.type_list_append mt_append (pv 4) (pa_cons (pe_op op_add (pe_op op_add (pv 5) pe_int) (pe_op op_mod (pe_ix (kIxL K) (pv 3) (pv 5) (fun _ _ => rfl)) (pe_op op_sub (pe_callB (kLen K) (by rfl) B.z_len PySem.boot_len (pa_cons (pv 2) pa_nil)) (pv 5)))) pa_nil))))) (pss_cons (ps_set (i := 6) sc_m_law.nd rfl (.inl rfl) (pe_callTy (kList K) (by rfl) B.z_list (by decide +kernel) (pa_cons (pv 2) pa_nil))) (pss_cons (ps_set (i := 7) sc_m_law.nd rfl (.inl rfl) (w_call C_with_releases G_with_releases (hr.mono (by decide)) (pa_cons (pv 6) (pa_cons (pe_callTy (kTuple K) (by rfl) B.z_tuple (by decide +kernel) (pa_cons (pv 4) pa_nil)) pa_nil)))) (pss_cons (ps_if (PW.pt (pw_or (pt_cmpR (kNeD K hr.units) (pv 6) (pv 2) (nomark _)) (pw_or1 (pt_not (pt_val (w_call C__law_same G__law_same (hr.mono (by decide)) (pa_cons (pv 7) (pa_cons (w_call C__law_due G__law_due (hr.mono (by decide)) (pa_cons (pv 2) (pa_cons (pv 4) pa_nil))) pa_nil)))))))) (pss_one (ps_ret pe_bl)) pss_nil) (pss_cons (ps_expr (pe_bm0 PySem.F.plainAttrs_list PySem.F.slot_list_clear PySem.F.type_list_clear mt_clear (pv 7))) (pss_one (ps_ret (w_call C__law_same G__law_same (hr.mono (by decide)) (pa_cons (w_call C_with_releases G_with_releases (hr.mono (by decide)) (pa_cons (pv 6) (pa_cons (pe_callTy (kTuple K) (by rfl) B.z_tuple (by decide +kernel) (pa_cons (pv 4) pa_nil)) pa_nil))) (pa_cons (w_call C__law_due G__law_due (hr.mono (by decide)) (pa_cons (pv 2) (pa_cons (pv 4) pa_nil))) pa_nil)))))))))))))), fun F a nx rt bk ct_ hp hq hnx => ?_⟩)
  obtain ⟨v_law_script, ⟨⟩⟩ := a
  have hp : pre_m_law v_law_script := hp
  unfold pre_m_law at hp
  refine gk_cast (G' := [(sB (rScr K) v_law_script), .no, .no, .no, .no, .no, .no, .no]) rfl ?_
  refine gk_seq (gk_asg (i := 1) (En.ed (en_call (ea_cons (ed_call (ea_cons (Ed.bo (ed_b (i := 0) rfl)) (ea_cons (ed_int (m := .sh)) ea_nil)) (Pt.now _) (by show pre_m_law_cell v_law_script (0 : Int); unfold pre_m_law_cell; walk_at "ob" /- 1 -/)) (ea_cons (ed_int (m := .sh)) (ea_cons (ed_int (m := .sh)) ea_nil))) (Pt.now _) (by show pre_m_law_numbers (m_law_cell v_law_script (0 : Int)) (1 : Int) (7 : Int); unfold pre_m_law_numbers; walk_at "ob" /- 2 -/))) (fun v_law_plan1 h_v_law_plan1 => ?_))
  replace h_v_law_plan1 : v_law_plan1 = (m_law_numbers (m_law_cell v_law_script (0 : Int)) (1 : Int) (7 : Int)) := h_v_law_plan1
  refine gk_lnF 1 rfl (fun hl1 => ?_)
  have hp0_v_law_plan1 : v_law_plan1.length = ((1 : Int) : Int).toNat := by rw [h_v_law_plan1]; exact numbers_len _ _ _
  have hp1_v_law_plan1 : ∀ y ∈ v_law_plan1, 0 ≤ y ∧ y < (7 : Int) := by rw [h_v_law_plan1]; exact fun y hy => numbers_mem (by omega) hy
  have p0 := ixb hp1_v_law_plan1 (j := 0) ⟨by omega, by omega⟩
  refine gk_seq (gk_asg (i := 2) (En.ed (en_slL (En.ed (en_call (ea_cons (En.ed (en_rng (ed_int (m := .sh)) (by walk_at "ob" /- 4 -/) (by walk_at "ob" /- 5 -/))) (ea_cons (En.ed (en_call (ea_cons (ed_call (ea_cons (Ed.bo (ed_b (i := 0) rfl)) (ea_cons (ed_int (m := .sh)) ea_nil)) (Pt.now _) (by show pre_m_law_cell v_law_script (1 : Int); unfold pre_m_law_cell; walk_at "ob" /- 6 -/)) (ea_cons (ed_int (m := .sh)) (ea_cons (ed_int (m := .sh)) ea_nil))) (Pt.now _) (by show pre_m_law_numbers (m_law_cell v_law_script (1 : Int)) (6 : Int) (60 : Int); unfold pre_m_law_numbers; walk_at "ob" /- 7 -/))) ea_nil)) (Pt.now _) (by show pre_m_law_shuffled (rng (6 : Int)) (m_law_numbers (m_law_cell v_law_script (1 : Int)) (6 : Int) (60 : Int)); unfold pre_m_law_shuffled; walk_at "ob" /- 8 -/))) eo_none (eo_some (ed_ixL (ed_v (i := 1) rfl) (ed_int (m := .sh)) (by walk_at "ob" /- 9 -/))))) (fun v_law_locks1 h_v_law_locks1 => ?_))
  replace h_v_law_locks1 : v_law_locks1 = (cutL (m_law_shuffled (rng (6 : Int)) (m_law_numbers (m_law_cell v_law_script (1 : Int)) (6 : Int) (60 : Int))) none (some (ixD v_law_plan1 (0 : Int)))) := h_v_law_locks1
  refine gk_lnF 2 rfl (fun hl2 => ?_)
  have l6 : v_law_locks1.length ≤ 6 := by rw [h_v_law_locks1]; refine Nat.le_trans (cutL_le _ _ _) ?_; rw [shuffled_len, rng_len]; decide
  have lm : ∀ x ∈ v_law_locks1, 0 ≤ x ∧ x < 10 := fun x hx => by rw [h_v_law_locks1] at hx; have h := mem_rng (shuffled_mem _ _ _ (cutL_mem hx)); omega
  refine gk_seq (gk_asg (i := 3) (En.ed (en_call (ea_cons (ed_call (ea_cons (Ed.bo (ed_b (i := 0) rfl)) (ea_cons (ed_int (m := .sh)) ea_nil)) (Pt.now _) (by show pre_m_law_cell v_law_script (2 : Int); unfold pre_m_law_cell; walk_at "ob" /- 10 -/)) (ea_cons (ed_int (m := .sh)) (ea_cons (ed_int (m := .sh)) ea_nil))) (Pt.now _) (by show pre_m_law_numbers (m_law_cell v_law_script (2 : Int)) (6 : Int) (60 : Int); unfold pre_m_law_numbers; walk_at "ob" /- 11 -/))) (fun v_law_numbers_here1 h_v_law_numbers_here1 => ?_))
  replace h_v_law_numbers_here1 : v_law_numbers_here1 = (m_law_numbers (m_law_cell v_law_script (2 : Int)) (6 : Int) (60 : Int)) := h_v_law_numbers_here1
  refine gk_lnF 3 rfl (fun hl3 => ?_)
  have hp0_v_law_numbers_here1 : v_law_numbers_here1.length = ((6 : Int) : Int).toNat := by rw [h_v_law_numbers_here1]; exact numbers_len _ _ _
  have hp1_v_law_numbers_here1 : ∀ y ∈ v_law_numbers_here1, 0 ≤ y ∧ y < (60 : Int) := by rw [h_v_law_numbers_here1]; exact fun y hy => numbers_mem (by omega) hy
  refine gk_seq (gk_asgN (i := 4) (en_lst (r := rInt) el_nil (by decide)) (fun v_law_places1 h_v_law_places1 => ?_))
  replace h_v_law_places1 : v_law_places1 = ([] : (List Int)) := h_v_law_places1
  refine gk_lnO 4 rfl (fun hl4 => ?_)
  refine gk_seq (gk_fold (S := (List Int)) (m_law_s1 v_law_locks1 v_law_numbers_here1) (fun rest s => s.length + rest.length = v_law_locks1.length) (fun s G => ((G.set 5 .no).set 4 (sL rInt s))) v_law_places1 (ei_rng1 (ed_lenL (m := .sh) (ed_v (i := 2) rfl)) (by walk_at "ob" /- 13 -/) (by walk_at "ob" /- 14 -/)) eg_name (by walk_at "lw") (by walk_at "ob") (fun F1 b1 v_law_k1 rest1 v_law_places2 hx1 hi1 => ?_) (fun s_2 hs1 hs1I => ?_))
  · have hx1 : v_law_k1 ∈ (rng (v_law_locks1.length : Int)) := hx1
    have hx1m := mem_rng hx1
    refine gk_lnO 4 rfl (fun hl5 => ?_)
    refine (gk_appv (i := 4) rfl (ed_add (m := .sh) (ed_add (m := .sh) (ed_v (i := 5) rfl) (ed_int (m := .sh))) (ed_mod (m := .sh) (ed_ixL (ed_v (i := 3) rfl) (ed_v (i := 5) rfl) (by walk_at "ob" /- 15 -/)) (ed_sub (m := .sh) (ed_lenL (m := .sh) (ed_v (i := 2) rfl)) (ed_v (i := 5) rfl)) (by walk_at "ob" /- 16 -/))) (by walk_at "ob" /- 17 -/) (fun v_law_places3 h_v_law_places3 => ?_))
    exact gk_turn (s' := v_law_places3) (by walk_at "lw") (by subst_vars; exact rfl) (by walk_at "ob")
  · refine gk_lnO 4 rfl (fun hl6 => ?_)
    refine gk_freeze 4 rfl ?_
    refine gk_seq (gk_asg (i := 6) (En.ed (en_list (ed_v (i := 2) rfl))) (fun v_law_given1 h_v_law_given1 => ?_))
    replace h_v_law_given1 : v_law_given1 = v_law_locks1 := h_v_law_given1
    refine gk_lnF 6 rfl (fun hl7 => ?_)
    refine gk_seq (gk_asgN (i := 7) (en_call (ea_cons (ed_v (i := 6) rfl) (ea_cons (ed_tupL (ed_v (i := 4) rfl)) ea_nil)) (Pt.now _) (by show pre_m_with_releases v_law_given1 s_2; unfold pre_m_with_releases; rw [h_v_law_given1]; exact ⟨l6, hs1I, lm⟩)) (fun v_law_told1 h_v_law_told1 => ?_))
    replace h_v_law_told1 : v_law_told1 = (m_with_releases v_law_given1 s_2) := h_v_law_told1
    refine gk_lnO 7 rfl (fun hl8 => ?_)
    refine gk_seq (gk_if (et_or (et_T (ed_neQ (m := .sh) (ed_v (i := 6) rfl) (ed_v (i := 2) rfl))) (fun hb1 => (et_not (et_B (ed_same (ed_o (i := 7) rfl) (En.ed (en_call (ea_cons (ed_v (i := 2) rfl) (ea_cons (ed_v (i := 4) rfl) ea_nil)) (Pt.now _) (by show pre_m_law_due v_law_locks1 s_2; unfold pre_m_law_due; exact ⟨l6, hs1I, lm⟩)))))))) (fun h_t1 => ?_) (fun h_t1 => ?_))
    · exact gk_ret hq (ed_bl (m := .sh)) (by subst_vars; exact (((ct h_t1 rfl)).symm.trans rfl))
    · refine gk_next ?_
      refine gk_seq (gk_clearv (i := 7) rfl (fun v_law_told2 h_v_law_told2 => ?_))
      exact gk_ret hq (ed_same (En.ed (en_call (ea_cons (ed_v (i := 6) rfl) (ea_cons (ed_tupL (ed_v (i := 4) rfl)) ea_nil)) (Pt.now _) (by show pre_m_with_releases v_law_given1 s_2; unfold pre_m_with_releases; rw [h_v_law_given1]; exact ⟨l6, hs1I, lm⟩))) (En.ed (en_call (ea_cons (ed_v (i := 2) rfl) (ea_cons (ed_v (i := 4) rfl) ea_nil)) (Pt.now _) (by show pre_m_law_due v_law_locks1 s_2; unfold pre_m_law_due; exact ⟨l6, hs1I, lm⟩)))) (by subst_vars; exact (((cf h_t1 rfl)).symm.trans rfl))
end
end Zk27
namespace Zk27
open PySem L2 LK PyProof.Rows PySem.Spec
def spLaw (K : PySem.W.Frag) : Sp := fun vs H Q _ => ∃ (a : Addr) (ns : List Int), vs = [.ref a] ∧ SqL K H a (ns.map V.int) ∧ ns.length ≤ 63 ∧ ∀ H', Q (.bl true) H'
theorem law_imp {K : PySem.W.Frag} (ht : ∀ ns : List Int, ns.length ≤ 63 → m_law ns = true) : ∀ vs H Q E, spLaw K vs H Q E → (spV (Pt.cons .bo (rScr K) inferInstance Pt.nil) (fun (a : ((List Int) × Unit)) => pre_m_law a.1) (fun (a : ((List Int) × Unit)) => m_law a.1) rBl) vs H Q E := by
  rintro vs H Q E ⟨a, ns, rfl, hS, hl, q⟩
  refine ⟨H, (ns, ()), Ex.refl H, ⟨_, [], rfl, ⟨a, rfl, hS⟩, rfl⟩, hl, fun v F' H' g hv => ?_⟩
  have e : v = .bl (m_law ns) := hv
  rw [e, ht ns hl]; exact q H'
theorem all_mk {l : PySem.W.OpenLaw} {w : World} {K : PySem.W.Frag} {h : Heap} {mg : Str → Option Value} {fa f0 f1 f2 f3 f4 f5 f6 : Addr} (ht : ∀ ns : List Int, ns.length ≤ 63 → m_law ns = true) (X : K.In h) (G : h.Ns mainGlobals mg) (hfa : mg "law" = some (.ref fa))
    {od0 an0 od1 an1 od2 an2 od3 an3 od4 an4 od5 an5 od6 an6 : Option Addr} {sl0 sl1 sl2 sl3 sl4 sl5 sl6 : Array (Option Value)} {oc0 kV0 dc0 pm0 cd0 ct0 oc1 kV1 dc1 pm1 cd1 ct1 oc2 kV2 dc2 pm2 cd2 ct2 oc3 kV3 dc3 pm3 cd3 ct3 oc4 kV4 dc4 pm4 cd4 ct4 oc5 kV5 dc5 pm5 cd5 ct5 oc6 kV6 dc6 pm6 cd6 ct6 : Value}
    (a0 : PySem.W.nsIn K mainGlobals "with_releases" = some (some (.ref f0))) (l0 : K.lookup f0 = some ⟨oc0, od0, .func (PySem.W.fnOf "with_releases" "with_releases" (defArgs st_m_with_releases) (defBody st_m_with_releases) (defScope st_m_with_releases) .none kV0 dc0 pm0 an0 cd0 ct0), sl0⟩) (c0 : PySem.W.codeIn K cd0 "with_releases" = true) (k0 : PySem.W.keepIn K (.ref f0) = true)
    (a1 : PySem.W.nsIn K mainGlobals "_law_cell" = some (some (.ref f1))) (l1 : K.lookup f1 = some ⟨oc1, od1, .func (PySem.W.fnOf "_law_cell" "_law_cell" (defArgs st_m_law_cell) (defBody st_m_law_cell) (defScope st_m_law_cell) .none kV1 dc1 pm1 an1 cd1 ct1), sl1⟩) (c1 : PySem.W.codeIn K cd1 "_law_cell" = true) (k1 : PySem.W.keepIn K (.ref f1) = true)
    (a2 : PySem.W.nsIn K mainGlobals "_law_numbers" = some (some (.ref f2))) (l2 : K.lookup f2 = some ⟨oc2, od2, .func (PySem.W.fnOf "_law_numbers" "_law_numbers" (defArgs st_m_law_numbers) (defBody st_m_law_numbers) (defScope st_m_law_numbers) .none kV2 dc2 pm2 an2 cd2 ct2), sl2⟩) (c2 : PySem.W.codeIn K cd2 "_law_numbers" = true) (k2 : PySem.W.keepIn K (.ref f2) = true)
    (a3 : PySem.W.nsIn K mainGlobals "_law_same" = some (some (.ref f3))) (l3 : K.lookup f3 = some ⟨oc3, od3, .func (PySem.W.fnOf "_law_same" "_law_same" (defArgs st_same) (defBody st_same) (defScope st_same) .none kV3 dc3 pm3 an3 cd3 ct3), sl3⟩) (c3 : PySem.W.codeIn K cd3 "_law_same" = true) (k3 : PySem.W.keepIn K (.ref f3) = true)
    (a4 : PySem.W.nsIn K mainGlobals "_law_shuffled" = some (some (.ref f4))) (l4 : K.lookup f4 = some ⟨oc4, od4, .func (PySem.W.fnOf "_law_shuffled" "_law_shuffled" (defArgs st_m_law_shuffled) (defBody st_m_law_shuffled) (defScope st_m_law_shuffled) .none kV4 dc4 pm4 an4 cd4 ct4), sl4⟩) (c4 : PySem.W.codeIn K cd4 "_law_shuffled" = true) (k4 : PySem.W.keepIn K (.ref f4) = true)
    (a5 : PySem.W.nsIn K mainGlobals "_law_due" = some (some (.ref f5))) (l5 : K.lookup f5 = some ⟨oc5, od5, .func (PySem.W.fnOf "_law_due" "_law_due" (defArgs st_m_law_due) (defBody st_m_law_due) (defScope st_m_law_due) .none kV5 dc5 pm5 an5 cd5 ct5), sl5⟩) (c5 : PySem.W.codeIn K cd5 "_law_due" = true) (k5 : PySem.W.keepIn K (.ref f5) = true)
    (a6 : PySem.W.nsIn K mainGlobals "law" = some (some (.ref f6))) (l6 : K.lookup f6 = some ⟨oc6, od6, .func (PySem.W.fnOf "law" "law" (defArgs st_m_law) (defBody st_m_law) (defScope st_m_law) .none kV6 dc6 pm6 an6 cd6 ct6), sl6⟩) (c6 : PySem.W.codeIn K cd6 "law" = true) (k6 : PySem.W.keepIn K (.ref f6) = true)
    (z_range : PySem.W.nsIn K mainGlobals "range" = some none) (z_len : PySem.W.nsIn K mainGlobals "len" = some none) (z_str : PySem.W.nsIn K mainGlobals "str" = some none) (z_int : PySem.W.nsIn K mainGlobals "int" = some none) (z_isinstance : PySem.W.nsIn K mainGlobals "isinstance" = some none) (z_bool : PySem.W.nsIn K mainGlobals "bool" = some none) (z_list : PySem.W.nsIn K mainGlobals "list" = some none) (z_tuple : PySem.W.nsIn K mainGlobals "tuple" = some none) :
    ∃ fd : FuncData, (∀ (s : Shared) (v : Value), BindsTo s fd ⟨[v], []⟩ [("_law_script", v)]) ∧ ∀ base : Heap, K.In base → base.Ns mainGlobals mg → FnOk l.prog w K mg base CX0 6 fa fd ["_law_script"] (spLaw K) := by
  have e := hfa.symm.trans (PySem.W.mg_of X G a6)
  cases e
  have B : Bt mg := ⟨PySem.W.mg_none_of X G z_range, PySem.W.mg_none_of X G z_len, PySem.W.mg_none_of X G z_str, PySem.W.mg_none_of X G z_int, PySem.W.mg_none_of X G z_isinstance, PySem.W.mg_none_of X G z_bool, PySem.W.mg_none_of X G z_list, PySem.W.mg_none_of X G z_tuple⟩
  have F0 := fun_mk (st := st_m_with_releases) l0 c0 k0
  have b0 := F0.binds (ps := ["locks", "places"]) fun _ _ _ _ _ _ us hl => match us, hl with | [_, _], _ => rfl
  have C0 : Cal K mg "with_releases" f0 _ ["locks", "places"] := ⟨PySem.W.mg_of X G a0, k0, b0⟩
  have F1 := fun_mk (st := st_m_law_cell) l1 c1 k1
  have b1 := F1.binds (ps := ["_law_script", "_law_k"]) fun _ _ _ _ _ _ us hl => match us, hl with | [_, _], _ => rfl
  have C1 : Cal K mg "_law_cell" f1 _ ["_law_script", "_law_k"] := ⟨PySem.W.mg_of X G a1, k1, b1⟩
  have F2 := fun_mk (st := st_m_law_numbers) l2 c2 k2
  have b2 := F2.binds (ps := ["_law_cell_here", "_law_many", "_law_limit"]) fun _ _ _ _ _ _ us hl => match us, hl with | [_, _, _], _ => rfl
  have C2 : Cal K mg "_law_numbers" f2 _ ["_law_cell_here", "_law_many", "_law_limit"] := ⟨PySem.W.mg_of X G a2, k2, b2⟩
  have F3 := fun_mk (st := st_same) l3 c3 k3
  have b3 := F3.binds (ps := ["_law_actual", "_law_due_here"]) fun _ _ _ _ _ _ us hl => match us, hl with | [_, _], _ => rfl
  have C3 : Cal K mg "_law_same" f3 _ ["_law_actual", "_law_due_here"] := ⟨PySem.W.mg_of X G a3, k3, b3⟩
  have F4 := fun_mk (st := st_m_law_shuffled) l4 c4 k4
  have b4 := F4.binds (ps := ["_law_row", "_law_numbers_here"]) fun _ _ _ _ _ _ us hl => match us, hl with | [_, _], _ => rfl
  have C4 : Cal K mg "_law_shuffled" f4 _ ["_law_row", "_law_numbers_here"] := ⟨PySem.W.mg_of X G a4, k4, b4⟩
  have F5 := fun_mk (st := st_m_law_due) l5 c5 k5
  have b5 := F5.binds (ps := ["_law_locks", "_law_places"]) fun _ _ _ _ _ _ us hl => match us, hl with | [_, _], _ => rfl
  have C5 : Cal K mg "_law_due" f5 _ ["_law_locks", "_law_places"] := ⟨PySem.W.mg_of X G a5, k5, b5⟩
  have F6 := fun_mk (st := st_m_law) l6 c6 k6
  have b6 := F6.binds (ps := ["_law_script"]) fun _ _ _ _ _ _ us hl => match us, hl with | [_], _ => rfl
  refine ⟨PySem.W.fnOf "law" "law" (defArgs st_m_law) (defBody st_m_law) (defScope st_m_law) .none kV6 dc6 pm6 an6 cd6 ct6, fun s v => .of_eq rfl, fun base _ _ => ?_⟩
  have G0 : FnOk l.prog w K mg base CX0 1 f0 _ ["locks", "places"] (spN (Pt.cons .sh (rLst rInt) inferInstance (Pt.cons .sh (rTup rInt) inferInstance Pt.nil)) (fun (a : ((List Int) × (List Int) × Unit)) => pre_m_with_releases a.1 a.2.1) (fun (a : ((List Int) × (List Int) × Unit)) => m_with_releases a.1 a.2.1) rTx) := ok_m_with_releases B F0 
  have G1 : FnOk l.prog w K mg base CX0 1 f1 _ ["_law_script", "_law_k"] (spV (Pt.cons .bo (rScr K) inferInstance (Pt.cons .sh rInt inferInstance Pt.nil)) (fun (a : ((List Int) × Int × Unit)) => pre_m_law_cell a.1 a.2.1) (fun (a : ((List Int) × Int × Unit)) => m_law_cell a.1 a.2.1) rInt) := ok_m_law_cell B F1 
  have G2 : FnOk l.prog w K mg base CX0 1 f2 _ ["_law_cell_here", "_law_many", "_law_limit"] (spN (Pt.cons .sh rInt inferInstance (Pt.cons .sh rInt inferInstance (Pt.cons .sh rInt inferInstance Pt.nil))) (fun (a : (Int × Int × Int × Unit)) => pre_m_law_numbers a.1 a.2.1 a.2.2.1) (fun (a : (Int × Int × Int × Unit)) => m_law_numbers a.1 a.2.1 a.2.2.1) rInt) := ok_m_law_numbers B F2 
  have G3 : FnOk l.prog w K mg base CX0 5 f3 _ ["_law_actual", "_law_due_here"] (spSame 4) := ok_same B F3 C3 4
  have G4 : FnOk l.prog w K mg base CX0 1 f4 _ ["_law_row", "_law_numbers_here"] (spN (Pt.cons .sh (rLst rInt) inferInstance (Pt.cons .sh (rLst rInt) inferInstance Pt.nil)) (fun (a : ((List Int) × (List Int) × Unit)) => pre_m_law_shuffled a.1 a.2.1) (fun (a : ((List Int) × (List Int) × Unit)) => m_law_shuffled a.1 a.2.1) rInt) := ok_m_law_shuffled B F4 
  have G5 : FnOk l.prog w K mg base CX0 1 f5 _ ["_law_locks", "_law_places"] (spN (Pt.cons .sh (rLst rInt) inferInstance (Pt.cons .sh (rLst rInt) inferInstance Pt.nil)) (fun (a : ((List Int) × (List Int) × Unit)) => pre_m_law_due a.1 a.2.1) (fun (a : ((List Int) × (List Int) × Unit)) => m_law_due a.1 a.2.1) rTx) := ok_m_law_due B F5 
  exact FnOk.imp (ok_m_law B F6 C2 G2 C1 G1 C4 G4 C0 G0 C3 G3 C5 G5) (law_imp ht)
theorem walk {l : PySem.W.OpenLaw} {q : Program} {loose : List Str} {XP : (Str → Option Value) → Heap → Prop} {YP : World → Heap → Prop} {d : DefRec} {K : Params → PySem.W.Frag} (hn : l.most = some 63) (hdf : d.params.defaults = [])
    (hY : ∀ (w : World) (h : Heap), YP w h → (K w.params).In h)
    (F : ∀ (w : World) (mg : Str → Option Value) (fa : Addr) (h : Heap), (K w.params).In h → h.Ns mainGlobals mg → mg d.name = some (.ref fa) →
      ∃ fd : FuncData, (∀ (s : Shared) (u : Value), BindsTo s fd ⟨[u], []⟩ [("_law_script", u)]) ∧ ∀ base : Heap, (K w.params).In base → base.Ns mainGlobals mg → FnOk l.prog w (K w.params) mg base CX0 6 fa fd ["_law_script"] (spLaw (K w.params))) :
    PySem.W.WalkO q loose XP YP l.row.toRowW d [] (fun f vs => PySem.call f vs) :=
  L2.walk_of (n := 63) (k := 6) (x := "_law_script") (CX := fun _ => CX0) (sp := fun w => spLaw (K w.params)) hn (by decide) hdf ⟨rfl, by decide, by decide⟩ hY F (fun _ _ a ns hl _ hS => ⟨a, ns, rfl, hS, hl, fun _ => rfl⟩) fun _ _ _ _ _ z => z
end Zk27
open PySem PySem.W PyProof.Rows
set_option maxRecDepth 100000 in
set_option maxHeartbeats 0 in
theorem PySem.Challenge.cw_lockrules_k27_programs_of_released_locks_holds : PySem.Challenge.rw_lockrules_k27_programs_of_released_locks.Holds := by
  w_on; o_law; k_head; (case hw => w_witness2)
  k_fill
  refine Zk27.walk (l := PySem.Challenge.rw_lockrules_k27_programs_of_released_locks) rfl rfl (fun w h Y => PySem.W.kIn_of Y) ?F
  case F =>
    intro w mg fa h KX G hmg
    refine' Zk27.all_mk Zk27.law_true KX G hmg ?a0 ?l0 ?c0 ?k0 ?a1 ?l1 ?c1 ?k1 ?a2 ?l2 ?c2 ?k2 ?a3 ?l3 ?c3 ?k3 ?a4 ?l4 ?c4 ?k4 ?a5 ?l5 ?c5 ?k5 ?a6 ?l6 ?c6 ?k6 ?z0 ?z1 ?z2 ?z3 ?z4 ?z5 ?z6 ?z7
    (case a0 => k_is)
    (case l0 => k_is)
    (case c0 => k_is)
    (case k0 => k_is)
    (case a1 => k_is)
    (case l1 => k_is)
    (case c1 => k_is)
    (case k1 => k_is)
    (case a2 => k_is)
    (case l2 => k_is)
    (case c2 => k_is)
    (case k2 => k_is)
    (case a3 => k_is)
    (case l3 => k_is)
    (case c3 => k_is)
    (case k3 => k_is)
    (case a4 => k_is)
    (case l4 => k_is)
    (case c4 => k_is)
    (case k4 => k_is)
    (case a5 => k_is)
    (case l5 => k_is)
    (case c5 => k_is)
    (case k5 => k_is)
    (case a6 => k_is)
    (case l6 => k_is)
    (case c6 => k_is)
    (case k6 => k_is)
    (case z0 => k_is)
    (case z1 => k_is)
    (case z2 => k_is)
    (case z3 => k_is)
    (case z4 => k_is)
    (case z5 => k_is)
    (case z6 => k_is)
    (case z7 => k_is)
#print axioms PySem.Challenge.cw_lockrules_k27_programs_of_released_locks_holds
